import PyProof.Rows.All
import Wide.All
import OpenK.AllK
import Wide.FinOn
import Lean
import PySem.Challenge.RW_pq0171_01
open PySem PySem.W PyProof.Rows
set_option Elab.async false
set_option maxRecDepth 100000
set_option maxHeartbeats 8000000
local macro_rules | `(tactic| walk_at $s:str) => `(tactic| k_extra $s)

namespace Mine
set_option synthInstance.maxSize 1 in
open_top hd for PySem.Challenge.rw_pq0171_01

/-- what a call of the def at f gives back, at any frame: the value and the ledger behind it by Ret -/
def Con (w : World) (mean : ExcName → Option Value) (mg mb : Str → Option Value) (lv : Nat) (f : Addr) (vs : List Value) (news : List (Addr × Obj)) (Ret : Value → List (Addr × Obj) → Prop) : Prop :=
  ∀ (dp un : Nat) (gd : Option (List Code)) (cn : Str) (cs : Scope) (a : Addr) (ccd : Value) (cl : List (Str × Addr)) (outer : List Env) (A₀ : Around) (base h₀ : Heap) (L : Addr) (m : Str → Option Value) (s : Shared) (Q E : Value → Shared → Prop),
    Below A₀ base outer h₀ → Fr h₀ L s.heap m → (hd.heap_39 w.params).In h₀ → News h₀ L s.heap news → Top hd.view_39 (looseW hd.view_39 [Str.ofString "BasicError"]) mean mg mb h₀ → cs.kind = .function →
    dp + lv < recursionLimit → un + 8 * lv < cLine →
    (∀ (v : Value) (news' : List (Addr × Obj)) (h' : Heap) (tk' : Nat), Ret v news' → Fr h₀ L h' m → News h₀ L h' news' → Q v { s with heap := h', toks := tk' }) →
    wpAny (model PySem.Challenge.rw_pq0171_01.row.prog w) (ktrTop dp un gd cn cs L a ccd cl outer) (call (.ref f) vs) Q E s
def RetI (news : List (Addr × Obj)) (x : Int) (v : Value) (news' : List (Addr × Obj)) : Prop := (∃ t, v = .int x t) ∧ news' = news
end Mine

namespace Mine
abbrev tupO (x : Int) (t1 : Tok) (y : Int) (t2 : Tok) (c : Nat) : Obj := { cls := .type "tuple", data := .seq #[.int x t1, .int y t2] c }
def RetT (news : List (Addr × Obj)) (x y : Int) (v : Value) (news' : List (Addr × Obj)) : Prop := ∃ D t1 t2 c, v = .ref D ∧ news' = (D, tupO x t1 y t2 c) :: news ∧ AllLt D news
def RetS (news : List (Addr × Obj)) (x : Str) (v : Value) (news' : List (Addr × Obj)) : Prop := (∃ t, v = .str x t) ∧ news' = news
def RetB (news : List (Addr × Obj)) (x : Bool) (v : Value) (news' : List (Addr × Obj)) : Prop := v = .bool x ∧ news' = news
theorem Con.use {w : World} {mean : ExcName → Option Value} {mg mb : Str → Option Value} {lv : Nat} {f : Addr} {vs : List Value} {news : List (Addr × Obj)} {Ret : Value → List (Addr × Obj) → Prop}
    (C : Con w mean mg mb lv f vs news Ret)
    {dp un : Nat} {gd : Option (List Code)} {cn : Str} {cs : Scope} {a : Addr} {ccd : Value} {cl : List (Str × Addr)} {outer : List Env} {A₀ : Around} {base h₀ : Heap} {L : Addr} {m : Str → Option Value} {s : Shared} {Q E : Value → Shared → Prop}
    (B : Below A₀ base outer h₀) (F : Fr h₀ L s.heap m) (X : (hd.heap_39 w.params).In h₀) (N : News h₀ L s.heap news) (T : Top hd.view_39 (looseW hd.view_39 [Str.ofString "BasicError"]) mean mg mb h₀) (hk : cs.kind = .function)
    (h1 : dp + lv < recursionLimit) (h2 : un + 8 * lv < cLine)
    (ret : ∀ (v : Value) (news' : List (Addr × Obj)) (h' : Heap) (tk' : Nat), Ret v news' → Fr h₀ L h' m → News h₀ L h' news' → Q v { s with heap := h', toks := tk' }) :
    wpAny (model PySem.Challenge.rw_pq0171_01.row.prog w) (ktrTop dp un gd cn cs L a ccd cl outer) (call (.ref f) vs) Q E s := C _ _ _ _ _ _ _ _ _ _ _ _ _ _ _ _ _ B F X N T hk h1 h2 ret
theorem news_in {h₀ : Heap} {L : Addr} {h : Heap} {l : List (Addr × Obj)} {p : Addr × Obj} (N : News h₀ L h l) (hp : p ∈ l) : News h₀ L h (p :: l) := fun q hq => by
  rcases List.mem_cons.mp hq with rfl | hq
  · exact N _ hp
  · exact N _ hq
theorem news_sub {h₀ : Heap} {L : Addr} {h : Heap} {l l' : List (Addr × Obj)} (N : News h₀ L h l) (hs : ∀ p ∈ l', p ∈ l) : News h₀ L h l' := fun p hp => N p (hs p hp)
section
variable {h₀ h' : Heap} {L : Addr} {m : Str → Option Value} {news news2 : List (Addr × Obj)} {s : Shared} {Q : Value → Shared → Prop} {tk' : Nat} {t : Tok}
theorem end_I {x y : Int} (hret : ∀ (v : Value) (news' : List (Addr × Obj)) (h' : Heap) (tk' : Nat), RetI news x v news' → Fr h₀ L h' m → News h₀ L h' news' → Q v { s with heap := h', toks := tk' })
    (F : Fr h₀ L h' m) (N : News h₀ L h' news2) (hs : ∀ p ∈ news, p ∈ news2) (e : y = x) : Q (.int y t) { s with heap := h', toks := tk' } := hret _ _ _ _ ⟨⟨_, by rw [e]⟩, rfl⟩ F (news_sub N hs)
theorem end_S {x y : Str} (hret : ∀ (v : Value) (news' : List (Addr × Obj)) (h' : Heap) (tk' : Nat), RetS news x v news' → Fr h₀ L h' m → News h₀ L h' news' → Q v { s with heap := h', toks := tk' })
    (F : Fr h₀ L h' m) (N : News h₀ L h' news2) (hs : ∀ p ∈ news, p ∈ news2) (e : y = x) : Q (.str y t) { s with heap := h', toks := tk' } := hret _ _ _ _ ⟨⟨_, by rw [e]⟩, rfl⟩ F (news_sub N hs)
theorem end_B {x y : Bool} (hret : ∀ (v : Value) (news' : List (Addr × Obj)) (h' : Heap) (tk' : Nat), RetB news x v news' → Fr h₀ L h' m → News h₀ L h' news' → Q v { s with heap := h', toks := tk' })
    (F : Fr h₀ L h' m) (N : News h₀ L h' news2) (hs : ∀ p ∈ news, p ∈ news2) (e : y = x) : Q (.bool y) { s with heap := h', toks := tk' } := hret _ _ _ _ ⟨by rw [e], rfl⟩ F (news_sub N hs)
theorem end_T {x y x' y' : Int} {D : Addr} {t1 t2 : Tok} {c : Nat} (hret : ∀ (v : Value) (news' : List (Addr × Obj)) (h' : Heap) (tk' : Nat), RetT news x y v news' → Fr h₀ L h' m → News h₀ L h' news' → Q v { s with heap := h', toks := tk' })
    (F : Fr h₀ L h' m) (N : News h₀ L h' news2) (hm : (D, tupO x' t1 y' t2 c) ∈ news2) (hs : ∀ p ∈ news, p ∈ news2) (hl : AllLt D news) (e : x' = x ∧ y' = y) : Q (.ref D) { s with heap := h', toks := tk' } := by
  obtain ⟨rfl, rfl⟩ := e
  refine hret _ _ _ _ ⟨D, t1, t2, c, rfl, rfl, hl⟩ F (news_sub N fun p hp => ?_)
  rcases List.mem_cons.mp hp with rfl | hp
  · exact hm
  · exact hs p hp
end

/-- the figures of a plain number, as code points, the greatest first -/
def dg (n : Nat) : List Nat := if n < 10 then [48 + n] else dg (n / 10) ++ [48 + n % 10]
def figs (n : Int) : Int := ((dg n.toNat).length : Int)
theorem dg_lt {n : Nat} (h : n < 10) : dg n = [48 + n] := by rw [dg, if_pos h]
theorem dg_ge {n : Nat} (h : ¬ n < 10) : dg n = dg (n / 10) ++ [48 + n % 10] := by rw [dg, if_neg h]
theorem dg_pos (n : Nat) : 1 ≤ (dg n).length := by
  by_cases h : n < 10
  · simp [dg_lt h]
  · simp [dg_ge h]
theorem dg_bound (n : Nat) : n < 10 ^ (dg n).length ∧ ((dg n).length = 1 ∨ 10 ^ ((dg n).length - 1) ≤ n) := by
  induction n using Nat.strongRecOn with
  | _ n ih =>
    by_cases h : n < 10
    · simp [dg_lt h, h]
    · have h1 := ih (n / 10) (by omega)
      have h2 := dg_pos (n / 10)
      rw [dg_ge h]
      simp only [List.length_append, List.length_cons, List.length_nil]
      generalize hk : (dg (n / 10)).length = k at *
      obtain ⟨a, b⟩ := h1
      obtain ⟨j, rfl⟩ : ∃ j, k = j + 1 := ⟨k - 1, by omega⟩
      simp only [Nat.pow_succ, Nat.add_sub_cancel, Nat.zero_add] at *
      refine ⟨by omega, .inr ?_⟩
      rcases b with b | b
      · have : j = 0 := by omega
        subst this
        omega
      · omega
theorem dg_len_of {n k : Nat} (h1 : n < 10 ^ k) (hk : 1 ≤ k) (h2 : k = 1 ∨ 10 ^ (k - 1) ≤ n) : (dg n).length = k := by
  obtain ⟨a, b⟩ := dg_bound n
  have hp := dg_pos n
  generalize (dg n).length = l at *
  rcases Nat.lt_trichotomy l k with h | h | h
  · have : 10 ^ l ≤ 10 ^ (k - 1) := Nat.pow_le_pow_right (by omega) (by omega)
    rcases h2 with h2 | h2 <;> omega
  · exact h
  · have : 10 ^ k ≤ 10 ^ (l - 1) := Nat.pow_le_pow_right (by omega) (by omega)
    rcases b with b | b <;> omega
theorem Con.useI {w : World} {mean : ExcName → Option Value} {mg mb : Str → Option Value} {lv : Nat} {f : Addr} {vs : List Value} {news : List (Addr × Obj)} {x : Int}
    {dp un : Nat} {gd : Option (List Code)} {cn : Str} {cs : Scope} {a : Addr} {ccd : Value} {cl : List (Str × Addr)} {outer : List Env} {A₀ : Around} {base h₀ : Heap} {L : Addr} {m : Str → Option Value} {s : Shared} {Q E : Value → Shared → Prop}
    (B : Below A₀ base outer h₀) (F : Fr h₀ L s.heap m) (X : (hd.heap_39 w.params).In h₀) (N : News h₀ L s.heap news) (T : Top hd.view_39 (looseW hd.view_39 [Str.ofString "BasicError"]) mean mg mb h₀) (hk : cs.kind = .function)
    (h1 : dp + lv < recursionLimit) (h2 : un + 8 * lv < cLine) (C : Con w mean mg mb lv f vs news (RetI news x))
  (ret : ∀ (t : Tok) (h' : Heap) (tk' : Nat), Fr h₀ L h' m → News h₀ L h' (news) → Q (.int x t) { s with heap := h', toks := tk' }) :
    wpAny (model PySem.Challenge.rw_pq0171_01.row.prog w) (ktrTop dp un gd cn cs L a ccd cl outer) (call (.ref f) vs) Q E s :=
  C.use B F X N T hk h1 h2 fun v n h' tk' r F' N' => by obtain ⟨⟨t, rfl⟩, rfl⟩ := r; exact ret t h' tk' F' N'
theorem Con.useS {w : World} {mean : ExcName → Option Value} {mg mb : Str → Option Value} {lv : Nat} {f : Addr} {vs : List Value} {news : List (Addr × Obj)} {x : Str}
    {dp un : Nat} {gd : Option (List Code)} {cn : Str} {cs : Scope} {a : Addr} {ccd : Value} {cl : List (Str × Addr)} {outer : List Env} {A₀ : Around} {base h₀ : Heap} {L : Addr} {m : Str → Option Value} {s : Shared} {Q E : Value → Shared → Prop}
    (B : Below A₀ base outer h₀) (F : Fr h₀ L s.heap m) (X : (hd.heap_39 w.params).In h₀) (N : News h₀ L s.heap news) (T : Top hd.view_39 (looseW hd.view_39 [Str.ofString "BasicError"]) mean mg mb h₀) (hk : cs.kind = .function)
    (h1 : dp + lv < recursionLimit) (h2 : un + 8 * lv < cLine) (C : Con w mean mg mb lv f vs news (RetS news x))
  (ret : ∀ (t : Tok) (h' : Heap) (tk' : Nat), Fr h₀ L h' m → News h₀ L h' (news) → Q (.str x t) { s with heap := h', toks := tk' }) :
    wpAny (model PySem.Challenge.rw_pq0171_01.row.prog w) (ktrTop dp un gd cn cs L a ccd cl outer) (call (.ref f) vs) Q E s :=
  C.use B F X N T hk h1 h2 fun v n h' tk' r F' N' => by obtain ⟨⟨t, rfl⟩, rfl⟩ := r; exact ret t h' tk' F' N'
theorem Con.useB {w : World} {mean : ExcName → Option Value} {mg mb : Str → Option Value} {lv : Nat} {f : Addr} {vs : List Value} {news : List (Addr × Obj)} {x : Bool}
    {dp un : Nat} {gd : Option (List Code)} {cn : Str} {cs : Scope} {a : Addr} {ccd : Value} {cl : List (Str × Addr)} {outer : List Env} {A₀ : Around} {base h₀ : Heap} {L : Addr} {m : Str → Option Value} {s : Shared} {Q E : Value → Shared → Prop}
    (B : Below A₀ base outer h₀) (F : Fr h₀ L s.heap m) (X : (hd.heap_39 w.params).In h₀) (N : News h₀ L s.heap news) (T : Top hd.view_39 (looseW hd.view_39 [Str.ofString "BasicError"]) mean mg mb h₀) (hk : cs.kind = .function)
    (h1 : dp + lv < recursionLimit) (h2 : un + 8 * lv < cLine) (C : Con w mean mg mb lv f vs news (RetB news x))
  (ret : ∀ (h' : Heap) (tk' : Nat), Fr h₀ L h' m → News h₀ L h' news → Q (.bool x) { s with heap := h', toks := tk' }) :
    wpAny (model PySem.Challenge.rw_pq0171_01.row.prog w) (ktrTop dp un gd cn cs L a ccd cl outer) (call (.ref f) vs) Q E s :=
  C.use B F X N T hk h1 h2 fun v n h' tk' r F' N' => by obtain ⟨rfl, rfl⟩ := r; exact ret h' tk' F' N'
theorem Con.useT {w : World} {mean : ExcName → Option Value} {mg mb : Str → Option Value} {lv : Nat} {f : Addr} {vs : List Value} {news : List (Addr × Obj)} {x y : Int}
    {dp un : Nat} {gd : Option (List Code)} {cn : Str} {cs : Scope} {a : Addr} {ccd : Value} {cl : List (Str × Addr)} {outer : List Env} {A₀ : Around} {base h₀ : Heap} {L : Addr} {m : Str → Option Value} {s : Shared} {Q E : Value → Shared → Prop}
    (B : Below A₀ base outer h₀) (F : Fr h₀ L s.heap m) (X : (hd.heap_39 w.params).In h₀) (N : News h₀ L s.heap news) (T : Top hd.view_39 (looseW hd.view_39 [Str.ofString "BasicError"]) mean mg mb h₀) (hk : cs.kind = .function)
    (h1 : dp + lv < recursionLimit) (h2 : un + 8 * lv < cLine) (C : Con w mean mg mb lv f vs news (RetT news x y))
  (ret : ∀ (D : Addr) (t1 t2 : Tok) (c : Nat) (h' : Heap) (tk' : Nat), AllLt D news → Fr h₀ L h' m → News h₀ L h' ((D, tupO x t1 y t2 c) :: news) → Q (.ref D) { s with heap := h', toks := tk' }) :
    wpAny (model PySem.Challenge.rw_pq0171_01.row.prog w) (ktrTop dp un gd cn cs L a ccd cl outer) (call (.ref f) vs) Q E s :=
  C.use B F X N T hk h1 h2 fun v n h' tk' r F' N' => by obtain ⟨D, t1, t2, c, rfl, rfl, hl⟩ := r; exact ret D t1 t2 c h' tk' hl F' N'
end Mine

namespace Mine
/-! a def's body statement by statement: each at any frame -/
def bodyO : Stmt → List Stmt
  | .FunctionDef _ _ b _ _ _ _ _ _ _ => b
  | .For _ _ b _ _ => b
  | .If _ b _ _ => b
  | _ => []
def scopeO : Stmt → Scope
  | .FunctionDef _ _ _ _ _ _ s _ _ _ => s
  | _ => default
def defD (k : Nat) : Stmt := PySem.Challenge.rw_pq0171_01.prog.main.body.getD k (.Pass ⟨0, 0, 0, 0⟩)
def defS (k j : Nat) : Stmt := (bodyO (defD k)).getD j (.Pass ⟨0, 0, 0, 0⟩)
def defC (k : Nat) : Scope := scopeO (defD k)
def flo : Option Value → Flow
  | none => .next
  | some v => .ret v
abbrev SgP := Option Value → (Str → Option Value) → List (Addr × Obj) → Prop
def Sg (w : World) (mean : ExcName → Option Value) (mg mb : Str → Option Value) (lv : Nat) (nm : Str) (sc : Scope) (st : Stmt) (m : Str → Option Value) (news : List (Addr × Obj)) (Post : SgP) : Prop :=
  ∀ (dp un : Nat) (gd : Option (List Code)) (a : Addr) (ccd : Value) (outer : List Env) (A₀ : Around) (base h₀ : Heap) (L : Addr) (s : Shared) (Q : Flow → Shared → Prop) (E : Value → Shared → Prop),
    Below A₀ base outer h₀ → Fr h₀ L s.heap m → (hd.heap_39 w.params).In h₀ → News h₀ L s.heap news → Top hd.view_39 (looseW hd.view_39 [Str.ofString "BasicError"]) mean mg mb h₀ →
    dp + lv < recursionLimit → un + 8 * lv < cLine →
    (∀ (o : Option Value) (m' : Str → Option Value) (news' : List (Addr × Obj)) (h' : Heap) (tk' : Nat), Post o m' news' → Fr h₀ L h' m' → News h₀ L h' news' → Q (flo o) { s with heap := h', toks := tk' }) →
    wpAny (model PySem.Challenge.rw_pq0171_01.row.prog w) (Around.deeper { handled := none, depth := dp, frames := some outer, guards := gd, units := un } (envOf nm sc L a ccd)) (exec st (envOf nm sc L a ccd)) Q E s
def Sgs (w : World) (mean : ExcName → Option Value) (mg mb : Str → Option Value) (lv : Nat) (nm : Str) (sc : Scope) (st : List Stmt) (m : Str → Option Value) (news : List (Addr × Obj)) (Post : SgP) : Prop :=
  ∀ (dp un : Nat) (gd : Option (List Code)) (a : Addr) (ccd : Value) (outer : List Env) (A₀ : Around) (base h₀ : Heap) (L : Addr) (s : Shared) (Q : Flow → Shared → Prop) (E : Value → Shared → Prop),
    Below A₀ base outer h₀ → Fr h₀ L s.heap m → (hd.heap_39 w.params).In h₀ → News h₀ L s.heap news → Top hd.view_39 (looseW hd.view_39 [Str.ofString "BasicError"]) mean mg mb h₀ →
    dp + lv < recursionLimit → un + 8 * lv < cLine →
    (∀ (o : Option Value) (m' : Str → Option Value) (news' : List (Addr × Obj)) (h' : Heap) (tk' : Nat), Post o m' news' → Fr h₀ L h' m' → News h₀ L h' news' → Q (flo o) { s with heap := h', toks := tk' }) →
    wpAny (model PySem.Challenge.rw_pq0171_01.row.prog w) (Around.deeper { handled := none, depth := dp, frames := some outer, guards := gd, units := un } (envOf nm sc L a ccd)) (execs st (envOf nm sc L a ccd)) Q E s
section
variable {w : World} {mean : ExcName → Option Value} {mg mb : Str → Option Value} {lv : Nat} {nm : Str} {sc : Scope} {st : Stmt} {sts : List Stmt} {m : Str → Option Value} {news news2 : List (Addr × Obj)} {P Post : SgP}
theorem Sgs.nil (h : Post none m news) : Sgs w mean mg mb lv nm sc [] m news Post := by
  unfold Sgs
  intro dp un gd a ccd outer A₀ base h₀ L s Q E B F X N T hdp hun hret
  exact wpAny_execs_nil (hret none m news s.heap s.toks h F N)
theorem Sgs.cons (A : Sg w mean mg mb lv nm sc st m news P) (R : ∀ v m' n', P (some v) m' n' → Post (some v) m' n') (C : ∀ m' n', P none m' n' → Sgs w mean mg mb lv nm sc sts m' n' Post) : Sgs w mean mg mb lv nm sc (st :: sts) m news Post := by
  unfold Sgs
  intro dp un gd a ccd outer A₀ base h₀ L s Q E B F X N T hdp hun hret
  refine wpAny_execs_cons ?_
  unfold Sg at A
  refine A dp un gd a ccd outer A₀ base h₀ L s _ E B F X N T hdp hun fun o m' n' h' tk' p F' N' => ?_
  cases o with
  | none => exact C m' n' p dp un gd a ccd outer A₀ base h₀ L _ Q E B F' X N' T hdp hun fun o m2 n2 h2 tk2 r F2 N2 => hret o m2 n2 h2 tk2 r F2 N2
  | some v => exact hret (some v) m' n' h' tk' (R v m' n' p) F' N'
theorem Sgs.weak (hs : ∀ p ∈ news2, p ∈ news) (A : Sgs w mean mg mb lv nm sc sts m news2 Post) : Sgs w mean mg mb lv nm sc sts m news Post := by
  unfold Sgs at *
  intro dp un gd a ccd outer A₀ base h₀ L s Q E B F X N T hdp hun hret
  exact A dp un gd a ccd outer A₀ base h₀ L s Q E B F X (news_sub N hs) T hdp hun hret
theorem sg_next {h₀ h' : Heap} {L : Addr} {m' : Str → Option Value} {news' news2 : List (Addr × Obj)} {s : Shared} {Q : Flow → Shared → Prop} {tk' : Nat}
    (hret : ∀ (o : Option Value) (m' : Str → Option Value) (news' : List (Addr × Obj)) (h' : Heap) (tk' : Nat), Post o m' news' → Fr h₀ L h' m' → News h₀ L h' news' → Q (flo o) { s with heap := h', toks := tk' })
    (F : Fr h₀ L h' m') (N : News h₀ L h' news2) (hs : ∀ p ∈ news', p ∈ news2) (P : Post none m' news') : Q .next { s with heap := h', toks := tk' } := hret none m' news' h' tk' P F (news_sub N hs)
theorem sg_ret {h₀ h' : Heap} {L : Addr} {m' : Str → Option Value} {news' news2 : List (Addr × Obj)} {s : Shared} {Q : Flow → Shared → Prop} {tk' : Nat} {v : Value}
    (hret : ∀ (o : Option Value) (m' : Str → Option Value) (news' : List (Addr × Obj)) (h' : Heap) (tk' : Nat), Post o m' news' → Fr h₀ L h' m' → News h₀ L h' news' → Q (flo o) { s with heap := h', toks := tk' })
    (F : Fr h₀ L h' m') (N : News h₀ L h' news2) (hs : ∀ p ∈ news', p ∈ news2) (P : Post (some v) m' news') : Q (.ret v) { s with heap := h', toks := tk' } := hret (some v) m' news' h' tk' P F (news_sub N hs)
end
theorem fq1 {h₀ h : Heap} {L : Addr} {m : Str → Option Value} {x1 : Str} {v1 : Value} (F : Fr h₀ L h m) (e1 : m x1 = some v1) : Fr h₀ L h (fun y => if y = x1 then some v1 else m y) := by
  have e : m = fun y => if y = x1 then some v1 else m y := by
    funext y
    repeat' split
    all_goals first | rfl | (subst_vars; assumption)
  rw [e] at F; exact F
theorem fq2 {h₀ h : Heap} {L : Addr} {m : Str → Option Value} {x1 x2 : Str} {v1 v2 : Value} (F : Fr h₀ L h m) (e1 : m x1 = some v1) (e2 : m x2 = some v2) : Fr h₀ L h (fun y => if y = x1 then some v1 else if y = x2 then some v2 else m y) := by
  have e : m = fun y => if y = x1 then some v1 else if y = x2 then some v2 else m y := by
    funext y
    repeat' split
    all_goals first | rfl | (subst_vars; assumption)
  rw [e] at F; exact F
theorem fq3 {h₀ h : Heap} {L : Addr} {m : Str → Option Value} {x1 x2 x3 : Str} {v1 v2 v3 : Value} (F : Fr h₀ L h m) (e1 : m x1 = some v1) (e2 : m x2 = some v2) (e3 : m x3 = some v3) : Fr h₀ L h (fun y => if y = x1 then some v1 else if y = x2 then some v2 else if y = x3 then some v3 else m y) := by
  have e : m = fun y => if y = x1 then some v1 else if y = x2 then some v2 else if y = x3 then some v3 else m y := by
    funext y
    repeat' split
    all_goals first | rfl | (subst_vars; assumption)
  rw [e] at F; exact F
theorem fq4 {h₀ h : Heap} {L : Addr} {m : Str → Option Value} {x1 x2 x3 x4 : Str} {v1 v2 v3 v4 : Value} (F : Fr h₀ L h m) (e1 : m x1 = some v1) (e2 : m x2 = some v2) (e3 : m x3 = some v3) (e4 : m x4 = some v4) : Fr h₀ L h (fun y => if y = x1 then some v1 else if y = x2 then some v2 else if y = x3 then some v3 else if y = x4 then some v4 else m y) := by
  have e : m = fun y => if y = x1 then some v1 else if y = x2 then some v2 else if y = x3 then some v3 else if y = x4 then some v4 else m y := by
    funext y
    repeat' split
    all_goals first | rfl | (subst_vars; assumption)
  rw [e] at F; exact F
theorem fq5 {h₀ h : Heap} {L : Addr} {m : Str → Option Value} {x1 x2 x3 x4 x5 : Str} {v1 v2 v3 v4 v5 : Value} (F : Fr h₀ L h m) (e1 : m x1 = some v1) (e2 : m x2 = some v2) (e3 : m x3 = some v3) (e4 : m x4 = some v4) (e5 : m x5 = some v5) : Fr h₀ L h (fun y => if y = x1 then some v1 else if y = x2 then some v2 else if y = x3 then some v3 else if y = x4 then some v4 else if y = x5 then some v5 else m y) := by
  have e : m = fun y => if y = x1 then some v1 else if y = x2 then some v2 else if y = x3 then some v3 else if y = x4 then some v4 else if y = x5 then some v5 else m y := by
    funext y
    repeat' split
    all_goals first | rfl | (subst_vars; assumption)
  rw [e] at F; exact F
theorem fq6 {h₀ h : Heap} {L : Addr} {m : Str → Option Value} {x1 x2 x3 x4 x5 x6 : Str} {v1 v2 v3 v4 v5 v6 : Value} (F : Fr h₀ L h m) (e1 : m x1 = some v1) (e2 : m x2 = some v2) (e3 : m x3 = some v3) (e4 : m x4 = some v4) (e5 : m x5 = some v5) (e6 : m x6 = some v6) : Fr h₀ L h (fun y => if y = x1 then some v1 else if y = x2 then some v2 else if y = x3 then some v3 else if y = x4 then some v4 else if y = x5 then some v5 else if y = x6 then some v6 else m y) := by
  have e : m = fun y => if y = x1 then some v1 else if y = x2 then some v2 else if y = x3 then some v3 else if y = x4 then some v4 else if y = x5 then some v5 else if y = x6 then some v6 else m y := by
    funext y
    repeat' split
    all_goals first | rfl | (subst_vars; assumption)
  rw [e] at F; exact F
end Mine

namespace Mine
theorem accUp10 (j : Nat) : accUp (fun _ x => x * 10) 1 10 ((j : Int) + 1) = (((10 : Nat) ^ (j + 1) : Nat) : Int) := by
  induction j with
  | zero => exact accUp_start
  | succ j ih =>
    rw [accUp_succ (by omega)]
    show accUp (fun _ x => x * 10) 1 10 (((j + 1 : Nat) : Int)) * 10 = _
    rw [show (((j + 1 : Nat) : Int)) = (j : Int) + 1 by omega, ih, Nat.pow_succ 10 (j + 1)]
    omega
theorem figs_up {n k : Int} (h0 : 0 ≤ n) (a6 : 1 ≤ k) (a4 : ∀ j, 1 ≤ j → j < k → decide (accUp (fun _ x => x * 10) 1 10 j ≤ n) = true) (a3 : decide (accUp (fun _ x => x * 10) 1 10 k ≤ n) = false) : k = figs n := by
  obtain ⟨j, rfl⟩ : ∃ j : Nat, k = (j : Int) + 1 := ⟨(k - 1).toNat, by omega⟩
  rw [accUp10, decide_eq_false_iff_not] at a3
  unfold figs
  rw [dg_len_of (k := j + 1) (by omega) (by omega)]
  · omega
  · cases j with
    | zero => exact .inl rfl
    | succ j =>
      have := a4 ((j : Int) + 1) (by omega) (by omega)
      rw [accUp10, decide_eq_true_eq] at this
      exact .inr (by simp only [Nat.add_sub_cancel]; omega)
variable {w : World} {mean : ExcName → Option Value} {mg mb : Str → Option Value}
theorem figures_of_c (n : Int) (t : Tok) (news : List (Addr × Obj)) (h0 : 0 ≤ n) : Con w mean mg mb 1 44 [.int n t] news (RetI news (figs n)) := by
  k_with_none
  unfold Con
  k_fill
  intro dp un gd cn cs a ccd cl outer A₀ base h₀ L m s Q E B F X N T hk hdp hun hret
  refine wpAny_call ?_
  k_dflt cell_enter
  k_steps
  refine end_I hret (by assumption) (by assumption) (by intro p hp; repeat first | exact hp | refine List.Mem.tail _ ?_) ?_
  exact figs_up h0 (by assumption) (by assumption) (by assumption)
end Mine

namespace Mine
variable {w : World} {mean : ExcName → Option Value} {mg mb : Str → Option Value}
abbrev txt (l : List Nat) : Str := Str.mk l.toArray
theorem dropLast_dg_ge {n : Nat} (h : ¬ n < 10) : (dg n).dropLast = dg (n / 10) := by rw [dg_ge h]; simp
theorem dg_split (n : Nat) : dg n = (dg n).dropLast ++ [48 + n % 10] := by
  by_cases h : n < 10
  · rw [dg_lt h, Nat.mod_eq_of_lt h]; rfl
  · rw [dropLast_dg_ge h, dg_ge h]
theorem fmod10 {n : Int} (h : 0 ≤ n) : (48 + n.fmod 10).toNat = 48 + n.toNat % 10 := by
  rw [Int.fmod_eq_emod_of_nonneg _ (by decide)]; omega
theorem fdiv10 {n : Int} (h : 0 ≤ n) : n.fdiv 10 = n / 10 := Int.fdiv_eq_ediv_of_nonneg _ (by decide)
theorem fdiv10N {n : Int} (h : 0 ≤ n) : (n.fdiv 10).toNat = n.toNat / 10 := by rw [fdiv10 h]; omega
theorem dg_le20 {n : Int} (h1 : n < 10 ^ 20) : (dg n.toNat).length ≤ 20 := by
  obtain ⟨a, b⟩ := dg_bound n.toNat
  rcases b with b | b
  · omega
  · have h2 : n.toNat < 10 ^ 20 := by omega
    have h3 : 10 ^ ((dg n.toNat).length - 1) < 10 ^ 20 := Nat.lt_of_le_of_lt b h2
    have := (Nat.pow_lt_pow_iff_right (by decide : 1 < 10)).mp h3
    omega
theorem ft_start {n : Int} (h0 : 0 ≤ n) (h1 : n < 10 ^ 20) : 0 ≤ n ∧ n ≤ n ∧ dg n.toNat = (dg n.toNat).dropLast ++ [(48 + n.fmod 10).toNat] ∧ (Str.mk #[(48 + n.fmod 10).toNat]).length + (dg n.toNat).length ≤ 22 := by
  refine ⟨h0, Int.le_refl _, ?_, ?_⟩
  · rw [fmod10 h0]; exact dg_split _
  · have := dg_le20 h1
    show 1 + _ ≤ 22
    omega
theorem ft_turn {n x : Int} {f : Str} (h0 : 0 ≤ x) (h1 : x ≤ n) (h2 : dg n.toNat = (dg x.toNat).dropLast ++ f.cps.toList) (h3 : f.length + (dg x.toNat).length ≤ 22) (h4 : 9 < x) :
    0 ≤ x.fdiv 10 ∧ x.fdiv 10 ≤ n ∧ dg n.toNat = (dg (x.fdiv 10).toNat).dropLast ++ (Str.mk #[(48 + (x.fdiv 10).fmod 10).toNat] ++ f).cps.toList ∧ (Str.mk #[(48 + (x.fdiv 10).fmod 10).toNat] ++ f).length + (dg (x.fdiv 10).toNat).length ≤ 22 := by
  have e1 := fdiv10 h0
  have hx : ¬ x.toNat < 10 := by omega
  refine ⟨by omega, by omega, ?_, ?_⟩
  · rw [h2, dropLast_dg_ge hx, Str.cps_append, Array.toList_append, fmod10 (by omega), fdiv10N h0]
    show _ = _ ++ ([48 + x.toNat / 10 % 10] ++ _)
    rw [← List.append_assoc, ← dg_split]
  · rw [Str.length_append, fdiv10N h0]
    have := dg_ge hx
    have e : (dg x.toNat).length = (dg (x.toNat / 10)).length + 1 := by rw [this]; simp
    show 1 + _ + _ ≤ 22
    omega
theorem ft_end {n x : Int} {f : Str} (h0 : 0 ≤ x) (h2 : dg n.toNat = (dg x.toNat).dropLast ++ f.cps.toList) (h4 : ¬ 9 < x) : f = txt (dg n.toNat) := by
  rw [h2, dg_lt (by omega)]
  cases f
  simp [txt]
section
theorem figures_text_c (n : Int) (t : Tok) (news : List (Addr × Obj)) (h0 : 0 ≤ n) (h1 : n < 10 ^ 20) : Con w mean mg mb 1 108 [.int n t] news (RetS news (txt (dg n.toNat))) := by
  k_with_none
  k_with "exec While Compare cons nil" => k_while_given ["number!"] (fun n0 _ number found => 0 ≤ number ∧ number ≤ n0 ∧ dg n0.toNat = (dg number.toNat).dropLast ++ found.cps.toList ∧ found.length + (dg number.toNat).length ≤ 22) (fun _ _ number _ => number.toNat) "number" "found"
  unfold Con
  k_fill
  intro dp un gd cn cs a ccd cl outer A₀ base h₀ L m s Q E B F X N T hk hdp hun hret
  refine wpAny_call ?_
  k_dflt cell_enter
  k_with "state" => first | exact ft_start (by assumption) (by assumption) | exact ft_turn (by assumption) (by assumption) (by assumption) (by assumption) (by assumption)
  k_with "measure" => (have e := fdiv10 (by assumption); omega)
  k_steps
  · refine end_S hret (by assumption) (by assumption) (by intro p hp; repeat first | exact hp | refine List.Mem.tail _ ?_) ?_
    exact ft_end (by assumption) (by assumption) (by assumption)
end
end Mine

namespace Mine
variable {w : World} {mean : ExcName → Option Value} {mg mb : Str → Option Value}
theorem figs_ge {x : Int} (h : 10 ≤ x) : figs x = figs (x / 10) + 1 := by
  unfold figs
  rw [dg_ge (by omega : ¬ x.toNat < 10), show (x / 10).toNat = x.toNat / 10 by omega]
  simp
def norm (n e : Int) : Int × Int := if n = 0 then (0, 0) else if n % 10 = 0 then norm (n / 10) (e + 1) else (n, e)
termination_by n.natAbs
theorem norm_zero (e : Int) : norm 0 e = (0, 0) := by rw [norm, if_pos rfl]
theorem norm_stop {n e : Int} (h : n % 10 ≠ 0) : norm n e = (n, e) := by
  rw [norm, if_neg (by intro h0; subst h0; exact h rfl), if_neg h]
theorem norm_step {n e : Int} (h0 : n ≠ 0) (h : n % 10 = 0) : norm n e = norm (n / 10) (e + 1) := by
  rw [norm, if_neg h0, if_pos h]
theorem norm_neg (n e : Int) : norm (-n) e = (-(norm n e).1, (norm n e).2) := by
  generalize hk : n.natAbs = k
  induction k using Nat.strongRecOn generalizing n e with
  | _ k ih =>
    by_cases h0 : n = 0
    · subst h0; rw [Int.neg_zero, norm_zero]; rfl
    · by_cases h : n % 10 = 0
      · rw [norm_step h0 h, norm_step (by omega) (by omega), show -n / 10 = -(n / 10) by omega]
        exact ih (n / 10).natAbs (by omega) _ _ rfl
      · rw [norm_stop h, norm_stop (by omega)]
theorem fdivT (n : Int) : n.fdiv 10 = n / 10 := Int.fdiv_eq_ediv_of_nonneg _ (by decide)
theorem fmodT (n : Int) : n.fmod 10 = n % 10 := Int.fmod_eq_emod_of_nonneg _ (by decide)
theorem made_end1 {c e x y : Int} (h1 : norm x y = norm (if c < 0 then -c else c) e) (h3 : x.fmod 10 ≠ 0) (h : c < 0) : -x = (norm c e).1 ∧ y = (norm c e).2 := by
  rw [fmodT] at h3
  rw [if_pos h, norm_stop h3, norm_neg] at h1
  obtain ⟨a, b⟩ := Prod.mk.inj h1
  exact ⟨by omega, b⟩
theorem made_end2 {c e x y : Int} (h1 : norm x y = norm (if c < 0 then -c else c) e) (h3 : x.fmod 10 ≠ 0) (h : ¬ c < 0) : x = (norm c e).1 ∧ y = (norm c e).2 := by
  rw [fmodT] at h3
  rw [if_neg h, norm_stop h3] at h1
  rw [← h1]; exact ⟨rfl, rfl⟩
theorem made_turn {S e x y : Int} (h0 : 0 < x) (h1 : norm x y = norm S e) (h2 : y + figs x = e + figs S) (h3 : x.fmod 10 = 0) :
    0 < x.fdiv 10 ∧ norm (x.fdiv 10) (y + 1) = norm S e ∧ y + 1 + figs (x.fdiv 10) = e + figs S := by
  rw [fmodT] at h3
  rw [fdivT]
  have := figs_ge (x := x) (by omega)
  exact ⟨by omega, by rw [← norm_step (by omega) h3, h1], by omega⟩
section
theorem made_c (c e d : Int) (t1 t2 t3 : Tok) (news : List (Addr × Obj)) (hd : figs (if c < 0 then -c else c) ≤ d) (h5 : -99 ≤ e + figs (if c < 0 then -c else c) - 1) (h6 : e + figs (if c < 0 then -c else c) - 1 ≤ 99) : Con w mean mg mb 3 58 [.int c t1, .int e t2, .int d t3] news (RetT news (norm c e).1 (norm c e).2) := by
  k_with_none
  k_with "call ref" => (k_here; (with_reducible show wpAny _ _ (call (Value.ref 44) _) _ _ _); k_dflt (refine Con.useI (by k_asm) (by k_asm) (by k_asm) (by k_asm) (by k_asm) (by first | exact rfl | assumption) (by ktr_room) (by ktr_units) (figures_of_c _ _ _ (by first | assumption | omega)) ?_); k_whole; intro t9 h9 tk9 F9 N9; (try dsimp only); (try k_fold))
  k_with "exec While Compare cons nil" => k_while_given ["size!", "exponent!"] (fun s0 e0 _ size exponent => 0 < size ∧ norm size exponent = norm s0 e0 ∧ exponent + figs size = e0 + figs s0) (fun _ _ _ size _ => size.toNat) "size" "exponent"
  unfold Con
  k_fill
  intro dp un gd cn cs a ccd cl outer A₀ base h₀ L m s Q E B F X N T hk hdp hun hret
  refine wpAny_call ?_
  k_dflt cell_enter
  k_with "state" => first | exact made_turn (by assumption) (by assumption) (by assumption) (by assumption) | exact ⟨by split <;> omega, rfl, rfl⟩
  k_with "measure" => (simp only [fdivT]; omega)
  k_steps
  all_goals (refine end_T hret (by assumption) (by assumption) (List.Mem.head _) (by intro p hp; repeat first | exact hp | refine List.Mem.tail _ ?_) (by first | assumption | exact allLt_of (by assumption)) ?_)
  · have : c = 0 := by omega
    subst this
    rw [norm_zero]; exact ⟨rfl, rfl⟩
  · exact made_end1 (by assumption) (by assumption) (by assumption)
  · exact made_end2 (by assumption) (by assumption) (by assumption)
end
end Mine

namespace Mine
variable {w : World} {mean : ExcName → Option Value} {mg mb : Str → Option Value}
theorem pow10_ne (k : Nat) : (10 : Int) ^ k ≠ 0 := Int.pow_ne_zero (by decide)
theorem pow10_py {k : Nat} (h : k ≤ 1000) : ((10 : Int) ^ k).natAbs.log2 < 9000 := by
  rw [Int.natAbs_pow]
  have h1 : ((10 : Int).natAbs ^ k).log2 < 4 * k + 1 := by
    refine (Nat.log2_lt (Nat.ne_of_gt (Nat.pow_pos (by decide)))).mpr ?_
    have : 10 ^ k ≤ 16 ^ k := Nat.pow_le_pow_left (by decide) k
    have h2 : (16 : Nat) ^ k = 2 ^ (4 * k) := by rw [Nat.pow_mul]
    have h3 : (2 : Nat) ^ (4 * k) < 2 ^ (4 * k + 1) := Nat.pow_lt_pow_right (by decide) (by omega)
    show 10 ^ k < _
    omega
  omega
theorem Nat_pow_ne : True := trivial
def RetV (news : List (Addr × Obj)) (u : Value) (v : Value) (news' : List (Addr × Obj)) : Prop := v = u ∧ news' = news
theorem Con.useV {w : World} {mean : ExcName → Option Value} {mg mb : Str → Option Value} {lv : Nat} {f : Addr} {vs : List Value} {news : List (Addr × Obj)} {x : Value}
    {dp un : Nat} {gd : Option (List Code)} {cn : Str} {cs : Scope} {a : Addr} {ccd : Value} {cl : List (Str × Addr)} {outer : List Env} {A₀ : Around} {base h₀ : Heap} {L : Addr} {m : Str → Option Value} {s : Shared} {Q E : Value → Shared → Prop}
    (B : Below A₀ base outer h₀) (F : Fr h₀ L s.heap m) (X : (hd.heap_39 w.params).In h₀) (N : News h₀ L s.heap news) (T : Top hd.view_39 (looseW hd.view_39 [Str.ofString "BasicError"]) mean mg mb h₀) (hk : cs.kind = .function)
    (h1 : dp + lv < recursionLimit) (h2 : un + 8 * lv < cLine) (C : Con w mean mg mb lv f vs news (RetV news x))
  (ret : ∀ (h' : Heap) (tk' : Nat), Fr h₀ L h' m → News h₀ L h' news → Q x { s with heap := h', toks := tk' }) :
    wpAny (model PySem.Challenge.rw_pq0171_01.row.prog w) (ktrTop dp un gd cn cs L a ccd cl outer) (call (.ref f) vs) Q E s :=
  C.use B F X N T hk h1 h2 fun v n h' tk' r F' N' => by obtain ⟨rfl, rfl⟩ := r; exact ret h' tk' F' N'
theorem end_V {h₀ h' : Heap} {L : Addr} {m : Str → Option Value} {news news2 : List (Addr × Obj)} {s : Shared} {Q : Value → Shared → Prop} {tk' : Nat} {x y : Value} (hret : ∀ (v : Value) (news' : List (Addr × Obj)) (h' : Heap) (tk' : Nat), RetV news x v news' → Fr h₀ L h' m → News h₀ L h' news' → Q v { s with heap := h', toks := tk' })
    (F : Fr h₀ L h' m) (N : News h₀ L h' news2) (hs : ∀ p ∈ news, p ∈ news2) (e : y = x) : Q y { s with heap := h', toks := tk' } := hret _ _ _ _ ⟨e, rfl⟩ F (news_sub N hs)
section
theorem d_negated_c (x y : Int) (D : Addr) (t1 t2 : Tok) (k : Nat) (news : List (Addr × Obj)) (hm : (D, tupO x t1 y t2 k) ∈ news) : Con w mean mg mb 1 66 [.ref D] news (RetT news (0 - x) y) := by
  k_with_none
  k_with "binaryOp FloorDiv int int" => (with_reducible refine floordiv_int (pow10_ne _) ?_ (Or.inl (PyProof.noPylong_of_log2 (pow10_py (by omega)))))
  unfold Con
  k_fill
  intro dp un gd cn cs a ccd cl outer A₀ base h₀ L m s Q E B F X N T hk hdp hun hret
  replace N := news_in N hm
  refine wpAny_call ?_
  k_dflt cell_enter
  k_steps
  refine end_T hret (by assumption) (by assumption) (by k_mem) (by intro p hp; repeat first | exact hp | refine List.Mem.tail _ ?_) (by first | assumption | exact allLt_of (by assumption) | (obtain ⟨_, h⟩ := (by assumption : _ ∧ AllLt _ _); exact h)) ?_
  exact ⟨rfl, rfl⟩
theorem d_size_c (x y : Int) (D : Addr) (t1 t2 : Tok) (k : Nat) (news : List (Addr × Obj)) (hm : (D, tupO x t1 y t2 k) ∈ news) : Con w mean mg mb 1 73 [.ref D] news (RetT news (if x < 0 then -x else x) y) := by
  k_with_none
  k_with "binaryOp FloorDiv int int" => (with_reducible refine floordiv_int (pow10_ne _) ?_ (Or.inl (PyProof.noPylong_of_log2 (pow10_py (by omega)))))
  unfold Con
  k_fill
  intro dp un gd cn cs a ccd cl outer A₀ base h₀ L m s Q E B F X N T hk hdp hun hret
  replace N := news_in N hm
  refine wpAny_call ?_
  k_dflt cell_enter
  k_steps
  refine end_T hret (by assumption) (by assumption) (by k_mem) (by intro p hp; repeat first | exact hp | refine List.Mem.tail _ ?_) (by first | assumption | exact allLt_of (by assumption) | (obtain ⟨_, h⟩ := (by assumption : _ ∧ AllLt _ _); exact h)) ?_
  exact ⟨rfl, rfl⟩
theorem floor_of_c (x y : Int) (D : Addr) (t1 t2 : Tok) (k : Nat) (news : List (Addr × Obj)) (hm : (D, tupO x t1 y t2 k) ∈ news) (h1 : -900 < y) (h2 : y < 0) : Con w mean mg mb 1 80 [.ref D] news (RetI news (x.fdiv (10 ^ (0 - y).toNat))) := by
  k_with_none
  k_with "binaryOp FloorDiv int int" => (with_reducible refine floordiv_int (pow10_ne _) ?_ (Or.inl (PyProof.noPylong_of_log2 (pow10_py (by omega)))))
  unfold Con
  k_fill
  intro dp un gd cn cs a ccd cl outer A₀ base h₀ L m s Q E B F X N T hk hdp hun hret
  replace N := news_in N hm
  refine wpAny_call ?_
  k_dflt cell_enter
  k_steps
  refine end_I hret (by assumption) (by assumption) (by intro p hp; repeat first | exact hp | refine List.Mem.tail _ ?_) ?_
  rfl
end
section
theorem plain_turn {n e x y : Int} (h : norm x y = norm n e) (h0 : x ≠ 0) (h1 : x.fmod 10 = 0) : norm (x.fdiv 10) (y + 1) = norm n e := by
  rw [fmodT] at h1
  rw [fdivT, ← norm_step h0 h1, h]
theorem plain_end {n e x y : Int} (h : norm x y = norm n e) (h1 : x.fmod 10 ≠ 0) : x = (norm n e).1 ∧ y = (norm n e).2 := by
  rw [fmodT] at h1
  rw [← h, norm_stop h1]; exact ⟨rfl, rfl⟩
theorem plain_end0 {n e x y : Int} (h : norm x y = norm n e) (h0 : x = 0) : 0 = (norm n e).1 ∧ 0 = (norm n e).2 := by
  rw [← h, h0, norm_zero]; exact ⟨rfl, rfl⟩
theorem law_plain_c (n e : Int) (t1 t2 : Tok) (news : List (Addr × Obj))  : Con w mean mg mb 1 192 [.int n t1, .int e t2] news (RetT news (norm n e).1 (norm n e).2) := by
  k_with_none
  k_with "exec While BoolOp cons nil" => k_while_given ["number!", "power!"] (fun s0 e0 _ number power => norm number power = norm s0 e0) (fun _ _ _ number _ => number.natAbs) "number" "power"
  unfold Con
  k_fill
  intro dp un gd cn cs a ccd cl outer A₀ base h₀ L m s Q E B F X N T hk hdp hun hret
  refine wpAny_call ?_
  k_dflt cell_enter
  k_with "state" => first | exact plain_turn (by assumption) (by assumption) (by assumption) | exact rfl
  k_with "measure" => (simp only [fdivT]; simp only [fmodT] at *; omega)
  k_steps
  all_goals (refine end_T hret (by assumption) (by assumption) (by k_mem) (by intro p hp; repeat first | exact hp | refine List.Mem.tail _ ?_) (by first | assumption | exact allLt_of (by assumption) | (obtain ⟨_, h⟩ := (by assumption : _ ∧ AllLt _ _); exact h)) ?_)
  all_goals (first | (exfalso; omega) | exact plain_end (by assumption) (by assumption) | exact plain_end0 (by assumption) (by assumption))
end
section
theorem figs_pos (x : Int) : 1 ≤ figs x := by
  have := dg_pos x.toNat
  unfold figs
  omega
theorem d_whole_neg (x y : Int) (D : Addr) (t1 t2 : Tok) (k : Nat) (d : Int) (t3 : Tok) (news : List (Addr × Obj)) (hm : (D, tupO x t1 y t2 k) ∈ news) (h1 : -900 < y) (h2 : y < 0) (h3 : figs (if x.fdiv (10 ^ (0 - y).toNat) < 0 then -x.fdiv (10 ^ (0 - y).toNat) else x.fdiv (10 ^ (0 - y).toNat)) ≤ d) (h4 : d ≤ 20) : Con w mean mg mb 4 87 [.ref D, .int d t3] news (RetT news (norm (x.fdiv (10 ^ (0 - y).toNat)) 0).1 (norm (x.fdiv (10 ^ (0 - y).toNat)) 0).2) := by
  k_with_none
  k_with "call ref" => (k_here; (with_reducible show wpAny _ _ (call (Value.ref 58) _) _ _ _); k_dflt (refine Con.useT (by k_asm) (by k_asm) (by k_asm) (by k_asm) (by k_asm) (by first | exact rfl | assumption) (by ktr_room) (by ktr_units) (made_c _ _ _ _ _ _ _ (by first | assumption | omega) (by first | assumption | omega) (by first | assumption | omega)) ?_); k_whole; intro D9 t9 u9 c9 h9 tk9 l9 F9 N9; (try simp only [AllLt, and_true] at l9); (try dsimp only); (try k_fold))
  k_with "call ref" => (k_here; (with_reducible show wpAny _ _ (call (Value.ref 80) _) _ _ _); k_dflt (refine Con.useI (by k_asm) (by k_asm) (by k_asm) (by k_asm) (by k_asm) (by first | exact rfl | assumption) (by ktr_room) (by ktr_units) (floor_of_c _ _ _ _ _ _ _ (by k_mem) (by first | assumption | omega) (by first | assumption | omega)) ?_); k_whole; intro t9 h9 tk9 F9 N9; (try dsimp only); (try k_fold))
  unfold Con
  k_fill
  intro dp un gd cn cs a ccd cl outer A₀ base h₀ L m s Q E B F X N T hk hdp hun hret
  replace N := news_in N hm
  refine wpAny_call ?_
  k_dflt cell_enter
  have h5 := figs_pos (if x.fdiv (10 ^ (0 - y).toNat) < 0 then -x.fdiv (10 ^ (0 - y).toNat) else x.fdiv (10 ^ (0 - y).toNat))
  k_steps
  refine end_T hret (by assumption) (by assumption) (by k_mem) (by intro p hp; repeat first | exact hp | refine List.Mem.tail _ ?_) (by first | assumption | exact allLt_of (by assumption) | (obtain ⟨_, h⟩ := (by assumption : _ ∧ AllLt _ _); exact h)) ?_
  exact ⟨rfl, rfl⟩
theorem d_whole_nn (x y : Int) (D : Addr) (t1 t2 : Tok) (k : Nat) (d : Int) (t3 : Tok) (news : List (Addr × Obj)) (hm : (D, tupO x t1 y t2 k) ∈ news) (h1 : 0 ≤ y) : Con w mean mg mb 1 87 [.ref D, .int d t3] news (RetV news (.ref D)) := by
  k_with_none
  k_with "call ref" => (k_here; (with_reducible show wpAny _ _ (call (Value.ref 58) _) _ _ _); k_dflt (refine Con.useT (by k_asm) (by k_asm) (by k_asm) (by k_asm) (by k_asm) (by first | exact rfl | assumption) (by ktr_room) (by ktr_units) (made_c _ _ _ _ _ _ _ (by first | assumption | omega) (by first | assumption | omega) (by first | assumption | omega)) ?_); k_whole; intro D9 t9 u9 c9 h9 tk9 l9 F9 N9; (try simp only [AllLt, and_true] at l9); (try dsimp only); (try k_fold))
  k_with "call ref" => (k_here; (with_reducible show wpAny _ _ (call (Value.ref 80) _) _ _ _); k_dflt (refine Con.useI (by k_asm) (by k_asm) (by k_asm) (by k_asm) (by k_asm) (by first | exact rfl | assumption) (by ktr_room) (by ktr_units) (floor_of_c _ _ _ _ _ _ _ (by k_mem) (by first | assumption | omega) (by first | assumption | omega)) ?_); k_whole; intro t9 h9 tk9 F9 N9; (try dsimp only); (try k_fold))
  unfold Con
  k_fill
  intro dp un gd cn cs a ccd cl outer A₀ base h₀ L m s Q E B F X N T hk hdp hun hret
  replace N := news_in N hm
  refine wpAny_call ?_
  k_dflt cell_enter
  k_steps
  refine end_V hret (by assumption) (by assumption) (by intro p hp; repeat first | exact hp | refine List.Mem.tail _ ?_) ?_
  rfl
end
end Mine

namespace Mine
variable {w : World} {mean : ExcName → Option Value} {mg mb : Str → Option Value}
/-- FIX of a decimal, before any rounding -/
def dfixA (S y : Int) : Int × Int := if y < 0 then norm (S.fdiv (10 ^ (0 - y).toNat)) 0 else (S, y)
theorem dfixA_neg {S y : Int} (h : y < 0) : dfixA S y = norm (S.fdiv (10 ^ (0 - y).toNat)) 0 := if_pos h
theorem dfixA_nn {S y : Int} (h : 0 ≤ y) : dfixA S y = (S, y) := if_neg (by omega)
def dfix (x y : Int) : Int × Int := if x < 0 then (0 - (dfixA (if x < 0 then -x else x) y).1, (dfixA (if x < 0 then -x else x) y).2) else dfixA (if x < 0 then -x else x) y
theorem dfix_lt {x y : Int} (h : x < 0) : dfix x y = (0 - (dfixA (if x < 0 then -x else x) y).1, (dfixA (if x < 0 then -x else x) y).2) := if_pos h
theorem dfix_ge {x y : Int} (h : ¬ x < 0) : dfix x y = dfixA (if x < 0 then -x else x) y := if_neg h
section
theorem d_fix_neg (x y : Int) (D : Addr) (t1 t2 : Tok) (k : Nat) (d : Int) (t3 : Tok) (news : List (Addr × Obj)) (hm : (D, tupO x t1 y t2 k) ∈ news) (h1 : -900 < y) (h2 : y < 0) (h3 : figs (if (if x < 0 then -x else x).fdiv (10 ^ (0 - y).toNat) < 0 then -(if x < 0 then -x else x).fdiv (10 ^ (0 - y).toNat) else (if x < 0 then -x else x).fdiv (10 ^ (0 - y).toNat)) ≤ d) (h4 : d ≤ 20) : Con w mean mg mb 5 94 [.ref D, .int d t3] news (RetT news (dfix x y).1 (dfix x y).2) := by
  k_with_none
  k_with "call ref" => (k_here; (with_reducible show wpAny _ _ (call (Value.ref 66) _) _ _ _); k_dflt (refine Con.useT (by k_asm) (by k_asm) (by k_asm) (by k_asm) (by k_asm) (by first | exact rfl | assumption) (by ktr_room) (by ktr_units) (d_negated_c _ _ _ _ _ _ _ (by k_mem)) ?_); k_whole; intro D9 t9 u9 c9 h9 tk9 l9 F9 N9; (try simp only [AllLt, and_true] at l9); (try dsimp only); (try k_fold))
  k_with "call ref" => (k_here; (with_reducible show wpAny _ _ (call (Value.ref 73) _) _ _ _); k_dflt (refine Con.useT (by k_asm) (by k_asm) (by k_asm) (by k_asm) (by k_asm) (by first | exact rfl | assumption) (by ktr_room) (by ktr_units) (d_size_c _ _ _ _ _ _ _ (by k_mem)) ?_); k_whole; intro D9 t9 u9 c9 h9 tk9 l9 F9 N9; (try simp only [AllLt, and_true] at l9); (try dsimp only); (try k_fold))
  k_with "call ref" => (k_here; (with_reducible show wpAny _ _ (call (Value.ref 87) _) _ _ _); k_dflt (refine Con.useV (by k_asm) (by k_asm) (by k_asm) (by k_asm) (by k_asm) (by first | exact rfl | assumption) (by ktr_room) (by ktr_units) (d_whole_nn _ _ _ _ _ _ _ _ _ (by k_mem) (by first | assumption | omega)) ?_); k_whole; intro h9 tk9 F9 N9; (try dsimp only); (try k_fold))
  k_with "call ref" => (k_here; (with_reducible show wpAny _ _ (call (Value.ref 87) _) _ _ _); k_dflt (refine Con.useT (by k_asm) (by k_asm) (by k_asm) (by k_asm) (by k_asm) (by first | exact rfl | assumption) (by ktr_room) (by ktr_units) (d_whole_neg _ _ _ _ _ _ _ _ _ (by k_mem) (by first | assumption | omega) (by first | assumption | omega) (by first | assumption | omega) (by first | assumption | omega)) ?_); k_whole; intro D9 t9 u9 c9 h9 tk9 l9 F9 N9; (try simp only [AllLt, and_true] at l9); (try dsimp only); (try k_fold))
  unfold Con
  k_fill
  intro dp un gd cn cs a ccd cl outer A₀ base h₀ L m s Q E B F X N T hk hdp hun hret
  replace N := news_in N hm
  refine wpAny_call ?_
  k_dflt cell_enter
  k_steps
  all_goals refine end_T hret (by assumption) (by assumption) (by k_mem) (by intro p hp; repeat first | exact hp | refine List.Mem.tail _ ?_) (by first | assumption | exact allLt_of (by assumption) | exact And.right (by assumption) | exact And.right (And.right (by assumption)) | exact And.right (And.right (And.right (by assumption))) | exact And.right (And.right (And.right (And.right (by assumption)))) | exact And.right (And.right (And.right (And.right (And.right (by assumption)))))) ?_
  · rw [dfix_lt (by assumption), dfixA_neg h2]; exact ⟨rfl, rfl⟩
  · rw [dfix_ge (by assumption), dfixA_neg h2]; exact ⟨rfl, rfl⟩
theorem d_fix_nn (x y : Int) (D : Addr) (t1 t2 : Tok) (k : Nat) (d : Int) (t3 : Tok) (news : List (Addr × Obj)) (hm : (D, tupO x t1 y t2 k) ∈ news) (h1 : 0 ≤ y) : Con w mean mg mb 5 94 [.ref D, .int d t3] news (RetT news (dfix x y).1 (dfix x y).2) := by
  k_with_none
  k_with "call ref" => (k_here; (with_reducible show wpAny _ _ (call (Value.ref 66) _) _ _ _); k_dflt (refine Con.useT (by k_asm) (by k_asm) (by k_asm) (by k_asm) (by k_asm) (by first | exact rfl | assumption) (by ktr_room) (by ktr_units) (d_negated_c _ _ _ _ _ _ _ (by k_mem)) ?_); k_whole; intro D9 t9 u9 c9 h9 tk9 l9 F9 N9; (try simp only [AllLt, and_true] at l9); (try dsimp only); (try k_fold))
  k_with "call ref" => (k_here; (with_reducible show wpAny _ _ (call (Value.ref 73) _) _ _ _); k_dflt (refine Con.useT (by k_asm) (by k_asm) (by k_asm) (by k_asm) (by k_asm) (by first | exact rfl | assumption) (by ktr_room) (by ktr_units) (d_size_c _ _ _ _ _ _ _ (by k_mem)) ?_); k_whole; intro D9 t9 u9 c9 h9 tk9 l9 F9 N9; (try simp only [AllLt, and_true] at l9); (try dsimp only); (try k_fold))
  k_with "call ref" => (k_here; (with_reducible show wpAny _ _ (call (Value.ref 87) _) _ _ _); k_dflt (refine Con.useV (by k_asm) (by k_asm) (by k_asm) (by k_asm) (by k_asm) (by first | exact rfl | assumption) (by ktr_room) (by ktr_units) (d_whole_nn _ _ _ _ _ _ _ _ _ (by k_mem) (by first | assumption | omega)) ?_); k_whole; intro h9 tk9 F9 N9; (try dsimp only); (try k_fold))
  k_with "call ref" => (k_here; (with_reducible show wpAny _ _ (call (Value.ref 87) _) _ _ _); k_dflt (refine Con.useT (by k_asm) (by k_asm) (by k_asm) (by k_asm) (by k_asm) (by first | exact rfl | assumption) (by ktr_room) (by ktr_units) (d_whole_neg _ _ _ _ _ _ _ _ _ (by k_mem) (by first | assumption | omega) (by first | assumption | omega) (by first | assumption | omega) (by first | assumption | omega)) ?_); k_whole; intro D9 t9 u9 c9 h9 tk9 l9 F9 N9; (try simp only [AllLt, and_true] at l9); (try dsimp only); (try k_fold))
  unfold Con
  k_fill
  intro dp un gd cn cs a ccd cl outer A₀ base h₀ L m s Q E B F X N T hk hdp hun hret
  replace N := news_in N hm
  refine wpAny_call ?_
  k_dflt cell_enter
  k_steps
  all_goals refine end_T hret (by assumption) (by assumption) (by k_mem) (by intro p hp; repeat first | exact hp | refine List.Mem.tail _ ?_) (by first | assumption | exact allLt_of (by assumption) | exact And.right (by assumption) | exact And.right (And.right (by assumption)) | exact And.right (And.right (And.right (by assumption))) | exact And.right (And.right (And.right (And.right (by assumption)))) | exact And.right (And.right (And.right (And.right (And.right (by assumption)))))) ?_
  · rw [dfix_lt (by assumption), dfixA_nn h1]; exact ⟨rfl, rfl⟩
  · rw [dfix_ge (by assumption), dfixA_nn h1]; exact ⟨rfl, rfl⟩
end
/-- a plain number over a unit, half to even -/
def rndi (n u : Int) : Int := if u < 2 * (n - n.fdiv u * u) ∨ (2 * (n - n.fdiv u * u) = u ∧ (n.fdiv u).fmod 2 = 1) then n.fdiv u + 1 else n.fdiv u
section
theorem law_rounded_c (n u : Int) (t1 t2 : Tok) (news : List (Addr × Obj)) (h0 : 0 ≤ n) (h0b : n < 2 ^ 64) (h1 : 0 < u) (h2 : u.natAbs.log2 < 9000) : Con w mean mg mb 1 199 [.int n t1, .int u t2] news (RetI news (rndi n u)) := by
  k_with_none
  k_with "binaryOp FloorDiv int int" => (with_reducible refine floordiv_int (by omega) ?_ (Or.inl (PyProof.noPylong_of_log2 (by assumption))))
  unfold Con
  k_fill
  intro dp un gd cn cs a ccd cl outer A₀ base h₀ L m s Q E B F X N T hk hdp hun hret
  refine wpAny_call ?_
  k_dflt cell_enter
  have h3 : 0 ≤ n.fdiv u := Int.fdiv_nonneg h0 (by omega)
  have h4 : n.fdiv u < 2 ^ 64 := by
    rw [Int.fdiv_eq_ediv_of_nonneg _ (by omega)]
    exact Int.lt_of_le_of_lt (Int.ediv_le_self _ h0) h0b
  k_steps
  all_goals refine end_I hret (by assumption) (by assumption) (by intro p hp; repeat first | exact hp | refine List.Mem.tail _ ?_) ?_
  · exact (if_pos (.inl (by assumption))).symm
  · exact (if_pos (.inr ⟨by assumption, by assumption⟩)).symm
  · exact (if_neg (by rintro (h | ⟨h, h'⟩) <;> omega)).symm
  · exact (if_neg (by rintro (h | ⟨h, h'⟩) <;> omega)).symm
end
abbrev boxO (b0 : Int) (s0 : Tok) (b1 : Int) (s1 : Tok) (c : Nat) : Obj := PySem.W.listOf #[.int b0 s0, .int b1 s1] c
def RetK (B1 : Addr) (b1 many : Int) (news : List (Addr × Obj)) (v : Value) (news' : List (Addr × Obj)) : Prop := ∃ (x : Int) (t : Tok) (b0' : Int) (s0' s1' : Tok) (c' : Nat), v = .int x t ∧ 0 ≤ x ∧ x < many ∧ 0 ≤ b0' ∧ news' = (B1, boxO b0' s0' (b1 + 1) s1' c') :: news
theorem Con.useK {w : World} {mean : ExcName → Option Value} {mg mb : Str → Option Value} {lv : Nat} {f : Addr} {vs : List Value} {news : List (Addr × Obj)} {B1 : Addr} {b1 many b0 : Int} {s0 s1 : Tok} {c0 : Nat}
    {dp un : Nat} {gd : Option (List Code)} {cn : Str} {cs : Scope} {a : Addr} {ccd : Value} {cl : List (Str × Addr)} {outer : List Env} {A₀ : Around} {base h₀ : Heap} {L : Addr} {m : Str → Option Value} {s : Shared} {Q E : Value → Shared → Prop}
    (B : Below A₀ base outer h₀) (F : Fr h₀ L s.heap m) (X : (hd.heap_39 w.params).In h₀) (N : News h₀ L s.heap ((B1, boxO b0 s0 b1 s1 c0) :: news)) (T : Top hd.view_39 (looseW hd.view_39 [Str.ofString "BasicError"]) mean mg mb h₀) (hk : cs.kind = .function)
    (h1 : dp + lv < recursionLimit) (h2 : un + 8 * lv < cLine) (C : Con w mean mg mb lv f vs ((B1, boxO b0 s0 b1 s1 c0) :: news) (RetK B1 b1 many news))
  (ret : ∀ (x : Int) (t : Tok) (b0' : Int) (s0' s1' : Tok) (c' : Nat) (h' : Heap) (tk' : Nat), 0 ≤ x → x < many → 0 ≤ b0' → Fr h₀ L h' m → News h₀ L h' ((B1, boxO b0' s0' (b1 + 1) s1' c') :: news) → Q (.int x t) { s with heap := h', toks := tk' }) :
    wpAny (model PySem.Challenge.rw_pq0171_01.row.prog w) (ktrTop dp un gd cn cs L a ccd cl outer) (call (.ref f) vs) Q E s :=
  C.use B F X N T hk h1 h2 fun v n h' tk' r F' N' => by obtain ⟨x, t, b0', s0', s1', c', rfl, h1, h2, h3, rfl⟩ := r; exact ret x t b0' s0' s1' c' h' tk' h1 h2 h3 F' N'
theorem Con.useK2 {w : World} {mean : ExcName → Option Value} {mg mb : Str → Option Value} {lv : Nat} {f : Addr} {vs : List Value} {news : List (Addr × Obj)} {B1 : Addr} {b1 many : Int} {led : List (Addr × Obj)}
    {dp un : Nat} {gd : Option (List Code)} {cn : Str} {cs : Scope} {a : Addr} {ccd : Value} {cl : List (Str × Addr)} {outer : List Env} {A₀ : Around} {base h₀ : Heap} {L : Addr} {m : Str → Option Value} {s : Shared} {Q E : Value → Shared → Prop}
    (B : Below A₀ base outer h₀) (F : Fr h₀ L s.heap m) (X : (hd.heap_39 w.params).In h₀) (N : News h₀ L s.heap led) (T : Top hd.view_39 (looseW hd.view_39 [Str.ofString "BasicError"]) mean mg mb h₀) (hk : cs.kind = .function)
    (h1 : dp + lv < recursionLimit) (h2 : un + 8 * lv < cLine) (C : Con w mean mg mb lv f vs led (RetK B1 b1 many news))
  (ret : ∀ (x : Int) (t : Tok) (b0' : Int) (s0' s1' : Tok) (c' : Nat) (h' : Heap) (tk' : Nat), 0 ≤ x → x < many → 0 ≤ b0' → Fr h₀ L h' m → News h₀ L h' ((B1, boxO b0' s0' (b1 + 1) s1' c') :: news) → Q (.int x t) { s with heap := h', toks := tk' }) :
    wpAny (model PySem.Challenge.rw_pq0171_01.row.prog w) (ktrTop dp un gd cn cs L a ccd cl outer) (call (.ref f) vs) Q E s :=
  C.use B F X N T hk h1 h2 fun v n h' tk' r F' N' => by obtain ⟨x, t, b0', s0', s1', c', rfl, h1, h2, h3, rfl⟩ := r; exact ret x t b0' s0' s1' c' h' tk' h1 h2 h3 F' N'
theorem law_take_c (b0 b1 many : Int) (B1 : Addr) (s0 s1 t1 : Tok) (c : Nat) (news : List (Addr × Obj)) (ho : OwnOff news [B1]) (h0 : 0 ≤ b0) (h1 : 0 ≤ b1) (h1b : b1 < 10000) (h2 : 0 < many) (h3 : many < 1073741824) : Con w mean mg mb 1 164 [.ref B1, .int many t1] ((B1, boxO b0 s0 b1 s1 c) :: news) (RetK B1 b1 many news) := by
  k_with_none
  unfold Con
  k_fill
  intro dp un gd cn cs a ccd cl outer A₀ base h₀ L m s Q E B F X N T hk hdp hun hret
  refine wpAny_call ?_
  k_dflt cell_enter
  have hmk := kstMark
  k_steps
  · refine hret _ _ _ _ ⟨_, _, _, _, _, _, rfl, Int.fmod_nonneg_of_pos _ h2, Int.fmod_lt_of_pos _ h2, ?_, rfl⟩ (by assumption) (by assumption)
    exact Int.fdiv_nonneg h0 (by omega)
  · exact hret _ _ _ _ ⟨_, _, _, _, _, _, rfl, Int.fmod_nonneg_of_pos _ h2, Int.fmod_lt_of_pos _ h2, h0, rfl⟩ (by assumption) (by assumption)
end Mine

namespace Mine
variable {w : World} {mean : ExcName → Option Value} {mg mb : Str → Option Value}
/-! texts as lists of code points -/
theorem txt_append (a b : List Nat) : txt a ++ txt b = txt (a ++ b) := Str.ext' (by rw [Str.cps_append]; simp)
theorem txt_len (l : List Nat) : (txt l).length = l.length := by show l.toArray.size = _; simp
theorem txt_inj {a b : List Nat} : (txt a == txt b) = decide (a = b) := by
  by_cases h : a = b
  · subst h; simp
  · rw [decide_eq_false h]
    refine beq_eq_false_iff_ne.mpr fun e => h ?_
    have := congrArg (fun s : Str => s.cps.toList) e
    simpa [txt] using this
theorem lit_txt {s : String} {l : List Nat} (h : (Str.ofString s).cps.toList = l) : Str.ofString s = txt l := Str.ext' (by rw [← h])
theorem item_txt {l : List Nat} {i : Int} (h0 : 0 ≤ i) (h1 : i < (l.length : Int)) : Txt.item (txt l) i = txt [l.getD i.toNat 0] := by
  have hl : i < ((txt l).length : Int) := by rw [txt_len]; exact h1
  have hn : (txt l).cps[i.toNat]? = some (l.getD i.toNat 0) := by
    have : i.toNat < l.length := by omega
    simp [List.getD_eq_getElem?_getD, List.getElem?_eq_getElem this]
  unfold Txt.item Txt.charAt
  rw [StrLaws.at_nonneg h0 hn]
  rfl
theorem slice_txt {l : List Nat} {i j : Int} (h0 : 0 ≤ i) (h1 : i ≤ j) (h2 : j ≤ (l.length : Int)) : Txt.slice (txt l) (some i) (some j) = txt ((l.drop i.toNat).take (j - i).toNat) := by
  have := StrLaws.sliceText_plain (x := txt l) (i := i) (j := j) ⟨h0, h1, by simpa [txt] using h2⟩
  exact this
theorem slice_to {l : List Nat} {j : Int} (h0 : 0 ≤ j) (h2 : j ≤ (l.length : Int)) : Txt.slice (txt l) none (some j) = txt (l.take j.toNat) := by
  have := StrLaws.sliceText_to (x := txt l) (j := j) ⟨h0, by simpa [txt] using h2⟩
  rw [List.drop_zero, Int.sub_zero] at this
  exact this
theorem slice_from {l : List Nat} {i : Int} (h0 : 0 ≤ i) (h2 : i ≤ (l.length : Int)) : Txt.slice (txt l) (some i) none = txt (l.drop i.toNat) := by
  have := StrLaws.sliceText_from (x := txt l) (i := i) ⟨h0, by simpa [txt] using h2⟩
  refine Eq.trans this ?_
  have e : ((txt l).cps.toList.drop i.toNat).take (((txt l).cps.toList.length : Int) - i).toNat = l.drop i.toNat := by
    show (l.drop i.toNat).take ((l.length : Int) - i).toNat = _
    apply List.take_of_length_le
    rw [List.length_drop]
    omega
  rw [e]
theorem mul_zeros (e : Int) : Txt.mul (Str.ofString "0") e = txt (List.replicate e.toNat 48) := by
  unfold Txt.mul
  by_cases h : e < 1
  · rw [if_pos h, show e.toNat = 0 by omega]; rfl
  · rw [if_neg h]
    by_cases h1 : e = 1
    · subst h1; rfl
    · have hc : ¬ ((e == 1 || (Str.ofString "0").length == 0) = true) := by
        have : (Str.ofString "0").length = 1 := rfl
        simp [h1, this]
      rw [if_neg hc]
      refine Str.ext' ?_
      have gen : ∀ (n : Nat) (acc : Array Nat), (List.replicate n (Str.ofString "0").cps).foldl (· ++ ·) acc = acc ++ (List.replicate n 48).toArray := by
        intro n
        induction n with
        | zero => intro acc; simp
        | succ n ih =>
          intro acc
          rw [List.replicate_succ, List.foldl_cons, ih, List.replicate_succ]
          have : (Str.ofString "0").cps = #[48] := rfl
          rw [this]
          apply Array.ext'
          simp
      show (List.replicate e.toNat (Str.ofString "0").cps).foldl (· ++ ·) #[] = _
      rw [gen]
      simp
/-! a run of figures -/
def isFig (c : Nat) : Bool := decide (48 ≤ c) && decide (c ≤ 57)
def val (l : List Nat) : Int := l.foldl (fun (a : Int) (c : Nat) => 10 * a + (c : Int) - 48) 0
def runL (l : List Nat) (i : Nat) : List Nat := (l.drop i).takeWhile isFig
theorem val_snoc (l : List Nat) (c : Nat) : val (l ++ [c]) = 10 * val l + (c : Int) - 48 := by unfold val; rw [List.foldl_append]; rfl
def RunP (x : Str) (i f k : Int) : Prop := 0 ≤ i ∧ i ≤ k ∧ k ≤ (x.length : Int) ∧ f = val ((x.cps.toList.drop i.toNat).take (k - i).toNat) ∧ ∀ c ∈ (x.cps.toList.drop i.toNat).take (k - i).toNat, isFig c = true
theorem run_start {x : Str} {i : Int} (h0 : 0 ≤ i) (h1 : i ≤ x.length) : RunP x i 0 i := by
  refine ⟨h0, Int.le_refl _, h1, ?_, ?_⟩
  · rw [Int.sub_self]; rfl
  · rw [Int.sub_self]; intro c hc; simp at hc
theorem cons_lt_one {a b : Nat} : ([a] < [b]) ↔ a < b := by
  constructor
  · intro h
    cases h with
    | rel h => exact h
    | cons h => cases h
  · intro h; exact List.Lex.rel h
theorem lt0 {x : Str} {k : Int} (h0 : 0 ≤ k) (h1 : k < (x.length : Int)) : ((Txt.item x k).cps.toList < (Str.ofString "0").cps.toList) = (x.cps.toList.getD k.toNat 0 < 48) := by
  obtain ⟨⟨l⟩⟩ := x
  have := item_txt (l := l) h0 (by simpa [Str.length] using h1)
  rw [show (⟨⟨l⟩⟩ : Str) = txt l from rfl, this]
  show ([l.getD k.toNat 0] < [48]) = (l.getD k.toNat 0 < 48)
  exact propext cons_lt_one
theorem lt9 {x : Str} {k : Int} (h0 : 0 ≤ k) (h1 : k < (x.length : Int)) : ((Str.ofString "9").cps.toList < (Txt.item x k).cps.toList) = (57 < x.cps.toList.getD k.toNat 0) := by
  obtain ⟨⟨l⟩⟩ := x
  have := item_txt (l := l) h0 (by simpa [Str.length] using h1)
  rw [show (⟨⟨l⟩⟩ : Str) = txt l from rfl, this]
  show ([57] < [l.getD k.toNat 0]) = (57 < l.getD k.toNat 0)
  exact propext cons_lt_one
theorem ordv {x : Str} {k : Int} (h0 : 0 ≤ k) (h1 : k < (x.length : Int)) : (Txt.item x k).cps.getD 0 0 = x.cps.toList.getD k.toNat 0 := by
  obtain ⟨⟨l⟩⟩ := x
  have := item_txt (l := l) h0 (by simpa [Str.length] using h1)
  rw [show (⟨⟨l⟩⟩ : Str) = txt l from rfl, this]
  rfl
theorem run_more {l : List Nat} {i k : Int} (h0 : 0 ≤ i) (h1 : i ≤ k) (h2 : k < (l.length : Int)) : (l.drop i.toNat).take (k + 1 - i).toNat = (l.drop i.toNat).take (k - i).toNat ++ [l.getD k.toNat 0] := by
  rw [show (k + 1 - i).toNat = (k - i).toNat + 1 by omega, List.take_add_one, List.getElem?_drop, show i.toNat + (k - i).toNat = k.toNat by omega]
  have : k.toNat < l.length := by omega
  simp [List.getD_eq_getElem?_getD, List.getElem?_eq_getElem this]
theorem run_turn {x : Str} {i f k : Int} (h : RunP x i f k) (h1 : k < (x.length : Int)) (h2 : ¬ (Txt.item x k).cps.toList < (Str.ofString "0").cps.toList) (h3 : ¬ (Str.ofString "9").cps.toList < (Txt.item x k).cps.toList) :
    RunP x i (10 * f + ((Txt.item x k).cps.getD 0 0 : Nat) - 48) (k + 1) := by
  obtain ⟨a, b, c, d, e⟩ := h
  rw [lt0 (by omega) h1] at h2
  rw [lt9 (by omega) h1] at h3
  rw [ordv (by omega) h1]
  have hl : (x.length : Int) = (x.cps.toList.length : Int) := by simp [Str.length]
  have m := run_more (l := x.cps.toList) a b (by omega)
  refine ⟨a, by omega, by omega, ?_, ?_⟩
  · rw [m, val_snoc, d]
  · rw [m]
    intro y hy
    rcases List.mem_append.mp hy with hy | hy
    · exact e y hy
    · rw [List.mem_singleton.mp hy]
      unfold isFig
      rw [decide_eq_true (by omega), decide_eq_true (by omega)]
      rfl
theorem takeWhile_of {p : Nat → Bool} {l : List Nat} {n : Nat} (h : ∀ c ∈ l.take n, p c = true) (h2 : ∀ c, l[n]? = some c → p c = false) (h3 : n ≤ l.length) : l.takeWhile p = l.take n := by
  induction l generalizing n with
  | nil => simp
  | cons a l ih =>
    cases n with
    | zero =>
      have := h2 a rfl
      simp [List.takeWhile_cons, this]
    | succ n =>
      have ha := h a (by simp)
      rw [List.takeWhile_cons, if_pos ha, List.take_succ_cons, ih (n := n) (fun c hc => h c (by rw [List.take_succ_cons]; exact List.mem_cons_of_mem _ hc)) (fun c hc => h2 c (by simpa using hc)) (by simpa using h3)]
theorem run_end {l : List Nat} {i f k : Int} (h : RunP (txt l) i f k) (hs : ∀ c, l[k.toNat]? = some c → isFig c = false) : f = val (runL l i.toNat) ∧ k - i = ((runL l i.toNat).length : Int) ∧ k = i + ((runL l i.toNat).length : Int) := by
  obtain ⟨a, b, c, d, e⟩ := h
  rw [txt_len] at c
  have hr : runL l i.toNat = (l.drop i.toNat).take (k - i).toNat := by
    refine takeWhile_of e (fun c hc => hs c ?_) ?_
    · rw [List.getElem?_drop, show i.toNat + (k - i).toNat = k.toNat by omega] at hc
      exact hc
    · rw [List.length_drop]; omega
  have hlen : ((runL l i.toNat).length : Int) = k - i := by
    rw [hr, List.length_take, List.length_drop]; omega
  refine ⟨by rw [hr]; exact d, by omega, by omega⟩
theorem run_end1 {l : List Nat} {i f k : Int} (h : RunP (txt l) i f k) (h1 : k < ((txt l).length : Int)) (h2 : (Txt.item (txt l) k).cps.toList < (Str.ofString "0").cps.toList) : f = val (runL l i.toNat) ∧ k - i = ((runL l i.toNat).length : Int) ∧ k = i + ((runL l i.toNat).length : Int) := by
  have h0 : 0 ≤ k := by have := h.1; have := h.2.1; omega
  rw [lt0 h0 h1] at h2
  refine run_end h fun c hc => ?_
  have : l.getD k.toNat 0 = c := by rw [List.getD_eq_getElem?_getD, hc]; rfl
  have h2' : l.getD k.toNat 0 < 48 := h2
  unfold isFig
  rw [decide_eq_false (by omega)]; rfl
theorem run_end2 {l : List Nat} {i f k : Int} (h : RunP (txt l) i f k) (h1 : k < ((txt l).length : Int)) (h2 : (Str.ofString "9").cps.toList < (Txt.item (txt l) k).cps.toList) : f = val (runL l i.toNat) ∧ k - i = ((runL l i.toNat).length : Int) ∧ k = i + ((runL l i.toNat).length : Int) := by
  have h0 : 0 ≤ k := by have := h.1; have := h.2.1; omega
  rw [lt9 h0 h1] at h2
  refine run_end h fun c hc => ?_
  have : l.getD k.toNat 0 = c := by rw [List.getD_eq_getElem?_getD, hc]; rfl
  have h2' : 57 < l.getD k.toNat 0 := h2
  unfold isFig
  rw [decide_eq_false (p := c ≤ 57) (by omega)]; exact Bool.and_false _
theorem run_end3 {l : List Nat} {i f k : Int} (h : RunP (txt l) i f k) (h1 : ¬ k < ((txt l).length : Int)) : f = val (runL l i.toNat) ∧ k - i = ((runL l i.toNat).length : Int) ∧ k = i + ((runL l i.toNat).length : Int) := by
  refine run_end h fun c hc => ?_
  rw [txt_len] at h1
  rw [List.getElem?_eq_none (by omega)] at hc
  cases hc
abbrev triO (x : Int) (t1 : Tok) (y : Int) (t2 : Tok) (z : Int) (t3 : Tok) (c : Nat) : Obj := { cls := .type "tuple", data := .seq #[.int x t1, .int y t2, .int z t3] c }
def RetT3 (news : List (Addr × Obj)) (x y z : Int) (v : Value) (news' : List (Addr × Obj)) : Prop := ∃ D t1 t2 t3 c, v = .ref D ∧ news' = (D, triO x t1 y t2 z t3 c) :: news ∧ AllLt D news
theorem Con.use3 {w : World} {mean : ExcName → Option Value} {mg mb : Str → Option Value} {lv : Nat} {f : Addr} {vs : List Value} {news : List (Addr × Obj)} {x y z : Int}
    {dp un : Nat} {gd : Option (List Code)} {cn : Str} {cs : Scope} {a : Addr} {ccd : Value} {cl : List (Str × Addr)} {outer : List Env} {A₀ : Around} {base h₀ : Heap} {L : Addr} {m : Str → Option Value} {s : Shared} {Q E : Value → Shared → Prop}
    (B : Below A₀ base outer h₀) (F : Fr h₀ L s.heap m) (X : (hd.heap_39 w.params).In h₀) (N : News h₀ L s.heap news) (T : Top hd.view_39 (looseW hd.view_39 [Str.ofString "BasicError"]) mean mg mb h₀) (hk : cs.kind = .function)
    (h1 : dp + lv < recursionLimit) (h2 : un + 8 * lv < cLine) (C : Con w mean mg mb lv f vs news (RetT3 news x y z))
  (ret : ∀ (D : Addr) (t1 t2 t3 : Tok) (c : Nat) (h' : Heap) (tk' : Nat), AllLt D news → Fr h₀ L h' m → News h₀ L h' ((D, triO x t1 y t2 z t3 c) :: news) → Q (.ref D) { s with heap := h', toks := tk' }) :
    wpAny (model PySem.Challenge.rw_pq0171_01.row.prog w) (ktrTop dp un gd cn cs L a ccd cl outer) (call (.ref f) vs) Q E s :=
  C.use B F X N T hk h1 h2 fun v n h' tk' r F' N' => by obtain ⟨D, t1, t2, t3, c, rfl, rfl, hl⟩ := r; exact ret D t1 t2 t3 c h' tk' hl F' N'
theorem end_T3 {h₀ h' : Heap} {L : Addr} {m : Str → Option Value} {news news2 : List (Addr × Obj)} {s : Shared} {Q : Value → Shared → Prop} {tk' : Nat} {x y z x' y' z' : Int} {D : Addr} {t1 t2 t3 : Tok} {c : Nat} (hret : ∀ (v : Value) (news' : List (Addr × Obj)) (h' : Heap) (tk' : Nat), RetT3 news x y z v news' → Fr h₀ L h' m → News h₀ L h' news' → Q v { s with heap := h', toks := tk' })
    (F : Fr h₀ L h' m) (N : News h₀ L h' news2) (hm : (D, triO x' t1 y' t2 z' t3 c) ∈ news2) (hs : ∀ p ∈ news, p ∈ news2) (hl : AllLt D news) (e : x' = x ∧ y' = y ∧ z' = z) : Q (.ref D) { s with heap := h', toks := tk' } := by
  obtain ⟨rfl, rfl, rfl⟩ := e
  refine hret _ _ _ _ ⟨D, t1, t2, t3, c, rfl, rfl, hl⟩ F (news_sub N fun p hp => ?_)
  rcases List.mem_cons.mp hp with rfl | hp
  · exact hm
  · exact hs p hp
section
theorem run_of_figures_c (l : List Nat) (u : Tok) (i : Int) (t : Tok) (news : List (Addr × Obj)) (h0 : 0 ≤ i) (h1 : i ≤ (txt l).length) (h2 : (txt l).length < 200) : Con w mean mg mb 1 136 [.str (txt l) u, .int i t] news (RetT3 news (val (runL l i.toNat)) (runL l i.toNat).length (i + ((runL l i.toNat).length : Int))) := by
  k_with_none
  k_with "exec While BoolOp cons nil" => k_while_given ["text", "begin"] (fun text begin _ found at_ => begin ≤ at_ ∧ 0 ≤ at_ ∧ at_ ≤ text.length ∧ RunP text begin found at_) (fun text _ _ _ at_ => (text.length - at_).toNat) "found" "at"
  unfold Con
  k_fill
  intro dp un gd cn cs a ccd cl outer A₀ base h₀ L m s Q E B F X N T hk hdp hun hret
  refine wpAny_call ?_
  k_dflt cell_enter
  k_with "state" => first | exact ⟨Int.le_refl _, h0, h1, run_start h0 h1⟩ | exact ⟨by omega, by omega, by omega, run_turn (by assumption) (by assumption) (by assumption) (by assumption)⟩
  k_steps
  all_goals refine end_T3 hret (by assumption) (by assumption) (by k_mem) (by intro p hp; repeat first | exact hp | refine List.Mem.tail _ ?_) (by first | assumption | exact allLt_of (by assumption) | exact And.right (by assumption) | exact And.right (And.right (by assumption)) | exact And.right (And.right (And.right (by assumption))) | exact And.right (And.right (And.right (And.right (by assumption)))) | exact And.right (And.right (And.right (And.right (And.right (by assumption)))))) ?_
  · exact run_end1 (by assumption) (by assumption) (by assumption)
  · exact run_end2 (by assumption) (by assumption) (by assumption)
  · exact run_end3 (by assumption) (by assumption)
end
end Mine

namespace Mine
variable {w : World} {mean : ExcName → Option Value} {mg mb : Str → Option Value}
def expA (S : Int) : List Nat := if (dg S.toNat).length < 2 then 48 :: dg S.toNat else dg S.toNat
def expL (e : Int) : List Nat := (if e < 0 then 45 else 43) :: expA (if e < 0 then -e else e)
theorem expA_len {S : Int} (h2 : S < 10 ^ 20) : (expA S).length ≤ 21 := by
  have := dg_le20 h2
  unfold expA
  split
  · simp; omega
  · omega
theorem expL_len {e : Int} (h1 : -(10 ^ 20) < e) (h2 : e < 10 ^ 20) : (txt (expL e)).length ≤ 22 := by
  have := expA_len (S := (if e < 0 then -e else e)) (by split <;> omega)
  rw [txt_len]
  unfold expL
  rw [List.length_cons]
  omega
theorem expA_1 {S : Int} (h : ((txt (dg S.toNat)).length : Int) < 2) : [48] ++ dg S.toNat = expA S := by
  rw [txt_len] at h
  unfold expA; rw [if_pos (by omega)]; rfl
theorem expA_2 {S : Int} (h : ¬ ((txt (dg S.toNat)).length : Int) < 2) : dg S.toNat = expA S := by
  rw [txt_len] at h
  unfold expA; rw [if_neg (by omega)]
theorem expL_1 {e : Int} (h : e < 0) : [45] ++ expA (if e < 0 then -e else e) = expL e := by
  unfold expL; rw [show (if e < 0 then 45 else 43) = 45 from if_pos h]; rfl
theorem expL_2 {e : Int} (h : ¬ e < 0) : [43] ++ expA (if e < 0 then -e else e) = expL e := by
  unfold expL; rw [show (if e < 0 then 45 else 43) = 43 from if_neg h]; rfl
theorem lit_dot : Str.ofString "." = txt [46] := lit_txt rfl
theorem lit_minus : Str.ofString "-" = txt [45] := lit_txt rfl
theorem lit_plus : Str.ofString "+" = txt [43] := lit_txt rfl
theorem lit_E : Str.ofString "E" = txt [69] := lit_txt rfl
theorem lit_0 : Str.ofString "0" = txt [48] := lit_txt rfl
theorem lit_blank : Str.ofString " " = txt [32] := lit_txt rfl
theorem lit_nil : Str.ofString "" = txt [] := lit_txt rfl
section
theorem exponent_text_c (e : Int) (t2 : Tok) (news : List (Addr × Obj)) (h2 : -(10 ^ 20) < e) (h3 : e < 10 ^ 20) : Con w mean mg mb 2 115 [.int e t2] news (RetS news (txt (expL e))) := by
  k_with_none
  k_with "call ref" => (k_here; (with_reducible show wpAny _ _ (call (Value.ref 108) _) _ _ _); k_dflt (refine Con.useS (by k_asm) (by k_asm) (by k_asm) (by k_asm) (by k_asm) (by first | exact rfl | assumption) (by ktr_room) (by ktr_units) (figures_text_c _ _ _ (by first | assumption | omega) (by first | assumption | omega)) ?_); k_whole; intro t9 h9 tk9 F9 N9; (try dsimp only); (try k_fold))
  unfold Con
  k_fill
  intro dp un gd cn cs a ccd cl outer A₀ base h₀ L m s Q E B F X N T hk hdp hun hret
  refine wpAny_call ?_
  k_dflt cell_enter
  have hl : (txt (dg (if e < 0 then -e else e).toNat)).length ≤ 20 := dg_le20 (by split <;> omega)
  have hl1 : 1 ≤ (txt (dg (if e < 0 then -e else e).toNat)).length := dg_pos _
  k_steps
  all_goals refine end_S hret (by assumption) (by assumption) (by intro p hp; repeat first | exact hp | refine List.Mem.tail _ ?_) ?_
  all_goals (simp only [lit_minus, lit_plus, lit_0, txt_append])
  · rw [expA_1 (by assumption), expL_1 (by assumption)]
  · rw [expA_2 (by assumption), expL_1 (by assumption)]
  · rw [expA_1 (by assumption), expL_2 (by assumption)]
  · rw [expA_2 (by assumption), expL_2 (by assumption)]
end
/-- a decimal above nought as a text -/
def szL (z e d : Int) : List Nat :=
  if 0 ≤ e ∧ e + ((dg z.toNat).length : Int) - 1 < d then dg z.toNat ++ List.replicate e.toNat 48
  else if e < 0 ∧ 0 ≤ e + ((dg z.toNat).length : Int) - 1 then (dg z.toNat).take (e + ((dg z.toNat).length : Int) - 1 + 1).toNat ++ [46] ++ (dg z.toNat).drop (e + ((dg z.toNat).length : Int) - 1 + 1).toNat
  else if e + ((dg z.toNat).length : Int) - 1 < 0 ∧ 0 - e ≤ d then [46] ++ List.replicate (0 - e - ((dg z.toNat).length : Int)).toNat 48 ++ dg z.toNat
  else [(dg z.toNat).getD 0 0] ++ (if 1 < ((dg z.toNat).length : Int) then [46] ++ (dg z.toNat).drop 1 else []) ++ [69] ++ expL (e + ((dg z.toNat).length : Int) - 1)
section
theorem sz1 {z e d : Int} (h1 : 0 ≤ e) (h2 : e + ((txt (dg z.toNat)).length : Int) - 1 < d) : txt (dg z.toNat) ++ Txt.mul (Str.ofString "0") e = txt (szL z e d) := by
  rw [txt_len] at h2
  rw [mul_zeros, txt_append]; unfold szL; rw [if_pos ⟨h1, h2⟩]
theorem sz2 {z e d : Int} (n1 : ¬ (0 ≤ e ∧ e + ((txt (dg z.toNat)).length : Int) - 1 < d)) (n2 : ¬ (e < 0 ∧ 0 ≤ e + ((txt (dg z.toNat)).length : Int) - 1)) (n3 : ¬ (e + ((txt (dg z.toNat)).length : Int) - 1 < 0 ∧ 0 - e ≤ d)) (h : 1 < ((txt (dg z.toNat)).length : Int)) :
    Txt.item (txt (dg z.toNat)) 0 ++ (Str.ofString "." ++ Txt.slice (txt (dg z.toNat)) (some 1) none) ++ Str.ofString "E" ++ txt (expL (e + ((txt (dg z.toNat)).length : Int) - 1)) = txt (szL z e d) := by
  rw [txt_len] at *
  rw [item_txt (by omega) (by omega), slice_from (by omega) (by omega), lit_dot, lit_E]; simp only [txt_append]
  unfold szL; rw [if_neg n1, if_neg n2, if_neg n3, if_pos h]; rfl
theorem sz3 {z e d : Int} (n1 : ¬ (0 ≤ e ∧ e + ((txt (dg z.toNat)).length : Int) - 1 < d)) (n2 : ¬ (e < 0 ∧ 0 ≤ e + ((txt (dg z.toNat)).length : Int) - 1)) (n3 : ¬ (e + ((txt (dg z.toNat)).length : Int) - 1 < 0 ∧ 0 - e ≤ d)) (h : ¬ 1 < ((txt (dg z.toNat)).length : Int)) :
    Txt.item (txt (dg z.toNat)) 0 ++ Str.ofString "" ++ Str.ofString "E" ++ txt (expL (e + ((txt (dg z.toNat)).length : Int) - 1)) = txt (szL z e d) := by
  have hp := dg_pos z.toNat
  rw [txt_len] at *
  rw [item_txt (by omega) (by omega), lit_nil, lit_E]; simp only [txt_append]
  unfold szL; rw [if_neg n1, if_neg n2, if_neg n3, if_neg h]; rfl
theorem sz4 {z e d : Int} (h1 : e < 0) (h2 : 0 ≤ e + ((txt (dg z.toNat)).length : Int) - 1) :
    Txt.slice (txt (dg z.toNat)) none (some (e + ((txt (dg z.toNat)).length : Int) - 1 + 1)) ++ Str.ofString "." ++ Txt.slice (txt (dg z.toNat)) (some (e + ((txt (dg z.toNat)).length : Int) - 1 + 1)) none = txt (szL z e d) := by
  rw [txt_len] at *
  rw [slice_to (by omega) (by omega), slice_from (by omega) (by omega), lit_dot]; simp only [txt_append]
  unfold szL; rw [if_neg (by omega), if_pos ⟨h1, h2⟩]
theorem sz5 {z e d : Int} (h1 : e + ((txt (dg z.toNat)).length : Int) - 1 < 0) (h2 : 0 - e ≤ d) :
    Str.ofString "." ++ Txt.mul (Str.ofString "0") (0 - e - ((txt (dg z.toNat)).length : Int)) ++ txt (dg z.toNat) = txt (szL z e d) := by
  have hp := dg_pos z.toNat
  rw [txt_len] at *
  rw [mul_zeros, lit_dot]; simp only [txt_append]
  unfold szL; rw [if_neg (by omega), if_neg (by omega), if_pos ⟨h1, h2⟩]
theorem size_text_c (z e d : Int) (t1 t2 t3 : Tok) (news : List (Addr × Obj)) (h0 : 0 < z) (h1 : z < 10 ^ 20) (h2 : -1000 < e) (h3 : e < 1000) (h4 : 0 < d) (h5 : d < 50) : Con w mean mg mb 3 122 [.int z t1, .int e t2, .int d t3] news (RetS news (txt (szL z e d))) := by
  k_with_none
  k_with "call ref" => (k_here; (with_reducible show wpAny _ _ (call (Value.ref 108) _) _ _ _); k_dflt (refine Con.useS (by k_asm) (by k_asm) (by k_asm) (by k_asm) (by k_asm) (by first | exact rfl | assumption) (by ktr_room) (by ktr_units) (figures_text_c _ _ _ (by first | assumption | omega) (by first | assumption | omega)) ?_); k_whole; intro t9 h9 tk9 F9 N9; (try dsimp only); (try k_fold))
  k_with "call ref" => (k_here; (with_reducible show wpAny _ _ (call (Value.ref 115) _) _ _ _); k_dflt (refine Con.useS (by k_asm) (by k_asm) (by k_asm) (by k_asm) (by k_asm) (by first | exact rfl | assumption) (by ktr_room) (by ktr_units) (exponent_text_c _ _ _ (by first | assumption | omega) (by first | assumption | omega)) ?_); k_whole; intro t9 h9 tk9 F9 N9; (try dsimp only); (try k_fold))
  unfold Con
  k_fill
  intro dp un gd cn cs a ccd cl outer A₀ base h₀ L m s Q E B F X N T hk hdp hun hret
  refine wpAny_call ?_
  k_dflt cell_enter
  have hl : (txt (dg z.toNat)).length ≤ 20 := dg_le20 h1
  have hl1 : 1 ≤ (txt (dg z.toNat)).length := dg_pos _
  have hl2 : (txt (expL (e + ((txt (dg z.toNat)).length : Int) - 1))).length ≤ 22 := expL_len (by omega) (by omega)
  k_steps
  all_goals refine end_S hret (by assumption) (by assumption) (by intro p hp; repeat first | exact hp | refine List.Mem.tail _ ?_) ?_
  · exact sz1 (by assumption) (by assumption)
  · exact sz2 (by omega) (by omega) (by omega) (by assumption)
  · exact sz3 (by omega) (by omega) (by omega) (by assumption)
  · exact sz4 (by omega) (by assumption)
  · exact sz5 (by omega) (by assumption)
  · exact sz2 (by omega) (by omega) (by omega) (by assumption)
  · exact sz3 (by omega) (by omega) (by omega) (by assumption)
end
/-- a decimal as a text -/
def dtA (s z y d : Int) : List Nat := (if s < 0 then 45 else 32) :: szL z y d
def dtL (x y d : Int) : List Nat := if x = 0 then [32, 48] else dtA x (if x < 0 then -x else x) y d
theorem dt1 {x y d : Int} (h : x = 0) : Str.ofString " 0" = txt (dtL x y d) := by
  unfold dtL; rw [if_pos h]; rfl
theorem dt2 {x y d : Int} (h : x ≠ 0) (h2 : x < 0) : Str.ofString "-" ++ txt (szL (if x < 0 then -x else x) y d) = txt (dtL x y d) := by
  unfold dtL; rw [if_neg h, lit_minus, txt_append]; unfold dtA; rw [show (if x < 0 then 45 else 32) = 45 from if_pos h2]; rfl
theorem dt3 {x y d : Int} (h : x ≠ 0) (h2 : ¬ x < 0) : Str.ofString " " ++ txt (szL (if x < 0 then -x else x) y d) = txt (dtL x y d) := by
  unfold dtL; rw [if_neg h, lit_blank, txt_append]; unfold dtA; rw [show (if x < 0 then 45 else 32) = 32 from if_neg h2]; rfl
theorem szL_len {z e d : Int} (h1 : z < 10 ^ 20) (h2 : -1000 < e) (h3 : e < 1000) : (txt (szL z e d)).length ≤ 1100 := by
  have hl := dg_le20 h1
  have hx := expL_len (e := e + ((dg z.toNat).length : Int) - 1) (by omega) (by omega)
  rw [txt_len] at *
  unfold szL
  split
  · rw [List.length_append, List.length_replicate]; omega
  · split
    · simp only [List.length_append, List.length_take, List.length_drop, List.length_cons, List.length_nil]; omega
    · split
      · simp only [List.length_append, List.length_replicate, List.length_cons, List.length_nil]; omega
      · simp only [List.length_append, List.length_cons, List.length_nil]
        split
        · simp only [List.length_append, List.length_cons, List.length_nil, List.length_drop]; omega
        · simp only [List.length_nil]; omega
section
theorem d_text_c (x y : Int) (D : Addr) (t1 t2 : Tok) (k : Nat) (d : Int) (t3 : Tok) (news : List (Addr × Obj)) (hm : (D, tupO x t1 y t2 k) ∈ news) (hx0 : -(10 ^ 20) < x) (hx1 : x < 10 ^ 20) (h2 : -1000 < y) (h3 : y < 1000) (h4 : 0 < d) (h5 : d < 50) : Con w mean mg mb 4 129 [.ref D, .int d t3] news (RetS news (txt (dtL x y d))) := by
  k_with_none
  k_with "call ref" => (k_here; (with_reducible show wpAny _ _ (call (Value.ref 122) _) _ _ _); k_dflt (refine Con.useS (by k_asm) (by k_asm) (by k_asm) (by k_asm) (by k_asm) (by first | exact rfl | assumption) (by ktr_room) (by ktr_units) (size_text_c _ _ _ _ _ _ _ (by first | assumption | omega | (split <;> omega)) (by first | assumption | omega | (split <;> omega)) (by first | assumption | omega) (by first | assumption | omega) (by first | assumption | omega) (by first | assumption | omega)) ?_); k_whole; intro t9 h9 tk9 F9 N9; (try dsimp only); (try k_fold))
  unfold Con
  k_fill
  intro dp un gd cn cs a ccd cl outer A₀ base h₀ L m s Q E B F X N T hk hdp hun hret
  replace N := news_in N hm
  refine wpAny_call ?_
  k_dflt cell_enter
  have hz : (txt (szL (if x < 0 then -x else x) y d)).length ≤ 1100 := szL_len (by split <;> omega) h2 h3
  k_steps
  all_goals refine end_S hret (by assumption) (by assumption) (by intro p hp; repeat first | exact hp | refine List.Mem.tail _ ?_) ?_
  · exact dt1 (by assumption)
  · exact dt2 (by assumption) (by assumption)
  · exact dt3 (by assumption) (by assumption)
end
end Mine

namespace Mine
variable {w : World} {mean : ExcName → Option Value} {mg mb : Str → Option Value}
def sg1 (l : List Nat) (a : Int) : Bool := l[a.toNat]? == some 45
def sg2 (l : List Nat) (a : Int) : Bool := l[a.toNat]? == some 43 || l[a.toNat]? == some 45
def isE (c : Nat) : Bool := [69, 101, 68, 100].contains c
theorem slice_one {l : List Nat} {a : Int} (h0 : 0 ≤ a) : Txt.slice (txt l) (some a) (some (a + 1)) = txt ((l.drop a.toNat).take 1) := by
  by_cases h : a + 1 ≤ (l.length : Int)
  · rw [slice_txt h0 (by omega) h, show (a + 1 - a).toNat = 1 by omega]
  · have hd : l.drop a.toNat = [] := List.drop_eq_nil_of_le (by omega)
    rw [hd]
    have hl : (txt l).length = l.length := txt_len l
    have key : Builtin.Str.strSliceIndices (some a) (some (a + 1)) 1 (txt l).length = [] := by
      unfold Builtin.Str.strSliceIndices sliceRange
      rw [hl]
      simp only [show (1 : Int) > 0 by decide, if_true]
      rw [if_neg (by omega : ¬ a < 0), if_neg (by omega : ¬ a + 1 < 0)]
      rw [show max 0 (min a (l.length : Int)) = (l.length : Int) by omega, show max 0 (min (a + 1) (l.length : Int)) = (l.length : Int) by omega]
      simp
    unfold Txt.slice
    rw [key]
    split
    · rename_i hh
      have : l.length = 0 := by
        rw [hl] at hh
        cases l with
        | nil => rfl
        | cons a t => simp at hh
      have : l = [] := List.length_eq_zero_iff.mp this
      rw [this]; rfl
    · rfl
theorem one_eq {l : List Nat} {n c : Nat} : (txt ((l.drop n).take 1) == txt [c]) = (l[n]? == some c) := by
  rw [txt_inj]
  have e : (l.drop n).take 1 = (match l[n]? with | some d => [d] | none => []) := by
    rw [List.take_one, List.head?_drop]
    cases l[n]? <;> rfl
  rw [e]
  cases h : l[n]? with
  | none => simp
  | some d => by_cases hd : d = c <;> simp [hd]
theorem slice_minus {l : List Nat} {a : Int} (h0 : 0 ≤ a) : (Txt.slice (txt l) (some a) (some (a + 1)) == Str.ofString "-") = sg1 l a := by
  rw [slice_one h0, lit_minus, one_eq]; rfl
theorem beq_symm_str (a b : Str) : (a == b) = (b == a) := by
  by_cases h : a = b
  · subst h; rfl
  · rw [beq_eq_false_iff_ne.mpr h, beq_eq_false_iff_ne.mpr (fun e => h e.symm)]
theorem slice_any {l : List Nat} {a : Int} (h0 : 0 ≤ a) : ([Str.ofString "+", Str.ofString "-"].any fun x => x == Txt.slice (txt l) (some a) (some (a + 1))) = sg2 l a := by
  simp only [List.any_cons, List.any_nil, Bool.or_false]
  rw [beq_symm_str _ (Txt.slice _ _ _), beq_symm_str _ (Txt.slice _ _ _), slice_one h0, lit_minus, lit_plus, one_eq, one_eq]; rfl
theorem any_in {l : List Nat} {a : Int} (h0 : 0 ≤ a) (h : ([Str.ofString "+", Str.ofString "-"].any fun x => x == Txt.slice (txt l) (some a) (some (a + 1))) = true) : a + 1 ≤ ((txt l).length : Int) := by
  rw [slice_any h0] at h
  rw [txt_len]
  unfold sg2 at h
  by_cases hl : a.toNat < l.length
  · omega
  · rw [List.getElem?_eq_none (by omega)] at h
    simp at h
theorem in_EeDd {l : List Nat} {i : Int} (h0 : 0 ≤ i) (h1 : ¬ ((txt l).length : Int) ≤ i) : (Builtin.Str.occurrences (Str.ofString "EeDd") (Txt.item (txt l) i) 0 (Str.ofString "EeDd").length 1).isEmpty = !(isE (l.getD i.toNat 0)) := by
  rw [txt_len] at h1
  rw [item_txt h0 (by omega)]
  have := StrLaws.found_one (Str.ofString "EeDd") (l.getD i.toNat 0)
  have e : (Str.ofString "EeDd").cps.toList = [69, 101, 68, 100] := rfl
  rw [e] at this
  have h2 : isE (l.getD i.toNat 0) = decide (l.getD i.toNat 0 ∈ [69, 101, 68, 100]) := by
    unfold isE
    rw [Bool.eq_iff_iff, List.contains_iff_mem, decide_eq_true_eq]
  rw [h2, ← this, Bool.not_not]
def expB (l : List Nat) (b s i : Int) : Int × Int := if ((runL l b.toNat).length : Int) = 0 then (0, i) else (s * (if 9999 < val (runL l b.toNat) then 9999 else val (runL l b.toNat)), b + ((runL l b.toNat).length : Int))
def expAt (l : List Nat) (i : Int) : Int × Int := if (l.length : Int) ≤ i then (0, i) else if isE (l.getD i.toNat 0) = false then (0, i) else expB l (if sg2 l (i + 1) = true then i + 1 + 1 else i + 1) (if sg1 l (i + 1) = true then -1 else 1) i
theorem ea1 {l : List Nat} {i : Int} (h : ((txt l).length : Int) ≤ i) : 0 = (expAt l i).1 ∧ i = (expAt l i).2 := by
  rw [txt_len] at h
  unfold expAt; rw [if_pos h]; exact ⟨rfl, rfl⟩
theorem ea2 {l : List Nat} {i : Int} (h0 : 0 ≤ i) (h : ¬ ((txt l).length : Int) ≤ i) (h1 : (Builtin.Str.occurrences (Str.ofString "EeDd") (Txt.item (txt l) i) 0 (Str.ofString "EeDd").length 1).isEmpty = true) : 0 = (expAt l i).1 ∧ i = (expAt l i).2 := by
  rw [in_EeDd h0 h] at h1
  rw [txt_len] at h
  unfold expAt; rw [if_neg h, if_pos (by simpa using h1)]; exact ⟨rfl, rfl⟩
theorem ea3 {l : List Nat} {i : Int} {b3 b4 : Bool} (h0 : 0 ≤ i) (h : ¬ ((txt l).length : Int) ≤ i) (h1 : (Builtin.Str.occurrences (Str.ofString "EeDd") (Txt.item (txt l) i) 0 (Str.ofString "EeDd").length 1).isEmpty = false)
    (h3 : (Txt.slice (txt l) (some (i + 1)) (some (i + 1 + 1)) == Str.ofString "-") = b3) (h4 : ([Str.ofString "+", Str.ofString "-"].any fun x => x == Txt.slice (txt l) (some (i + 1)) (some (i + 1 + 1))) = b4) :
    expAt l i = expB l (if b4 = true then i + 1 + 1 else i + 1) (if b3 = true then -1 else 1) i := by
  rw [in_EeDd h0 h] at h1
  rw [txt_len] at h
  rw [slice_minus (by omega)] at h3
  rw [slice_any (by omega)] at h4
  unfold expAt; rw [if_neg h, if_neg (by simpa using h1), h3, h4]
theorem ea4 {l : List Nat} {i b s : Int} {r : Int × Int} (h : r = expB l b s i) (h2 : ((runL l b.toNat).length : Int) = 0) : 0 = r.1 ∧ i = r.2 := by
  rw [h]; unfold expB; rw [if_pos h2]; exact ⟨rfl, rfl⟩
theorem ea5 {l : List Nat} {i b s : Int} {r : Int × Int} (h : r = expB l b s i) (h2 : ((runL l b.toNat).length : Int) ≠ 0) : s * (if 9999 < val (runL l b.toNat) then 9999 else val (runL l b.toNat)) = r.1 ∧ b + ((runL l b.toNat).length : Int) = r.2 := by
  rw [h]; unfold expB; rw [if_neg h2]; exact ⟨rfl, rfl⟩
section
theorem exponent_at_c (l : List Nat) (u : Tok) (i : Int) (t : Tok) (news : List (Addr × Obj)) (h0 : 0 ≤ i) (h1 : i ≤ (txt l).length) (h2 : (txt l).length < 200) : Con w mean mg mb 2 143 [.str (txt l) u, .int i t] news (RetT news (expAt l i).1 (expAt l i).2) := by
  k_with_none
  k_with "call ref" => (k_here; (with_reducible show wpAny _ _ (call (Value.ref 136) _) _ _ _); k_dflt (refine Con.use3 (by k_asm) (by k_asm) (by k_asm) (by k_asm) (by k_asm) (by first | exact rfl | assumption) (by ktr_room) (by ktr_units) (run_of_figures_c _ _ _ _ _ (by first | assumption | omega | exact any_in (by omega) (by assumption)) (by first | assumption | omega | exact any_in (by omega) (by assumption)) (by first | assumption | omega)) ?_); k_whole; intro D9 t9 u9 w9 c9 h9 tk9 l9 F9 N9; (try simp only [AllLt, and_true] at l9); (try dsimp only); (try k_fold))
  unfold Con
  k_fill
  intro dp un gd cn cs a ccd cl outer A₀ base h₀ L m s Q E B F X N T hk hdp hun hret
  refine wpAny_call ?_
  k_dflt cell_enter
  k_steps
  all_goals refine end_T hret (by assumption) (by assumption) (by k_mem) (by intro p hp; repeat first | exact hp | refine List.Mem.tail _ ?_) (by first | assumption | exact allLt_of (by assumption) | exact And.right (by assumption) | exact And.right (And.right (by assumption)) | exact And.right (And.right (And.right (by assumption))) | exact And.right (And.right (And.right (And.right (by assumption)))) | exact And.right (And.right (And.right (And.right (And.right (by assumption)))))) ?_
  · exact ea1 (by assumption)
  · exact ea2 h0 (by assumption) (by assumption)
  · exact ea4 (ea3 h0 (by assumption) (by assumption) (by assumption) (by assumption)) (by assumption)
  · exact ea5 (ea3 h0 (by assumption) (by assumption) (by assumption) (by assumption)) (by assumption)
  · exact ea4 (ea3 h0 (by assumption) (by assumption) (by assumption) (by assumption)) (by assumption)
  · exact ea5 (ea3 h0 (by assumption) (by assumption) (by assumption) (by assumption)) (by assumption)
  · exact ea4 (ea3 h0 (by assumption) (by assumption) (by assumption) (by assumption)) (by assumption)
  · exact ea5 (ea3 h0 (by assumption) (by assumption) (by assumption) (by assumption)) (by assumption)
  · exact ea4 (ea3 h0 (by assumption) (by assumption) (by assumption) (by assumption)) (by assumption)
  · exact ea5 (ea3 h0 (by assumption) (by assumption) (by assumption) (by assumption)) (by assumption)
end
/-- a decimal that may be the text's own (0, 0) -/
def RetN (news : List (Addr × Obj)) (x y : Int) (v : Value) (news' : List (Addr × Obj)) : Prop := (v = .ref 59 ∧ news' = news ∧ x = 0 ∧ y = 0) ∨ RetT news x y v news'
theorem Con.useN {w : World} {mean : ExcName → Option Value} {mg mb : Str → Option Value} {lv : Nat} {f : Addr} {vs : List Value} {news : List (Addr × Obj)} {x y : Int}
    {dp un : Nat} {gd : Option (List Code)} {cn : Str} {cs : Scope} {a : Addr} {ccd : Value} {cl : List (Str × Addr)} {outer : List Env} {A₀ : Around} {base h₀ : Heap} {L : Addr} {m : Str → Option Value} {s : Shared} {Q E : Value → Shared → Prop}
    (B : Below A₀ base outer h₀) (F : Fr h₀ L s.heap m) (X : (hd.heap_39 w.params).In h₀) (N : News h₀ L s.heap news) (T : Top hd.view_39 (looseW hd.view_39 [Str.ofString "BasicError"]) mean mg mb h₀) (hk : cs.kind = .function)
    (h1 : dp + lv < recursionLimit) (h2 : un + 8 * lv < cLine) (C : Con w mean mg mb lv f vs news (RetN news x y))
  (ret1 : ∀ (h' : Heap) (tk' : Nat), x = 0 → y = 0 → Fr h₀ L h' m → News h₀ L h' news → Q (.ref 59) { s with heap := h', toks := tk' }) (ret2 : ∀ (D : Addr) (t1 t2 : Tok) (c : Nat) (h' : Heap) (tk' : Nat), AllLt D news → Fr h₀ L h' m → News h₀ L h' ((D, tupO x t1 y t2 c) :: news) → Q (.ref D) { s with heap := h', toks := tk' }) :
    wpAny (model PySem.Challenge.rw_pq0171_01.row.prog w) (ktrTop dp un gd cn cs L a ccd cl outer) (call (.ref f) vs) Q E s :=
  C.use B F X N T hk h1 h2 fun v n h' tk' r F' N' => by
    rcases r with ⟨rfl, rfl, e1, e2⟩ | ⟨D, t1, t2, c, rfl, rfl, hl⟩
    · exact ret1 h' tk' e1 e2 F' N'
    · exact ret2 D t1 t2 c h' tk' hl F' N'
theorem end_N0 {h₀ h' : Heap} {L : Addr} {m : Str → Option Value} {news news2 : List (Addr × Obj)} {s : Shared} {Q : Value → Shared → Prop} {tk' : Nat} {x y : Int} (hret : ∀ (v : Value) (news' : List (Addr × Obj)) (h' : Heap) (tk' : Nat), RetN news x y v news' → Fr h₀ L h' m → News h₀ L h' news' → Q v { s with heap := h', toks := tk' })
    (F : Fr h₀ L h' m) (N : News h₀ L h' news2) (hs : ∀ p ∈ news, p ∈ news2) (e : x = 0 ∧ y = 0) : Q (.ref 59) { s with heap := h', toks := tk' } := hret _ _ _ _ (.inl ⟨rfl, rfl, e.1, e.2⟩) F (news_sub N hs)
section
theorem told_decimal_c (c e d : Int) (t1 t2 t3 : Tok) (news : List (Addr × Obj)) (hd : figs (if c < 0 then -c else c) ≤ d) (h5 : -99 ≤ e + figs (if c < 0 then -c else c) - 1) (h6 : e + figs (if c < 0 then -c else c) - 1 ≤ 99) : Con w mean mg mb 4 157 [.int c t1, .int e t2, .int d t3] news (RetN news (norm c e).1 (norm c e).2) := by
  k_with_none
  k_with "call ref" => (k_here; (with_reducible show wpAny _ _ (call (Value.ref 58) _) _ _ _); k_dflt (refine Con.useT (by k_asm) (by k_asm) (by k_asm) (by k_asm) (by k_asm) (by first | exact rfl | assumption) (by ktr_room) (by ktr_units) (made_c _ _ _ _ _ _ _ (by first | assumption | omega) (by first | assumption | omega) (by first | assumption | omega)) ?_); k_whole; intro D9 t9 u9 c9 h9 tk9 l9 F9 N9; (try simp only [AllLt, and_true] at l9); (try dsimp only); (try k_fold))
  k_with "call ref" => (k_here; (with_reducible show wpAny _ _ (call (Value.ref 44) _) _ _ _); k_dflt (refine Con.useI (by k_asm) (by k_asm) (by k_asm) (by k_asm) (by k_asm) (by first | exact rfl | assumption) (by ktr_room) (by ktr_units) (figures_of_c _ _ _ (by first | assumption | omega)) ?_); k_whole; intro t9 h9 tk9 F9 N9; (try dsimp only); (try k_fold))
  unfold Con
  k_fill
  intro dp un gd cn cs a ccd cl outer A₀ base h₀ L m s Q E B F X N T hk hdp hun hret
  refine wpAny_call ?_
  k_dflt cell_enter
  k_steps
  · refine end_N0 hret (by assumption) (by assumption) (by intro p hp; repeat first | exact hp | refine List.Mem.tail _ ?_) ?_
    have h0 : c = 0 := by assumption
    rw [h0, norm_zero]; exact ⟨rfl, rfl⟩
  · refine end_T (fun v n h k r => hret v n h k (.inr r)) (by assumption) (by assumption) (by k_mem) (by intro p hp; repeat first | exact hp | refine List.Mem.tail _ ?_) (by first | assumption | exact allLt_of (by assumption) | exact And.right (by assumption) | exact And.right (And.right (by assumption)) | exact And.right (And.right (And.right (by assumption))) | exact And.right (And.right (And.right (And.right (by assumption)))) | exact And.right (And.right (And.right (And.right (And.right (by assumption)))))) ?_
    exact ⟨rfl, rfl⟩
end
end Mine

namespace Mine
variable {w : World} {mean : ExcName → Option Value} {mg mb : Str → Option Value}
theorem pow10_pos (k : Nat) : (0 : Int) < 10 ^ k := Int.pow_pos (by decide)
theorem pow10_mono {k n : Nat} (h : k ≤ n) : (10 : Int) ^ k ≤ 10 ^ n := by
  have : (10 : Nat) ^ k ≤ 10 ^ n := Nat.pow_le_pow_right (by decide) h
  exact_mod_cast this
theorem pow10_lt30 {k : Nat} (h : k ≤ 9) : (10 : Int) ^ k < 1073741824 := Int.lt_of_le_of_lt (pow10_mono h) (by decide)
theorem figs_le {x : Int} {k : Nat} (hk : 1 ≤ k) (h : x < 10 ^ k) : figs x ≤ k := by
  obtain ⟨a, b⟩ := dg_bound x.toNat
  unfold figs
  rcases b with b | b
  · omega
  · have h2 : x.toNat < 10 ^ k := by
      have h3 : (x.toNat : Int) < ((10 ^ k : Nat) : Int) ∨ x < 0 := by
        by_cases hx : x < 0
        · exact .inr hx
        · left
          rw [Int.toNat_of_nonneg (by omega)]
          push_cast
          exact h
      rcases h3 with h3 | h3
      · exact_mod_cast h3
      · have : x.toNat = 0 := by omega
        rw [this]; exact Nat.pow_pos (by decide)
    have h3 : 10 ^ ((dg x.toNat).length - 1) < 10 ^ k := Nat.lt_of_le_of_lt b h2
    have := (Nat.pow_lt_pow_iff_right (by decide : 1 < 10)).mp h3
    omega
def DrawP (number power : Int) : Prop := 0 ≤ number ∧ number < 1000000 ∧ -6 ≤ power ∧ power + figs number ≤ 12 ∧ power ≤ 12
theorem draw_start {x n : Int} {k : Nat} (h0 : 0 ≤ n) (h1 : n < 10 ^ k) (hk : k ≤ 6) (h2 : 0 ≤ x) (h3 : x < 13) : DrawP n (x - 6) := by
  have h4 : n < 1000000 := Int.lt_of_lt_of_le h1 (Int.le_trans (pow10_mono hk) (by decide))
  have := figs_le (x := n) (k := 6) (by decide) (by omega)
  exact ⟨h0, h4, by omega, by omega, by omega⟩
theorem draw_turn {n p : Int} (h : DrawP n p) (h1 : 0 < n) (h2 : n.fmod 10 = 0) : DrawP (n.fdiv 10) (p + 1) := by
  obtain ⟨a, b, c, d, e⟩ := h
  rw [fmodT] at h2
  rw [fdivT]
  have := figs_ge (x := n) (by omega)
  have := figs_pos (n / 10)
  exact ⟨by omega, by omega, by omega, by omega, by omega⟩
def Drawn (x y : Int) : Prop := (x = 0 ∧ y = 0) ∨ (x ≠ 0 ∧ x % 10 ≠ 0 ∧ -1000000 < x ∧ x < 1000000 ∧ -6 ≤ y ∧ y + figs (if x < 0 then -x else x) ≤ 12 ∧ y ≤ 12)
theorem drawn0 : Drawn 0 0 := .inl ⟨rfl, rfl⟩
theorem drawn1 {n p : Int} (h : DrawP n p) (h1 : n ≠ 0) (h2 : n.fmod 10 ≠ 0) : Drawn n p := by
  obtain ⟨a, b, c, d, e⟩ := h
  rw [fmodT] at h2
  exact .inr ⟨h1, h2, by omega, by omega, c, by rw [if_neg (by omega)]; exact d, e⟩
theorem drawn2 {n p : Int} (h : DrawP n p) (h1 : n ≠ 0) (h2 : n.fmod 10 ≠ 0) : Drawn (0 - n) p := by
  obtain ⟨a, b, c, d, e⟩ := h
  rw [fmodT] at h2
  exact .inr ⟨by omega, by omega, by omega, by omega, c, by rw [if_pos (by omega), show -(0 - n) = n by omega]; exact d, e⟩
theorem draw_no {n p : Int} {P : Prop} (h : DrawP n p) (h1 : n ≠ 0) (h2 : ¬ 0 < n) : P := by
  have := h.1
  exfalso; omega
def RetD (B1 : Addr) (b1 : Int) (news : List (Addr × Obj)) (v : Value) (news' : List (Addr × Obj)) : Prop := ∃ (x y : Int) (D : Addr) (t u : Tok) (c : Nat) (b0' : Int) (s0' : Tok) (b1' : Int) (s1' : Tok) (c' : Nat), v = .ref D ∧ Drawn x y ∧ 0 ≤ b0' ∧ b1 ≤ b1' ∧ b1' ≤ b1 + 4 ∧ news' = (D, tupO x t y u c) :: (B1, boxO b0' s0' b1' s1' c') :: news ∧ B1 < D ∧ AllLt D news
theorem Con.useD {w : World} {mean : ExcName → Option Value} {mg mb : Str → Option Value} {lv : Nat} {f : Addr} {vs : List Value} {news : List (Addr × Obj)} {B1 : Addr} {b1 : Int} {led : List (Addr × Obj)}
    {dp un : Nat} {gd : Option (List Code)} {cn : Str} {cs : Scope} {a : Addr} {ccd : Value} {cl : List (Str × Addr)} {outer : List Env} {A₀ : Around} {base h₀ : Heap} {L : Addr} {m : Str → Option Value} {s : Shared} {Q E : Value → Shared → Prop}
    (B : Below A₀ base outer h₀) (F : Fr h₀ L s.heap m) (X : (hd.heap_39 w.params).In h₀) (N : News h₀ L s.heap led) (T : Top hd.view_39 (looseW hd.view_39 [Str.ofString "BasicError"]) mean mg mb h₀) (hk : cs.kind = .function)
    (h1 : dp + lv < recursionLimit) (h2 : un + 8 * lv < cLine) (C : Con w mean mg mb lv f vs led (RetD B1 b1 news))
  (ret : ∀ (x y : Int) (D : Addr) (t u : Tok) (c : Nat) (b0' : Int) (s0' : Tok) (b1' : Int) (s1' : Tok) (c' : Nat) (h' : Heap) (tk' : Nat), Drawn x y → 0 ≤ b0' → b1 ≤ b1' → b1' ≤ b1 + 4 → B1 < D → AllLt D news → Fr h₀ L h' m → News h₀ L h' ((D, tupO x t y u c) :: (B1, boxO b0' s0' b1' s1' c') :: news) → Q (.ref D) { s with heap := h', toks := tk' }) :
    wpAny (model PySem.Challenge.rw_pq0171_01.row.prog w) (ktrTop dp un gd cn cs L a ccd cl outer) (call (.ref f) vs) Q E s :=
  C.use B F X N T hk h1 h2 fun v n h' tk' r F' N' => by obtain ⟨x, y, D, t, u, c, b0', s0', b1', s1', c', rfl, h1, h2, h3, h4, rfl, h5, h6⟩ := r; exact ret x y D t u c b0' s0' b1' s1' c' h' tk' h1 h2 h3 h4 h5 h6 F' N'
theorem end_D {h₀ h' : Heap} {L : Addr} {m : Str → Option Value} {news : List (Addr × Obj)} {s : Shared} {Q : Value → Shared → Prop} {tk' : Nat} {x y b1 b0' b1' : Int} {D B1 : Addr} {t u s0' s1' : Tok} {c c' : Nat} (hret : ∀ (v : Value) (news' : List (Addr × Obj)) (h' : Heap) (tk' : Nat), RetD B1 b1 news v news' → Fr h₀ L h' m → News h₀ L h' news' → Q v { s with heap := h', toks := tk' })
    (F : Fr h₀ L h' m) (N : News h₀ L h' ((D, tupO x t y u c) :: (B1, boxO b0' s0' b1' s1' c') :: news)) (d : Drawn x y) (hb : 0 ≤ b0') (h1 : b1 ≤ b1') (h2 : b1' ≤ b1 + 4) (hl : B1 < D ∧ AllLt D news) : Q (.ref D) { s with heap := h', toks := tk' } :=
  hret _ _ _ _ ⟨_, _, _, _, _, _, _, _, _, _, _, rfl, d, hb, h1, h2, rfl, hl.1, hl.2⟩ F N
section
theorem law_drawn_c (b0 b1 : Int) (B1 : Addr) (s0 s1 t3 : Tok) (c : Nat) (news : List (Addr × Obj)) (ho : OwnOff news [B1]) (h0 : 0 ≤ b0) (h1 : 0 ≤ b1) (h1b : b1 < 1000) : Con w mean mg mb 2 178 [.ref B1, .int 6 t3] ((B1, boxO b0 s0 b1 s1 c) :: news) (RetD B1 b1 news) := by
  k_with_none
  k_with "exec While BoolOp cons nil" => k_while_given [] (fun _ number power => DrawP number power) (fun _ number _ => number.toNat) "number" "power"
  k_with "call ref" => (k_here; (with_reducible show wpAny _ _ (call (Value.ref 164) _) _ _ _); k_dflt (refine Con.useK (by k_asm) (by k_asm) (by k_asm) (by k_asm) (by k_asm) (by first | exact rfl | assumption) (by ktr_room) (by ktr_units) (law_take_c _ _ _ _ _ _ _ _ _ (by first | assumption | omega) (by first | assumption | omega) (by first | assumption | omega) (by first | assumption | omega) (by first | decide | exact pow10_pos _ | with_reducible assumption | omega) (by first | decide | exact pow10_lt30 (by omega) | with_reducible assumption | omega)) ?_); k_whole; intro x9 t9 b9 u9 w9 c9 h9 tk9 hx9 hy9 hb9 F9 N9; (try dsimp only); (try k_fold))
  unfold Con
  k_fill
  intro dp un gd cn cs a ccd cl outer A₀ base h₀ L m s Q E B F X N T hk hdp hun hret
  refine wpAny_call ?_
  k_dflt cell_enter
  have hmk := kstMark
  k_with "state" => first | exact draw_start (by assumption) (by assumption) (by omega) (by assumption) (by assumption) | exact draw_turn (by assumption) (by assumption) (by assumption)
  k_with "measure" => (simp only [fdivT]; omega)
  k_steps
  · exact end_D hret (by assumption) (by assumption) (drawn0) (by assumption) (by omega) (by omega) (by assumption)
  · exact end_D hret (by assumption) (by assumption) (drawn1 (by assumption) (by assumption) (by assumption)) (by assumption) (by omega) (by omega) (by assumption)
  · exact end_D hret (by assumption) (by assumption) (drawn2 (by assumption) (by assumption) (by assumption)) (by assumption) (by omega) (by omega) (by assumption)
  · exact end_D hret (by assumption) (by assumption) (drawn0) (by assumption) (by omega) (by omega) (by assumption)
  · exact draw_no (by assumption) (by assumption) (by assumption)
  · exact draw_no (by assumption) (by assumption) (by assumption)
end
theorem made_le {z : Int} (h1 : -(10 ^ 15) < z) (h2 : z < 10 ^ 15) : figs (if z < 0 then -z else z) ≤ 20 := by
  have := figs_le (x := (if z < 0 then -z else z)) (k := 15) (by decide) (by split <;> omega)
  omega
theorem made_lo {e z : Int} (h : -90 ≤ e) : -99 ≤ e + figs z - 1 := by have := figs_pos z; omega
theorem made_hi {e z : Int} (h1 : -(10 ^ 15) < z) (h2 : z < 10 ^ 15) (h : e ≤ 70) : e + figs (if z < 0 then -z else z) - 1 ≤ 99 := by have := made_le h1 h2; omega
def rndm (S u : Int) : Int := if u < 2 * S.fmod u ∨ (2 * S.fmod u = u ∧ (S.fdiv u).fmod 2 = 1) then S.fdiv u + 1 else S.fdiv u
theorem rm_A {S u : Int} (h : u < 2 * S.fmod u) : rndm S u = S.fdiv u + 1 := if_pos (.inl h)
theorem rm_B {S u : Int} (h : 2 * S.fmod u = u) (h1 : (S.fdiv u).fmod 2 = 1) : rndm S u = S.fdiv u + 1 := if_pos (.inr ⟨h, h1⟩)
theorem rm_C {S u : Int} (h0 : ¬ u < 2 * S.fmod u) (h1 : (S.fdiv u).fmod 2 ≠ 1) : rndm S u = S.fdiv u := if_neg (by rintro (h | ⟨_, h⟩); exact h0 h; exact h1 h)
theorem rm_D {S u : Int} (h0 : ¬ u < 2 * S.fmod u) (h1 : 2 * S.fmod u ≠ u) : rndm S u = S.fdiv u := if_neg (by rintro (h | ⟨h, _⟩); exact h0 h; exact h1 h)
def rndA (x S u e : Int) : Int × Int := norm (if 0 < x then rndm S u else 0 - rndm S u) e
theorem rndA_0 {x S u e : Int} (h : rndm S u = 0) : (rndA x S u e).1 = 0 ∧ (rndA x S u e).2 = 0 := by
  unfold rndA; rw [h, show (if 0 < x then (0 : Int) else 0 - 0) = 0 by split <;> rfl, norm_zero]; exact ⟨rfl, rfl⟩
theorem rndA_p {x S u e z : Int} (h : 0 < x) (hr : rndm S u = z) : (norm z e).1 = (rndA x S u e).1 ∧ (norm z e).2 = (rndA x S u e).2 := by
  unfold rndA; rw [if_pos h, hr]; exact ⟨rfl, rfl⟩
theorem rndA_n {x S u e z : Int} (h : ¬ 0 < x) (hr : rndm S u = z) : (norm (0 - z) e).1 = (rndA x S u e).1 ∧ (norm (0 - z) e).2 = (rndA x S u e).2 := by
  unfold rndA; rw [if_neg h, hr]; exact ⟨rfl, rfl⟩
def RetR (news : List (Addr × Obj)) (D : Addr) (x q a b : Int) (v : Value) (news' : List (Addr × Obj)) : Prop := (v = .ref D ∧ news' = news ∧ (q ≤ 0 ∨ x = 0)) ∨ ((¬ q ≤ 0 ∧ x ≠ 0) ∧ RetN news a b v news')
theorem end_R {h₀ h' : Heap} {L : Addr} {m : Str → Option Value} {news news2 : List (Addr × Obj)} {s : Shared} {Q : Value → Shared → Prop} {tk' : Nat} {D : Addr} {x q a b : Int} (hret : ∀ (v : Value) (news' : List (Addr × Obj)) (h' : Heap) (tk' : Nat), RetR news D x q a b v news' → Fr h₀ L h' m → News h₀ L h' news' → Q v { s with heap := h', toks := tk' })
    (F : Fr h₀ L h' m) (N : News h₀ L h' news2) (hs : ∀ p ∈ news, p ∈ news2) (e : q ≤ 0 ∨ x = 0) : Q (.ref D) { s with heap := h', toks := tk' } := hret _ _ _ _ (.inl ⟨rfl, rfl, e⟩) F (news_sub N hs)
theorem ab_nonneg (x : Int) : 0 ≤ (if x < 0 then -x else x) := by split <;> omega
theorem fdiv_le {S u : Int} (h : 0 ≤ S) (hu : 0 < u) : 0 ≤ S.fdiv u ∧ S.fdiv u ≤ S := by
  refine ⟨Int.fdiv_nonneg h (by omega), ?_⟩
  rw [Int.fdiv_eq_ediv_of_nonneg _ (by omega)]
  exact Int.ediv_le_self _ h
section
theorem d_round_c (x y : Int) (D : Addr) (t1 t2 : Tok) (k : Nat) (p : Int) (t3 t4 : Tok) (news : List (Addr × Obj)) (hm : (D, tupO x t1 y t2 k) ∈ news) (h1 : -50 < y) (h2 : y < 50) (h3 : -50 < p) (h3a : p < 50) (hx0 : -(10 ^ 10) < x) (hx1 : x < 10 ^ 10) : Con w mean mg mb 4 101 [.ref D, .int p t3, .int 20 t4] news (RetR news D x (0 - p - y) (rndA x (if x < 0 then -x else x) (10 ^ (if figs (if x < 0 then -x else x) + 1 < 0 - p - y then figs (if x < 0 then -x else x) + 1 else 0 - p - y).toNat) (y + (0 - p - y))).1 (rndA x (if x < 0 then -x else x) (10 ^ (if figs (if x < 0 then -x else x) + 1 < 0 - p - y then figs (if x < 0 then -x else x) + 1 else 0 - p - y).toNat) (y + (0 - p - y))).2) := by
  k_with_none
  k_with "binaryOp FloorDiv int int" => (with_reducible refine floordiv_int (pow10_ne _) ?_ (Or.inl (PyProof.noPylong_of_log2 (pow10_py (by omega)))))
  k_with "binaryOp Mod int int" => (with_reducible refine mod_int' (pow10_ne _) ?_)
  k_with "call ref" => (k_here; (with_reducible show wpAny _ _ (call (Value.ref 44) _) _ _ _); k_dflt (refine Con.useI (by k_asm) (by k_asm) (by k_asm) (by k_asm) (by k_asm) (by first | exact rfl | assumption) (by ktr_room) (by ktr_units) (figures_of_c _ _ _ (by first | assumption | omega)) ?_); k_whole; intro t9 h9 tk9 F9 N9; (try dsimp only); (try k_fold))
  k_with "call ref" => (k_here; (with_reducible show wpAny _ _ (call (Value.ref 58) _) _ _ _); k_dflt (refine Con.useT (by k_asm) (by k_asm) (by k_asm) (by k_asm) (by k_asm) (by first | exact rfl | assumption) (by ktr_room) (by ktr_units) (made_c _ _ _ _ _ _ _ (by exact made_le (by omega) (by omega)) (by exact made_lo (by omega)) (by exact made_hi (by omega) (by omega) (by omega))) ?_); k_whole; intro D9 t9 u9 c9 h9 tk9 l9 F9 N9; (try simp only [AllLt, and_true] at l9); (try dsimp only); (try k_fold))
  unfold Con
  k_fill
  intro dp un gd cn cs a ccd cl outer A₀ base h₀ L m s Q E B F X N T hk hdp hun hret
  replace N := news_in N hm
  refine wpAny_call ?_
  k_dflt cell_enter
  have hfp := figs_pos (if x < 0 then -x else x)
  have hf : figs (if x < 0 then -x else x) ≤ 10 := figs_le (k := 10) (by decide) (by split <;> omega)
  obtain ⟨hq0, hq2⟩ := fdiv_le (S := (if x < 0 then -x else x)) (u := (10 ^ (if figs (if x < 0 then -x else x) + 1 < 0 - p - y then figs (if x < 0 then -x else x) + 1 else 0 - p - y).toNat)) (ab_nonneg x) (pow10_pos _)
  have hq1 : (if x < 0 then -x else x).fdiv (10 ^ (if figs (if x < 0 then -x else x) + 1 < 0 - p - y then figs (if x < 0 then -x else x) + 1 else 0 - p - y).toNat) < 10 ^ 10 := Int.lt_of_le_of_lt hq2 (by split <;> omega)
  clear hq2
  k_steps
  all_goals first
    | (refine end_R hret (by assumption) (by assumption) (by intro p hp; repeat first | exact hp | refine List.Mem.tail _ ?_) ?_; first | exact .inl (by assumption) | exact .inr (by assumption))
    | (refine end_N0 (fun v n h k r => hret v n h k (.inr ⟨⟨by assumption, by assumption⟩, r⟩)) (by assumption) (by assumption) (by intro p hp; repeat first | exact hp | refine List.Mem.tail _ ?_) ?_; exact rndA_0 (by first | exact (rm_A (by assumption)).trans (by assumption) | exact (rm_B (by assumption) (by assumption)).trans (by assumption) | exact (rm_C (by assumption) (by assumption)).trans (by assumption) | exact (rm_D (by assumption) (by assumption)).trans (by assumption)))
    | (refine end_T (fun v n h k r => hret v n h k (.inr ⟨⟨by assumption, by assumption⟩, .inr r⟩)) (by assumption) (by assumption) (by k_mem) (by intro p hp; repeat first | exact hp | refine List.Mem.tail _ ?_) (by first | assumption | exact allLt_of (by assumption) | exact And.right (by assumption) | exact And.right (And.right (by assumption)) | exact And.right (And.right (And.right (by assumption))) | exact And.right (And.right (And.right (And.right (by assumption)))) | exact And.right (And.right (And.right (And.right (And.right (by assumption)))))) ?_; first | exact rndA_p (by assumption) (by first | exact rm_A (by assumption) | exact rm_B (by assumption) (by assumption) | exact rm_C (by assumption) (by assumption) | exact rm_D (by assumption) (by assumption)) | exact rndA_n (by assumption) (by first | exact rm_A (by assumption) | exact rm_B (by assumption) (by assumption) | exact rm_C (by assumption) (by assumption) | exact rm_D (by assumption) (by assumption)))
end
end Mine

namespace Mine
variable {w : World} {mean : ExcName → Option Value} {mg mb : Str → Option Value}
def isBl (c : Nat) : Bool := [32, 9].contains c
def lead (l : List Nat) : Int := ((l.takeWhile isBl).length : Int)
def LeadP (x : Str) (k : Int) : Prop := 0 ≤ k ∧ k ≤ (x.length : Int) ∧ ∀ c ∈ x.cps.toList.take k.toNat, isBl c = true
theorem in_blank {l : List Nat} {i : Int} (h0 : 0 ≤ i) (h1 : i < ((txt l).length : Int)) : (Builtin.Str.occurrences (Str.ofString " \t") (Txt.item (txt l) i) 0 (Str.ofString " \t").length 1).isEmpty = !(isBl (l.getD i.toNat 0)) := by
  rw [txt_len] at h1
  rw [item_txt h0 (by omega)]
  have := StrLaws.found_one (Str.ofString " \t") (l.getD i.toNat 0)
  have e : (Str.ofString " \t").cps.toList = [32, 9] := rfl
  rw [e] at this
  have h2 : isBl (l.getD i.toNat 0) = decide (l.getD i.toNat 0 ∈ [32, 9]) := by
    unfold isBl
    rw [Bool.eq_iff_iff, List.contains_iff_mem, decide_eq_true_eq]
  rw [h2, ← this, Bool.not_not]
theorem lead_start (x : Str) : LeadP x 0 := ⟨Int.le_refl _, by omega, fun c hc => by simp at hc⟩
theorem lead_turn {l : List Nat} {k : Int} (h : LeadP (txt l) k) (h1 : k < ((txt l).length : Int)) (h2 : (Builtin.Str.occurrences (Str.ofString " \t") (Txt.item (txt l) k) 0 (Str.ofString " \t").length 1).isEmpty = false) : LeadP (txt l) (k + 1) := by
  obtain ⟨a, b, c⟩ := h
  rw [in_blank a h1] at h2
  refine ⟨by omega, by omega, ?_⟩
  rw [txt_len] at h1
  have e := run_more (l := l) (i := 0) (k := k) (Int.le_refl _) a h1
  simp only [Int.sub_zero, Int.toNat_zero, List.drop_zero] at e
  show ∀ y ∈ l.take (k + 1).toNat, _
  rw [e]
  intro y hy
  rcases List.mem_append.mp hy with hy | hy
  · exact c y hy
  · rw [List.mem_singleton.mp hy]; simpa using h2
theorem lead_end2 {l : List Nat} {k : Int} (h : LeadP (txt l) k) (h1 : k < ((txt l).length : Int)) (h2 : (Builtin.Str.occurrences (Str.ofString " \t") (Txt.item (txt l) k) 0 (Str.ofString " \t").length 1).isEmpty = true) : k = lead l := by
  obtain ⟨a, b, c⟩ := h
  rw [in_blank a h1] at h2
  rw [txt_len] at h1
  have e : l.takeWhile isBl = l.take k.toNat := by
    refine takeWhile_of c (fun y hy => ?_) (by omega)
    have : l.getD k.toNat 0 = y := by rw [List.getD_eq_getElem?_getD, hy]; rfl
    rw [this] at h2; simpa using h2
  unfold lead
  rw [e, List.length_take]; omega
theorem lead_end1 {l : List Nat} {k : Int} (h : LeadP (txt l) k) (h1 : ¬ k < ((txt l).length : Int)) : k = lead l := by
  obtain ⟨a, b, c⟩ := h
  rw [txt_len] at h1 b
  have e : l.takeWhile isBl = l.take k.toNat := by
    refine takeWhile_of c (fun y hy => ?_) (by omega)
    rw [List.getElem?_eq_none (by omega)] at hy
    cases hy
  unfold lead
  rw [e, List.length_take]; omega
theorem lead_nn (l : List Nat) : 0 ≤ lead l := by unfold lead; omega
abbrev parO (v : Value) (at_ : Int) (t : Tok) (c : Nat) : Obj := { cls := .type "tuple", data := .seq #[v, .int at_ t] c }
def RetP (news : List (Addr × Obj)) (X Y at_ : Int) (v : Value) (news' : List (Addr × Obj)) : Prop := ∃ (D : Addr) (t : Tok) (c : Nat), v = .ref D ∧ ((X = 0 ∧ Y = 0 ∧ news' = (D, parO (.ref 59) at_ t c) :: news ∧ AllLt D news) ∨ (∃ (D1 : Addr) (t1 t2 : Tok) (c1 : Nat), news' = (D, parO (.ref D1) at_ t c) :: (D1, tupO X t1 Y t2 c1) :: news ∧ AllLt D news ∧ AllLt D1 news ∧ D1 < D))
theorem Con.useP {w : World} {mean : ExcName → Option Value} {mg mb : Str → Option Value} {lv : Nat} {f : Addr} {vs : List Value} {news : List (Addr × Obj)} {Xa Ya at_ : Int}
    {dp un : Nat} {gd : Option (List Code)} {cn : Str} {cs : Scope} {a : Addr} {ccd : Value} {cl : List (Str × Addr)} {outer : List Env} {A₀ : Around} {base h₀ : Heap} {L : Addr} {m : Str → Option Value} {s : Shared} {Q E : Value → Shared → Prop}
    (B : Below A₀ base outer h₀) (F : Fr h₀ L s.heap m) (X : (hd.heap_39 w.params).In h₀) (N : News h₀ L s.heap news) (T : Top hd.view_39 (looseW hd.view_39 [Str.ofString "BasicError"]) mean mg mb h₀) (hk : cs.kind = .function)
    (h1 : dp + lv < recursionLimit) (h2 : un + 8 * lv < cLine) (C : Con w mean mg mb lv f vs news (RetP news Xa Ya at_))
  (ret1 : ∀ (D : Addr) (t : Tok) (c : Nat) (h' : Heap) (tk' : Nat), Xa = 0 → Ya = 0 → AllLt D news → Fr h₀ L h' m → News h₀ L h' ((D, parO (.ref 59) at_ t c) :: news) → Q (.ref D) { s with heap := h', toks := tk' }) (ret2 : ∀ (D : Addr) (t : Tok) (c : Nat) (D1 : Addr) (t1 t2 : Tok) (c1 : Nat) (h' : Heap) (tk' : Nat), AllLt D news → AllLt D1 news → D1 < D → Fr h₀ L h' m → News h₀ L h' ((D, parO (.ref D1) at_ t c) :: (D1, tupO Xa t1 Ya t2 c1) :: news) → Q (.ref D) { s with heap := h', toks := tk' }) :
    wpAny (model PySem.Challenge.rw_pq0171_01.row.prog w) (ktrTop dp un gd cn cs L a ccd cl outer) (call (.ref f) vs) Q E s :=
  C.use B F X N T hk h1 h2 fun v n h' tk' r F' N' => by
    obtain ⟨D, t, c, rfl, ⟨e1, e2, rfl, hl⟩ | ⟨D1, t1, t2, c1, rfl, hl, hl1, hlt⟩⟩ := r
    · exact ret1 D t c h' tk' e1 e2 hl F' N'
    · exact ret2 D t c D1 t1 t2 c1 h' tk' hl hl1 hlt F' N'
section
variable {h₀ h' : Heap} {L : Addr} {m : Str → Option Value} {news news2 : List (Addr × Obj)} {s : Shared} {Q : Value → Shared → Prop} {tk' : Nat} {X Y X' Y' at_ at' : Int} {D D1 : Addr} {t t1 t2 : Tok} {c c1 : Nat}
theorem end_P0 (hret : ∀ (v : Value) (news' : List (Addr × Obj)) (h' : Heap) (tk' : Nat), RetP news X Y at_ v news' → Fr h₀ L h' m → News h₀ L h' news' → Q v { s with heap := h', toks := tk' })
    (F : Fr h₀ L h' m) (N : News h₀ L h' news2) (hm : (D, parO (.ref 59) at' t c) ∈ news2) (hs : ∀ p ∈ news, p ∈ news2) (hl : AllLt D news) (e : X = 0 ∧ Y = 0 ∧ at' = at_) : Q (.ref D) { s with heap := h', toks := tk' } := by
  obtain ⟨e1, e2, rfl⟩ := e
  refine hret _ _ _ _ ⟨D, t, c, rfl, .inl ⟨e1, e2, rfl, hl⟩⟩ F (news_sub N fun p hp => ?_)
  rcases List.mem_cons.mp hp with rfl | hp
  · exact hm
  · exact hs p hp
theorem end_P1 (hret : ∀ (v : Value) (news' : List (Addr × Obj)) (h' : Heap) (tk' : Nat), RetP news X Y at_ v news' → Fr h₀ L h' m → News h₀ L h' news' → Q v { s with heap := h', toks := tk' })
    (F : Fr h₀ L h' m) (N : News h₀ L h' news2) (hm : (D, parO (.ref D1) at' t c) ∈ news2) (hm1 : (D1, tupO X' t1 Y' t2 c1) ∈ news2) (hs : ∀ p ∈ news, p ∈ news2) (hl : AllLt D news) (hl1 : AllLt D1 news) (hlt : D1 < D) (e : X' = X ∧ Y' = Y ∧ at' = at_) : Q (.ref D) { s with heap := h', toks := tk' } := by
  obtain ⟨rfl, rfl, rfl⟩ := e
  refine hret _ _ _ _ ⟨D, t, c, rfl, .inr ⟨D1, t1, t2, c1, rfl, hl, hl1, hlt⟩⟩ F (news_sub N fun p hp => ?_)
  rcases List.mem_cons.mp hp with rfl | hp
  · exact hm
  rcases List.mem_cons.mp hp with rfl | hp
  · exact hm1
  · exact hs p hp
end
section
variable {prog : Program} {w : World} {A : Around} {E : Value → Shared → Prop} {s : Shared} {D1 D2 : Addr} {x y x' y' : Int} {t1 t2 t3 t4 : Tok} {c c' : Nat} {Q : Value → Shared → Prop}
theorem eqv_tup (x y x' y' : Int) : PyData.eqv (.tuple [.int x, .int y]) (.tuple [.int x', .int y']) = decide (x = x' ∧ y = y') := by
  by_cases h : x = x' <;> by_cases h' : y = y' <;> simp [PyData.eqv, PyData.eqvAll, h, h']
theorem reads_tup {h : Heap} (h1 : h.get? D1 = some (tupO x t1 y t2 c)) : Reads h (.ref D1) (.tuple [.int x, .int y]) [] := reads_tuple_at h1 rfl rfl (.cons (.int _ _) (.cons (.int _ _) .nil))
theorem eq_tupI (h1 : s.heap.get? D1 = some (tupO x t1 y t2 c)) (h2 : s.heap.get? D2 = some (tupO x' t3 y' t4 c')) (hu : A.units + 64 < cLine) (h : Q (.bool (decide (x = x' ∧ y = y'))) s) : wpAny (model prog w) A (compareOp .Eq (.ref D1) (.ref D2)) Q E s :=
  eq_dataH (reads_tup h1) (reads_tup h2) rfl rfl hu (by rw [eqv_tup]; exact h)
theorem ne_tupI (h1 : s.heap.get? D1 = some (tupO x t1 y t2 c)) (h2 : s.heap.get? D2 = some (tupO x' t3 y' t4 c')) (hu : A.units + 64 < cLine) (h : Q (.bool (!decide (x = x' ∧ y = y'))) s) : wpAny (model prog w) A (compareOp .NotEq (.ref D1) (.ref D2)) Q E s :=
  ne_dataH (reads_tup h1) (reads_tup h2) rfl rfl hu (by rw [eqv_tup]; exact h)
theorem ne_parI {p q p' q' : Int} {P1 P2 : Addr} (h1 : s.heap.get? D1 = some (parO (.ref P1) p t1 c)) (h2 : s.heap.get? P1 = some (tupO x t2 y t3 c')) {u1 u2 u3 : Tok} {e e' : Nat} (h3 : s.heap.get? D2 = some (parO (.ref P2) p' u1 e)) (h4 : s.heap.get? P2 = some (tupO x' u2 y' u3 e')) (hu : A.units + 64 < cLine)
    (he : x = x' ∧ y = y' ∧ p = p') (h : Q (.bool false) s) : wpAny (model prog w) A (compareOp .NotEq (.ref D1) (.ref D2)) Q E s := by
  obtain ⟨rfl, rfl, rfl⟩ := he
  refine ne_dataH (da := .tuple [.tuple [.int x, .int y], .int p]) (db := .tuple [.tuple [.int x, .int y], .int p]) (reads_tuple_at h1 rfl rfl (.cons (reads_tup h2) (.cons (.int _ _) .nil))) (reads_tuple_at h3 rfl rfl (.cons (reads_tup h4) (.cons (.int _ _) .nil))) rfl rfl hu ?_
  have e : PyData.eqv (.tuple [.tuple [.int x, .int y], .int p]) (.tuple [.tuple [.int x, .int y], .int p]) = true := by simp [PyData.eqv, PyData.eqvAll]
  rw [e]; exact h
end
end Mine

namespace Mine
variable {w : World} {mean : ExcName → Option Value} {mg mb : Str → Option Value}
theorem v0_c  (m : Str → Option Value) (news : List (Addr × Obj))    :
    Sg w mean mg mb 6 (Str.ofString "d_of_text") (defC 23) (defS 23 0) m news (fun o m' news' => o = none ∧ (∃ t, m' (Str.ofString "at") = some (.int 0 t)) ∧ (∀ z, z ≠ (Str.ofString "at") → m' z = m z) ∧ news' = news) := by
  unfold Sg
  k_fill
  intro dp un gd a ccd outer A₀ base h₀ L s Q E B F X N T hdp hun hret
  k_with_none
  conv in (defS 23 0) => whnf
  conv in (occs := *) (defC 23) => all_goals whnf
  k_steps
  exact sg_next hret (by with_reducible assumption) (by with_reducible assumption) (fun p hp => hp) ⟨rfl, ⟨_, if_pos rfl⟩, (by intro z hz0; (try unfold PyProof.Rows.bindM); (try dsimp only); (try simp only [hz0, if_false, List.contains_nil, Bool.false_eq_true]); all_goals (repeat' split); all_goals first | rfl | (subst_vars; symm; assumption) | (subst_vars; exact absurd rfl (by assumption))), rfl⟩
theorem v1_c (l : List Nat) (u : Tok) (t0 : Tok) (m : Str → Option Value) (news : List (Addr × Obj)) (h2 : (txt l).length < 200) (hlt : lead l < ((txt l).length : Int))  (ha : m (Str.ofString "at") = some (.int 0 t0)) (ht : m (Str.ofString "text") = some (.str (txt l) u)) :
    Sg w mean mg mb 6 (Str.ofString "d_of_text") (defC 23) (defS 23 1) m news (fun o m' news' => o = none ∧ (∃ t, m' (Str.ofString "at") = some (.int (lead l) t)) ∧ (∀ z, z ≠ (Str.ofString "at") → m' z = m z) ∧ news' = news) := by
  unfold Sg
  k_fill
  intro dp un gd a ccd outer A₀ base h₀ L s Q E B F X N T hdp hun hret
  k_with_none
  k_with "exec While BoolOp cons nil" => k_while_given ["text"] (fun text _ at_ => 0 ≤ at_ ∧ at_ ≤ text.length ∧ LeadP text at_) (fun text _ at_ => (text.length - at_).toNat) "at"
  refine wpAny_noRaise ?_
  have hl0 := lead_nn l
  k_with "state" => first | exact ⟨Int.le_refl _, by omega, lead_start _⟩ | exact ⟨by omega, by omega, lead_turn (by assumption) (by assumption) (by assumption)⟩
  replace F := fq2 F ha ht
  conv in (defS 23 1) => whnf
  conv in (occs := *) (defC 23) => all_goals whnf
  k_steps
  all_goals first
    | (have hz := lead_end1 (by assumption) (by assumption); exfalso; omega)
    | (have hz := lead_end2 (by assumption) (by assumption) (by assumption); subst hz; exact sg_next hret (by with_reducible assumption) (by with_reducible assumption) (fun p hp => hp) ⟨rfl, ⟨_, if_pos rfl⟩, (by intro z hz0; (try unfold PyProof.Rows.bindM); (try dsimp only); (try simp only [hz0, if_false, List.contains_nil, Bool.false_eq_true]); all_goals (repeat' split); all_goals first | rfl | (subst_vars; symm; assumption) | (subst_vars; exact absurd rfl (by assumption))), rfl⟩)
theorem v2_c (l : List Nat) (u : Tok) (i : Int) (ti : Tok) (m : Str → Option Value) (news : List (Addr × Obj)) (h2 : (txt l).length < 200) (h0 : 0 ≤ i) (h1 : i ≤ ((txt l).length : Int))  (ha : m (Str.ofString "at") = some (.int i ti)) (ht : m (Str.ofString "text") = some (.str (txt l) u)) :
    Sg w mean mg mb 6 (Str.ofString "d_of_text") (defC 23) (defS 23 2) m news (fun o m' news' => o = none ∧ m' (Str.ofString "is_below") = some (.bool (Txt.slice (txt l) (some i) (some (i + 1)) == Str.ofString "-")) ∧ (∀ z, z ≠ (Str.ofString "is_below") → m' z = m z) ∧ news' = news) := by
  unfold Sg
  k_fill
  intro dp un gd a ccd outer A₀ base h₀ L s Q E B F X N T hdp hun hret
  k_with_none
  replace F := fq2 F ha ht
  conv in (defS 23 2) => whnf
  conv in (occs := *) (defC 23) => all_goals whnf
  k_steps
  exact sg_next hret (by with_reducible assumption) (by with_reducible assumption) (fun p hp => hp) ⟨rfl, if_pos rfl, (by intro z hz0; (try unfold PyProof.Rows.bindM); (try dsimp only); (try simp only [hz0, if_false, List.contains_nil, Bool.false_eq_true]); all_goals (repeat' split); all_goals first | rfl | (subst_vars; symm; assumption) | (subst_vars; exact absurd rfl (by assumption))), rfl⟩
theorem v3_n (l : List Nat) (u : Tok) (i : Int) (ti : Tok) (m : Str → Option Value) (news : List (Addr × Obj)) (h2 : (txt l).length < 200) (h0 : 0 ≤ i) (h1 : i ≤ ((txt l).length : Int)) (hc : ([Str.ofString "+", Str.ofString "-"].any fun x => x == Txt.slice (txt l) (some i) (some (i + 1))) = false)  (ha : m (Str.ofString "at") = some (.int i ti)) (ht : m (Str.ofString "text") = some (.str (txt l) u)) :
    Sg w mean mg mb 6 (Str.ofString "d_of_text") (defC 23) (defS 23 3) m news (fun o m' news' => o = none ∧ (∀ z, m' z = m z) ∧ news' = news) := by
  unfold Sg
  k_fill
  intro dp un gd a ccd outer A₀ base h₀ L s Q E B F X N T hdp hun hret
  k_with_none
  replace F := fq2 F ha ht
  conv in (defS 23 3) => whnf
  conv in (occs := *) (defC 23) => all_goals whnf
  k_steps
  exact sg_next hret (by with_reducible assumption) (by with_reducible assumption) (by intro p hp; repeat first | exact hp | refine List.Mem.tail _ ?_) ⟨rfl, (by intro z; (try unfold PyProof.Rows.bindM); (try dsimp only); (repeat' split) <;> first | rfl | (subst_vars; symm; assumption) | (subst_vars; exact absurd rfl (by assumption))), rfl⟩
theorem v3_y (l : List Nat) (u : Tok) (i : Int) (ti : Tok) (m : Str → Option Value) (news : List (Addr × Obj)) (h2 : (txt l).length < 200) (h0 : 0 ≤ i) (h1 : i ≤ ((txt l).length : Int)) (hc : ([Str.ofString "+", Str.ofString "-"].any fun x => x == Txt.slice (txt l) (some i) (some (i + 1))) = true)  (ha : m (Str.ofString "at") = some (.int i ti)) (ht : m (Str.ofString "text") = some (.str (txt l) u)) :
    Sg w mean mg mb 6 (Str.ofString "d_of_text") (defC 23) (defS 23 3) m news (fun o m' news' => o = none ∧ (∃ t, m' (Str.ofString "at") = some (.int (i + 1) t)) ∧ (∀ z, z ≠ (Str.ofString "at") → m' z = m z) ∧ news' = news) := by
  unfold Sg
  k_fill
  intro dp un gd a ccd outer A₀ base h₀ L s Q E B F X N T hdp hun hret
  k_with_none
  replace F := fq2 F ha ht
  conv in (defS 23 3) => whnf
  conv in (occs := *) (defC 23) => all_goals whnf
  k_steps
  exact sg_next hret (by with_reducible assumption) (by with_reducible assumption) (by intro p hp; repeat first | exact hp | refine List.Mem.tail _ ?_) ⟨rfl, ⟨_, if_pos rfl⟩, (by intro z hz0; (try unfold PyProof.Rows.bindM); (try dsimp only); (try simp only [hz0, if_false, List.contains_nil, Bool.false_eq_true]); all_goals (repeat' split); all_goals first | rfl | (subst_vars; symm; assumption) | (subst_vars; exact absurd rfl (by assumption))), rfl⟩
theorem v4_c (l : List Nat) (u : Tok) (i : Int) (ti : Tok) (m : Str → Option Value) (news : List (Addr × Obj)) (h2 : (txt l).length < 200) (h0 : 0 ≤ i) (h1 : i ≤ ((txt l).length : Int))  (ha : m (Str.ofString "at") = some (.int i ti)) (ht : m (Str.ofString "text") = some (.str (txt l) u)) :
    Sg w mean mg mb 6 (Str.ofString "d_of_text") (defC 23) (defS 23 4) m news (fun o m' news' => o = none ∧ (∃ t, m' (Str.ofString "found") = some (.int (val (runL l i.toNat)) t)) ∧ (∃ t, m' (Str.ofString "ahead") = some (.int ((runL l i.toNat).length : Int) t)) ∧ (∃ t, m' (Str.ofString "at") = some (.int (i + ((runL l i.toNat).length : Int)) t)) ∧ (∀ z, z ≠ (Str.ofString "found") → z ≠ (Str.ofString "ahead") → z ≠ (Str.ofString "at") → m' z = m z) ∧ news' = news) := by
  unfold Sg
  k_fill
  intro dp un gd a ccd outer A₀ base h₀ L s Q E B F X N T hdp hun hret
  k_with_none
  k_with "call ref" => (k_here; (with_reducible show wpAny _ _ (call (Value.ref 136) _) _ _ _); k_dflt (refine Con.use3 (by k_asm) (by k_asm) (by k_asm) (by k_asm) (by k_asm) (by first | exact rfl | assumption) (by ktr_room) (by ktr_units) (run_of_figures_c _ _ _ _ _ (by first | assumption | omega) (by first | assumption | omega) (by first | assumption | omega)) ?_); k_whole; intro D9 t9 u9 w9 c9 h9 tk9 l9 F9 N9; (try simp only [AllLt, and_true] at l9); (try dsimp only); (try k_fold))
  replace F := fq2 F ha ht
  conv in (defS 23 4) => whnf
  conv in (occs := *) (defC 23) => all_goals whnf
  k_steps
  exact sg_next hret (by with_reducible assumption) (by with_reducible assumption) (by intro p hp; repeat first | exact hp | refine List.Mem.tail _ ?_) ⟨rfl, ⟨_, (by first | exact if_pos rfl | exact (if_neg (by decide)).trans (if_pos rfl) | exact (if_neg (by decide)).trans ((if_neg (by decide)).trans (if_pos rfl)) | exact (if_neg (by decide)).trans ((if_neg (by decide)).trans ((if_neg (by decide)).trans (if_pos rfl))))⟩, ⟨_, (by first | exact if_pos rfl | exact (if_neg (by decide)).trans (if_pos rfl) | exact (if_neg (by decide)).trans ((if_neg (by decide)).trans (if_pos rfl)) | exact (if_neg (by decide)).trans ((if_neg (by decide)).trans ((if_neg (by decide)).trans (if_pos rfl))))⟩, ⟨_, (by first | exact if_pos rfl | exact (if_neg (by decide)).trans (if_pos rfl) | exact (if_neg (by decide)).trans ((if_neg (by decide)).trans (if_pos rfl)) | exact (if_neg (by decide)).trans ((if_neg (by decide)).trans ((if_neg (by decide)).trans (if_pos rfl))))⟩, (by intro z hz0 hz1 hz2; (try unfold PyProof.Rows.bindM); (try dsimp only); (try simp only [hz0, hz1, hz2, if_false, List.contains_nil, Bool.false_eq_true]); all_goals (repeat' split); all_goals first | rfl | (subst_vars; symm; assumption) | (subst_vars; exact absurd rfl (by assumption))), rfl⟩
theorem v5_c  (m : Str → Option Value) (news : List (Addr × Obj))    :
    Sg w mean mg mb 6 (Str.ofString "d_of_text") (defC 23) (defS 23 5) m news (fun o m' news' => o = none ∧ (∃ t, m' (Str.ofString "behind") = some (.int 0 t)) ∧ (∀ z, z ≠ (Str.ofString "behind") → m' z = m z) ∧ news' = news) := by
  unfold Sg
  k_fill
  intro dp un gd a ccd outer A₀ base h₀ L s Q E B F X N T hdp hun hret
  k_with_none
  conv in (defS 23 5) => whnf
  conv in (occs := *) (defC 23) => all_goals whnf
  k_steps
  exact sg_next hret (by with_reducible assumption) (by with_reducible assumption) (fun p hp => hp) ⟨rfl, ⟨_, if_pos rfl⟩, (by intro z hz0; (try unfold PyProof.Rows.bindM); (try dsimp only); (try simp only [hz0, if_false, List.contains_nil, Bool.false_eq_true]); all_goals (repeat' split); all_goals first | rfl | (subst_vars; symm; assumption) | (subst_vars; exact absurd rfl (by assumption))), rfl⟩
theorem v6_n (l : List Nat) (u : Tok) (i : Int) (ti : Tok) (m : Str → Option Value) (news : List (Addr × Obj)) (h2 : (txt l).length < 200) (h0 : 0 ≤ i) (h1 : i ≤ ((txt l).length : Int)) (hc : (Txt.slice (txt l) (some i) (some (i + 1)) == Str.ofString ".") = false)  (ha : m (Str.ofString "at") = some (.int i ti)) (ht : m (Str.ofString "text") = some (.str (txt l) u)) :
    Sg w mean mg mb 6 (Str.ofString "d_of_text") (defC 23) (defS 23 6) m news (fun o m' news' => o = none ∧ (∀ z, m' z = m z) ∧ news' = news) := by
  unfold Sg
  k_fill
  intro dp un gd a ccd outer A₀ base h₀ L s Q E B F X N T hdp hun hret
  k_with_none
  replace F := fq2 F ha ht
  conv in (defS 23 6) => whnf
  conv in (occs := *) (defC 23) => all_goals whnf
  k_steps
  exact sg_next hret (by with_reducible assumption) (by with_reducible assumption) (by intro p hp; repeat first | exact hp | refine List.Mem.tail _ ?_) ⟨rfl, (by intro z; (try unfold PyProof.Rows.bindM); (try dsimp only); (repeat' split) <;> first | rfl | (subst_vars; symm; assumption) | (subst_vars; exact absurd rfl (by assumption))), rfl⟩
theorem v6_y (l : List Nat) (u : Tok) (i : Int) (ti : Tok) (f ah : Int) (tf ta : Tok) (m : Str → Option Value) (news : List (Addr × Obj)) (h2 : (txt l).length < 200) (h0 : 0 ≤ i) (h1 : i ≤ ((txt l).length : Int)) (hc : (Txt.slice (txt l) (some i) (some (i + 1)) == Str.ofString ".") = true) (h3 : i + 1 ≤ ((txt l).length : Int)) (h4 : i + 1 + ((runL l (i + 1).toNat).length : Int) ≤ ((txt l).length : Int)) (hf0 : -(2 ^ 64) < f) (hf1 : f < 2 ^ 64) (ha0 : 0 ≤ ah)  (ha : m (Str.ofString "at") = some (.int i ti)) (ht : m (Str.ofString "text") = some (.str (txt l) u)) (hf : m (Str.ofString "found") = some (.int f tf)) (haa : m (Str.ofString "ahead") = some (.int ah ta)) :
    Sg w mean mg mb 6 (Str.ofString "d_of_text") (defC 23) (defS 23 6) m news (fun o m' news' => o = none ∧ (∃ t, m' (Str.ofString "found") = some (.int (f * 10 ^ (((runL l (i + 1).toNat).length : Int)).toNat + val (runL l (i + 1).toNat)) t)) ∧ (∃ t, m' (Str.ofString "behind") = some (.int ((runL l (i + 1).toNat).length : Int) t)) ∧ (∃ (i' : Int) (t : Tok), m' (Str.ofString "at") = some (.int i' t) ∧ (0 < ah + ((runL l (i + 1).toNat).length : Int) → i' = i + 1 + ((runL l (i + 1).toNat).length : Int))) ∧ (∀ z, z ≠ (Str.ofString "found") → z ≠ (Str.ofString "more") → z ≠ (Str.ofString "behind") → z ≠ (Str.ofString "end") → z ≠ (Str.ofString "at") → m' z = m z) ∧ news' = news) := by
  unfold Sg
  k_fill
  intro dp un gd a ccd outer A₀ base h₀ L s Q E B F X N T hdp hun hret
  k_with_none
  k_with "call ref" => (k_here; (with_reducible show wpAny _ _ (call (Value.ref 136) _) _ _ _); k_dflt (refine Con.use3 (by k_asm) (by k_asm) (by k_asm) (by k_asm) (by k_asm) (by first | exact rfl | assumption) (by ktr_room) (by ktr_units) (run_of_figures_c _ _ _ _ _ (by first | assumption | omega) (by first | assumption | omega) (by first | assumption | omega)) ?_); k_whole; intro D9 t9 u9 w9 c9 h9 tk9 l9 F9 N9; (try simp only [AllLt, and_true] at l9); (try dsimp only); (try k_fold))
  replace F := fq4 F ha ht hf haa
  conv in (defS 23 6) => whnf
  conv in (occs := *) (defC 23) => all_goals whnf
  k_steps
  all_goals exact sg_next hret (by with_reducible assumption) (by with_reducible assumption) (by intro p hp; repeat first | exact hp | refine List.Mem.tail _ ?_) ⟨rfl, ⟨_, (by first | exact if_pos rfl | exact (if_neg (by decide)).trans (if_pos rfl) | exact (if_neg (by decide)).trans ((if_neg (by decide)).trans (if_pos rfl)) | exact (if_neg (by decide)).trans ((if_neg (by decide)).trans ((if_neg (by decide)).trans (if_pos rfl))))⟩, ⟨_, (by first | exact if_pos rfl | exact (if_neg (by decide)).trans (if_pos rfl) | exact (if_neg (by decide)).trans ((if_neg (by decide)).trans (if_pos rfl)) | exact (if_neg (by decide)).trans ((if_neg (by decide)).trans ((if_neg (by decide)).trans (if_pos rfl))))⟩, ⟨_, _, (by first | exact if_pos rfl | exact (if_neg (by decide)).trans (if_pos rfl) | exact (if_neg (by decide)).trans ((if_neg (by decide)).trans (if_pos rfl)) | exact (if_neg (by decide)).trans ((if_neg (by decide)).trans ((if_neg (by decide)).trans (if_pos rfl)))), fun hz => by first | rfl | (exfalso; omega)⟩, (by intro z hz0 hz1 hz2 hz3 hz4; (try unfold PyProof.Rows.bindM); (try dsimp only); (try simp only [hz0, hz1, hz2, hz3, hz4, if_false, List.contains_nil, Bool.false_eq_true]); all_goals (repeat' split); all_goals first | rfl | (subst_vars; symm; assumption) | (subst_vars; exact absurd rfl (by assumption))), rfl⟩
theorem v7_n (ah bh : Int) (ta tb : Tok) (m : Str → Option Value) (news : List (Addr × Obj)) (h0 : 0 ≤ ah) (h1 : 0 ≤ bh) (hc : 0 < ah + bh)  (haa : m (Str.ofString "ahead") = some (.int ah ta)) (hbb : m (Str.ofString "behind") = some (.int bh tb)) :
    Sg w mean mg mb 6 (Str.ofString "d_of_text") (defC 23) (defS 23 7) m news (fun o m' news' => o = none ∧ (∀ z, m' z = m z) ∧ news' = news) := by
  unfold Sg
  k_fill
  intro dp un gd a ccd outer A₀ base h₀ L s Q E B F X N T hdp hun hret
  k_with_none
  replace F := fq2 F haa hbb
  conv in (defS 23 7) => whnf
  conv in (occs := *) (defC 23) => all_goals whnf
  k_steps
  all_goals first | (exfalso; omega) | exact sg_next hret (by with_reducible assumption) (by with_reducible assumption) (by intro p hp; repeat first | exact hp | refine List.Mem.tail _ ?_) ⟨rfl, (by intro z; (try unfold PyProof.Rows.bindM); (try dsimp only); (repeat' split) <;> first | rfl | (subst_vars; symm; assumption) | (subst_vars; exact absurd rfl (by assumption))), rfl⟩
theorem v7_y (ah bh : Int) (ta tb : Tok) (m : Str → Option Value) (news : List (Addr × Obj)) (h0 : ah = 0) (h1 : bh = 0)  (haa : m (Str.ofString "ahead") = some (.int ah ta)) (hbb : m (Str.ofString "behind") = some (.int bh tb)) :
    Sg w mean mg mb 6 (Str.ofString "d_of_text") (defC 23) (defS 23 7) m news (fun o m' news' => o = some .none ∧ news' = news) := by
  unfold Sg
  k_fill
  intro dp un gd a ccd outer A₀ base h₀ L s Q E B F X N T hdp hun hret
  k_with_none
  replace F := fq2 F haa hbb
  conv in (defS 23 7) => whnf
  conv in (occs := *) (defC 23) => all_goals whnf
  k_steps
  all_goals first | (exfalso; omega) | exact sg_ret hret (by with_reducible assumption) (by with_reducible assumption) (by intro p hp; repeat first | exact hp | refine List.Mem.tail _ ?_) ⟨rfl, rfl⟩
theorem v8_c (l : List Nat) (u : Tok) (i : Int) (ti : Tok) (m : Str → Option Value) (news : List (Addr × Obj)) (h2 : (txt l).length < 200) (h0 : 0 ≤ i) (h1 : i ≤ ((txt l).length : Int))  (ha : m (Str.ofString "at") = some (.int i ti)) (ht : m (Str.ofString "text") = some (.str (txt l) u)) :
    Sg w mean mg mb 6 (Str.ofString "d_of_text") (defC 23) (defS 23 8) m news (fun o m' news' => o = none ∧ (∃ t, m' (Str.ofString "exponent") = some (.int (expAt l i).1 t)) ∧ (∃ t, m' (Str.ofString "at") = some (.int (expAt l i).2 t)) ∧ (∀ z, z ≠ (Str.ofString "exponent") → z ≠ (Str.ofString "at") → m' z = m z) ∧ news' = news) := by
  unfold Sg
  k_fill
  intro dp un gd a ccd outer A₀ base h₀ L s Q E B F X N T hdp hun hret
  k_with_none
  k_with "call ref" => (k_here; (with_reducible show wpAny _ _ (call (Value.ref 143) _) _ _ _); k_dflt (refine Con.useT (by k_asm) (by k_asm) (by k_asm) (by k_asm) (by k_asm) (by first | exact rfl | assumption) (by ktr_room) (by ktr_units) (exponent_at_c _ _ _ _ _ (by first | assumption | omega) (by first | assumption | omega) (by first | assumption | omega)) ?_); k_whole; intro D9 t9 u9 c9 h9 tk9 l9 F9 N9; (try simp only [AllLt, and_true] at l9); (try dsimp only); (try k_fold))
  replace F := fq2 F ha ht
  conv in (defS 23 8) => whnf
  conv in (occs := *) (defC 23) => all_goals whnf
  k_steps
  exact sg_next hret (by with_reducible assumption) (by with_reducible assumption) (by intro p hp; repeat first | exact hp | refine List.Mem.tail _ ?_) ⟨rfl, ⟨_, (by first | exact if_pos rfl | exact (if_neg (by decide)).trans (if_pos rfl) | exact (if_neg (by decide)).trans ((if_neg (by decide)).trans (if_pos rfl)) | exact (if_neg (by decide)).trans ((if_neg (by decide)).trans ((if_neg (by decide)).trans (if_pos rfl))))⟩, ⟨_, (by first | exact if_pos rfl | exact (if_neg (by decide)).trans (if_pos rfl) | exact (if_neg (by decide)).trans ((if_neg (by decide)).trans (if_pos rfl)) | exact (if_neg (by decide)).trans ((if_neg (by decide)).trans ((if_neg (by decide)).trans (if_pos rfl))))⟩, (by intro z hz0 hz1; (try unfold PyProof.Rows.bindM); (try dsimp only); (try simp only [hz0, hz1, if_false, List.contains_nil, Bool.false_eq_true]); all_goals (repeat' split); all_goals first | rfl | (subst_vars; symm; assumption) | (subst_vars; exact absurd rfl (by assumption))), rfl⟩
theorem v9_e0 {news news2 : List (Addr × Obj)} {h₀ h' : Heap} {L : Addr} {m' : Str → Option Value} {s : Shared} {Q : Flow → Shared → Prop} {tk' : Nat} {X Y at_ : Int} {D : Addr} {t : Tok} {c : Nat}
    (hret : ∀ (o : Option Value) (m' : Str → Option Value) (news' : List (Addr × Obj)) (h' : Heap) (tk' : Nat), (∃ v, o = some v ∧ RetP news X Y at_ v news') → Fr h₀ L h' m' → News h₀ L h' news' → Q (flo o) { s with heap := h', toks := tk' })
    (F : Fr h₀ L h' m') (N : News h₀ L h' news2) (hm : (D, parO (.ref 59) at_ t c) ∈ news2) (hs : ∀ p ∈ news, p ∈ news2) (hl : AllLt D news) (e1 : X = 0) (e2 : Y = 0) : Q (.ret (.ref D)) { s with heap := h', toks := tk' } := by
  refine hret (some (.ref D)) m' _ h' tk' ⟨_, rfl, ⟨D, t, c, rfl, .inl ⟨e1, e2, rfl, hl⟩⟩⟩ F (news_sub N fun p hp => ?_)
  rcases List.mem_cons.mp hp with rfl | hp
  · exact hm
  · exact hs p hp
theorem v9_e1 {news news2 : List (Addr × Obj)} {h₀ h' : Heap} {L : Addr} {m' : Str → Option Value} {s : Shared} {Q : Flow → Shared → Prop} {tk' : Nat} {X Y at_ : Int} {D D1 : Addr} {t t1 t2 : Tok} {c c1 : Nat}
    (hret : ∀ (o : Option Value) (m' : Str → Option Value) (news' : List (Addr × Obj)) (h' : Heap) (tk' : Nat), (∃ v, o = some v ∧ RetP news X Y at_ v news') → Fr h₀ L h' m' → News h₀ L h' news' → Q (flo o) { s with heap := h', toks := tk' })
    (F : Fr h₀ L h' m') (N : News h₀ L h' news2) (hm : (D, parO (.ref D1) at_ t c) ∈ news2) (hm1 : (D1, tupO X t1 Y t2 c1) ∈ news2) (hs : ∀ p ∈ news, p ∈ news2) (hl : AllLt D news) (hl1 : AllLt D1 news) (hlt : D1 < D) : Q (.ret (.ref D)) { s with heap := h', toks := tk' } := by
  refine hret (some (.ref D)) m' _ h' tk' ⟨_, rfl, ⟨D, t, c, rfl, .inr ⟨D1, t1, t2, c1, rfl, hl, hl1, hlt⟩⟩⟩ F (news_sub N fun p hp => ?_)
  rcases List.mem_cons.mp hp with rfl | hp
  · exact hm
  rcases List.mem_cons.mp hp with rfl | hp
  · exact hm1
  · exact hs p hp
theorem v9_n (f e b at_ d : Int) (tf te tb ta td : Tok) (m : Str → Option Value) (news : List (Addr × Obj)) (hd : figs (if f < 0 then -f else f) ≤ d) (h5 : -99 ≤ (e - b) + figs (if f < 0 then -f else f) - 1) (h6 : (e - b) + figs (if f < 0 then -f else f) - 1 ≤ 99)  (hb : m (Str.ofString "is_below") = some (.bool false)) (hf : m (Str.ofString "found") = some (.int f tf)) (he : m (Str.ofString "exponent") = some (.int e te)) (hbb : m (Str.ofString "behind") = some (.int b tb)) (hdd : m (Str.ofString "digits") = some (.int d td)) (hat : m (Str.ofString "at") = some (.int at_ ta)) :
    Sg w mean mg mb 6 (Str.ofString "d_of_text") (defC 23) (defS 23 9) m news (fun o m' news' => ∃ v, o = some v ∧ RetP news (norm f (e - b)).1 (norm f (e - b)).2 at_ v news') := by
  unfold Sg
  k_fill
  intro dp un gd a ccd outer A₀ base h₀ L s Q E B F X N T hdp hun hret
  k_with_none
  k_with "call ref" => (k_here; (with_reducible show wpAny _ _ (call (Value.ref 157) _) _ _ _); k_dflt (refine Con.useN (by k_asm) (by k_asm) (by k_asm) (by k_asm) (by k_asm) (by first | exact rfl | assumption) (by ktr_room) (by ktr_units) (told_decimal_c _ _ _ _ _ _ _ (by first | assumption | omega) (by first | assumption | omega) (by first | assumption | omega)) (fun h9 tk9 e9x e9y F9 N9 => ?_) (fun D9 t9 u9 c9 h9 tk9 l9 F9 N9 => ?_)); all_goals (try simp only [AllLt, and_true] at l9); all_goals (try dsimp only); all_goals (try k_fold))
  replace F := fq6 F hb hf he hbb hdd hat
  conv in (defS 23 9) => whnf
  conv in (occs := *) (defC 23) => all_goals whnf
  k_steps
  all_goals first
    | exact v9_e0 hret (by with_reducible assumption) (by with_reducible assumption) (by k_mem) (by intro p hp; repeat first | exact hp | refine List.Mem.tail _ ?_) (by first | with_reducible assumption | exact allLt_of (by with_reducible assumption) | exact And.right (by with_reducible assumption) | exact And.right (And.right (by with_reducible assumption)) | exact And.right (And.right (And.right (by with_reducible assumption))) | exact And.right (And.right (And.right (And.right (by with_reducible assumption))))) (by with_reducible assumption) (by with_reducible assumption)
    | exact v9_e1 hret (by with_reducible assumption) (by with_reducible assumption) (by k_mem) (by k_mem) (by intro p hp; repeat first | exact hp | refine List.Mem.tail _ ?_) (by first | with_reducible assumption | exact allLt_of (by with_reducible assumption) | exact And.right (by with_reducible assumption) | exact And.right (And.right (by with_reducible assumption)) | exact And.right (And.right (And.right (by with_reducible assumption))) | exact And.right (And.right (And.right (And.right (by with_reducible assumption))))) (by first | with_reducible assumption | exact allLt_of (by with_reducible assumption) | exact And.right (by with_reducible assumption) | exact And.right (And.right (by with_reducible assumption)) | exact And.right (And.right (And.right (by with_reducible assumption))) | exact And.right (And.right (And.right (And.right (by with_reducible assumption))))) (by first | with_reducible assumption | exact (And.left (by with_reducible assumption)))
theorem v9_y (f e b at_ d : Int) (tf te tb ta td : Tok) (m : Str → Option Value) (news : List (Addr × Obj)) (hd : figs (if (0 - f) < 0 then -(0 - f) else (0 - f)) ≤ d) (h5 : -99 ≤ (e - b) + figs (if (0 - f) < 0 then -(0 - f) else (0 - f)) - 1) (h6 : (e - b) + figs (if (0 - f) < 0 then -(0 - f) else (0 - f)) - 1 ≤ 99)  (hb : m (Str.ofString "is_below") = some (.bool true)) (hf : m (Str.ofString "found") = some (.int f tf)) (he : m (Str.ofString "exponent") = some (.int e te)) (hbb : m (Str.ofString "behind") = some (.int b tb)) (hdd : m (Str.ofString "digits") = some (.int d td)) (hat : m (Str.ofString "at") = some (.int at_ ta)) :
    Sg w mean mg mb 6 (Str.ofString "d_of_text") (defC 23) (defS 23 9) m news (fun o m' news' => ∃ v, o = some v ∧ RetP news (norm (0 - f) (e - b)).1 (norm (0 - f) (e - b)).2 at_ v news') := by
  unfold Sg
  k_fill
  intro dp un gd a ccd outer A₀ base h₀ L s Q E B F X N T hdp hun hret
  k_with_none
  k_with "call ref" => (k_here; (with_reducible show wpAny _ _ (call (Value.ref 157) _) _ _ _); k_dflt (refine Con.useN (by k_asm) (by k_asm) (by k_asm) (by k_asm) (by k_asm) (by first | exact rfl | assumption) (by ktr_room) (by ktr_units) (told_decimal_c _ _ _ _ _ _ _ (by first | assumption | omega) (by first | assumption | omega) (by first | assumption | omega)) (fun h9 tk9 e9x e9y F9 N9 => ?_) (fun D9 t9 u9 c9 h9 tk9 l9 F9 N9 => ?_)); all_goals (try simp only [AllLt, and_true] at l9); all_goals (try dsimp only); all_goals (try k_fold))
  replace F := fq6 F hb hf he hbb hdd hat
  conv in (defS 23 9) => whnf
  conv in (occs := *) (defC 23) => all_goals whnf
  k_steps
  all_goals first
    | exact v9_e0 hret (by with_reducible assumption) (by with_reducible assumption) (by k_mem) (by intro p hp; repeat first | exact hp | refine List.Mem.tail _ ?_) (by first | with_reducible assumption | exact allLt_of (by with_reducible assumption) | exact And.right (by with_reducible assumption) | exact And.right (And.right (by with_reducible assumption)) | exact And.right (And.right (And.right (by with_reducible assumption))) | exact And.right (And.right (And.right (And.right (by with_reducible assumption))))) (by with_reducible assumption) (by with_reducible assumption)
    | exact v9_e1 hret (by with_reducible assumption) (by with_reducible assumption) (by k_mem) (by k_mem) (by intro p hp; repeat first | exact hp | refine List.Mem.tail _ ?_) (by first | with_reducible assumption | exact allLt_of (by with_reducible assumption) | exact And.right (by with_reducible assumption) | exact And.right (And.right (by with_reducible assumption)) | exact And.right (And.right (And.right (by with_reducible assumption))) | exact And.right (And.right (And.right (And.right (by with_reducible assumption))))) (by first | with_reducible assumption | exact allLt_of (by with_reducible assumption) | exact And.right (by with_reducible assumption) | exact And.right (And.right (by with_reducible assumption)) | exact And.right (And.right (And.right (by with_reducible assumption))) | exact And.right (And.right (And.right (And.right (by with_reducible assumption))))) (by first | with_reducible assumption | exact (And.left (by with_reducible assumption)))
end Mine

namespace Mine
variable {w : World} {mean : ExcName → Option Value} {mg mb : Str → Option Value}
theorem dbody_is : bodyO (defD 23) = [defS 23 0, defS 23 1, defS 23 2, defS 23 3, defS 23 4, defS 23 5, defS 23 6, defS 23 7, defS 23 8, defS 23 9] := by rfl
theorem d_of_text_con (l : List Nat) (d : Int) (u t3 : Tok) (news : List (Addr × Obj)) (Ret : Value → List (Addr × Obj) → Prop)
    (H : ∀ m : Str → Option Value, m (Str.ofString "text") = some (.str (txt l) u) → m (Str.ofString "digits") = some (.int d t3) → Sgs w mean mg mb 6 (Str.ofString "d_of_text") (defC 23) (bodyO (defD 23)) m news (fun o _ n' => ∃ v, o = some v ∧ Ret v n')) : Con w mean mg mb 6 150 [.str (txt l) u, .int d t3] news Ret := by
  unfold Con
  k_fill
  intro dp un gd cn cs a ccd cl outer A₀ base h₀ L m s Q E B F X N T hk hdp hun hret
  refine wpAny_call ?_
  k_dflt cell_enter
  have H' := H (fun y => List.lookup y [((Str.ofString "text"), Value.str (txt l) u), ((Str.ofString "digits"), Value.int d t3)].reverse) rfl rfl
  unfold Sgs at H'
  refine H' dp un gd _ _ _ _ _ _ _ _ _ _ (by with_reducible assumption) (by assumption) (by with_reducible assumption) (by with_reducible assumption) (by with_reducible assumption) hdp hun ?_
  intro o m' n' h' tk' P9 F9 N9
  obtain ⟨v, rfl, hr⟩ := P9
  k_with_none
  k_steps
  exact hret _ _ _ _ hr (by with_reducible assumption) (by with_reducible assumption)
theorem d_of_text_00 (l : List Nat) (d : Int) (u t3 : Tok) (news : List (Addr × Obj)) (h2 : (txt l).length < 200) (hlt : lead l < ((txt l).length : Int)) (f1 : (Txt.slice (txt l) (some (lead l)) (some (lead l + 1)) == Str.ofString "-") = false) (f2 : ([Str.ofString "+", Str.ofString "-"].any fun x => x == Txt.slice (txt l) (some (lead l)) (some (lead l + 1))) = false) (f3 : (Txt.slice (txt l) (some ((lead l) + ((runL l (lead l).toNat).length : Int))) (some (((lead l) + ((runL l (lead l).toNat).length : Int)) + 1)) == Str.ofString ".") = false) (hi1 : (lead l) ≤ ((txt l).length : Int)) (hi2 : ((lead l) + ((runL l (lead l).toNat).length : Int)) ≤ ((txt l).length : Int)) (hc : 0 < ((runL l (lead l).toNat).length : Int)) (hd : figs (if (val (runL l (lead l).toNat)) < 0 then -(val (runL l (lead l).toNat)) else (val (runL l (lead l).toNat))) ≤ d) (h5 : -99 ≤ ((expAt l ((lead l) + ((runL l (lead l).toNat).length : Int))).1 - (0 : Int)) + figs (if (val (runL l (lead l).toNat)) < 0 then -(val (runL l (lead l).toNat)) else (val (runL l (lead l).toNat))) - 1) (h6 : ((expAt l ((lead l) + ((runL l (lead l).toNat).length : Int))).1 - (0 : Int)) + figs (if (val (runL l (lead l).toNat)) < 0 then -(val (runL l (lead l).toNat)) else (val (runL l (lead l).toNat))) - 1 ≤ 99) : Con w mean mg mb 6 150 [.str (txt l) u, .int d t3] news (RetP news (norm (val (runL l (lead l).toNat)) ((expAt l ((lead l) + ((runL l (lead l).toNat).length : Int))).1 - (0 : Int))).1 (norm (val (runL l (lead l).toNat)) ((expAt l ((lead l) + ((runL l (lead l).toNat).length : Int))).1 - (0 : Int))).2 (expAt l ((lead l) + ((runL l (lead l).toNat).length : Int))).2) := by
  have hl0 := lead_nn l
  refine d_of_text_con l d u t3 news _ fun m ht hd0 => ?_
  rw [dbody_is]
  refine Sgs.cons (v0_c m news) (fun _ _ _ h => nomatch h.1) ?_
  rintro m0 n0 ⟨-, ⟨t0, ha⟩, r0, rfl⟩
  have ht := (r0 _ (by decide)).trans ht
  have hd0 := (r0 _ (by decide)).trans hd0
  refine Sgs.cons (v1_c l u t0 m0 _ h2 hlt ha ht) (fun _ _ _ h => nomatch h.1) ?_
  rintro m1 n1 ⟨-, ⟨t1, ha⟩, r1, rfl⟩
  have ht := (r1 _ (by decide)).trans ht
  have hd0 := (r1 _ (by decide)).trans hd0
  refine Sgs.cons (v2_c l u (lead l) t1 m1 _ h2 hl0 (by omega) ha ht) (fun _ _ _ h => nomatch h.1) ?_
  rintro m2 n2 ⟨-, hb, r2, rfl⟩
  rw [f1] at hb
  have ht := (r2 _ (by decide)).trans ht
  have hd0 := (r2 _ (by decide)).trans hd0
  have ha := (r2 _ (by decide)).trans ha
  refine Sgs.cons (v3_n l u (lead l) t1 m2 _ h2 hl0 (by omega) f2 ha ht) (fun _ _ _ h => nomatch h.1) ?_
  rintro m3 n3 ⟨-, r3, rfl⟩
  have ha := (r3 _).trans ha
  have ht := (r3 _).trans ht
  have hd0 := (r3 _).trans hd0
  have hb := (r3 _).trans hb
  refine Sgs.cons (v4_c l u (lead l) _ m3 _ h2 (by omega) hi1 ha ht) (fun _ _ _ h => nomatch h.1) ?_
  rintro m4 n4 ⟨-, ⟨t4, hf⟩, ⟨t5, haa⟩, ⟨t6, ha⟩, r4, rfl⟩
  have ht := (r4 _ (by decide) (by decide) (by decide)).trans ht
  have hd0 := (r4 _ (by decide) (by decide) (by decide)).trans hd0
  have hb := (r4 _ (by decide) (by decide) (by decide)).trans hb
  refine Sgs.cons (v5_c m4 _) (fun _ _ _ h => nomatch h.1) ?_
  rintro m5 n5 ⟨-, ⟨t7, hbb⟩, r5, rfl⟩
  have ht := (r5 _ (by decide)).trans ht
  have hd0 := (r5 _ (by decide)).trans hd0
  have hb := (r5 _ (by decide)).trans hb
  have hf := (r5 _ (by decide)).trans hf
  have haa := (r5 _ (by decide)).trans haa
  have ha := (r5 _ (by decide)).trans ha
  refine Sgs.cons (v6_n l u ((lead l) + ((runL l (lead l).toNat).length : Int)) t6 m5 _ h2 (by omega) hi2 f3 ha ht) (fun _ _ _ h => nomatch h.1) ?_
  rintro m6 n6 ⟨-, r6, rfl⟩
  have ha := (r6 _).trans ha
  have ht := (r6 _).trans ht
  have hd0 := (r6 _).trans hd0
  have hb := (r6 _).trans hb
  have hf := (r6 _).trans hf
  have haa := (r6 _).trans haa
  have hbb := (r6 _).trans hbb
  refine Sgs.cons (v7_n _ _ t5 _ m6 _ (by omega) (by omega) (by omega) haa hbb) (fun _ _ _ h => nomatch h.1) ?_
  rintro m7 n7 ⟨-, r7, rfl⟩
  refine Sgs.cons (v8_c l u _ _ m7 _ h2 (by omega) hi2 ((r7 _).trans ha) ((r7 _).trans ht)) (fun _ _ _ h => nomatch h.1) ?_
  rintro m8 n8 ⟨-, ⟨t11, he⟩, ⟨t12, ha⟩, r8, rfl⟩
  refine Sgs.cons (v9_n _ _ _ _ d _ _ _ _ t3 m8 _ hd h5 h6 ((r8 _ (by decide) (by decide)).trans ((r7 _).trans hb)) ((r8 _ (by decide) (by decide)).trans ((r7 _).trans hf)) he ((r8 _ (by decide) (by decide)).trans ((r7 _).trans hbb)) ((r8 _ (by decide) (by decide)).trans ((r7 _).trans hd0)) ha) (fun v m' n' h => h) (fun _ _ h => ?_)
  obtain ⟨v, e, _⟩ := h
  cases e
theorem d_of_text_01 (l : List Nat) (d : Int) (u t3 : Tok) (news : List (Addr × Obj)) (h2 : (txt l).length < 200) (hlt : lead l < ((txt l).length : Int)) (f1 : (Txt.slice (txt l) (some (lead l)) (some (lead l + 1)) == Str.ofString "-") = false) (f2 : ([Str.ofString "+", Str.ofString "-"].any fun x => x == Txt.slice (txt l) (some (lead l)) (some (lead l + 1))) = false) (f3 : (Txt.slice (txt l) (some ((lead l) + ((runL l (lead l).toNat).length : Int))) (some (((lead l) + ((runL l (lead l).toNat).length : Int)) + 1)) == Str.ofString ".") = true) (hi1 : (lead l) ≤ ((txt l).length : Int)) (hi2 : ((lead l) + ((runL l (lead l).toNat).length : Int)) ≤ ((txt l).length : Int)) (hi3 : ((lead l) + ((runL l (lead l).toNat).length : Int)) + 1 ≤ ((txt l).length : Int)) (hi4 : (((lead l) + ((runL l (lead l).toNat).length : Int)) + 1 + ((runL l (((lead l) + ((runL l (lead l).toNat).length : Int)) + 1).toNat).length : Int)) ≤ ((txt l).length : Int)) (hv0 : -(2 ^ 64) < val (runL l (lead l).toNat)) (hv1 : val (runL l (lead l).toNat) < 2 ^ 64) (hc : 0 < ((runL l (lead l).toNat).length : Int) + ((runL l (((lead l) + ((runL l (lead l).toNat).length : Int)) + 1).toNat).length : Int)) (hd : figs (if (val (runL l (lead l).toNat) * 10 ^ (((runL l (((lead l) + ((runL l (lead l).toNat).length : Int)) + 1).toNat).length : Int)).toNat + val (runL l (((lead l) + ((runL l (lead l).toNat).length : Int)) + 1).toNat)) < 0 then -(val (runL l (lead l).toNat) * 10 ^ (((runL l (((lead l) + ((runL l (lead l).toNat).length : Int)) + 1).toNat).length : Int)).toNat + val (runL l (((lead l) + ((runL l (lead l).toNat).length : Int)) + 1).toNat)) else (val (runL l (lead l).toNat) * 10 ^ (((runL l (((lead l) + ((runL l (lead l).toNat).length : Int)) + 1).toNat).length : Int)).toNat + val (runL l (((lead l) + ((runL l (lead l).toNat).length : Int)) + 1).toNat))) ≤ d) (h5 : -99 ≤ ((expAt l (((lead l) + ((runL l (lead l).toNat).length : Int)) + 1 + ((runL l (((lead l) + ((runL l (lead l).toNat).length : Int)) + 1).toNat).length : Int))).1 - ((runL l (((lead l) + ((runL l (lead l).toNat).length : Int)) + 1).toNat).length : Int)) + figs (if (val (runL l (lead l).toNat) * 10 ^ (((runL l (((lead l) + ((runL l (lead l).toNat).length : Int)) + 1).toNat).length : Int)).toNat + val (runL l (((lead l) + ((runL l (lead l).toNat).length : Int)) + 1).toNat)) < 0 then -(val (runL l (lead l).toNat) * 10 ^ (((runL l (((lead l) + ((runL l (lead l).toNat).length : Int)) + 1).toNat).length : Int)).toNat + val (runL l (((lead l) + ((runL l (lead l).toNat).length : Int)) + 1).toNat)) else (val (runL l (lead l).toNat) * 10 ^ (((runL l (((lead l) + ((runL l (lead l).toNat).length : Int)) + 1).toNat).length : Int)).toNat + val (runL l (((lead l) + ((runL l (lead l).toNat).length : Int)) + 1).toNat))) - 1) (h6 : ((expAt l (((lead l) + ((runL l (lead l).toNat).length : Int)) + 1 + ((runL l (((lead l) + ((runL l (lead l).toNat).length : Int)) + 1).toNat).length : Int))).1 - ((runL l (((lead l) + ((runL l (lead l).toNat).length : Int)) + 1).toNat).length : Int)) + figs (if (val (runL l (lead l).toNat) * 10 ^ (((runL l (((lead l) + ((runL l (lead l).toNat).length : Int)) + 1).toNat).length : Int)).toNat + val (runL l (((lead l) + ((runL l (lead l).toNat).length : Int)) + 1).toNat)) < 0 then -(val (runL l (lead l).toNat) * 10 ^ (((runL l (((lead l) + ((runL l (lead l).toNat).length : Int)) + 1).toNat).length : Int)).toNat + val (runL l (((lead l) + ((runL l (lead l).toNat).length : Int)) + 1).toNat)) else (val (runL l (lead l).toNat) * 10 ^ (((runL l (((lead l) + ((runL l (lead l).toNat).length : Int)) + 1).toNat).length : Int)).toNat + val (runL l (((lead l) + ((runL l (lead l).toNat).length : Int)) + 1).toNat))) - 1 ≤ 99) : Con w mean mg mb 6 150 [.str (txt l) u, .int d t3] news (RetP news (norm (val (runL l (lead l).toNat) * 10 ^ (((runL l (((lead l) + ((runL l (lead l).toNat).length : Int)) + 1).toNat).length : Int)).toNat + val (runL l (((lead l) + ((runL l (lead l).toNat).length : Int)) + 1).toNat)) ((expAt l (((lead l) + ((runL l (lead l).toNat).length : Int)) + 1 + ((runL l (((lead l) + ((runL l (lead l).toNat).length : Int)) + 1).toNat).length : Int))).1 - ((runL l (((lead l) + ((runL l (lead l).toNat).length : Int)) + 1).toNat).length : Int))).1 (norm (val (runL l (lead l).toNat) * 10 ^ (((runL l (((lead l) + ((runL l (lead l).toNat).length : Int)) + 1).toNat).length : Int)).toNat + val (runL l (((lead l) + ((runL l (lead l).toNat).length : Int)) + 1).toNat)) ((expAt l (((lead l) + ((runL l (lead l).toNat).length : Int)) + 1 + ((runL l (((lead l) + ((runL l (lead l).toNat).length : Int)) + 1).toNat).length : Int))).1 - ((runL l (((lead l) + ((runL l (lead l).toNat).length : Int)) + 1).toNat).length : Int))).2 (expAt l (((lead l) + ((runL l (lead l).toNat).length : Int)) + 1 + ((runL l (((lead l) + ((runL l (lead l).toNat).length : Int)) + 1).toNat).length : Int))).2) := by
  have hl0 := lead_nn l
  refine d_of_text_con l d u t3 news _ fun m ht hd0 => ?_
  rw [dbody_is]
  refine Sgs.cons (v0_c m news) (fun _ _ _ h => nomatch h.1) ?_
  rintro m0 n0 ⟨-, ⟨t0, ha⟩, r0, rfl⟩
  have ht := (r0 _ (by decide)).trans ht
  have hd0 := (r0 _ (by decide)).trans hd0
  refine Sgs.cons (v1_c l u t0 m0 _ h2 hlt ha ht) (fun _ _ _ h => nomatch h.1) ?_
  rintro m1 n1 ⟨-, ⟨t1, ha⟩, r1, rfl⟩
  have ht := (r1 _ (by decide)).trans ht
  have hd0 := (r1 _ (by decide)).trans hd0
  refine Sgs.cons (v2_c l u (lead l) t1 m1 _ h2 hl0 (by omega) ha ht) (fun _ _ _ h => nomatch h.1) ?_
  rintro m2 n2 ⟨-, hb, r2, rfl⟩
  rw [f1] at hb
  have ht := (r2 _ (by decide)).trans ht
  have hd0 := (r2 _ (by decide)).trans hd0
  have ha := (r2 _ (by decide)).trans ha
  refine Sgs.cons (v3_n l u (lead l) t1 m2 _ h2 hl0 (by omega) f2 ha ht) (fun _ _ _ h => nomatch h.1) ?_
  rintro m3 n3 ⟨-, r3, rfl⟩
  have ha := (r3 _).trans ha
  have ht := (r3 _).trans ht
  have hd0 := (r3 _).trans hd0
  have hb := (r3 _).trans hb
  refine Sgs.cons (v4_c l u (lead l) _ m3 _ h2 (by omega) hi1 ha ht) (fun _ _ _ h => nomatch h.1) ?_
  rintro m4 n4 ⟨-, ⟨t4, hf⟩, ⟨t5, haa⟩, ⟨t6, ha⟩, r4, rfl⟩
  have ht := (r4 _ (by decide) (by decide) (by decide)).trans ht
  have hd0 := (r4 _ (by decide) (by decide) (by decide)).trans hd0
  have hb := (r4 _ (by decide) (by decide) (by decide)).trans hb
  refine Sgs.cons (v5_c m4 _) (fun _ _ _ h => nomatch h.1) ?_
  rintro m5 n5 ⟨-, ⟨t7, hbb⟩, r5, rfl⟩
  have ht := (r5 _ (by decide)).trans ht
  have hd0 := (r5 _ (by decide)).trans hd0
  have hb := (r5 _ (by decide)).trans hb
  have hf := (r5 _ (by decide)).trans hf
  have haa := (r5 _ (by decide)).trans haa
  have ha := (r5 _ (by decide)).trans ha
  refine Sgs.cons (v6_y l u ((lead l) + ((runL l (lead l).toNat).length : Int)) t6 _ _ t4 t5 m5 _ h2 (by omega) hi2 f3 hi3 hi4 hv0 hv1 (by omega) ha ht hf haa) (fun _ _ _ h => nomatch h.1) ?_
  rintro m6 n6 ⟨-, ⟨t8, hf⟩, ⟨t9, hbb⟩, ⟨i', t10, ha, hi'⟩, r6, rfl⟩
  have hd0 := (r6 _ (by decide) (by decide) (by decide) (by decide) (by decide)).trans hd0
  have ht := (r6 _ (by decide) (by decide) (by decide) (by decide) (by decide)).trans ht
  have hb := (r6 _ (by decide) (by decide) (by decide) (by decide) (by decide)).trans hb
  have haa := (r6 _ (by decide) (by decide) (by decide) (by decide) (by decide)).trans haa
  rw [hi' hc] at ha
  refine Sgs.cons (v7_n _ _ t5 _ m6 _ (by omega) (by omega) (by omega) haa hbb) (fun _ _ _ h => nomatch h.1) ?_
  rintro m7 n7 ⟨-, r7, rfl⟩
  refine Sgs.cons (v8_c l u _ _ m7 _ h2 (by omega) hi4 ((r7 _).trans ha) ((r7 _).trans ht)) (fun _ _ _ h => nomatch h.1) ?_
  rintro m8 n8 ⟨-, ⟨t11, he⟩, ⟨t12, ha⟩, r8, rfl⟩
  refine Sgs.cons (v9_n _ _ _ _ d _ _ _ _ t3 m8 _ hd h5 h6 ((r8 _ (by decide) (by decide)).trans ((r7 _).trans hb)) ((r8 _ (by decide) (by decide)).trans ((r7 _).trans hf)) he ((r8 _ (by decide) (by decide)).trans ((r7 _).trans hbb)) ((r8 _ (by decide) (by decide)).trans ((r7 _).trans hd0)) ha) (fun v m' n' h => h) (fun _ _ h => ?_)
  obtain ⟨v, e, _⟩ := h
  cases e
theorem d_of_text_10 (l : List Nat) (d : Int) (u t3 : Tok) (news : List (Addr × Obj)) (h2 : (txt l).length < 200) (hlt : lead l < ((txt l).length : Int)) (f1 : (Txt.slice (txt l) (some (lead l)) (some (lead l + 1)) == Str.ofString "-") = true) (f2 : ([Str.ofString "+", Str.ofString "-"].any fun x => x == Txt.slice (txt l) (some (lead l)) (some (lead l + 1))) = true) (f3 : (Txt.slice (txt l) (some ((lead l + 1) + ((runL l (lead l + 1).toNat).length : Int))) (some (((lead l + 1) + ((runL l (lead l + 1).toNat).length : Int)) + 1)) == Str.ofString ".") = false) (hi1 : (lead l + 1) ≤ ((txt l).length : Int)) (hi2 : ((lead l + 1) + ((runL l (lead l + 1).toNat).length : Int)) ≤ ((txt l).length : Int)) (hc : 0 < ((runL l (lead l + 1).toNat).length : Int)) (hd : figs (if (0 - (val (runL l (lead l + 1).toNat))) < 0 then -(0 - (val (runL l (lead l + 1).toNat))) else (0 - (val (runL l (lead l + 1).toNat)))) ≤ d) (h5 : -99 ≤ ((expAt l ((lead l + 1) + ((runL l (lead l + 1).toNat).length : Int))).1 - (0 : Int)) + figs (if (0 - (val (runL l (lead l + 1).toNat))) < 0 then -(0 - (val (runL l (lead l + 1).toNat))) else (0 - (val (runL l (lead l + 1).toNat)))) - 1) (h6 : ((expAt l ((lead l + 1) + ((runL l (lead l + 1).toNat).length : Int))).1 - (0 : Int)) + figs (if (0 - (val (runL l (lead l + 1).toNat))) < 0 then -(0 - (val (runL l (lead l + 1).toNat))) else (0 - (val (runL l (lead l + 1).toNat)))) - 1 ≤ 99) : Con w mean mg mb 6 150 [.str (txt l) u, .int d t3] news (RetP news (norm (0 - (val (runL l (lead l + 1).toNat))) ((expAt l ((lead l + 1) + ((runL l (lead l + 1).toNat).length : Int))).1 - (0 : Int))).1 (norm (0 - (val (runL l (lead l + 1).toNat))) ((expAt l ((lead l + 1) + ((runL l (lead l + 1).toNat).length : Int))).1 - (0 : Int))).2 (expAt l ((lead l + 1) + ((runL l (lead l + 1).toNat).length : Int))).2) := by
  have hl0 := lead_nn l
  refine d_of_text_con l d u t3 news _ fun m ht hd0 => ?_
  rw [dbody_is]
  refine Sgs.cons (v0_c m news) (fun _ _ _ h => nomatch h.1) ?_
  rintro m0 n0 ⟨-, ⟨t0, ha⟩, r0, rfl⟩
  have ht := (r0 _ (by decide)).trans ht
  have hd0 := (r0 _ (by decide)).trans hd0
  refine Sgs.cons (v1_c l u t0 m0 _ h2 hlt ha ht) (fun _ _ _ h => nomatch h.1) ?_
  rintro m1 n1 ⟨-, ⟨t1, ha⟩, r1, rfl⟩
  have ht := (r1 _ (by decide)).trans ht
  have hd0 := (r1 _ (by decide)).trans hd0
  refine Sgs.cons (v2_c l u (lead l) t1 m1 _ h2 hl0 (by omega) ha ht) (fun _ _ _ h => nomatch h.1) ?_
  rintro m2 n2 ⟨-, hb, r2, rfl⟩
  rw [f1] at hb
  have ht := (r2 _ (by decide)).trans ht
  have hd0 := (r2 _ (by decide)).trans hd0
  have ha := (r2 _ (by decide)).trans ha
  refine Sgs.cons (v3_y l u (lead l) t1 m2 _ h2 hl0 (by omega) f2 ha ht) (fun _ _ _ h => nomatch h.1) ?_
  rintro m3 n3 ⟨-, ⟨t1', ha⟩, r3, rfl⟩
  have ht := (r3 _ (by decide)).trans ht
  have hd0 := (r3 _ (by decide)).trans hd0
  have hb := (r3 _ (by decide)).trans hb
  refine Sgs.cons (v4_c l u (lead l + 1) _ m3 _ h2 (by omega) hi1 ha ht) (fun _ _ _ h => nomatch h.1) ?_
  rintro m4 n4 ⟨-, ⟨t4, hf⟩, ⟨t5, haa⟩, ⟨t6, ha⟩, r4, rfl⟩
  have ht := (r4 _ (by decide) (by decide) (by decide)).trans ht
  have hd0 := (r4 _ (by decide) (by decide) (by decide)).trans hd0
  have hb := (r4 _ (by decide) (by decide) (by decide)).trans hb
  refine Sgs.cons (v5_c m4 _) (fun _ _ _ h => nomatch h.1) ?_
  rintro m5 n5 ⟨-, ⟨t7, hbb⟩, r5, rfl⟩
  have ht := (r5 _ (by decide)).trans ht
  have hd0 := (r5 _ (by decide)).trans hd0
  have hb := (r5 _ (by decide)).trans hb
  have hf := (r5 _ (by decide)).trans hf
  have haa := (r5 _ (by decide)).trans haa
  have ha := (r5 _ (by decide)).trans ha
  refine Sgs.cons (v6_n l u ((lead l + 1) + ((runL l (lead l + 1).toNat).length : Int)) t6 m5 _ h2 (by omega) hi2 f3 ha ht) (fun _ _ _ h => nomatch h.1) ?_
  rintro m6 n6 ⟨-, r6, rfl⟩
  have ha := (r6 _).trans ha
  have ht := (r6 _).trans ht
  have hd0 := (r6 _).trans hd0
  have hb := (r6 _).trans hb
  have hf := (r6 _).trans hf
  have haa := (r6 _).trans haa
  have hbb := (r6 _).trans hbb
  refine Sgs.cons (v7_n _ _ t5 _ m6 _ (by omega) (by omega) (by omega) haa hbb) (fun _ _ _ h => nomatch h.1) ?_
  rintro m7 n7 ⟨-, r7, rfl⟩
  refine Sgs.cons (v8_c l u _ _ m7 _ h2 (by omega) hi2 ((r7 _).trans ha) ((r7 _).trans ht)) (fun _ _ _ h => nomatch h.1) ?_
  rintro m8 n8 ⟨-, ⟨t11, he⟩, ⟨t12, ha⟩, r8, rfl⟩
  refine Sgs.cons (v9_y _ _ _ _ d _ _ _ _ t3 m8 _ hd h5 h6 ((r8 _ (by decide) (by decide)).trans ((r7 _).trans hb)) ((r8 _ (by decide) (by decide)).trans ((r7 _).trans hf)) he ((r8 _ (by decide) (by decide)).trans ((r7 _).trans hbb)) ((r8 _ (by decide) (by decide)).trans ((r7 _).trans hd0)) ha) (fun v m' n' h => h) (fun _ _ h => ?_)
  obtain ⟨v, e, _⟩ := h
  cases e
theorem d_of_text_11 (l : List Nat) (d : Int) (u t3 : Tok) (news : List (Addr × Obj)) (h2 : (txt l).length < 200) (hlt : lead l < ((txt l).length : Int)) (f1 : (Txt.slice (txt l) (some (lead l)) (some (lead l + 1)) == Str.ofString "-") = true) (f2 : ([Str.ofString "+", Str.ofString "-"].any fun x => x == Txt.slice (txt l) (some (lead l)) (some (lead l + 1))) = true) (f3 : (Txt.slice (txt l) (some ((lead l + 1) + ((runL l (lead l + 1).toNat).length : Int))) (some (((lead l + 1) + ((runL l (lead l + 1).toNat).length : Int)) + 1)) == Str.ofString ".") = true) (hi1 : (lead l + 1) ≤ ((txt l).length : Int)) (hi2 : ((lead l + 1) + ((runL l (lead l + 1).toNat).length : Int)) ≤ ((txt l).length : Int)) (hi3 : ((lead l + 1) + ((runL l (lead l + 1).toNat).length : Int)) + 1 ≤ ((txt l).length : Int)) (hi4 : (((lead l + 1) + ((runL l (lead l + 1).toNat).length : Int)) + 1 + ((runL l (((lead l + 1) + ((runL l (lead l + 1).toNat).length : Int)) + 1).toNat).length : Int)) ≤ ((txt l).length : Int)) (hv0 : -(2 ^ 64) < val (runL l (lead l + 1).toNat)) (hv1 : val (runL l (lead l + 1).toNat) < 2 ^ 64) (hc : 0 < ((runL l (lead l + 1).toNat).length : Int) + ((runL l (((lead l + 1) + ((runL l (lead l + 1).toNat).length : Int)) + 1).toNat).length : Int)) (hd : figs (if (0 - (val (runL l (lead l + 1).toNat) * 10 ^ (((runL l (((lead l + 1) + ((runL l (lead l + 1).toNat).length : Int)) + 1).toNat).length : Int)).toNat + val (runL l (((lead l + 1) + ((runL l (lead l + 1).toNat).length : Int)) + 1).toNat))) < 0 then -(0 - (val (runL l (lead l + 1).toNat) * 10 ^ (((runL l (((lead l + 1) + ((runL l (lead l + 1).toNat).length : Int)) + 1).toNat).length : Int)).toNat + val (runL l (((lead l + 1) + ((runL l (lead l + 1).toNat).length : Int)) + 1).toNat))) else (0 - (val (runL l (lead l + 1).toNat) * 10 ^ (((runL l (((lead l + 1) + ((runL l (lead l + 1).toNat).length : Int)) + 1).toNat).length : Int)).toNat + val (runL l (((lead l + 1) + ((runL l (lead l + 1).toNat).length : Int)) + 1).toNat)))) ≤ d) (h5 : -99 ≤ ((expAt l (((lead l + 1) + ((runL l (lead l + 1).toNat).length : Int)) + 1 + ((runL l (((lead l + 1) + ((runL l (lead l + 1).toNat).length : Int)) + 1).toNat).length : Int))).1 - ((runL l (((lead l + 1) + ((runL l (lead l + 1).toNat).length : Int)) + 1).toNat).length : Int)) + figs (if (0 - (val (runL l (lead l + 1).toNat) * 10 ^ (((runL l (((lead l + 1) + ((runL l (lead l + 1).toNat).length : Int)) + 1).toNat).length : Int)).toNat + val (runL l (((lead l + 1) + ((runL l (lead l + 1).toNat).length : Int)) + 1).toNat))) < 0 then -(0 - (val (runL l (lead l + 1).toNat) * 10 ^ (((runL l (((lead l + 1) + ((runL l (lead l + 1).toNat).length : Int)) + 1).toNat).length : Int)).toNat + val (runL l (((lead l + 1) + ((runL l (lead l + 1).toNat).length : Int)) + 1).toNat))) else (0 - (val (runL l (lead l + 1).toNat) * 10 ^ (((runL l (((lead l + 1) + ((runL l (lead l + 1).toNat).length : Int)) + 1).toNat).length : Int)).toNat + val (runL l (((lead l + 1) + ((runL l (lead l + 1).toNat).length : Int)) + 1).toNat)))) - 1) (h6 : ((expAt l (((lead l + 1) + ((runL l (lead l + 1).toNat).length : Int)) + 1 + ((runL l (((lead l + 1) + ((runL l (lead l + 1).toNat).length : Int)) + 1).toNat).length : Int))).1 - ((runL l (((lead l + 1) + ((runL l (lead l + 1).toNat).length : Int)) + 1).toNat).length : Int)) + figs (if (0 - (val (runL l (lead l + 1).toNat) * 10 ^ (((runL l (((lead l + 1) + ((runL l (lead l + 1).toNat).length : Int)) + 1).toNat).length : Int)).toNat + val (runL l (((lead l + 1) + ((runL l (lead l + 1).toNat).length : Int)) + 1).toNat))) < 0 then -(0 - (val (runL l (lead l + 1).toNat) * 10 ^ (((runL l (((lead l + 1) + ((runL l (lead l + 1).toNat).length : Int)) + 1).toNat).length : Int)).toNat + val (runL l (((lead l + 1) + ((runL l (lead l + 1).toNat).length : Int)) + 1).toNat))) else (0 - (val (runL l (lead l + 1).toNat) * 10 ^ (((runL l (((lead l + 1) + ((runL l (lead l + 1).toNat).length : Int)) + 1).toNat).length : Int)).toNat + val (runL l (((lead l + 1) + ((runL l (lead l + 1).toNat).length : Int)) + 1).toNat)))) - 1 ≤ 99) : Con w mean mg mb 6 150 [.str (txt l) u, .int d t3] news (RetP news (norm (0 - (val (runL l (lead l + 1).toNat) * 10 ^ (((runL l (((lead l + 1) + ((runL l (lead l + 1).toNat).length : Int)) + 1).toNat).length : Int)).toNat + val (runL l (((lead l + 1) + ((runL l (lead l + 1).toNat).length : Int)) + 1).toNat))) ((expAt l (((lead l + 1) + ((runL l (lead l + 1).toNat).length : Int)) + 1 + ((runL l (((lead l + 1) + ((runL l (lead l + 1).toNat).length : Int)) + 1).toNat).length : Int))).1 - ((runL l (((lead l + 1) + ((runL l (lead l + 1).toNat).length : Int)) + 1).toNat).length : Int))).1 (norm (0 - (val (runL l (lead l + 1).toNat) * 10 ^ (((runL l (((lead l + 1) + ((runL l (lead l + 1).toNat).length : Int)) + 1).toNat).length : Int)).toNat + val (runL l (((lead l + 1) + ((runL l (lead l + 1).toNat).length : Int)) + 1).toNat))) ((expAt l (((lead l + 1) + ((runL l (lead l + 1).toNat).length : Int)) + 1 + ((runL l (((lead l + 1) + ((runL l (lead l + 1).toNat).length : Int)) + 1).toNat).length : Int))).1 - ((runL l (((lead l + 1) + ((runL l (lead l + 1).toNat).length : Int)) + 1).toNat).length : Int))).2 (expAt l (((lead l + 1) + ((runL l (lead l + 1).toNat).length : Int)) + 1 + ((runL l (((lead l + 1) + ((runL l (lead l + 1).toNat).length : Int)) + 1).toNat).length : Int))).2) := by
  have hl0 := lead_nn l
  refine d_of_text_con l d u t3 news _ fun m ht hd0 => ?_
  rw [dbody_is]
  refine Sgs.cons (v0_c m news) (fun _ _ _ h => nomatch h.1) ?_
  rintro m0 n0 ⟨-, ⟨t0, ha⟩, r0, rfl⟩
  have ht := (r0 _ (by decide)).trans ht
  have hd0 := (r0 _ (by decide)).trans hd0
  refine Sgs.cons (v1_c l u t0 m0 _ h2 hlt ha ht) (fun _ _ _ h => nomatch h.1) ?_
  rintro m1 n1 ⟨-, ⟨t1, ha⟩, r1, rfl⟩
  have ht := (r1 _ (by decide)).trans ht
  have hd0 := (r1 _ (by decide)).trans hd0
  refine Sgs.cons (v2_c l u (lead l) t1 m1 _ h2 hl0 (by omega) ha ht) (fun _ _ _ h => nomatch h.1) ?_
  rintro m2 n2 ⟨-, hb, r2, rfl⟩
  rw [f1] at hb
  have ht := (r2 _ (by decide)).trans ht
  have hd0 := (r2 _ (by decide)).trans hd0
  have ha := (r2 _ (by decide)).trans ha
  refine Sgs.cons (v3_y l u (lead l) t1 m2 _ h2 hl0 (by omega) f2 ha ht) (fun _ _ _ h => nomatch h.1) ?_
  rintro m3 n3 ⟨-, ⟨t1', ha⟩, r3, rfl⟩
  have ht := (r3 _ (by decide)).trans ht
  have hd0 := (r3 _ (by decide)).trans hd0
  have hb := (r3 _ (by decide)).trans hb
  refine Sgs.cons (v4_c l u (lead l + 1) _ m3 _ h2 (by omega) hi1 ha ht) (fun _ _ _ h => nomatch h.1) ?_
  rintro m4 n4 ⟨-, ⟨t4, hf⟩, ⟨t5, haa⟩, ⟨t6, ha⟩, r4, rfl⟩
  have ht := (r4 _ (by decide) (by decide) (by decide)).trans ht
  have hd0 := (r4 _ (by decide) (by decide) (by decide)).trans hd0
  have hb := (r4 _ (by decide) (by decide) (by decide)).trans hb
  refine Sgs.cons (v5_c m4 _) (fun _ _ _ h => nomatch h.1) ?_
  rintro m5 n5 ⟨-, ⟨t7, hbb⟩, r5, rfl⟩
  have ht := (r5 _ (by decide)).trans ht
  have hd0 := (r5 _ (by decide)).trans hd0
  have hb := (r5 _ (by decide)).trans hb
  have hf := (r5 _ (by decide)).trans hf
  have haa := (r5 _ (by decide)).trans haa
  have ha := (r5 _ (by decide)).trans ha
  refine Sgs.cons (v6_y l u ((lead l + 1) + ((runL l (lead l + 1).toNat).length : Int)) t6 _ _ t4 t5 m5 _ h2 (by omega) hi2 f3 hi3 hi4 hv0 hv1 (by omega) ha ht hf haa) (fun _ _ _ h => nomatch h.1) ?_
  rintro m6 n6 ⟨-, ⟨t8, hf⟩, ⟨t9, hbb⟩, ⟨i', t10, ha, hi'⟩, r6, rfl⟩
  have hd0 := (r6 _ (by decide) (by decide) (by decide) (by decide) (by decide)).trans hd0
  have ht := (r6 _ (by decide) (by decide) (by decide) (by decide) (by decide)).trans ht
  have hb := (r6 _ (by decide) (by decide) (by decide) (by decide) (by decide)).trans hb
  have haa := (r6 _ (by decide) (by decide) (by decide) (by decide) (by decide)).trans haa
  rw [hi' hc] at ha
  refine Sgs.cons (v7_n _ _ t5 _ m6 _ (by omega) (by omega) (by omega) haa hbb) (fun _ _ _ h => nomatch h.1) ?_
  rintro m7 n7 ⟨-, r7, rfl⟩
  refine Sgs.cons (v8_c l u _ _ m7 _ h2 (by omega) hi4 ((r7 _).trans ha) ((r7 _).trans ht)) (fun _ _ _ h => nomatch h.1) ?_
  rintro m8 n8 ⟨-, ⟨t11, he⟩, ⟨t12, ha⟩, r8, rfl⟩
  refine Sgs.cons (v9_y _ _ _ _ d _ _ _ _ t3 m8 _ hd h5 h6 ((r8 _ (by decide) (by decide)).trans ((r7 _).trans hb)) ((r8 _ (by decide) (by decide)).trans ((r7 _).trans hf)) he ((r8 _ (by decide) (by decide)).trans ((r7 _).trans hbb)) ((r8 _ (by decide) (by decide)).trans ((r7 _).trans hd0)) ha) (fun v m' n' h => h) (fun _ _ h => ?_)
  obtain ⟨v, e, _⟩ := h
  cases e
theorem none_P (l : List Nat) (d : Int) (u t3 : Tok) (news : List (Addr × Obj)) (h2 : (txt l).length < 200) (hlt : lead l < ((txt l).length : Int)) (f1 : (Txt.slice (txt l) (some (lead l)) (some (lead l + 1)) == Str.ofString "-") = false) (f2 : ([Str.ofString "+", Str.ofString "-"].any fun x => x == Txt.slice (txt l) (some (lead l)) (some (lead l + 1))) = false) (f3 : (Txt.slice (txt l) (some ((lead l) + ((runL l (lead l).toNat).length : Int))) (some (((lead l) + ((runL l (lead l).toNat).length : Int)) + 1)) == Str.ofString ".") = true) (hi1 : (lead l) ≤ ((txt l).length : Int)) (hi2 : ((lead l) + ((runL l (lead l).toNat).length : Int)) ≤ ((txt l).length : Int)) (hi3 : ((lead l) + ((runL l (lead l).toNat).length : Int)) + 1 ≤ ((txt l).length : Int)) (hi4 : (((lead l) + ((runL l (lead l).toNat).length : Int)) + 1 + ((runL l (((lead l) + ((runL l (lead l).toNat).length : Int)) + 1).toNat).length : Int)) ≤ ((txt l).length : Int)) (hv0 : -(2 ^ 64) < val (runL l (lead l).toNat)) (hv1 : val (runL l (lead l).toNat) < 2 ^ 64) (hc1 : ((runL l (lead l).toNat).length : Int) = 0) (hc2 : ((runL l (((lead l) + ((runL l (lead l).toNat).length : Int)) + 1).toNat).length : Int) = 0) : Con w mean mg mb 6 150 [.str (txt l) u, .int d t3] news (RetV news .none) := by
  have hl0 := lead_nn l
  refine d_of_text_con l d u t3 news _ fun m ht hd0 => ?_
  rw [dbody_is]
  refine Sgs.cons (v0_c m news) (fun _ _ _ h => nomatch h.1) ?_
  rintro m0 n0 ⟨-, ⟨t0, ha⟩, r0, rfl⟩
  have ht := (r0 _ (by decide)).trans ht
  have hd0 := (r0 _ (by decide)).trans hd0
  refine Sgs.cons (v1_c l u t0 m0 _ h2 hlt ha ht) (fun _ _ _ h => nomatch h.1) ?_
  rintro m1 n1 ⟨-, ⟨t1, ha⟩, r1, rfl⟩
  have ht := (r1 _ (by decide)).trans ht
  have hd0 := (r1 _ (by decide)).trans hd0
  refine Sgs.cons (v2_c l u (lead l) t1 m1 _ h2 hl0 (by omega) ha ht) (fun _ _ _ h => nomatch h.1) ?_
  rintro m2 n2 ⟨-, hb, r2, rfl⟩
  rw [f1] at hb
  have ht := (r2 _ (by decide)).trans ht
  have hd0 := (r2 _ (by decide)).trans hd0
  have ha := (r2 _ (by decide)).trans ha
  refine Sgs.cons (v3_n l u (lead l) t1 m2 _ h2 hl0 (by omega) f2 ha ht) (fun _ _ _ h => nomatch h.1) ?_
  rintro m3 n3 ⟨-, r3, rfl⟩
  have ha := (r3 _).trans ha
  have ht := (r3 _).trans ht
  have hd0 := (r3 _).trans hd0
  have hb := (r3 _).trans hb
  refine Sgs.cons (v4_c l u (lead l) _ m3 _ h2 (by omega) hi1 ha ht) (fun _ _ _ h => nomatch h.1) ?_
  rintro m4 n4 ⟨-, ⟨t4, hf⟩, ⟨t5, haa⟩, ⟨t6, ha⟩, r4, rfl⟩
  have ht := (r4 _ (by decide) (by decide) (by decide)).trans ht
  have hd0 := (r4 _ (by decide) (by decide) (by decide)).trans hd0
  have hb := (r4 _ (by decide) (by decide) (by decide)).trans hb
  refine Sgs.cons (v5_c m4 _) (fun _ _ _ h => nomatch h.1) ?_
  rintro m5 n5 ⟨-, ⟨t7, hbb⟩, r5, rfl⟩
  have ht := (r5 _ (by decide)).trans ht
  have hd0 := (r5 _ (by decide)).trans hd0
  have hb := (r5 _ (by decide)).trans hb
  have hf := (r5 _ (by decide)).trans hf
  have haa := (r5 _ (by decide)).trans haa
  have ha := (r5 _ (by decide)).trans ha
  refine Sgs.cons (v6_y l u ((lead l) + ((runL l (lead l).toNat).length : Int)) t6 _ _ t4 t5 m5 _ h2 (by omega) hi2 f3 hi3 hi4 hv0 hv1 (by omega) ha ht hf haa) (fun _ _ _ h => nomatch h.1) ?_
  rintro m6 n6 ⟨-, ⟨t8, hf⟩, ⟨t9, hbb⟩, ⟨i', t10, ha, hi'⟩, r6, rfl⟩
  have hd0 := (r6 _ (by decide) (by decide) (by decide) (by decide) (by decide)).trans hd0
  have ht := (r6 _ (by decide) (by decide) (by decide) (by decide) (by decide)).trans ht
  have hb := (r6 _ (by decide) (by decide) (by decide) (by decide) (by decide)).trans hb
  have haa := (r6 _ (by decide) (by decide) (by decide) (by decide) (by decide)).trans haa
  refine Sgs.cons (v7_y _ _ t5 _ m6 _ hc1 hc2 haa hbb) (fun v m' n' h => ?_) (fun _ _ h => nomatch h.1)
  obtain ⟨e, rfl⟩ := h
  exact ⟨v, rfl, Option.some.inj e, rfl⟩
theorem none_S (l : List Nat) (d : Int) (u t3 : Tok) (news : List (Addr × Obj)) (h2 : (txt l).length < 200) (hlt : lead l < ((txt l).length : Int)) (f1 : (Txt.slice (txt l) (some (lead l)) (some (lead l + 1)) == Str.ofString "-") = false) (f2 : ([Str.ofString "+", Str.ofString "-"].any fun x => x == Txt.slice (txt l) (some (lead l)) (some (lead l + 1))) = true) (f3 : (Txt.slice (txt l) (some ((lead l + 1) + ((runL l (lead l + 1).toNat).length : Int))) (some (((lead l + 1) + ((runL l (lead l + 1).toNat).length : Int)) + 1)) == Str.ofString ".") = false) (hi1 : (lead l + 1) ≤ ((txt l).length : Int)) (hi2 : ((lead l + 1) + ((runL l (lead l + 1).toNat).length : Int)) ≤ ((txt l).length : Int)) (hc1 : ((runL l (lead l + 1).toNat).length : Int) = 0) : Con w mean mg mb 6 150 [.str (txt l) u, .int d t3] news (RetV news .none) := by
  have hl0 := lead_nn l
  refine d_of_text_con l d u t3 news _ fun m ht hd0 => ?_
  rw [dbody_is]
  refine Sgs.cons (v0_c m news) (fun _ _ _ h => nomatch h.1) ?_
  rintro m0 n0 ⟨-, ⟨t0, ha⟩, r0, rfl⟩
  have ht := (r0 _ (by decide)).trans ht
  have hd0 := (r0 _ (by decide)).trans hd0
  refine Sgs.cons (v1_c l u t0 m0 _ h2 hlt ha ht) (fun _ _ _ h => nomatch h.1) ?_
  rintro m1 n1 ⟨-, ⟨t1, ha⟩, r1, rfl⟩
  have ht := (r1 _ (by decide)).trans ht
  have hd0 := (r1 _ (by decide)).trans hd0
  refine Sgs.cons (v2_c l u (lead l) t1 m1 _ h2 hl0 (by omega) ha ht) (fun _ _ _ h => nomatch h.1) ?_
  rintro m2 n2 ⟨-, hb, r2, rfl⟩
  rw [f1] at hb
  have ht := (r2 _ (by decide)).trans ht
  have hd0 := (r2 _ (by decide)).trans hd0
  have ha := (r2 _ (by decide)).trans ha
  refine Sgs.cons (v3_y l u (lead l) t1 m2 _ h2 hl0 (by omega) f2 ha ht) (fun _ _ _ h => nomatch h.1) ?_
  rintro m3 n3 ⟨-, ⟨t1', ha⟩, r3, rfl⟩
  have ht := (r3 _ (by decide)).trans ht
  have hd0 := (r3 _ (by decide)).trans hd0
  have hb := (r3 _ (by decide)).trans hb
  refine Sgs.cons (v4_c l u (lead l + 1) _ m3 _ h2 (by omega) hi1 ha ht) (fun _ _ _ h => nomatch h.1) ?_
  rintro m4 n4 ⟨-, ⟨t4, hf⟩, ⟨t5, haa⟩, ⟨t6, ha⟩, r4, rfl⟩
  have ht := (r4 _ (by decide) (by decide) (by decide)).trans ht
  have hd0 := (r4 _ (by decide) (by decide) (by decide)).trans hd0
  have hb := (r4 _ (by decide) (by decide) (by decide)).trans hb
  refine Sgs.cons (v5_c m4 _) (fun _ _ _ h => nomatch h.1) ?_
  rintro m5 n5 ⟨-, ⟨t7, hbb⟩, r5, rfl⟩
  have ht := (r5 _ (by decide)).trans ht
  have hd0 := (r5 _ (by decide)).trans hd0
  have hb := (r5 _ (by decide)).trans hb
  have hf := (r5 _ (by decide)).trans hf
  have haa := (r5 _ (by decide)).trans haa
  have ha := (r5 _ (by decide)).trans ha
  refine Sgs.cons (v6_n l u ((lead l + 1) + ((runL l (lead l + 1).toNat).length : Int)) t6 m5 _ h2 (by omega) hi2 f3 ha ht) (fun _ _ _ h => nomatch h.1) ?_
  rintro m6 n6 ⟨-, r6, rfl⟩
  have ha := (r6 _).trans ha
  have ht := (r6 _).trans ht
  have hd0 := (r6 _).trans hd0
  have hb := (r6 _).trans hb
  have hf := (r6 _).trans hf
  have haa := (r6 _).trans haa
  have hbb := (r6 _).trans hbb
  refine Sgs.cons (v7_y _ _ t5 _ m6 _ hc1 rfl haa hbb) (fun v m' n' h => ?_) (fun _ _ h => nomatch h.1)
  obtain ⟨e, rfl⟩ := h
  exact ⟨v, rfl, Option.some.inj e, rfl⟩
end Mine

namespace Mine
variable {w : World} {mean : ExcName → Option Value} {mg mb : Str → Option Value}
/-! an if whose test is false on every way: its ways meet -/
def NoB (h₀ : Heap) (L : Addr) (m : Str → Option Value) (news : List (Addr × Obj)) (s : Shared) (b : Bool) (s' : Shared) : Prop := b = false ∧ ∃ (h' : Heap) (tk' : Nat), s' = { s with heap := h', toks := tk' } ∧ Fr h₀ L h' m ∧ News h₀ L h' news
theorem nob {h₀ h' : Heap} {L : Addr} {m : Str → Option Value} {news news2 : List (Addr × Obj)} {s : Shared} {b : Bool} {tk' : Nat} (F : Fr h₀ L h' m) (N : News h₀ L h' news2) (hs : ∀ p ∈ news, p ∈ news2) (e : b = false) : NoB h₀ L m news s b { s with heap := h', toks := tk' } := ⟨e, h', tk', rfl, F, news_sub N hs⟩
theorem if_no {M : Model} {A : Around} {E : Value → Shared → Prop} {env : Env} {test : Expr} {body : List Stmt} {pos : Pos} {Q : Flow → Shared → Prop} {s : Shared} {h₀ : Heap} {L : Addr} {m : Str → Option Value} {news : List (Addr × Obj)}
    (_F : Fr h₀ L s.heap m) (_N : News h₀ L s.heap news) (ht : wpAny M A (isTrue test env (eval test env)) (fun b s' => NoB h₀ L m news s b s') E s)
    (hQ : ∀ (h' : Heap) (tk' : Nat), Fr h₀ L h' m → News h₀ L h' news → Q .next { s with heap := h', toks := tk' }) : wpAny M A (exec (.If test body [] pos) env) Q E s := by
  refine wpAny_If (wpAny_mono ht (fun b s' h => ?_) fun _ _ x => x)
  obtain ⟨e, h', tk', e2, F, N⟩ := h
  subst e; subst e2
  exact wpAny_execs_nil (hQ h' tk' F N)
theorem log2_small {a : Int} (h : a.natAbs < 10 ^ 200) : a.natAbs.log2 < 1920 := by
  by_cases h0 : a.natAbs = 0
  · rw [h0]; decide
  · refine (Nat.log2_lt h0).mpr (Nat.lt_of_lt_of_le h ?_)
    decide +kernel
theorem digitChar_nat {d : Nat} (h : d < 10) : (Nat.digitChar d).toNat = 48 + d := by
  have : ∀ d, d < 10 → (Nat.digitChar d).toNat = 48 + d := by decide
  exact this d h
theorem toDigits_dg (n : Nat) : (Nat.toDigits 10 n).map Char.toNat = dg n := by
  induction n using Nat.strongRecOn with
  | _ n ih =>
    by_cases h : n < 10
    · rw [Nat.toDigits_of_lt_base h, dg_lt h, List.map_cons, List.map_nil, digitChar_nat h]
    · have e : n = 10 * (n / 10) + n % 10 := by (first | lia | omega)
      have := Nat.toDigits_append_toDigits (b := 10) (n := n / 10) (d := n % 10) (by decide) (by (first | lia | omega)) (by (first | lia | omega))
      rw [← e] at this
      rw [← this, List.map_append, ih (n / 10) (by (first | lia | omega)), Nat.toDigits_of_lt_base (by (first | lia | omega)), dg_ge h, List.map_cons, List.map_nil, digitChar_nat (by (first | lia | omega))]
theorem str_dgs {a : Int} (h : 0 ≤ a) : Str.ofString (toString a) = txt (dg a.toNat) := by
  obtain ⟨n, rfl⟩ := Int.eq_ofNat_of_zero_le h
  refine lit_txt ?_
  rw [Str.ofString_eq_toList]
  show (Nat.repr n).toList.map Char.toNat = dg n
  rw [Nat.toList_repr, toDigits_dg]
section
variable {prog : Program} {w : World} {A : Around} {E : Value → Shared → Prop} {s : Shared}
theorem str_dg {a : Int} {t : Tok} {Q : Value → Shared → Prop} (h0 : 0 ≤ a) (ha : a.natAbs.log2 < 1920) (h : Q (.str (txt (dg a.toNat)) s.toks) { s with toks := s.toks + 1 }) : wpAny (model prog w) A (call (.type "str") [.int a t]) Q E s :=
  P.str_of_int ha (by
    have e : ((toString a : String) : Str) = txt (dg a.toNat) := str_dgs h0
    rw [e]; exact h)
end
theorem rjust_txt (l : List Nat) (i : Int) : Txt.rjustF (txt l) i ((Str.ofString "0").cps.getD 0 0) = txt (List.replicate (i.toNat - l.length) 48 ++ l) := by
  unfold Txt.rjustF
  rw [txt_len]
  split
  · rw [show i.toNat - l.length = 0 by (first | lia | omega)]; rfl
  · refine Str.ext' ?_
    show Array.replicate _ _ ++ (txt l).cps ++ Array.replicate 0 _ = _
    apply Array.ext'
    simp [show (Str.ofString "0").cps.getD 0 0 = 48 from rfl]
/-! figures: taken apart, put together -/
theorem dg_mul (n k : Nat) (h : 0 < n) : dg (n * 10 ^ k) = dg n ++ List.replicate k 48 := by
  induction k with
  | zero => simp
  | succ k ih =>
    have hp : 0 < 10 ^ k := Nat.pow_pos (by decide)
    have h1 : 1 ≤ n * 10 ^ k := Nat.mul_pos h hp
    rw [Nat.pow_succ, ← Nat.mul_assoc, dg_ge (by (first | lia | omega)), show n * 10 ^ k * 10 / 10 = n * 10 ^ k by (first | lia | omega), show n * 10 ^ k * 10 % 10 = 0 by (first | lia | omega), ih, List.append_assoc]
    congr 1
    rw [show List.replicate (k + 1) 48 = List.replicate k 48 ++ [48] from List.replicate_succ']
def padL (k r : Nat) : List Nat := List.replicate (k - (dg r).length) 48 ++ dg r
theorem dg_len_le {r k : Nat} (hk : 1 ≤ k) (h : r < 10 ^ k) : (dg r).length ≤ k := by
  obtain ⟨a, b⟩ := dg_bound r
  rcases b with b | b
  · (first | lia | omega)
  · have := (Nat.pow_lt_pow_iff_right (by decide : 1 < 10)).mp (Nat.lt_of_le_of_lt b h)
    (first | lia | omega)
theorem padL_len {k r : Nat} (hk : 1 ≤ k) (h : r < 10 ^ k) : (padL k r).length = k := by
  have := dg_len_le hk h
  unfold padL
  rw [List.length_append, List.length_replicate]; (first | lia | omega)
theorem padL_snoc {k r d : Nat} (hd : d < 10) (hr : r < 10 ^ k) (hk : 1 ≤ k) : padL (k + 1) (r * 10 + d) = padL k r ++ [48 + d] := by
  unfold padL
  by_cases h : r = 0
  · subst h
    have e0 : dg 0 = [48] := dg_lt (by decide)
    rw [show 0 * 10 + d = d by (first | lia | omega), dg_lt hd, e0]
    simp only [List.length_cons, List.length_nil]
    have : List.replicate (k + 1 - (0 + 1)) 48 = List.replicate (k - (0 + 1)) 48 ++ [48] := by
      rw [show k + 1 - (0 + 1) = (k - (0 + 1)) + 1 by (first | lia | omega)]; exact List.replicate_succ'
    rw [this]
  · rw [dg_ge (by (first | lia | omega) : ¬ r * 10 + d < 10), show (r * 10 + d) / 10 = r by (first | lia | omega), show (r * 10 + d) % 10 = d by (first | lia | omega), List.length_append, List.append_assoc]
    simp only [List.length_cons, List.length_nil]
    rw [show k + 1 - ((dg r).length + (0 + 1)) = k - (dg r).length by (first | lia | omega)]
theorem dg_cut (k : Nat) : ∀ n : Nat, 0 < n / 10 ^ (k + 1) → dg n = dg (n / 10 ^ (k + 1)) ++ padL (k + 1) (n % 10 ^ (k + 1)) := by
  induction k with
  | zero =>
    intro n h
    rw [Nat.zero_add, Nat.pow_one] at *
    rw [dg_ge (by (first | lia | omega))]
    unfold padL
    rw [dg_lt (by (first | lia | omega) : n % 10 < 10)]
    rfl
  | succ k ih =>
    intro n h
    have hp : 0 < 10 ^ (k + 1) := Nat.pow_pos (by decide)
    have e1 : n / 10 ^ (k + 1 + 1) = n / 10 / 10 ^ (k + 1) := by rw [Nat.div_div_eq_div_mul, Nat.pow_succ 10 (k + 1), Nat.mul_comm]
    have e2 : n % 10 ^ (k + 1 + 1) = (n / 10 % 10 ^ (k + 1)) * 10 + n % 10 := by
      rw [Nat.pow_succ 10 (k + 1), Nat.mul_comm (10 ^ (k + 1)) 10, Nat.mod_mul]; (first | lia | omega)
    have hn : ¬ n < 10 := by
      intro hn
      have : n / 10 = 0 := by (first | lia | omega)
      rw [e1, this, Nat.zero_div] at h
      (first | lia | omega)
    rw [dg_ge hn, ih (n / 10) (by rw [← e1]; exact h), e1, e2, List.append_assoc, padL_snoc (by (first | lia | omega)) (Nat.mod_lt _ hp) (by (first | lia | omega))]
end Mine

namespace Mine
variable {w : World} {mean : ExcName → Option Value} {mg mb : Str → Option Value}
@[irreducible] def ab (x : Int) : Int := if x < 0 then -x else x
theorem ab_is (x : Int) : ab x = if x < 0 then -x else x := by unfold ab; rfl
theorem ab_nn (x : Int) : 0 ≤ ab x := by rw [ab_is]; split <;> omega
theorem ab_lt {t N : Int} (h0 : -N < t) (h1 : t < N) : ab t < N := by rw [ab_is]; split <;> omega
theorem ab_pos {t : Int} (h : t ≠ 0) : 0 < ab t := by rw [ab_is]; split <;> omega
theorem call_ab {prog : Program} {w : World} {A : Around} {E : Value → Shared → Prop} {s : Shared} {a : Int} {t : Tok} {Q : Value → Shared → Prop} (h : ∀ u tk, Q (.int (ab a) u) { s with toks := tk }) : wpAny (model prog w) A (call (.builtin "abs") [.int a t]) Q E s :=
  call_abs_int (fun u tk => by have := h u tk; rw [ab_is] at this; exact this)
theorem fdivP {S : Int} (h : 0 ≤ S) (k : Nat) : S.fdiv (10 ^ k) = ((S.toNat / 10 ^ k : Nat) : Int) := by
  obtain ⟨n, rfl⟩ := Int.eq_ofNat_of_zero_le h
  rw [Int.fdiv_eq_ediv_of_nonneg _ (Int.le_of_lt (pow10_pos k)), Int.toNat_natCast]
  push_cast
  rfl
theorem fmodP {S : Int} (h : 0 ≤ S) (k : Nat) : S.fmod (10 ^ k) = ((S.toNat % 10 ^ k : Nat) : Int) := by
  obtain ⟨n, rfl⟩ := Int.eq_ofNat_of_zero_le h
  rw [Int.fmod_eq_emod_of_nonneg _ (Int.le_of_lt (pow10_pos k)), Int.toNat_natCast]
  push_cast
  rfl
theorem beq_of {a b : Str} (h : a = b) : (a == b) = true := by subst h; simp
theorem mulP {S : Int} (h : 0 ≤ S) (k : Nat) : (S * 10 ^ k).toNat = S.toNat * 10 ^ k := by
  obtain ⟨n, rfl⟩ := Int.eq_ofNat_of_zero_le h
  rw [Int.toNat_natCast]
  have : ((n : Int) * 10 ^ k) = ((n * 10 ^ k : Nat) : Int) := by push_cast; rfl
  rw [this, Int.toNat_natCast]
theorem shA {S y d : Int} (h : 0 < S) (h0 : 0 ≤ y) (h1 : y + ((txt (dg S.toNat)).length : Int) - 1 < d) : txt (szL S y d) = txt (dg (S * 10 ^ y.toNat).toNat) := by
  rw [txt_len] at h1
  unfold szL; rw [if_pos ⟨h0, h1⟩, mulP (by omega), dg_mul _ _ (by omega)]
theorem len_cut {S y : Int} (h : 0 < S) (h0 : y < 0) (h1 : 0 ≤ y + ((dg S.toNat).length : Int) - 1) : 0 < S.toNat / 10 ^ (0 - y).toNat := by
  obtain ⟨a, b⟩ := dg_bound S.toNat
  refine Nat.div_pos ?_ (Nat.pow_pos (by decide))
  rcases b with b | b
  · omega
  · exact Nat.le_trans (Nat.pow_le_pow_right (by decide) (by omega)) b
theorem shB {S y d : Int} (h : 0 < S) (h0 : y < 0) (h1 : 0 ≤ y + ((txt (dg S.toNat)).length : Int) - 1) :
    txt (szL S y d) = txt (dg (S.fdiv (10 ^ (0 - y).toNat)).toNat) ++ Str.ofString "." ++ Txt.rjustF (txt (dg (S.fmod (10 ^ (0 - y).toNat)).toNat)) (0 - y) ((Str.ofString "0").cps.getD 0 0) := by
  rw [txt_len] at h1
  rw [fdivP (by omega), fmodP (by omega), Int.toNat_natCast, Int.toNat_natCast, rjust_txt, lit_dot]
  simp only [txt_append]
  unfold szL
  rw [if_neg (by omega), if_pos ⟨h0, h1⟩]
  obtain ⟨k, hk⟩ : ∃ k, (0 - y).toNat = k + 1 := ⟨(0 - y).toNat - 1, by omega⟩
  have hc := dg_cut k S.toNat (by rw [← hk]; exact len_cut h h0 h1)
  rw [hk]
  have hl := padL_len (k := k + 1) (r := S.toNat % 10 ^ (k + 1)) (by omega) (Nat.mod_lt _ (Nat.pow_pos (by decide)))
  have hlen : (dg S.toNat).length = (dg (S.toNat / 10 ^ (k + 1))).length + (k + 1) := by rw [hc, List.length_append, hl]
  have ht : (y + ((dg S.toNat).length : Int) - 1 + 1).toNat = (dg (S.toNat / 10 ^ (k + 1))).length := by omega
  rw [ht]
  have e1 : (dg S.toNat).take (dg (S.toNat / 10 ^ (k + 1))).length = dg (S.toNat / 10 ^ (k + 1)) := by
    conv => lhs; rw [hc]
    rw [List.take_left]
  have e2 : (dg S.toNat).drop (dg (S.toNat / 10 ^ (k + 1))).length = padL (k + 1) (S.toNat % 10 ^ (k + 1)) := by
    conv => lhs; rw [hc]
    rw [List.drop_left]
  rw [e1, e2]
  rfl
theorem small_of {S y : Int} (h : 0 < S) (h0 : y + ((dg S.toNat).length : Int) - 1 < 0) : S.toNat < 10 ^ (0 - y).toNat :=
  Nat.lt_of_lt_of_le (dg_bound S.toNat).1 (Nat.pow_le_pow_right (by decide) (by omega))
theorem shC {S y d : Int} (h : 0 < S) (h1 : y + ((txt (dg S.toNat)).length : Int) - 1 < 0) (h2 : 0 - y ≤ d) :
    txt (szL S y d) = Str.ofString "" ++ Str.ofString "." ++ Txt.rjustF (txt (dg (S.fmod (10 ^ (0 - y).toNat)).toNat)) (0 - y) ((Str.ofString "0").cps.getD 0 0) := by
  rw [txt_len] at h1
  have hp := dg_pos S.toNat
  rw [fmodP (by omega), Int.toNat_natCast, rjust_txt, lit_dot, lit_nil, Nat.mod_eq_of_lt (small_of h h1)]
  simp only [txt_append]
  unfold szL
  rw [if_neg (by omega), if_neg (by omega), if_pos ⟨h1, h2⟩, show (0 - y - ((dg S.toNat).length : Int)).toNat = (0 - y).toNat - (dg S.toNat).length by omega, List.nil_append, List.append_assoc]
theorem zeroB {S y : Int} (h : 0 < S) (h0 : y < 0) (h1 : 0 ≤ y + ((txt (dg S.toNat)).length : Int) - 1) : (txt (dg (S.fdiv (10 ^ (0 - y).toNat)).toNat) == Str.ofString "0") = false := by
  rw [txt_len] at h1
  have := len_cut h h0 h1
  rw [fdivP (by omega), Int.toNat_natCast, lit_0, txt_inj, decide_eq_false]
  intro e
  by_cases hq : S.toNat / 10 ^ (0 - y).toNat < 10
  · rw [dg_lt hq] at e
    have := List.cons.inj e
    omega
  · have hl := congrArg List.length e
    rw [dg_ge hq, List.length_append] at hl
    have := dg_pos (S.toNat / 10 ^ (0 - y).toNat / 10)
    simp only [List.length_cons, List.length_nil] at hl
    omega
theorem zeroC {S y : Int} (h : 0 < S) (h1 : y + ((txt (dg S.toNat)).length : Int) - 1 < 0) : (txt (dg (S.fdiv (10 ^ (0 - y).toNat)).toNat) == Str.ofString "0") = true := by
  rw [txt_len] at h1
  rw [fdivP (by omega), Int.toNat_natCast, Nat.div_eq_of_lt (small_of h h1), dg_lt (by decide)]
  rfl
theorem expA_rj {T : Int} : txt (expA T) = Txt.rjustF (txt (dg T.toNat)) 2 ((Str.ofString "0").cps.getD 0 0) := by
  rw [rjust_txt]
  have hp := dg_pos T.toNat
  unfold expA
  split
  · rw [show (2 : Int).toNat - (dg T.toNat).length = 1 by omega]; rfl
  · rw [show (2 : Int).toNat - (dg T.toNat).length = 0 by omega]; rfl
theorem notBare {y d n : Int} (h : (0 ≤ y + n - 1 ∧ d ≤ y + n - 1 ∧ 0 ≤ y) ∨ (y + n - 1 < 0 ∧ d < 0 - y)) (hn : 1 ≤ n) : ¬ (0 ≤ y ∧ y + n - 1 < d) ∧ ¬ (y < 0 ∧ 0 ≤ y + n - 1) ∧ ¬ (y + n - 1 < 0 ∧ 0 - y ≤ d) := by omega
theorem shD {S y d : Int} {hd : Str} {sg : Nat} (h : (0 ≤ y + ((txt (dg S.toNat)).length : Int) - 1 ∧ d ≤ y + ((txt (dg S.toNat)).length : Int) - 1 ∧ 0 ≤ y) ∨ (y + ((txt (dg S.toNat)).length : Int) - 1 < 0 ∧ d < 0 - y))
    (hh : hd = txt ([(dg S.toNat).getD 0 0] ++ (if 1 < ((dg S.toNat).length : Int) then [46] ++ (dg S.toNat).drop 1 else []))) (hs : sg = if y + ((txt (dg S.toNat)).length : Int) - 1 < 0 then 45 else 43) :
    txt (szL S y d) = hd ++ Str.ofString "E" ++ txt [sg] ++ Txt.rjustF (txt (dg (ab (y + ((txt (dg S.toNat)).length : Int) - 1)).toNat)) 2 ((Str.ofString "0").cps.getD 0 0) := by
  have hp := dg_pos S.toNat
  rw [← expA_rj, hh, lit_E, hs]
  rw [txt_len] at *
  obtain ⟨n1, n2, n3⟩ := notBare h (by omega)
  simp only [txt_append]
  unfold szL
  rw [if_neg n1, if_neg n2, if_neg n3]
  unfold expL
  rw [ab_is]
  simp only [List.append_assoc]
  rfl
theorem shead1 {F : List Nat} (h : 1 < ((txt F).length : Int)) : Txt.item (txt F) 0 ++ (Str.ofString "." ++ Txt.slice (txt F) (some 1) none) = txt ([F.getD 0 0] ++ (if 1 < (F.length : Int) then [46] ++ F.drop 1 else [])) := by
  rw [txt_len] at h
  rw [item_txt (by omega) (by omega), slice_from (by omega) (by omega), lit_dot, if_pos h]; simp only [txt_append]; rfl
theorem shead2 {F : List Nat} (h0 : 1 ≤ F.length) (h : ¬ 1 < ((txt F).length : Int)) : Txt.item (txt F) 0 ++ Str.ofString "" = txt ([F.getD 0 0] ++ (if 1 < (F.length : Int) then [46] ++ F.drop 1 else [])) := by
  rw [txt_len] at h
  rw [item_txt (by omega) (by omega), lit_nil, if_neg h]; simp only [txt_append]; rfl
theorem dt_cons {x y d : Int} (h : x ≠ 0) : dtL x y d = (if x < 0 then 45 else 32) :: szL (if x < 0 then -x else x) y d := by
  unfold dtL; rw [if_neg h]; rfl
theorem dt_rest {x y d : Int} (h : x ≠ 0) : Txt.slice (txt (dtL x y d)) (some 1) none = txt (szL (ab x) y d) := by
  rw [slice_from (by omega) (by rw [dt_cons h, List.length_cons]; omega), dt_cons h, ab_is]; rfl
theorem dt_sg1 {x y d : Int} (h : x ≠ 0) (h2 : x < 0) : (Txt.item (txt (dtL x y d)) 0 != Str.ofString "-") = false := by
  have : dtL x y d = 45 :: szL (if x < 0 then -x else x) y d := by rw [dt_cons h, show (if x < 0 then 45 else 32) = 45 from if_pos h2]
  rw [this, item_txt (by omega) (by rw [List.length_cons]; omega), lit_minus]; simp
theorem dt_sg2 {x y d : Int} (h : x ≠ 0) (h2 : ¬ x < 0) : (Txt.item (txt (dtL x y d)) 0 != Str.ofString " ") = false := by
  have : dtL x y d = 32 :: szL (if x < 0 then -x else x) y d := by rw [dt_cons h, show (if x < 0 then 45 else 32) = 32 from if_neg h2]
  rw [this, item_txt (by omega) (by rw [List.length_cons]; omega), lit_blank]; simp
theorem mul_log {S y : Int} (h0 : 0 ≤ S) (h1 : S < 10 ^ 10) (h2 : y < 100) : (S * 10 ^ y.toNat).natAbs.log2 < 1920 := by
  refine log2_small ?_
  obtain ⟨n, rfl⟩ := Int.eq_ofNat_of_zero_le h0
  have : ((n : Int) * 10 ^ y.toNat) = ((n * 10 ^ y.toNat : Nat) : Int) := by push_cast; rfl
  rw [this, Int.natAbs_natCast]
  have h3 : n < 10 ^ 10 := by omega
  have h4 : 10 ^ y.toNat ≤ 10 ^ 100 := Nat.pow_le_pow_right (by decide) (by omega)
  calc n * 10 ^ y.toNat ≤ 10 ^ 10 * 10 ^ 100 := Nat.mul_le_mul (by omega) h4
    _ < 10 ^ 200 := by decide +kernel
theorem small_log {a : Int} (h0 : 0 ≤ a) (h1 : a < 10 ^ 10) : a.natAbs.log2 < 1920 := log2_small (by
  have : (10 : Nat) ^ 10 ≤ 10 ^ 200 := by decide +kernel
  omega)
theorem rj_len {r i : Int} {k : Int} (hk : i ≤ k) (h1 : r < 10 ^ 20) (h0 : 20 ≤ k) : ((Txt.rjustF (txt (dg r.toNat)) i ((Str.ofString "0").cps.getD 0 0)).length : Int) ≤ k := by
  have := dg_le20 h1
  rw [rjust_txt, txt_len, List.length_append, List.length_replicate]
  omega
theorem emod_le {S u : Int} (h : 0 ≤ S) : S % u ≤ S := by
  obtain ⟨n, rfl⟩ := Int.eq_ofNat_of_zero_le h
  have := Int.emod_nonneg (n : Int) (b := u)
  by_cases hu : u = 0
  · subst hu; simp
  · have e := Int.emod_add_mul_ediv (n : Int) u
    rcases Int.lt_or_gt_of_ne hu with h1 | h1
    · have : 0 ≤ u * ((n : Int) / u) := by
        have h2 : (n : Int) / u ≤ 0 := Int.ediv_nonpos_of_nonneg_of_nonpos (by omega) (by omega)
        have := Int.mul_nonneg (a := -u) (b := -((n : Int) / u)) (by omega) (by omega)
        rw [Int.neg_mul_neg] at this
        exact this
      omega
    · have : 0 ≤ u * ((n : Int) / u) := Int.mul_nonneg (by omega) (Int.ediv_nonneg (by omega) (by omega))
      omega
theorem fmod_le {S u : Int} (h : 0 ≤ S) (hu : 0 < u) : 0 ≤ S.fmod u ∧ S.fmod u ≤ S := by
  rw [Int.fmod_eq_emod_of_nonneg _ (by omega)]
  exact ⟨Int.emod_nonneg _ (by omega), emod_le h⟩
end Mine

namespace Mine
variable {w : World} {mean : ExcName → Option Value} {mg mb : Str → Option Value}
theorem w0_c (l : List Nat) (u : Tok) (m : Str → Option Value) (news : List (Addr × Obj)) (hl : 1 ≤ (txt l).length) (hl2 : (txt l).length < 2000)  (ht : m (Str.ofString "text") = some (.str (txt l) u)) :
    Sg w mean mg mb 20 (Str.ofString "_law_shape_right") (defC 29) (defS 29 0) m news (fun o m' news' => o = none ∧ (∃ t, m' (Str.ofString "sign") = some (.str (Txt.item (txt l) 0) t)) ∧ (∃ t, m' (Str.ofString "rest") = some (.str (Txt.slice (txt l) (some 1) none) t)) ∧ (∀ z, z ≠ (Str.ofString "sign") → z ≠ (Str.ofString "rest") → m' z = m z) ∧ news' = news) := by
  unfold Sg
  k_fill
  intro dp un gd a ccd outer A₀ base h₀ L s Q E B F X N T hdp hun hret
  k_with_none
  replace F := fq1 F ht
  conv in (defS 29 0) => whnf
  conv in (occs := *) (defC 29) => all_goals whnf
  k_steps
  exact sg_next hret (by with_reducible assumption) (by with_reducible assumption) (by intro p hp; repeat first | exact hp | refine List.Mem.tail _ ?_) ⟨rfl, ⟨_, (by first | exact if_pos rfl | exact (if_neg (by decide)).trans (if_pos rfl) | exact (if_neg (by decide)).trans ((if_neg (by decide)).trans (if_pos rfl)) | exact (if_neg (by decide)).trans ((if_neg (by decide)).trans ((if_neg (by decide)).trans (if_pos rfl))))⟩, ⟨_, (by first | exact if_pos rfl | exact (if_neg (by decide)).trans (if_pos rfl) | exact (if_neg (by decide)).trans ((if_neg (by decide)).trans (if_pos rfl)) | exact (if_neg (by decide)).trans ((if_neg (by decide)).trans ((if_neg (by decide)).trans (if_pos rfl))))⟩, (by intro z hz0 hz1; (try unfold PyProof.Rows.bindM); (try dsimp only); (try simp only [hz0, hz1, if_false, List.contains_nil, Bool.false_eq_true]); all_goals (repeat' split); all_goals first | rfl | (subst_vars; symm; assumption) | (subst_vars; exact absurd rfl (by assumption))), rfl⟩
theorem w1_c (x y : Int) (D : Addr) (t1 t2 : Tok) (k : Nat) (sg : Str) (ts : Tok) (m : Str → Option Value) (news : List (Addr × Obj)) (hn : x < 0 → (sg != Str.ofString "-") = false) (hp : ¬ x < 0 → (sg != Str.ofString " ") = false) (hm : (D, tupO x t1 y t2 k) ∈ news) (ha : m (Str.ofString "a") = some (.ref D)) (hs : m (Str.ofString "sign") = some (.str sg ts)) :
    Sg w mean mg mb 20 (Str.ofString "_law_shape_right") (defC 29) (defS 29 1) m news (fun o m' news' => o = none ∧ (∀ z, m' z = m z) ∧ news' = news) := by
  unfold Sg
  k_fill
  intro dp un gd a ccd outer A₀ base h₀ L s Q E B F X N T hdp hun hret
  k_with_none
  replace F := fq2 F ha hs
  replace N := news_in N hm
  conv in (defS 29 1) => whnf
  conv in (occs := *) (defC 29) => all_goals whnf
  by_cases hx : x < 0
  · have hq := hn hx
    k_steps
    all_goals first | (exfalso; omega) | exact sg_next hret (by with_reducible assumption) (by with_reducible assumption) (by intro p hp; repeat first | exact hp | refine List.Mem.tail _ ?_) ⟨rfl, (by intro z; (try unfold PyProof.Rows.bindM); (try dsimp only); (repeat' split) <;> first | rfl | (subst_vars; symm; assumption) | (subst_vars; exact absurd rfl (by assumption))), rfl⟩
  · have hq := hp hx
    k_steps
    all_goals first | (exfalso; omega) | exact sg_next hret (by with_reducible assumption) (by with_reducible assumption) (by intro p hp; repeat first | exact hp | refine List.Mem.tail _ ?_) ⟨rfl, (by intro z; (try unfold PyProof.Rows.bindM); (try dsimp only); (repeat' split) <;> first | rfl | (subst_vars; symm; assumption) | (subst_vars; exact absurd rfl (by assumption))), rfl⟩
theorem w2_n (x y : Int) (D : Addr) (t1 t2 : Tok) (k : Nat) (m : Str → Option Value) (news : List (Addr × Obj)) (hx : x ≠ 0) (hm : (D, tupO x t1 y t2 k) ∈ news) (ha : m (Str.ofString "a") = some (.ref D)) :
    Sg w mean mg mb 20 (Str.ofString "_law_shape_right") (defC 29) (defS 29 2) m news (fun o m' news' => o = none ∧ (∀ z, m' z = m z) ∧ news' = news) := by
  unfold Sg
  k_fill
  intro dp un gd a ccd outer A₀ base h₀ L s Q E B F X N T hdp hun hret
  k_with_none
  k_with "compareOp Eq ref ref" => (k_here; (with_reducible show wpAny _ _ (compareOp CmpOp.Eq (Value.ref _) (Value.ref _)) _ _ _); k_dflt (refine eq_tupI (by (first | exact News.get (by k_asm) (by k_mem) | exact (Frag.In.keeps (by k_asm) (Fr.keep (by k_asm))) _ _ (by k_is))) (by (first | exact News.get (by k_asm) (by k_mem) | exact (Frag.In.keeps (by k_asm) (Fr.keep (by k_asm))) _ _ (by k_is))) (by ktr_units) ?_; k_whole))
  k_with "compareOp NotEq ref ref" => (k_here; (with_reducible show wpAny _ _ (compareOp CmpOp.NotEq (Value.ref _) (Value.ref _)) _ _ _); k_dflt (refine ne_tupI (by (first | exact News.get (by k_asm) (by k_mem) | exact (Frag.In.keeps (by k_asm) (Fr.keep (by k_asm))) _ _ (by k_is))) (by (first | exact News.get (by k_asm) (by k_mem) | exact (Frag.In.keeps (by k_asm) (Fr.keep (by k_asm))) _ _ (by k_is))) (by ktr_units) ?_; k_whole))
  replace F := fq1 F ha
  replace N := news_in N hm
  conv in (defS 29 2) => whnf
  conv in (occs := *) (defC 29) => all_goals whnf
  k_steps
  all_goals first | (exfalso; omega) | exact sg_next hret (by with_reducible assumption) (by with_reducible assumption) (by intro p hp; repeat first | exact hp | refine List.Mem.tail _ ?_) ⟨rfl, (by intro z; (try unfold PyProof.Rows.bindM); (try dsimp only); (repeat' split) <;> first | rfl | (subst_vars; symm; assumption) | (subst_vars; exact absurd rfl (by assumption))), rfl⟩
theorem w2_y (D : Addr) (t1 t2 : Tok) (k : Nat) (r : Str) (tr : Tok) (m : Str → Option Value) (news : List (Addr × Obj)) (hr : (r == Str.ofString "0") = true) (hm : (D, tupO 0 t1 0 t2 k) ∈ news) (ha : m (Str.ofString "a") = some (.ref D)) (hrr : m (Str.ofString "rest") = some (.str r tr)) :
    Sg w mean mg mb 20 (Str.ofString "_law_shape_right") (defC 29) (defS 29 2) m news (fun o m' news' => o = some (.bool true) ∧ news' = news) := by
  unfold Sg
  k_fill
  intro dp un gd a ccd outer A₀ base h₀ L s Q E B F X N T hdp hun hret
  k_with_none
  k_with "compareOp Eq ref ref" => (k_here; (with_reducible show wpAny _ _ (compareOp CmpOp.Eq (Value.ref _) (Value.ref _)) _ _ _); k_dflt (refine eq_tupI (by (first | exact News.get (by k_asm) (by k_mem) | exact (Frag.In.keeps (by k_asm) (Fr.keep (by k_asm))) _ _ (by k_is))) (by (first | exact News.get (by k_asm) (by k_mem) | exact (Frag.In.keeps (by k_asm) (Fr.keep (by k_asm))) _ _ (by k_is))) (by ktr_units) ?_; k_whole))
  k_with "compareOp NotEq ref ref" => (k_here; (with_reducible show wpAny _ _ (compareOp CmpOp.NotEq (Value.ref _) (Value.ref _)) _ _ _); k_dflt (refine ne_tupI (by (first | exact News.get (by k_asm) (by k_mem) | exact (Frag.In.keeps (by k_asm) (Fr.keep (by k_asm))) _ _ (by k_is))) (by (first | exact News.get (by k_asm) (by k_mem) | exact (Frag.In.keeps (by k_asm) (Fr.keep (by k_asm))) _ _ (by k_is))) (by ktr_units) ?_; k_whole))
  replace F := fq2 F ha hrr
  replace N := news_in N hm
  conv in (defS 29 2) => whnf
  conv in (occs := *) (defC 29) => all_goals whnf
  k_steps
  all_goals first | (exfalso; omega) | exact sg_ret hret (by with_reducible assumption) (by with_reducible assumption) (by intro p hp; repeat first | exact hp | refine List.Mem.tail _ ?_) ⟨by rw [hr], rfl⟩
theorem w3_c (x y : Int) (D : Addr) (t1 t2 : Tok) (k : Nat) (m : Str → Option Value) (news : List (Addr × Obj))  (hm : (D, tupO x t1 y t2 k) ∈ news) (ha : m (Str.ofString "a") = some (.ref D)) :
    Sg w mean mg mb 20 (Str.ofString "_law_shape_right") (defC 29) (defS 29 3) m news (fun o m' news' => o = none ∧ (∃ t, m' (Str.ofString "size") = some (.int (ab x) t)) ∧ (∃ t, m' (Str.ofString "power") = some (.int y t)) ∧ (∀ z, z ≠ (Str.ofString "size") → z ≠ (Str.ofString "power") → m' z = m z) ∧ news' = news) := by
  unfold Sg
  k_fill
  intro dp un gd a ccd outer A₀ base h₀ L s Q E B F X N T hdp hun hret
  k_with_none
  k_with "call builtin:abs" => ((with_reducible refine call_ab ?_); intro _ _)
  replace F := fq1 F ha
  replace N := news_in N hm
  conv in (defS 29 3) => whnf
  conv in (occs := *) (defC 29) => all_goals whnf
  k_steps
  exact sg_next hret (by with_reducible assumption) (by with_reducible assumption) (by intro p hp; repeat first | exact hp | refine List.Mem.tail _ ?_) ⟨rfl, ⟨_, (by first | exact if_pos rfl | exact (if_neg (by decide)).trans (if_pos rfl) | exact (if_neg (by decide)).trans ((if_neg (by decide)).trans (if_pos rfl)) | exact (if_neg (by decide)).trans ((if_neg (by decide)).trans ((if_neg (by decide)).trans (if_pos rfl))))⟩, ⟨_, (by first | exact if_pos rfl | exact (if_neg (by decide)).trans (if_pos rfl) | exact (if_neg (by decide)).trans ((if_neg (by decide)).trans (if_pos rfl)) | exact (if_neg (by decide)).trans ((if_neg (by decide)).trans ((if_neg (by decide)).trans (if_pos rfl))))⟩, (by intro z hz0 hz1; (try unfold PyProof.Rows.bindM); (try dsimp only); (try simp only [hz0, hz1, if_false, List.contains_nil, Bool.false_eq_true]); all_goals (repeat' split); all_goals first | rfl | (subst_vars; symm; assumption) | (subst_vars; exact absurd rfl (by assumption))), rfl⟩
theorem w4_c (S : Int) (ts : Tok) (m : Str → Option Value) (news : List (Addr × Obj)) (h0 : 0 ≤ S) (h1 : S.natAbs.log2 < 1920)  (hs : m (Str.ofString "size") = some (.int S ts)) :
    Sg w mean mg mb 20 (Str.ofString "_law_shape_right") (defC 29) (defS 29 4) m news (fun o m' news' => o = none ∧ (∃ t, m' (Str.ofString "figures") = some (.str (txt (dg S.toNat)) t)) ∧ (∀ z, z ≠ (Str.ofString "figures") → m' z = m z) ∧ news' = news) := by
  unfold Sg
  k_fill
  intro dp un gd a ccd outer A₀ base h₀ L s Q E B F X N T hdp hun hret
  k_with_none
  k_with "call type:str" => (with_reducible refine str_dg (by first | assumption | omega) (by assumption) ?_)
  replace F := fq1 F hs
  conv in (defS 29 4) => whnf
  conv in (occs := *) (defC 29) => all_goals whnf
  k_steps
  exact sg_next hret (by with_reducible assumption) (by with_reducible assumption) (by intro p hp; repeat first | exact hp | refine List.Mem.tail _ ?_) ⟨rfl, ⟨_, (by first | exact if_pos rfl | exact (if_neg (by decide)).trans (if_pos rfl) | exact (if_neg (by decide)).trans ((if_neg (by decide)).trans (if_pos rfl)) | exact (if_neg (by decide)).trans ((if_neg (by decide)).trans ((if_neg (by decide)).trans (if_pos rfl))))⟩, (by intro z hz0; (try unfold PyProof.Rows.bindM); (try dsimp only); (try simp only [hz0, if_false, List.contains_nil, Bool.false_eq_true]); all_goals (repeat' split); all_goals first | rfl | (subst_vars; symm; assumption) | (subst_vars; exact absurd rfl (by assumption))), rfl⟩
theorem w5_c (y : Int) (F : Str) (ty tf : Tok) (m : Str → Option Value) (news : List (Addr × Obj)) (h1 : -100 < y) (h2 : y < 100) (hl : F.length ≤ 20)  (hy : m (Str.ofString "power") = some (.int y ty)) (hf : m (Str.ofString "figures") = some (.str F tf)) :
    Sg w mean mg mb 20 (Str.ofString "_law_shape_right") (defC 29) (defS 29 5) m news (fun o m' news' => o = none ∧ (∃ t, m' (Str.ofString "first") = some (.int (y + (F.length : Int) - 1) t)) ∧ (∀ z, z ≠ (Str.ofString "first") → m' z = m z) ∧ news' = news) := by
  unfold Sg
  k_fill
  intro dp un gd a ccd outer A₀ base h₀ L s Q E B F X N T hdp hun hret
  k_with_none
  replace F := fq2 F hy hf
  conv in (defS 29 5) => whnf
  conv in (occs := *) (defC 29) => all_goals whnf
  k_steps
  exact sg_next hret (by with_reducible assumption) (by with_reducible assumption) (by intro p hp; repeat first | exact hp | refine List.Mem.tail _ ?_) ⟨rfl, ⟨_, (by first | exact if_pos rfl | exact (if_neg (by decide)).trans (if_pos rfl) | exact (if_neg (by decide)).trans ((if_neg (by decide)).trans (if_pos rfl)) | exact (if_neg (by decide)).trans ((if_neg (by decide)).trans ((if_neg (by decide)).trans (if_pos rfl))))⟩, (by intro z hz0; (try unfold PyProof.Rows.bindM); (try dsimp only); (try simp only [hz0, if_false, List.contains_nil, Bool.false_eq_true]); all_goals (repeat' split); all_goals first | rfl | (subst_vars; symm; assumption) | (subst_vars; exact absurd rfl (by assumption))), rfl⟩
theorem w6_a (T y d : Int) (tT ty td : Tok) (m : Str → Option Value) (news : List (Addr × Obj)) (h : 0 ≤ T) (h2 : T < d)  (hT : m (Str.ofString "first") = some (.int T tT)) (hy : m (Str.ofString "power") = some (.int y ty)) (hd : m (Str.ofString "digits") = some (.int d td)) :
    Sg w mean mg mb 20 (Str.ofString "_law_shape_right") (defC 29) (defS 29 6) m news (fun o m' news' => o = none ∧ m' (Str.ofString "is_bare") = some (.bool true) ∧ (∀ z, z ≠ (Str.ofString "is_bare") → m' z = m z) ∧ news' = news) := by
  unfold Sg
  k_fill
  intro dp un gd a ccd outer A₀ base h₀ L s Q E B F X N T hdp hun hret
  k_with_none
  replace F := fq3 F hT hy hd
  conv in (defS 29 6) => whnf
  conv in (occs := *) (defC 29) => all_goals whnf
  k_steps
  all_goals first | (exfalso; omega) | exact sg_next hret (by with_reducible assumption) (by with_reducible assumption) (by intro p hp; repeat first | exact hp | refine List.Mem.tail _ ?_) ⟨rfl, (by first | exact if_pos rfl | (refine (if_pos rfl).trans ?_; congr 2; first | exact decide_eq_true (by omega) | exact decide_eq_false (by omega))), (by intro z hz0; (try unfold PyProof.Rows.bindM); (try dsimp only); (try simp only [hz0, if_false, List.contains_nil, Bool.false_eq_true]); all_goals (repeat' split); all_goals first | rfl | (subst_vars; symm; assumption) | (subst_vars; exact absurd rfl (by assumption))), rfl⟩
theorem w6_b (T y d : Int) (tT ty td : Tok) (m : Str → Option Value) (news : List (Addr × Obj)) (h : T < 0) (h2 : 0 - y ≤ d)  (hT : m (Str.ofString "first") = some (.int T tT)) (hy : m (Str.ofString "power") = some (.int y ty)) (hd : m (Str.ofString "digits") = some (.int d td)) :
    Sg w mean mg mb 20 (Str.ofString "_law_shape_right") (defC 29) (defS 29 6) m news (fun o m' news' => o = none ∧ m' (Str.ofString "is_bare") = some (.bool true) ∧ (∀ z, z ≠ (Str.ofString "is_bare") → m' z = m z) ∧ news' = news) := by
  unfold Sg
  k_fill
  intro dp un gd a ccd outer A₀ base h₀ L s Q E B F X N T hdp hun hret
  k_with_none
  replace F := fq3 F hT hy hd
  conv in (defS 29 6) => whnf
  conv in (occs := *) (defC 29) => all_goals whnf
  k_steps
  all_goals first | (exfalso; omega) | exact sg_next hret (by with_reducible assumption) (by with_reducible assumption) (by intro p hp; repeat first | exact hp | refine List.Mem.tail _ ?_) ⟨rfl, (by first | exact if_pos rfl | (refine (if_pos rfl).trans ?_; congr 2; first | exact decide_eq_true (by omega) | exact decide_eq_false (by omega))), (by intro z hz0; (try unfold PyProof.Rows.bindM); (try dsimp only); (try simp only [hz0, if_false, List.contains_nil, Bool.false_eq_true]); all_goals (repeat' split); all_goals first | rfl | (subst_vars; symm; assumption) | (subst_vars; exact absurd rfl (by assumption))), rfl⟩
theorem w6_c (T y d : Int) (tT ty td : Tok) (m : Str → Option Value) (news : List (Addr × Obj)) (h : 0 ≤ T) (h2 : d ≤ T)  (hT : m (Str.ofString "first") = some (.int T tT)) (hy : m (Str.ofString "power") = some (.int y ty)) (hd : m (Str.ofString "digits") = some (.int d td)) :
    Sg w mean mg mb 20 (Str.ofString "_law_shape_right") (defC 29) (defS 29 6) m news (fun o m' news' => o = none ∧ m' (Str.ofString "is_bare") = some (.bool false) ∧ (∀ z, z ≠ (Str.ofString "is_bare") → m' z = m z) ∧ news' = news) := by
  unfold Sg
  k_fill
  intro dp un gd a ccd outer A₀ base h₀ L s Q E B F X N T hdp hun hret
  k_with_none
  replace F := fq3 F hT hy hd
  conv in (defS 29 6) => whnf
  conv in (occs := *) (defC 29) => all_goals whnf
  k_steps
  all_goals first | (exfalso; omega) | exact sg_next hret (by with_reducible assumption) (by with_reducible assumption) (by intro p hp; repeat first | exact hp | refine List.Mem.tail _ ?_) ⟨rfl, (by first | exact if_pos rfl | (refine (if_pos rfl).trans ?_; congr 2; first | exact decide_eq_true (by omega) | exact decide_eq_false (by omega))), (by intro z hz0; (try unfold PyProof.Rows.bindM); (try dsimp only); (try simp only [hz0, if_false, List.contains_nil, Bool.false_eq_true]); all_goals (repeat' split); all_goals first | rfl | (subst_vars; symm; assumption) | (subst_vars; exact absurd rfl (by assumption))), rfl⟩
theorem w6_d (T y d : Int) (tT ty td : Tok) (m : Str → Option Value) (news : List (Addr × Obj)) (h : T < 0) (h2 : d < 0 - y)  (hT : m (Str.ofString "first") = some (.int T tT)) (hy : m (Str.ofString "power") = some (.int y ty)) (hd : m (Str.ofString "digits") = some (.int d td)) :
    Sg w mean mg mb 20 (Str.ofString "_law_shape_right") (defC 29) (defS 29 6) m news (fun o m' news' => o = none ∧ m' (Str.ofString "is_bare") = some (.bool false) ∧ (∀ z, z ≠ (Str.ofString "is_bare") → m' z = m z) ∧ news' = news) := by
  unfold Sg
  k_fill
  intro dp un gd a ccd outer A₀ base h₀ L s Q E B F X N T hdp hun hret
  k_with_none
  replace F := fq3 F hT hy hd
  conv in (defS 29 6) => whnf
  conv in (occs := *) (defC 29) => all_goals whnf
  k_steps
  all_goals first | (exfalso; omega) | exact sg_next hret (by with_reducible assumption) (by with_reducible assumption) (by intro p hp; repeat first | exact hp | refine List.Mem.tail _ ?_) ⟨rfl, (by first | exact if_pos rfl | (refine (if_pos rfl).trans ?_; congr 2; first | exact decide_eq_true (by omega) | exact decide_eq_false (by omega))), (by intro z hz0; (try unfold PyProof.Rows.bindM); (try dsimp only); (try simp only [hz0, if_false, List.contains_nil, Bool.false_eq_true]); all_goals (repeat' split); all_goals first | rfl | (subst_vars; symm; assumption) | (subst_vars; exact absurd rfl (by assumption))), rfl⟩
theorem w7_y  (m : Str → Option Value) (news : List (Addr × Obj))   (hb : m (Str.ofString "is_bare") = some (.bool true)) :
    Sg w mean mg mb 20 (Str.ofString "_law_shape_right") (defC 29) (defS 29 7) m news (fun o m' news' => o = none ∧ (∀ z, m' z = m z) ∧ news' = news) := by
  unfold Sg
  k_fill
  intro dp un gd a ccd outer A₀ base h₀ L s Q E B F X N T hdp hun hret
  k_with_none
  replace F := fq1 F hb
  conv in (defS 29 7) => whnf
  conv in (occs := *) (defC 29) => all_goals whnf
  k_steps
  exact sg_next hret (by with_reducible assumption) (by with_reducible assumption) (by intro p hp; repeat first | exact hp | refine List.Mem.tail _ ?_) ⟨rfl, (by intro z; (try unfold PyProof.Rows.bindM); (try dsimp only); (repeat' split) <;> first | rfl | (subst_vars; symm; assumption) | (subst_vars; exact absurd rfl (by assumption))), rfl⟩
theorem w7_n (S y d : Int) (tf tT tr : Tok) (m : Str → Option Value) (news : List (Addr × Obj)) (h1 : -100 < y) (h2 : y < 100) (hS1 : S < 10 ^ 10) (hll : (txt (szL S y d)).length < 2000) (h : (0 ≤ (y + ((txt (dg S.toNat)).length : Int) - 1) ∧ d ≤ (y + ((txt (dg S.toNat)).length : Int) - 1) ∧ 0 ≤ y) ∨ ((y + ((txt (dg S.toNat)).length : Int) - 1) < 0 ∧ d < 0 - y))  (hb : m (Str.ofString "is_bare") = some (.bool false)) (hf : m (Str.ofString "figures") = some (.str (txt (dg S.toNat)) tf)) (hT : m (Str.ofString "first") = some (.int (y + ((txt (dg S.toNat)).length : Int) - 1) tT)) (hr : m (Str.ofString "rest") = some (.str (txt (szL S y d)) tr)) :
    Sg w mean mg mb 20 (Str.ofString "_law_shape_right") (defC 29) (defS 29 7) m news (fun o m' news' => o = some (.bool true) ∧ news' = news) := by
  unfold Sg
  k_fill
  intro dp un gd a ccd outer A₀ base h₀ L s Q E B F X N T hdp hun hret
  k_with_none
  k_with "call type:str" => (with_reducible refine str_dg (by first | assumption | omega) (by assumption) ?_)
  k_with "call builtin:abs" => ((with_reducible refine call_ab ?_); intro _ _)
  replace F := fq4 F hb hf hT hr
  conv in (defS 29 7) => whnf
  conv in (occs := *) (defC 29) => all_goals whnf
  have hl : (txt (dg S.toNat)).length ≤ 20 := dg_le20 (by omega)
  have hl1 : 1 ≤ (txt (dg S.toNat)).length := dg_pos _
  have ha0 : 0 ≤ (ab (y + ((txt (dg S.toNat)).length : Int) - 1)) := ab_nn _
  have ha1 : (ab (y + ((txt (dg S.toNat)).length : Int) - 1)) < 10 ^ 10 := ab_lt (by omega) (by omega)
  have ha2 : (ab (y + ((txt (dg S.toNat)).length : Int) - 1)).natAbs.log2 < 1920 := small_log ha0 ha1
  have hrj : ((Txt.rjustF (txt (dg (ab (y + ((txt (dg S.toNat)).length : Int) - 1)).toNat)) 2 ((Str.ofString "0").cps.getD 0 0)).length : Int) ≤ 200 := rj_len (by omega) (by omega) (by omega)
  have hal : (txt (dg (ab (y + ((txt (dg S.toNat)).length : Int) - 1)).toNat)).length ≤ 20 := dg_le20 (by omega)
  k_steps
  all_goals first
    | (have g1 : 1 < ((txt (dg S.toNat)).length : Int) := by with_reducible assumption
       have g2 : ¬ (y + ((txt (dg S.toNat)).length : Int) - 1) < 0 := by with_reducible assumption
       exact sg_ret hret (by with_reducible assumption) (by with_reducible assumption) (by intro p hp; repeat first | exact hp | refine List.Mem.tail _ ?_) ⟨by rw [beq_of (by rw [lit_plus]; exact shD (sg := 43) h (shead1 g1) ((if_neg g2).symm))], rfl⟩)
    | (have g1 : ¬ 1 < ((txt (dg S.toNat)).length : Int) := by with_reducible assumption
       have g2 : ¬ (y + ((txt (dg S.toNat)).length : Int) - 1) < 0 := by with_reducible assumption
       exact sg_ret hret (by with_reducible assumption) (by with_reducible assumption) (by intro p hp; repeat first | exact hp | refine List.Mem.tail _ ?_) ⟨by rw [beq_of (by rw [lit_plus]; exact shD (sg := 43) h (shead2 (dg_pos _) g1) ((if_neg g2).symm))], rfl⟩)
    | (have g1 : 1 < ((txt (dg S.toNat)).length : Int) := by with_reducible assumption
       have g2 : (y + ((txt (dg S.toNat)).length : Int) - 1) < 0 := by with_reducible assumption
       exact sg_ret hret (by with_reducible assumption) (by with_reducible assumption) (by intro p hp; repeat first | exact hp | refine List.Mem.tail _ ?_) ⟨by rw [beq_of (by rw [lit_minus]; exact shD (sg := 45) h (shead1 g1) ((if_pos g2).symm))], rfl⟩)
    | (have g1 : ¬ 1 < ((txt (dg S.toNat)).length : Int) := by with_reducible assumption
       have g2 : (y + ((txt (dg S.toNat)).length : Int) - 1) < 0 := by with_reducible assumption
       exact sg_ret hret (by with_reducible assumption) (by with_reducible assumption) (by intro p hp; repeat first | exact hp | refine List.Mem.tail _ ?_) ⟨by rw [beq_of (by rw [lit_minus]; exact shD (sg := 45) h (shead2 (dg_pos _) g1) ((if_pos g2).symm))], rfl⟩)
theorem w8_y (S y d : Int) (ts ty tr : Tok) (m : Str → Option Value) (news : List (Addr × Obj)) (h0 : 0 ≤ y) (h2 : y < 100) (hS : 0 < S) (hS1 : S < 10 ^ 10) (hll : (txt (szL S y d)).length < 2000) (hT : (y + ((txt (dg S.toNat)).length : Int) - 1) < d)  (hs : m (Str.ofString "size") = some (.int S ts)) (hy : m (Str.ofString "power") = some (.int y ty)) (hr : m (Str.ofString "rest") = some (.str (txt (szL S y d)) tr)) :
    Sg w mean mg mb 20 (Str.ofString "_law_shape_right") (defC 29) (defS 29 8) m news (fun o m' news' => o = some (.bool true) ∧ news' = news) := by
  unfold Sg
  k_fill
  intro dp un gd a ccd outer A₀ base h₀ L s Q E B F X N T hdp hun hret
  k_with_none
  k_with "call type:str" => (with_reducible refine str_dg (by first | assumption | omega) (by assumption) ?_)
  replace F := fq3 F hs hy hr
  conv in (defS 29 8) => whnf
  conv in (occs := *) (defC 29) => all_goals whnf
  have hm0 : 0 ≤ S * 10 ^ y.toNat := Int.mul_nonneg (by omega) (Int.le_of_lt (pow10_pos _))
  have hm1 : (S * 10 ^ y.toNat).natAbs.log2 < 1920 := mul_log (by omega) hS1 h2
  k_steps
  all_goals first | (exfalso; omega) | exact sg_ret hret (by with_reducible assumption) (by with_reducible assumption) (by intro p hp; repeat first | exact hp | refine List.Mem.tail _ ?_) ⟨by rw [beq_of (shA hS h0 hT)], rfl⟩
theorem w8_n (y : Int) (ty : Tok) (m : Str → Option Value) (news : List (Addr × Obj)) (h0 : y < 0)  (hy : m (Str.ofString "power") = some (.int y ty)) :
    Sg w mean mg mb 20 (Str.ofString "_law_shape_right") (defC 29) (defS 29 8) m news (fun o m' news' => o = none ∧ (∀ z, m' z = m z) ∧ news' = news) := by
  unfold Sg
  k_fill
  intro dp un gd a ccd outer A₀ base h₀ L s Q E B F X N T hdp hun hret
  k_with_none
  replace F := fq1 F hy
  conv in (defS 29 8) => whnf
  conv in (occs := *) (defC 29) => all_goals whnf
  k_steps
  all_goals first | (exfalso; omega) | exact sg_next hret (by with_reducible assumption) (by with_reducible assumption) (by intro p hp; repeat first | exact hp | refine List.Mem.tail _ ?_) ⟨rfl, (by intro z; (try unfold PyProof.Rows.bindM); (try dsimp only); (repeat' split) <;> first | rfl | (subst_vars; symm; assumption) | (subst_vars; exact absurd rfl (by assumption))), rfl⟩
theorem w9_c (S y : Int) (ts ty : Tok) (m : Str → Option Value) (news : List (Addr × Obj)) (h1 : -100 < y) (h2 : y < 0) (hS0 : 0 ≤ S) (hS1 : S < 10 ^ 10)  (hs : m (Str.ofString "size") = some (.int S ts)) (hy : m (Str.ofString "power") = some (.int y ty)) :
    Sg w mean mg mb 20 (Str.ofString "_law_shape_right") (defC 29) (defS 29 9) m news (fun o m' news' => o = none ∧ (∃ t, m' (Str.ofString "whole") = some (.str (txt (dg (S.fdiv (10 ^ (0 - y).toNat)).toNat)) t)) ∧ (∀ z, z ≠ (Str.ofString "whole") → m' z = m z) ∧ news' = news) := by
  unfold Sg
  k_fill
  intro dp un gd a ccd outer A₀ base h₀ L s Q E B F X N T hdp hun hret
  k_with_none
  k_with "call type:str" => (with_reducible refine str_dg (by first | assumption | omega) (by assumption) ?_)
  k_with "binaryOp FloorDiv int int" => (with_reducible refine floordiv_int (pow10_ne _) ?_ (Or.inl (PyProof.noPylong_of_log2 (pow10_py (by omega)))))
  replace F := fq2 F hs hy
  conv in (defS 29 9) => whnf
  conv in (occs := *) (defC 29) => all_goals whnf
  obtain ⟨hq0, hq2⟩ := fdiv_le (S := S) (u := 10 ^ (0 - y).toNat) hS0 (pow10_pos _)
  have hq3 : (S.fdiv (10 ^ (0 - y).toNat)).natAbs.log2 < 1920 := small_log hq0 (Int.lt_of_le_of_lt hq2 hS1)
  k_steps
  exact sg_next hret (by with_reducible assumption) (by with_reducible assumption) (by intro p hp; repeat first | exact hp | refine List.Mem.tail _ ?_) ⟨rfl, ⟨_, (by first | exact if_pos rfl | exact (if_neg (by decide)).trans (if_pos rfl) | exact (if_neg (by decide)).trans ((if_neg (by decide)).trans (if_pos rfl)) | exact (if_neg (by decide)).trans ((if_neg (by decide)).trans ((if_neg (by decide)).trans (if_pos rfl))))⟩, (by intro z hz0; (try unfold PyProof.Rows.bindM); (try dsimp only); (try simp only [hz0, if_false, List.contains_nil, Bool.false_eq_true]); all_goals (repeat' split); all_goals first | rfl | (subst_vars; symm; assumption) | (subst_vars; exact absurd rfl (by assumption))), rfl⟩
theorem w10_c (S y : Int) (ts ty : Tok) (m : Str → Option Value) (news : List (Addr × Obj)) (h1 : -100 < y) (h2 : y < 0) (hS0 : 0 ≤ S) (hS1 : S < 10 ^ 10)  (hs : m (Str.ofString "size") = some (.int S ts)) (hy : m (Str.ofString "power") = some (.int y ty)) :
    Sg w mean mg mb 20 (Str.ofString "_law_shape_right") (defC 29) (defS 29 10) m news (fun o m' news' => o = none ∧ (∃ t, m' (Str.ofString "behind") = some (.str (Txt.rjustF (txt (dg (S.fmod (10 ^ (0 - y).toNat)).toNat)) (0 - y) ((Str.ofString "0").cps.getD 0 0)) t)) ∧ (∀ z, z ≠ (Str.ofString "behind") → m' z = m z) ∧ news' = news) := by
  unfold Sg
  k_fill
  intro dp un gd a ccd outer A₀ base h₀ L s Q E B F X N T hdp hun hret
  k_with_none
  k_with "call type:str" => (with_reducible refine str_dg (by first | assumption | omega) (by assumption) ?_)
  k_with "binaryOp Mod int int" => (with_reducible refine mod_int' (pow10_ne _) ?_)
  replace F := fq2 F hs hy
  conv in (defS 29 10) => whnf
  conv in (occs := *) (defC 29) => all_goals whnf
  obtain ⟨hr0, hr2⟩ := fmod_le (S := S) (u := 10 ^ (0 - y).toNat) hS0 (pow10_pos _)
  have hr1 : S.fmod (10 ^ (0 - y).toNat) < 10 ^ 10 := Int.lt_of_le_of_lt hr2 hS1
  have hr3 : (S.fmod (10 ^ (0 - y).toNat)).natAbs.log2 < 1920 := small_log hr0 hr1
  have hrl : (txt (dg (S.fmod (10 ^ (0 - y).toNat)).toNat)).length ≤ 20 := dg_le20 (by omega)
  have hrj : ((Txt.rjustF (txt (dg (S.fmod (10 ^ (0 - y).toNat)).toNat)) (0 - y) ((Str.ofString "0").cps.getD 0 0)).length : Int) ≤ 200 := rj_len (by omega) (by omega) (by omega)
  k_steps
  exact sg_next hret (by with_reducible assumption) (by with_reducible assumption) (by intro p hp; repeat first | exact hp | refine List.Mem.tail _ ?_) ⟨rfl, ⟨_, (by first | exact if_pos rfl | exact (if_neg (by decide)).trans (if_pos rfl) | exact (if_neg (by decide)).trans ((if_neg (by decide)).trans (if_pos rfl)) | exact (if_neg (by decide)).trans ((if_neg (by decide)).trans ((if_neg (by decide)).trans (if_pos rfl))))⟩, (by intro z hz0; (try unfold PyProof.Rows.bindM); (try dsimp only); (try simp only [hz0, if_false, List.contains_nil, Bool.false_eq_true]); all_goals (repeat' split); all_goals first | rfl | (subst_vars; symm; assumption) | (subst_vars; exact absurd rfl (by assumption))), rfl⟩
theorem w11_c (r wh bh : Str) (tr tw tb : Tok) (m : Str → Option Value) (news : List (Addr × Obj)) (h1 : wh.length ≤ 20) (h2 : (bh.length : Int) ≤ 200) (h3 : r.length < 2000) (hz : (wh == Str.ofString "0") = false → r = wh ++ Str.ofString "." ++ bh) (hy : (wh == Str.ofString "0") = true → r = Str.ofString "" ++ Str.ofString "." ++ bh)  (hr : m (Str.ofString "rest") = some (.str r tr)) (hw : m (Str.ofString "whole") = some (.str wh tw)) (hb : m (Str.ofString "behind") = some (.str bh tb)) :
    Sg w mean mg mb 20 (Str.ofString "_law_shape_right") (defC 29) (defS 29 11) m news (fun o m' news' => o = some (.bool true) ∧ news' = news) := by
  unfold Sg
  k_fill
  intro dp un gd a ccd outer A₀ base h₀ L s Q E B F X N T hdp hun hret
  k_with_none
  replace F := fq3 F hr hw hb
  conv in (defS 29 11) => whnf
  conv in (occs := *) (defC 29) => all_goals whnf
  k_steps
  all_goals first | exact sg_ret hret (by with_reducible assumption) (by with_reducible assumption) (by intro p hp; repeat first | exact hp | refine List.Mem.tail _ ?_) ⟨by rw [beq_of (hz (by assumption))], rfl⟩ | exact sg_ret hret (by with_reducible assumption) (by with_reducible assumption) (by intro p hp; repeat first | exact hp | refine List.Mem.tail _ ?_) ⟨by rw [beq_of (hy (by assumption))], rfl⟩
end Mine

namespace Mine
variable {w : World} {mean : ExcName → Option Value} {mg mb : Str → Option Value}
theorem sbody_is : bodyO (defD 29) = [defS 29 0, defS 29 1, defS 29 2, defS 29 3, defS 29 4, defS 29 5, defS 29 6, defS 29 7, defS 29 8, defS 29 9, defS 29 10, defS 29 11] := by rfl
theorem shape_con (D : Addr) (l : List Nat) (d : Int) (u t3 : Tok) (news : List (Addr × Obj)) (Ret : Value → List (Addr × Obj) → Prop)
    (H : ∀ m : Str → Option Value, m (Str.ofString "a") = some (.ref D) → m (Str.ofString "text") = some (.str (txt l) u) → m (Str.ofString "digits") = some (.int d t3) → Sgs w mean mg mb 20 (Str.ofString "_law_shape_right") (defC 29) (bodyO (defD 29)) m news (fun o _ n' => ∃ v, o = some v ∧ Ret v n')) : Con w mean mg mb 20 185 [.ref D, .str (txt l) u, .int d t3] news Ret := by
  unfold Con
  k_fill
  intro dp un gd cn cs a ccd cl outer A₀ base h₀ L m s Q E B F X N T hk hdp hun hret
  refine wpAny_call ?_
  k_dflt cell_enter
  have H' := H (fun y => List.lookup y [((Str.ofString "a"), Value.ref D), ((Str.ofString "text"), Value.str (txt l) u), ((Str.ofString "digits"), Value.int d t3)].reverse) rfl rfl rfl
  unfold Sgs at H'
  refine H' dp un gd _ _ _ _ _ _ _ _ _ _ (by with_reducible assumption) (by assumption) (by with_reducible assumption) (by with_reducible assumption) (by with_reducible assumption) hdp hun ?_
  intro o m' n' h' tk' P9 F9 N9
  obtain ⟨v, rfl, hr⟩ := P9
  k_with_none
  k_steps
  exact hret _ _ _ _ hr (by with_reducible assumption) (by with_reducible assumption)
theorem shape_A (x y : Int) (D : Addr) (t1 t2 : Tok) (k : Nat) (u : Tok) (d : Int) (t3 : Tok) (news : List (Addr × Obj)) (hm : (D, tupO x t1 y t2 k) ∈ news) (h1 : -100 < y) (h2 : y < 100) (hx0 : -(10 ^ 10) < x) (hx1 : x < 10 ^ 10) (hx : x ≠ 0) (hd0 : 0 < d) (hd1 : d < 50) (hl2 : (txt (dtL x y d)).length < 2000) (hA0 : 0 ≤ y) (hA1 : (y + ((txt (dg (ab x).toNat)).length : Int) - 1) < d) : Con w mean mg mb 20 185 [.ref D, .str (txt (dtL x y d)) u, .int d t3] news (RetB news true) := by
  have hS := ab_pos hx
  have hS0 := ab_nn x
  have hS1 : ab x < 10 ^ 10 := ab_lt hx0 hx1
  have hll : (txt (szL (ab x) y d)).length < 2000 := by
    rw [← dt_rest hx]
    have : (Txt.slice (txt (dtL x y d)) (some 1) none).length ≤ (txt (dtL x y d)).length := by
      rw [slice_from (by omega) (by rw [dt_cons hx, List.length_cons]; omega), txt_len, txt_len, List.length_drop]; omega
    omega
  have hF : (txt (dg (ab x).toNat)).length ≤ 20 := dg_le20 (by omega)
  refine shape_con D (dtL x y d) d u t3 news _ fun m ha ht hd => ?_
  rw [sbody_is]
  refine Sgs.cons (w0_c (dtL x y d) u m news (by rw [txt_len, dt_cons hx]; exact Nat.le_add_left _ _) hl2 ht) (fun _ _ _ h => nomatch h.1) ?_
  rintro m0 n0 ⟨-, ⟨ts, hs⟩, ⟨tr, hr⟩, r0, rfl⟩
  rw [dt_rest hx] at hr
  have ha := (r0 _ (by decide) (by decide)).trans ha
  have hd := (r0 _ (by decide) (by decide)).trans hd
  refine Sgs.cons (w1_c x y D t1 t2 k _ ts m0 _ (fun h => dt_sg1 hx h) (fun h => dt_sg2 hx h) hm ha hs) (fun _ _ _ h => nomatch h.1) ?_
  rintro m1 n1 ⟨-, r1, rfl⟩
  have ha := (r1 _ ).trans ha
  have hd := (r1 _ ).trans hd
  have hr := (r1 _ ).trans hr
  refine Sgs.cons (w2_n x y D t1 t2 k m1 _ hx hm ha) (fun _ _ _ h => nomatch h.1) ?_
  rintro m2 n2 ⟨-, r2, rfl⟩
  have ha := (r2 _ ).trans ha
  have hd := (r2 _ ).trans hd
  have hr := (r2 _ ).trans hr
  refine Sgs.cons (w3_c x y D t1 t2 k m2 _ hm ha) (fun _ _ _ h => nomatch h.1) ?_
  rintro m3 n3 ⟨-, ⟨tz, hz⟩, ⟨ty, hy⟩, r3, rfl⟩
  have hd := (r3 _ (by decide) (by decide)).trans hd
  have hr := (r3 _ (by decide) (by decide)).trans hr
  refine Sgs.cons (w4_c (ab x) tz m3 _ hS0 (small_log hS0 hS1) hz) (fun _ _ _ h => nomatch h.1) ?_
  rintro m4 n4 ⟨-, ⟨tf, hf⟩, r4, rfl⟩
  have hd := (r4 _ (by decide)).trans hd
  have hr := (r4 _ (by decide)).trans hr
  have hz := (r4 _ (by decide)).trans hz
  have hy := (r4 _ (by decide)).trans hy
  refine Sgs.cons (w5_c y _ ty tf m4 _ h1 h2 hF hy hf) (fun _ _ _ h => nomatch h.1) ?_
  rintro m5 n5 ⟨-, ⟨tT, hT⟩, r5, rfl⟩
  have hd := (r5 _ (by decide)).trans hd
  have hr := (r5 _ (by decide)).trans hr
  have hz := (r5 _ (by decide)).trans hz
  have hy := (r5 _ (by decide)).trans hy
  have hf := (r5 _ (by decide)).trans hf
  refine Sgs.cons (w6_a _ y d tT ty t3 m5 _ (by have := dg_pos (ab x).toNat; rw [txt_len]; omega) hA1 hT hy hd) (fun _ _ _ h => nomatch h.1) ?_
  rintro m6 n6 ⟨-, hb, r6, rfl⟩
  have hr := (r6 _ (by decide)).trans hr
  have hz := (r6 _ (by decide)).trans hz
  have hy := (r6 _ (by decide)).trans hy
  refine Sgs.cons (w7_y m6 _ hb) (fun _ _ _ h => nomatch h.1) ?_
  rintro m7 n7 ⟨-, r7, rfl⟩
  have hr := (r7 _ ).trans hr
  have hz := (r7 _ ).trans hz
  have hy := (r7 _ ).trans hy
  refine Sgs.cons (w8_y (ab x) y d tz ty tr m7 _ hA0 h2 hS hS1 hll hA1 hz hy hr) (fun v m' n' h => ⟨v, rfl, Option.some.inj h.1, h.2⟩) (fun _ _ h => nomatch h.1)
theorem shape_B (x y : Int) (D : Addr) (t1 t2 : Tok) (k : Nat) (u : Tok) (d : Int) (t3 : Tok) (news : List (Addr × Obj)) (hm : (D, tupO x t1 y t2 k) ∈ news) (h1 : -100 < y) (h2 : y < 100) (hx0 : -(10 ^ 10) < x) (hx1 : x < 10 ^ 10) (hx : x ≠ 0) (hd0 : 0 < d) (hd1 : d < 50) (hl2 : (txt (dtL x y d)).length < 2000) (hB0 : y < 0) (hB1 : 0 ≤ (y + ((txt (dg (ab x).toNat)).length : Int) - 1)) (hB2 : (y + ((txt (dg (ab x).toNat)).length : Int) - 1) < d) : Con w mean mg mb 20 185 [.ref D, .str (txt (dtL x y d)) u, .int d t3] news (RetB news true) := by
  have hS := ab_pos hx
  have hS0 := ab_nn x
  have hS1 : ab x < 10 ^ 10 := ab_lt hx0 hx1
  have hll : (txt (szL (ab x) y d)).length < 2000 := by
    rw [← dt_rest hx]
    have : (Txt.slice (txt (dtL x y d)) (some 1) none).length ≤ (txt (dtL x y d)).length := by
      rw [slice_from (by omega) (by rw [dt_cons hx, List.length_cons]; omega), txt_len, txt_len, List.length_drop]; omega
    omega
  have hF : (txt (dg (ab x).toNat)).length ≤ 20 := dg_le20 (by omega)
  refine shape_con D (dtL x y d) d u t3 news _ fun m ha ht hd => ?_
  rw [sbody_is]
  refine Sgs.cons (w0_c (dtL x y d) u m news (by rw [txt_len, dt_cons hx]; exact Nat.le_add_left _ _) hl2 ht) (fun _ _ _ h => nomatch h.1) ?_
  rintro m0 n0 ⟨-, ⟨ts, hs⟩, ⟨tr, hr⟩, r0, rfl⟩
  rw [dt_rest hx] at hr
  have ha := (r0 _ (by decide) (by decide)).trans ha
  have hd := (r0 _ (by decide) (by decide)).trans hd
  refine Sgs.cons (w1_c x y D t1 t2 k _ ts m0 _ (fun h => dt_sg1 hx h) (fun h => dt_sg2 hx h) hm ha hs) (fun _ _ _ h => nomatch h.1) ?_
  rintro m1 n1 ⟨-, r1, rfl⟩
  have ha := (r1 _ ).trans ha
  have hd := (r1 _ ).trans hd
  have hr := (r1 _ ).trans hr
  refine Sgs.cons (w2_n x y D t1 t2 k m1 _ hx hm ha) (fun _ _ _ h => nomatch h.1) ?_
  rintro m2 n2 ⟨-, r2, rfl⟩
  have ha := (r2 _ ).trans ha
  have hd := (r2 _ ).trans hd
  have hr := (r2 _ ).trans hr
  refine Sgs.cons (w3_c x y D t1 t2 k m2 _ hm ha) (fun _ _ _ h => nomatch h.1) ?_
  rintro m3 n3 ⟨-, ⟨tz, hz⟩, ⟨ty, hy⟩, r3, rfl⟩
  have hd := (r3 _ (by decide) (by decide)).trans hd
  have hr := (r3 _ (by decide) (by decide)).trans hr
  refine Sgs.cons (w4_c (ab x) tz m3 _ hS0 (small_log hS0 hS1) hz) (fun _ _ _ h => nomatch h.1) ?_
  rintro m4 n4 ⟨-, ⟨tf, hf⟩, r4, rfl⟩
  have hd := (r4 _ (by decide)).trans hd
  have hr := (r4 _ (by decide)).trans hr
  have hz := (r4 _ (by decide)).trans hz
  have hy := (r4 _ (by decide)).trans hy
  refine Sgs.cons (w5_c y _ ty tf m4 _ h1 h2 hF hy hf) (fun _ _ _ h => nomatch h.1) ?_
  rintro m5 n5 ⟨-, ⟨tT, hT⟩, r5, rfl⟩
  have hd := (r5 _ (by decide)).trans hd
  have hr := (r5 _ (by decide)).trans hr
  have hz := (r5 _ (by decide)).trans hz
  have hy := (r5 _ (by decide)).trans hy
  have hf := (r5 _ (by decide)).trans hf
  refine Sgs.cons (w6_a _ y d tT ty t3 m5 _ hB1 hB2 hT hy hd) (fun _ _ _ h => nomatch h.1) ?_
  rintro m6 n6 ⟨-, hb, r6, rfl⟩
  have hr := (r6 _ (by decide)).trans hr
  have hz := (r6 _ (by decide)).trans hz
  have hy := (r6 _ (by decide)).trans hy
  refine Sgs.cons (w7_y m6 _ hb) (fun _ _ _ h => nomatch h.1) ?_
  rintro m7 n7 ⟨-, r7, rfl⟩
  have hr := (r7 _ ).trans hr
  have hz := (r7 _ ).trans hz
  have hy := (r7 _ ).trans hy
  have hy0 : y < 0 := hB0
  refine Sgs.cons (w8_n y ty m7 _ hy0 hy) (fun _ _ _ h => nomatch h.1) ?_
  rintro m8 n8 ⟨-, r8, rfl⟩
  have hr := (r8 _ ).trans hr
  have hz := (r8 _ ).trans hz
  have hy := (r8 _ ).trans hy
  refine Sgs.cons (w9_c (ab x) y tz ty m8 _ h1 hy0 hS0 hS1 hz hy) (fun _ _ _ h => nomatch h.1) ?_
  rintro m9 n9 ⟨-, ⟨tw, hw⟩, r9, rfl⟩
  have hr := (r9 _ (by decide)).trans hr
  have hz := (r9 _ (by decide)).trans hz
  have hy := (r9 _ (by decide)).trans hy
  refine Sgs.cons (w10_c (ab x) y tz ty m9 _ h1 hy0 hS0 hS1 hz hy) (fun _ _ _ h => nomatch h.1) ?_
  rintro m10 n10 ⟨-, ⟨tb, hbh⟩, r10, rfl⟩
  have hr := (r10 _ (by decide)).trans hr
  have hw := (r10 _ (by decide)).trans hw
  obtain ⟨hq0, hq2⟩ := fdiv_le (S := ab x) (u := 10 ^ (0 - y).toNat) hS0 (pow10_pos _)
  obtain ⟨hr0, hr2⟩ := fmod_le (S := ab x) (u := 10 ^ (0 - y).toNat) hS0 (pow10_pos _)
  have hwl : (txt (dg ((ab x).fdiv (10 ^ (0 - y).toNat)).toNat)).length ≤ 20 := dg_le20 (by omega)
  have hbl : ((Txt.rjustF (txt (dg ((ab x).fmod (10 ^ (0 - y).toNat)).toNat)) (0 - y) ((Str.ofString "0").cps.getD 0 0)).length : Int) ≤ 200 := rj_len (by omega) (by omega) (by omega)
  refine Sgs.cons (w11_c _ _ _ tr tw tb m10 _ hwl hbl hll (fun _ => shB hS hB0 hB1) (fun h => absurd h (by rw [zeroB hS hB0 hB1]; decide)) hr hw hbh) (fun v m' n' h => ⟨v, rfl, Option.some.inj h.1, h.2⟩) (fun _ _ h => nomatch h.1)
theorem shape_C (x y : Int) (D : Addr) (t1 t2 : Tok) (k : Nat) (u : Tok) (d : Int) (t3 : Tok) (news : List (Addr × Obj)) (hm : (D, tupO x t1 y t2 k) ∈ news) (h1 : -100 < y) (h2 : y < 100) (hx0 : -(10 ^ 10) < x) (hx1 : x < 10 ^ 10) (hx : x ≠ 0) (hd0 : 0 < d) (hd1 : d < 50) (hl2 : (txt (dtL x y d)).length < 2000) (hC1 : (y + ((txt (dg (ab x).toNat)).length : Int) - 1) < 0) (hC2 : 0 - y ≤ d) : Con w mean mg mb 20 185 [.ref D, .str (txt (dtL x y d)) u, .int d t3] news (RetB news true) := by
  have hS := ab_pos hx
  have hS0 := ab_nn x
  have hS1 : ab x < 10 ^ 10 := ab_lt hx0 hx1
  have hll : (txt (szL (ab x) y d)).length < 2000 := by
    rw [← dt_rest hx]
    have : (Txt.slice (txt (dtL x y d)) (some 1) none).length ≤ (txt (dtL x y d)).length := by
      rw [slice_from (by omega) (by rw [dt_cons hx, List.length_cons]; omega), txt_len, txt_len, List.length_drop]; omega
    omega
  have hF : (txt (dg (ab x).toNat)).length ≤ 20 := dg_le20 (by omega)
  refine shape_con D (dtL x y d) d u t3 news _ fun m ha ht hd => ?_
  rw [sbody_is]
  refine Sgs.cons (w0_c (dtL x y d) u m news (by rw [txt_len, dt_cons hx]; exact Nat.le_add_left _ _) hl2 ht) (fun _ _ _ h => nomatch h.1) ?_
  rintro m0 n0 ⟨-, ⟨ts, hs⟩, ⟨tr, hr⟩, r0, rfl⟩
  rw [dt_rest hx] at hr
  have ha := (r0 _ (by decide) (by decide)).trans ha
  have hd := (r0 _ (by decide) (by decide)).trans hd
  refine Sgs.cons (w1_c x y D t1 t2 k _ ts m0 _ (fun h => dt_sg1 hx h) (fun h => dt_sg2 hx h) hm ha hs) (fun _ _ _ h => nomatch h.1) ?_
  rintro m1 n1 ⟨-, r1, rfl⟩
  have ha := (r1 _ ).trans ha
  have hd := (r1 _ ).trans hd
  have hr := (r1 _ ).trans hr
  refine Sgs.cons (w2_n x y D t1 t2 k m1 _ hx hm ha) (fun _ _ _ h => nomatch h.1) ?_
  rintro m2 n2 ⟨-, r2, rfl⟩
  have ha := (r2 _ ).trans ha
  have hd := (r2 _ ).trans hd
  have hr := (r2 _ ).trans hr
  refine Sgs.cons (w3_c x y D t1 t2 k m2 _ hm ha) (fun _ _ _ h => nomatch h.1) ?_
  rintro m3 n3 ⟨-, ⟨tz, hz⟩, ⟨ty, hy⟩, r3, rfl⟩
  have hd := (r3 _ (by decide) (by decide)).trans hd
  have hr := (r3 _ (by decide) (by decide)).trans hr
  refine Sgs.cons (w4_c (ab x) tz m3 _ hS0 (small_log hS0 hS1) hz) (fun _ _ _ h => nomatch h.1) ?_
  rintro m4 n4 ⟨-, ⟨tf, hf⟩, r4, rfl⟩
  have hd := (r4 _ (by decide)).trans hd
  have hr := (r4 _ (by decide)).trans hr
  have hz := (r4 _ (by decide)).trans hz
  have hy := (r4 _ (by decide)).trans hy
  refine Sgs.cons (w5_c y _ ty tf m4 _ h1 h2 hF hy hf) (fun _ _ _ h => nomatch h.1) ?_
  rintro m5 n5 ⟨-, ⟨tT, hT⟩, r5, rfl⟩
  have hd := (r5 _ (by decide)).trans hd
  have hr := (r5 _ (by decide)).trans hr
  have hz := (r5 _ (by decide)).trans hz
  have hy := (r5 _ (by decide)).trans hy
  have hf := (r5 _ (by decide)).trans hf
  refine Sgs.cons (w6_b _ y d tT ty t3 m5 _ hC1 hC2 hT hy hd) (fun _ _ _ h => nomatch h.1) ?_
  rintro m6 n6 ⟨-, hb, r6, rfl⟩
  have hr := (r6 _ (by decide)).trans hr
  have hz := (r6 _ (by decide)).trans hz
  have hy := (r6 _ (by decide)).trans hy
  refine Sgs.cons (w7_y m6 _ hb) (fun _ _ _ h => nomatch h.1) ?_
  rintro m7 n7 ⟨-, r7, rfl⟩
  have hr := (r7 _ ).trans hr
  have hz := (r7 _ ).trans hz
  have hy := (r7 _ ).trans hy
  have hy0 : y < 0 := by have := dg_pos (ab x).toNat; rw [txt_len] at hC1; omega
  refine Sgs.cons (w8_n y ty m7 _ hy0 hy) (fun _ _ _ h => nomatch h.1) ?_
  rintro m8 n8 ⟨-, r8, rfl⟩
  have hr := (r8 _ ).trans hr
  have hz := (r8 _ ).trans hz
  have hy := (r8 _ ).trans hy
  refine Sgs.cons (w9_c (ab x) y tz ty m8 _ h1 hy0 hS0 hS1 hz hy) (fun _ _ _ h => nomatch h.1) ?_
  rintro m9 n9 ⟨-, ⟨tw, hw⟩, r9, rfl⟩
  have hr := (r9 _ (by decide)).trans hr
  have hz := (r9 _ (by decide)).trans hz
  have hy := (r9 _ (by decide)).trans hy
  refine Sgs.cons (w10_c (ab x) y tz ty m9 _ h1 hy0 hS0 hS1 hz hy) (fun _ _ _ h => nomatch h.1) ?_
  rintro m10 n10 ⟨-, ⟨tb, hbh⟩, r10, rfl⟩
  have hr := (r10 _ (by decide)).trans hr
  have hw := (r10 _ (by decide)).trans hw
  obtain ⟨hq0, hq2⟩ := fdiv_le (S := ab x) (u := 10 ^ (0 - y).toNat) hS0 (pow10_pos _)
  obtain ⟨hr0, hr2⟩ := fmod_le (S := ab x) (u := 10 ^ (0 - y).toNat) hS0 (pow10_pos _)
  have hwl : (txt (dg ((ab x).fdiv (10 ^ (0 - y).toNat)).toNat)).length ≤ 20 := dg_le20 (by omega)
  have hbl : ((Txt.rjustF (txt (dg ((ab x).fmod (10 ^ (0 - y).toNat)).toNat)) (0 - y) ((Str.ofString "0").cps.getD 0 0)).length : Int) ≤ 200 := rj_len (by omega) (by omega) (by omega)
  refine Sgs.cons (w11_c _ _ _ tr tw tb m10 _ hwl hbl hll (fun h => absurd h (by rw [zeroC hS hC1]; decide)) (fun _ => shC hS hC1 hC2) hr hw hbh) (fun v m' n' h => ⟨v, rfl, Option.some.inj h.1, h.2⟩) (fun _ _ h => nomatch h.1)
theorem shape_D1 (x y : Int) (D : Addr) (t1 t2 : Tok) (k : Nat) (u : Tok) (d : Int) (t3 : Tok) (news : List (Addr × Obj)) (hm : (D, tupO x t1 y t2 k) ∈ news) (h1 : -100 < y) (h2 : y < 100) (hx0 : -(10 ^ 10) < x) (hx1 : x < 10 ^ 10) (hx : x ≠ 0) (hd0 : 0 < d) (hd1 : d < 50) (hl2 : (txt (dtL x y d)).length < 2000) (hD0 : 0 ≤ y) (hD1 : d ≤ (y + ((txt (dg (ab x).toNat)).length : Int) - 1)) : Con w mean mg mb 20 185 [.ref D, .str (txt (dtL x y d)) u, .int d t3] news (RetB news true) := by
  have hS := ab_pos hx
  have hS0 := ab_nn x
  have hS1 : ab x < 10 ^ 10 := ab_lt hx0 hx1
  have hll : (txt (szL (ab x) y d)).length < 2000 := by
    rw [← dt_rest hx]
    have : (Txt.slice (txt (dtL x y d)) (some 1) none).length ≤ (txt (dtL x y d)).length := by
      rw [slice_from (by omega) (by rw [dt_cons hx, List.length_cons]; omega), txt_len, txt_len, List.length_drop]; omega
    omega
  have hF : (txt (dg (ab x).toNat)).length ≤ 20 := dg_le20 (by omega)
  refine shape_con D (dtL x y d) d u t3 news _ fun m ha ht hd => ?_
  rw [sbody_is]
  refine Sgs.cons (w0_c (dtL x y d) u m news (by rw [txt_len, dt_cons hx]; exact Nat.le_add_left _ _) hl2 ht) (fun _ _ _ h => nomatch h.1) ?_
  rintro m0 n0 ⟨-, ⟨ts, hs⟩, ⟨tr, hr⟩, r0, rfl⟩
  rw [dt_rest hx] at hr
  have ha := (r0 _ (by decide) (by decide)).trans ha
  have hd := (r0 _ (by decide) (by decide)).trans hd
  refine Sgs.cons (w1_c x y D t1 t2 k _ ts m0 _ (fun h => dt_sg1 hx h) (fun h => dt_sg2 hx h) hm ha hs) (fun _ _ _ h => nomatch h.1) ?_
  rintro m1 n1 ⟨-, r1, rfl⟩
  have ha := (r1 _ ).trans ha
  have hd := (r1 _ ).trans hd
  have hr := (r1 _ ).trans hr
  refine Sgs.cons (w2_n x y D t1 t2 k m1 _ hx hm ha) (fun _ _ _ h => nomatch h.1) ?_
  rintro m2 n2 ⟨-, r2, rfl⟩
  have ha := (r2 _ ).trans ha
  have hd := (r2 _ ).trans hd
  have hr := (r2 _ ).trans hr
  refine Sgs.cons (w3_c x y D t1 t2 k m2 _ hm ha) (fun _ _ _ h => nomatch h.1) ?_
  rintro m3 n3 ⟨-, ⟨tz, hz⟩, ⟨ty, hy⟩, r3, rfl⟩
  have hd := (r3 _ (by decide) (by decide)).trans hd
  have hr := (r3 _ (by decide) (by decide)).trans hr
  refine Sgs.cons (w4_c (ab x) tz m3 _ hS0 (small_log hS0 hS1) hz) (fun _ _ _ h => nomatch h.1) ?_
  rintro m4 n4 ⟨-, ⟨tf, hf⟩, r4, rfl⟩
  have hd := (r4 _ (by decide)).trans hd
  have hr := (r4 _ (by decide)).trans hr
  have hz := (r4 _ (by decide)).trans hz
  have hy := (r4 _ (by decide)).trans hy
  refine Sgs.cons (w5_c y _ ty tf m4 _ h1 h2 hF hy hf) (fun _ _ _ h => nomatch h.1) ?_
  rintro m5 n5 ⟨-, ⟨tT, hT⟩, r5, rfl⟩
  have hd := (r5 _ (by decide)).trans hd
  have hr := (r5 _ (by decide)).trans hr
  have hz := (r5 _ (by decide)).trans hz
  have hy := (r5 _ (by decide)).trans hy
  have hf := (r5 _ (by decide)).trans hf
  refine Sgs.cons (w6_c _ y d tT ty t3 m5 _ (by omega) hD1 hT hy hd) (fun _ _ _ h => nomatch h.1) ?_
  rintro m6 n6 ⟨-, hb, r6, rfl⟩
  have hr := (r6 _ (by decide)).trans hr
  have hf := (r6 _ (by decide)).trans hf
  have hT := (r6 _ (by decide)).trans hT
  refine Sgs.cons (w7_n (ab x) y d tf tT tr m6 _ h1 h2 hS1 hll (.inl ⟨by omega, hD1, hD0⟩) hb hf hT hr) (fun v m' n' h => ⟨v, rfl, Option.some.inj h.1, h.2⟩) (fun _ _ h => nomatch h.1)
theorem shape_D2 (x y : Int) (D : Addr) (t1 t2 : Tok) (k : Nat) (u : Tok) (d : Int) (t3 : Tok) (news : List (Addr × Obj)) (hm : (D, tupO x t1 y t2 k) ∈ news) (h1 : -100 < y) (h2 : y < 100) (hx0 : -(10 ^ 10) < x) (hx1 : x < 10 ^ 10) (hx : x ≠ 0) (hd0 : 0 < d) (hd1 : d < 50) (hl2 : (txt (dtL x y d)).length < 2000) (hD0 : (y + ((txt (dg (ab x).toNat)).length : Int) - 1) < 0) (hD1 : d < 0 - y) : Con w mean mg mb 20 185 [.ref D, .str (txt (dtL x y d)) u, .int d t3] news (RetB news true) := by
  have hS := ab_pos hx
  have hS0 := ab_nn x
  have hS1 : ab x < 10 ^ 10 := ab_lt hx0 hx1
  have hll : (txt (szL (ab x) y d)).length < 2000 := by
    rw [← dt_rest hx]
    have : (Txt.slice (txt (dtL x y d)) (some 1) none).length ≤ (txt (dtL x y d)).length := by
      rw [slice_from (by omega) (by rw [dt_cons hx, List.length_cons]; omega), txt_len, txt_len, List.length_drop]; omega
    omega
  have hF : (txt (dg (ab x).toNat)).length ≤ 20 := dg_le20 (by omega)
  refine shape_con D (dtL x y d) d u t3 news _ fun m ha ht hd => ?_
  rw [sbody_is]
  refine Sgs.cons (w0_c (dtL x y d) u m news (by rw [txt_len, dt_cons hx]; exact Nat.le_add_left _ _) hl2 ht) (fun _ _ _ h => nomatch h.1) ?_
  rintro m0 n0 ⟨-, ⟨ts, hs⟩, ⟨tr, hr⟩, r0, rfl⟩
  rw [dt_rest hx] at hr
  have ha := (r0 _ (by decide) (by decide)).trans ha
  have hd := (r0 _ (by decide) (by decide)).trans hd
  refine Sgs.cons (w1_c x y D t1 t2 k _ ts m0 _ (fun h => dt_sg1 hx h) (fun h => dt_sg2 hx h) hm ha hs) (fun _ _ _ h => nomatch h.1) ?_
  rintro m1 n1 ⟨-, r1, rfl⟩
  have ha := (r1 _ ).trans ha
  have hd := (r1 _ ).trans hd
  have hr := (r1 _ ).trans hr
  refine Sgs.cons (w2_n x y D t1 t2 k m1 _ hx hm ha) (fun _ _ _ h => nomatch h.1) ?_
  rintro m2 n2 ⟨-, r2, rfl⟩
  have ha := (r2 _ ).trans ha
  have hd := (r2 _ ).trans hd
  have hr := (r2 _ ).trans hr
  refine Sgs.cons (w3_c x y D t1 t2 k m2 _ hm ha) (fun _ _ _ h => nomatch h.1) ?_
  rintro m3 n3 ⟨-, ⟨tz, hz⟩, ⟨ty, hy⟩, r3, rfl⟩
  have hd := (r3 _ (by decide) (by decide)).trans hd
  have hr := (r3 _ (by decide) (by decide)).trans hr
  refine Sgs.cons (w4_c (ab x) tz m3 _ hS0 (small_log hS0 hS1) hz) (fun _ _ _ h => nomatch h.1) ?_
  rintro m4 n4 ⟨-, ⟨tf, hf⟩, r4, rfl⟩
  have hd := (r4 _ (by decide)).trans hd
  have hr := (r4 _ (by decide)).trans hr
  have hz := (r4 _ (by decide)).trans hz
  have hy := (r4 _ (by decide)).trans hy
  refine Sgs.cons (w5_c y _ ty tf m4 _ h1 h2 hF hy hf) (fun _ _ _ h => nomatch h.1) ?_
  rintro m5 n5 ⟨-, ⟨tT, hT⟩, r5, rfl⟩
  have hd := (r5 _ (by decide)).trans hd
  have hr := (r5 _ (by decide)).trans hr
  have hz := (r5 _ (by decide)).trans hz
  have hy := (r5 _ (by decide)).trans hy
  have hf := (r5 _ (by decide)).trans hf
  refine Sgs.cons (w6_d _ y d tT ty t3 m5 _ hD0 hD1 hT hy hd) (fun _ _ _ h => nomatch h.1) ?_
  rintro m6 n6 ⟨-, hb, r6, rfl⟩
  have hr := (r6 _ (by decide)).trans hr
  have hf := (r6 _ (by decide)).trans hf
  have hT := (r6 _ (by decide)).trans hT
  refine Sgs.cons (w7_n (ab x) y d tf tT tr m6 _ h1 h2 hS1 hll (.inr ⟨hD0, hD1⟩) hb hf hT hr) (fun v m' n' h => ⟨v, rfl, Option.some.inj h.1, h.2⟩) (fun _ _ h => nomatch h.1)
theorem shape_Z (D : Addr) (t1 t2 : Tok) (k : Nat) (u : Tok) (d : Int) (t3 : Tok) (news : List (Addr × Obj)) (hm : (D, tupO 0 t1 0 t2 k) ∈ news) : Con w mean mg mb 20 185 [.ref D, .str (txt [32, 48]) u, .int d t3] news (RetB news true) := by
  refine shape_con D [32, 48] d u t3 news _ fun m ha ht hd => ?_
  rw [sbody_is]
  refine Sgs.cons (w0_c [32, 48] u m news (by decide) (by decide) ht) (fun _ _ _ h => nomatch h.1) ?_
  rintro m0 n0 ⟨-, ⟨ts, hs⟩, ⟨tr, hr⟩, r0, rfl⟩
  refine Sgs.cons (w1_c 0 0 D t1 t2 k _ ts m0 _ (fun h => by omega) (fun _ => by decide) hm ((r0 _ (by decide) (by decide)).trans ha) hs) (fun _ _ _ h => nomatch h.1) ?_
  rintro m1 n1 ⟨-, r1, rfl⟩
  exact Sgs.cons (w2_y D t1 t2 k _ tr m1 _ (by decide) hm ((r1 _).trans ((r0 _ (by decide) (by decide)).trans ha)) ((r1 _).trans hr)) (fun v m' n' h => ⟨v, rfl, Option.some.inj h.1, h.2⟩) (fun _ _ h => nomatch h.1)
end Mine

namespace Mine
/-! the plain law: texts read back -/
theorem val_from (b : List Nat) : ∀ x : Int, b.foldl (fun (a : Int) (c : Nat) => 10 * a + (c : Int) - 48) x = x * 10 ^ b.length + val b := by
  induction b with
  | nil => intro x; simp [val]
  | cons c b ih =>
    intro x
    have h0 := ih (10 * 0 + (c : Int) - 48)
    have e : val (c :: b) = (10 * 0 + (c : Int) - 48) * 10 ^ b.length + val b := h0
    rw [List.foldl_cons, ih, e, List.length_cons, Int.pow_succ]
    generalize (10 : Int) ^ b.length = P
    rw [Int.sub_mul, Int.add_mul, Int.sub_mul, Int.add_mul, Int.mul_comm P 10, ← Int.mul_assoc, Int.mul_comm x 10]
    omega
theorem val_append (a b : List Nat) : val (a ++ b) = val a * 10 ^ b.length + val b := by
  show (a ++ b).foldl _ 0 = _
  rw [List.foldl_append]
  exact val_from b (val a)
theorem val_dg (n : Nat) : val (dg n) = (n : Int) := by
  induction n using Nat.strongRecOn with
  | _ n ih =>
    by_cases h : n < 10
    · rw [dg_lt h]; show 10 * 0 + ((48 + n : Nat) : Int) - 48 = _; omega
    · rw [dg_ge h, val_snoc, ih _ (by omega)]; omega
theorem val_zeros (k : Nat) : val (List.replicate k 48) = 0 := by
  induction k with
  | zero => rfl
  | succ k ih => rw [List.replicate_succ', val_snoc, ih]; rfl
theorem dg_fig (n : Nat) : ∀ c ∈ dg n, isFig c = true := by
  induction n using Nat.strongRecOn with
  | _ n ih =>
    by_cases h : n < 10
    · rw [dg_lt h]
      intro c hc
      rw [List.mem_singleton.mp hc]
      unfold isFig
      rw [decide_eq_true (by omega), decide_eq_true (by omega)]; rfl
    · rw [dg_ge h]
      intro c hc
      rcases List.mem_append.mp hc with hc | hc
      · exact ih _ (by omega) c hc
      · rw [List.mem_singleton.mp hc]
        unfold isFig
        rw [decide_eq_true (by omega), decide_eq_true (by omega)]; rfl
theorem zeros_fig (k : Nat) : ∀ c ∈ List.replicate k 48, isFig c = true := by
  intro c hc
  rw [(List.mem_replicate.mp hc).2]; rfl
theorem takeWhile_app {p : Nat → Bool} {A R : List Nat} (h : ∀ c ∈ A, p c = true) (h2 : ∀ c, R.head? = some c → p c = false) : (A ++ R).takeWhile p = A := by
  induction A with
  | nil =>
    cases R with
    | nil => rfl
    | cons r R =>
      rw [List.nil_append, List.takeWhile_cons, if_neg (by rw [h2 r rfl]; simp)]
  | cons a A ih =>
    rw [List.cons_append, List.takeWhile_cons, if_pos (h a (List.mem_cons_self ..)), ih fun c hc => h c (List.mem_cons_of_mem _ hc)]
theorem runL_at {pre A R : List Nat} (h : ∀ c ∈ A, isFig c = true) (h2 : ∀ c, R.head? = some c → isFig c = false) : runL (pre ++ (A ++ R)) pre.length = A := by
  unfold runL
  rw [List.drop_left]
  exact takeWhile_app h h2
theorem at_len {pre R : List Nat} {c : Nat} : (pre ++ c :: R)[pre.length]? = some c := by
  rw [List.getElem?_append_right (Nat.le_refl _), Nat.sub_self]; rfl
theorem at_len' {pre R : List Nat} : (pre ++ R)[pre.length]? = R.head? := by
  rw [List.getElem?_append_right (Nat.le_refl _), Nat.sub_self]; exact List.head?_eq_getElem?.symm
/-- what stands behind a number: nothing that goes on with it -/
def TailOk (R : List Nat) : Prop := R = [] ∨ R = [32] ∨ R = [88] ∨ R = [69] ∨ R = [69, 43] ∨ R = [45, 49] ∨ R = [32, 46, 53]
theorem tail_fig {R : List Nat} (h : TailOk R) : ∀ c, R.head? = some c → isFig c = false := by
  intro c hc
  rcases h with rfl | rfl | rfl | rfl | rfl | rfl | rfl <;> simp at hc <;> subst hc <;> rfl
theorem tail_dot {R : List Nat} (h : TailOk R) : R.head? ≠ some 46 := by
  rcases h with rfl | rfl | rfl | rfl | rfl | rfl | rfl <;> simp
theorem head_of {l : List Nat} {n : Nat} : l[n]? = (l.drop n).head? := by rw [List.head?_drop]
/-- no exponent is read off such a tail -/
theorem exp_tail {pre R : List Nat} {i : Int} (h : TailOk R) (hi : i = (pre.length : Int)) : expAt (pre ++ R) i = (0, i) := by
  have d0 : i.toNat = pre.length := by omega
  have hd : ∀ k : Nat, (pre ++ R)[(i + (k : Int)).toNat]? = R[k]? := by
    intro k
    rw [show (i + (k : Int)).toNat = pre.length + k by omega, List.getElem?_append_right (by omega), Nat.add_sub_cancel_left]
  have h0 : (pre ++ R).getD i.toNat 0 = R.getD 0 0 := by
    have := hd 0
    rw [List.getD_eq_getElem?_getD, List.getD_eq_getElem?_getD, ← this]
    simp
  have hl : ((pre ++ R).length : Int) = i + (R.length : Int) := by rw [List.length_append]; omega
  have hr : ∀ k : Nat, runL (pre ++ R) (i + (k : Int)).toNat = (R.drop k).takeWhile isFig := by
    intro k
    unfold runL
    rw [show (i + (k : Int)).toNat = pre.length + k by omega, List.drop_append, List.drop_eq_nil_of_le (by omega), List.nil_append, show pre.length + k - pre.length = k by omega]
  have s2 : ∀ k : Nat, sg2 (pre ++ R) (i + (k : Int)) = (R[k]? == some 43 || R[k]? == some 45) := by
    intro k; unfold sg2; rw [hd k]
  have e1 : i + 1 + 1 = i + ((2 : Nat) : Int) := by omega
  have e2 : i + 1 = i + ((1 : Nat) : Int) := by omega
  unfold expAt
  rw [hl, h0]
  rcases h with rfl | rfl | rfl | rfl | rfl | rfl | rfl
  · rw [if_pos (by simp only [List.length_nil]; omega)]
  · rw [if_neg (by simp only [List.length_cons, List.length_nil]; omega), if_pos (by decide)]
  · rw [if_neg (by simp only [List.length_cons, List.length_nil]; omega), if_pos (by decide)]
  · rw [if_neg (by simp only [List.length_cons, List.length_nil]; omega), if_neg (by decide)]
    rw [e1, e2, s2 1, if_neg (by decide)]
    unfold expB
    rw [hr 1, if_pos (by decide)]
  · rw [if_neg (by simp only [List.length_cons, List.length_nil]; omega), if_neg (by decide)]
    rw [e1, e2, s2 1, if_pos (by decide)]
    unfold expB
    rw [hr 2, if_pos (by decide)]
  · rw [if_neg (by simp only [List.length_cons, List.length_nil]; omega), if_pos (by decide)]
  · rw [if_neg (by simp only [List.length_cons, List.length_nil]; omega), if_pos (by decide)]
theorem exp_E {pre ds R : List Nat} {sgn : Nat} {i : Int} (hi : i = (pre.length : Int)) (hs : sgn = 43 ∨ sgn = 45) (hd : ∀ c ∈ ds, isFig c = true) (hn : ds ≠ []) (hR : ∀ c, R.head? = some c → isFig c = false) (hv : val ds ≤ 9999) :
    expAt (pre ++ 69 :: sgn :: (ds ++ R)) i = ((if sgn = 45 then -1 else 1) * val ds, i + 2 + (ds.length : Int)) := by
  have hk : ∀ k : Nat, (pre ++ 69 :: sgn :: (ds ++ R))[(i + (k : Int)).toNat]? = (69 :: sgn :: (ds ++ R))[k]? := by
    intro k
    rw [show (i + (k : Int)).toNat = pre.length + k by omega, List.getElem?_append_right (by omega), Nat.add_sub_cancel_left]
  have h0 : (pre ++ 69 :: sgn :: (ds ++ R)).getD i.toNat 0 = 69 := by
    have := hk 0
    rw [List.getD_eq_getElem?_getD, show i.toNat = (i + ((0 : Nat) : Int)).toNat by omega, this]
    rfl
  have hl : ((pre ++ 69 :: sgn :: (ds ++ R)).length : Int) = i + 2 + (ds.length : Int) + (R.length : Int) := by
    simp only [List.length_append, List.length_cons]; omega
  have hr : runL (pre ++ 69 :: sgn :: (ds ++ R)) (i + 1 + 1).toNat = ds := by
    have := runL_at (pre := pre ++ [69, sgn]) (A := ds) (R := R) hd hR
    rw [show (i + 1 + 1).toNat = (pre ++ [69, sgn]).length by simp only [List.length_append, List.length_cons, List.length_nil]; omega]
    have e : pre ++ [69, sgn] ++ (ds ++ R) = pre ++ 69 :: sgn :: (ds ++ R) := by simp
    rw [e] at this
    exact this
  have s2 : sg2 (pre ++ 69 :: sgn :: (ds ++ R)) (i + 1) = true := by
    unfold sg2
    have := hk 1
    rw [show i + 1 = i + ((1 : Nat) : Int) by omega, this]
    rcases hs with rfl | rfl <;> rfl
  have s1 : sg1 (pre ++ 69 :: sgn :: (ds ++ R)) (i + 1) = decide (sgn = 45) := by
    unfold sg1
    have := hk 1
    rw [show i + 1 = i + ((1 : Nat) : Int) by omega, this]
    rcases hs with rfl | rfl <;> rfl
  have hne : ¬ ((ds.length : Int) = 0) := by
    intro e
    exact hn (List.length_eq_zero_iff.mp (by omega))
  unfold expAt
  rw [if_neg (by omega), h0, if_neg (by decide), if_pos s2, s1]
  unfold expB
  rw [hr, if_neg hne, if_neg (by omega : ¬ 9999 < val ds)]
  simp only [decide_eq_true_eq]
  rw [show i + 1 + 1 = i + 2 by omega]
theorem lead2 {T : List Nat} (h : ∀ c, T.head? = some c → isBl c = false) : lead (32 :: 32 :: T) = 2 := by
  unfold lead
  have : (32 :: 32 :: T).takeWhile isBl = [32, 32] := takeWhile_app (A := [32, 32]) (R := T) (by decide) h
  rw [this]; rfl
theorem fig_bl {c : Nat} (h : isFig c = true) : isBl c = false := by
  unfold isFig at h
  simp only [Bool.and_eq_true, decide_eq_true_eq] at h
  unfold isBl
  rw [Bool.eq_false_iff]
  intro hc
  rw [List.contains_iff_mem] at hc
  simp at hc; omega
theorem con_00 {w : World} {mean : ExcName → Option Value} {mg mb : Str → Option Value} {A R : List Nat} {d ex at4 : Int} {u t3 : Tok} {news : List (Addr × Obj)} (hA : ∀ c ∈ A, isFig c = true) (hR : ∀ c, R.head? = some c → isFig c = false) (hne : A ≠ []) (hdot : R.head? ≠ some 46) (hlen : (txt (32 :: 32 :: (A ++ R))).length < 200) (hex : expAt (32 :: 32 :: (A ++ R)) (2 + (A.length : Int)) = (ex, at4)) (hd : figs (if (val A) < 0 then -(val A) else (val A)) ≤ d) (h5 : -99 ≤ (ex - (0 : Int)) + figs (if (val A) < 0 then -(val A) else (val A)) - 1) (h6 : (ex - (0 : Int)) + figs (if (val A) < 0 then -(val A) else (val A)) - 1 ≤ 99) :
    Con w mean mg mb 6 150 [.str (txt (32 :: 32 :: (A ++ R))) u, .int d t3] news (RetP news (norm (val A) (ex - (0 : Int))).1 (norm (val A) (ex - (0 : Int))).2 at4) := by
  have hrest : ∀ c, (R).head? = some c → isFig c = false := hR
  have hlead : lead (32 :: 32 :: (A ++ R)) = 2 := lead2 (by intro c hc; cases A with | nil => exact absurd rfl hne | cons a A => (simp at hc; subst hc; exact fig_bl (hA _ (List.mem_cons_self ..))))
  have hrun : runL (32 :: 32 :: (A ++ R)) (2 : Int).toNat = A := runL_at (pre := [32, 32]) hA hrest
  have hll : ((txt (32 :: 32 :: (A ++ R))).length : Int) = 2 + (A.length : Int) + (R.length : Int) := by
    rw [txt_len]; simp only [List.length_append, List.length_cons]; omega
  have s1 : sg1 (32 :: 32 :: (A ++ R)) 2 = false := by
    cases A with | nil => exact absurd rfl hne | cons a A => (have := hA a (List.mem_cons_self ..); unfold sg1; show (some a == some 45) = false; unfold isFig at this; simp only [Bool.and_eq_true, decide_eq_true_eq] at this; simp; omega)
  have s2 : sg2 (32 :: 32 :: (A ++ R)) 2 = false := by
    cases A with | nil => exact absurd rfl hne | cons a A => (have := hA a (List.mem_cons_self ..); unfold sg2; show (some a == some 43 || some a == some 45) = false; unfold isFig at this; simp only [Bool.and_eq_true, decide_eq_true_eq] at this; simp; omega)
  have hdt : (Txt.slice (txt (32 :: 32 :: (A ++ R))) (some (2 + (A.length : Int))) (some (2 + (A.length : Int) + 1)) == Str.ofString ".") = false := by
    rw [slice_one (by omega), lit_dot, one_eq]
    have : ((32 :: 32 :: (A ++ R)))[(2 + (A.length : Int)).toNat]? = (R).head? := by
      have := at_len' (pre := [32, 32] ++ A) (R := R)
      rw [show (2 + (A.length : Int)).toNat = ([32, 32] ++ A).length by simp only [List.length_append, List.length_cons, List.length_nil]; omega, ← this]
      simp
    rw [this]
    cases hh : R.head? with | none => rfl | some y => (rw [hh] at hdot; simp at hdot ⊢; exact hdot)
  have base := d_of_text_00 (w := w) (mean := mean) (mg := mg) (mb := mb) (32 :: 32 :: (A ++ R)) d u t3 news
  rw [hlead] at base
  simp only [show (2 : Int) + 1 = 3 from rfl] at base
  rw [hrun] at base
  rw [hex] at base
  have sl1 := slice_minus (l := (32 :: 32 :: (A ++ R))) (a := 2) (by decide)
  have sl2 := slice_any (l := (32 :: 32 :: (A ++ R))) (a := 2) (by decide)
  rw [s1] at sl1
  rw [s2] at sl2
  have hpos := List.length_pos_iff.mpr hne
  exact base hlen (by omega) sl1 sl2 hdt (by omega) (by omega) (by have := List.length_pos_iff.mpr hne; omega) hd h5 h6
theorem con_01 {w : World} {mean : ExcName → Option Value} {mg mb : Str → Option Value} {A Bd R : List Nat} {d ex at4 : Int} {u t3 : Tok} {news : List (Addr × Obj)} (hA : ∀ c ∈ A, isFig c = true) (hR : ∀ c, R.head? = some c → isFig c = false) (hB : ∀ c ∈ Bd, isFig c = true) (hne : 0 < (A.length : Int) + (Bd.length : Int)) (hv0 : -(2 ^ 64) < val A) (hv1 : val A < 2 ^ 64) (hlen : (txt (32 :: 32 :: (A ++ (46 :: (Bd ++ R))))).length < 200) (hex : expAt (32 :: 32 :: (A ++ (46 :: (Bd ++ R)))) (2 + (A.length : Int) + 1 + (Bd.length : Int)) = (ex, at4)) (hd : figs (if (val A * 10 ^ ((Bd.length : Int)).toNat + val Bd) < 0 then -(val A * 10 ^ ((Bd.length : Int)).toNat + val Bd) else (val A * 10 ^ ((Bd.length : Int)).toNat + val Bd)) ≤ d) (h5 : -99 ≤ (ex - (Bd.length : Int)) + figs (if (val A * 10 ^ ((Bd.length : Int)).toNat + val Bd) < 0 then -(val A * 10 ^ ((Bd.length : Int)).toNat + val Bd) else (val A * 10 ^ ((Bd.length : Int)).toNat + val Bd)) - 1) (h6 : (ex - (Bd.length : Int)) + figs (if (val A * 10 ^ ((Bd.length : Int)).toNat + val Bd) < 0 then -(val A * 10 ^ ((Bd.length : Int)).toNat + val Bd) else (val A * 10 ^ ((Bd.length : Int)).toNat + val Bd)) - 1 ≤ 99) :
    Con w mean mg mb 6 150 [.str (txt (32 :: 32 :: (A ++ (46 :: (Bd ++ R))))) u, .int d t3] news (RetP news (norm (val A * 10 ^ ((Bd.length : Int)).toNat + val Bd) (ex - (Bd.length : Int))).1 (norm (val A * 10 ^ ((Bd.length : Int)).toNat + val Bd) (ex - (Bd.length : Int))).2 at4) := by
  have hrest : ∀ c, ((46 :: (Bd ++ R))).head? = some c → isFig c = false := by intro c hc; simp at hc; subst hc; rfl
  have hlead : lead (32 :: 32 :: (A ++ (46 :: (Bd ++ R)))) = 2 := lead2 (by intro c hc; cases A with | nil => (simp at hc; subst hc; rfl) | cons a A => (simp at hc; subst hc; exact fig_bl (hA _ (List.mem_cons_self ..))))
  have hrun : runL (32 :: 32 :: (A ++ (46 :: (Bd ++ R)))) (2 : Int).toNat = A := runL_at (pre := [32, 32]) hA hrest
  have hrun2 : runL (32 :: 32 :: (A ++ (46 :: (Bd ++ R)))) (2 + (A.length : Int) + 1).toNat = Bd := by
    have := runL_at (pre := [32, 32] ++ A ++ [46]) (A := Bd) (R := R) hB hR
    rw [show (2 + (A.length : Int) + 1).toNat = ([32, 32] ++ A ++ [46]).length by simp only [List.length_append, List.length_cons, List.length_nil]; omega]
    have e : [32, 32] ++ A ++ [46] ++ (Bd ++ R) = (32 :: 32 :: (A ++ (46 :: (Bd ++ R)))) := by simp
    rw [e] at this
    exact this
  have hll : ((txt (32 :: 32 :: (A ++ (46 :: (Bd ++ R))))).length : Int) = 2 + (A.length : Int) + 1 + (Bd.length : Int) + (R.length : Int) := by
    rw [txt_len]; simp only [List.length_append, List.length_cons]; omega
  have s1 : sg1 (32 :: 32 :: (A ++ (46 :: (Bd ++ R)))) 2 = false := by
    cases A with | nil => rfl | cons a A => (have := hA a (List.mem_cons_self ..); unfold sg1; show (some a == some 45) = false; unfold isFig at this; simp only [Bool.and_eq_true, decide_eq_true_eq] at this; simp; omega)
  have s2 : sg2 (32 :: 32 :: (A ++ (46 :: (Bd ++ R)))) 2 = false := by
    cases A with | nil => rfl | cons a A => (have := hA a (List.mem_cons_self ..); unfold sg2; show (some a == some 43 || some a == some 45) = false; unfold isFig at this; simp only [Bool.and_eq_true, decide_eq_true_eq] at this; simp; omega)
  have hdt : (Txt.slice (txt (32 :: 32 :: (A ++ (46 :: (Bd ++ R))))) (some (2 + (A.length : Int))) (some (2 + (A.length : Int) + 1)) == Str.ofString ".") = true := by
    rw [slice_one (by omega), lit_dot, one_eq]
    have : ((32 :: 32 :: (A ++ (46 :: (Bd ++ R)))))[(2 + (A.length : Int)).toNat]? = ((46 :: (Bd ++ R))).head? := by
      have := at_len' (pre := [32, 32] ++ A) (R := (46 :: (Bd ++ R)))
      rw [show (2 + (A.length : Int)).toNat = ([32, 32] ++ A).length by simp only [List.length_append, List.length_cons, List.length_nil]; omega, ← this]
      simp
    rw [this]
    rfl
  have base := d_of_text_01 (w := w) (mean := mean) (mg := mg) (mb := mb) (32 :: 32 :: (A ++ (46 :: (Bd ++ R)))) d u t3 news
  rw [hlead] at base
  simp only [show (2 : Int) + 1 = 3 from rfl] at base
  rw [hrun] at base
  rw [hrun2] at base
  rw [hex] at base
  have sl1 := slice_minus (l := (32 :: 32 :: (A ++ (46 :: (Bd ++ R))))) (a := 2) (by decide)
  have sl2 := slice_any (l := (32 :: 32 :: (A ++ (46 :: (Bd ++ R))))) (a := 2) (by decide)
  rw [s1] at sl1
  rw [s2] at sl2
  exact base hlen (by omega) sl1 sl2 hdt (by omega) (by omega) (by omega) (by omega) hv0 hv1 hne hd h5 h6
theorem con_10 {w : World} {mean : ExcName → Option Value} {mg mb : Str → Option Value} {A R : List Nat} {d ex at4 : Int} {u t3 : Tok} {news : List (Addr × Obj)} (hA : ∀ c ∈ A, isFig c = true) (hR : ∀ c, R.head? = some c → isFig c = false) (hne : A ≠ []) (hdot : R.head? ≠ some 46) (hlen : (txt (32 :: 32 :: 45 :: (A ++ R))).length < 200) (hex : expAt (32 :: 32 :: 45 :: (A ++ R)) (3 + (A.length : Int)) = (ex, at4)) (hd : figs (if (0 - (val A)) < 0 then -(0 - (val A)) else (0 - (val A))) ≤ d) (h5 : -99 ≤ (ex - (0 : Int)) + figs (if (0 - (val A)) < 0 then -(0 - (val A)) else (0 - (val A))) - 1) (h6 : (ex - (0 : Int)) + figs (if (0 - (val A)) < 0 then -(0 - (val A)) else (0 - (val A))) - 1 ≤ 99) :
    Con w mean mg mb 6 150 [.str (txt (32 :: 32 :: 45 :: (A ++ R))) u, .int d t3] news (RetP news (norm (0 - (val A)) (ex - (0 : Int))).1 (norm (0 - (val A)) (ex - (0 : Int))).2 at4) := by
  have hrest : ∀ c, (R).head? = some c → isFig c = false := hR
  have hlead : lead (32 :: 32 :: 45 :: (A ++ R)) = 2 := lead2 (by intro c hc; simp at hc; subst hc; rfl)
  have hrun : runL (32 :: 32 :: 45 :: (A ++ R)) (3 : Int).toNat = A := runL_at (pre := [32, 32, 45]) hA hrest
  have hll : ((txt (32 :: 32 :: 45 :: (A ++ R))).length : Int) = 3 + (A.length : Int) + (R.length : Int) := by
    rw [txt_len]; simp only [List.length_append, List.length_cons]; omega
  have s1 : sg1 (32 :: 32 :: 45 :: (A ++ R)) 2 = true := by
    rfl
  have s2 : sg2 (32 :: 32 :: 45 :: (A ++ R)) 2 = true := by
    rfl
  have hdt : (Txt.slice (txt (32 :: 32 :: 45 :: (A ++ R))) (some (3 + (A.length : Int))) (some (3 + (A.length : Int) + 1)) == Str.ofString ".") = false := by
    rw [slice_one (by omega), lit_dot, one_eq]
    have : ((32 :: 32 :: 45 :: (A ++ R)))[(3 + (A.length : Int)).toNat]? = (R).head? := by
      have := at_len' (pre := [32, 32, 45] ++ A) (R := R)
      rw [show (3 + (A.length : Int)).toNat = ([32, 32, 45] ++ A).length by simp only [List.length_append, List.length_cons, List.length_nil]; omega, ← this]
      simp
    rw [this]
    cases hh : R.head? with | none => rfl | some y => (rw [hh] at hdot; simp at hdot ⊢; exact hdot)
  have base := d_of_text_10 (w := w) (mean := mean) (mg := mg) (mb := mb) (32 :: 32 :: 45 :: (A ++ R)) d u t3 news
  rw [hlead] at base
  simp only [show (2 : Int) + 1 = 3 from rfl] at base
  rw [hrun] at base
  rw [hex] at base
  have sl1 := slice_minus (l := (32 :: 32 :: 45 :: (A ++ R))) (a := 2) (by decide)
  have sl2 := slice_any (l := (32 :: 32 :: 45 :: (A ++ R))) (a := 2) (by decide)
  rw [s1] at sl1
  rw [s2] at sl2
  have hpos := List.length_pos_iff.mpr hne
  exact base hlen (by omega) sl1 sl2 hdt (by omega) (by omega) (by have := List.length_pos_iff.mpr hne; omega) hd h5 h6
theorem con_11 {w : World} {mean : ExcName → Option Value} {mg mb : Str → Option Value} {A Bd R : List Nat} {d ex at4 : Int} {u t3 : Tok} {news : List (Addr × Obj)} (hA : ∀ c ∈ A, isFig c = true) (hR : ∀ c, R.head? = some c → isFig c = false) (hB : ∀ c ∈ Bd, isFig c = true) (hne : 0 < (A.length : Int) + (Bd.length : Int)) (hv0 : -(2 ^ 64) < val A) (hv1 : val A < 2 ^ 64) (hlen : (txt (32 :: 32 :: 45 :: (A ++ (46 :: (Bd ++ R))))).length < 200) (hex : expAt (32 :: 32 :: 45 :: (A ++ (46 :: (Bd ++ R)))) (3 + (A.length : Int) + 1 + (Bd.length : Int)) = (ex, at4)) (hd : figs (if (0 - (val A * 10 ^ ((Bd.length : Int)).toNat + val Bd)) < 0 then -(0 - (val A * 10 ^ ((Bd.length : Int)).toNat + val Bd)) else (0 - (val A * 10 ^ ((Bd.length : Int)).toNat + val Bd))) ≤ d) (h5 : -99 ≤ (ex - (Bd.length : Int)) + figs (if (0 - (val A * 10 ^ ((Bd.length : Int)).toNat + val Bd)) < 0 then -(0 - (val A * 10 ^ ((Bd.length : Int)).toNat + val Bd)) else (0 - (val A * 10 ^ ((Bd.length : Int)).toNat + val Bd))) - 1) (h6 : (ex - (Bd.length : Int)) + figs (if (0 - (val A * 10 ^ ((Bd.length : Int)).toNat + val Bd)) < 0 then -(0 - (val A * 10 ^ ((Bd.length : Int)).toNat + val Bd)) else (0 - (val A * 10 ^ ((Bd.length : Int)).toNat + val Bd))) - 1 ≤ 99) :
    Con w mean mg mb 6 150 [.str (txt (32 :: 32 :: 45 :: (A ++ (46 :: (Bd ++ R))))) u, .int d t3] news (RetP news (norm (0 - (val A * 10 ^ ((Bd.length : Int)).toNat + val Bd)) (ex - (Bd.length : Int))).1 (norm (0 - (val A * 10 ^ ((Bd.length : Int)).toNat + val Bd)) (ex - (Bd.length : Int))).2 at4) := by
  have hrest : ∀ c, ((46 :: (Bd ++ R))).head? = some c → isFig c = false := by intro c hc; simp at hc; subst hc; rfl
  have hlead : lead (32 :: 32 :: 45 :: (A ++ (46 :: (Bd ++ R)))) = 2 := lead2 (by intro c hc; simp at hc; subst hc; rfl)
  have hrun : runL (32 :: 32 :: 45 :: (A ++ (46 :: (Bd ++ R)))) (3 : Int).toNat = A := runL_at (pre := [32, 32, 45]) hA hrest
  have hrun2 : runL (32 :: 32 :: 45 :: (A ++ (46 :: (Bd ++ R)))) (3 + (A.length : Int) + 1).toNat = Bd := by
    have := runL_at (pre := [32, 32, 45] ++ A ++ [46]) (A := Bd) (R := R) hB hR
    rw [show (3 + (A.length : Int) + 1).toNat = ([32, 32, 45] ++ A ++ [46]).length by simp only [List.length_append, List.length_cons, List.length_nil]; omega]
    have e : [32, 32, 45] ++ A ++ [46] ++ (Bd ++ R) = (32 :: 32 :: 45 :: (A ++ (46 :: (Bd ++ R)))) := by simp
    rw [e] at this
    exact this
  have hll : ((txt (32 :: 32 :: 45 :: (A ++ (46 :: (Bd ++ R))))).length : Int) = 3 + (A.length : Int) + 1 + (Bd.length : Int) + (R.length : Int) := by
    rw [txt_len]; simp only [List.length_append, List.length_cons]; omega
  have s1 : sg1 (32 :: 32 :: 45 :: (A ++ (46 :: (Bd ++ R)))) 2 = true := by
    rfl
  have s2 : sg2 (32 :: 32 :: 45 :: (A ++ (46 :: (Bd ++ R)))) 2 = true := by
    rfl
  have hdt : (Txt.slice (txt (32 :: 32 :: 45 :: (A ++ (46 :: (Bd ++ R))))) (some (3 + (A.length : Int))) (some (3 + (A.length : Int) + 1)) == Str.ofString ".") = true := by
    rw [slice_one (by omega), lit_dot, one_eq]
    have : ((32 :: 32 :: 45 :: (A ++ (46 :: (Bd ++ R)))))[(3 + (A.length : Int)).toNat]? = ((46 :: (Bd ++ R))).head? := by
      have := at_len' (pre := [32, 32, 45] ++ A) (R := (46 :: (Bd ++ R)))
      rw [show (3 + (A.length : Int)).toNat = ([32, 32, 45] ++ A).length by simp only [List.length_append, List.length_cons, List.length_nil]; omega, ← this]
      simp
    rw [this]
    rfl
  have base := d_of_text_11 (w := w) (mean := mean) (mg := mg) (mb := mb) (32 :: 32 :: 45 :: (A ++ (46 :: (Bd ++ R)))) d u t3 news
  rw [hlead] at base
  simp only [show (2 : Int) + 1 = 3 from rfl] at base
  rw [hrun] at base
  rw [hrun2] at base
  rw [hex] at base
  have sl1 := slice_minus (l := (32 :: 32 :: 45 :: (A ++ (46 :: (Bd ++ R))))) (a := 2) (by decide)
  have sl2 := slice_any (l := (32 :: 32 :: 45 :: (A ++ (46 :: (Bd ++ R))))) (a := 2) (by decide)
  rw [s1] at sl1
  rw [s2] at sl2
  exact base hlen (by omega) sl1 sl2 hdt (by omega) (by omega) (by omega) (by omega) hv0 hv1 hne hd h5 h6
end Mine

namespace Mine
theorem con_cast {w : World} {mean : ExcName → Option Value} {mg mb : Str → Option Value} {l l' : List Nat} {u t3 : Tok} {d X Y a X' Y' a' : Int} {news : List (Addr × Obj)} (C : Con w mean mg mb 6 150 [.str (txt l) u, .int d t3] news (RetP news X Y a)) (hl : l = l') (hx : X = X') (hy : Y = Y') (ha : a = a') :
    Con w mean mg mb 6 150 [.str (txt l') u, .int d t3] news (RetP news X' Y' a') := by subst hl; subst hx; subst hy; subst ha; exact C
theorem norm_mul (z : Int) (k : Nat) (e : Int) (h : z ≠ 0) : norm (z * 10 ^ k) e = norm z (e + k) := by
  induction k generalizing e with
  | zero => simp
  | succ k ih =>
    have hp := pow10_pos k
    have h1 : z * 10 ^ (k + 1) = (z * 10 ^ k) * 10 := by rw [Int.pow_succ, Int.mul_assoc]
    have h2 : z * 10 ^ k ≠ 0 := Int.mul_ne_zero h (by (first | lia | omega))
    rw [h1, norm_step (by (first | lia | omega)) (by (first | lia | omega)), show z * 10 ^ k * 10 / 10 = z * 10 ^ k by (first | lia | omega), ih]
    congr 1
    push_cast
    (first | lia | omega)
theorem ab_p {C : Int} (h : 0 ≤ C) : (if C < 0 then -C else C) = C := if_neg (by (first | lia | omega))
theorem ab_m {C : Int} (h : 0 < C) : (if 0 - C < 0 then -(0 - C) else 0 - C) = C := by rw [if_pos (by (first | lia | omega))]; (first | lia | omega)
theorem norm_m {C E X Y : Int} (h : norm C E = (X, Y)) : norm (0 - C) E = (0 - X, Y) := by
  rw [show 0 - C = -C by (first | lia | omega), norm_neg, h]
  show (-X, Y) = (0 - X, Y)
  rw [Int.zero_sub]
theorem figs_of_val {n : Nat} {l : List Nat} (h : dg n = l) : figs (n : Int) = (l.length : Int) := by unfold figs; rw [Int.toNat_natCast, h]
theorem figs_dg (z : Int) : figs z = ((dg z.toNat).length : Int) := rfl
theorem expA_fig (T : Int) : ∀ c ∈ expA T, isFig c = true := by
  unfold expA
  intro c hc
  split at hc
  · rcases List.mem_cons.mp hc with rfl | hc
    · rfl
    · exact dg_fig _ c hc
  · exact dg_fig _ c hc
theorem expA_val {T : Int} (h : 0 ≤ T) : val (expA T) = T := by
  unfold expA
  split
  · show val ([48] ++ dg T.toNat) = T
    rw [val_append, val_dg, show val [48] = 0 from rfl]; (first | lia | omega)
  · rw [val_dg]; (first | lia | omega)
theorem expA_ne (T : Int) : expA T ≠ [] := by
  have := dg_pos T.toNat
  unfold expA
  split
  · simp
  · intro e; rw [e] at this; simp at this
theorem toN {z : Int} (h : 0 ≤ z) : ((z.toNat : Nat) : Int) = z := by (first | lia | omega)
theorem dg_split1 (n : Nat) : dg n = [(dg n).getD 0 0] ++ (dg n).drop 1 := by
  have := dg_pos n
  cases h : dg n with
  | nil => rw [h] at this; simp at this
  | cons a l => rfl
theorem val_split (a b : List Nat) (n : Nat) (h : dg n = a ++ b) : val a * 10 ^ ((b.length : Int)).toNat + val b = (n : Int) := by
  rw [Int.toNat_natCast, ← val_append, ← h, val_dg]
theorem val_bound (a : List Nat) (h : ∀ c ∈ a, isFig c = true) : 0 ≤ val a ∧ val a < 10 ^ a.length := by
  induction a with
  | nil => exact ⟨Int.le_refl _, by decide⟩
  | cons c a ih =>
    obtain ⟨h1, h2⟩ := ih fun x hx => h x (List.mem_cons_of_mem _ hx)
    have h3 := h c (List.mem_cons_self ..)
    unfold isFig at h3
    simp only [Bool.and_eq_true, decide_eq_true_eq] at h3
    have e : val (c :: a) = val [c] * 10 ^ a.length + val a := val_append [c] a
    have e1 : val [c] = (c : Int) - 48 := by show 10 * 0 + (c : Int) - 48 = _; (first | lia | omega)
    rw [e, e1, List.length_cons, Int.pow_succ]
    have hp := pow10_pos a.length
    generalize (10 : Int) ^ a.length = P at *
    have m1 : 0 ≤ ((c : Int) - 48) * P := Int.mul_nonneg (by (first | lia | omega)) (by (first | lia | omega))
    have m2 : ((c : Int) - 48) * P ≤ 9 * P := Int.mul_le_mul_of_nonneg_right (by (first | lia | omega)) (by (first | lia | omega))
    (first | lia | omega)
def TailE (R : List Nat) : Prop := TailOk R ∨ R = [46, 53]
theorem taile_fig {R : List Nat} (h : TailE R) : ∀ c, R.head? = some c → isFig c = false := by
  rcases h with h | rfl
  · exact tail_fig h
  · intro c hc; simp at hc; subst hc; rfl
/-- the text of a decimal that has an exponent in it -/
def isD (z y d : Int) : Prop := (0 ≤ y + figs z - 1 ∧ d ≤ y + figs z - 1 ∧ 0 ≤ y) ∨ (y + figs z - 1 < 0 ∧ d < 0 - y)
section
variable {w : World} {mean : ExcName → Option Value} {mg mb : Str → Option Value} {z y d : Int} {u t3 : Tok} {news : List (Addr × Obj)} {tl : List Nat}

theorem back_0 (hz : 0 < z) (hz10 : z % 10 ≠ 0) (hz6 : z < 1000000) (hy : -60 ≤ y) (hy2 : y ≤ 80) (hd6 : 6 ≤ d) (hd8 : d ≤ 8) (ht : TailOk tl ∨ (TailE tl ∧ isD z y d)) :
    Con w mean mg mb 6 150 [.str (txt (32 :: 32 :: (szL z y d ++ tl))) u, .int d t3] news (RetP news z y (2 + ((szL z y d).length : Int))) := by
  have hzn := toN (z := z) (by (first | lia | omega))
  have hf6 : figs z ≤ 6 := figs_le (k := 6) (by decide) (by (first | lia | omega))
  have hfp := figs_pos z
  have hfl := figs_dg z
  have hdF := dg_fig z.toNat
  have hvF : val (dg z.toNat) = z := by rw [val_dg]; exact hzn
  have hN : norm z y = (z, y) := norm_stop hz10
  have htl : tl.length ≤ 3 := by
    rcases ht with h | ⟨h | rfl, _⟩
    · rcases h with rfl | rfl | rfl | rfl | rfl | rfl | rfl <;> decide
    · rcases h with rfl | rfl | rfl | rfl | rfl | rfl | rfl <;> decide
    · decide
  by_cases cA : 0 ≤ y ∧ y + ((dg z.toNat).length : Int) - 1 < d
  · -- plain, whole
    have hD : ¬ isD z y d := by unfold isD; (first | lia | omega)
    have ht' : TailOk tl := by rcases ht with h | ⟨_, h⟩; exact h; exact absurd h hD
    have es : szL z y d = dg z.toNat ++ List.replicate y.toNat 48 := by unfold szL; rw [if_pos cA]
    have hv : val (dg z.toNat ++ List.replicate y.toNat 48) = z * 10 ^ y.toNat := by rw [val_append, hvF, val_zeros, List.length_replicate, Int.add_zero]
    have hp := pow10_pos y.toNat
    have hC : 0 < z * 10 ^ y.toNat := Int.mul_pos hz hp
    have hdg : dg (z * 10 ^ y.toNat).toNat = dg z.toNat ++ List.replicate y.toNat 48 := by rw [mulP (by (first | lia | omega)), dg_mul _ _ (by (first | lia | omega))]
    have hfg : figs (z * 10 ^ y.toNat) = figs z + y := by rw [figs_dg, hdg, List.length_append, List.length_replicate, hfl]; (first | lia | omega)
    have hAf : ∀ c ∈ dg z.toNat ++ List.replicate y.toNat 48, isFig c = true := fun c hc => (List.mem_append.mp hc).elim (hdF c) (zeros_fig _ c)
    have hlA : ((dg z.toNat ++ List.replicate y.toNat 48).length : Int) = figs z + y := by rw [List.length_append, List.length_replicate, hfl]; (first | lia | omega)
    have hex : expAt (32 :: 32 :: ((dg z.toNat ++ List.replicate y.toNat 48) ++ tl)) (2 + ((dg z.toNat ++ List.replicate y.toNat 48).length : Int)) = (0, 2 + ((dg z.toNat ++ List.replicate y.toNat 48).length : Int)) :=
      exp_tail (pre := [32, 32] ++ (dg z.toNat ++ List.replicate y.toNat 48)) ht' (by simp only [List.length_append, List.length_cons, List.length_nil]; (first | lia | omega))
    have hnn : norm (z * 10 ^ y.toNat) (0 - 0) = (z, y) := by rw [norm_mul _ _ _ (by (first | lia | omega)), show (0 : Int) - 0 + (y.toNat : Int) = y by (first | lia | omega)]; exact hN
    have hnx : norm (z * 10 ^ y.toNat) (0 - 0) = (z, y) := hnn
    have hab : (if z * 10 ^ y.toNat < 0 then -(z * 10 ^ y.toNat) else z * 10 ^ y.toNat) = z * 10 ^ y.toNat := ab_p (by (first | lia | omega))
    refine con_cast (con_00 (A := dg z.toNat ++ List.replicate y.toNat 48) (R := tl) hAf (tail_fig ht') (by have := dg_pos z.toNat; intro e; rw [e] at hlA; simp at hlA; (first | lia | omega)) (tail_dot ht') ?_ hex ?_ ?_ ?_) (by rw [es]) ?_ ?_ ?_
    · rw [txt_len]; simp only [List.length_cons, List.length_append] at *; (first | lia | omega)
    · rw [hv, hab, hfg]; (first | lia | omega)
    · rw [hv, hab, hfg]; (first | lia | omega)
    · rw [hv, hab, hfg]; (first | lia | omega)
    · rw [hv, hnx]
    · rw [hv, hnx]
    · rw [es]
  · by_cases cB : y < 0 ∧ 0 ≤ y + ((dg z.toNat).length : Int) - 1
    · -- a point within
      have hD : ¬ isD z y d := by unfold isD; (first | lia | omega)
      have ht' : TailOk tl := by rcases ht with h | ⟨_, h⟩; exact h; exact absurd h hD
      have es : szL z y d = (dg z.toNat).take (y + ((dg z.toNat).length : Int) - 1 + 1).toNat ++ [46] ++ (dg z.toNat).drop (y + ((dg z.toNat).length : Int) - 1 + 1).toNat := by unfold szL; rw [if_neg cA, if_pos cB]
      generalize hk : (y + ((dg z.toNat).length : Int) - 1 + 1).toNat = k at es
      have hs : dg z.toNat = (dg z.toNat).take k ++ (dg z.toNat).drop k := (List.take_append_drop k _).symm
      have hAf : ∀ c ∈ (dg z.toNat).take k, isFig c = true := fun c hc => hdF c (List.mem_of_mem_take hc)
      have hBf : ∀ c ∈ (dg z.toNat).drop k, isFig c = true := fun c hc => hdF c (List.mem_of_mem_drop hc)
      have hlB : (((dg z.toNat).drop k).length : Int) = 0 - y := by rw [List.length_drop]; (first | lia | omega)
      have hlA : (((dg z.toNat).take k).length : Int) = figs z + y := by rw [List.length_take]; (first | lia | omega)
      have hv := val_split _ _ _ hs
      rw [hzn] at hv
      have hb := val_bound _ hAf
      have hb2 : (10 : Int) ^ ((dg z.toNat).take k).length ≤ 10 ^ 6 := pow10_mono (by rw [List.length_take]; (first | lia | omega))
      have hex : expAt (32 :: 32 :: ((dg z.toNat).take k ++ (46 :: ((dg z.toNat).drop k ++ tl)))) (2 + (((dg z.toNat).take k).length : Int) + 1 + (((dg z.toNat).drop k).length : Int)) = (0, 2 + (((dg z.toNat).take k).length : Int) + 1 + (((dg z.toNat).drop k).length : Int)) := by
        have := exp_tail (pre := [32, 32] ++ (dg z.toNat).take k ++ [46] ++ (dg z.toNat).drop k) (i := 2 + (((dg z.toNat).take k).length : Int) + 1 + (((dg z.toNat).drop k).length : Int)) ht' (by simp only [List.length_append, List.length_cons, List.length_nil]; (first | lia | omega))
        rw [← this]; congr 1; simp only [List.append_assoc]; rfl
      have hnx : norm z (0 - (((dg z.toNat).drop k).length : Int)) = (z, y) := by
        rw [hlB, show (0 : Int) - (0 - y) = y by (first | lia | omega)]; exact hN
      have hab : (if z < 0 then -z else z) = z := ab_p (by (first | lia | omega))
      refine con_cast (con_01 (A := (dg z.toNat).take k) (Bd := (dg z.toNat).drop k) (R := tl) hAf (tail_fig ht') hBf (by rw [hlB]; (first | lia | omega)) (by (first | lia | omega)) (by (first | lia | omega)) ?_ hex ?_ ?_ ?_) (by rw [es]; simp only [List.append_assoc]; rfl) ?_ ?_ ?_
      · rw [txt_len]; simp only [List.length_cons, List.length_append] at *; (first | lia | omega)
      · rw [hv, hab]; (first | lia | omega)
      · rw [hv, hab, hlB]; (first | lia | omega)
      · rw [hv, hab, hlB]; (first | lia | omega)
      · rw [hv, hnx]
      · rw [hv, hnx]
      · rw [es]; simp only [List.length_append, List.length_cons, List.length_nil]; (first | lia | omega)
    · by_cases cC : y + ((dg z.toNat).length : Int) - 1 < 0 ∧ 0 - y ≤ d
      · -- a point ahead
        have hD : ¬ isD z y d := by unfold isD; (first | lia | omega)
        have ht' : TailOk tl := by rcases ht with h | ⟨_, h⟩; exact h; exact absurd h hD
        have es : szL z y d = [46] ++ List.replicate (0 - y - ((dg z.toNat).length : Int)).toNat 48 ++ dg z.toNat := by unfold szL; rw [if_neg cA, if_neg cB, if_pos cC]
        generalize hk : (0 - y - ((dg z.toNat).length : Int)).toNat = k at es
        have hBf : ∀ c ∈ List.replicate k 48 ++ dg z.toNat, isFig c = true := fun c hc => (List.mem_append.mp hc).elim (zeros_fig _ c) (hdF c)
        have hlB : ((List.replicate k 48 ++ dg z.toNat).length : Int) = 0 - y := by rw [List.length_append, List.length_replicate]; (first | lia | omega)
        have hv : val [] * 10 ^ (((List.replicate k 48 ++ dg z.toNat).length : Int)).toNat + val (List.replicate k 48 ++ dg z.toNat) = z := by
          rw [show val [] = 0 from rfl, Int.zero_mul, Int.zero_add, val_append, val_zeros, hvF, Int.zero_mul, Int.zero_add]
        have hex : expAt (32 :: 32 :: ([] ++ (46 :: ((List.replicate k 48 ++ dg z.toNat) ++ tl)))) (2 + (([] : List Nat).length : Int) + 1 + ((List.replicate k 48 ++ dg z.toNat).length : Int)) = (0, 2 + (([] : List Nat).length : Int) + 1 + ((List.replicate k 48 ++ dg z.toNat).length : Int)) :=
          exp_tail (pre := [32, 32] ++ [46] ++ (List.replicate k 48 ++ dg z.toNat)) ht' (by simp only [List.length_append, List.length_cons, List.length_nil]; (first | lia | omega))
        have hnx : norm z (0 - ((List.replicate k 48 ++ dg z.toNat).length : Int)) = (z, y) := by
          rw [hlB, show (0 : Int) - (0 - y) = y by (first | lia | omega)]; exact hN
        have hab : (if z < 0 then -z else z) = z := ab_p (by (first | lia | omega))
        refine con_cast (con_01 (A := []) (Bd := List.replicate k 48 ++ dg z.toNat) (R := tl) (fun _ h => nomatch h) (tail_fig ht') hBf (by rw [hlB]; simp; (first | lia | omega)) (by decide) (by decide) ?_ hex ?_ ?_ ?_) (by rw [es]; simp) ?_ ?_ ?_
        · rw [txt_len]; simp only [List.length_cons, List.length_append, List.length_nil] at *; (first | lia | omega)
        · rw [hv, hab]; (first | lia | omega)
        · rw [hv, hab, hlB]; (first | lia | omega)
        · rw [hv, hab, hlB]; (first | lia | omega)
        · rw [hv, hnx]
        · rw [hv, hnx]
        · rw [es]; simp only [List.length_append, List.length_cons, List.length_nil]; (first | lia | omega)
      · -- an exponent
        have es : szL z y d = [(dg z.toNat).getD 0 0] ++ (if 1 < ((dg z.toNat).length : Int) then [46] ++ (dg z.toNat).drop 1 else []) ++ [69] ++ expL (y + ((dg z.toNat).length : Int) - 1) := by unfold szL; rw [if_neg cA, if_neg cB, if_neg cC]
        have hte : TailE tl := by rcases ht with h | ⟨h, _⟩; exact .inl h; exact h
        generalize hT : y + ((dg z.toNat).length : Int) - 1 = T at es
        obtain ⟨sgn, hsg, hsv, hel⟩ : ∃ sgn, (sgn = 43 ∨ sgn = 45) ∧ ((if sgn = 45 then -1 else 1) * (if T < 0 then -T else T) = T) ∧ expL T = sgn :: expA (if T < 0 then -T else T) := by
          by_cases hT0 : T < 0
          · refine ⟨45, .inr rfl, ?_, ?_⟩
            · rw [if_pos rfl, if_pos hT0]; (first | lia | omega)
            · unfold expL; rw [show (if T < 0 then 45 else 43) = 45 from if_pos hT0]
          · refine ⟨43, .inl rfl, ?_, ?_⟩
            · rw [if_neg (by decide), if_neg hT0]; (first | lia | omega)
            · unfold expL; rw [show (if T < 0 then 45 else 43) = 43 from if_neg hT0]
        have hTb : -100 < T ∧ T < 100 := by (first | lia | omega)
        generalize hM : (if T < 0 then -T else T) = M at hsv hel
        have hM0 : 0 ≤ M ∧ M < 100 := by rw [← hM]; split <;> (first | lia | omega)
        have hvE := expA_val (T := M) hM0.1
        have hlE := expA_len (S := M) (by (first | lia | omega))
        rw [hel] at es
        have hs1 := dg_split1 z.toNat
        have h0f : ∀ c ∈ [(dg z.toNat).getD 0 0], isFig c = true := fun c hc => hdF c (by rw [hs1]; exact List.mem_append.mpr (.inl hc))
        by_cases c1 : 1 < ((dg z.toNat).length : Int)
        · rw [if_pos c1] at es
          have hBf : ∀ c ∈ (dg z.toNat).drop 1, isFig c = true := fun c hc => hdF c (List.mem_of_mem_drop hc)
          have hlB : (((dg z.toNat).drop 1).length : Int) = figs z - 1 := by rw [List.length_drop]; (first | lia | omega)
          have hv := val_split _ _ _ hs1
          rw [hzn] at hv
          have hb := val_bound _ h0f
          have hex : expAt (32 :: 32 :: ([(dg z.toNat).getD 0 0] ++ (46 :: ((dg z.toNat).drop 1 ++ (69 :: sgn :: (expA M ++ tl)))))) (2 + ([(dg z.toNat).getD 0 0].length : Int) + 1 + (((dg z.toNat).drop 1).length : Int)) = ((if sgn = 45 then -1 else 1) * val (expA M), 2 + ([(dg z.toNat).getD 0 0].length : Int) + 1 + (((dg z.toNat).drop 1).length : Int) + 2 + ((expA M).length : Int)) := by
            have := exp_E (pre := [32, 32] ++ [(dg z.toNat).getD 0 0] ++ [46] ++ (dg z.toNat).drop 1) (R := tl) (i := 2 + ([(dg z.toNat).getD 0 0].length : Int) + 1 + (((dg z.toNat).drop 1).length : Int)) (by simp only [List.length_append, List.length_cons, List.length_nil]; (first | lia | omega)) hsg (expA_fig M) (expA_ne M) (taile_fig hte) (by (first | lia | omega))
            rw [← this]; congr 1; (try simp)
          rw [hvE, hsv] at hex
          have hnx : norm z (T - (((dg z.toNat).drop 1).length : Int)) = (z, y) := by
            rw [hlB, show T - (figs z - 1) = y by (first | lia | omega)]; exact hN
          have hab : (if z < 0 then -z else z) = z := ab_p (by (first | lia | omega))
          refine con_cast (con_01 (A := [(dg z.toNat).getD 0 0]) (Bd := (dg z.toNat).drop 1) (R := 69 :: sgn :: (expA M ++ tl)) h0f (by intro c hc; simp at hc; subst hc; rfl) hBf (by rw [hlB]; simp; (first | lia | omega)) (by (first | lia | omega)) (by have h9 : val [(dg z.toNat).getD 0 0] < 10 := hb.2; (first | lia | omega)) ?_ hex ?_ ?_ ?_) (by rw [es]; simp) ?_ ?_ ?_
          · rw [txt_len]; simp only [List.length_cons, List.length_append, List.length_nil] at *; (first | lia | omega)
          · rw [hv, hab]; (first | lia | omega)
          · rw [hv, hab, hlB]; (first | lia | omega)
          · rw [hv, hab, hlB]; (first | lia | omega)
          · rw [hv, hnx]
          · rw [hv, hnx]
          · rw [es]; simp only [List.length_append, List.length_cons, List.length_nil]; (first | lia | omega)
        · rw [if_neg c1] at es
          have hF1 : dg z.toNat = [(dg z.toNat).getD 0 0] := by
            have : (dg z.toNat).drop 1 = [] := List.drop_eq_nil_of_le (by (first | lia | omega))
            rw [this, List.append_nil] at hs1; exact hs1
          have hv : val [(dg z.toNat).getD 0 0] = z := by rw [← hF1]; exact hvF
          have hex : expAt (32 :: 32 :: ([(dg z.toNat).getD 0 0] ++ (69 :: sgn :: (expA M ++ tl)))) (2 + ([(dg z.toNat).getD 0 0].length : Int)) = ((if sgn = 45 then -1 else 1) * val (expA M), 2 + ([(dg z.toNat).getD 0 0].length : Int) + 2 + ((expA M).length : Int)) := by
            have := exp_E (pre := [32, 32] ++ [(dg z.toNat).getD 0 0]) (R := tl) (i := 2 + ([(dg z.toNat).getD 0 0].length : Int)) (by simp only [List.length_append, List.length_cons, List.length_nil]; (first | lia | omega)) hsg (expA_fig M) (expA_ne M) (taile_fig hte) (by (first | lia | omega))
            rw [← this]; congr 1
          rw [hvE, hsv] at hex
          have hnx : norm z (T - 0) = (z, y) := by
            rw [show T - 0 = y by (first | lia | omega)]; exact hN
          have hab : (if z < 0 then -z else z) = z := ab_p (by (first | lia | omega))
          refine con_cast (con_00 (A := [(dg z.toNat).getD 0 0]) (R := 69 :: sgn :: (expA M ++ tl)) h0f (by intro c hc; simp at hc; subst hc; rfl) (by simp) (by simp) ?_ hex ?_ ?_ ?_) (by rw [es]; simp) ?_ ?_ ?_
          · rw [txt_len]; simp only [List.length_cons, List.length_append, List.length_nil] at *; (first | lia | omega)
          · rw [hv, hab]; (first | lia | omega)
          · rw [hv, hab]; (first | lia | omega)
          · rw [hv, hab]; (first | lia | omega)
          · rw [hv, hnx]
          · rw [hv, hnx]
          · rw [es]; simp only [List.length_append, List.length_cons, List.length_nil]; (first | lia | omega)
theorem back_1 (hz : 0 < z) (hz10 : z % 10 ≠ 0) (hz6 : z < 1000000) (hy : -60 ≤ y) (hy2 : y ≤ 80) (hd6 : 6 ≤ d) (hd8 : d ≤ 8) (ht : TailOk tl ∨ (TailE tl ∧ isD z y d)) :
    Con w mean mg mb 6 150 [.str (txt (32 :: 32 :: 45 :: (szL z y d ++ tl))) u, .int d t3] news (RetP news (0 - z) y (3 + ((szL z y d).length : Int))) := by
  have hzn := toN (z := z) (by (first | lia | omega))
  have hf6 : figs z ≤ 6 := figs_le (k := 6) (by decide) (by (first | lia | omega))
  have hfp := figs_pos z
  have hfl := figs_dg z
  have hdF := dg_fig z.toNat
  have hvF : val (dg z.toNat) = z := by rw [val_dg]; exact hzn
  have hN : norm z y = (z, y) := norm_stop hz10
  have htl : tl.length ≤ 3 := by
    rcases ht with h | ⟨h | rfl, _⟩
    · rcases h with rfl | rfl | rfl | rfl | rfl | rfl | rfl <;> decide
    · rcases h with rfl | rfl | rfl | rfl | rfl | rfl | rfl <;> decide
    · decide
  by_cases cA : 0 ≤ y ∧ y + ((dg z.toNat).length : Int) - 1 < d
  · -- plain, whole
    have hD : ¬ isD z y d := by unfold isD; (first | lia | omega)
    have ht' : TailOk tl := by rcases ht with h | ⟨_, h⟩; exact h; exact absurd h hD
    have es : szL z y d = dg z.toNat ++ List.replicate y.toNat 48 := by unfold szL; rw [if_pos cA]
    have hv : val (dg z.toNat ++ List.replicate y.toNat 48) = z * 10 ^ y.toNat := by rw [val_append, hvF, val_zeros, List.length_replicate, Int.add_zero]
    have hp := pow10_pos y.toNat
    have hC : 0 < z * 10 ^ y.toNat := Int.mul_pos hz hp
    have hdg : dg (z * 10 ^ y.toNat).toNat = dg z.toNat ++ List.replicate y.toNat 48 := by rw [mulP (by (first | lia | omega)), dg_mul _ _ (by (first | lia | omega))]
    have hfg : figs (z * 10 ^ y.toNat) = figs z + y := by rw [figs_dg, hdg, List.length_append, List.length_replicate, hfl]; (first | lia | omega)
    have hAf : ∀ c ∈ dg z.toNat ++ List.replicate y.toNat 48, isFig c = true := fun c hc => (List.mem_append.mp hc).elim (hdF c) (zeros_fig _ c)
    have hlA : ((dg z.toNat ++ List.replicate y.toNat 48).length : Int) = figs z + y := by rw [List.length_append, List.length_replicate, hfl]; (first | lia | omega)
    have hex : expAt (32 :: 32 :: 45 :: ((dg z.toNat ++ List.replicate y.toNat 48) ++ tl)) (3 + ((dg z.toNat ++ List.replicate y.toNat 48).length : Int)) = (0, 3 + ((dg z.toNat ++ List.replicate y.toNat 48).length : Int)) :=
      exp_tail (pre := [32, 32, 45] ++ (dg z.toNat ++ List.replicate y.toNat 48)) ht' (by simp only [List.length_append, List.length_cons, List.length_nil]; (first | lia | omega))
    have hnn : norm (z * 10 ^ y.toNat) (0 - 0) = (z, y) := by rw [norm_mul _ _ _ (by (first | lia | omega)), show (0 : Int) - 0 + (y.toNat : Int) = y by (first | lia | omega)]; exact hN
    have hnx : norm (0 - z * 10 ^ y.toNat) (0 - 0) = ((0 - z), y) := norm_m hnn
    have hab : (if 0 - z * 10 ^ y.toNat < 0 then -(0 - z * 10 ^ y.toNat) else 0 - z * 10 ^ y.toNat) = z * 10 ^ y.toNat := ab_m (by (first | lia | omega))
    refine con_cast (con_10 (A := dg z.toNat ++ List.replicate y.toNat 48) (R := tl) hAf (tail_fig ht') (by have := dg_pos z.toNat; intro e; rw [e] at hlA; simp at hlA; (first | lia | omega)) (tail_dot ht') ?_ hex ?_ ?_ ?_) (by rw [es]) ?_ ?_ ?_
    · rw [txt_len]; simp only [List.length_cons, List.length_append] at *; (first | lia | omega)
    · rw [hv, hab, hfg]; (first | lia | omega)
    · rw [hv, hab, hfg]; (first | lia | omega)
    · rw [hv, hab, hfg]; (first | lia | omega)
    · rw [hv, hnx]
    · rw [hv, hnx]
    · rw [es]
  · by_cases cB : y < 0 ∧ 0 ≤ y + ((dg z.toNat).length : Int) - 1
    · -- a point within
      have hD : ¬ isD z y d := by unfold isD; (first | lia | omega)
      have ht' : TailOk tl := by rcases ht with h | ⟨_, h⟩; exact h; exact absurd h hD
      have es : szL z y d = (dg z.toNat).take (y + ((dg z.toNat).length : Int) - 1 + 1).toNat ++ [46] ++ (dg z.toNat).drop (y + ((dg z.toNat).length : Int) - 1 + 1).toNat := by unfold szL; rw [if_neg cA, if_pos cB]
      generalize hk : (y + ((dg z.toNat).length : Int) - 1 + 1).toNat = k at es
      have hs : dg z.toNat = (dg z.toNat).take k ++ (dg z.toNat).drop k := (List.take_append_drop k _).symm
      have hAf : ∀ c ∈ (dg z.toNat).take k, isFig c = true := fun c hc => hdF c (List.mem_of_mem_take hc)
      have hBf : ∀ c ∈ (dg z.toNat).drop k, isFig c = true := fun c hc => hdF c (List.mem_of_mem_drop hc)
      have hlB : (((dg z.toNat).drop k).length : Int) = 0 - y := by rw [List.length_drop]; (first | lia | omega)
      have hlA : (((dg z.toNat).take k).length : Int) = figs z + y := by rw [List.length_take]; (first | lia | omega)
      have hv := val_split _ _ _ hs
      rw [hzn] at hv
      have hb := val_bound _ hAf
      have hb2 : (10 : Int) ^ ((dg z.toNat).take k).length ≤ 10 ^ 6 := pow10_mono (by rw [List.length_take]; (first | lia | omega))
      have hex : expAt (32 :: 32 :: 45 :: ((dg z.toNat).take k ++ (46 :: ((dg z.toNat).drop k ++ tl)))) (3 + (((dg z.toNat).take k).length : Int) + 1 + (((dg z.toNat).drop k).length : Int)) = (0, 3 + (((dg z.toNat).take k).length : Int) + 1 + (((dg z.toNat).drop k).length : Int)) := by
        have := exp_tail (pre := [32, 32, 45] ++ (dg z.toNat).take k ++ [46] ++ (dg z.toNat).drop k) (i := 3 + (((dg z.toNat).take k).length : Int) + 1 + (((dg z.toNat).drop k).length : Int)) ht' (by simp only [List.length_append, List.length_cons, List.length_nil]; (first | lia | omega))
        rw [← this]; congr 1; simp only [List.append_assoc]; rfl
      have hnx : norm (0 - z) (0 - (((dg z.toNat).drop k).length : Int)) = ((0 - z), y) := by
        rw [hlB, show (0 : Int) - (0 - y) = y by (first | lia | omega)]; exact norm_m hN
      have hab : (if (0 - z) < 0 then -(0 - z) else (0 - z)) = z := ab_m (by (first | lia | omega))
      refine con_cast (con_11 (A := (dg z.toNat).take k) (Bd := (dg z.toNat).drop k) (R := tl) hAf (tail_fig ht') hBf (by rw [hlB]; (first | lia | omega)) (by (first | lia | omega)) (by (first | lia | omega)) ?_ hex ?_ ?_ ?_) (by rw [es]; simp only [List.append_assoc]; rfl) ?_ ?_ ?_
      · rw [txt_len]; simp only [List.length_cons, List.length_append] at *; (first | lia | omega)
      · rw [hv, hab]; (first | lia | omega)
      · rw [hv, hab, hlB]; (first | lia | omega)
      · rw [hv, hab, hlB]; (first | lia | omega)
      · rw [hv, hnx]
      · rw [hv, hnx]
      · rw [es]; simp only [List.length_append, List.length_cons, List.length_nil]; (first | lia | omega)
    · by_cases cC : y + ((dg z.toNat).length : Int) - 1 < 0 ∧ 0 - y ≤ d
      · -- a point ahead
        have hD : ¬ isD z y d := by unfold isD; (first | lia | omega)
        have ht' : TailOk tl := by rcases ht with h | ⟨_, h⟩; exact h; exact absurd h hD
        have es : szL z y d = [46] ++ List.replicate (0 - y - ((dg z.toNat).length : Int)).toNat 48 ++ dg z.toNat := by unfold szL; rw [if_neg cA, if_neg cB, if_pos cC]
        generalize hk : (0 - y - ((dg z.toNat).length : Int)).toNat = k at es
        have hBf : ∀ c ∈ List.replicate k 48 ++ dg z.toNat, isFig c = true := fun c hc => (List.mem_append.mp hc).elim (zeros_fig _ c) (hdF c)
        have hlB : ((List.replicate k 48 ++ dg z.toNat).length : Int) = 0 - y := by rw [List.length_append, List.length_replicate]; (first | lia | omega)
        have hv : val [] * 10 ^ (((List.replicate k 48 ++ dg z.toNat).length : Int)).toNat + val (List.replicate k 48 ++ dg z.toNat) = z := by
          rw [show val [] = 0 from rfl, Int.zero_mul, Int.zero_add, val_append, val_zeros, hvF, Int.zero_mul, Int.zero_add]
        have hex : expAt (32 :: 32 :: 45 :: ([] ++ (46 :: ((List.replicate k 48 ++ dg z.toNat) ++ tl)))) (3 + (([] : List Nat).length : Int) + 1 + ((List.replicate k 48 ++ dg z.toNat).length : Int)) = (0, 3 + (([] : List Nat).length : Int) + 1 + ((List.replicate k 48 ++ dg z.toNat).length : Int)) :=
          exp_tail (pre := [32, 32, 45] ++ [46] ++ (List.replicate k 48 ++ dg z.toNat)) ht' (by simp only [List.length_append, List.length_cons, List.length_nil]; (first | lia | omega))
        have hnx : norm (0 - z) (0 - ((List.replicate k 48 ++ dg z.toNat).length : Int)) = ((0 - z), y) := by
          rw [hlB, show (0 : Int) - (0 - y) = y by (first | lia | omega)]; exact norm_m hN
        have hab : (if (0 - z) < 0 then -(0 - z) else (0 - z)) = z := ab_m (by (first | lia | omega))
        refine con_cast (con_11 (A := []) (Bd := List.replicate k 48 ++ dg z.toNat) (R := tl) (fun _ h => nomatch h) (tail_fig ht') hBf (by rw [hlB]; simp; (first | lia | omega)) (by decide) (by decide) ?_ hex ?_ ?_ ?_) (by rw [es]; simp) ?_ ?_ ?_
        · rw [txt_len]; simp only [List.length_cons, List.length_append, List.length_nil] at *; (first | lia | omega)
        · rw [hv, hab]; (first | lia | omega)
        · rw [hv, hab, hlB]; (first | lia | omega)
        · rw [hv, hab, hlB]; (first | lia | omega)
        · rw [hv, hnx]
        · rw [hv, hnx]
        · rw [es]; simp only [List.length_append, List.length_cons, List.length_nil]; (first | lia | omega)
      · -- an exponent
        have es : szL z y d = [(dg z.toNat).getD 0 0] ++ (if 1 < ((dg z.toNat).length : Int) then [46] ++ (dg z.toNat).drop 1 else []) ++ [69] ++ expL (y + ((dg z.toNat).length : Int) - 1) := by unfold szL; rw [if_neg cA, if_neg cB, if_neg cC]
        have hte : TailE tl := by rcases ht with h | ⟨h, _⟩; exact .inl h; exact h
        generalize hT : y + ((dg z.toNat).length : Int) - 1 = T at es
        obtain ⟨sgn, hsg, hsv, hel⟩ : ∃ sgn, (sgn = 43 ∨ sgn = 45) ∧ ((if sgn = 45 then -1 else 1) * (if T < 0 then -T else T) = T) ∧ expL T = sgn :: expA (if T < 0 then -T else T) := by
          by_cases hT0 : T < 0
          · refine ⟨45, .inr rfl, ?_, ?_⟩
            · rw [if_pos rfl, if_pos hT0]; (first | lia | omega)
            · unfold expL; rw [show (if T < 0 then 45 else 43) = 45 from if_pos hT0]
          · refine ⟨43, .inl rfl, ?_, ?_⟩
            · rw [if_neg (by decide), if_neg hT0]; (first | lia | omega)
            · unfold expL; rw [show (if T < 0 then 45 else 43) = 43 from if_neg hT0]
        have hTb : -100 < T ∧ T < 100 := by (first | lia | omega)
        generalize hM : (if T < 0 then -T else T) = M at hsv hel
        have hM0 : 0 ≤ M ∧ M < 100 := by rw [← hM]; split <;> (first | lia | omega)
        have hvE := expA_val (T := M) hM0.1
        have hlE := expA_len (S := M) (by (first | lia | omega))
        rw [hel] at es
        have hs1 := dg_split1 z.toNat
        have h0f : ∀ c ∈ [(dg z.toNat).getD 0 0], isFig c = true := fun c hc => hdF c (by rw [hs1]; exact List.mem_append.mpr (.inl hc))
        by_cases c1 : 1 < ((dg z.toNat).length : Int)
        · rw [if_pos c1] at es
          have hBf : ∀ c ∈ (dg z.toNat).drop 1, isFig c = true := fun c hc => hdF c (List.mem_of_mem_drop hc)
          have hlB : (((dg z.toNat).drop 1).length : Int) = figs z - 1 := by rw [List.length_drop]; (first | lia | omega)
          have hv := val_split _ _ _ hs1
          rw [hzn] at hv
          have hb := val_bound _ h0f
          have hex : expAt (32 :: 32 :: 45 :: ([(dg z.toNat).getD 0 0] ++ (46 :: ((dg z.toNat).drop 1 ++ (69 :: sgn :: (expA M ++ tl)))))) (3 + ([(dg z.toNat).getD 0 0].length : Int) + 1 + (((dg z.toNat).drop 1).length : Int)) = ((if sgn = 45 then -1 else 1) * val (expA M), 3 + ([(dg z.toNat).getD 0 0].length : Int) + 1 + (((dg z.toNat).drop 1).length : Int) + 2 + ((expA M).length : Int)) := by
            have := exp_E (pre := [32, 32, 45] ++ [(dg z.toNat).getD 0 0] ++ [46] ++ (dg z.toNat).drop 1) (R := tl) (i := 3 + ([(dg z.toNat).getD 0 0].length : Int) + 1 + (((dg z.toNat).drop 1).length : Int)) (by simp only [List.length_append, List.length_cons, List.length_nil]; (first | lia | omega)) hsg (expA_fig M) (expA_ne M) (taile_fig hte) (by (first | lia | omega))
            rw [← this]; congr 1; (try simp)
          rw [hvE, hsv] at hex
          have hnx : norm (0 - z) (T - (((dg z.toNat).drop 1).length : Int)) = ((0 - z), y) := by
            rw [hlB, show T - (figs z - 1) = y by (first | lia | omega)]; exact norm_m hN
          have hab : (if (0 - z) < 0 then -(0 - z) else (0 - z)) = z := ab_m (by (first | lia | omega))
          refine con_cast (con_11 (A := [(dg z.toNat).getD 0 0]) (Bd := (dg z.toNat).drop 1) (R := 69 :: sgn :: (expA M ++ tl)) h0f (by intro c hc; simp at hc; subst hc; rfl) hBf (by rw [hlB]; simp; (first | lia | omega)) (by (first | lia | omega)) (by have h9 : val [(dg z.toNat).getD 0 0] < 10 := hb.2; (first | lia | omega)) ?_ hex ?_ ?_ ?_) (by rw [es]; simp) ?_ ?_ ?_
          · rw [txt_len]; simp only [List.length_cons, List.length_append, List.length_nil] at *; (first | lia | omega)
          · rw [hv, hab]; (first | lia | omega)
          · rw [hv, hab, hlB]; (first | lia | omega)
          · rw [hv, hab, hlB]; (first | lia | omega)
          · rw [hv, hnx]
          · rw [hv, hnx]
          · rw [es]; simp only [List.length_append, List.length_cons, List.length_nil]; (first | lia | omega)
        · rw [if_neg c1] at es
          have hF1 : dg z.toNat = [(dg z.toNat).getD 0 0] := by
            have : (dg z.toNat).drop 1 = [] := List.drop_eq_nil_of_le (by (first | lia | omega))
            rw [this, List.append_nil] at hs1; exact hs1
          have hv : val [(dg z.toNat).getD 0 0] = z := by rw [← hF1]; exact hvF
          have hex : expAt (32 :: 32 :: 45 :: ([(dg z.toNat).getD 0 0] ++ (69 :: sgn :: (expA M ++ tl)))) (3 + ([(dg z.toNat).getD 0 0].length : Int)) = ((if sgn = 45 then -1 else 1) * val (expA M), 3 + ([(dg z.toNat).getD 0 0].length : Int) + 2 + ((expA M).length : Int)) := by
            have := exp_E (pre := [32, 32, 45] ++ [(dg z.toNat).getD 0 0]) (R := tl) (i := 3 + ([(dg z.toNat).getD 0 0].length : Int)) (by simp only [List.length_append, List.length_cons, List.length_nil]; (first | lia | omega)) hsg (expA_fig M) (expA_ne M) (taile_fig hte) (by (first | lia | omega))
            rw [← this]; congr 1
          rw [hvE, hsv] at hex
          have hnx : norm (0 - z) (T - 0) = ((0 - z), y) := by
            rw [show T - 0 = y by (first | lia | omega)]; exact norm_m hN
          have hab : (if (0 - z) < 0 then -(0 - z) else (0 - z)) = z := ab_m (by (first | lia | omega))
          refine con_cast (con_10 (A := [(dg z.toNat).getD 0 0]) (R := 69 :: sgn :: (expA M ++ tl)) h0f (by intro c hc; simp at hc; subst hc; rfl) (by simp) (by simp) ?_ hex ?_ ?_ ?_) (by rw [es]; simp) ?_ ?_ ?_
          · rw [txt_len]; simp only [List.length_cons, List.length_append, List.length_nil] at *; (first | lia | omega)
          · rw [hv, hab]; (first | lia | omega)
          · rw [hv, hab]; (first | lia | omega)
          · rw [hv, hab]; (first | lia | omega)
          · rw [hv, hnx]
          · rw [hv, hnx]
          · rw [es]; simp only [List.length_append, List.length_cons, List.length_nil]; (first | lia | omega)
end
end Mine

namespace Mine
variable {w : World} {mean : ExcName → Option Value} {mg mb : Str → Option Value}
theorem Con.sub {lv : Nat} {f : Addr} {vs : List Value} {news news2 : List (Addr × Obj)} {Ret : Value → List (Addr × Obj) → Prop} (C : Con w mean mg mb lv f vs news Ret) (hs : ∀ p ∈ news, p ∈ news2) : Con w mean mg mb lv f vs news2 Ret := by
  unfold Con at *
  intro dp un gd cn cs a ccd cl outer A₀ base h₀ L m s Q E B F X N T hk hdp hun hret
  exact C dp un gd cn cs a ccd cl outer A₀ base h₀ L m s Q E B F X (news_sub N hs) T hk hdp hun hret
theorem ownoff_nil {adr : List Addr} : OwnOff [] adr := fun _ h => nomatch h
theorem ownoff_cons {D B1 : Addr} {o : Obj} {r : List (Addr × Obj)} (h : D ≠ B1) (t : OwnOff r [B1]) : OwnOff ((D, o) :: r) [B1] := fun p hp b hb => by
  rw [List.mem_singleton.mp hb]
  rcases List.mem_cons.mp hp with rfl | hp
  · exact h
  · exact t p hp B1 (.head _)
section
variable {prog : Program} {A : Around} {E : Value → Shared → Prop} {s : Shared} {env : Env} {h₀ : Heap} {x : Str} {body : List Stmt} {Q : Flow → Shared → Prop} {B1 : Addr} {m₀ : Str → Option Value}
def TurnEnd (h₀ : Heap) (L : Addr) (x : Str) (stored : List Str) (m₀ : Str → Option Value) (own : List (Addr × Obj)) (B1 : Addr) (k : Int) (s₁ s₂ : Shared) : Prop :=
  ∃ (h' : Heap) (tk : Nat) (m' : Str → Option Value) (news' : List (Addr × Obj)) (b0 : Int) (s0 : Tok) (b1 : Int) (s1 : Tok) (c : Nat), s₂ = { s₁ with heap := h', toks := tk } ∧ Fr h₀ L h' m' ∧ News h₀ L h' news' ∧ (B1, boxO b0 s0 b1 s1 c) ∈ news' ∧ (∀ p ∈ own, p ∈ news') ∧ 0 ≤ b0 ∧ 0 ≤ b1 ∧ b1 ≤ 30 + 20 * k ∧ (∀ z, z ≠ x → stored.contains z = false → m' z = m₀ z)
theorem law_for {r : Addr} {t₀ u₀ v₀ : Tok} {led : List (Addr × Obj)} {b0 b1 : Int} {s0 s1 : Tok} {c : Nat} (stored : List Str) (hh : A.handled = none) (hr : IsRange s.heap r 0 6 1 t₀ u₀ v₀) (F : Fr h₀ env.locals s.heap m₀) (N : News h₀ env.locals s.heap led) (hm : (B1, boxO b0 s0 b1 s1 c) ∈ led) (h0 : 0 ≤ b0) (h1 : 0 ≤ b1) (h2 : b1 ≤ 10)
    (turn : ∀ (b0 : Int) (s0 : Tok) (b1 : Int) (s1 : Tok) (c : Nat) (k : Int) (t : Tok) (u : Str → Option Value) (h : Heap) (tk : Nat) (own : List (Addr × Obj)), 0 ≤ k → k < 6 → OwnOff own [B1] → 0 ≤ b0 → 0 ≤ b1 → b1 ≤ 10 + 20 * k →
      Fr h₀ env.locals h (fun y => if y = x then some (.int k t) else if stored.contains y = true then u y else m₀ y) → News h₀ env.locals h ((B1, boxO b0 s0 b1 s1 c) :: own) →
      wpAny (model prog w) A (execs body env) (fun f s₂ => f = .next ∧ TurnEnd h₀ env.locals x stored m₀ own B1 k { s with heap := h, toks := tk } s₂) E { s with heap := h, toks := tk })
    (done : ∀ (b0 : Int) (s0 : Tok) (b1 : Int) (s1 : Tok) (c : Nat) (u : Str → Option Value) (h : Heap) (tk : Nat), Fr h₀ env.locals h (fun y => if y = x then u y else if stored.contains y = true then u y else m₀ y) → News h₀ env.locals h [(B1, boxO b0 s0 b1 s1 c)] → Q .next { s with heap := h, toks := tk }) :
    wpAny (model prog w) A (pyIter (.ref r)) (fun it s₂ => LoopAtV prog w A h₀ env x body Q E it s₂) E s := by
  refine kst_range (σ := Int × Tok × Int × Tok × Nat) (n := 6) (fun c => [(B1, boxO c.1 c.2.1 c.2.2.1 c.2.2.2.1 c.2.2.2.2)]) (fun _ => []) (fun _ => True) stored (fun pre c => 0 ≤ c.1 ∧ 0 ≤ c.2.2.1 ∧ c.2.2.1 ≤ 10 + 20 * (pre.length : Int)) (b0, s0, b1, s1, c) hh hr (by decide) (by decide) F
    (fun p hp => by rw [List.mem_singleton.mp hp]; exact N _ hm) trivial (fun p hp => nomatch hp) ⟨h0, h1, by simpa using h2⟩ ?_ ?_
  · rintro ⟨b0, s0, b1, s1, c⟩ pre k t u h tk own hk hlt hoff _ ⟨g0, g1, g2⟩ F' N'
    have hoff' : OwnOff own [B1] := hoff
    refine wpAny_mono (turn b0 s0 b1 s1 c k t u h tk own (by omega) (by omega) hoff' g0 g1 (by rw [hk]; simpa using g2) F' N') (fun f s₂ hq => ?_) fun _ _ e => e
    obtain ⟨rfl, h', tk', m', news', b0', s0', b1', s1', c', e, F2, N2, hm2, ho2, k0, k1, k2, hr2⟩ := hq
    subst e
    exact kst_end (b0', s0', b1', s1', c') F2 N2 (fun p hp => by rw [List.mem_singleton.mp hp]; exact hm2) ho2 rfl trivial (fun p hp => nomatch hp) (fun z hz _ hs => hr2 z hz hs) ⟨k0, k1, by rw [List.length_append, List.length_singleton]; push_cast; rw [hk] at k2; omega⟩
  · rintro ⟨b0, s0, b1, s1, c⟩ u h tk _ _ F' N'
    exact done b0 s0 b1 s1 c u h tk F' N'
theorem ne_tupS {D1 D2 : Addr} {x y x' y' : Int} {t1 t2 t3 t4 : Tok} {c c' : Nat} {Q : Value → Shared → Prop} (h1 : s.heap.get? D1 = some (tupO x t1 y t2 c)) (h2 : s.heap.get? D2 = some (tupO x' t3 y' t4 c')) (hu : A.units + 64 < cLine) (he : x = x' ∧ y = y') (h : Q (.bool false) s) : wpAny (model prog w) A (compareOp .NotEq (.ref D1) (.ref D2)) Q E s :=
  ne_tupI h1 h2 hu (by rw [decide_eq_true he]; exact h)
end
def TailIn (l : List Nat) : Prop := l = [] ∨ l = [32] ∨ l = [88] ∨ l = [69] ∨ l = [69, 43] ∨ l = [45, 49] ∨ l = [46, 53]
theorem tail_item {prog : Program} {A : Around} {E : Value → Shared → Prop} {s : Shared} {value slice : PySem.Expr} {l : Addr} {k : Int} {u t0 t1 t2 t3 t4 t5 t6 : Tok} {n : Nat} {Q : Value → Shared → Prop}
    (hl : s.heap.get? l = some (PySem.W.listOf #[.str (Str.ofString "") t0, .str (Str.ofString " ") t1, .str (Str.ofString "X") t2, .str (Str.ofString "E") t3, .str (Str.ofString "E+") t4, .str (Str.ofString "-1") t5, .str (Str.ofString ".5") t6] n))
    (h0 : 0 ≤ k) (h7 : k < 7) (hs : subscripted slice false (.ref l) (.int k u) = operate [.ref l, .int k u] (getItem (.ref l) (.int k u))) (h : ∀ (tl : List Nat) (t : Tok), TailIn tl → Q (.str (txt tl) t) s) :
    wpAny (model prog w) A (subscriptTail value slice (.ref l) (.int k u)) Q E s := by
  have hL : s.heap.IsList l [.str (Str.ofString "") t0, .str (Str.ofString " ") t1, .str (Str.ofString "X") t2, .str (Str.ofString "E") t3, .str (Str.ofString "E+") t4, .str (Str.ofString "-1") t5, .str (Str.ofString ".5") t6].toArray := ⟨_, hl, rfl, n, rfl⟩
  have hx : ∃ tl t, TailIn tl ∧ [.str (Str.ofString "") t0, .str (Str.ofString " ") t1, .str (Str.ofString "X") t2, .str (Str.ofString "E") t3, .str (Str.ofString "E+") t4, .str (Str.ofString "-1") t5, .str (Str.ofString ".5") t6][k.toNat]? = some (Value.str (txt tl) t) := by
    have : k = 0 ∨ k = 1 ∨ k = 2 ∨ k = 3 ∨ k = 4 ∨ k = 5 ∨ k = 6 := by omega
    rcases this with rfl | rfl | rfl | rfl | rfl | rfl | rfl
    · exact ⟨[], t0, .inl rfl, by rw [lit_txt (s := "") (l := []) rfl]; rfl⟩
    · exact ⟨[32], t1, .inr (.inl rfl), by rw [lit_txt (s := " ") (l := [32]) rfl]; rfl⟩
    · exact ⟨[88], t2, .inr (.inr (.inl rfl)), by rw [lit_txt (s := "X") (l := [88]) rfl]; rfl⟩
    · exact ⟨[69], t3, .inr (.inr (.inr (.inl rfl))), by rw [lit_txt (s := "E") (l := [69]) rfl]; rfl⟩
    · exact ⟨[69, 43], t4, .inr (.inr (.inr (.inr (.inl rfl)))), by rw [lit_txt (s := "E+") (l := [69, 43]) rfl]; rfl⟩
    · exact ⟨[45, 49], t5, .inr (.inr (.inr (.inr (.inr (.inl rfl))))), by rw [lit_txt (s := "-1") (l := [45, 49]) rfl]; rfl⟩
    · exact ⟨[46, 53], t6, .inr (.inr (.inr (.inr (.inr (.inr rfl))))), by rw [lit_txt (s := ".5") (l := [46, 53]) rfl]; rfl⟩
  obtain ⟨tl, t, ht, he⟩ := hx
  exact tail_any hL.typeIs slot_list_getitem.lookup (wpAny_getItem_list hL h0 (by omega) (by simpa using he) (h tl t ht)) hs
theorem init_1 : (norm ((-15 : Int).fdiv (10 ^ (0 - -1 : Int).toNat)) 0).1 = -2 ∧ (norm ((-15 : Int).fdiv (10 ^ (0 - -1 : Int).toNat)) 0).2 = 0 := by
  have e : (-15 : Int).fdiv (10 ^ (0 - -1 : Int).toNat) = -2 := by decide
  rw [e, norm_stop (by decide)]; exact ⟨rfl, rfl⟩
theorem init_2 : (dfix (-15) (-1)).1 = -1 ∧ (dfix (-15) (-1)).2 = 0 := by
  rw [dfix_lt (by decide), dfixA_neg (by decide)]
  have e : (if (-15 : Int) < 0 then - (-15 : Int) else -15).fdiv (10 ^ (0 - -1 : Int).toNat) = 1 := by decide
  rw [e, norm_stop (by decide)]; exact ⟨rfl, rfl⟩
theorem init_f {z : Int} (h : z < 10 ^ 6) (h2 : -(10 ^ 6) < z) : figs (if z < 0 then -z else z) ≤ 6 := figs_le (k := 6) (by decide) (by split <;> omega)
end Mine

namespace Mine
/-! the plain law of INT, FIX and rounding -/
@[irreducible] def mx (a b : Int) : Int := if a < b then b else a
theorem mx_is (a b : Int) : mx a b = if a < b then b else a := by unfold mx; rfl
theorem mx_nat (a : Int) : (mx 0 a).toNat = a.toNat := by rw [mx_is]; split <;> (first | lia | omega)
theorem mx_le {a k : Int} (h : a ≤ k) (h0 : 0 ≤ k) : mx 0 a ≤ k := by rw [mx_is]; split <;> (first | lia | omega)
theorem mx_nn (a : Int) : 0 ≤ mx 0 a := by rw [mx_is]; split <;> (first | lia | omega)
theorem drn_norm {x y : Int} (h : Drawn x y) : norm x y = (x, y) := by
  rcases h with ⟨rfl, rfl⟩ | ⟨_, h, _⟩
  · exact norm_zero 0
  · exact norm_stop h
theorem norm_up {x y : Int} (h : Drawn x y) (h0 : 0 ≤ y) : norm (x * 10 ^ y.toNat) 0 = (x, y) := by
  by_cases hx : x = 0
  · rcases h with ⟨rfl, rfl⟩ | ⟨h, _⟩
    · rw [Int.zero_mul, norm_zero]
    · exact absurd hx h
  · rw [norm_mul _ _ _ hx, show (0 : Int) + (y.toNat : Int) = y by (first | lia | omega)]; exact drn_norm h
theorem p10_0 {a : Int} (h : a ≤ 0) : (10 : Int) ^ a.toNat = 1 := by rw [show a.toNat = 0 by (first | lia | omega)]; rfl
theorem W_nn {x y : Int} (h : Drawn x y) (h0 : 0 ≤ y) : x = (norm ((x * 10 ^ (mx 0 y).toNat).fdiv (10 ^ (mx 0 (0 - y)).toNat)) 0).1 ∧ y = (norm ((x * 10 ^ (mx 0 y).toNat).fdiv (10 ^ (mx 0 (0 - y)).toNat)) 0).2 := by
  rw [mx_nat, mx_nat, p10_0 (a := 0 - y) (by (first | lia | omega)), Int.fdiv_one, norm_up h h0]; exact ⟨rfl, rfl⟩
theorem W_neg {x y : Int} (h0 : y < 0) : (norm (x.fdiv (10 ^ (0 - y).toNat)) 0).1 = (norm ((x * 10 ^ (mx 0 y).toNat).fdiv (10 ^ (mx 0 (0 - y)).toNat)) 0).1 ∧ (norm (x.fdiv (10 ^ (0 - y).toNat)) 0).2 = (norm ((x * 10 ^ (mx 0 y).toNat).fdiv (10 ^ (mx 0 (0 - y)).toNat)) 0).2 := by
  rw [mx_nat, mx_nat, p10_0 (a := y) (by (first | lia | omega)), Int.mul_one]; exact ⟨rfl, rfl⟩
theorem ab_mul {x P : Int} (h : 0 < P) : ab (x * P) = ab x * P := by
  rw [ab_is, ab_is]
  by_cases hx : x < 0
  · rw [if_pos hx, if_pos (Int.mul_neg_of_neg_of_pos hx h), Int.neg_mul]
  · rw [if_neg hx, if_neg (Int.not_lt.mpr (Int.mul_nonneg (by (first | lia | omega)) (by (first | lia | omega))))]
theorem sgn_mul {x P : Int} (h : 0 < P) : 0 ≤ x * P ↔ 0 ≤ x := by
  constructor
  · intro hx
    by_cases h0 : x < 0
    · have := Int.mul_neg_of_neg_of_pos h0 h; (first | lia | omega)
    · (first | lia | omega)
  · intro hx; exact Int.mul_nonneg hx (by (first | lia | omega))
theorem F_all {x y N U s : Int} (h : Drawn x y) (hN : N = x * 10 ^ (mx 0 y).toNat) (hU : U = 10 ^ (mx 0 (0 - y)).toNat) (hs : s = if 0 ≤ N then 1 else -1) : dfix x y = norm ((ab N).fdiv U * s) 0 := by
  have hp := pow10_pos y.toNat
  rw [mx_nat] at hN hU
  have hsx : s = if 0 ≤ x then 1 else -1 := by rw [hs, hN]; by_cases h0 : 0 ≤ x
                                               · rw [if_pos h0, if_pos ((sgn_mul hp).mpr h0)]
                                               · rw [if_neg h0, if_neg (fun hh => h0 ((sgn_mul hp).mp hh))]
  by_cases hy : y < 0
  · rw [p10_0 (a := y) (by (first | lia | omega)), Int.mul_one] at hN
    rw [hN, hU, hsx]
    by_cases hx : x < 0
    · rw [dfix_lt hx, dfixA_neg hy, if_neg (by (first | lia | omega) : ¬ 0 ≤ x), Int.mul_neg, Int.mul_one, norm_neg, ab_is, Int.zero_sub]
    · rw [dfix_ge hx, dfixA_neg hy, if_pos (by (first | lia | omega) : 0 ≤ x), Int.mul_one, ab_is]
  · rw [p10_0 (a := 0 - y) (by (first | lia | omega))] at hU
    have hR : norm ((ab N).fdiv U * s) 0 = (x, y) := by
      rw [hU, Int.fdiv_one, hN, ab_mul hp, hsx]
      have : ab x * 10 ^ y.toNat * (if 0 ≤ x then 1 else -1) = x * 10 ^ y.toNat := by
        rw [ab_is]
        by_cases hx : x < 0
        · rw [if_pos hx, if_neg (by (first | lia | omega)), Int.mul_neg, Int.mul_one, Int.neg_mul, Int.neg_neg]
        · rw [if_neg hx, if_pos (by (first | lia | omega)), Int.mul_one]
      rw [this]; exact norm_up h (by (first | lia | omega))
    rw [hR]
    by_cases hx : x < 0
    · rw [dfix_lt hx, dfixA_nn (by (first | lia | omega)), if_pos hx]
      show (0 - -x, y) = (x, y)
      rw [show 0 - -x = x by (first | lia | omega)]
    · rw [dfix_ge hx, dfixA_nn (by (first | lia | omega)), if_neg hx]
theorem rndi_exact {K U : Int} (hU : 0 < U) : rndi (K * U) U = K := by
  have e : (K * U).fdiv U = K := Int.mul_fdiv_cancel _ (by (first | lia | omega))
  unfold rndi
  rw [e, if_neg (by (first | lia | omega))]
theorem rndi_scale {n u G : Int} (hu : 0 < u) (hG : 0 < G) : rndi (n * G) (u * G) = rndi n u := by
  have huG := Int.mul_pos hu hG
  have e : (n * G).fdiv (u * G) = n.fdiv u := by
    rw [Int.fdiv_eq_ediv_of_nonneg _ (by (first | lia | omega)), Int.fdiv_eq_ediv_of_nonneg _ (by (first | lia | omega)), Int.mul_ediv_mul_of_pos_left _ _ hG]
  unfold rndi
  rw [e]
  have e2 : n * G - n.fdiv u * (u * G) = (n - n.fdiv u * u) * G := by rw [Int.sub_mul, Int.mul_assoc]
  rw [e2]
  generalize n - n.fdiv u * u = r
  have c1 : u * G < 2 * (r * G) ↔ u < 2 * r := by
    rw [← Int.mul_assoc]
    exact ⟨fun h => Int.lt_of_mul_lt_mul_right h (by (first | lia | omega)), fun h => Int.mul_lt_mul_of_pos_right h hG⟩
  have c2 : 2 * (r * G) = u * G ↔ 2 * r = u := by
    rw [← Int.mul_assoc]
    exact ⟨fun h => Int.eq_of_mul_eq_mul_right (by (first | lia | omega)) h, fun h => by rw [h]⟩
  simp only [c1, c2]
theorem rndi_rndm {n u : Int} : rndi n u = rndm n u := by
  have e : n.fmod u = n - n.fdiv u * u := by rw [Int.fmod_def, Int.mul_comm]
  unfold rndi rndm
  rw [e]
theorem rnd_small {S u : Int} (h0 : 0 ≤ S) (h : 2 * S < u) : rndm S u = 0 := by
  have e : S.fdiv u = 0 := by rw [Int.fdiv_eq_ediv_of_nonneg _ (by (first | lia | omega))]; exact Int.ediv_eq_zero_of_lt h0 (by (first | lia | omega))
  unfold rndm
  rw [Int.fmod_def, e, if_neg (by simp; (first | lia | omega))]
theorem figs_lt {S : Int} (h : 0 ≤ S) : S < 10 ^ (figs S).toNat := by
  have := (dg_bound S.toNat).1
  unfold figs
  rw [Int.toNat_natCast]
  have e : ((10 : Int) ^ (dg S.toNat).length) = ((10 ^ (dg S.toNat).length : Nat) : Int) := by push_cast; rfl
  rw [e]; (first | lia | omega)
theorem rnd_cut {S q : Int} (h : 0 ≤ S) (hq : 0 < q) : rndm S (10 ^ (if figs S + 1 < q then figs S + 1 else q).toNat) = rndm S (10 ^ q.toNat) := by
  by_cases hc : figs S + 1 < q
  · have hf := figs_pos S
    have h1 := figs_lt h
    have h2 : (10 : Int) ^ (figs S + 1).toNat = 10 ^ (figs S).toNat * 10 := by rw [show (figs S + 1).toNat = (figs S).toNat + 1 by (first | lia | omega), Int.pow_succ]
    have h3 : (10 : Int) ^ (figs S + 1).toNat ≤ 10 ^ q.toNat := pow10_mono (by (first | lia | omega))
    rw [if_pos hc, rnd_small h (by (first | lia | omega)), rnd_small h (by (first | lia | omega))]
  · rw [if_neg hc]
theorem R_val {x y p : Int} : x * 10 ^ (mx 0 y).toNat * 10 ^ (mx 0 p).toNat = x * 10 ^ (y.toNat + p.toNat) ∧ (10 : Int) ^ (mx 0 (0 - y)).toNat * 10 ^ (mx 0 (0 - p)).toNat = 10 ^ ((0 - y).toNat + (0 - p).toNat) := by
  rw [mx_nat, mx_nat, mx_nat, mx_nat, Int.mul_assoc, ← Int.pow_add, ← Int.pow_add]; exact ⟨rfl, rfl⟩
theorem R_sgn {x P Z : Int} (h : 0 < P) : (if 0 ≤ x * P then Z else 0 - Z) = if 0 ≤ x then Z else 0 - Z := by
  by_cases h0 : 0 ≤ x
  · rw [if_pos h0, if_pos ((sgn_mul h).mpr h0)]
  · rw [if_neg h0, if_neg (fun hh => h0 ((sgn_mul h).mp hh))]
theorem R_1 {x y p H U : Int} (h : Drawn x y) (hq : 0 - p - y ≤ 0 ∨ x = 0) (hH : H = x * 10 ^ (mx 0 y).toNat * 10 ^ (mx 0 p).toNat) (hU : U = 10 ^ (mx 0 (0 - y)).toNat * 10 ^ (mx 0 (0 - p)).toNat) :
    norm (if 0 ≤ H then rndi (ab H) U else 0 - rndi (ab H) U) (0 - p) = (x, y) := by
  obtain ⟨e1, e2⟩ := R_val (x := x) (y := y) (p := p)
  rw [e1] at hH
  rw [e2] at hU
  have hp := pow10_pos (y.toNat + p.toNat)
  have hu := pow10_pos ((0 - y).toNat + (0 - p).toNat)
  by_cases hx : x = 0
  · rcases h with ⟨rfl, rfl⟩ | ⟨h, _⟩
    · rw [Int.zero_mul] at hH
      have : rndi (ab H) U = 0 := by
        have e : ab H = 0 * U := by rw [hH, ab_is, if_neg (by (first | lia | omega)), Int.zero_mul]
        rw [e, hU]; exact rndi_exact hu
      rw [this, show (if 0 ≤ H then (0 : Int) else 0 - 0) = 0 by split <;> rfl, norm_zero]
    · exact absurd hx h
  · have hq : 0 - p - y ≤ 0 := by rcases hq with h | h; exact h; exact absurd h hx
    have e3 : y.toNat + p.toNat = (p + y).toNat + ((0 - y).toNat + (0 - p).toNat) := by (first | lia | omega)
    have e4 : rndi (ab H) U = ab x * 10 ^ (p + y).toNat := by
      rw [hH, ab_mul hp, e3, Int.pow_add, ← Int.mul_assoc, hU]; exact rndi_exact hu
    have hk := pow10_pos (p + y).toNat
    rw [hH, R_sgn hp, ← hH, e4]
    have e5 : (if 0 ≤ x then ab x * 10 ^ (p + y).toNat else 0 - ab x * 10 ^ (p + y).toNat) = x * 10 ^ (p + y).toNat := by
      rw [ab_is]
      by_cases h0 : 0 ≤ x
      · rw [if_pos h0, if_neg (by (first | lia | omega))]
      · rw [if_neg h0, if_pos (by (first | lia | omega)), Int.neg_mul]; (first | lia | omega)
    rw [e5, norm_mul _ _ _ hx, show 0 - p + ((p + y).toNat : Int) = y by (first | lia | omega)]
    exact drn_norm h
theorem R_2 {x y p H U : Int} (hq : ¬ 0 - p - y ≤ 0) (hx : x ≠ 0) (hH : H = x * 10 ^ (mx 0 y).toNat * 10 ^ (mx 0 p).toNat) (hU : U = 10 ^ (mx 0 (0 - y)).toNat * 10 ^ (mx 0 (0 - p)).toNat) :
    rndA x (if x < 0 then -x else x) (10 ^ (if figs (if x < 0 then -x else x) + 1 < 0 - p - y then figs (if x < 0 then -x else x) + 1 else 0 - p - y).toNat) (y + (0 - p - y)) = norm (if 0 ≤ H then rndi (ab H) U else 0 - rndi (ab H) U) (0 - p) := by
  obtain ⟨e1, e2⟩ := R_val (x := x) (y := y) (p := p)
  rw [e1] at hH
  rw [e2] at hU
  have hp := pow10_pos (y.toNat + p.toNat)
  have hS := ab_nn x
  have e3 : (0 - y).toNat + (0 - p).toNat = (0 - p - y).toNat + (y.toNat + p.toNat) := by (first | lia | omega)
  have e4 : rndi (ab H) U = rndm (ab x) (10 ^ (0 - p - y).toNat) := by
    have hU' : U = 10 ^ (0 - p - y).toNat * 10 ^ (y.toNat + p.toNat) := by rw [hU, e3, ← Int.pow_add]
    rw [hH, ab_mul hp, hU', rndi_scale (pow10_pos _) hp, rndi_rndm]
  unfold rndA
  rw [show y + (0 - p - y) = 0 - p by (first | lia | omega), hH, R_sgn hp, ← hH, e4, ← ab_is, rnd_cut hS (by (first | lia | omega))]
  congr 1
  by_cases h0 : 0 ≤ x
  · rw [if_pos h0, if_pos (by (first | lia | omega))]
  · rw [if_neg h0, if_neg (by (first | lia | omega))]
end Mine

namespace Mine
variable {w : World} {mean : ExcName → Option Value} {mg mb : Str → Option Value}
theorem none_1 (d : Int) (u t3 : Tok) (news : List (Addr × Obj)) : Con w mean mg mb 6 150 [.str (Str.ofString " .X") u, .int d t3] news (RetV news .none) := by
  have e1 : lead [32, 46, 88] = 1 := by decide
  have e2 : runL [32, 46, 88] (1 : Int).toNat = [] := by decide
  have e3 : runL [32, 46, 88] ((1 : Int) + 0 + 1).toNat = [] := by decide
  have h := none_P (w := w) (mean := mean) (mg := mg) (mb := mb) [32, 46, 88] d u t3 news (by decide) (by decide) (by rw [e1]; decide) (by rw [e1]; decide) (by rw [e1, e2]; decide) (by decide) (by rw [e1, e2]; decide) (by rw [e1, e2]; decide) (by rw [e1, e2]; decide) (by rw [e1, e2]; decide) (by rw [e1, e2]; decide) (by rw [e1, e2]; rfl) (by rw [e1, e2]; decide)
  rw [lit_txt (s := " .X") (l := [32, 46, 88]) rfl]; exact h
theorem none_2 (d : Int) (u t3 : Tok) (news : List (Addr × Obj)) : Con w mean mg mb 6 150 [.str (Str.ofString "+") u, .int d t3] news (RetV news .none) := by
  have e1 : lead [43] = 0 := by decide
  have e2 : runL [43] ((0 : Int) + 1).toNat = [] := by decide
  have h := none_S (w := w) (mean := mean) (mg := mg) (mb := mb) [43] d u t3 news (by decide) (by decide) (by rw [e1]; decide) (by rw [e1]; decide) (by rw [e1, e2]; decide) (by decide) (by rw [e1, e2]; decide) (by rw [e1, e2]; rfl)
  rw [lit_txt (s := "+") (l := [43]) rfl]; exact h
theorem back_Z (d : Int) (u t3 : Tok) (tl : List Nat) (news : List (Addr × Obj)) (hd : 6 ≤ d) (ht : TailOk tl) : Con w mean mg mb 6 150 [.str (txt (32 :: 32 :: ([48] ++ tl))) u, .int d t3] news (RetP news 0 0 3) := by
  have hex : expAt (32 :: 32 :: ([48] ++ tl)) (2 + (([48] : List Nat).length : Int)) = (0, 3) := exp_tail (pre := [32, 32, 48]) ht rfl
  have htl : tl.length ≤ 3 := by rcases ht with rfl | rfl | rfl | rfl | rfl | rfl | rfl <;> decide
  have hf : figs (if val [48] < 0 then -(val [48]) else (val [48])) = 1 := by
    rw [show (if val [48] < 0 then -(val [48]) else val [48]) = 0 from by decide]
    unfold figs
    rw [show (0 : Int).toNat = 0 from rfl, dg_lt (by decide)]
    rfl
  refine con_cast (con_00 (A := [48]) (R := tl) (by decide) (tail_fig ht) (by decide) (tail_dot ht) ?_ hex ?_ ?_ ?_) rfl ?_ ?_ ?_
  · rw [txt_len]; simp only [List.length_cons, List.length_append, List.length_nil]; omega
  · rw [hf]; omega
  · rw [hf]; omega
  · rw [hf]; omega
  · show (norm 0 0).1 = 0; rw [norm_zero]
  · show (norm 0 0).2 = 0; rw [norm_zero]
  · rfl
end Mine

namespace Mine
/-! the plain law of the text: what signs stand in it, what strip leaves of it -/
def SgC (c : Nat) : Prop := (48 ≤ c ∧ c ≤ 57) ∨ c = 46 ∨ c = 43 ∨ c = 45
theorem fig_Sg {c : Nat} (h : isFig c = true) : SgC c := by
  unfold isFig at h
  simp only [Bool.and_eq_true, decide_eq_true_eq] at h
  exact .inl ⟨by (first | lia | omega), by (first | lia | omega)⟩
theorem expL_Sg (e : Int) : ∀ c ∈ expL e, SgC c := by
  intro c hc
  unfold expL at hc
  rcases List.mem_cons.mp hc with h | h
  · rw [h]; split
    · exact .inr (.inr (.inr rfl))
    · exact .inr (.inr (.inl rfl))
  · exact fig_Sg (expA_fig _ c h)
theorem dot_Sg : SgC 46 := .inr (.inl rfl)
theorem getD_Sg (n : Nat) : SgC ((dg n).getD 0 0) := fig_Sg (dg_fig n _ (by rw [dg_split1 n]; exact List.mem_append.mpr (.inl (List.mem_cons_self ..))))
theorem szL_signs {z e d : Int} : ∀ c ∈ szL z e d, SgC c ∨ (c = 69 ∧ isD z e d) := by
  have hF := dg_fig z.toNat
  have hl := figs_dg z
  have hp := figs_pos z
  intro c hc
  unfold szL at hc
  split at hc
  · rcases List.mem_append.mp hc with h | h
    · exact .inl (fig_Sg (hF c h))
    · exact .inl (fig_Sg (zeros_fig _ c h))
  · split at hc
    · rcases List.mem_append.mp hc with h | h
      · rcases List.mem_append.mp h with h | h
        · exact .inl (fig_Sg (hF c (List.mem_of_mem_take h)))
        · rw [List.mem_singleton.mp h]; exact .inl dot_Sg
      · exact .inl (fig_Sg (hF c (List.mem_of_mem_drop h)))
    · split at hc
      · rcases List.mem_append.mp hc with h | h
        · rcases List.mem_append.mp h with h | h
          · rw [List.mem_singleton.mp h]; exact .inl dot_Sg
          · exact .inl (fig_Sg (zeros_fig _ c h))
        · exact .inl (fig_Sg (hF c h))
      · rename_i h1 h2 h3
        have hD : isD z e d := by unfold isD; (first | lia | omega)
        rcases List.mem_append.mp hc with h | h
        · rcases List.mem_append.mp h with h | h
          · rcases List.mem_append.mp h with h | h
            · rw [List.mem_singleton.mp h]; exact .inl (getD_Sg _)
            · split at h
              · rcases List.mem_append.mp h with h | h
                · rw [List.mem_singleton.mp h]; exact .inl dot_Sg
                · exact .inl (fig_Sg (hF c (List.mem_of_mem_drop h)))
              · nomatch h
          · exact .inr ⟨List.mem_singleton.mp h, hD⟩
        · exact .inl (expL_Sg _ c h)
theorem szL_E {z e d : Int} (h : 69 ∈ szL z e d) : isD z e d := by
  rcases szL_signs 69 h with h | h
  · unfold SgC at h; (first | lia | omega)
  · exact h.2
theorem szL_ok {z e d : Int} : ∀ c ∈ szL z e d, 33 ≤ c ∧ c < 127 := by
  intro c hc
  rcases szL_signs c hc with h | h
  · unfold SgC at h; (first | lia | omega)
  · (first | lia | omega)
theorem szL_ne {z e d : Int} : szL z e d ≠ [] := by
  have := dg_pos z.toNat
  intro h
  have hl := congrArg List.length h
  unfold szL at hl
  split at hl
  · simp only [List.length_append, List.length_nil, List.length_replicate] at hl; (first | lia | omega)
  · split at hl
    · simp at hl
    · split at hl
      · simp at hl
      · simp at hl
theorem strip_txt {p T : List Nat} (hp : p = [] ∨ p = [32]) (hT : ∀ c ∈ T, 33 ≤ c ∧ c < 127) (hne : T ≠ []) : Txt.strip (txt (p ++ T)) = txt T := by
  have hs : ∀ c ∈ T, Unicode.isSpace c = false := fun c hc => PySem.W.KXs.no_space c (hT c hc).2 (hT c hc).1
  have hlo : stripLo Unicode.isSpace true (txt (p ++ T)) = p.length := by
    show ((p ++ T).takeWhile Unicode.isSpace).length = p.length
    cases T with
    | nil => exact absurd rfl hne
    | cons c T =>
      have h1 := hs c (List.mem_cons_self ..)
      rcases hp with rfl | rfl
      · simp [List.takeWhile_cons, h1]
      · have h2 : Unicode.isSpace 32 = true := by decide +kernel
        simp [List.takeWhile_cons, h1, h2]
  have hhi : stripHi Unicode.isSpace true (txt (p ++ T)) p.length = (p ++ T).length := by
    show (p ++ T).length - (((p ++ T).drop p.length).reverse.takeWhile Unicode.isSpace).length = _
    rw [List.drop_left]
    cases hr : T.reverse with
    | nil => simp
    | cons c R =>
      have hm : c ∈ T := List.mem_reverse.mp (by rw [hr]; exact List.mem_cons_self ..)
      simp [List.takeWhile_cons, hs c hm]
  unfold Txt.strip
  rw [PyProof.Rows.stripBy_eq, hlo, hhi]
  show Str.mk ((p ++ T).toArray.extract p.length (p ++ T).length) = Str.mk T.toArray
  congr 1
  apply Array.ext'
  simp
theorem dt_p {x y d : Int} (h : x ≠ 0) (h0 : ¬ x < 0) : dtL x y d = [32] ++ szL x y d := by rw [dt_cons h, if_neg h0, if_neg h0]; rfl
theorem dt_m {x y d : Int} (h0 : x < 0) : dtL x y d = [] ++ (45 :: szL (-x) y d) := by rw [dt_cons (by (first | lia | omega)), if_pos h0, if_pos h0]; rfl
theorem dt_z {y d : Int} : dtL 0 y d = [32] ++ [48] := by unfold dtL; rw [if_pos rfl]; rfl
theorem str_cat {T tl : List Nat} : Str.ofString "  " ++ txt T ++ txt tl = txt (32 :: 32 :: (T ++ tl)) := by
  rw [lit_txt (s := "  ") (l := [32, 32]) rfl, txt_append, txt_append]; rfl
/-- a decimal that the law shows as a text -/
def WideD (x y : Int) : Prop := (x = 0 ∧ y = 0) ∨ (x ≠ 0 ∧ x % 10 ≠ 0 ∧ -1000000 < x ∧ x < 1000000 ∧ -36 ≤ y ∧ y ≤ 72)
theorem wide_of {x y y' k : Int} (h : Drawn x y) (hy : y' = y ∨ (k = 5 ∧ y' = y * 6)) : WideD x y' := by
  rcases h with ⟨rfl, rfl⟩ | ⟨a, b, c, e, f, _, g⟩
  · refine .inl ⟨rfl, ?_⟩; rcases hy with h | h <;> (first | lia | omega)
  · refine .inr ⟨a, b, c, e, ?_, ?_⟩ <;> rcases hy with h | h <;> (first | lia | omega)
theorem dt_len {x y d : Int} (h : WideD x y) : (txt (dtL x y d)).length < 2000 := by
  rcases h with ⟨rfl, rfl⟩ | ⟨a, b, c, e, f, g⟩
  · rw [dt_z]; decide
  · have := szL_len (z := if x < 0 then -x else x) (e := y) (d := d) (by split <;> (first | lia | omega)) (by (first | lia | omega)) (by (first | lia | omega))
    rw [txt_len] at this
    rw [txt_len, dt_cons a, List.length_cons]; (first | lia | omega)
section
variable {w : World} {mean : ExcName → Option Value} {mg mb : Str → Option Value} {x y d : Int} {D : Addr} {t1 t2 u t3 : Tok} {k : Nat} {news : List (Addr × Obj)} {tl : List Nat}
theorem back_t (h : WideD x y) (hd6 : 6 ≤ d) (hd8 : d ≤ 8) (ht : TailOk tl ∨ (tl = [46, 53] ∧ 69 ∈ dtL x y d)) :
    Con w mean mg mb 6 150 [.str (Str.ofString "  " ++ Txt.strip (txt (dtL x y d)) ++ txt tl) u, .int d t3] news (RetP news x y (2 + ((Txt.strip (txt (dtL x y d))).length : Int))) := by
  rcases h with ⟨rfl, rfl⟩ | ⟨a, b, c, e, f, g⟩
  · have ht' : TailOk tl := by
      rcases ht with h | ⟨_, h⟩
      · exact h
      · rw [dt_z] at h; simp at h
    rw [dt_z, strip_txt (.inr rfl) (by intro c hc; rw [List.mem_singleton.mp hc]; decide) (by decide), str_cat]
    exact back_Z d u t3 tl news hd6 ht'
  · by_cases h0 : x < 0
    · have hs := strip_txt (p := []) (T := 45 :: szL (-x) y d) (.inl rfl) (by intro c hc; rcases List.mem_cons.mp hc with rfl | hc; decide; exact szL_ok c hc) (by simp)
      have htl : TailOk tl ∨ (TailE tl ∧ isD (-x) y d) := by
        rcases ht with h | ⟨h, h2⟩
        · exact .inl h
        · rw [dt_m h0, List.nil_append] at h2
          rcases List.mem_cons.mp h2 with h2 | h2
          · (first | lia | omega)
          · exact .inr ⟨.inr h, szL_E h2⟩
      rw [dt_m h0, hs, str_cat]
      refine con_cast (back_1 (z := -x) (y := y) (d := d) (u := u) (t3 := t3) (news := news) (tl := tl) (by (first | lia | omega)) (by (first | lia | omega)) (by (first | lia | omega)) (by (first | lia | omega)) (by (first | lia | omega)) hd6 hd8 htl) (by simp) (by (first | lia | omega)) rfl ?_
      rw [txt_len, List.length_cons]; (first | lia | omega)
    · have hs := strip_txt (p := [32]) (T := szL x y d) (.inr rfl) szL_ok szL_ne
      have htl : TailOk tl ∨ (TailE tl ∧ isD x y d) := by
        rcases ht with h | ⟨h, h2⟩
        · exact .inl h
        · rw [dt_p a h0] at h2
          rcases List.mem_append.mp h2 with h2 | h2
          · have := List.mem_singleton.mp h2; (first | lia | omega)
          · exact .inr ⟨.inr h, szL_E h2⟩
      rw [dt_p a h0, hs, str_cat]
      refine con_cast (back_0 (z := x) (y := y) (d := d) (u := u) (t3 := t3) (news := news) (tl := tl) (by (first | lia | omega)) (by (first | lia | omega)) (by (first | lia | omega)) (by (first | lia | omega)) (by (first | lia | omega)) hd6 hd8 htl) rfl rfl rfl ?_
      rw [txt_len]
theorem shape_t (hm : (D, tupO x t1 y t2 k) ∈ news) (h : WideD x y) (hd6 : 6 ≤ d) (hd8 : d ≤ 8) : Con w mean mg mb 20 185 [.ref D, .str (txt (dtL x y d)) u, .int d t3] news (RetB news true) := by
  have hl := dt_len (d := d) h
  rcases h with ⟨rfl, rfl⟩ | ⟨a, b, c, e, f, g⟩
  · have := shape_Z (w := w) (mean := mean) (mg := mg) (mb := mb) D t1 t2 k u d t3 news hm
    rw [dt_z]; exact this
  · have hlen : ((txt (dg (ab x).toNat)).length : Int) ≤ 6 := by
      have := figs_le (x := ab x) (k := 6) (by decide) (ab_lt (by (first | lia | omega)) (by (first | lia | omega)))
      rw [txt_len]; exact this
    by_cases hy : 0 ≤ y
    · by_cases ht : y + ((txt (dg (ab x).toNat)).length : Int) - 1 < d
      · exact shape_A x y D t1 t2 k u d t3 news hm (by (first | lia | omega)) (by (first | lia | omega)) (by (first | lia | omega)) (by (first | lia | omega)) a (by (first | lia | omega)) (by (first | lia | omega)) hl hy ht
      · exact shape_D1 x y D t1 t2 k u d t3 news hm (by (first | lia | omega)) (by (first | lia | omega)) (by (first | lia | omega)) (by (first | lia | omega)) a (by (first | lia | omega)) (by (first | lia | omega)) hl hy (by (first | lia | omega))
    · by_cases ht : 0 ≤ y + ((txt (dg (ab x).toNat)).length : Int) - 1
      · exact shape_B x y D t1 t2 k u d t3 news hm (by (first | lia | omega)) (by (first | lia | omega)) (by (first | lia | omega)) (by (first | lia | omega)) a (by (first | lia | omega)) (by (first | lia | omega)) hl (by (first | lia | omega)) ht (by (first | lia | omega))
      · by_cases hc : 0 - y ≤ d
        · exact shape_C x y D t1 t2 k u d t3 news hm (by (first | lia | omega)) (by (first | lia | omega)) (by (first | lia | omega)) (by (first | lia | omega)) a (by (first | lia | omega)) (by (first | lia | omega)) hl (by (first | lia | omega)) hc
        · exact shape_D2 x y D t1 t2 k u d t3 news hm (by (first | lia | omega)) (by (first | lia | omega)) (by (first | lia | omega)) (by (first | lia | omega)) a (by (first | lia | omega)) (by (first | lia | omega)) hl (by (first | lia | omega)) (by (first | lia | omega))
end
end Mine

namespace Mine
def bodyOf : Stmt → List Stmt
  | .FunctionDef _ _ b _ _ _ _ _ _ _ => b
  | .For _ _ b _ _ => b
  | .If _ b _ _ => b
  | _ => []
def scopeOf : Stmt → Scope
  | .FunctionDef _ _ _ _ _ _ s _ _ _ => s
  | _ => default
def lawD : Stmt := PySem.Challenge.rw_pq0171_01.prog.main.body.getLastD (.Pass ⟨0, 0, 0, 0⟩)
end Mine
namespace Mine
def turnB : List Stmt := bodyOf ((bodyOf lawD).getD 3 (.Pass ⟨0, 0, 0, 0⟩))
def turnS (k : Nat) : Stmt := turnB.getD k (.Pass ⟨0, 0, 0, 0⟩)
def ifS (k : Nat) : Stmt := (bodyOf (turnS 6)).getD k (.Pass ⟨0, 0, 0, 0⟩)
def lawS : Scope := scopeOf lawD
/-- what a statement of the law's turn does to the frame and the ledger -/
def St (w : World) (mean : ExcName → Option Value) (mg mb : Str → Option Value) (st : Stmt) (m : Str → Option Value) (news : List (Addr × Obj)) (Post : (Str → Option Value) → List (Addr × Obj) → Prop) : Prop :=
  ∀ (dp un : Nat) (gd : Option (List Code)) (a : Addr) (ccd : Value) (outer : List Env) (A₀ : Around) (base h₀ : Heap) (L : Addr) (s : Shared) (Q : Flow → Shared → Prop) (E : Value → Shared → Prop),
    Below A₀ base outer h₀ → Fr h₀ L s.heap m → (hd.heap_39 w.params).In h₀ → News h₀ L s.heap news → Top hd.view_39 (looseW hd.view_39 [Str.ofString "BasicError"]) mean mg mb h₀ →
    dp + 30 < recursionLimit → un + 300 < cLine →
    (∀ (m' : Str → Option Value) (news' : List (Addr × Obj)) (h' : Heap) (tk' : Nat), Post m' news' → Fr h₀ L h' m' → News h₀ L h' news' → Q .next { s with heap := h', toks := tk' }) →
    wpAny (model PySem.Challenge.rw_pq0171_01.row.prog w) (Around.deeper { handled := none, depth := dp, frames := some outer, guards := gd, units := un } (envOf (Str.ofString "law") lawS L a ccd)) (exec st (envOf (Str.ofString "law") lawS L a ccd)) Q E s
theorem fr_in1 {h₀ h : Heap} {L : Addr} {m : Str → Option Value} {x1 : Str} {v1 : Value} (F : Fr h₀ L h m) (e1 : m x1 = some v1) : Fr h₀ L h (fun y => if y = x1 then some v1 else m y) := by
  have e : m = fun y => if y = x1 then some v1 else m y := by
    funext y
    repeat' split
    all_goals first | rfl | (subst_vars; assumption)
  rw [e] at F; exact F
theorem fr_in2 {h₀ h : Heap} {L : Addr} {m : Str → Option Value} {x1 x2 : Str} {v1 v2 : Value} (F : Fr h₀ L h m) (e1 : m x1 = some v1) (e2 : m x2 = some v2) : Fr h₀ L h (fun y => if y = x1 then some v1 else if y = x2 then some v2 else m y) := by
  have e : m = fun y => if y = x1 then some v1 else if y = x2 then some v2 else m y := by
    funext y
    repeat' split
    all_goals first | rfl | (subst_vars; assumption)
  rw [e] at F; exact F
theorem fr_in3 {h₀ h : Heap} {L : Addr} {m : Str → Option Value} {x1 x2 x3 : Str} {v1 v2 v3 : Value} (F : Fr h₀ L h m) (e1 : m x1 = some v1) (e2 : m x2 = some v2) (e3 : m x3 = some v3) : Fr h₀ L h (fun y => if y = x1 then some v1 else if y = x2 then some v2 else if y = x3 then some v3 else m y) := by
  have e : m = fun y => if y = x1 then some v1 else if y = x2 then some v2 else if y = x3 then some v3 else m y := by
    funext y
    repeat' split
    all_goals first | rfl | (subst_vars; assumption)
  rw [e] at F; exact F
theorem fr_in4 {h₀ h : Heap} {L : Addr} {m : Str → Option Value} {x1 x2 x3 x4 : Str} {v1 v2 v3 v4 : Value} (F : Fr h₀ L h m) (e1 : m x1 = some v1) (e2 : m x2 = some v2) (e3 : m x3 = some v3) (e4 : m x4 = some v4) : Fr h₀ L h (fun y => if y = x1 then some v1 else if y = x2 then some v2 else if y = x3 then some v3 else if y = x4 then some v4 else m y) := by
  have e : m = fun y => if y = x1 then some v1 else if y = x2 then some v2 else if y = x3 then some v3 else if y = x4 then some v4 else m y := by
    funext y
    repeat' split
    all_goals first | rfl | (subst_vars; assumption)
  rw [e] at F; exact F
theorem fr_in5 {h₀ h : Heap} {L : Addr} {m : Str → Option Value} {x1 x2 x3 x4 x5 : Str} {v1 v2 v3 v4 v5 : Value} (F : Fr h₀ L h m) (e1 : m x1 = some v1) (e2 : m x2 = some v2) (e3 : m x3 = some v3) (e4 : m x4 = some v4) (e5 : m x5 = some v5) : Fr h₀ L h (fun y => if y = x1 then some v1 else if y = x2 then some v2 else if y = x3 then some v3 else if y = x4 then some v4 else if y = x5 then some v5 else m y) := by
  have e : m = fun y => if y = x1 then some v1 else if y = x2 then some v2 else if y = x3 then some v3 else if y = x4 then some v4 else if y = x5 then some v5 else m y := by
    funext y
    repeat' split
    all_goals first | rfl | (subst_vars; assumption)
  rw [e] at F; exact F
theorem fr_in6 {h₀ h : Heap} {L : Addr} {m : Str → Option Value} {x1 x2 x3 x4 x5 x6 : Str} {v1 v2 v3 v4 v5 v6 : Value} (F : Fr h₀ L h m) (e1 : m x1 = some v1) (e2 : m x2 = some v2) (e3 : m x3 = some v3) (e4 : m x4 = some v4) (e5 : m x5 = some v5) (e6 : m x6 = some v6) : Fr h₀ L h (fun y => if y = x1 then some v1 else if y = x2 then some v2 else if y = x3 then some v3 else if y = x4 then some v4 else if y = x5 then some v5 else if y = x6 then some v6 else m y) := by
  have e : m = fun y => if y = x1 then some v1 else if y = x2 then some v2 else if y = x3 then some v3 else if y = x4 then some v4 else if y = x5 then some v5 else if y = x6 then some v6 else m y := by
    funext y
    repeat' split
    all_goals first | rfl | (subst_vars; assumption)
  rw [e] at F; exact F
theorem st_end {h₀ h' : Heap} {L : Addr} {m' : Str → Option Value} {news' news2 : List (Addr × Obj)} {s : Shared} {Q : Flow → Shared → Prop} {tk' : Nat} {Post : (Str → Option Value) → List (Addr × Obj) → Prop}
    (hret : ∀ (m' : Str → Option Value) (news' : List (Addr × Obj)) (h' : Heap) (tk' : Nat), Post m' news' → Fr h₀ L h' m' → News h₀ L h' news' → Q .next { s with heap := h', toks := tk' })
    (F : Fr h₀ L h' m') (N : News h₀ L h' news2) (hs : ∀ p ∈ news', p ∈ news2) (P : Post m' news') : Q .next { s with heap := h', toks := tk' } := hret m' news' h' tk' P F (news_sub N hs)
section
variable {w : World} {mean : ExcName → Option Value} {mg mb : Str → Option Value}
theorem law_take_2 (b0 b1 many : Int) (B1 : Addr) (s0 s1 t1 : Tok) (c : Nat) (own : List (Addr × Obj)) (D : Addr) (o : Obj) (hne : D ≠ B1) (ho : OwnOff own [B1]) (h0 : 0 ≤ b0) (h1 : 0 ≤ b1) (h1b : b1 < 10000) (h2 : 0 < many) (h3 : many < 1073741824) :
    Con w mean mg mb 1 164 [.ref B1, .int many t1] ((D, o) :: (B1, boxO b0 s0 b1 s1 c) :: own) (RetK B1 b1 many ((D, o) :: own)) :=
  Con.sub (law_take_c b0 b1 many B1 s0 s1 t1 c ((D, o) :: own) (ownoff_cons hne ho) h0 h1 h1b h2 h3) (fun p hp => by simp only [List.mem_cons] at hp ⊢; rcases hp with h | h | h <;> simp [h])
theorem law_take_3 (b0 b1 many : Int) (B1 : Addr) (s0 s1 t1 : Tok) (c : Nat) (own : List (Addr × Obj)) (D : Addr) (o : Obj) (D2 : Addr) (o2 : Obj) (hne : D ≠ B1) (hne2 : D2 ≠ B1) (ho : OwnOff own [B1]) (h0 : 0 ≤ b0) (h1 : 0 ≤ b1) (h1b : b1 < 10000) (h2 : 0 < many) (h3 : many < 1073741824) :
    Con w mean mg mb 1 164 [.ref B1, .int many t1] ((D2, o2) :: (D, o) :: (B1, boxO b0 s0 b1 s1 c) :: own) (RetK B1 b1 many ((D2, o2) :: (D, o) :: own)) :=
  Con.sub (law_take_c b0 b1 many B1 s0 s1 t1 c ((D2, o2) :: (D, o) :: own) (ownoff_cons hne2 (ownoff_cons hne ho)) h0 h1 h1b h2 h3) (fun p hp => by simp only [List.mem_cons] at hp ⊢; rcases hp with h | h | h | h <;> simp [h])
end
def P0 (B1 : Addr) (b1 : Int) (own : List (Addr × Obj)) (m m' : Str → Option Value) (news' : List (Addr × Obj)) : Prop :=
  ∃ (x y : Int) (D : Addr) (t1 t2 : Tok) (c' : Nat) (tl : List Nat) (tt : Tok) (b0' : Int) (s0' : Tok) (b1' : Int) (s1' : Tok) (cb : Nat), m' (Str.ofString "a") = some (.ref D) ∧ m' (Str.ofString "tail") = some (.str (txt tl) tt) ∧ (∀ z, z ≠ Str.ofString "a" → z ≠ Str.ofString "tail" → m' z = m z) ∧
    news' = (B1, boxO b0' s0' b1' s1' cb) :: (D, tupO x t1 y t2 c') :: own ∧ D ≠ B1 ∧ Drawn x y ∧ TailIn tl ∧ 0 ≤ b0' ∧ 0 ≤ b1' ∧ b1' ≤ b1 + 5
section
variable {h₀ h' : Heap} {L : Addr} {m m' : Str → Option Value} {news2 own : List (Addr × Obj)} {s : Shared} {Q : Flow → Shared → Prop} {tk' : Nat} {B1 D : Addr} {b1 b0' b1' x y : Int} {t1 t2 tt s0' s1' : Tok} {c' cb : Nat} {tl : List Nat}
theorem s0_end (hret : ∀ (m' : Str → Option Value) (news' : List (Addr × Obj)) (h' : Heap) (tk' : Nat), P0 B1 b1 own m m' news' → Fr h₀ L h' m' → News h₀ L h' news' → Q .next { s with heap := h', toks := tk' })
    (F : Fr h₀ L h' m') (N : News h₀ L h' news2) (ha : m' (Str.ofString "a") = some (.ref D)) (ht : m' (Str.ofString "tail") = some (.str (txt tl) tt)) (hr : ∀ z, z ≠ Str.ofString "a" → z ≠ Str.ofString "tail" → m' z = m z)
    (hm1 : (B1, boxO b0' s0' b1' s1' cb) ∈ news2) (hm2 : (D, tupO x t1 y t2 c') ∈ news2) (hs : ∀ p ∈ own, p ∈ news2) (hne : D ≠ B1) (hd : Drawn x y) (htl : TailIn tl) (h1 : 0 ≤ b0') (h2 : 0 ≤ b1') (h3 : b1' ≤ b1 + 5) : Q .next { s with heap := h', toks := tk' } := by
  refine hret m' _ h' tk' ⟨x, y, D, t1, t2, c', tl, tt, b0', s0', b1', s1', cb, ha, ht, hr, rfl, hne, hd, htl, h1, h2, h3⟩ F (news_sub N fun p hp => ?_)
  rcases List.mem_cons.mp hp with rfl | hp
  · exact hm1
  rcases List.mem_cons.mp hp with rfl | hp
  · exact hm2
  · exact hs p hp
end
end Mine

namespace Mine
variable {w : World} {mean : ExcName → Option Value} {mg mb : Str → Option Value}
section
theorem s2_c (x y : Int) (D : Addr) (t1 t2 : Tok) (k : Nat) (d : Int) (td : Tok) (m : Str → Option Value) (news : List (Addr × Obj)) (hx0 : -(10 ^ 20) < x) (hx1 : x < 10 ^ 20) (h2 : -1000 < y) (h3 : y < 1000) (h4 : 0 < d) (h5 : d < 50) (hm : (D, tupO x t1 y t2 k) ∈ news) (ha : m (Str.ofString "a") = some (.ref D)) (hdg : m (Str.ofString "digits") = some (.int d td)) :
    St w mean mg mb (turnS 2) m news (fun m' news' => (∃ t, m' (Str.ofString "text") = some (.str (txt (dtL x y d)) t)) ∧ (∀ z, z ≠ (Str.ofString "text") → m' z = m z) ∧ news' = news) := by
  k_with_none
  k_with "call ref" => (k_here; (with_reducible show wpAny _ _ (call (Value.ref 129) _) _ _ _); k_dflt (refine Con.useS (by k_asm) (by k_asm) (by k_asm) (by k_asm) (by k_asm) (by first | exact rfl | assumption) (by ktr_room) (by ktr_units) (d_text_c _ _ _ _ _ _ _ _ _ (by k_mem) (by first | assumption | omega) (by first | assumption | omega) (by first | assumption | omega) (by first | assumption | omega) (by first | assumption | omega) (by first | assumption | omega)) ?_); k_whole; intro t9 h9 tk9 F9 N9; (try dsimp only); (try k_fold))
  unfold St
  k_fill
  intro dp un gd a ccd outer A₀ base h₀ L s Q E B F X N T hdp hun hret
  replace F := fr_in2 F ha hdg
  replace N := news_in N hm
  conv in (turnS 2) => whnf
  conv in (occs := *) lawS => all_goals whnf
  k_steps
  refine st_end (news' := news) hret (by with_reducible assumption) (by with_reducible assumption) (by intro p hp; repeat first | exact hp | refine List.Mem.tail _ ?_) ?_
  exact ⟨⟨_, if_pos rfl⟩, (by intro z hz0; dsimp only; (try simp only [hz0, if_false]); (repeat' split) <;> first | rfl | (subst_vars; symm; assumption)), rfl⟩
end
end Mine

namespace Mine
variable {w : World} {mean : ExcName → Option Value} {mg mb : Str → Option Value}
section
theorem s0_c (B1 : Addr) (b0 : Int) (s0 : Tok) (b1 : Int) (s1 : Tok) (c : Nat) (own : List (Addr × Obj)) (m : Str → Option Value)  (ho : OwnOff own [B1]) (hb0 : 0 ≤ b0) (hb1 : 0 ≤ b1) (hb2 : b1 < 900)  (hx : m (Str.ofString "box") = some (.ref B1)) :
    St w mean mg mb (turnS 0) m ((B1, boxO b0 s0 b1 s1 c) :: own) (fun m' news' => P0 B1 b1 own m m' news') := by
  k_with_none
  k_with "call ref" => (k_here; (with_reducible show wpAny _ _ (call (Value.ref 164) _) _ _ _); k_dflt (refine Con.useK2 (by k_asm) (by k_asm) (by k_asm) (by k_asm) (by k_asm) (by first | exact rfl | assumption) (by ktr_room) (by ktr_units) (law_take_3 _ _ _ _ _ _ _ _ _ _ _ _ _ (by first | assumption | k_ne) (by first | assumption | k_ne) (by first | assumption | (repeat' (first | exact ownoff_nil | assumption | (refine ownoff_cons (by k_ne) ?_)))) (by first | assumption | omega) (by first | assumption | omega) (by first | assumption | omega) (by first | decide | exact pow10_pos _ | with_reducible assumption | omega) (by first | decide | exact pow10_lt30 (by omega) | with_reducible assumption | omega)) ?_); k_whole; intro x9 t9 b9 u9 w9 c9 h9 tk9 hx9 hy9 hb9 F9 N9; (try dsimp only); (try k_fold))
  k_with "call ref" => (k_here; (with_reducible show wpAny _ _ (call (Value.ref 164) _) _ _ _); k_dflt (refine Con.useK2 (by k_asm) (by k_asm) (by k_asm) (by k_asm) (by k_asm) (by first | exact rfl | assumption) (by ktr_room) (by ktr_units) (law_take_2 _ _ _ _ _ _ _ _ _ _ _ (by first | assumption | k_ne) (by first | assumption | (repeat' (first | exact ownoff_nil | assumption | (refine ownoff_cons (by k_ne) ?_)))) (by first | assumption | omega) (by first | assumption | omega) (by first | assumption | omega) (by first | decide | exact pow10_pos _ | with_reducible assumption | omega) (by first | decide | exact pow10_lt30 (by omega) | with_reducible assumption | omega)) ?_); k_whole; intro x9 t9 b9 u9 w9 c9 h9 tk9 hx9 hy9 hb9 F9 N9; (try dsimp only); (try k_fold))
  k_with "call ref" => (k_here; (with_reducible show wpAny _ _ (call (Value.ref 164) _) _ _ _); k_dflt (refine Con.useK (by k_asm) (by k_asm) (by k_asm) (by k_asm) (by k_asm) (by first | exact rfl | assumption) (by ktr_room) (by ktr_units) (law_take_c _ _ _ _ _ _ _ _ _ (by first | assumption | (repeat' (first | exact ownoff_nil | assumption | (refine ownoff_cons (by k_ne) ?_)))) (by first | assumption | omega) (by first | assumption | omega) (by first | assumption | omega) (by first | decide | exact pow10_pos _ | with_reducible assumption | omega) (by first | decide | exact pow10_lt30 (by omega) | with_reducible assumption | omega)) ?_); k_whole; intro x9 t9 b9 u9 w9 c9 h9 tk9 hx9 hy9 hb9 F9 N9; (try dsimp only); (try k_fold))
  k_with "call ref" => (k_here; (with_reducible show wpAny _ _ (call (Value.ref 178) _) _ _ _); k_dflt (refine Con.useD (by k_asm) (by k_asm) (by k_asm) (by k_asm) (by k_asm) (by first | exact rfl | assumption) (by ktr_room) (by ktr_units) (law_drawn_c _ _ _ _ _ _ _ _ (by first | assumption | (repeat' (first | exact ownoff_nil | assumption | (refine ownoff_cons (by k_ne) ?_)))) (by first | assumption | omega) (by first | assumption | omega) (by first | assumption | omega)) ?_); k_whole; intro x9 y9 D9 t9 u9 c9 b9 s9 b9b s9b c9b h9 tk9 hdr9 hbA9 hbB9 hbC9 hlt9 l9 F9 N9; (replace hlt9 := ltN hlt9); (try simp only [AllLt, and_true] at l9); (try dsimp only); (try k_fold))
  k_with "subscriptTail" => (k_here; (with_reducible show wpAny _ _ (subscriptTail (PySem.Expr.List _ _) _ (Value.ref _) (Value.int _ _)) _ _ _); k_dflt (refine tail_item (by exact News.get (by k_asm) (by k_mem)) (by first | assumption | omega) (by first | assumption | omega) (by with_unfolding_all rfl) ?_; k_whole); intro tl9 tt9 htl9; (try dsimp only); (try k_fold))
  unfold St
  k_fill
  intro dp un gd a ccd outer A₀ base h₀ L s Q E B F X N T hdp hun hret
  replace F := fr_in1 F hx
  conv in (turnS 0) => whnf
  conv in (occs := *) lawS => all_goals whnf
  repeat' (first | (k_unfold; (try dsimp only)) | (k_end; wrow_close) | walk1 | (dsimp only; walk1))

  exact s0_end hret (by with_reducible assumption) (by with_reducible assumption) (by first | exact if_pos rfl | exact (if_neg (by decide)).trans (if_pos rfl) | exact (if_neg (by decide)).trans ((if_neg (by decide)).trans (if_pos rfl))) (by first | exact if_pos rfl | exact (if_neg (by decide)).trans (if_pos rfl) | exact (if_neg (by decide)).trans ((if_neg (by decide)).trans (if_pos rfl))) (by intro z hz0 hz1; (try dsimp only); (try simp only [hz0, hz1, if_false]); (repeat' split) <;> first | rfl | (subst_vars; symm; assumption)) (by k_mem) (by k_mem) (by intro p hp; repeat first | exact hp | refine List.Mem.tail _ ?_) (by first | assumption | k_ne) (by assumption) (by assumption) (by first | assumption | omega) (by omega) (by omega)
end
end Mine

namespace Mine
variable {w : World} {mean : ExcName → Option Value} {mg mb : Str → Option Value}
def P1 (B1 : Addr) (x y kk : Int) (m : Str → Option Value) (news : List (Addr × Obj)) (m' : Str → Option Value) (news' : List (Addr × Obj)) : Prop :=
  ∃ (D' : Addr) (y' : Int) (t1 t2 : Tok) (c : Nat), m' (Str.ofString "a") = some (.ref D') ∧ (∀ z, z ≠ (Str.ofString "a") → m' z = m z) ∧ (D', tupO x t1 y' t2 c) ∈ news' ∧ (∀ p ∈ news, p ∈ news') ∧ D' ≠ B1 ∧ (y' = y ∨ (kk = 5 ∧ y' = y * 6))
section
variable {h₀ h' : Heap} {L : Addr} {m m' : Str → Option Value} {news news2 : List (Addr × Obj)} {s : Shared} {Q : Flow → Shared → Prop} {tk' : Nat} {B1 D : Addr} {x y y' kk : Int} {t1 t2 : Tok} {c : Nat}
theorem s1_end (hret : ∀ (m' : Str → Option Value) (news' : List (Addr × Obj)) (h' : Heap) (tk' : Nat), P1 B1 x y kk m news m' news' → Fr h₀ L h' m' → News h₀ L h' news' → Q .next { s with heap := h', toks := tk' })
    (F : Fr h₀ L h' m') (N : News h₀ L h' news2) (ha : m' (Str.ofString "a") = some (.ref D)) (hr : (∀ z, z ≠ (Str.ofString "a") → m' z = m z)) (hm : (D, tupO x t1 y' t2 c) ∈ news2) (hs : ∀ p ∈ news, p ∈ news2) (hne : D ≠ B1) (hy : y' = y ∨ (kk = 5 ∧ y' = y * 6)) : Q .next { s with heap := h', toks := tk' } :=
  hret m' _ h' tk' ⟨D, y', t1, t2, c, ha, hr, hm, hs, hne, hy⟩ F N
end
section
theorem s1_c (x y : Int) (D : Addr) (t1 t2 : Tok) (k : Nat) (kk : Int) (tk : Tok) (B1 : Addr) (oB : Obj) (m : Str → Option Value) (news : List (Addr × Obj)) (hne : D ≠ B1) (hB : (B1, oB) ∈ news) (hm : (D, tupO x t1 y t2 k) ∈ news) (ht : m (Str.ofString "turn") = some (.int kk tk)) (ha : m (Str.ofString "a") = some (.ref D)) :
    St w mean mg mb (turnS 1) m news (fun m' news' => P1 B1 x y kk m news m' news') := by
  k_with_none
  k_with "compareOp Eq ref ref" => (k_here; (with_reducible show wpAny _ _ (compareOp CmpOp.Eq (Value.ref _) (Value.ref _)) _ _ _); k_dflt (refine eq_tupI (by (first | exact News.get (by k_asm) (by k_mem) | exact (Frag.In.keeps (by k_asm) (Fr.keep (by k_asm))) _ _ (by k_is))) (by (first | exact News.get (by k_asm) (by k_mem) | exact (Frag.In.keeps (by k_asm) (Fr.keep (by k_asm))) _ _ (by k_is))) (by ktr_units) ?_; k_whole))
  k_with "compareOp NotEq ref ref" => (k_here; (with_reducible show wpAny _ _ (compareOp CmpOp.NotEq (Value.ref _) (Value.ref _)) _ _ _); k_dflt (refine ne_tupI (by (first | exact News.get (by k_asm) (by k_mem) | exact (Frag.In.keeps (by k_asm) (Fr.keep (by k_asm))) _ _ (by k_is))) (by (first | exact News.get (by k_asm) (by k_mem) | exact (Frag.In.keeps (by k_asm) (Fr.keep (by k_asm))) _ _ (by k_is))) (by ktr_units) ?_; k_whole))
  unfold St
  k_fill
  intro dp un gd a ccd outer A₀ base h₀ L s Q E B F X N T hdp hun hret
  replace F := fr_in2 F ht ha
  replace N := news_in N hB
  replace N := news_in N (List.mem_cons_of_mem _ hm)
  conv in (turnS 1) => whnf
  conv in (occs := *) lawS => all_goals whnf
  repeat' (first | (k_unfold; (try dsimp only)) | (k_end; wrow_close) | walk1 | (dsimp only; walk1))
  all_goals exact s1_end hret (by with_reducible assumption) (by with_reducible assumption) (by first | exact if_pos rfl | exact (if_neg (by decide)).trans (if_pos rfl) | exact (if_neg (by decide)).trans ((if_neg (by decide)).trans (if_pos rfl))) (by intro z hz0; (try dsimp only); (try simp only [hz0, if_false]); (repeat' split) <;> first | rfl | (subst_vars; symm; assumption)) (by k_mem) (by intro p hp; repeat first | exact hp | refine List.Mem.tail _ ?_) (by first | assumption | k_ne) (by first | exact .inl rfl | exact .inr ⟨by assumption, rfl⟩)
end
end Mine

namespace Mine
variable {w : World} {mean : ExcName → Option Value} {mg mb : Str → Option Value}
section
theorem s3_c (D : Addr) (d : Int) (td u : Tok) (l : List Nat) (m : Str → Option Value) (news : List (Addr × Obj)) (C : Con w mean mg mb 20 185 [.ref D, .str (txt l) u, .int d td] news (RetB news true))  (ha : m (Str.ofString "a") = some (.ref D)) (ht : m (Str.ofString "text") = some (.str (txt l) u)) (hd : m (Str.ofString "digits") = some (.int d td)) :
    St w mean mg mb (turnS 3) m news (fun m' news' => (∀ z, m' z = m z) ∧ news' = news) := by
  k_with_none
  k_with "call ref" => (k_here; (with_reducible show wpAny _ _ (call (Value.ref 185) _) _ _ _); k_dflt (refine Con.useB (lv := 20) (x := true) (by k_asm) (by k_asm) (by k_asm) (by k_asm) (by k_asm) (by first | exact rfl | assumption) (by ktr_room) (by ktr_units) (by assumption) ?_); k_whole; intro h9 tk9 F9 N9; (try dsimp only); (try k_fold))
  unfold St
  k_fill
  intro dp un gd a ccd outer A₀ base h₀ L s Q E B F X N T hdp hun hret
  replace F := fr_in3 F ha ht hd
  conv in (turnS 3) => whnf
  conv in (occs := *) lawS => all_goals whnf
  repeat' (first | (k_unfold; (try dsimp only)) | (k_end; wrow_close) | walk1 | (dsimp only; walk1))
  exact st_end hret (by with_reducible assumption) (by with_reducible assumption) (fun p hp => hp) ⟨(by intro z; (try dsimp only); (repeat' split) <;> first | rfl | (subst_vars; symm; assumption)), rfl⟩
end
end Mine

namespace Mine
variable {w : World} {mean : ExcName → Option Value} {mg mb : Str → Option Value}
theorem occ_E {l : List Nat} (h : (Builtin.Str.occurrences (txt l) (Str.ofString "E") 0 (txt l).length 1).isEmpty = false) : 69 ∈ l := by
  have := StrLaws.found_one (txt l) 69
  have e : (⟨#[69]⟩ : Str) = Str.ofString "E" := rfl
  have e2 : (txt l).cps.toList = l := rfl
  rw [e, e2, h] at this
  simpa using this
theorem tail_lit : Str.ofString " .5" = txt [32, 46, 53] := lit_txt rfl
section
theorem s4_no (l tl : List Nat) (u tt : Tok) (m : Str → Option Value) (news : List (Addr × Obj)) (hno : (txt tl == Str.ofString ".5") = false)  (ha : m (Str.ofString "tail") = some (.str (txt tl) tt)) (ht : m (Str.ofString "text") = some (.str (txt l) u)) :
    St w mean mg mb (turnS 4) m news (fun m' news' => (∀ z, m' z = m z) ∧ news' = news) := by
  k_with_none
  unfold St
  k_fill
  intro dp un gd a ccd outer A₀ base h₀ L s Q E B F X N T hdp hun hret
  replace F := fr_in2 F ha ht
  conv in (turnS 4) => whnf
  conv in (occs := *) lawS => all_goals whnf
  repeat' (first | (k_unfold; (try dsimp only)) | (k_end; wrow_close) | walk1 | (dsimp only; walk1))
  all_goals exact st_end hret (by with_reducible assumption) (by with_reducible assumption) (fun p hp => hp) ⟨(by intro z; (try dsimp only); (repeat' split) <;> first | rfl | (subst_vars; symm; assumption)), rfl⟩
theorem s4_yes (l : List Nat) (u tt : Tok) (m : Str → Option Value) (news : List (Addr × Obj))   (ha : m (Str.ofString "tail") = some (.str (txt [46, 53]) tt)) (ht : m (Str.ofString "text") = some (.str (txt l) u)) :
    St w mean mg mb (turnS 4) m news (fun m' news' => (∃ tl t, m' (Str.ofString "tail") = some (.str (txt tl) t) ∧ (tl = [32, 46, 53] ∨ (tl = [46, 53] ∧ 69 ∈ l))) ∧ (∀ z, z ≠ (Str.ofString "tail") → m' z = m z) ∧ news' = news) := by
  k_with_none
  unfold St
  k_fill
  intro dp un gd a ccd outer A₀ base h₀ L s Q E B F X N T hdp hun hret
  replace F := fr_in2 F ha ht
  conv in (turnS 4) => whnf
  conv in (occs := *) lawS => all_goals whnf
  repeat' (first | (k_unfold; (try dsimp only)) | (k_end; wrow_close) | walk1 | (dsimp only; walk1))
  all_goals first
    | exact st_end hret (by with_reducible assumption) (by with_reducible assumption) (fun p hp => hp) ⟨⟨_, _, (if_pos rfl).trans (congrArg (fun q => some (Value.str q _)) tail_lit), .inl rfl⟩, (by intro z hz0; (try dsimp only); (try simp only [hz0, if_false]); (repeat' split) <;> first | rfl | (subst_vars; symm; assumption)), rfl⟩
    | exact st_end hret (by with_reducible assumption) (by with_reducible assumption) (fun p hp => hp) ⟨⟨_, _, if_pos rfl, .inr ⟨rfl, occ_E (by assumption)⟩⟩, (by intro z hz0; (try dsimp only); (try simp only [hz0, if_false]); (repeat' split) <;> first | rfl | (subst_vars; symm; assumption)), rfl⟩
end
end Mine

namespace Mine
variable {w : World} {mean : ExcName → Option Value} {mg mb : Str → Option Value}
section
theorem s5_c (x y : Int) (D : Addr) (t1 t2 : Tok) (k : Nat) (d : Int) (td u tt : Tok) (l tl : List Nat) (m : Str → Option Value) (news : List (Addr × Obj)) (hll : (txt l).length < 2000) (htl : (txt tl).length < 10) (C : ∀ (u2 : Tok) (nw : List (Addr × Obj)), Con w mean mg mb 6 150 [.str (Str.ofString "  " ++ Txt.strip (txt l) ++ txt tl) u2, .int d td] nw (RetP nw x y (2 + ((Txt.strip (txt l)).length : Int)))) (hm : (D, tupO x t1 y t2 k) ∈ news) (ha : m (Str.ofString "a") = some (.ref D)) (ht : m (Str.ofString "text") = some (.str (txt l) u)) (htt : m (Str.ofString "tail") = some (.str (txt tl) tt)) (hd : m (Str.ofString "digits") = some (.int d td)) :
    St w mean mg mb (turnS 5) m news (fun m' news' => (∀ z, m' z = m z) ∧ news' = news) := by
  k_with_none
  k_with "call ref" => (k_here; (with_reducible show wpAny _ _ (call (Value.ref 150) _) _ _ _); (rename ∀ (_ : Tok) (_ : List (Addr × Obj)), Con _ _ _ _ _ _ _ _ _ => hC9); k_dflt (refine Con.useP (by k_asm) (by k_asm) (by k_asm) (by k_asm) (by k_asm) (by first | exact rfl | assumption) (by ktr_room) (by ktr_units) (hC9 _ _) (fun D9 t9 c9 h9 tk9 ex ey l9 F9 N9 => ?_) (fun D9 t9 c9 D8 t8 u8 c8 h9 tk9 l9 l8 lt8 F9 N9 => ?_)); all_goals (try simp only [AllLt, and_true] at l9); all_goals (try dsimp only); all_goals (try k_fold))
  k_with "compareOp NotEq ref ref" => (k_here; (with_reducible show wpAny _ _ (compareOp CmpOp.NotEq (Value.ref _) (Value.ref _)) _ _ _); k_dflt (refine ne_parI (q := 0) (q' := 0) (by (first | exact News.get (by k_asm) (by k_mem) | exact (Frag.In.keeps (by k_asm) (Fr.keep (by k_asm))) _ _ (by k_is))) (by (first | exact News.get (by k_asm) (by k_mem) | exact (Frag.In.keeps (by k_asm) (Fr.keep (by k_asm))) _ _ (by k_is))) (by (first | exact News.get (by k_asm) (by k_mem) | exact (Frag.In.keeps (by k_asm) (Fr.keep (by k_asm))) _ _ (by k_is))) (by (first | exact News.get (by k_asm) (by k_mem) | exact (Frag.In.keeps (by k_asm) (Fr.keep (by k_asm))) _ _ (by k_is))) (by first | ktr_units | units_room) (by first | exact ⟨rfl, rfl, rfl⟩ | exact ⟨Eq.symm (by assumption), Eq.symm (by assumption), rfl⟩) ?_; k_whole))
  unfold St
  k_fill
  intro dp un gd a ccd outer A₀ base h₀ L s Q E B F X N T hdp hun hret
  replace F := fr_in4 F ha ht htt hd
  replace N := news_in N hm
  conv in (turnS 5) => whnf
  conv in (occs := *) lawS => all_goals whnf
  repeat' (first | (k_unfold; (try dsimp only)) | (k_end; wrow_close) | walk1 | (dsimp only; walk1))
  all_goals exact st_end hret (by with_reducible assumption) (by with_reducible assumption) (by intro p hp; repeat first | exact hp | refine List.Mem.tail _ ?_) ⟨(by intro z; (try dsimp only); (repeat' split) <;> first | rfl | (subst_vars; symm; assumption)), rfl⟩
end
end Mine

namespace Mine
variable {w : World} {mean : ExcName → Option Value} {mg mb : Str → Option Value}
section
theorem i0_c (x y : Int) (D : Addr) (t1 t2 : Tok) (k : Nat) (m : Str → Option Value) (news : List (Addr × Obj)) (hy0 : -10 < y) (hy1 : y < 20) (hm : (D, tupO x t1 y t2 k) ∈ news) (ha : m (Str.ofString "a") = some (.ref D)) :
    St w mean mg mb (ifS 0) m news (fun m' news' => (∃ t, m' (Str.ofString "unit") = some (.int (10 ^ (mx 0 (0 - y)).toNat) t)) ∧ (∀ z, z ≠ (Str.ofString "unit") → m' z = m z) ∧ news' = news) := by
  k_with_none
  unfold St
  k_fill
  intro dp un gd a ccd outer A₀ base h₀ L s Q E B F X N T hdp hun hret
  replace F := fr_in1 F ha
  replace N := news_in N hm
  conv in (ifS 0) => whnf
  conv in (occs := *) lawS => all_goals whnf
  repeat' (first | (k_unfold; (try dsimp only)) | (k_end; wrow_close) | walk1 | (dsimp only; walk1))
  refine st_end (news' := news) hret (by with_reducible assumption) (by with_reducible assumption) (by intro p hp; repeat first | exact hp | refine List.Mem.tail _ ?_) ?_
  exact ⟨⟨_, (if_pos rfl).trans (congrArg (fun q : Int => some (Value.int (10 ^ q.toNat) _)) (mx_is 0 (0 - y)).symm)⟩, (by intro z hz0; (try dsimp only); (try simp only [hz0, if_false]); (repeat' split) <;> first | rfl | (subst_vars; symm; assumption)), rfl⟩
theorem i1_c (x y : Int) (D : Addr) (t1 t2 : Tok) (k : Nat) (m : Str → Option Value) (news : List (Addr × Obj)) (hy0 : -10 < y) (hy1 : y < 20) (hx0 : -(10 ^ 6) < x) (hx1 : x < 10 ^ 6) (hm : (D, tupO x t1 y t2 k) ∈ news) (ha : m (Str.ofString "a") = some (.ref D)) :
    St w mean mg mb (ifS 1) m news (fun m' news' => (∃ t, m' (Str.ofString "number") = some (.int (x * 10 ^ (mx 0 y).toNat) t)) ∧ (∀ z, z ≠ (Str.ofString "number") → m' z = m z) ∧ news' = news) := by
  k_with_none
  unfold St
  k_fill
  intro dp un gd a ccd outer A₀ base h₀ L s Q E B F X N T hdp hun hret
  replace F := fr_in1 F ha
  replace N := news_in N hm
  conv in (ifS 1) => whnf
  conv in (occs := *) lawS => all_goals whnf
  repeat' (first | (k_unfold; (try dsimp only)) | (k_end; wrow_close) | walk1 | (dsimp only; walk1))
  refine st_end (news' := news) hret (by with_reducible assumption) (by with_reducible assumption) (by intro p hp; repeat first | exact hp | refine List.Mem.tail _ ?_) ?_
  exact ⟨⟨_, (if_pos rfl).trans (congrArg (fun q : Int => some (Value.int (x * 10 ^ q.toNat) _)) (mx_is 0 (y)).symm)⟩, (by intro z hz0; (try dsimp only); (try simp only [hz0, if_false]); (repeat' split) <;> first | rfl | (subst_vars; symm; assumption)), rfl⟩
end
end Mine

namespace Mine
variable {w : World} {mean : ExcName → Option Value} {mg mb : Str → Option Value}
def RetW (news : List (Addr × Obj)) (x y a b : Int) (D : Addr) (v : Value) (news' : List (Addr × Obj)) : Prop := (x = a ∧ y = b ∧ v = .ref D ∧ news' = news) ∨ RetT news a b v news'
theorem Con.useW {w : World} {mean : ExcName → Option Value} {mg mb : Str → Option Value} {lv : Nat} {f : Addr} {vs : List Value} {news : List (Addr × Obj)} {x y a' b' : Int} {D0 : Addr}
    {dp un : Nat} {gd : Option (List Code)} {cn : Str} {cs : Scope} {a : Addr} {ccd : Value} {cl : List (Str × Addr)} {outer : List Env} {A₀ : Around} {base h₀ : Heap} {L : Addr} {m : Str → Option Value} {s : Shared} {Q E : Value → Shared → Prop}
    (B : Below A₀ base outer h₀) (F : Fr h₀ L s.heap m) (X : (hd.heap_39 w.params).In h₀) (N : News h₀ L s.heap news) (T : Top hd.view_39 (looseW hd.view_39 [Str.ofString "BasicError"]) mean mg mb h₀) (hk : cs.kind = .function)
    (h1 : dp + lv < recursionLimit) (h2 : un + 8 * lv < cLine) (C : Con w mean mg mb lv f vs news (RetW news x y a' b' D0))
  (ret1 : ∀ (h' : Heap) (tk' : Nat), x = a' → y = b' → Fr h₀ L h' m → News h₀ L h' news → Q (.ref D0) { s with heap := h', toks := tk' }) (ret2 : ∀ (D : Addr) (t1 t2 : Tok) (c : Nat) (h' : Heap) (tk' : Nat), AllLt D news → Fr h₀ L h' m → News h₀ L h' ((D, tupO a' t1 b' t2 c) :: news) → Q (.ref D) { s with heap := h', toks := tk' }) :
    wpAny (model PySem.Challenge.rw_pq0171_01.row.prog w) (ktrTop dp un gd cn cs L a ccd cl outer) (call (.ref f) vs) Q E s :=
  C.use B F X N T hk h1 h2 fun v n h' tk' r F' N' => by
    rcases r with ⟨e1, e2, rfl, rfl⟩ | ⟨D, t1, t2, c, rfl, rfl, hl⟩
    · exact ret1 h' tk' e1 e2 F' N'
    · exact ret2 D t1 t2 c h' tk' hl F' N'
/-- d_whole of a drawn decimal -/
theorem whole_lo {x u : Int} (hu : 0 < u) : -(if x < 0 then -x else x) ≤ x.fdiv u := by
  rw [Int.fdiv_eq_ediv_of_nonneg _ (by omega)]
  by_cases hx : x < 0
  · rw [if_pos hx, Int.neg_neg, Int.le_ediv_iff_mul_le hu]
    have := Int.mul_le_mul_of_nonpos_left (a := x) (b := u) (c := 1) (by omega) (by omega)
    omega
  · rw [if_neg hx]
    have := Int.ediv_nonneg (a := x) (b := u) (by omega) (by omega)
    omega
theorem whole_hi {x u : Int} (hu : 0 < u) : x.fdiv u ≤ (if x < 0 then -x else x) := by
  by_cases hx : x < 0
  · have : x.fdiv u ≤ 0 := by
      rw [Int.fdiv_eq_ediv_of_nonneg _ (by omega)]
      have h1 := Int.ediv_mul_le x (b := u) (by omega)
      by_cases h : 0 < x / u
      · have := Int.mul_pos h hu; omega
      · omega
    rw [if_pos hx]; omega
  · rw [if_neg hx]; exact (fdiv_le (by omega) hu).2
theorem Con.mono {w : World} {mean : ExcName → Option Value} {mg mb : Str → Option Value} {lv : Nat} {f : Addr} {vs : List Value} {news : List (Addr × Obj)} {Ret Ret2 : Value → List (Addr × Obj) → Prop} (C : Con w mean mg mb lv f vs news Ret) (h : ∀ v n, Ret v n → Ret2 v n) : Con w mean mg mb lv f vs news Ret2 := by
  unfold Con at *
  intro dp un gd cn cs a ccd cl outer A₀ base h₀ L m s Q E B F X N T hk hdp hun hret
  exact C dp un gd cn cs a ccd cl outer A₀ base h₀ L m s Q E B F X N T hk hdp hun fun v n h' tk r => hret v n h' tk (h v n r)
theorem Con.lvl {w : World} {mean : ExcName → Option Value} {mg mb : Str → Option Value} {lv l' : Nat} {f : Addr} {vs : List Value} {news : List (Addr × Obj)} {Ret : Value → List (Addr × Obj) → Prop} (C : Con w mean mg mb lv f vs news Ret) (h : lv ≤ l') : Con w mean mg mb l' f vs news Ret := by
  unfold Con at *
  intro dp un gd cn cs a ccd cl outer A₀ base h₀ L m s Q E B F X N T hk hdp hun hret
  exact C dp un gd cn cs a ccd cl outer A₀ base h₀ L m s Q E B F X N T hk (by omega) (by omega) hret
theorem W_eq {x y a b : Int} (h1 : x = a) (h2 : y = b) : x = a ∧ y = b := ⟨h1, h2⟩
theorem d_whole_t (x y : Int) (D : Addr) (t1 t2 : Tok) (k : Nat) (t3 : Tok) (news : List (Addr × Obj)) (hm : (D, tupO x t1 y t2 k) ∈ news) (h : Drawn x y) :
    Con w mean mg mb 4 87 [.ref D, .int 20 t3] news (RetW news x y (norm ((x * 10 ^ (mx 0 y).toNat).fdiv (10 ^ (mx 0 (0 - y)).toNat)) 0).1 (norm ((x * 10 ^ (mx 0 y).toNat).fdiv (10 ^ (mx 0 (0 - y)).toNat)) 0).2 D) := by
  by_cases hy : y < 0
  · have hx : x ≠ 0 ∧ -1000000 < x ∧ x < 1000000 ∧ -6 ≤ y := by rcases h with ⟨rfl, rfl⟩ | ⟨a, b, c, e, f, _⟩; omega; exact ⟨a, c, e, f⟩
    have hp := pow10_pos (0 - y).toNat
    have hf : figs (if x.fdiv (10 ^ (0 - y).toNat) < 0 then -x.fdiv (10 ^ (0 - y).toNat) else x.fdiv (10 ^ (0 - y).toNat)) ≤ 20 := by
      refine made_le ?_ ?_
      · have := whole_lo (x := x) hp; omega
      · have := whole_hi (x := x) hp; omega
    have := d_whole_neg (w := w) (mean := mean) (mg := mg) (mb := mb) x y D t1 t2 k 20 t3 news hm (by omega) hy hf (by omega)
    rw [(W_neg (x := x) hy).1, (W_neg (x := x) hy).2] at this
    exact this.mono fun v n r => .inr r
  · have hy : 0 ≤ y := by omega
    have hc := (d_whole_nn (w := w) (mean := mean) (mg := mg) (mb := mb) x y D t1 t2 k 20 t3 news hm hy).lvl (l' := 4) (by omega)
    exact hc.mono fun v n r => .inl ⟨(W_nn h hy).1, (W_nn h hy).2, r.1, r.2⟩
section
theorem i2_c (x y : Int) (D : Addr) (t1 t2 : Tok) (k : Nat) (tu tn : Tok) (m : Str → Option Value) (news : List (Addr × Obj)) (hd : Drawn x y) (hpy : ((10 : Int) ^ (mx 0 (0 - y)).toNat).natAbs.log2 < 9000) (hm : (D, tupO x t1 y t2 k) ∈ news) (ha : m (Str.ofString "a") = some (.ref D)) (hu : m (Str.ofString "unit") = some (.int (10 ^ (mx 0 (0 - y)).toNat) tu)) (hn : m (Str.ofString "number") = some (.int (x * 10 ^ (mx 0 y).toNat) tn)) :
    St w mean mg mb (ifS 2) m news (fun m' news' => (∀ z, m' z = m z) ∧ news' = news) := by
  k_with_none
  k_with "call ref" => (k_here; (with_reducible show wpAny _ _ (call (Value.ref 87) _) _ _ _); k_dflt (refine Con.useW (by k_asm) (by k_asm) (by k_asm) (by k_asm) (by k_asm) (by first | exact rfl | assumption) (by ktr_room) (by ktr_units) (d_whole_t _ _ _ _ _ _ _ _ (by k_mem) (by assumption)) (fun h9 tk9 e9x e9y F9 N9 => ?_) (fun D9 t9 u9 c9 h9 tk9 l9 F9 N9 => ?_)); all_goals (try simp only [AllLt, and_true] at l9); all_goals (try dsimp only); all_goals (try k_fold))
  k_with "call ref" => (k_here; (with_reducible show wpAny _ _ (call (Value.ref 192) _) _ _ _); k_dflt (refine Con.useT (by k_asm) (by k_asm) (by k_asm) (by k_asm) (by k_asm) (by first | exact rfl | assumption) (by ktr_room) (by ktr_units) (law_plain_c _ _ _ _ _) ?_); k_whole; intro D9 t9 u9 c9 h9 tk9 l9 F9 N9; (try simp only [AllLt, and_true] at l9); (try dsimp only); (try k_fold))
  k_with "compareOp NotEq ref ref" => (k_here; (with_reducible show wpAny _ _ (compareOp CmpOp.NotEq (Value.ref _) (Value.ref _)) _ _ _); k_dflt (refine ne_tupS (by (first | exact News.get (by k_asm) (by k_mem) | exact (Frag.In.keeps (by k_asm) (Fr.keep (by k_asm))) _ _ (by k_is))) (by (first | exact News.get (by k_asm) (by k_mem) | exact (Frag.In.keeps (by k_asm) (Fr.keep (by k_asm))) _ _ (by k_is))) (by first | ktr_units | units_room) (by first | exact ⟨by with_reducible assumption, by with_reducible assumption⟩ | exact ⟨rfl, rfl⟩) ?_; k_whole))
  k_with "binaryOp FloorDiv int int" => (with_reducible refine floordiv_int (pow10_ne _) ?_ (Or.inl (PyProof.noPylong_of_log2 (by assumption))))
  unfold St
  k_fill
  intro dp un gd a ccd outer A₀ base h₀ L s Q E B F X N T hdp hun hret
  replace F := fr_in3 F ha hu hn
  replace N := news_in N hm
  conv in (ifS 2) => whnf
  conv in (occs := *) lawS => all_goals whnf
  repeat' (first | (k_unfold; (try dsimp only)) | (k_end; wrow_close) | walk1 | (dsimp only; walk1))
  all_goals exact st_end hret (by with_reducible assumption) (by with_reducible assumption) (by intro p hp; repeat first | exact hp | refine List.Mem.tail _ ?_) ⟨(by intro z; (try dsimp only); (repeat' split) <;> first | rfl | (subst_vars; symm; assumption)), rfl⟩
end
end Mine

namespace Mine
variable {w : World} {mean : ExcName → Option Value} {mg mb : Str → Option Value}
theorem d_fix_t (x y : Int) (D : Addr) (t1 t2 : Tok) (k : Nat) (t3 : Tok) (news : List (Addr × Obj)) (hm : (D, tupO x t1 y t2 k) ∈ news) (h : Drawn x y) :
    Con w mean mg mb 5 94 [.ref D, .int 20 t3] news (RetT news (dfix x y).1 (dfix x y).2) := by
  by_cases hy : y < 0
  · have hx : x ≠ 0 ∧ -1000000 < x ∧ x < 1000000 ∧ -6 ≤ y := by rcases h with ⟨rfl, rfl⟩ | ⟨a, b, c, e, f, _⟩; omega; exact ⟨a, c, e, f⟩
    have hp := pow10_pos (0 - y).toNat
    have hn := ab_nonneg x
    have hf : figs (if (if x < 0 then -x else x).fdiv (10 ^ (0 - y).toNat) < 0 then -(if x < 0 then -x else x).fdiv (10 ^ (0 - y).toNat) else (if x < 0 then -x else x).fdiv (10 ^ (0 - y).toNat)) ≤ 20 := by
      obtain ⟨q1, q2⟩ := fdiv_le hn hp
      have hs : (if x < 0 then -x else x) < 1000000 := by split <;> omega
      exact made_le (by omega) (by omega)
    exact d_fix_neg (w := w) (mean := mean) (mg := mg) (mb := mb) x y D t1 t2 k 20 t3 news hm (by omega) hy hf (by omega)
  · exact d_fix_nn (w := w) (mean := mean) (mg := mg) (mb := mb) x y D t1 t2 k 20 t3 news hm (by omega)
theorem F_eq {x y N U s : Int} (h : Drawn x y) (hN : N = x * 10 ^ (mx 0 y).toNat) (hU : U = 10 ^ (mx 0 (0 - y)).toNat) (hs : s = if 0 ≤ N then 1 else -1) : (dfix x y).1 = (norm ((ab N).fdiv U * s) 0).1 ∧ (dfix x y).2 = (norm ((ab N).fdiv U * s) 0).2 := by
  rw [F_all h hN hU hs]; exact ⟨rfl, rfl⟩
section
theorem i3_c (x y : Int) (D : Addr) (t1 t2 : Tok) (k : Nat) (tu tn : Tok) (m : Str → Option Value) (news : List (Addr × Obj)) (hd : Drawn x y) (hpy : ((10 : Int) ^ (mx 0 (0 - y)).toNat).natAbs.log2 < 9000) (hq0 : 0 ≤ (ab (x * 10 ^ (mx 0 y).toNat)).fdiv (10 ^ (mx 0 (0 - y)).toNat)) (hq1 : (ab (x * 10 ^ (mx 0 y).toNat)).fdiv (10 ^ (mx 0 (0 - y)).toNat) < 10 ^ 18) (hm : (D, tupO x t1 y t2 k) ∈ news) (ha : m (Str.ofString "a") = some (.ref D)) (hu : m (Str.ofString "unit") = some (.int (10 ^ (mx 0 (0 - y)).toNat) tu)) (hn : m (Str.ofString "number") = some (.int (x * 10 ^ (mx 0 y).toNat) tn)) :
    St w mean mg mb (ifS 3) m news (fun m' news' => (∀ z, m' z = m z) ∧ news' = news) := by
  k_with_none
  k_with "call ref" => (k_here; (with_reducible show wpAny _ _ (call (Value.ref 94) _) _ _ _); k_dflt (refine Con.useT (by k_asm) (by k_asm) (by k_asm) (by k_asm) (by k_asm) (by first | exact rfl | assumption) (by ktr_room) (by ktr_units) (d_fix_t _ _ _ _ _ _ _ _ (by k_mem) (by assumption)) ?_); k_whole; intro D9 t9 u9 c9 h9 tk9 l9 F9 N9; (try simp only [AllLt, and_true] at l9); (try dsimp only); (try k_fold))
  k_with "call ref" => (k_here; (with_reducible show wpAny _ _ (call (Value.ref 192) _) _ _ _); k_dflt (refine Con.useT (by k_asm) (by k_asm) (by k_asm) (by k_asm) (by k_asm) (by first | exact rfl | assumption) (by ktr_room) (by ktr_units) (law_plain_c _ _ _ _ _) ?_); k_whole; intro D9 t9 u9 c9 h9 tk9 l9 F9 N9; (try simp only [AllLt, and_true] at l9); (try dsimp only); (try k_fold))
  k_with "compareOp NotEq ref ref" => (k_here; (with_reducible show wpAny _ _ (compareOp CmpOp.NotEq (Value.ref _) (Value.ref _)) _ _ _); k_dflt (refine ne_tupS (by (first | exact News.get (by k_asm) (by k_mem) | exact (Frag.In.keeps (by k_asm) (Fr.keep (by k_asm))) _ _ (by k_is))) (by (first | exact News.get (by k_asm) (by k_mem) | exact (Frag.In.keeps (by k_asm) (Fr.keep (by k_asm))) _ _ (by k_is))) (by first | ktr_units | units_room) (by first | exact F_eq (by with_reducible assumption) rfl rfl (if_pos (by with_reducible assumption)).symm | exact F_eq (by with_reducible assumption) rfl rfl (if_neg (by with_reducible assumption)).symm) ?_; k_whole))
  k_with "binaryOp FloorDiv int int" => (with_reducible refine floordiv_int (pow10_ne _) ?_ (Or.inl (PyProof.noPylong_of_log2 (by assumption))))
  k_with "call builtin:abs" => ((with_reducible refine call_ab ?_); intro _ _)
  unfold St
  k_fill
  intro dp un gd a ccd outer A₀ base h₀ L s Q E B F X N T hdp hun hret
  replace F := fr_in3 F ha hu hn
  replace N := news_in N hm
  conv in (ifS 3) => whnf
  conv in (occs := *) lawS => all_goals whnf
  repeat' (first | (k_unfold; (try dsimp only)) | (k_end; wrow_close) | walk1 | (dsimp only; walk1))
  all_goals exact st_end hret (by with_reducible assumption) (by with_reducible assumption) (by intro p hp; repeat first | exact hp | refine List.Mem.tail _ ?_) ⟨(by intro z; (try dsimp only); (repeat' split) <;> first | rfl | (subst_vars; symm; assumption)), rfl⟩
end
end Mine

namespace Mine
variable {w : World} {mean : ExcName → Option Value} {mg mb : Str → Option Value}
def P4 (B1 : Addr) (b1 : Int) (own : List (Addr × Obj)) (m m' : Str → Option Value) (news' : List (Addr × Obj)) : Prop :=
  ∃ (p : Int) (tp : Tok) (b0' : Int) (s0' s1' : Tok) (cb : Nat), m' (Str.ofString "places") = some (.int p tp) ∧ (∀ z, z ≠ (Str.ofString "places") → m' z = m z) ∧ news' = (B1, boxO b0' s0' (b1 + 1) s1' cb) :: own ∧ -2 ≤ p ∧ p ≤ 3 ∧ 0 ≤ b0'
section
variable {h₀ h' : Heap} {L : Addr} {m m' : Str → Option Value} {news2 own : List (Addr × Obj)} {s : Shared} {Q : Flow → Shared → Prop} {tk' : Nat} {B1 : Addr} {b1 b0' p : Int} {tp s0' s1' : Tok} {cb : Nat}
theorem i4_end (hret : ∀ (m' : Str → Option Value) (news' : List (Addr × Obj)) (h' : Heap) (tk' : Nat), P4 B1 b1 own m m' news' → Fr h₀ L h' m' → News h₀ L h' news' → Q .next { s with heap := h', toks := tk' })
    (F : Fr h₀ L h' m') (N : News h₀ L h' news2) (ha : m' (Str.ofString "places") = some (.int p tp)) (hr : (∀ z, z ≠ (Str.ofString "places") → m' z = m z)) (hm1 : (B1, boxO b0' s0' (b1 + 1) s1' cb) ∈ news2) (hs : ∀ q ∈ own, q ∈ news2) (h1 : -2 ≤ p) (h2 : p ≤ 3) (h3 : 0 ≤ b0') : Q .next { s with heap := h', toks := tk' } := by
  refine hret m' _ h' tk' ⟨p, tp, b0', s0', s1', cb, ha, hr, rfl, h1, h2, h3⟩ F (news_sub N fun q hq => ?_)
  rcases List.mem_cons.mp hq with rfl | hq
  · exact hm1
  · exact hs q hq
end
section
theorem i4_c (B1 : Addr) (b0 : Int) (s0 : Tok) (b1 : Int) (s1 : Tok) (c : Nat) (own : List (Addr × Obj)) (m : Str → Option Value)  (ho : OwnOff own [B1]) (hb0 : 0 ≤ b0) (hb1 : 0 ≤ b1) (hb2 : b1 < 900)  (hx : m (Str.ofString "box") = some (.ref B1)) :
    St w mean mg mb (ifS 4) m ((B1, boxO b0 s0 b1 s1 c) :: own) (fun m' news' => P4 B1 b1 own m m' news') := by
  k_with_none
  k_with "call ref" => (k_here; (with_reducible show wpAny _ _ (call (Value.ref 164) _) _ _ _); k_dflt (refine Con.useK (by k_asm) (by k_asm) (by k_asm) (by k_asm) (by k_asm) (by first | exact rfl | assumption) (by ktr_room) (by ktr_units) (law_take_c _ _ _ _ _ _ _ _ _ (by first | assumption | (repeat' (first | exact ownoff_nil | assumption | (refine ownoff_cons (by k_ne) ?_)))) (by first | assumption | omega) (by first | assumption | omega) (by first | assumption | omega) (by first | decide | exact pow10_pos _ | with_reducible assumption | omega) (by first | decide | exact pow10_lt30 (by omega) | with_reducible assumption | omega)) ?_); k_whole; intro x9 t9 b9 u9 w9 c9 h9 tk9 hx9 hy9 hb9 F9 N9; (try dsimp only); (try k_fold))
  unfold St
  k_fill
  intro dp un gd a ccd outer A₀ base h₀ L s Q E B F X N T hdp hun hret
  replace F := fr_in1 F hx
  conv in (ifS 4) => whnf
  conv in (occs := *) lawS => all_goals whnf
  repeat' (first | (k_unfold; (try dsimp only)) | (k_end; wrow_close) | walk1 | (dsimp only; walk1))
  exact i4_end hret (by with_reducible assumption) (by with_reducible assumption) (by first | exact if_pos rfl | exact (if_neg (by decide)).trans (if_pos rfl) | exact (if_neg (by decide)).trans ((if_neg (by decide)).trans (if_pos rfl))) (by intro z hz0; (try dsimp only); (try simp only [hz0, if_false]); (repeat' split) <;> first | rfl | (subst_vars; symm; assumption)) (by k_mem) (by intro p hp; repeat first | exact hp | refine List.Mem.tail _ ?_) (by omega) (by omega) (by assumption)
end
end Mine

namespace Mine
variable {w : World} {mean : ExcName → Option Value} {mg mb : Str → Option Value}
section
theorem i5_c (N U p : Int) (tu tn tp : Tok) (m : Str → Option Value) (news : List (Addr × Obj)) (hp0 : -2 ≤ p) (hp1 : p ≤ 3) (hN0 : -(10 ^ 18) < N) (hN1 : N < 10 ^ 18) (hU0 : 0 < U) (hU1 : U < 10 ^ 10)  (hu : m (Str.ofString "unit") = some (.int U tu)) (hn : m (Str.ofString "number") = some (.int N tn)) (hp : m (Str.ofString "places") = some (.int p tp)) :
    St w mean mg mb (ifS 5) m news (fun m' news' => (∃ t, m' (Str.ofString "here") = some (.int (N * 10 ^ (mx 0 p).toNat) t)) ∧ (∃ t, m' (Str.ofString "far") = some (.int (U * 10 ^ (mx 0 (0 - p)).toNat) t)) ∧ (∀ z, z ≠ (Str.ofString "here") → z ≠ (Str.ofString "far") → m' z = m z) ∧ news' = news) := by
  k_with_none
  unfold St
  k_fill
  intro dp un gd a ccd outer A₀ base h₀ L s Q E B F X N T hdp hun hret
  replace F := fr_in3 F hu hn hp
  conv in (ifS 5) => whnf
  conv in (occs := *) lawS => all_goals whnf
  repeat' (first | (k_unfold; (try dsimp only)) | (k_end; wrow_close) | walk1 | (dsimp only; walk1))
  exact st_end hret (by with_reducible assumption) (by with_reducible assumption) (by intro p hp; repeat first | exact hp | refine List.Mem.tail _ ?_) ⟨⟨_, (by first | exact (if_pos rfl).trans (congrArg (fun q : Int => some (Value.int (N * 10 ^ q.toNat) _)) (mx_is 0 (p)).symm) | exact (if_neg (by decide)).trans ((if_pos rfl).trans (congrArg (fun q : Int => some (Value.int (N * 10 ^ q.toNat) _)) (mx_is 0 (p)).symm)))⟩, ⟨_, (by first | exact (if_pos rfl).trans (congrArg (fun q : Int => some (Value.int (U * 10 ^ q.toNat) _)) (mx_is 0 (0 - p)).symm) | exact (if_neg (by decide)).trans ((if_pos rfl).trans (congrArg (fun q : Int => some (Value.int (U * 10 ^ q.toNat) _)) (mx_is 0 (0 - p)).symm)))⟩, (by intro z hz0 hz1; (try dsimp only); (try simp only [hz0, hz1, if_false]); (repeat' split) <;> first | rfl | (subst_vars; symm; assumption)), rfl⟩
end
end Mine

namespace Mine
variable {w : World} {mean : ExcName → Option Value} {mg mb : Str → Option Value}
section
theorem i6_c (H U : Int) (th tf : Tok) (m : Str → Option Value) (news : List (Addr × Obj)) (hH : ab H < 2 ^ 64) (hU : 0 < U) (hU2 : U.natAbs.log2 < 9000)  (hh : m (Str.ofString "here") = some (.int H th)) (hf : m (Str.ofString "far") = some (.int U tf)) :
    St w mean mg mb (ifS 6) m news (fun m' news' => (∃ t, m' (Str.ofString "size") = some (.int (rndi (ab H) U) t)) ∧ (∀ z, z ≠ (Str.ofString "size") → m' z = m z) ∧ news' = news) := by
  k_with_none
  k_with "call builtin:abs" => ((with_reducible refine call_ab ?_); intro _ _)
  k_with "call ref" => (k_here; (with_reducible show wpAny _ _ (call (Value.ref 199) _) _ _ _); k_dflt (refine Con.useI (by k_asm) (by k_asm) (by k_asm) (by k_asm) (by k_asm) (by first | exact rfl | assumption) (by ktr_room) (by ktr_units) (law_rounded_c _ _ _ _ _ (by first | assumption | exact ab_nn _) (by assumption) (by assumption) (by assumption)) ?_); k_whole; intro t9 h9 tk9 F9 N9; (try dsimp only); (try k_fold))
  unfold St
  k_fill
  intro dp un gd a ccd outer A₀ base h₀ L s Q E B F X N T hdp hun hret
  replace F := fr_in2 F hh hf
  conv in (ifS 6) => whnf
  conv in (occs := *) lawS => all_goals whnf
  repeat' (first | (k_unfold; (try dsimp only)) | (k_end; wrow_close) | walk1 | (dsimp only; walk1))
  exact st_end hret (by with_reducible assumption) (by with_reducible assumption) (fun p hp => hp) ⟨⟨_, if_pos rfl⟩, (by intro z hz0; (try dsimp only); (try simp only [hz0, if_false]); (repeat' split) <;> first | rfl | (subst_vars; symm; assumption)), rfl⟩
end
end Mine

namespace Mine
variable {w : World} {mean : ExcName → Option Value} {mg mb : Str → Option Value}
def RetN3 (news : List (Addr × Obj)) (X Y : Int) (D : Addr) (x y : Int) (v : Value) (news' : List (Addr × Obj)) : Prop := (x = X ∧ y = Y ∧ v = .ref D ∧ news' = news) ∨ (v = .ref 59 ∧ news' = news ∧ X = 0 ∧ Y = 0) ∨ RetT news X Y v news'
theorem Con.useN3 {w : World} {mean : ExcName → Option Value} {mg mb : Str → Option Value} {lv : Nat} {f : Addr} {vs : List Value} {news : List (Addr × Obj)} {Xa Ya x y : Int} {D0 : Addr}
    {dp un : Nat} {gd : Option (List Code)} {cn : Str} {cs : Scope} {a : Addr} {ccd : Value} {cl : List (Str × Addr)} {outer : List Env} {A₀ : Around} {base h₀ : Heap} {L : Addr} {m : Str → Option Value} {s : Shared} {Q E : Value → Shared → Prop}
    (B : Below A₀ base outer h₀) (F : Fr h₀ L s.heap m) (X : (hd.heap_39 w.params).In h₀) (N : News h₀ L s.heap news) (T : Top hd.view_39 (looseW hd.view_39 [Str.ofString "BasicError"]) mean mg mb h₀) (hk : cs.kind = .function)
    (h1 : dp + lv < recursionLimit) (h2 : un + 8 * lv < cLine) (C : Con w mean mg mb lv f vs news (RetN3 news Xa Ya D0 x y))
  (ret1 : ∀ (h' : Heap) (tk' : Nat), x = Xa → y = Ya → Fr h₀ L h' m → News h₀ L h' news → Q (.ref D0) { s with heap := h', toks := tk' }) (ret2 : ∀ (h' : Heap) (tk' : Nat), Xa = 0 → Ya = 0 → Fr h₀ L h' m → News h₀ L h' news → Q (.ref 59) { s with heap := h', toks := tk' }) (ret3 : ∀ (D : Addr) (t1 t2 : Tok) (c : Nat) (h' : Heap) (tk' : Nat), AllLt D news → Fr h₀ L h' m → News h₀ L h' ((D, tupO Xa t1 Ya t2 c) :: news) → Q (.ref D) { s with heap := h', toks := tk' }) :
    wpAny (model PySem.Challenge.rw_pq0171_01.row.prog w) (ktrTop dp un gd cn cs L a ccd cl outer) (call (.ref f) vs) Q E s :=
  C.use B F X N T hk h1 h2 fun v n h' tk' r F' N' => by
    rcases r with ⟨e1, e2, rfl, rfl⟩ | ⟨rfl, rfl, e1, e2⟩ | ⟨D, t1, t2, c, rfl, rfl, hl⟩
    · exact ret1 h' tk' e1 e2 F' N'
    · exact ret2 h' tk' e1 e2 F' N'
    · exact ret3 D t1 t2 c h' tk' hl F' N'
/-- what d_round gives of a drawn decimal: the pair of the plain law -/
theorem d_round_t (x y p : Int) (D : Addr) (t1 t2 : Tok) (k : Nat) (t3 t4 : Tok) (news : List (Addr × Obj)) (X Y : Int) (hm : (D, tupO x t1 y t2 k) ∈ news) (h : Drawn x y) (hp0 : -2 ≤ p) (hp1 : p ≤ 3)
    (e1 : (0 - p - y ≤ 0 ∨ x = 0) → x = X ∧ y = Y) (e2 : ¬ 0 - p - y ≤ 0 → x ≠ 0 → (rndA x (if x < 0 then -x else x) (10 ^ (if figs (if x < 0 then -x else x) + 1 < 0 - p - y then figs (if x < 0 then -x else x) + 1 else 0 - p - y).toNat) (y + (0 - p - y))) = (X, Y)) :
    Con w mean mg mb 4 101 [.ref D, .int p t3, .int 20 t4] news (RetN3 news X Y D x y) := by
  have hb : -7 ≤ y ∧ y < 13 ∧ -(10 ^ 10) < x ∧ x < 10 ^ 10 := by rcases h with ⟨rfl, rfl⟩ | ⟨_, _, _, _, _, _, _⟩ <;> omega
  refine Con.mono (d_round_c (w := w) (mean := mean) (mg := mg) (mb := mb) x y D t1 t2 k p t3 t4 news hm (by omega) (by omega) (by omega) (by omega) hb.2.2.1 hb.2.2.2) fun v n r => ?_
  rcases r with ⟨rv, rn, hq⟩ | ⟨⟨h1, h2⟩, r⟩
  · exact .inl ⟨(e1 hq).1, (e1 hq).2, rv, rn⟩
  · rw [e2 h1 h2] at r
    rcases r with ⟨a, b, c, d⟩ | r
    · exact .inr (.inl ⟨a, b, c, d⟩)
    · exact .inr (.inr r)
section
theorem z_p {H Z e X Y x y : Int} (hH : 0 ≤ H) (hX : X = (norm (if 0 ≤ H then Z else 0 - Z) e).1) (hY : Y = (norm (if 0 ≤ H then Z else 0 - Z) e).2) (ex : x = X) (ey : y = Y) : x = (norm Z e).1 ∧ y = (norm Z e).2 := by
  rw [if_pos hH] at hX hY; exact ⟨ex.trans hX, ey.trans hY⟩
theorem z_n {H Z e X Y x y : Int} (hH : ¬ 0 ≤ H) (hX : X = (norm (if 0 ≤ H then Z else 0 - Z) e).1) (hY : Y = (norm (if 0 ≤ H then Z else 0 - Z) e).2) (ex : x = X) (ey : y = Y) : x = (norm (0 - Z) e).1 ∧ y = (norm (0 - Z) e).2 := by
  rw [if_neg hH] at hX hY; exact ⟨ex.trans hX, ey.trans hY⟩
theorem i7_c (x y : Int) (D : Addr) (t1 t2 : Tok) (k : Nat) (p H Z X Y : Int) (tp th tz : Tok) (m : Str → Option Value) (news : List (Addr × Obj)) (hd : Drawn x y) (hp0 : -2 ≤ p) (hp1 : p ≤ 3) (hX : X = (norm (if 0 ≤ H then Z else 0 - Z) (0 - p)).1) (hY : Y = (norm (if 0 ≤ H then Z else 0 - Z) (0 - p)).2) (e1 : (0 - p - y ≤ 0 ∨ x = 0) → x = X ∧ y = Y) (e2 : ¬ 0 - p - y ≤ 0 → x ≠ 0 → (rndA x (if x < 0 then -x else x) (10 ^ (if figs (if x < 0 then -x else x) + 1 < 0 - p - y then figs (if x < 0 then -x else x) + 1 else 0 - p - y).toNat) (y + (0 - p - y))) = (X, Y)) (hm : (D, tupO x t1 y t2 k) ∈ news) (ha : m (Str.ofString "a") = some (.ref D)) (hp : m (Str.ofString "places") = some (.int p tp)) (hh : m (Str.ofString "here") = some (.int H th)) (hz : m (Str.ofString "size") = some (.int Z tz)) :
    St w mean mg mb (ifS 7) m news (fun m' news' => (∀ z, m' z = m z) ∧ news' = news) := by
  k_with_none
  k_with "call ref" => (k_here; (with_reducible show wpAny _ _ (call (Value.ref 101) _) _ _ _); k_dflt (refine Con.useN3 (by k_asm) (by k_asm) (by k_asm) (by k_asm) (by k_asm) (by first | exact rfl | assumption) (by ktr_room) (by ktr_units) (d_round_t _ _ _ _ _ _ _ _ _ _ _ _ (by k_mem) (by assumption) (by assumption) (by assumption) (by with_reducible assumption) (by with_reducible assumption)) (fun h9 tk9 e9x e9y F9 N9 => ?_) (fun h9 tk9 e9x e9y F9 N9 => ?_) (fun D9 t9 u9 c9 h9 tk9 l9 F9 N9 => ?_)); all_goals (try simp only [AllLt, and_true] at l9); all_goals (try dsimp only); all_goals (try k_fold))
  k_with "call ref" => (k_here; (with_reducible show wpAny _ _ (call (Value.ref 192) _) _ _ _); k_dflt (refine Con.useT (by k_asm) (by k_asm) (by k_asm) (by k_asm) (by k_asm) (by first | exact rfl | assumption) (by ktr_room) (by ktr_units) (law_plain_c _ _ _ _ _) ?_); k_whole; intro D9 t9 u9 c9 h9 tk9 l9 F9 N9; (try simp only [AllLt, and_true] at l9); (try dsimp only); (try k_fold))
  k_with "compareOp NotEq ref ref" => (k_here; (with_reducible show wpAny _ _ (compareOp CmpOp.NotEq (Value.ref _) (Value.ref _)) _ _ _); k_dflt (refine ne_tupS (by (first | exact News.get (by k_asm) (by k_mem) | exact (Frag.In.keeps (by k_asm) (Fr.keep (by k_asm))) _ _ (by k_is))) (by (first | exact News.get (by k_asm) (by k_mem) | exact (Frag.In.keeps (by k_asm) (Fr.keep (by k_asm))) _ _ (by k_is))) (by first | ktr_units | units_room) (by first | exact z_p (by with_reducible assumption) (by with_reducible assumption) (by with_reducible assumption) rfl rfl | exact z_p (by with_reducible assumption) (by with_reducible assumption) (by with_reducible assumption) (by with_reducible assumption) (by with_reducible assumption) | exact z_p (by with_reducible assumption) (by with_reducible assumption) (by with_reducible assumption) (Eq.symm (by with_reducible assumption)) (Eq.symm (by with_reducible assumption)) | exact z_n (by with_reducible assumption) (by with_reducible assumption) (by with_reducible assumption) rfl rfl | exact z_n (by with_reducible assumption) (by with_reducible assumption) (by with_reducible assumption) (by with_reducible assumption) (by with_reducible assumption) | exact z_n (by with_reducible assumption) (by with_reducible assumption) (by with_reducible assumption) (Eq.symm (by with_reducible assumption)) (Eq.symm (by with_reducible assumption))) ?_; k_whole))
  unfold St
  k_fill
  intro dp un gd a ccd outer A₀ base h₀ L s Q E B F X N T hdp hun hret
  replace F := fr_in4 F ha hp hh hz
  replace N := news_in N hm
  conv in (ifS 7) => whnf
  conv in (occs := *) lawS => all_goals whnf
  repeat' (first | (k_unfold; (try dsimp only)) | (k_end; wrow_close) | walk1 | (dsimp only; walk1))
  all_goals exact st_end hret (by with_reducible assumption) (by with_reducible assumption) (by intro p hp; repeat first | exact hp | refine List.Mem.tail _ ?_) ⟨(by intro z; (try dsimp only); (repeat' split) <;> first | rfl | (subst_vars; symm; assumption)), rfl⟩
end
end Mine

namespace Mine
variable {w : World} {mean : ExcName → Option Value} {mg mb : Str → Option Value}
/-! the turn put together -/
def Sts (w : World) (mean : ExcName → Option Value) (mg mb : Str → Option Value) (st : List Stmt) (m : Str → Option Value) (news : List (Addr × Obj)) (Post : (Str → Option Value) → List (Addr × Obj) → Prop) : Prop :=
  ∀ (dp un : Nat) (gd : Option (List Code)) (a : Addr) (ccd : Value) (outer : List Env) (A₀ : Around) (base h₀ : Heap) (L : Addr) (s : Shared) (Q : Flow → Shared → Prop) (E : Value → Shared → Prop),
    Below A₀ base outer h₀ → Fr h₀ L s.heap m → (hd.heap_39 w.params).In h₀ → News h₀ L s.heap news → Top hd.view_39 (looseW hd.view_39 [Str.ofString "BasicError"]) mean mg mb h₀ →
    dp + 30 < recursionLimit → un + 300 < cLine →
    (∀ (m' : Str → Option Value) (news' : List (Addr × Obj)) (h' : Heap) (tk' : Nat), Post m' news' → Fr h₀ L h' m' → News h₀ L h' news' → Q .next { s with heap := h', toks := tk' }) →
    wpAny (model PySem.Challenge.rw_pq0171_01.row.prog w) (Around.deeper { handled := none, depth := dp, frames := some outer, guards := gd, units := un } (envOf (Str.ofString "law") lawS L a ccd)) (execs st (envOf (Str.ofString "law") lawS L a ccd)) Q E s
section
variable {st : Stmt} {sts : List Stmt} {m : Str → Option Value} {news news2 : List (Addr × Obj)} {P Post : (Str → Option Value) → List (Addr × Obj) → Prop}
theorem Sts.nil (h : Post m news) : Sts w mean mg mb [] m news Post := by
  unfold Sts
  intro dp un gd a ccd outer A₀ base h₀ L s Q E B F X N T hdp hun hret
  exact wpAny_execs_nil (hret m news s.heap s.toks h F N)
theorem Sts.cons (A : St w mean mg mb st m news P) (C : ∀ m' n', P m' n' → Sts w mean mg mb sts m' n' Post) : Sts w mean mg mb (st :: sts) m news Post := by
  unfold Sts
  intro dp un gd a ccd outer A₀ base h₀ L s Q E B F X N T hdp hun hret
  refine wpAny_execs_cons ?_
  unfold St at A
  exact A dp un gd a ccd outer A₀ base h₀ L s _ E B F X N T hdp hun fun m' n' h' tk' p F' N' => C m' n' p dp un gd a ccd outer A₀ base h₀ L _ Q E B F' X N' T hdp hun fun m2 n2 h2 tk2 r F2 N2 => hret m2 n2 h2 tk2 r F2 N2
theorem Sts.weak (hs : ∀ p ∈ news2, p ∈ news) (A : Sts w mean mg mb sts m news2 Post) : Sts w mean mg mb sts m news Post := by
  unfold Sts at *
  intro dp un gd a ccd outer A₀ base h₀ L s Q E B F X N T hdp hun hret
  exact A dp un gd a ccd outer A₀ base h₀ L s Q E B F X (news_sub N hs) T hdp hun hret
theorem St.mono (A : St w mean mg mb st m news P) (h : ∀ m' n', P m' n' → Post m' n') : St w mean mg mb st m news Post := by
  unfold St at *
  intro dp un gd a ccd outer A₀ base h₀ L s Q E B F X N T hdp hun hret
  exact A dp un gd a ccd outer A₀ base h₀ L s Q E B F X N T hdp hun fun m' n' h' tk p => hret m' n' h' tk (h m' n' p)
end
theorem fr_out1 {h₀ h : Heap} {L : Addr} {m : Str → Option Value} {x : Str} {v : Value} (hx : m x = some v) (F : Fr h₀ L h (fun y => if y = x then some v else m y)) : Fr h₀ L h m := by
  have e : (fun y => if y = x then some v else m y) = m := by
    funext y
    split
    · subst_vars; exact hx.symm
    · rfl
  rw [e] at F; exact F
theorem turn_is : turnB = [turnS 0, turnS 1, turnS 2, turnS 3, turnS 4, turnS 5, turnS 6] := by rfl
theorem ifs_is : bodyOf (turnS 6) = [ifS 0, ifS 1, ifS 2, ifS 3, ifS 4, ifS 5, ifS 6, ifS 7] := by rfl
theorem s6_c (kk : Int) (tk : Tok) (m : Str → Option Value) (news : List (Addr × Obj)) (P : (Str → Option Value) → List (Addr × Obj) → Prop) (ht : m (Str.ofString "turn") = some (.int kk tk)) (hyes : kk < 5 → Sts w mean mg mb (bodyOf (turnS 6)) m news P) (hno : ¬ kk < 5 → P m news) : St w mean mg mb (turnS 6) m news P := by
  k_with_none
  unfold St
  k_fill
  intro dp un gd a ccd outer A₀ base h₀ L s Q E B F X N T hdp hun hret
  replace F := fr_in1 F ht
  conv in (turnS 6) => whnf
  conv in (occs := *) lawS => all_goals whnf
  repeat' ((fail_if_success (with_reducible show wpAny _ _ (execs (List.cons _ _) _) _ _ _)); first | (k_unfold; (try dsimp only)) | (k_end; wrow_close) | walk1 | (dsimp only; walk1))
  · exact hyes (by assumption) dp un gd a ccd outer A₀ base h₀ L _ Q E B (fr_out1 ht (by assumption)) X (by assumption) T hdp hun hret
  · exact hret m news _ _ (hno (by assumption)) (fr_out1 ht (by assumption)) (by assumption)
end Mine

namespace Mine
variable {w : World} {mean : ExcName → Option Value} {mg mb : Str → Option Value}
theorem Sts.mono {sts : List Stmt} {m : Str → Option Value} {news : List (Addr × Obj)} {P Post : (Str → Option Value) → List (Addr × Obj) → Prop} (A : Sts w mean mg mb sts m news P) (h : ∀ m' n', P m' n' → Post m' n') : Sts w mean mg mb sts m news Post := by
  unfold Sts at *
  intro dp un gd a ccd outer A₀ base h₀ L s Q E B F X N T hdp hun hret
  exact A dp un gd a ccd outer A₀ base h₀ L s Q E B F X N T hdp hun fun m' n' h' tk p => hret m' n' h' tk (h m' n' p)
theorem drawn_b {x y : Int} (h : Drawn x y) : -1000000 < x ∧ x < 1000000 ∧ -6 ≤ y ∧ y ≤ 12 := by
  rcases h with ⟨rfl, rfl⟩ | ⟨_, _, a, b, c, _, e⟩
  · omega
  · exact ⟨a, b, c, e⟩
theorem N_small {x y : Int} (h : Drawn x y) : ab (x * 10 ^ (mx 0 y).toNat) < 10 ^ 12 := by
  have hp := pow10_pos (mx 0 y).toNat
  rw [ab_mul hp, mx_nat]
  rcases h with ⟨rfl, rfl⟩ | ⟨_, _, a, b, c, e, f⟩
  · rw [ab_is]; decide
  · have hS := ab_nn x
    rw [← ab_is] at e
    have h1 := figs_lt hS
    have hf := figs_pos (ab x)
    have h3 : (10 : Int) ^ (figs (ab x)).toNat * 10 ^ y.toNat ≤ 10 ^ 12 := by
      rw [← Int.pow_add]; refine pow10_mono ?_
      by_cases hy : 0 ≤ y
      · omega
      · have : figs (ab x) ≤ 6 := figs_le (k := 6) (by decide) (ab_lt (by omega) (by omega))
        omega
    have h2 : ab x * 10 ^ y.toNat < 10 ^ (figs (ab x)).toNat * 10 ^ y.toNat := Int.mul_lt_mul_of_pos_right h1 (pow10_pos _)
    omega
theorem ab_bd {z N : Int} (h : ab z < N) : -N < z ∧ z < N := by rw [ab_is] at h; split at h <;> omega
theorem inner_t (x y : Int) (D : Addr) (t1 t2 : Tok) (c : Nat) (B1 : Addr) (b0 : Int) (s0 : Tok) (b1 : Int) (s1 : Tok) (cb : Nat) (own : List (Addr × Obj)) (m : Str → Option Value) (hd : Drawn x y) (hne : D ≠ B1) (ho : OwnOff own [B1]) (hb0 : 0 ≤ b0) (hb1 : 0 ≤ b1) (hb2 : b1 < 900)
    (ha : m (Str.ofString "a") = some (.ref D)) (hx : m (Str.ofString "box") = some (.ref B1)) :
    Sts w mean mg mb (bodyOf (turnS 6)) m ((B1, boxO b0 s0 b1 s1 cb) :: (D, tupO x t1 y t2 c) :: own)
      (fun m' n' => (∃ (b0' : Int) (s0' s1' : Tok) (cb' : Nat), (B1, boxO b0' s0' (b1 + 1) s1' cb') ∈ n' ∧ 0 ≤ b0') ∧ (∀ p ∈ own, p ∈ n') ∧ ∀ z, z ≠ Str.ofString "unit" → z ≠ Str.ofString "number" → z ≠ Str.ofString "places" → z ≠ Str.ofString "here" → z ≠ Str.ofString "far" → z ≠ Str.ofString "size" → m' z = m z) := by
  obtain ⟨hx0, hx1, hy0, hy1⟩ := drawn_b hd
  have hN := N_small hd
  obtain ⟨hN0, hN1⟩ := ab_bd hN
  have hNn := ab_nn (x * 10 ^ (mx 0 y).toNat)
  have hm1 := mx_le (a := 0 - y) (k := 6) (by omega) (by omega)
  have hU0 := pow10_pos (mx 0 (0 - y)).toNat
  have hU1 : (10 : Int) ^ (mx 0 (0 - y)).toNat ≤ 10 ^ 6 := pow10_mono (by omega)
  have hpy : ((10 : Int) ^ (mx 0 (0 - y)).toNat).natAbs.log2 < 9000 := pow10_py (by omega)
  obtain ⟨hq0, hq1⟩ := fdiv_le hNn hU0
  have hmD : ∀ q : Addr × Obj, (D, tupO x t1 y t2 c) ∈ q :: (D, tupO x t1 y t2 c) :: own := fun q => List.mem_cons_of_mem _ (List.mem_cons_self ..)
  rw [ifs_is]
  refine Sts.cons (i0_c x y D t1 t2 c m _ (by omega) (by omega) (hmD _) ha) ?_
  rintro m1 n1 ⟨⟨tu, hu⟩, r1, rfl⟩
  have ha1 := (r1 _ (by decide)).trans ha
  have hx1' := (r1 _ (by decide)).trans hx
  refine Sts.cons (i1_c x y D t1 t2 c m1 _ (by omega) (by omega) (by omega) (by omega) (hmD _) ha1) ?_
  rintro m2 n2 ⟨⟨tn, hn⟩, r2, rfl⟩
  have ha2 := (r2 _ (by decide)).trans ha1
  have hx2 := (r2 _ (by decide)).trans hx1'
  have hu2 := (r2 _ (by decide)).trans hu
  refine Sts.cons (i2_c x y D t1 t2 c tu tn m2 _ hd hpy (hmD _) ha2 hu2 hn) ?_
  rintro m3 n3 ⟨r3, rfl⟩
  refine Sts.cons (i3_c x y D t1 t2 c tu tn m3 _ hd hpy hq0 (by omega) (hmD _) ((r3 _).trans ha2) ((r3 _).trans hu2) ((r3 _).trans hn)) ?_
  rintro m4 n4 ⟨r4, rfl⟩
  have hr4 : ∀ z, m4 z = m2 z := fun z => (r4 z).trans (r3 z)
  refine Sts.cons (i4_c B1 b0 s0 b1 s1 cb ((D, tupO x t1 y t2 c) :: own) m4 (ownoff_cons hne ho) hb0 hb1 hb2 ((hr4 _).trans hx2)) ?_
  rintro m5 n5 ⟨p, tp, b0', s0', s1', cb', hp, r5, rfl, hp0, hp1, hb0'⟩
  have ha5 := (r5 _ (by decide)).trans ((hr4 _).trans ha2)
  have hu5 := (r5 _ (by decide)).trans ((hr4 _).trans hu2)
  have hn5 := (r5 _ (by decide)).trans ((hr4 _).trans hn)
  refine Sts.cons (i5_c (x * 10 ^ (mx 0 y).toNat) (10 ^ (mx 0 (0 - y)).toNat) p tu tn tp m5 _ hp0 hp1 (by omega) (by omega) hU0 (by omega) hu5 hn5 hp) ?_
  rintro m6 n6 ⟨⟨th, hh⟩, ⟨tf, hf⟩, r6, rfl⟩
  have ha6 := (r6 _ (by decide) (by decide)).trans ha5
  have hp6 := (r6 _ (by decide) (by decide)).trans hp
  have hk := pow10_pos (mx 0 p).toNat
  have hk3 : (10 : Int) ^ (mx 0 p).toNat ≤ 10 ^ 3 := pow10_mono (by have := mx_le (a := p) (k := 3) hp1 (by omega); omega)
  have hH : ab (x * 10 ^ (mx 0 y).toNat * 10 ^ (mx 0 p).toNat) < 2 ^ 64 := by
    rw [ab_mul hk]
    have := Int.mul_le_mul_of_nonneg_left hk3 hNn
    omega
  have hW : (10 : Int) ^ (mx 0 (0 - y)).toNat * 10 ^ (mx 0 (0 - p)).toNat = 10 ^ ((0 - y).toNat + (0 - p).toNat) := (R_val (x := x) (y := y) (p := p)).2
  have hW0 : (0 : Int) < 10 ^ (mx 0 (0 - y)).toNat * 10 ^ (mx 0 (0 - p)).toNat := by rw [hW]; exact pow10_pos _
  have hW1 : ((10 : Int) ^ (mx 0 (0 - y)).toNat * 10 ^ (mx 0 (0 - p)).toNat).natAbs.log2 < 9000 := by rw [hW]; exact pow10_py (by omega)
  refine Sts.cons (i6_c _ _ th tf m6 _ hH hW0 hW1 hh hf) ?_
  rintro m7 n7 ⟨⟨tz, hz⟩, r7, rfl⟩
  refine Sts.cons (i7_c x y D t1 t2 c p _ _ _ _ tp th tz m7 _ hd hp0 hp1 rfl rfl ?_ ?_ (hmD _) ((r7 _ (by decide)).trans ha6) ((r7 _ (by decide)).trans hp6) ((r7 _ (by decide)).trans hh) hz) ?_
  · intro hq
    rw [R_1 hd hq rfl rfl]; exact ⟨rfl, rfl⟩
  · intro hq hx'
    exact R_2 hq hx' rfl rfl
  rintro m8 n8 ⟨r8, rfl⟩
  refine Sts.nil ⟨⟨b0', s0', s1', cb', List.mem_cons_self .., hb0'⟩, fun q hq => List.mem_cons_of_mem _ (List.mem_cons_of_mem _ hq), ?_⟩
  intro z z1 z2 z3 z4 z5 z6
  rw [r8, r7 z z6, r6 z z4 z5, r5 z z3, hr4, r2 z z2, r1 z z1]
end Mine

namespace Mine
variable {w : World} {mean : ExcName → Option Value} {mg mb : Str → Option Value}
def storedL : List Str := [Str.ofString "a", Str.ofString "tail", Str.ofString "text", Str.ofString "unit", Str.ofString "number", Str.ofString "places", Str.ofString "here", Str.ofString "far", Str.ofString "size"]
theorem not_st {z n : Str} (hz : storedL.contains z = false) (hn : storedL.contains n = true) : z ≠ n := fun e => by rw [e, hn] at hz; cases hz
theorem s4_t (l tl : List Nat) (u tt : Tok) (m : Str → Option Value) (news : List (Addr × Obj)) (htl : TailIn tl) (ha : m (Str.ofString "tail") = some (.str (txt tl) tt)) (ht : m (Str.ofString "text") = some (.str (txt l) u)) :
    St w mean mg mb (turnS 4) m news (fun m' n' => (∃ (tl' : List Nat) (t : Tok), m' (Str.ofString "tail") = some (.str (txt tl') t) ∧ (TailOk tl' ∨ (tl' = [46, 53] ∧ 69 ∈ l))) ∧ (∀ z, z ≠ Str.ofString "tail" → m' z = m z) ∧ n' = news) := by
  have no : ∀ {tl : List Nat}, m (Str.ofString "tail") = some (.str (txt tl) tt) → (txt tl == Str.ofString ".5") = false → TailOk tl → St w mean mg mb (turnS 4) m news (fun m' n' => (∃ (tl' : List Nat) (t : Tok), m' (Str.ofString "tail") = some (.str (txt tl') t) ∧ (TailOk tl' ∨ (tl' = [46, 53] ∧ 69 ∈ l))) ∧ (∀ z, z ≠ Str.ofString "tail" → m' z = m z) ∧ n' = news) := fun {tl} ha hno hok =>
    St.mono (s4_no l tl u tt m news hno ha ht) fun m' n' h => ⟨⟨tl, tt, (h.1 _).trans ha, .inl hok⟩, fun z _ => h.1 z, h.2⟩
  rcases htl with rfl | rfl | rfl | rfl | rfl | rfl | rfl
  · exact no ha (by decide) (.inl rfl)
  · exact no ha (by decide) (.inr (.inl rfl))
  · exact no ha (by decide) (.inr (.inr (.inl rfl)))
  · exact no ha (by decide) (.inr (.inr (.inr (.inl rfl))))
  · exact no ha (by decide) (.inr (.inr (.inr (.inr (.inl rfl)))))
  · exact no ha (by decide) (.inr (.inr (.inr (.inr (.inr (.inl rfl))))))
  · refine St.mono (s4_yes l u tt m news ha ht) fun m' n' h => ?_
    obtain ⟨⟨tl, t, h1, h2⟩, h3, h4⟩ := h
    refine ⟨⟨tl, t, h1, ?_⟩, h3, h4⟩
    rcases h2 with rfl | h2
    · exact .inl (.inr (.inr (.inr (.inr (.inr (.inr rfl))))))
    · exact .inr h2
theorem turn_t (B1 : Addr) (b0 : Int) (s0 : Tok) (b1 : Int) (s1 : Tok) (c : Nat) (own : List (Addr × Obj)) (k : Int) (t : Tok) (d : Int) (td : Tok) (m : Str → Option Value) (ho : OwnOff own [B1]) (hk0 : 0 ≤ k) (hk6 : k < 6) (hb0 : 0 ≤ b0) (hb1 : 0 ≤ b1) (hb2 : b1 ≤ 10 + 20 * k) (hd6 : 6 ≤ d) (hd8 : d ≤ 8)
    (ht : m (Str.ofString "turn") = some (.int k t)) (hx : m (Str.ofString "box") = some (.ref B1)) (hdg : m (Str.ofString "digits") = some (.int d td)) :
    Sts w mean mg mb turnB m ((B1, boxO b0 s0 b1 s1 c) :: own)
      (fun m' n' => (∃ (b0' : Int) (s0' : Tok) (b1' : Int) (s1' : Tok) (cb : Nat), (B1, boxO b0' s0' b1' s1' cb) ∈ n' ∧ 0 ≤ b0' ∧ 0 ≤ b1' ∧ b1' ≤ 30 + 20 * k) ∧ (∀ p ∈ own, p ∈ n') ∧ ∀ z, storedL.contains z = false → m' z = m z) := by
  rw [turn_is]
  refine Sts.cons (s0_c B1 b0 s0 b1 s1 c own m ho hb0 hb1 (by omega) hx) ?_
  rintro m1 n1 ⟨x, y, D, t1, t2, c1, tl, tt, b0', s0', b1', s1', cb, ha, htl, r1, rfl, hne, hdr, hTl, hb0', hb1', hb2'⟩
  have ht1 := (r1 _ (by decide) (by decide)).trans ht
  have hx1 := (r1 _ (by decide) (by decide)).trans hx
  have hd1 := (r1 _ (by decide) (by decide)).trans hdg
  refine Sts.cons (s1_c x y D t1 t2 c1 k t B1 (boxO b0' s0' b1' s1' cb) m1 _ hne (List.mem_cons_self ..) (List.mem_cons_of_mem _ (List.mem_cons_self ..)) ht1 ha) ?_
  rintro m2 n2 ⟨D', y', t1', t2', c2, ha2, r2, hmD, hsub, hne', hy'⟩
  have hw := wide_of hdr hy'
  have hwb : -(10 ^ 20) < x ∧ x < 10 ^ 20 ∧ -1000 < y' ∧ y' < 1000 := by rcases hw with ⟨rfl, rfl⟩ | ⟨_, _, _, _, _, _⟩ <;> omega
  have ht2 := (r2 _ (by decide)).trans ht1
  have hx2 := (r2 _ (by decide)).trans hx1
  have hd2 := (r2 _ (by decide)).trans hd1
  have htl2 := (r2 _ (by decide)).trans htl
  refine Sts.cons (s2_c x y' D' t1' t2' c2 d td m2 n2 hwb.1 hwb.2.1 hwb.2.2.1 hwb.2.2.2 (by omega) (by omega) hmD ha2 hd2) ?_
  rintro m3 n3 ⟨⟨tx, htx⟩, r3, rfl⟩
  have ha3 := (r3 _ (by decide)).trans ha2
  have ht3 := (r3 _ (by decide)).trans ht2
  have hx3 := (r3 _ (by decide)).trans hx2
  have hd3 := (r3 _ (by decide)).trans hd2
  have htl3 := (r3 _ (by decide)).trans htl2
  refine Sts.cons (s3_c D' d td tx (dtL x y' d) m3 n3 (shape_t hmD hw hd6 hd8) ha3 htx hd3) ?_
  rintro m4 n4 ⟨r4, rfl⟩
  have hlen := dt_len (d := d) hw
  refine Sts.cons (s4_t (dtL x y' d) tl tx tt m4 n4 hTl ((r4 _).trans htl3) ((r4 _).trans htx)) ?_
  rintro m5 n5 ⟨⟨tl', tt', htl5, hTl'⟩, r5, rfl⟩
  have ha5 := (r5 _ (by decide)).trans ((r4 _).trans ha3)
  have ht5 := (r5 _ (by decide)).trans ((r4 _).trans ht3)
  have hx5 := (r5 _ (by decide)).trans ((r4 _).trans hx3)
  have hd5 := (r5 _ (by decide)).trans ((r4 _).trans hd3)
  have htx5 := (r5 _ (by decide)).trans ((r4 _).trans htx)
  have htlen : (txt tl').length < 10 := by
    rcases hTl' with h | ⟨rfl, _⟩
    · rcases h with rfl | rfl | rfl | rfl | rfl | rfl | rfl <;> decide
    · decide
  refine Sts.cons (s5_c x y' D' t1' t2' c2 d td tx tt' (dtL x y' d) tl' m5 n5 hlen htlen (fun u2 nw => back_t hw hd6 hd8 hTl') hmD ha5 htx5 htl5 hd5) ?_
  rintro m6 n6 ⟨r6, rfl⟩
  have rest : ∀ z, storedL.contains z = false → m6 z = m z := fun z hz => by
    rw [r6, r5 z (not_st hz (by decide)), r4, r3 z (not_st hz (by decide)), r2 z (not_st hz (by decide)), r1 z (not_st hz (by decide)) (not_st hz (by decide))]
  have hbox := hsub _ (List.mem_cons_self ..)
  have hown : ∀ p ∈ own, p ∈ n6 := fun p hp => hsub p (List.mem_cons_of_mem _ (List.mem_cons_of_mem _ hp))
  refine Sts.cons (s6_c k t m6 n6 _ ((r6 _).trans ht5) (fun hk => ?_) (fun _ => ?_)) fun m' n' h => Sts.nil h
  · have hy : y' = y := by rcases hy' with h | ⟨h, _⟩ <;> omega
    subst hy
    refine Sts.weak (news2 := (B1, boxO b0' s0' b1' s1' cb) :: (D', tupO x t1' y' t2' c2) :: own) (fun p hp => ?_) (Sts.mono (inner_t x y' D' t1' t2' c2 B1 b0' s0' b1' s1' cb own m6 hdr hne' ho hb0' hb1' (by omega) ((r6 _).trans ha5) ((r6 _).trans hx5)) fun m' n' h => ?_)
    · rcases List.mem_cons.mp hp with rfl | hp
      · exact hbox
      rcases List.mem_cons.mp hp with rfl | hp
      · exact hmD
      · exact hown p hp
    · obtain ⟨⟨b0'', s0'', s1'', cb'', h1, h2⟩, h3, h4⟩ := h
      refine ⟨⟨b0'', s0'', b1' + 1, s1'', cb'', h1, h2, by omega, by omega⟩, h3, fun z hz => ?_⟩
      rw [h4 z (not_st hz (by decide)) (not_st hz (by decide)) (not_st hz (by decide)) (not_st hz (by decide)) (not_st hz (by decide)) (not_st hz (by decide)), rest z hz]
  · exact ⟨⟨b0', s0', b1', s1', cb, hbox, hb0', hb1', by omega⟩, hown, rest⟩
end Mine

namespace Mine
theorem turn_w {w : World} {mean : ExcName → Option Value} {mg mb : Str → Option Value} {dp un : Nat} {gd : Option (List Code)} {a : Addr} {ccd : Value} {outer : List Env} {A₀ : Around} {base h₀ : Heap} {L : Addr} {s : Shared} {E : Value → Shared → Prop} {m₀ u : Str → Option Value}
    {B1 : Addr} {b0 : Int} {s0 : Tok} {b1 : Int} {s1 : Tok} {c : Nat} {own : List (Addr × Obj)} {k : Int} {t : Tok} {d : Int} {td : Tok}
    (B : Below A₀ base outer h₀) (F : Fr h₀ L s.heap (fun y => if y = Str.ofString "turn" then some (.int k t) else if storedL.contains y = true then u y else m₀ y)) (X : (hd.heap_39 w.params).In h₀) (N : News h₀ L s.heap ((B1, boxO b0 s0 b1 s1 c) :: own))
    (T : Top hd.view_39 (looseW hd.view_39 [Str.ofString "BasicError"]) mean mg mb h₀) (hdp : dp + 30 < recursionLimit) (hun : un + 300 < cLine)
    (ho : OwnOff own [B1]) (hk0 : 0 ≤ k) (hk6 : k < 6) (hb0 : 0 ≤ b0) (hb1 : 0 ≤ b1) (hb2 : b1 ≤ 10 + 20 * k) (hd6 : 6 ≤ d) (hd8 : d ≤ 8)
    (hx : m₀ (Str.ofString "box") = some (.ref B1)) (hdg : m₀ (Str.ofString "digits") = some (.int d td)) :
    wpAny (model PySem.Challenge.rw_pq0171_01.row.prog w) (Around.deeper { handled := none, depth := dp, frames := some outer, guards := gd, units := un } (envOf (Str.ofString "law") lawS L a ccd)) (execs turnB (envOf (Str.ofString "law") lawS L a ccd))
      (fun f s₂ => f = .next ∧ TurnEnd h₀ L (Str.ofString "turn") storedL m₀ own B1 k s s₂) E s := by
  have H := turn_t (w := w) (mean := mean) (mg := mg) (mb := mb) B1 b0 s0 b1 s1 c own k t d td (fun y => if y = Str.ofString "turn" then some (.int k t) else if storedL.contains y = true then u y else m₀ y) ho hk0 hk6 hb0 hb1 hb2 hd6 hd8 (if_pos rfl)
    ((if_neg (by decide)).trans ((if_neg (by decide)).trans hx)) ((if_neg (by decide)).trans ((if_neg (by decide)).trans hdg))
  unfold Sts at H
  refine H dp un gd a ccd outer A₀ base h₀ L s _ E B F X N T hdp hun fun m' n' h' tk' r F' N' => ?_
  obtain ⟨⟨b0', s0', b1', s1', cb, h1, h2, h3, h4⟩, h5, h6⟩ := r
  refine ⟨rfl, h', tk', m', n', b0', s0', b1', s1', cb, rfl, F', N', h1, h5, h2, h3, h4, fun z hz hs => ?_⟩
  rw [h6 z hs, if_neg hz, if_neg (by rw [hs]; decide)]
end Mine

namespace Mine
-- variable {w : World} {mean : ExcName → Option Value} {mg mb : Str → Option Value}
section
theorem t : PySem.Challenge.rw_pq0171_01.Holds := by
  k_with_none
  k_with "call ref" => (k_here; (with_reducible show wpAny _ _ (call (Value.ref 164) _) _ _ _); k_dflt (refine Con.useK2 (by k_asm) (by k_asm) (by k_asm) (by k_asm) (by k_asm) (by first | exact rfl | assumption) (by ktr_room) (by ktr_units) (law_take_3 _ _ _ _ _ _ _ _ _ _ _ _ _ (by first | assumption | k_ne) (by first | assumption | k_ne) (by first | assumption | (repeat' (first | exact ownoff_nil | assumption | (refine ownoff_cons (by k_ne) ?_)))) (by first | assumption | omega) (by first | assumption | omega) (by first | assumption | omega) (by first | decide | exact pow10_pos _ | with_reducible assumption | omega) (by first | decide | exact pow10_lt30 (by omega) | with_reducible assumption | omega)) ?_); k_whole; intro x9 t9 b9 u9 w9 c9 h9 tk9 hx9 hy9 hb9 F9 N9; (try dsimp only); (try k_fold))
  k_with "call ref" => (k_here; (with_reducible show wpAny _ _ (call (Value.ref 164) _) _ _ _); k_dflt (refine Con.useK2 (by k_asm) (by k_asm) (by k_asm) (by k_asm) (by k_asm) (by first | exact rfl | assumption) (by ktr_room) (by ktr_units) (law_take_2 _ _ _ _ _ _ _ _ _ _ _ (by first | assumption | k_ne) (by first | assumption | (repeat' (first | exact ownoff_nil | assumption | (refine ownoff_cons (by k_ne) ?_)))) (by first | assumption | omega) (by first | assumption | omega) (by first | assumption | omega) (by first | decide | exact pow10_pos _ | with_reducible assumption | omega) (by first | decide | exact pow10_lt30 (by omega) | with_reducible assumption | omega)) ?_); k_whole; intro x9 t9 b9 u9 w9 c9 h9 tk9 hx9 hy9 hb9 F9 N9; (try dsimp only); (try k_fold))
  k_with "call ref" => (k_here; (with_reducible show wpAny _ _ (call (Value.ref 164) _) _ _ _); k_dflt (refine Con.useK (by k_asm) (by k_asm) (by k_asm) (by k_asm) (by k_asm) (by first | exact rfl | assumption) (by ktr_room) (by ktr_units) (law_take_c _ _ _ _ _ _ _ _ _ (by first | assumption | (repeat' (first | exact ownoff_nil | assumption | (refine ownoff_cons (by k_ne) ?_)))) (by first | assumption | omega) (by first | assumption | omega) (by first | assumption | omega) (by first | decide | exact pow10_pos _ | with_reducible assumption | omega) (by first | decide | exact pow10_lt30 (by omega) | with_reducible assumption | omega)) ?_); k_whole; intro x9 t9 b9 u9 w9 c9 h9 tk9 hx9 hy9 hb9 F9 N9; (try dsimp only); (try k_fold))
  k_with "call ref" => (k_here; (with_reducible show wpAny _ _ (call (Value.ref 87) _) _ _ _); k_dflt (refine Con.useT (by k_asm) (by k_asm) (by k_asm) (by k_asm) (by k_asm) (by first | exact rfl | assumption) (by ktr_room) (by ktr_units) (d_whole_neg _ _ _ _ _ _ _ _ _ (by k_mem) (by first | assumption | omega) (by first | assumption | omega) (by first | with_reducible assumption | exact init_f (by decide) (by decide)) (by first | decide | assumption | omega)) ?_); k_whole; intro D9 t9 u9 c9 h9 tk9 l9 F9 N9; (try simp only [AllLt, and_true] at l9); (try dsimp only); (try k_fold))
  k_with "call ref" => (k_here; (with_reducible show wpAny _ _ (call (Value.ref 94) _) _ _ _); k_dflt (refine Con.useT (by k_asm) (by k_asm) (by k_asm) (by k_asm) (by k_asm) (by first | exact rfl | assumption) (by ktr_room) (by ktr_units) (d_fix_neg _ _ _ _ _ _ _ _ _ (by k_mem) (by first | assumption | omega) (by first | assumption | omega) (by first | with_reducible assumption | exact init_f (by decide) (by decide)) (by first | decide | assumption | omega)) ?_); k_whole; intro D9 t9 u9 c9 h9 tk9 l9 F9 N9; (try simp only [AllLt, and_true] at l9); (try dsimp only); (try k_fold))
  k_with "compareOp NotEq ref ref" => (k_here; (with_reducible show wpAny _ _ (compareOp CmpOp.NotEq (Value.ref _) (Value.ref _)) _ _ _); k_dflt (refine ne_tupS (by (first | exact News.get (by k_asm) (by k_mem) | exact (Frag.In.keeps (by k_asm) (Fr.keep (by k_asm))) _ _ (by k_is))) (by (first | exact News.get (by k_asm) (by k_mem) | exact (Frag.In.keeps (by k_asm) (Fr.keep (by k_asm))) _ _ (by k_is))) (by first | ktr_units | units_room) (by first | exact init_1 | exact init_2) ?_; k_whole))
  k_with "subscriptTail" => (k_here; (with_reducible show wpAny _ _ (subscriptTail (PySem.Expr.Subscript _ _ _) _ (Value.ref _) (Value.ref _)) _ _ _); k_dflt (refine kba_turn (value' := PySem.Expr.Name (PySem.Str.ofString "_") ⟨0, 0, 0, 0⟩) (fun _ => rfl) ?_))
  k_with "NoB" => (refine nob (by with_reducible assumption) (by with_reducible assumption) (by intro p hp; repeat first | exact hp | refine List.Mem.tail _ ?_) ?_; rfl)
  k_with "exec If" => (k_here; (with_reducible show wpAny _ _ (exec (Stmt.If (PySem.Expr.BoolOp PySem.BoolOp.Or _ _) _ [] _) _) _ _ _); k_dflt (refine if_no (by k_asm) (by k_asm) ?_ ?_); rotate_left; (intro hj9 tj9 Fj9 Nj9; (try dsimp only)); all_goals (try k_fold))
  k_with "pyIter ref" => (k_here; (rename IsRange _ _ _ _ _ _ _ _ => rgX); (rename Fr _ _ _ _ => lF'); (rename News _ _ _ _ => lN'); k_dflt (with_unfolding_all refine law_for storedL rfl rgX lF' lN' (by k_mem) (by first | assumption | omega) (by first | assumption | omega) (by first | assumption | omega) (fun b0 s0 b1 s1 c k t u h tk own hk0 hk6 hoff hb0 hb1 hb2 kFr kNews => by clear lF' lN'; exact turn_w (by with_reducible assumption) kFr (by with_reducible assumption) kNews (by with_reducible assumption) (by decide) (by decide) hoff hk0 hk6 hb0 hb1 hb2 (by omega) (by omega) rfl rfl) (fun b0 s0 b1 s1 c u h tk kFr kNews => ?_)); (clear lF' lN'); all_goals (try k_fold))
  k_with "exec For Name Call cons nil" => (k_here; (with_reducible show wpAny _ _ (exec (Stmt.For (PySem.Expr.Name (Str.ofString "turn") _) _ _ _ _) _) _ _ _); (rename Fr _ _ _ _ => lF'); k_dflt (with_unfolding_all (refine For_invVF lF' (by exact rfl) (by exact rfl) ?_)))
  k_with "call ref" => (k_here; (with_reducible show wpAny _ _ (call (Value.ref 150) _) _ _ _); k_dflt (refine Con.useV (by k_asm) (by k_asm) (by k_asm) (by k_asm) (by k_asm) (by first | exact rfl | assumption) (by ktr_room) (by ktr_units) (none_1 _ _ _ _) ?_); k_whole; intro h9 tk9 F9 N9; (try dsimp only); (try k_fold))
  k_with "call ref" => (k_here; (with_reducible show wpAny _ _ (call (Value.ref 150) _) _ _ _); k_dflt (refine Con.useV (by k_asm) (by k_asm) (by k_asm) (by k_asm) (by k_asm) (by first | exact rfl | assumption) (by ktr_room) (by ktr_units) (none_2 _ _ _ _) ?_); k_whole; intro h9 tk9 F9 N9; (try dsimp only); (try k_fold))
  w_on
  refine Mine.hd ?_
  k_with "pyIter ref" => k_state (fun pre found => 0 ≤ found) "found"
  w_strict (k_go0; all_goals (try k_fold))
  repeat' (first | (k_unfold; (try dsimp only)) | (k_end; wrow_close) | walk1 | (dsimp only; walk1) | (leave1; walk_say "STEP leave1"; try dsimp only))
end
end Mine

theorem PySem.Challenge.cw_pq0171_01_holds : PySem.Challenge.rw_pq0171_01.Holds := by
  exact Mine.t
