import PyProof.Rows.All
import Wide.All
import OpenK.AllK
import Wide.FinOn
import PySem.Challenge.RW_og0169_01
open PySem PySem.W PyProof.Rows
set_option Elab.async false
namespace Mine
section
local macro_rules | `(tactic| o_head $_) => `(tactic| exact (by assumption : ∀ P : Prop, P) _)
set_option maxRecDepth 100000 in
set_option maxHeartbeats 8000000 in
/-- lays the written part of the top's heap, fr.heap_1 -/
theorem fr (h : ∀ P : Prop, P) : PySem.Challenge.rw_og0169_01.row.Holds := by
  k_head
end
def pickAt (l : List Stmt) (is : List Nat) : List Stmt := is.filterMap fun i => l[i]?
/-- the text's view: its statements but those that rebind a name -/
def lawView : Program := { PySem.Challenge.rw_og0169_01.row.toRowW.prog with main := { PySem.Challenge.rw_og0169_01.row.toRowW.prog.main with body := pickAt PySem.Challenge.rw_og0169_01.row.toRowW.prog.main.body [0, 2, 3, 5, 6, 8, 9, 10, 11, 12, 13, 14, 15, 16, 17, 18, 20, 21, 22, 23, 24, 27, 28, 29, 30, 31, 32] } }
end Mine
open PySem PySem.W PyProof.Rows PySem.Spec PySem.Calls
set_option compiler.extract_closed false
namespace Mine
/-- the calls' contract, over the ledger -/
def Spec (w : World) (f : Addr) (sz : Nat) (args : List Value) (pre : List (Addr × Obj)) (post : Value → List (Addr × Obj) → Prop) : Prop :=
  ∀ (dp un : Nat) (gd : Option (List Code)) (cn : Str) (cs : Scope) (a : Addr) (ccd : Value) (cl : List (Str × Addr)) (outer : List Env) (A₀ : Around) (base h₀ : Heap) (L : Addr) (m : Str → Option Value) (s : Shared)
    (loose : List Str) (mean : ExcName → Option Value) (mg mb : Str → Option Value) (Q E : Value → Shared → Prop),
    Below A₀ base outer h₀ → Fr h₀ L s.heap m → (fr.heap_1 w.params).In h₀ → News h₀ L s.heap pre → Top lawView loose mean mg mb h₀ → cs.kind = .function → dp + sz < recursionLimit → un + 8 * sz < cLine →
    (∀ r news' h' tk', Fr h₀ L h' m → News h₀ L h' news' → post r news' → Q r { s with heap := h', toks := tk' }) →
    wpAny (model PySem.Challenge.rw_og0169_01.row.prog w) (ktrTop dp un gd cn cs L a ccd cl outer) (call (.ref f) args) Q E s
theorem spec_use {w : World} {f : Addr} {sz : Nat} {args : List Value} {pre : List (Addr × Obj)} {post : Value → List (Addr × Obj) → Prop}
    {dp un : Nat} {gd : Option (List Code)} {cn : Str} {cs : Scope} {a : Addr} {ccd : Value} {cl : List (Str × Addr)} {outer : List Env} {A₀ : Around} {base h₀ : Heap} {L : Addr} {m : Str → Option Value} {s : Shared}
    {loose : List Str} {mean : ExcName → Option Value} {mg mb : Str → Option Value} {Q E : Value → Shared → Prop}
    (B : Below A₀ base outer h₀) (F : Fr h₀ L s.heap m) (X : (fr.heap_1 w.params).In h₀) (N : News h₀ L s.heap pre) (T : Top lawView loose mean mg mb h₀) (hk : cs.kind = .function)
    (C : Spec w f sz args pre post) (hd' : dp + sz < recursionLimit) (hu : un + 8 * sz < cLine)
    (ret : ∀ r news' h' tk', Fr h₀ L h' m → News h₀ L h' news' → post r news' → Q r { s with heap := h', toks := tk' }) :
    wpAny (model PySem.Challenge.rw_og0169_01.row.prog w) (ktrTop dp un gd cn cs L a ccd cl outer) (call (.ref f) args) Q E s := C _ _ _ _ _ _ _ _ _ _ _ _ _ _ _ _ _ _ _ _ _ B F X N T hk hd' hu ret
theorem ret_same {h₀ : Heap} {L : Addr} {m : Str → Option Value} {s : Shared} {Q : Value → Shared → Prop} {v : Value} {pre : List (Addr × Obj)} (k : ∀ h' tk', Fr h₀ L h' m → News h₀ L h' pre → Q v { s with heap := h', toks := tk' }) :
    ∀ r n' h' tk', Fr h₀ L h' m → News h₀ L h' n' → (r = v ∧ n' = pre) → Q r { s with heap := h', toks := tk' } := by
  rintro r n' h' tk' F N ⟨rfl, rfl⟩
  exact k h' tk' F N
theorem ret_kind {h₀ : Heap} {L : Addr} {m : Str → Option Value} {s : Shared} {Q : Value → Shared → Prop} {x : Str} {pre : List (Addr × Obj)} (k : ∀ t h' tk', Fr h₀ L h' m → News h₀ L h' pre → Q (.str x t) { s with heap := h', toks := tk' }) :
    ∀ r n' h' tk', Fr h₀ L h' m → News h₀ L h' n' → (n' = pre ∧ ∃ t, r = .str x t) → Q r { s with heap := h', toks := tk' } := by
  rintro r n' h' tk' F N ⟨rfl, t, rfl⟩
  exact k t h' tk' F N
theorem ret_obj {h₀ : Heap} {L : Addr} {m : Str → Option Value} {s : Shared} {Q : Value → Shared → Prop} {l : Addr → Addr → Tok → Tok → Nat → List (Addr × Obj)} {rest : List (Addr × Obj)} (k : ∀ x dx a c n h' tk', Fr h₀ L h' m → News h₀ L h' (l x dx a c n) → (∀ z ∈ rest, z.1 < dx) → dx < x → Q (.ref x) { s with heap := h', toks := tk' }) :
    ∀ r n' h' tk', Fr h₀ L h' m → News h₀ L h' n' → (∃ x dx a c n, r = .ref x ∧ n' = l x dx a c n ∧ (∀ z ∈ rest, z.1 < dx) ∧ dx < x) → Q r { s with heap := h', toks := tk' } := by
  rintro r n' h' tk' F N ⟨x, dx, a, c, n, rfl, rfl, a1, a2⟩
  exact k x dx a c n h' tk' F N a1 a2
theorem ret_obj1 {h₀ : Heap} {L : Addr} {m : Str → Option Value} {s : Shared} {Q : Value → Shared → Prop} {l : Addr → Addr → Tok → Nat → List (Addr × Obj)} {rest : List (Addr × Obj)} (k : ∀ x dx a n h' tk', Fr h₀ L h' m → News h₀ L h' (l x dx a n) → (∀ z ∈ rest, z.1 < dx) → dx < x → Q (.ref x) { s with heap := h', toks := tk' }) :
    ∀ r n' h' tk', Fr h₀ L h' m → News h₀ L h' n' → (∃ x dx a n, r = .ref x ∧ n' = l x dx a n ∧ (∀ z ∈ rest, z.1 < dx) ∧ dx < x) → Q r { s with heap := h', toks := tk' } := by
  rintro r n' h' tk' F N ⟨x, dx, a, n, rfl, rfl, a1, a2⟩
  exact k x dx a n h' tk' F N a1 a2
theorem Spec.mono {w : World} {f : Addr} {sz : Nat} {args : List Value} {pre : List (Addr × Obj)} {post post' : Value → List (Addr × Obj) → Prop} (C : Spec w f sz args pre post) (h : ∀ r n, post r n → post' r n) : Spec w f sz args pre post' :=
  fun _ _ _ _ _ _ _ _ _ _ _ _ _ _ _ _ _ _ _ _ _ B F X N T hk hd' hu ret => C _ _ _ _ _ _ _ _ _ _ _ _ _ _ _ _ _ _ _ _ _ B F X N T hk hd' hu fun r n h' tk' F' N' hp => ret r n h' tk' F' N' (h r n hp)
theorem room {dp n a : Nat} (h : dp + n < recursionLimit) (l : 1 + a ≤ n) : dp + 1 + a < recursionLimit := Nat.lt_of_le_of_lt (by rw [Nat.add_assoc]; exact Nat.add_le_add_left l dp) h
theorem units {un n a : Nat} (h : un + 8 * n < cLine) (l : 1 + a ≤ n) : un + 3 + 8 * a < cLine := Nat.lt_of_le_of_lt (by omega) h
theorem room2 {dp n a : Nat} (h : dp + n < recursionLimit) (l : 1 + (1 + a) ≤ n) : dp + 1 + 1 + a < recursionLimit := by rw [Nat.add_assoc]; exact room h l
theorem units2 {un n a : Nat} (h : un + 8 * n < cLine) (l : 1 + (1 + a) ≤ n) : un + 3 + 3 + 8 * a < cLine := Nat.lt_of_le_of_lt (by omega) h
theorem room_sz {sz m a : Nat} (h : m ≤ sz) (l : a ≤ m) : 1 + a ≤ sz + 1 := by rw [Nat.add_comm]; exact Nat.succ_le_succ (Nat.le_trans l h)
theorem room_k {a k : Nat} (h : 1 ≤ k) : 1 + a ≤ a + k := by rw [Nat.add_comm]; exact Nat.add_le_add_left h a
theorem room_n {a sz k : Nat} (h : 1 + a ≤ k) : 1 + a ≤ sz + k := Nat.le_trans h (Nat.le_add_left k sz)
theorem off_of {d : Addr} {l : List (Addr × Obj)} (h : AllLt d l) : ∀ p ∈ l, p.1 ≠ d := fun p hp => Nat.ne_of_lt (ktn_ltOf h p hp)
theorem off_lt {d e : Addr} {l : List (Addr × Obj)} (h : ∀ p ∈ l, p.1 < e) (k : e ≤ d) : ∀ p ∈ l, p.1 ≠ d := fun p hp => Nat.ne_of_lt (Nat.lt_of_lt_of_le (h p hp) k)

section
variable {prog : Program} {w : World} {A : Around} {E : Value → Shared → Prop} {s : Shared} {h₀ h : Heap} {L D : Addr} {m : Str → Option Value} {news news' : List (Addr × Obj)} {n : Nat}
theorem cut0 (y : Value) (q : List Value) : kl_cut (y :: q) 0 = some ([], y, q) := rfl
/-- xs.pop(0) of a list whose rest is not known -/
theorem pop0 {y : Value} {q : List Value} {u : Tok} {Q : Value → Shared → Prop} (F : Fr h₀ L s.heap m) (N : News h₀ L s.heap news) (U : Upd D (listOf (y :: q).toArray n) (listOf q.toArray (n + 1)) news news')
    (hz : q.length < 1000) (h : ∀ h', Fr h₀ L h' m → News h₀ L h' news' → Q y { s with heap := h' }) : wpAny (model prog w) A (call (.builtin "list.pop") [.ref D, .int 0 u]) Q E s := by
  refine kl_popAt (p := []) (q := q) (k := 0) F N (by decide) ?_ (cut0 y q) U ?_ h
  · unfold seqIndex?
    simp only [List.size_toArray, List.length_cons]
    split <;> (try split) <;> simp_all <;> omega
  · simp only [List.length_cons]
    rw [PySem.sizeLine_eq]
    omega
end
end Mine
namespace Mine
theorem walk_plain_Kind : True := by
  w_top off
  trivial
def DictAt (w : World) (news : List (Addr × Obj)) (a : Addr) (kvs : List (Str × Value)) : Prop := ∃ o, (a, o) ∈ news ∧ (a == sysModules) = false ∧ o.IsDictOf (strKind PySem.Challenge.rw_og0169_01.row.prog w) kvs
theorem dict_cls {prog : Program} {w : World} {K : Type} [DecidableEq K] {knd : KeyKind prog w K} {o : Obj} {kvs : List (K × Value)} (h : o.IsDictOf knd kvs) : o.cls = .type "dict" := h.choose_spec.choose_spec.1.1
section
local macro_rules | `(tactic| k_mem) => `(tactic| assumption)
local macro_rules | `(tactic| kit_dict) => `(tactic| (refine' kitAt_N ?N ?m ?c; (case N => k_asm); (case m => k_mem); (case c => first | assumption | exact dict_cls (by assumption))))
set_option maxRecDepth 100000 in
set_option maxHeartbeats 8000000 in
theorem kind_none (w : World) (news : List (Addr × Obj)) : Spec w 265 1 [.none] news (fun r news' => news' = news ∧ ∃ t, r = .str (Str.ofString "null") t) := by
  unfold Spec
  k_fill
  intro dp un gd cn cs a ccd cl outer A₀ base h₀ L m s loose mean mg mb Q E B F X N T hk hd hu hret
  refine wpAny_call ?_
  k_dflt ktr_enter
  repeat' (first | (k_unfold; (try dsimp only)) | (k_end; kc_close) | walk1 | (dsimp only; walk1) | (leave1; (try dsimp only)))
  exact hret _ _ _ _ (by k_asm) (by k_asm) ⟨rfl, _, rfl⟩
set_option maxRecDepth 100000 in
set_option maxHeartbeats 8000000 in
theorem kind_int (w : World) (i : Int) (t : Tok) (news : List (Addr × Obj)) : Spec w 265 1 [.int i t] news (fun r news' => news' = news ∧ ∃ t, r = .str (Str.ofString "int") t) := by
  unfold Spec
  k_fill
  intro dp un gd cn cs a ccd cl outer A₀ base h₀ L m s loose mean mg mb Q E B F X N T hk hd hu hret
  refine wpAny_call ?_
  k_dflt ktr_enter
  repeat' (first | (k_unfold; (try dsimp only)) | (k_end; kc_close) | walk1 | (dsimp only; walk1) | (leave1; (try dsimp only)))
  exact hret _ _ _ _ (by k_asm) (by k_asm) ⟨rfl, _, rfl⟩
set_option maxRecDepth 100000 in
set_option maxHeartbeats 8000000 in
theorem kind_name (w : World) (x dx : Addr) (news : List (Addr × Obj)) (od : Obj) (hm : (x, instObj 183 dx) ∈ news) (hm' : (dx, od) ∈ news) : Spec w 265 1 [.ref x] news (fun r news' => news' = news ∧ ∃ t, r = .str (Str.ofString "name") t) := by
  unfold Spec
  k_fill
  intro dp un gd cn cs a ccd cl outer A₀ base h₀ L m s loose mean mg mb Q E B F X N T hk hd hu hret
  refine wpAny_call ?_
  k_dflt ktr_enter
  repeat' (first | (k_unfold; (try dsimp only)) | (k_end; kc_close) | walk1 | (dsimp only; walk1) | (leave1; (try dsimp only)))
  exact hret _ _ _ _ (by k_asm) (by k_asm) ⟨rfl, _, rfl⟩
set_option maxRecDepth 100000 in
set_option maxHeartbeats 8000000 in
theorem kind_dict (w : World) (x : Addr) (o : Obj) (news : List (Addr × Obj)) (hm : (x, o) ∈ news) (hc : o.cls = .type "dict") : Spec w 265 1 [.ref x] news (fun r news' => news' = news ∧ ∃ t, r = .str (Str.ofString "dict") t) := by
  unfold Spec
  k_fill
  intro dp un gd cn cs a ccd cl outer A₀ base h₀ L m s loose mean mg mb Q E B F X N T hk hd hu hret
  refine wpAny_call ?_
  k_dflt ktr_enter
  repeat' (first | (k_unfold; (try dsimp only)) | (k_end; kc_close) | walk1 | (dsimp only; walk1) | (leave1; (try dsimp only)))
  exact hret _ _ _ _ (by k_asm) (by k_asm) ⟨rfl, _, rfl⟩
set_option maxRecDepth 100000 in
set_option maxHeartbeats 8000000 in
theorem kind_list (w : World) (x : Addr) (vs : List Value) (n : Nat) (news : List (Addr × Obj)) (hm : (x, listOf vs.toArray n) ∈ news) : Spec w 265 1 [.ref x] news (fun r news' => news' = news ∧ ∃ t, r = .str (Str.ofString "array") t) := by
  unfold Spec
  k_fill
  intro dp un gd cn cs a ccd cl outer A₀ base h₀ L m s loose mean mg mb Q E B F X N T hk hd hu hret
  refine wpAny_call ?_
  k_dflt ktr_enter
  repeat' (first | (k_unfold; (try dsimp only)) | (k_end; kc_close) | walk1 | (dsimp only; walk1) | (leave1; (try dsimp only)))
  exact hret _ _ _ _ (by k_asm) (by k_asm) ⟨rfl, _, rfl⟩
set_option maxRecDepth 100000 in
set_option maxHeartbeats 8000000 in
theorem kind_ref (w : World) (x dx : Addr) (news : List (Addr × Obj)) (od : Obj) (hm : (x, instObj 254 dx) ∈ news) (hm' : (dx, od) ∈ news) : Spec w 265 1 [.ref x] news (fun r news' => news' = news ∧ ∃ t, r = .str (Str.ofString "ref") t) := by
  unfold Spec
  k_fill
  intro dp un gd cn cs a ccd cl outer A₀ base h₀ L m s loose mean mg mb Q E B F X N T hk hd hu hret
  refine wpAny_call ?_
  k_dflt ktr_enter
  repeat' (first | (k_unfold; (try dsimp only)) | (k_end; kc_close) | walk1 | (dsimp only; walk1) | (leave1; (try dsimp only)))
  exact hret _ _ _ _ (by k_asm) (by k_asm) ⟨rfl, _, rfl⟩
end
end Mine
namespace Mine
inductive Item where
  | none
  | int (i : Int)
  | name
  | intl (l : List Int)
  | ref (n g : Int)
inductive Node where
  | leaf (lim : Option (List Item)) (nums : List Item)
  | inner (lim : Option (List Item)) (kids : List Node)
/-- what told gives back -/
inductive T where
  | int (i : Int)
  | str (s : Str)
  | tup (l : List T)
def All2 {α β : Type} (R : α → β → Prop) : List α → List β → Prop
  | [], [] => True
  | a :: as, b :: bs => R a b ∧ All2 R as bs
  | _, _ => False
theorem All2.imp {α β : Type} {R S : α → β → Prop} (h : ∀ a b, R a b → S a b) : ∀ {l : List α} {m : List β}, All2 R l m → All2 S l m
  | [], [], _ => trivial
  | _ :: _, _ :: _, ⟨a, b⟩ => ⟨h _ _ a, All2.imp h b⟩
  | [], _ :: _, x => x.elim
  | _ :: _, [], x => x.elim
theorem All2.uncons {α β : Type} {R : α → β → Prop} {l : List α} {b : β} {m : List β} (h : All2 R l (b :: m)) : ∃ a l', l = a :: l' ∧ R a b ∧ All2 R l' m := by
  cases l with
  | nil => exact h.elim
  | cons a l => exact ⟨a, l, rfl, h⟩
theorem All2.length {α β : Type} {R : α → β → Prop} : ∀ {l : List α} {m : List β}, All2 R l m → l.length = m.length
  | [], [], _ => rfl
  | _ :: l, _ :: m, ⟨_, b⟩ => congrArg (· + 1) (All2.length (l := l) (m := m) b)
  | [], _ :: _, x => x.elim
  | _ :: _, [], x => x.elim
theorem All2.snoc {α β : Type} {R : α → β → Prop} {x : α} {y : β} (r : R x y) : ∀ {l : List α} {m : List β}, All2 R l m → All2 R (l ++ [x]) (m ++ [y])
  | [], [], _ => ⟨r, trivial⟩
  | _ :: l, _ :: m, ⟨a, b⟩ => ⟨a, All2.snoc r (l := l) (m := m) b⟩
  | [], _ :: _, x => x.elim
  | _ :: _, [], x => x.elim
theorem All2.at {α β : Type} {R : α → β → Prop} : ∀ {l : List α} {m : List β} {i : Nat} {a : α}, All2 R l m → l[i]? = some a → ∃ b, R a b ∧ m.take (i + 1) = m.take i ++ [b]
  | _ :: _, b :: _, 0, _, ⟨h, _⟩, e => ⟨b, by cases e; exact h, rfl⟩
  | _ :: l, c :: m, i + 1, _, ⟨_, h⟩, e => by
    obtain ⟨b, hr, ht⟩ := All2.at (l := l) (m := m) (i := i) h (by simpa using e)
    exact ⟨b, hr, by rw [List.take_succ_cons, ht]; rfl⟩
  | [], _, _, _, _, e => by simp at e
  | _ :: _, [], _, _, x, _ => x.elim
theorem All2.get {α β : Type} {R : α → β → Prop} : ∀ {l : List α} {m : List β} {i : Nat} {a : α}, All2 R l m → l[i]? = some a → ∃ b, m[i]? = some b ∧ R a b
  | _ :: _, b :: _, 0, _, ⟨h, _⟩, e => ⟨b, rfl, by cases e; exact h⟩
  | _ :: l, _ :: m, i + 1, _, ⟨_, h⟩, e => All2.get (l := l) (m := m) (i := i) h (by simpa using e)
  | [], _, _, _, _, e => by simp at e
  | _ :: _, [], _, _, x, _ => x.elim
abbrev tupOf (its : Array Value) (n : Nat) : Obj := { cls := .type "tuple", data := .seq its n }
abbrev P := PySem.Challenge.rw_og0169_01.row.prog
/-- a name's, a reference's own attributes -/
abbrev nameD (w : World) (tk tk' : Tok) : List DictEntry := [⟨PyData.keyHash w.params (Str.ofString "text"), .str (Str.ofString "text") tk, .str (Str.ofString "x") tk'⟩]
abbrev refD (w : World) (tk tk' : Tok) (n g : Value) : List DictEntry := [⟨PyData.keyHash w.params (Str.ofString "number"), .str (Str.ofString "number") tk, n⟩, ⟨PyData.keyHash w.params (Str.ofString "generation"), .str (Str.ofString "generation") tk', g⟩]
inductive RefIs (w : World) (news : List (Addr × Obj)) (v : Value) (k g : Int) : Prop
  | mk (x) (dx) (tk) (tk') (t) (t') (n) (h0 : v = .ref x) (h1 : (x, instObj 254 dx) ∈ news) (h2 : (dx, dictOf (refD w tk tk' (.int k t) (.int g t')) n) ∈ news) : RefIs w news v k g
def ItemIs (w : World) (news : List (Addr × Obj)) (v : Value) : Item → Prop
  | .none => v = .none
  | .int i => ∃ t, v = .int i t
  | .name => ∃ x dx tk tk' n, v = .ref x ∧ (x, instObj 183 dx) ∈ news ∧ (dx, dictOf (nameD w tk tk') n) ∈ news
  | .intl l => ∃ a vs n, v = .ref a ∧ (a, listOf vs.toArray n) ∈ news ∧ IntsAre vs l ∧ l.length ≤ 4
  | .ref k g => RefIs w news v k g
inductive RowIs (w : World) (news : List (Addr × Obj)) (v : Value) (l : List Item) : Prop
  | mk (a) (vs) (n) (h0 : v = .ref a) (h1 : (a, listOf vs.toArray n) ∈ news) (h2 : All2 (ItemIs w news) vs l) (h3 : l.length ≤ 10) : RowIs w news v l
def limKv (lim : Option (List Item)) (lv : Value) : List (Str × Value) := match lim with
  | some _ => [(Str.ofString "Limits", lv)]
  | none => []
def LimIs (w : World) (news : List (Addr × Obj)) (lim : Option (List Item)) (lv : Value) : Prop := match lim with
  | some l => RowIs w news lv l
  | none => True
def NodeIs (w : World) (news : List (Addr × Obj)) : Nat → Value → Node → Prop
  | _, v, .leaf lim nums => ∃ a lv nv, v = .ref a ∧ DictAt w news a (limKv lim lv ++ [(Str.ofString "Nums", nv)]) ∧ LimIs w news lim lv ∧ RowIs w news nv nums
  | 0, _, .inner .. => False
  | n + 1, v, .inner lim kids => ∃ a lv b vs m, v = .ref a ∧ DictAt w news a (limKv lim lv ++ [(Str.ofString "Kids", .ref b)]) ∧ LimIs w news lim lv ∧ (b, listOf vs.toArray m) ∈ news ∧ All2 (NodeIs w news n) vs kids ∧ kids.length ≤ 10
def ToldIs (news : List (Addr × Obj)) : Nat → Value → T → Prop
  | _, v, .int i => ∃ t, v = .int i t
  | _, v, .str s => ∃ t, v = .str s t
  | 0, _, .tup _ => False
  | n + 1, v, .tup l => ∃ a vs k, v = .ref a ∧ (a, tupOf vs.toArray k) ∈ news ∧ All2 (ToldIs news n) vs l
def S (x : String) : T := .str (Str.ofString x)
def tellItem : Item → T
  | .none => .tup [S "null"]
  | .int i => .tup [S "int", .int i]
  | .name => .tup [S "name", S "x"]
  | .intl l => .tup (S "array" :: l.map fun i => .tup [S "int", .int i])
  | .ref k g => .tup [S "ref", .int k, .int g]
def tellRow (l : List Item) : T := .tup (S "array" :: l.map tellItem)
def tellLim (lim : Option (List Item)) : List T := match lim with
  | some l => [.tup [S "Limits", tellRow l]]
  | none => []
def tellNode : Nat → Node → T
  | _, .leaf lim nums => .tup (S "dict" :: (tellLim lim ++ [.tup [S "Nums", tellRow nums]]))
  | 0, .inner .. => .tup []
  | n + 1, .inner lim kids => .tup (S "dict" :: .tup [S "Kids", .tup (S "array" :: kids.map (tellNode n))] :: tellLim lim)

section
variable {w : World} {news news' : List (Addr × Obj)}
theorem DictAt.mono {a : Addr} {kvs} (h : DictAt w news a kvs) (hs : ∀ p ∈ news, p ∈ news') : DictAt w news' a kvs := let ⟨o, x, y⟩ := h; ⟨o, hs _ x, y⟩
theorem RefIs.mono {v : Value} {k g : Int} (h : RefIs w news v k g) (hs : ∀ p ∈ news, p ∈ news') : RefIs w news' v k g := by
  obtain ⟨x, dx, tk, tk', t, t', n, e, a, b⟩ := h
  exact ⟨x, dx, tk, tk', t, t', n, e, hs _ a, hs _ b⟩
theorem ItemIs.mono {v : Value} {i : Item} (h : ItemIs w news v i) (hs : ∀ p ∈ news, p ∈ news') : ItemIs w news' v i := by
  cases i with
  | none => exact h
  | int _ => exact h
  | name => obtain ⟨x, dx, tk, tk', n, e, a, b⟩ := h; exact ⟨x, dx, tk, tk', n, e, hs _ a, hs _ b⟩
  | intl _ => obtain ⟨a, vs, n, e, m, r⟩ := h; exact ⟨a, vs, n, e, hs _ m, r⟩
  | ref _ _ => exact RefIs.mono h hs
theorem RowIs.mono {v : Value} {l : List Item} (h : RowIs w news v l) (hs : ∀ p ∈ news, p ∈ news') : RowIs w news' v l := by
  obtain ⟨a, vs, n, e, m, x, r⟩ := h
  exact ⟨a, vs, n, e, hs _ m, x.imp fun _ _ y => y.mono hs, r⟩
theorem LimIs.mono {v : Value} {lim : Option (List Item)} (h : LimIs w news lim v) (hs : ∀ p ∈ news, p ∈ news') : LimIs w news' lim v := by
  cases lim with
  | none => trivial
  | some l => exact RowIs.mono h hs
theorem NodeIs.mono (hs : ∀ p ∈ news, p ∈ news') : ∀ {n : Nat} {v : Value} {d : Node}, NodeIs w news n v d → NodeIs w news' n v d := by
  intro n
  induction n with
  | zero =>
    intro v d h
    cases d with
    | leaf lim nums => obtain ⟨a, lv, nv, e, x, y, z⟩ := h; exact ⟨a, lv, nv, e, x.mono hs, y.mono hs, z.mono hs⟩
    | inner lim kids => exact h
  | succ n ih =>
    intro v d h
    cases d with
    | leaf lim nums => obtain ⟨a, lv, nv, e, x, y, z⟩ := h; exact ⟨a, lv, nv, e, x.mono hs, y.mono hs, z.mono hs⟩
    | inner lim kids => obtain ⟨a, lv, b, vs, m, e, x, y, z, q, r⟩ := h; exact ⟨a, lv, b, vs, m, e, x.mono hs, y.mono hs, hs _ z, q.imp fun _ _ => ih, r⟩
theorem NodeIs.up : ∀ {n : Nat} {v : Value} {d : Node}, NodeIs w news n v d → NodeIs w news (n + 1) v d := by
  intro n
  induction n with
  | zero =>
    intro v d h
    cases d with
    | leaf lim nums => exact h
    | inner lim kids => exact h.elim
  | succ n ih =>
    intro v d h
    cases d with
    | leaf lim nums => exact h
    | inner lim kids => obtain ⟨a, lv, b, vs, m, e, x, y, z, q, r⟩ := h; exact ⟨a, lv, b, vs, m, e, x, y, z, q.imp fun _ _ => ih, r⟩
theorem ToldIs.strI {n : Nat} {s : Str} {t : Tok} : ToldIs news n (.str s t) (.str s) := by cases n <;> exact ⟨t, rfl⟩
theorem ToldIs.intI {n : Nat} {i : Int} {t : Tok} : ToldIs news n (.int i t) (.int i) := by cases n <;> exact ⟨t, rfl⟩
theorem ToldIs.mono (hs : ∀ p ∈ news, p ∈ news') : ∀ {n : Nat} {v : Value} {d : T}, ToldIs news n v d → ToldIs news' n v d := by
  intro n
  induction n with
  | zero =>
    intro v d h
    cases d <;> exact h
  | succ n ih =>
    intro v d h
    cases d with
    | int i => exact h
    | str s => exact h
    | tup l => obtain ⟨a, vs, k, e, m, x⟩ := h; exact ⟨a, vs, k, e, hs _ m, x.imp fun _ _ => ih⟩
theorem ToldIs.up : ∀ {n : Nat} {v : Value} {d : T}, ToldIs news n v d → ToldIs news (n + 1) v d := by
  intro n
  induction n with
  | zero =>
    intro v d h
    cases d with
    | int i => exact h
    | str s => exact h
    | tup l => exact h.elim
  | succ n ih =>
    intro v d h
    cases d with
    | int i => exact h
    | str s => exact h
    | tup l => obtain ⟨a, vs, k, e, m, x⟩ := h; exact ⟨a, vs, k, e, m, x.imp fun _ _ => ih⟩
theorem ToldIs.upTo {n m : Nat} (hnm : n ≤ m) {v : Value} {d : T} (h : ToldIs news n v d) : ToldIs news m v d := by
  induction hnm with
  | refl => exact h
  | step _ ih => exact ih.up
end
end Mine
namespace Mine
open LCg
/-- all of tl lies above all of news -/
def Up (news tl : List (Addr × Obj)) : Prop := ∀ q ∈ news, ∀ p ∈ tl, q.1 < p.1
theorem Up.nil (news : List (Addr × Obj)) : Up news [] := fun _ _ _ h => nomatch h
theorem Up.app {a t u : List (Addr × Obj)} (h : Up a t) (k : Up (a ++ t) u) : Up a (t ++ u) := fun q hq p hp => by
  rcases List.mem_append.mp hp with hp | hp
  · exact h q hq p hp
  · exact k q (List.mem_append.mpr (.inl hq)) p hp
theorem Up.sub {a b t : List (Addr × Obj)} (h : Up b t) (hs : ∀ p ∈ a, p ∈ b) : Up a t := fun q hq p hp => h q (hs q hq) p hp
theorem mem_inl' {p : Addr × Obj} {a b : List (Addr × Obj)} (h : p ∈ a) : p ∈ a ++ b := List.mem_append.mpr (.inl h)
theorem mem_inr' {p : Addr × Obj} {a b : List (Addr × Obj)} (h : p ∈ b) : p ∈ a ++ b := List.mem_append.mpr (.inr h)
/-- a call's post: the ledger as it was, and what was made -/
inductive Made (news : List (Addr × Obj)) (X : Value → List (Addr × Obj) → Prop) (r : Value) (news' : List (Addr × Obj)) : Prop
  | mk (tl) (h0 : news' = news ++ tl) (h1 : Up news tl) (h2 : X r tl) : Made news X r news'
theorem ret_made {h₀ : Heap} {L : Addr} {m : Str → Option Value} {s : Shared} {Q : Value → Shared → Prop} {pre : List (Addr × Obj)} {X : Value → List (Addr × Obj) → Prop} (k : ∀ r tl h' tk', Fr h₀ L h' m → News h₀ L h' (pre ++ tl) → Up pre tl → X r tl → Q r { s with heap := h', toks := tk' }) :
    ∀ r n' h' tk', Fr h₀ L h' m → News h₀ L h' n' → Made pre X r n' → Q r { s with heap := h', toks := tk' } := by
  rintro r n' h' tk' F N ⟨tl, rfl, U, x⟩
  exact k r tl h' tk' F N U x
theorem ret_int {h₀ : Heap} {L : Addr} {m : Str → Option Value} {s : Shared} {Q : Value → Shared → Prop} {pre : List (Addr × Obj)} {c : Int} (k : ∀ t tl h' tk', Fr h₀ L h' m → News h₀ L h' (pre ++ tl) → Up pre tl → Q (.int c t) { s with heap := h', toks := tk' }) :
    ∀ r n' h' tk', Fr h₀ L h' m → News h₀ L h' n' → Made pre (fun r _ => ∃ t, r = .int c t) r n' → Q r { s with heap := h', toks := tk' } := by
  rintro r n' h' tk' F N ⟨tl, rfl, U, t, rfl⟩
  exact k t tl h' tk' F N U
theorem ret_nums {h₀ : Heap} {L : Addr} {m : Str → Option Value} {s : Shared} {Q : Value → Shared → Prop} {pre : List (Addr × Obj)} {c : Nat} (k : ∀ b vs nn tl h' tk', Fr h₀ L h' m → News h₀ L h' (pre ++ tl) → Up pre tl → (b, listOf (List.toArray vs) nn) ∈ tl → vs.length = c → Q (.ref b) { s with heap := h', toks := tk' }) :
    ∀ r n' h' tk', Fr h₀ L h' m → News h₀ L h' n' → Made pre (fun r tl => ∃ (b : Addr) (vs : List Value) (m : Nat), r = .ref b ∧ (b, listOf vs.toArray m) ∈ tl ∧ vs.length = c) r n' → Q r { s with heap := h', toks := tk' } := by
  rintro r n' h' tk' F N ⟨tl, rfl, U, b, vs, nn, rfl, a1, a2⟩
  exact k b vs nn tl h' tk' F N U a1 a2
theorem sub_cons {a b : List (Addr × Obj)} {q : Addr × Obj} (h : ∀ p ∈ a, p ∈ b) : ∀ p ∈ a, p ∈ q :: b := fun p hp => .tail _ (h p hp)
theorem sub_app {a b c : List (Addr × Obj)} (h : ∀ p ∈ a, p ∈ b) : ∀ p ∈ a, p ∈ b ++ c := fun p hp => List.mem_append.mpr (.inl (h p hp))
theorem sub_refl (a : List (Addr × Obj)) : ∀ p ∈ a, p ∈ a := fun _ h => h
theorem sub_tr {a b c : List (Addr × Obj)} (h : ∀ p ∈ a, p ∈ b) (k : ∀ p ∈ b, p ∈ c) : ∀ p ∈ a, p ∈ c := fun p hp => k p (h p hp)
theorem sub_l (a b : List (Addr × Obj)) : ∀ p ∈ a, p ∈ a ++ b := fun _ h => List.mem_append.mpr (.inl h)
theorem sub_r (a b : List (Addr × Obj)) : ∀ p ∈ b, p ∈ a ++ b := fun _ h => List.mem_append.mpr (.inr h)
open Classical in
/-- the end of a def: what was made, put behind what stood -/
theorem close_up {h₀ h : Heap} {L : Addr} {news all : List (Addr × Obj)} (N : News h₀ L h all) (h1 : ∀ p ∈ news, p ∈ all) :
    ∃ tl, News h₀ L h (news ++ tl) ∧ Up news tl ∧ ∀ p ∈ all, (∀ q ∈ news, q.1 < p.1) → p ∈ tl := by
  refine ⟨all.filter (fun p => decide (∀ q ∈ news, q.1 < p.1)), fun p hp => ?_, fun q hq p hp => ?_, fun p hp ha => ?_⟩
  · rcases List.mem_append.mp hp with hp | hp
    · exact N p (h1 p hp)
    · exact N p (List.mem_filter.mp hp).1
  · exact of_decide_eq_true (List.mem_filter.mp hp).2 q hq
  · exact List.mem_filter.mpr ⟨hp, decide_eq_true ha⟩
/-- the last step of a contract: what stood is there, what was made lies above -/
theorem finish {h₀ h : Heap} {L : Addr} {m : Str → Option Value} {s : Shared} {tk : Nat} {r : Value} {news all : List (Addr × Obj)} {X : Value → List (Addr × Obj) → Prop} {Q : Value → Shared → Prop}
    (hret : ∀ r news' h' tk', Fr h₀ L h' m → News h₀ L h' news' → Made news X r news' → Q r { s with heap := h', toks := tk' })
    (F : Fr h₀ L h m) (N : News h₀ L h all) (h1 : ∀ p ∈ news, p ∈ all) (hX : ∀ tl, Up news tl → (∀ p ∈ all, (∀ q ∈ news, q.1 < p.1) → p ∈ tl) → X r tl) : Q r { s with heap := h, toks := tk } := by
  obtain ⟨tl, N', U, k⟩ := close_up N h1
  exact hret r _ h tk F N' ⟨tl, rfl, U, hX tl U k⟩
theorem above_of {D : Addr} {all news : List (Addr × Obj)} (h : ∀ p ∈ all, p.1 < D) (hs : ∀ p ∈ news, p ∈ all) : ∀ q ∈ news, q.1 < D := fun q hq => h q (hs q hq)
theorem lt_of_all {d : Addr} {l : List (Addr × Obj)} (h : AllLt d l) : ∀ q ∈ l, q.1 < d := ktn_ltOf h

section
variable {prog : Program} {w : World} {A : Around} {E : Value → Shared → Prop} {s : Shared} {h₀ : Heap} {L : Addr} {m : Str → Option Value} {env : Env}
/-- the turns of a comprehension, by an invariant over what they made -/
theorem compRest_all {elt : Expr} {x : Str} {scope : Scope} {cl : List (Str × Addr)} {S : List (Addr × Obj) → Prop} {P : Nat → Value → Prop} {Fin : List Value → List (Addr × Obj) → Prop} {n : Nat} (Inv : Nat → List Value → List (Addr × Obj) → Prop)
    (turn : ∀ i ys news v I oI C oC D m₂ h tk (E' : Value → Shared → Prop), i < n → P i v → Inv i ys news → NsObj oC m₂ → m₂ x = some v → Fr h₀ L h m → News h₀ L h ((I, oI) :: (C, oC) :: (D, lst ys) :: news) → Off3 I C D news → ((@Ne Nat I C) ∧ (@Ne Nat I D) ∧ (@Ne Nat C D)) →
      wpAny (model prog w) A (eval elt (compEnvC scope cl C env)) (CompEnd h₀ L m { s with heap := h, toks := tk } I oI C oC D (lst ys) S (fun y news' => Inv (i + 1) (ys ++ [y]) news')) E' { s with heap := h, toks := tk })
    (fin : ∀ ys news, Inv n ys news → Fin ys news) : ∀ k i ys news, i + k = n → Inv i ys news → CompRest prog w A h₀ L m env elt x scope cl s S P Fin k i ys news := by
  intro k
  induction k with
  | zero =>
    intro i ys news e hi
    have e' : i = n := by omega
    subst e'
    exact CompRest.zero (fin _ _ hi)
  | succ k ih =>
    intro i ys news e hi
    refine CompRest.succ fun v I oI C oC D m₂ h tk E' hP hC hx F N off ne => ?_
    refine wpAny_mono (turn i ys news v I oI C oC D m₂ h tk E' (by omega) hP hi hC hx F N off ne) (fun y s₂ he => ?_) fun _ _ e => e
    obtain ⟨h', tk', news', e1, F', N', off', hS, r⟩ := he
    exact ⟨h', tk', news', e1, F', N', off', hS, ih (i + 1) (ys ++ [y]) news' (by omega) r⟩
theorem off3_app {I C D : Addr} {news tl : List (Addr × Obj)} (h : Off3 I C D news) (k : ∀ p ∈ tl, I ≠ p.1 ∧ C ≠ p.1 ∧ D ≠ p.1) : Off3 I C D (news ++ tl) := Off3.of fun p hp => by
  rcases List.mem_append.mp hp with hp | hp
  · exact h.mem p hp
  · exact ⟨(k p hp).1.symm, (k p hp).2.1.symm, (k p hp).2.2.symm⟩
/-- a turn's end behind a call that let the ledger grow -/
theorem compEnd_up {I C D : Addr} {s₁ : Shared} {oI oC oD : Obj} {S : List (Addr × Obj) → Prop} {rest : Value → List (Addr × Obj) → Prop} {y : Value} {h' : Heap} {tk : Nat} {news tl : List (Addr × Obj)}
    (F : Fr h₀ L h' m) (N : News h₀ L h' ((I, oI) :: (C, oC) :: (D, oD) :: (news ++ tl))) (lo : Up ((I, oI) :: (C, oC) :: (D, oD) :: news) tl) (off : Off3 I C D news)
    (hS : S (news ++ tl)) (r : rest y (news ++ tl)) :
    CompEnd h₀ L m s₁ I oI C oC D oD S rest y { s₁ with heap := h', toks := tk } :=
  ⟨h', tk, news ++ tl, rfl, F, N, off3_app off fun p hp => ⟨Nat.ne_of_lt (lo _ (.head _) p hp), Nat.ne_of_lt (lo _ (.tail _ (.head _)) p hp), Nat.ne_of_lt (lo _ (.tail _ (.tail _ (.head _))) p hp)⟩, hS, r⟩
/-- the same, one object laid on top of what the call made -/
theorem compEnd_up1 {I C D Dn : Addr} {s₁ : Shared} {oI oC oD oN : Obj} {S : List (Addr × Obj) → Prop} {rest : Value → List (Addr × Obj) → Prop} {y : Value} {h' : Heap} {tk : Nat} {news tl : List (Addr × Obj)}
    (F : Fr h₀ L h' m) (lo : Up ((I, oI) :: (C, oC) :: (D, oD) :: news) tl) (N : News h₀ L h' ((Dn, oN) :: (I, oI) :: (C, oC) :: (D, oD) :: (news ++ tl))) (off : Off3 I C D news) (ln : ∀ p ∈ (I, oI) :: (C, oC) :: (D, oD) :: (news ++ tl), p.1 < Dn)
    (hS : S ((Dn, oN) :: (news ++ tl))) (r : rest y ((Dn, oN) :: (news ++ tl))) :
    CompEnd h₀ L m s₁ I oI C oC D oD S rest y { s₁ with heap := h', toks := tk } :=
  ⟨h', tk, (Dn, oN) :: (news ++ tl), rfl, F, fun p hp => N p (by
      rcases List.mem_cons.mp hp with rfl | hp
      · exact .tail _ (.head _)
      · rcases List.mem_cons.mp hp with rfl | hp
        · exact .tail _ (.tail _ (.head _))
        · rcases List.mem_cons.mp hp with rfl | hp
          · exact .tail _ (.tail _ (.tail _ (.head _)))
          · rcases List.mem_cons.mp hp with rfl | hp
            · exact .head _
            · exact .tail _ (.tail _ (.tail _ (.tail _ hp)))),
    ⟨⟨Nat.ne_of_gt (ln _ (.head _)), Nat.ne_of_gt (ln _ (.tail _ (.head _))), Nat.ne_of_gt (ln _ (.tail _ (.tail _ (.head _))))⟩,
      off3_app off fun p hp => ⟨Nat.ne_of_lt (lo _ (.head _) p hp), Nat.ne_of_lt (lo _ (.tail _ (.head _)) p hp), Nat.ne_of_lt (lo _ (.tail _ (.tail _ (.head _))) p hp)⟩⟩, hS, r⟩
/-- the ledger at each turn: what stood at the start, and a tail above it -/
theorem compRest_up {elt : Expr} {x : Str} {scope : Scope} {cl : List (Str × Addr)} {S : List (Addr × Obj) → Prop} {P : Nat → Value → Prop} {Fin : List Value → List (Addr × Obj) → Prop} {n : Nat} {news0 : List (Addr × Obj)} (R : Nat → List Value → List (Addr × Obj) → Prop)
    (turn : ∀ i ys tl v I oI C oC D m₂ h tk (E' : Value → Shared → Prop), i < n → P i v → Up news0 tl → R i ys tl → NsObj oC m₂ → m₂ x = some v → Fr h₀ L h m → News h₀ L h ((I, oI) :: (C, oC) :: (D, lst ys) :: (news0 ++ tl)) → Off3 I C D (news0 ++ tl) → ((@Ne Nat I C) ∧ (@Ne Nat I D) ∧ (@Ne Nat C D)) →
      wpAny (model prog w) A (eval elt (compEnvC scope cl C env)) (CompEnd h₀ L m { s with heap := h, toks := tk } I oI C oC D (lst ys) S (fun y news' => ∃ tl', news' = news0 ++ tl' ∧ Up news0 tl' ∧ R (i + 1) (ys ++ [y]) tl')) E' { s with heap := h, toks := tk })
    (fin : ∀ ys tl, Up news0 tl → R n ys tl → Fin ys (news0 ++ tl)) (h0 : R 0 [] []) : CompRest prog w A h₀ L m env elt x scope cl s S P Fin n 0 [] news0 :=
  compRest_all (fun i ys news => ∃ tl, news = news0 ++ tl ∧ Up news0 tl ∧ R i ys tl)
    (fun i ys news v I oI C oC D m₂ h tk E' hi hP hI hC hx F N off ne => by
      obtain ⟨tl, rfl, u, r⟩ := hI
      exact turn i ys tl v I oI C oC D m₂ h tk E' hi hP u r hC hx F N off ne)
    (fun ys news h => by obtain ⟨tl, rfl, u, r⟩ := h; exact fin ys tl u r) n 0 [] news0 (by omega) ⟨[], by rw [List.append_nil], Up.nil _, h0⟩
end
section
variable {prog : Program} {w : World} {A : Around} {E : Value → Shared → Prop} {s : Shared} {h₀ : Heap} {L a b : Addr} {m : Str → Option Value} {news : List (Addr × Obj)} {n n1 n2 : Nat}
theorem tupleOf_N {zs : List Value} {Q : Value → Shared → Prop} (F : Fr h₀ L s.heap m) (N : News h₀ L s.heap news) (hm : (a, listOf zs.toArray n) ∈ news) (hz : zs.length ≤ 1000)
    (h : ∀ D h', Fr h₀ L h' m → News h₀ L h' ((D, tupOf zs.toArray 0) :: news) → (∀ p ∈ news, p.1 < D) → Q (.ref D) { s with heap := h' }) : wpAny (model prog w) A (call (.type "tuple") [.ref a]) Q E s :=
  kde_tupleOf F N (PySem.IsL.isList (n := n) (N _ hm).1) (by rw [List.size_toArray]; omega) (by simp) h
theorem addTup_N {xs zs : List Value} {Q : Value → Shared → Prop} (F : Fr h₀ L s.heap m) (N : News h₀ L s.heap news) (hm1 : (a, tupOf xs.toArray n1) ∈ news) (hm2 : (b, tupOf zs.toArray n2) ∈ news) (hx : xs ≠ []) (hz : xs.length + zs.length ≤ 1000)
    (h0 : zs = [] → Q (.ref a) s)
    (h : zs ≠ [] → ∀ D h', Fr h₀ L h' m → News h₀ L h' ((D, tupOf (xs ++ zs).toArray 0) :: news) → (∀ p ∈ news, p.1 < D) → Q (.ref D) { s with heap := h' }) : wpAny (model prog w) A (binaryOp .Add (.ref a) (.ref b)) Q E s := by
  have t1 : IsTup s.heap a xs.toArray := ⟨_, (N _ hm1).1, rfl, n1, rfl⟩
  have t2 : IsTup s.heap b zs.toArray := ⟨_, (N _ hm2).1, rfl, n2, rfl⟩
  by_cases q : zs = []
  · exact kde_addT1 F N t1 t2 (by simpa using hx) (by simpa using q) (by simp; omega) (h0 q)
  · exact kde_addT F N t1 t2 (by simpa using hx) (by simpa using q) (by simp; omega) (by simp) (h q)
end
theorem val_hd {k : Str} {v : Value} {r : List (Str × Value)} : valueAt ((k, v) :: r) k = some v := by simp [valueAt]
theorem val_tl {a k : Str} {x v : Value} {r : List (Str × Value)} (h : a ≠ k) (e : valueAt r k = some v) : valueAt ((a, x) :: r) k = some v := by
  unfold valueAt at e ⊢
  rw [List.find?_cons, decide_eq_false h]
  exact e
theorem val_no {k : Str} : valueAt ([] : List (Str × Value)) k = none := rfl
theorem val_tln {a k : Str} {x : Value} {r : List (Str × Value)} (h : a ≠ k) (e : valueAt r k = none) : valueAt ((a, x) :: r) k = none := by
  unfold valueAt at e ⊢
  rw [List.find?_cons, decide_eq_false h]
  exact e
theorem limits_kids : Str.ofString "Limits" ≠ Str.ofString "Kids" := by decide +kernel
theorem limits_nums : Str.ofString "Limits" ≠ Str.ofString "Nums" := by decide +kernel
theorem nums_kids : Str.ofString "Nums" ≠ Str.ofString "Kids" := by decide +kernel
inductive Pick (P : Addr) (o : Obj) : List (Addr × Obj) → List (Addr × Obj) → Prop
  | head {r} : Pick P o ((P, o) :: r) r
  | tail {q l r} : Pick P o l r → Pick P o (q :: l) (q :: r)
theorem Pick.mem {P : Addr} {o : Obj} {l r : List (Addr × Obj)} (h : Pick P o l r) : ∀ p, p ∈ (P, o) :: r → p ∈ l := by
  induction h with
  | head => exact fun _ h => h
  | tail _ ih =>
    intro p hp
    rcases List.mem_cons.mp hp with rfl | hp
    · exact .tail _ (ih _ (.head _))
    · rcases List.mem_cons.mp hp with rfl | hp
      · exact .head _
      · exact .tail _ (ih _ (.tail _ hp))
theorem Pick.news {P : Addr} {o : Obj} {l r : List (Addr × Obj)} {h₀ h : Heap} {L : Addr} (k : Pick P o l r) (N : News h₀ L h l) : News h₀ L h ((P, o) :: r) := fun p hp => N p (k.mem p hp)
theorem Pick.of {P : Addr} {o : Obj} {l r : List (Addr × Obj)} {h₀ h : Heap} {L : Addr} (N : News h₀ L h l) (k : Pick P o l r) : News h₀ L h ((P, o) :: r) := k.news N
/-- the last step of a contract that changes one object P of the ledger -/
theorem close_upP {h₀ h : Heap} {L P : Addr} {oP : Obj} {rest all : List (Addr × Obj)} (N : News h₀ L h all) (hP : (P, oP) ∈ all) (h1 : ∀ p ∈ rest, p ∈ all) :
    ∃ tl, News h₀ L h ((P, oP) :: (rest ++ tl)) ∧ Up ((P, oP) :: rest) tl ∧ ∀ p ∈ all, P < p.1 → (∀ q ∈ rest, q.1 < p.1) → p ∈ tl := by
  obtain ⟨tl, N', U, k⟩ := close_up (news := (P, oP) :: rest) N (fun p hp => by
    rcases List.mem_cons.mp hp with rfl | hp
    · exact hP
    · exact h1 p hp)
  refine ⟨tl, N', U, fun p hp h2 h3 => k p hp fun q hq => ?_⟩
  rcases List.mem_cons.mp hq with rfl | hq
  · exact h2
  · exact h3 q hq
theorem Up.addr {P : Addr} {o o' : Obj} {rest tl : List (Addr × Obj)} (h : Up ((P, o) :: rest) tl) : Up ((P, o') :: rest) tl := fun q hq p hp => by
  rcases List.mem_cons.mp hq with rfl | hq
  · exact h (P, o) (.head _) p hp
  · exact h q (.tail _ hq) p hp
end Mine
namespace Mine
local macro_rules | `(tactic| walk_at "an idle line 0") => `(tactic| fail "idle")
theorem walk_plain_Take : True := by
  w_top off
  trivial
def PoolIs (vs : List Value) : Prop := ∃ ns, IntsAre vs ns ∧ ns.length ≤ 24 ∧ ∀ n ∈ ns, 0 ≤ n ∧ n < 10 ^ 80
theorem ret_take {h₀ : Heap} {L : Addr} {m : Str → Option Value} {s : Shared} {Q : Value → Shared → Prop} {P : Addr} {many : Int} {rest : List (Addr × Obj)} (k : ∀ d t vs n h' tk', Fr h₀ L h' m → News h₀ L h' ((P, listOf (List.toArray vs) n) :: rest) → 0 ≤ d → d < many → PoolIs vs → Q (.int d t) { s with heap := h', toks := tk' }) :
    ∀ r n' h' tk', Fr h₀ L h' m → News h₀ L h' n' → (∃ d t' vs' n2, r = .int d t' ∧ 0 ≤ d ∧ d < many ∧ PoolIs vs' ∧ n' = (P, listOf (List.toArray vs') n2) :: rest) → Q r { s with heap := h', toks := tk' } := by
  rintro r n' h' tk' F N ⟨d, t, vs, n, rfl, a1, a2, a3, rfl⟩
  exact k d t vs n h' tk' F N a1 a2 a3
section
local macro_rules | `(tactic| k_all) => `(tactic| assumption)
set_option maxRecDepth 100000 in
set_option maxHeartbeats 8000000 in
theorem take_nil (w : World) (P : Addr) (n : Nat) (many : Int) (t : Tok) (rest : List (Addr × Obj)) :
   Spec w 407 1 [.ref P, .int many t] ((P, listOf [].toArray n) :: rest) (fun r news' => ∃ t' n', r = .int 0 t' ∧ news' = (P, listOf [].toArray n') :: rest) := by
  unfold Spec
  k_fill
  intro dp un gd cn cs a ccd cl outer A₀ base h₀ L m s loose mean mg mb Q E B F X N T hk hd hu hret
  refine wpAny_call ?_
  k_dflt ktr_enter
  repeat' (first | (k_unfold; (try dsimp only)) | ((with_reducible show wpAny _ _ (call (Value.builtin "list.pop") _) _ _ _); first | with_reducible (k_here; (with_reducible show wpAny _ _ (call (Value.builtin _) [Value.ref _, Value.int 0 _]) _ _ _); k_dflt (refine' pop0 (by k_asm) (by k_asm) (by k_upd) (by omega) ?_); intro h' F' N'; (try dsimp only [List.nil_append, List.cons_append] at N'))) | (k_end; kc_close) | walk1 | (dsimp only; walk1) | (leave1; (try dsimp only)))
  exact hret _ _ _ _ (by k_asm) (by k_asm) ⟨_, _, rfl, rfl⟩

set_option maxRecDepth 100000 in
set_option maxHeartbeats 8000000 in
theorem take_cons (w : World) (P : Addr) (n : Nat) (x : Int) (tx : Tok) (vs : List Value) (ns : List Int) (many : Int) (t : Tok) (rest : List (Addr × Obj)) (hoff : ∀ p ∈ rest, p.1 ≠ P)
   (hm : many = 3 ∨ many = 5) (hl : ns.length < 24) (hi : IntsAre (.int x tx :: vs) (x :: ns)) :
   Spec w 407 1 [.ref P, .int many t] ((P, listOf (.int x tx :: vs).toArray n) :: rest) (fun r news' => ∃ t', r = .int (Int.fmod x many) t' ∧ ((∃ n' t'', news' = (P, listOf (.int (Int.fdiv x many) t'' :: vs).toArray n') :: rest) ∨ (∃ n', news' = (P, listOf vs.toArray n') :: rest))) := by
  unfold Spec
  k_fill
  intro dp un gd cn cs a ccd cl outer A₀ base h₀ L m s loose mean mg mb Q E B F X N T hk hd hu hret
  have hvs : vs.length < 24 := by cases hi with | cons _ _ h => have := h.length; omega
  refine wpAny_call ?_
  k_dflt ktr_enter
  repeat' (first | (k_unfold; (try dsimp only)) | ((with_reducible show wpAny _ _ (call (Value.builtin "list.pop") _) _ _ _); first | with_reducible (k_here; (with_reducible show wpAny _ _ (call (Value.builtin _) [Value.ref _, Value.int 0 _]) _ _ _); k_dflt (refine' pop0 (by k_asm) (by k_asm) (by k_upd) (by omega) ?_); intro h' F' N'; (try dsimp only [List.nil_append, List.cons_append] at N'))) | (k_end; kc_close) | walk1 | (dsimp only; walk1) | (leave1; (try dsimp only)))
  · omega
  · exact hret _ _ _ _ (by k_asm) (by k_asm) ⟨_, rfl, .inr ⟨_, rfl⟩⟩
  · exact hret _ _ _ _ (by k_asm) (by k_asm) ⟨_, rfl, .inl ⟨_, _, rfl⟩⟩
end
theorem fdiv_small {x many : Int} (h0 : 0 ≤ x) (h1 : x < 10 ^ 80) (hm : many = 3 ∨ many = 5) : 0 ≤ Int.fdiv x many ∧ Int.fdiv x many < 10 ^ 80 := by
  rcases hm with rfl | rfl
  · rw [Int.fdiv_eq_ediv_of_nonneg _ (by decide)]; omega
  · rw [Int.fdiv_eq_ediv_of_nonneg _ (by decide)]; omega
theorem take_any (w : World) (P : Addr) (n : Nat) (vs : List Value) (hp : PoolIs vs) (many : Int) (t : Tok) (rest : List (Addr × Obj)) (hoff : ∀ p ∈ rest, p.1 ≠ P) (hm : many = 3 ∨ many = 5) :
   Spec w 407 1 [.ref P, .int many t] ((P, listOf vs.toArray n) :: rest) (fun r news' => ∃ d t' vs' n', r = .int d t' ∧ 0 ≤ d ∧ d < many ∧ PoolIs vs' ∧ news' = (P, listOf vs'.toArray n') :: rest) := by
  obtain ⟨ns, hi, hl, hb⟩ := hp
  cases hi with
  | nil =>
    refine (take_nil w P n many t rest).mono ?_
    rintro r nn ⟨t', n', rfl, rfl⟩
    exact ⟨0, t', [], n', rfl, Int.le_refl _, by rcases hm with rfl | rfl <;> decide, ⟨[], .nil, Nat.zero_le _, by simp⟩, rfl⟩
  | @cons x tx vs' ns' hi' =>
    refine (take_cons w P n x tx vs' ns' many t rest hoff hm (by simp at hl; omega) (.cons x tx hi')).mono ?_
    have hx := hb x (by simp)
    rintro r nn ⟨t', rfl, h⟩
    have hmp : 0 < many := by rcases hm with rfl | rfl <;> decide
    rcases h with ⟨n', t'', rfl⟩ | ⟨n', rfl⟩
    · refine ⟨_, _, _, _, rfl, fmod_lo _ hmp, fmod_hi _ hmp, ⟨_ :: ns', .cons _ _ hi', by simpa using hl, ?_⟩, rfl⟩
      intro y hy
      rcases List.mem_cons.mp hy with rfl | hy
      · exact fdiv_small hx.1 hx.2 hm
      · exact hb y (by simp [hy])
    · refine ⟨_, _, _, _, rfl, fmod_lo _ hmp, fmod_hi _ hmp, ⟨ns', hi', by simp at hl; omega, fun y hy => hb y (by simp [hy])⟩, rfl⟩
end Mine
namespace Mine
open LCg
section
variable {prog : Program} {w : World} {A : Around} {E : Value → Shared → Prop} {s : Shared} {h₀ : Heap} {L d B : Addr} {m : Str → Option Value} {news : List (Addr × Obj)} {o : Obj} {Q : Value → Shared → Prop}
theorem sorted_back {h : Heap} {vs : List Value} {out : Array Value} {n : Nat} (F : Fr h₀ L h m) (N : News h₀ L h ((B, listOf vs.toArray n) :: news)) (lt : ∀ p ∈ news, p.1 < B) :
    ∃ e, Fr h₀ L (sortedHeap h B vs out) m ∧ News h₀ L (sortedHeap h B vs out) ((B, listOf out n) :: news) ∨ Fr h₀ L (sortedHeap h B vs out) m ∧ News h₀ L (sortedHeap h B vs out) ((B, listOf out e) :: news) := by
  have z := N _ (.head _)
  have hk : ∀ b o, b ∉ [B] → h.get? b = some o → (sortedHeap h B vs out).get? b = some o := fun b o hb e => (sortedHeap_old (by simpa using hb) (Heap.lt_size e)).trans e
  obtain ⟨e, he⟩ := sortedHeap_at (out := out) z.1
  refine ⟨e, .inr ⟨fr_but F hk (Ne.symm z.2.1) z.2.2, fun p hp => ?_⟩⟩
  rcases List.mem_cons.mp hp with rfl | hp
  · exact ⟨he, z.2⟩
  · exact (news_but (fun p hp => N p (.tail _ hp)) hk fun p hp => Nat.ne_of_lt (lt p hp)) p hp
theorem sort_strs_N {vs : List Value} {ss : List Str} {n : Nat} (F : Fr h₀ L s.heap m) (N : News h₀ L s.heap ((B, listOf vs.toArray n) :: news)) (lt : ∀ p ∈ news, p.1 < B) (hS : StrsAre vs ss) (h64 : vs.length < 64)
    (h : ∀ h' vs' ss' e, Fr h₀ L h' m → News h₀ L h' ((B, listOf vs'.toArray e) :: news) → StrsAre vs' ss' → ss'.Perm ss → sortedS ss' = true → Q .none { s with heap := h' }) :
    wpAny (model prog w) A (call (.builtin "list.sort") [.ref B]) Q E s := by
  have z := N _ (.head _)
  refine wpAny_call_entry PyProof.Rows.slot_list_sort ⟨_, z.1, rfl⟩ PyProof.Rows.entry_list_sort (list_sort_treeK strKind_oneLt (n := n) (vs := vs) z.1 hS.keysOf (fun v₁ v₂ rest e => keyKind_strs (by rw [← e]; exact hS)) h64 fun st' hp hs => ⟨.none, rfl, ?_⟩) (PyProof.Rows.args_list_sort _)
  obtain ⟨ss', h1, h2, h3⟩ := sorted_out_str hS hp hs
  obtain ⟨e, ⟨F', N'⟩ | ⟨F', N'⟩⟩ := sorted_back (out := (arrOf st').map (·.2)) F N lt
  · exact h _ _ ss' n F' (by rw [Array.toArray_toList]; exact N') h1 h2 h3
  · exact h _ _ ss' e F' (by rw [Array.toArray_toList]; exact N') h1 h2 h3
theorem sort_ints_N {vs : List Value} {ns : List Int} {n : Nat} (F : Fr h₀ L s.heap m) (N : News h₀ L s.heap ((B, listOf vs.toArray n) :: news)) (lt : ∀ p ∈ news, p.1 < B) (hI : IntsAre vs ns) (h64 : vs.length < 64)
    (h : ∀ h' vs' ns' e, Fr h₀ L h' m → News h₀ L h' ((B, listOf vs'.toArray e) :: news) → IntsAre vs' ns' → ns'.Perm ns → Q .none { s with heap := h' }) :
    wpAny (model prog w) A (call (.builtin "list.sort") [.ref B]) Q E s := by
  have z := N _ (.head _)
  refine wpAny_call_entry PyProof.Rows.slot_list_sort ⟨_, z.1, rfl⟩ PyProof.Rows.entry_list_sort (list_sort_tree (n := n) (vs := vs) z.1 hI h64 fun out ns' h1 h2 _ => ⟨.none, rfl, ?_⟩) (PyProof.Rows.args_list_sort _)
  obtain ⟨e, ⟨F', N'⟩ | ⟨F', N'⟩⟩ := sorted_back (out := out) F N lt
  · exact h _ _ ns' n F' (by rw [Array.toArray_toList]; exact N') h1 h2
  · exact h _ _ ns' e F' (by rw [Array.toArray_toList]; exact N') h1 h2
theorem keys_strs {kvs : List (Str × Value)} : ∀ {vs : List Value}, vs.length = kvs.length → (∀ (j : Nat) (v : Value), vs[j]? = some v → ∃ k x, kvs[j]? = some (k, x) ∧ (PySem.strKind prog w).is k v = true) → StrsAre vs (kvs.map (·.1)) := by
  induction kvs with
  | nil =>
    intro vs hl _
    rw [List.length_eq_zero_iff.mp hl]
    exact .nil
  | cons q kvs ih =>
    intro vs hl hv
    obtain ⟨v, vs, rfl⟩ := List.exists_cons_of_length_eq_add_one hl
    obtain ⟨k', x', e, hk⟩ := hv 0 v rfl
    obtain ⟨t, rfl⟩ := Value.isStrOf_shape hk
    rw [List.getElem?_cons_zero, Option.some.injEq] at e
    subst e
    exact .cons _ _ (ih (Nat.succ.inj hl) fun j u hu => hv (j + 1) u hu)
theorem keys_ints {kvs : List (Int × Value)} : ∀ {vs : List Value}, vs.length = kvs.length → (∀ (j : Nat) (v : Value), vs[j]? = some v → ∃ k x, kvs[j]? = some (k, x) ∧ (PySem.intKind prog w).is k v = true) → IntsAre vs (kvs.map (·.1)) := by
  induction kvs with
  | nil =>
    intro vs hl _
    rw [List.length_eq_zero_iff.mp hl]
    exact .nil
  | cons q kvs ih =>
    intro vs hl hv
    obtain ⟨v, vs, rfl⟩ := List.exists_cons_of_length_eq_add_one hl
    obtain ⟨k', x', e, hk⟩ := hv 0 v rfl
    obtain ⟨t, rfl⟩ := Value.isInt_shape hk
    rw [List.getElem?_cons_zero, Option.some.injEq] at e
    subst e
    exact .cons _ _ (ih (Nat.succ.inj hl) fun j u hu => hv (j + 1) u hu)
/-- sorted(d) of a dict by strs -/
theorem sorted_dictS {kvs : List (Str × Value)} (hh : A.handled = none) (F : Fr h₀ L s.heap m) (N : News h₀ L s.heap news) (hm : (d, o) ∈ news) (lo : (d == sysModules) = false) (hd : o.IsDictOf (PySem.strKind prog w) kvs) (h64 : kvs.length < 64)
    (h : ∀ (B : Addr) h' tk vs ss e, Fr h₀ L h' m → News h₀ L h' ((B, listOf vs.toArray e) :: news) → (∀ q ∈ news, q.1 < B) → StrsAre vs ss → ss.Perm (kvs.map (·.1)) → sortedS ss = true → Q (.ref B) { s with heap := h', toks := tk }) :
    wpAny (model prog w) A (call (.builtin "sorted") [.ref d]) Q E s := by
  have hD := kda_dict N hm hd
  obtain ⟨ep, hat⟩ := hD.dictAt
  refine kdu_sorted (kdl_dict (knd := PySem.strKind prog w) (ep := ep) lo) hh F N hat (by rw [sizeLine_eq]; omega) fun B h' tk vs F' N' l1 hl hv => ?_
  exact sort_strs_N F' N' l1 (keys_strs hl hv) (by omega) fun h'' vs' ss' e F'' N'' a b c => h B h'' tk vs' ss' e F'' N'' l1 a b c
theorem sorted_dictI {kvs : List (Int × Value)} (hh : A.handled = none) (F : Fr h₀ L s.heap m) (N : News h₀ L s.heap news) (hm : (d, o) ∈ news) (lo : (d == sysModules) = false) (hd : o.IsDictOf (PySem.intKind prog w) kvs) (h64 : kvs.length < 64)
    (h : ∀ (B : Addr) h' tk vs ns e, Fr h₀ L h' m → News h₀ L h' ((B, listOf vs.toArray e) :: news) → (∀ q ∈ news, q.1 < B) → IntsAre vs ns → ns.length = kvs.length → Q (.ref B) { s with heap := h', toks := tk }) :
    wpAny (model prog w) A (call (.builtin "sorted") [.ref d]) Q E s := by
  have hD := kda_dict N hm hd
  obtain ⟨ep, hat⟩ := hD.dictAt
  refine kdu_sorted (kdl_dict (knd := PySem.intKind prog w) (ep := ep) lo) hh F N hat (by rw [sizeLine_eq]; omega) fun B h' tk vs F' N' l1 hl hv => ?_
  exact sort_ints_N F' N' l1 (keys_ints hl hv) (by omega) fun h'' vs' ns' e F'' N'' a b => h B h'' tk vs' ns' e F'' N'' l1 a (by rw [b.length_eq, List.length_map])
theorem perm_one {k : Str} {ss : List Str} (p : ss.Perm [k]) : ss = [k] := List.perm_singleton.mp p
theorem perm_two {a b : Str} {ss : List Str} (p : ss.Perm [a, b]) (hs : sortedS ss = true) (hb : sortedS [a, b] = false) : ss = [b, a] := by
  have hl := p.length_eq
  obtain ⟨x, ss, rfl⟩ := List.exists_cons_of_length_eq_add_one hl
  obtain ⟨y, ss, rfl⟩ := List.exists_cons_of_length_eq_add_one (Nat.succ.inj hl)
  obtain rfl := List.length_eq_zero_iff.mp (Nat.succ.inj (Nat.succ.inj hl))
  · have hx : x ∈ [a, b] := p.mem_iff.mp (by simp)
    simp only [List.mem_cons, List.not_mem_nil, or_false] at hx
    rcases hx with rfl | rfl
    · have := List.Perm.cons_inv p
      rw [List.perm_singleton.mp this, hb] at hs; cases hs
    · have h2 := List.Perm.cons_inv (p.trans (List.Perm.swap _ _ _))
      rw [List.perm_singleton.mp h2]
theorem perm_two' {a b : Str} {ss : List Str} (p : ss.Perm [a, b]) (hs : sortedS ss = true) (hb : sortedS [b, a] = false) : ss = [a, b] := perm_two (p.trans (List.Perm.swap _ _ _)) hs hb
theorem sorted_d1 {k1 : Str} {v1 : Value} (hh : A.handled = none) (F : Fr h₀ L s.heap m) (N : News h₀ L s.heap news) (hm : (d, o) ∈ news) (lo : (d == sysModules) = false) (hd : o.IsDictOf (PySem.strKind prog w) [(k1, v1)])
    (h : ∀ (B : Addr) h' tk t1 e, Fr h₀ L h' m → News h₀ L h' ((B, listOf [.str k1 t1].toArray e) :: news) → (∀ q ∈ news, q.1 < B) → Q (.ref B) { s with heap := h', toks := tk }) :
    wpAny (model prog w) A (call (.builtin "sorted") [.ref d]) Q E s :=
  sorted_dictS hh F N hm lo hd (by simp) fun B h' tk vs ss e F' N' l1 hS hp _ => by
    rw [perm_one hp] at hS
    cases hS with | cons _ t hr => cases hr; exact h B h' tk t e F' N' l1
theorem sorted_d2 {k1 k2 : Str} {v1 v2 : Value} (hh : A.handled = none) (F : Fr h₀ L s.heap m) (N : News h₀ L s.heap news) (hm : (d, o) ∈ news) (lo : (d == sysModules) = false) (hd : o.IsDictOf (PySem.strKind prog w) [(k1, v1), (k2, v2)]) (hb : sortedS [k1, k2] = false)
    (h : ∀ (B : Addr) h' tk t1 t2 e, Fr h₀ L h' m → News h₀ L h' ((B, listOf [.str k2 t2, .str k1 t1].toArray e) :: news) → (∀ q ∈ news, q.1 < B) → Q (.ref B) { s with heap := h', toks := tk }) :
    wpAny (model prog w) A (call (.builtin "sorted") [.ref d]) Q E s :=
  sorted_dictS hh F N hm lo hd (by simp) fun B h' tk vs ss e F' N' l1 hS hp hs => by
    rw [perm_two hp hs hb] at hS
    cases hS with | cons _ t hr => cases hr with | cons _ t' hr' => cases hr'; exact h B h' tk t' t e F' N' l1
theorem sorted_d2' {k1 k2 : Str} {v1 v2 : Value} (hh : A.handled = none) (F : Fr h₀ L s.heap m) (N : News h₀ L s.heap news) (hm : (d, o) ∈ news) (lo : (d == sysModules) = false) (hd : o.IsDictOf (PySem.strKind prog w) [(k1, v1), (k2, v2)]) (hb : sortedS [k2, k1] = false)
    (h : ∀ (B : Addr) h' tk t1 t2 e, Fr h₀ L h' m → News h₀ L h' ((B, listOf [.str k1 t1, .str k2 t2].toArray e) :: news) → (∀ q ∈ news, q.1 < B) → Q (.ref B) { s with heap := h', toks := tk }) :
    wpAny (model prog w) A (call (.builtin "sorted") [.ref d]) Q E s :=
  sorted_dictS hh F N hm lo hd (by simp) fun B h' tk vs ss e F' N' l1 hS hp hs => by
    rw [perm_two' hp hs hb] at hS
    cases hS with | cons _ t hr => cases hr with | cons _ t' hr' => cases hr'; exact h B h' tk t t' e F' N' l1
end
theorem kids_first : sortedS [Str.ofString "Limits", Str.ofString "Kids"] = false := by decide +kernel
theorem limits_first : sortedS [Str.ofString "Nums", Str.ofString "Limits"] = false := by decide +kernel
end Mine
namespace Mine
open PySem.SeqAt
abbrev shelfD (w : World) (tk tk' : Tok) (T R : Addr) : List DictEntry := [⟨PyData.keyHash w.params (Str.ofString "table"), .str (Str.ofString "table") tk, .ref T⟩, ⟨PyData.keyHash w.params (Str.ofString "trailer"), .str (Str.ofString "trailer") tk', .ref R⟩]
theorem above_tr {D D' : Addr} {news : List (Addr × Obj)} (k : D < D') (h : ∀ q ∈ news, q.1 < D) : ∀ q ∈ news, q.1 < D' := fun q hq => Nat.lt_trans (h q hq) k
/-- a call's post: one object changed, and what was made -/
inductive MadeP (T : Addr) (o : Obj) (rest : List (Addr × Obj)) (X : Value → Obj → List (Addr × Obj) → Prop) (r : Value) (news' : List (Addr × Obj)) : Prop
  | mk (o') (tl) (h0 : news' = (T, o') :: (rest ++ tl)) (h1 : Up ((T, o) :: rest) tl) (h2 : X r o' tl) : MadeP T o rest X r news'
theorem finishP {h₀ h : Heap} {L T : Addr} {oT oT' : Obj} {m : Str → Option Value} {s : Shared} {tk : Nat} {r : Value} {rest all : List (Addr × Obj)} {X : Value → Obj → List (Addr × Obj) → Prop} {Q : Value → Shared → Prop}
    (hret : ∀ r news' h' tk', Fr h₀ L h' m → News h₀ L h' news' → MadeP T oT rest X r news' → Q r { s with heap := h', toks := tk' })
    (F : Fr h₀ L h m) (N : News h₀ L h all) (hT : (T, oT') ∈ all) (h1 : ∀ p ∈ rest, p ∈ all) (hX : ∀ tl, Up ((T, oT) :: rest) tl → (∀ p ∈ all, T < p.1 → (∀ q ∈ rest, q.1 < p.1) → p ∈ tl) → X r oT' tl) : Q r { s with heap := h, toks := tk } := by
  obtain ⟨tl, N', U, k⟩ := close_upP N hT h1
  exact hret r _ h tk F N' ⟨oT', tl, rfl, U.addr, hX tl U.addr k⟩
/-- no address twice -/
def Apart (news tl : List (Addr × Obj)) : Prop := ∀ q ∈ news, ∀ p ∈ tl, q.1 ≠ p.1
theorem Up.apart {news tl : List (Addr × Obj)} (h : Up news tl) : Apart news tl := fun q hq p hp => Nat.ne_of_lt (h q hq p hp)
theorem Apart.nil (news : List (Addr × Obj)) : Apart news [] := fun _ _ _ h => nomatch h
theorem Apart.app {a t u : List (Addr × Obj)} (h : Apart a t) (k : Apart a u) : Apart a (t ++ u) := fun q hq p hp => by
  rcases List.mem_append.mp hp with hp | hp
  · exact h q hq p hp
  · exact k q hq p hp
theorem Apart.sub {a b t : List (Addr × Obj)} (h : Apart b t) (hs : ∀ p ∈ a, p ∈ b) : Apart a t := fun q hq p hp => h q (hs q hq) p hp
theorem Apart.addr {P : Addr} {o o' : Obj} {rest tl : List (Addr × Obj)} (h : Apart ((P, o) :: rest) tl) : Apart ((P, o') :: rest) tl := fun q hq p hp => by
  rcases List.mem_cons.mp hq with rfl | hq
  · exact h (P, o) (.head _) p hp
  · exact h q (.tail _ hq) p hp
theorem ne_ord {D : Addr} {news : List (Addr × Obj)} (h : ∀ q ∈ news, q.1 < D) : ∀ q ∈ news, q.1 ≠ D := fun q hq => Nat.ne_of_lt (h q hq)
/-- a call's post: one object changed, and what was made stands elsewhere -/
inductive MadeQ (T : Addr) (o : Obj) (rest : List (Addr × Obj)) (X : Value → Obj → List (Addr × Obj) → Prop) (r : Value) (news' : List (Addr × Obj)) : Prop
  | mk (o') (tl) (h0 : news' = (T, o') :: (rest ++ tl)) (h1 : Apart ((T, o) :: rest) tl) (h2 : X r o' tl) : MadeQ T o rest X r news'
theorem ret_q {h₀ : Heap} {L : Addr} {m : Str → Option Value} {s : Shared} {Q : Value → Shared → Prop} {T : Addr} {o : Obj} {rest : List (Addr × Obj)} {X : Value → Obj → List (Addr × Obj) → Prop} (k : ∀ r o' tl h' tk', Fr h₀ L h' m → News h₀ L h' ((T, o') :: (rest ++ tl)) → Apart ((T, o) :: rest) tl → X r o' tl → Q r { s with heap := h', toks := tk' }) :
    ∀ r n' h' tk', Fr h₀ L h' m → News h₀ L h' n' → MadeQ T o rest X r n' → Q r { s with heap := h', toks := tk' } := by
  rintro r n' h' tk' F N ⟨o', tl, rfl, U, x⟩
  exact k r o' tl h' tk' F N U x
open Classical in
theorem finishQ {h₀ h : Heap} {L T : Addr} {oT oT' : Obj} {m : Str → Option Value} {s : Shared} {tk : Nat} {r : Value} {rest all : List (Addr × Obj)} {X : Value → Obj → List (Addr × Obj) → Prop} {Q : Value → Shared → Prop}
    (hret : ∀ r news' h' tk', Fr h₀ L h' m → News h₀ L h' news' → MadeQ T oT rest X r news' → Q r { s with heap := h', toks := tk' })
    (F : Fr h₀ L h m) (N : News h₀ L h all) (hT : (T, oT') ∈ all) (h1 : ∀ p ∈ rest, p ∈ all) (hX : ∀ tl, Apart ((T, oT) :: rest) tl → (∀ p ∈ all, T ≠ p.1 → (∀ q ∈ rest, q.1 ≠ p.1) → p ∈ tl) → X r oT' tl) : Q r { s with heap := h, toks := tk } := by
  have ha : Apart ((T, oT) :: rest) (all.filter (fun p => decide (T ≠ p.1 ∧ ∀ q ∈ rest, q.1 ≠ p.1))) := fun q hq p hp => by
    have z := of_decide_eq_true (List.mem_filter.mp hp).2
    rcases List.mem_cons.mp hq with rfl | hq
    · exact z.1
    · exact z.2 q hq
  refine hret r _ h tk F (fun p hp => ?_) ⟨oT', all.filter (fun p => decide (T ≠ p.1 ∧ ∀ q ∈ rest, q.1 ≠ p.1)), rfl, ha, hX _ ha fun p hp h2 h3 => List.mem_filter.mpr ⟨hp, decide_eq_true ⟨h2, h3⟩⟩⟩
  rcases List.mem_cons.mp hp with rfl | hp
  · exact N _ hT
  · rcases List.mem_append.mp hp with hp | hp
    · exact N p (h1 p hp)
    · exact N p (List.mem_filter.mp hp).1
theorem unrEnd_pick {h₀ : Heap} {L I : Addr} {it : Obj} {rest : (Str → Option Value) → List (Addr × Obj) → Prop} {s₁ : Shared} {h' : Heap} {tk : Nat} {m' : Str → Option Value} {all news' : List (Addr × Obj)} (F : Fr h₀ L h' m') (N : News h₀ L h' all) (k : Pick I it all news')
    (off : ∀ p ∈ news', p.1 ≠ I) (r : rest m' news') : UnrEnd h₀ L s₁ I it rest { s₁ with heap := h', toks := tk } := UnrEnd.intro F N news' k.mem off r
/-- a place of a way -/
inductive PlaceIs (news : List (Addr × Obj)) (v : Value) (i : Int) : Prop
  | mk (a) (ti) (j) (tj) (m) (h0 : v = .ref a) (h1 : (a, tupOf #[.int i ti, .int j tj] m) ∈ news) : PlaceIs news v i
theorem PlaceIs.mono {news news' : List (Addr × Obj)} {v : Value} {i : Int} (h : PlaceIs news v i) (hs : ∀ p ∈ news, p ∈ news') : PlaceIs news' v i := by
  obtain ⟨a, ti, j, tj, m, e, x⟩ := h
  exact ⟨a, ti, j, tj, m, e, hs _ x⟩
section
variable {prog : Program} {w : World} {A : Around} {E : Value → Shared → Prop} {s : Shared} {h₀ : Heap} {L : Addr} {m : Str → Option Value} {news : List (Addr × Obj)} {Q : Value → Shared → Prop}
/-- a place that is not in the way: its number is another -/
theorem in_way {t p : Addr} {vs : List Value} {n n' : Nat} {x y : Int} {tx ty : Tok} (N : News h₀ L s.heap news) (ht : (t, tupOf vs.toArray n) ∈ news) (hp : (p, tupOf #[.int x tx, .int y ty] n') ∈ news)
    (hne : ∀ v ∈ vs, ∃ i, PlaceIs news v i ∧ i ≠ x) (hu : A.units + 1 < cLine) (h : Q (.bool false) s) : wpAny (model prog w) A (compareOp .In (.ref p) (.ref t)) Q E s := by
  have hl : s.heap.IsTuple t vs.toArray := ⟨_, (N _ ht).1, rfl, n, rfl⟩
  have hl' : s.heap.IsTuple p #[.int x tx, .int y ty] := ⟨_, (N _ hp).1, rfl, n', rfl⟩
  refine in_tupleAt (fun _ => false) hl (fun v hv => ?_) (by have e : vs.toArray.any (fun _ => false) = false := by { rw [Bool.eq_false_iff]; simp }
                                                             rw [e]; exact h)
  obtain ⟨i, ⟨a, ti, j, tj, k, rfl, hm⟩, hi⟩ := hne v (by simpa using hv)
  have hla : s.heap.IsTuple a #[.int i ti, .int j tj] := ⟨_, (N _ hm).1, rfl, k, rfl⟩
  have hap : a ≠ p := by
    rintro rfl
    have := N.get hm
    rw [N.get hp] at this
    simp only [Option.some.injEq] at this
    have := congrArg Obj.data this
    simp at this
    exact hi this.1.1.1.symm
  refine EqAt.of_refs hap ?_
  have := RcAt.tuples (A := A.in1) (e := fun j' => if j' = 0 then i == x else j == y) hla hl' (by rw [units_in1]; exact hu) (fun j' h1 h2 => by
    match j', h1 with
    | 0, _ => exact EqAt.int_int _ _ _ _
    | 1, _ => exact EqAt.int_int _ _ _ _)
  have e : ((List.range (min #[Value.int i ti, Value.int j tj].size #[Value.int x tx, Value.int y ty].size)).all (fun j' => if j' = 0 then i == x else j == y) && #[Value.int i ti, Value.int j tj].size == #[Value.int x tx, Value.int y ty].size) = false := by
    have : (i == x) = false := by simpa using hi
    simp [List.range, List.range.loop, this]
  rw [e] at this
  exact this
/-- a place that is in the way -/
theorem in_way_yes {t p a : Addr} {us vs : List Value} {n n' n'' : Nat} {x y : Int} {tx ty tx' ty' : Tok} (N : News h₀ L s.heap news) (ht : (t, tupOf (us ++ .ref a :: vs).toArray n) ∈ news) (hp : (p, tupOf #[.int x tx, .int y ty] n') ∈ news) (ha : (a, tupOf #[.int x tx', .int y ty'] n'') ∈ news)
    (hap : a ≠ p) (hne : ∀ v ∈ us ++ .ref a :: vs, v = .ref a ∨ ∃ i, PlaceIs news v i ∧ i ≠ x) (hu : A.units + 1 < cLine) (h : Q (.bool true) s) : wpAny (model prog w) A (compareOp .In (.ref p) (.ref t)) Q E s := by
  have hl : s.heap.IsTuple t (us ++ .ref a :: vs).toArray := ⟨_, (N _ ht).1, rfl, n, rfl⟩
  have hl' : s.heap.IsTuple p #[.int x tx, .int y ty] := ⟨_, (N _ hp).1, rfl, n', rfl⟩
  have hla : s.heap.IsTuple a #[.int x tx', .int y ty'] := ⟨_, (N _ ha).1, rfl, n'', rfl⟩
  refine in_tupleAt (fun v => v == .ref a) hl (fun v hv => ?_) (by simpa using h)
  rcases hne v (by simpa using hv) with rfl | ⟨i, ⟨b, ti, j, tj, k, rfl, hm⟩, hi⟩
  · refine EqAt.of_refs hap ?_
    have := RcAt.tuples (A := A.in1) (e := fun _ => true) hla hl' (by rw [units_in1]; exact hu) (fun j' h1 h2 => by
      match j', h1 with
      | 0, _ => have := EqAt.int_int (A := A.in1.in1) (s := s) x tx' x tx; rwa [beq_self_eq_true] at this
      | 1, _ => have := EqAt.int_int (A := A.in1.in1) (s := s) y ty' y ty; rwa [beq_self_eq_true] at this)
    have e : (Value.ref a == Value.ref a) = true := by simp
    rw [e]
    simpa [List.range, List.range.loop] using this
  · have hlb : s.heap.IsTuple b #[.int i ti, .int j tj] := ⟨_, (N _ hm).1, rfl, k, rfl⟩
    have hab : b ≠ a := by
      rintro rfl
      have := N.get hm
      rw [N.get ha] at this
      simp only [Option.some.injEq] at this
      have := congrArg Obj.data this
      simp at this
      exact hi this.1.1.1.symm
    have hbp : b ≠ p := by
      rintro rfl
      have := N.get hm
      rw [N.get hp] at this
      simp only [Option.some.injEq] at this
      have := congrArg Obj.data this
      simp at this
      exact hi this.1.1.1.symm
    have e2 : (Value.ref b == Value.ref a) = false := by simpa using hab
    rw [e2]
    refine EqAt.of_refs hbp ?_
    have := RcAt.tuples (A := A.in1) (e := fun j' => if j' = 0 then i == x else j == y) hlb hl' (by rw [units_in1]; exact hu) (fun j' h1 h2 => by
      match j', h1 with
      | 0, _ => exact EqAt.int_int _ _ _ _
      | 1, _ => exact EqAt.int_int _ _ _ _)
    have e : ((List.range (min #[Value.int i ti, Value.int j tj].size #[Value.int x tx, Value.int y ty].size)).all (fun j' => if j' = 0 then i == x else j == y) && #[Value.int i ti, Value.int j tj].size == #[Value.int x tx, Value.int y ty].size) = false := by
      have : (i == x) = false := by simpa using hi
      simp [List.range, List.range.loop, this]
    rw [e] at this
    exact this
/-- the way at its start -/
theorem in_way0 {K : Frag} {t p : Addr} {n : Nat} (X : K.In h₀) (F : Fr h₀ L s.heap m) (ht : K.lookup t = some (tupOf #[] n)) (h : Q (.bool false) s) : wpAny (model prog w) A (compareOp .In (.ref p) (.ref t)) Q E s := by
  have hl : s.heap.IsTuple t #[] := ⟨_, F.keep _ _ (X _ _ ht), rfl, n, rfl⟩
  exact in_tupleAt (fun _ => false) hl (fun v hv => by simp at hv) (by simpa using h)
theorem addTup0 {K : Frag} {t p : Addr} {zs : List Value} {n n' : Nat} (F : Fr h₀ L s.heap m) (N : News h₀ L s.heap news) (X : K.In h₀) (ht : K.lookup t = some (tupOf #[] n)) (hp : (p, tupOf zs.toArray n') ∈ news) (hz : zs.length ≤ 1000) (h : Q (.ref p) s) :
    wpAny (model prog w) A (binaryOp .Add (.ref t) (.ref p)) Q E s := by
  have hl : IsTup s.heap t #[] := ⟨_, F.keep _ _ (X _ _ ht), rfl, n, rfl⟩
  have hl' : IsTup s.heap p zs.toArray := ⟨_, (N _ hp).1, rfl, n', rfl⟩
  exact kde_addT0 F N hl hl' rfl (by simp; omega) h
end
end Mine
namespace Mine
theorem walk_plain_ToldA : True := by
  w_top off
  trivial
def Tells (w : World) (news : List (Addr × Obj)) (sz n : Nat) (v : Value) (t : T) : Prop :=
  ∀ news1, (∀ p ∈ news, p ∈ news1) → Spec w 277 sz [v] news1 (Made news1 fun r tl => ToldIs tl n r t)
theorem Tells.flip {w : World} {news news1 : List (Addr × Obj)} {sz n : Nat} {v : Value} {t : T} (hs : ∀ p ∈ news, p ∈ news1) (h : Tells w news sz n v t) : Spec w 277 sz [v] news1 (Made news1 fun r tl => ToldIs tl n r t) := h news1 hs
theorem Tells.use {w : World} {news news1 : List (Addr × Obj)} {sz n : Nat} {v : Value} {t : T} (h : Tells w news sz n v t) (hs : ∀ p ∈ news, p ∈ news1) : Spec w 277 sz [v] news1 (Made news1 fun r tl => ToldIs tl n r t) := h news1 hs
theorem Tells.mono {w : World} {news news1 : List (Addr × Obj)} {sz n : Nat} {v : Value} {t : T} (h : Tells w news sz n v t) (hs : ∀ p ∈ news, p ∈ news1) : Tells w news1 sz n v t := fun n2 h2 => h n2 fun p hp => h2 p (hs p hp)
theorem fin2 {h₀ h : Heap} {L : Addr} {p q : Addr × Obj} {news : List (Addr × Obj)} (N : News h₀ L h (p :: q :: news)) : News h₀ L h (news ++ [p]) := fun x hx => N x (by
  rcases List.mem_append.mp hx with h | h
  · exact .tail _ (.tail _ h)
  · rw [List.mem_singleton.mp h]; exact .head _)
theorem up_one {news : List (Addr × Obj)} {a : Addr} {o : Obj} (h : ∀ p ∈ news, p.1 < a) : Up news [(a, o)] := fun q hq p hp => by rw [List.mem_singleton.mp hp]; exact h q hq
section
local macro_rules | `(tactic| ktr_enter) => `(tactic| (refine' code_defC ?k1 ?k2 ?k3 ?k4 ?k5 ?kA ?kF ?kK ?k6 ?k7 ?k8 ?k9 ?kB ?kD ?_ ?c2 ?c3 ?c4; (case kA => exact rfl); (case kF => exact rfl); (case kK => assumption); (case k1 => k_asm); (case k2 => k_asm); (case k3 => k_asm); (case k4 => k_asm); (case k5 => k_asm); (case k6 => k_is); (case k7 => k_is); (case k8 => ktr_room); (case k9 => exact BindsTo.of_eq rfl); (case kB => exact rfl); (case kD => decide +kernel); (case c2 => exact rfl); (case c3 => exact rfl); (case c4 => exact rfl); k_whole; intro g' L' h' tk' cells' FG' F' N' Y' B' X' T' l1; (try k_lt l1); k_cells Y'; (try simp only [List.cons_append, List.nil_append] at N'); (try dsimp only); (try k_fold)))
local macro_rules | `(tactic| k_all) => `(tactic| first | assumption | (refine' off_of ?h; (case h => with_reducible (first | assumption | (apply And.right; (iterate 14 (first | done | assumption | apply And.right)); done)))) | fail "none")
local macro_rules | `(tactic| k_room) => `(tactic| ktr_room)
local macro_rules | `(tactic| k_ne) => `(tactic| (refine neN ?_; (try dsimp only); with_reducible first | assumption | exact Ne.symm (by assumption) | (apply Nat.ne_of_gt; first | assumption | (apply And.left; (iterate 14 (first | done | assumption | apply And.right)); done)) | (apply Nat.ne_of_lt; first | assumption | (apply And.left; (iterate 14 (first | done | assumption | apply And.right)); done))))
local macro_rules | `(tactic| ktr_room) => `(tactic| first | ((first | (refine' room ?h ?l; (case h => assumption)) | (refine' room2 ?h ?l; (case h => assumption))); (case l => first | exact Nat.le_of_ble_eq_true rfl | exact room_k (Nat.le_of_ble_eq_true rfl) | exact room_n (Nat.le_of_ble_eq_true rfl) | exact room_sz (by assumption) (Nat.le_of_ble_eq_true rfl) | omega)) | fail "room")
local macro_rules | `(tactic| ktr_units) => `(tactic| first | ((first | (refine' units ?h ?l; (case h => assumption)) | (refine' units2 ?h ?l; (case h => assumption))); (case l => first | exact Nat.le_of_ble_eq_true rfl | exact room_k (Nat.le_of_ble_eq_true rfl) | exact room_n (Nat.le_of_ble_eq_true rfl) | exact room_sz (by assumption) (Nat.le_of_ble_eq_true rfl) | omega)) | fail "units")
local macro_rules | `(tactic| k_mem) => `(tactic| first | assumption | exact mem_inl' (by assumption) | exact mem_inl' (mem_inl' (by assumption)) | exact mem_inl' (mem_inl' (mem_inl' (by assumption))))
local macro_rules | `(tactic| k_mem) => `(tactic| with_reducible assumption)
local macro_rules | `(tactic| k_in) => `(tactic| first | with_reducible assumption | exact Frag.In.keeps (by with_reducible assumption) (Fr.keep (by with_reducible assumption)))
set_option maxRecDepth 100000 in
set_option maxHeartbeats 8000000 in
theorem told_none (w : World) (news : List (Addr × Obj)) : Spec w 277 3 [.none] news (Made news fun r tl => ToldIs tl 1 r (tellItem .none)) := by
  unfold Spec
  k_fill
  intro dp un gd cn cs a ccd cl outer A₀ base h₀ L m s loose mean mg mb Q E B F X N T hk hd hu hret
  refine wpAny_call ?_
  k_dflt ktr_enter
  repeat' (first | (k_unfold; (try dsimp only)) | ((with_reducible show wpAny _ _ (call (Value.ref _) _) _ _ _); first | with_reducible (k_here; k_dflt ( refine' spec_use (f := 265) (by k_asm) (by k_asm) (by k_asm) (by k_asm) (by k_asm) (by first | exact rfl | assumption) (by first | exact kind_none _ _ | exact kind_int _ _ _ _ | exact kind_name _ _ _ _ _ (by k_mem) (by k_mem) | exact kind_ref _ _ _ _ _ (by k_mem) (by k_mem) | exact kind_list _ _ _ _ _ (by k_mem) | exact kind_dict _ _ _ _ (by k_mem) (dict_cls (by assumption))) (by ktr_room) (by ktr_units) (ret_kind ?_); (intro t9 h9 tk9 F9 N9; (try k_sweep); (try dsimp only); (try k_fold))))) | (k_end; kc_close) | walk1 | (dsimp only; walk1) | (leave1; (try dsimp only)))
  refine hret _ (news ++ [_]) _ _ (by k_asm) (fin2 (by k_asm)) ⟨_, rfl, up_one ?_, _, _, _, rfl, .head _, ?_⟩
  · exact ktn_ltOf (And.right (by assumption))
  · exact ⟨⟨_, rfl⟩, trivial⟩
set_option maxRecDepth 100000 in
set_option maxHeartbeats 8000000 in
theorem told_int (w : World) (news : List (Addr × Obj)) (i : Int) (t : Tok) : Spec w 277 3 [.int i t] news (Made news fun r tl => ToldIs tl 1 r (tellItem (.int i))) := by
  unfold Spec
  k_fill
  intro dp un gd cn cs a ccd cl outer A₀ base h₀ L m s loose mean mg mb Q E B F X N T hk hd hu hret
  refine wpAny_call ?_
  k_dflt ktr_enter
  repeat' (first | (k_unfold; (try dsimp only)) | ((with_reducible show wpAny _ _ (call (Value.ref _) _) _ _ _); first | with_reducible (k_here; k_dflt ( refine' spec_use (f := 265) (by k_asm) (by k_asm) (by k_asm) (by k_asm) (by k_asm) (by first | exact rfl | assumption) (by first | exact kind_none _ _ | exact kind_int _ _ _ _ | exact kind_name _ _ _ _ _ (by k_mem) (by k_mem) | exact kind_ref _ _ _ _ _ (by k_mem) (by k_mem) | exact kind_list _ _ _ _ _ (by k_mem) | exact kind_dict _ _ _ _ (by k_mem) (dict_cls (by assumption))) (by ktr_room) (by ktr_units) (ret_kind ?_); (intro t9 h9 tk9 F9 N9; (try k_sweep); (try dsimp only); (try k_fold))))) | (k_end; kc_close) | walk1 | (dsimp only; walk1) | (leave1; (try dsimp only)))
  refine hret _ (news ++ [_]) _ _ (by k_asm) (fin2 (by k_asm)) ⟨_, rfl, up_one ?_, _, _, _, rfl, .head _, ?_⟩
  · exact ktn_ltOf (And.right (by assumption))
  · exact ⟨⟨_, rfl⟩, ⟨_, rfl⟩, trivial⟩
set_option maxRecDepth 100000 in
set_option maxHeartbeats 8000000 in
theorem told_name (w : World) (news : List (Addr × Obj)) (x dx : Addr) (tk tk' : Tok) (n : Nat) (h1 : (x, instObj 183 dx) ∈ news) (h2 : (dx, dictOf (nameD w tk tk') n) ∈ news) : Spec w 277 3 [.ref x] news (Made news fun r tl => ToldIs tl 1 r (tellItem .name)) := by
  unfold Spec
  k_fill
  intro dp un gd cn cs a ccd cl outer A₀ base h₀ L m s loose mean mg mb Q E B F X N T hk hd hu hret
  refine wpAny_call ?_
  k_dflt ktr_enter
  repeat' (first | (k_unfold; (try dsimp only)) | ((with_reducible show wpAny _ _ (call (Value.ref _) _) _ _ _); first | with_reducible (k_here; k_dflt ( refine' spec_use (f := 265) (by k_asm) (by k_asm) (by k_asm) (by k_asm) (by k_asm) (by first | exact rfl | assumption) (by first | exact kind_none _ _ | exact kind_int _ _ _ _ | exact kind_name _ _ _ _ _ (by k_mem) (by k_mem) | exact kind_ref _ _ _ _ _ (by k_mem) (by k_mem) | exact kind_list _ _ _ _ _ (by k_mem) | exact kind_dict _ _ _ _ (by k_mem) (dict_cls (by assumption))) (by ktr_room) (by ktr_units) (ret_kind ?_); (intro t9 h9 tk9 F9 N9; (try k_sweep); (try dsimp only); (try k_fold))))) | (k_end; kc_close) | walk1 | (dsimp only; walk1) | (leave1; (try dsimp only)))
  refine hret _ (news ++ [_]) _ _ (by k_asm) (fin2 (by k_asm)) ⟨_, rfl, up_one ?_, _, _, _, rfl, .head _, ?_⟩
  · exact ktn_ltOf (And.right (by assumption))
  · exact ⟨⟨_, rfl⟩, ⟨_, rfl⟩, trivial⟩
set_option maxRecDepth 100000 in
set_option maxHeartbeats 8000000 in
theorem told_ref (w : World) (news : List (Addr × Obj)) (x dx : Addr) (tk tk' t t' : Tok) (k g : Int) (n : Nat) (h1 : (x, instObj 254 dx) ∈ news) (h2 : (dx, dictOf (refD w tk tk' (.int k t) (.int g t')) n) ∈ news) : Spec w 277 3 [.ref x] news (Made news fun r tl => ToldIs tl 1 r (tellItem (.ref k g))) := by
  unfold Spec
  k_fill
  intro dp un gd cn cs a ccd cl outer A₀ base h₀ L m s loose mean mg mb Q E B F X N T hk hd hu hret
  refine wpAny_call ?_
  k_dflt ktr_enter
  repeat' (first | (k_unfold; (try dsimp only)) | ((with_reducible show wpAny _ _ (call (Value.ref _) _) _ _ _); first | with_reducible (k_here; k_dflt ( refine' spec_use (f := 265) (by k_asm) (by k_asm) (by k_asm) (by k_asm) (by k_asm) (by first | exact rfl | assumption) (by first | exact kind_none _ _ | exact kind_int _ _ _ _ | exact kind_name _ _ _ _ _ (by k_mem) (by k_mem) | exact kind_ref _ _ _ _ _ (by k_mem) (by k_mem) | exact kind_list _ _ _ _ _ (by k_mem) | exact kind_dict _ _ _ _ (by k_mem) (dict_cls (by assumption))) (by ktr_room) (by ktr_units) (ret_kind ?_); (intro t9 h9 tk9 F9 N9; (try k_sweep); (try dsimp only); (try k_fold))))) | (k_end; kc_close) | walk1 | (dsimp only; walk1) | (leave1; (try dsimp only)))
  refine hret _ (news ++ [_]) _ _ (by k_asm) (fin2 (by k_asm)) ⟨_, rfl, up_one ?_, _, _, _, rfl, .head _, ?_⟩
  · exact ktn_ltOf (And.right (by assumption))
  · exact ⟨⟨_, rfl⟩, ⟨_, rfl⟩, ⟨_, rfl⟩, trivial⟩
end
end Mine
namespace Mine
local macro_rules | `(tactic| walk_at "an idle line 0") => `(tactic| fail "idle")
theorem walk_plain_ToldB : True := by
  w_top off
  trivial
section
local macro_rules | `(tactic| ktr_enter) => `(tactic| (refine' code_defC ?k1 ?k2 ?k3 ?k4 ?k5 ?kA ?kF ?kK ?k6 ?k7 ?k8 ?k9 ?kB ?kD ?_ ?c2 ?c3 ?c4; (case kA => exact rfl); (case kF => exact rfl); (case kK => assumption); (case k1 => k_asm); (case k2 => k_asm); (case k3 => k_asm); (case k4 => k_asm); (case k5 => k_asm); (case k6 => k_is); (case k7 => k_is); (case k8 => ktr_room); (case k9 => exact BindsTo.of_eq rfl); (case kB => exact rfl); (case kD => decide +kernel); (case c2 => exact rfl); (case c3 => exact rfl); (case c4 => exact rfl); k_whole; intro g' L' h' tk' cells' FG' F' N' Y' B' X' T' l1; (try k_lt l1); k_cells Y'; (try simp only [List.cons_append, List.nil_append] at N'); (try dsimp only); (try k_fold)))
local macro_rules | `(tactic| k_all) => `(tactic| first | assumption | (refine' off_of ?h; (case h => with_reducible (first | assumption | (apply And.right; (iterate 14 (first | done | assumption | apply And.right)); done)))) | fail "none")
local macro_rules | `(tactic| k_room) => `(tactic| ktr_room)
local macro_rules | `(tactic| k_ne) => `(tactic| (refine neN ?_; (try dsimp only); with_reducible first | assumption | exact Ne.symm (by assumption) | (apply Nat.ne_of_gt; first | assumption | (apply And.left; (iterate 14 (first | done | assumption | apply And.right)); done)) | (apply Nat.ne_of_lt; first | assumption | (apply And.left; (iterate 14 (first | done | assumption | apply And.right)); done))))
local macro_rules | `(tactic| ktr_room) => `(tactic| first | ((first | (refine' room ?h ?l; (case h => assumption)) | (refine' room2 ?h ?l; (case h => assumption))); (case l => first | exact Nat.le_of_ble_eq_true rfl | exact room_k (Nat.le_of_ble_eq_true rfl) | exact room_n (Nat.le_of_ble_eq_true rfl) | exact room_sz (by assumption) (Nat.le_of_ble_eq_true rfl) | omega)) | fail "room")
local macro_rules | `(tactic| ktr_units) => `(tactic| first | ((first | (refine' units ?h ?l; (case h => assumption)) | (refine' units2 ?h ?l; (case h => assumption))); (case l => first | exact Nat.le_of_ble_eq_true rfl | exact room_k (Nat.le_of_ble_eq_true rfl) | exact room_n (Nat.le_of_ble_eq_true rfl) | exact room_sz (by assumption) (Nat.le_of_ble_eq_true rfl) | omega)) | fail "units")
local macro_rules | `(tactic| k_mem) => `(tactic| first | assumption | exact mem_inl' (by assumption) | exact mem_inl' (mem_inl' (by assumption)) | exact mem_inl' (mem_inl' (mem_inl' (by assumption))))
local macro_rules | `(tactic| k_mem) => `(tactic| with_reducible assumption)
local macro_rules | `(tactic| k_in) => `(tactic| first | with_reducible assumption | exact Frag.In.keeps (by with_reducible assumption) (Fr.keep (by with_reducible assumption)))
set_option maxRecDepth 100000 in
set_option maxHeartbeats 8000000 in
theorem told_list (w : World) (news : List (Addr × Obj)) (x : Addr) (vs : List Value) (n sz dd : Nat) (ts : List T) (hm : (x, listOf vs.toArray n) ∈ news) (hlen : vs.length ≤ 100)
   (hts : All2 (Tells w news sz dd) vs ts) : Spec w 277 (sz + 3) [.ref x] news (Made news fun r tl => ToldIs tl (dd + 1) r (.tup (S "array" :: ts))) := by
  unfold Spec
  k_fill
  intro dp un gd cn cs a ccd cl outer A₀ base h₀ L m s loose mean mg mb Q E B F X N T hk hd hu hret
  refine wpAny_call ?_
  k_dflt ktr_enter
  repeat' (first | (k_unfold; (try dsimp only)) | ((with_reducible show wpAny _ _ (binaryOp Operator.Add (Value.ref _) (Value.ref _)) _ _ _); first | with_reducible (k_here; k_dflt (refine' addTup_N (by k_asm) (by k_asm) (by k_mem) (by k_mem) (by exact List.cons_ne_nil _ _) (by (simp only [List.length_cons, List.length_nil]; omega)) ?_ ?_); intro z0'; (try intro D' h' F' N' l1)) | (k_here; k_dflt (refine' addTup_N (by k_asm) (by k_asm) (by k_mem) (by k_mem) (by exact List.cons_ne_nil _ _) (by (simp only [List.length_cons, List.length_nil]; omega)) ?_ ?_); intro z0'; (try intro D' h' F' N' l1))) | ((with_reducible show wpAny _ _ (call (Value.type "tuple") _) _ _ _); first | with_reducible (k_here; k_dflt (refine' tupleOf_N (by k_asm) (by k_asm) (by k_mem) (by omega) ?_); intro D' h' F' N' l1) | (k_here; k_dflt (refine' tupleOf_N (by k_asm) (by k_asm) (by k_mem) (by omega) ?_); intro D' h' F' N' l1)) | ((with_reducible show wpAny _ _ (call (Value.ref _) _) _ _ _); first | with_reducible (k_here; k_dflt ( refine' spec_use (f := 277) (by k_asm) (by k_asm) (by k_asm) (by k_asm) (by k_asm) (by first | exact rfl | assumption) (Tells.use (by assumption) (by repeat (first | exact sub_refl _ | assumption | refine' sub_cons ?_ | refine' sub_app ?_))) (by ktr_room) (by ktr_units) (ret_made ?_); (intro r9 tl9 h9 tk9 F9 N9 up9 t9; (try simp only [List.cons_append] at N9); (try k_sweep); (try dsimp only); (try k_fold)))) | with_reducible (k_here; k_dflt ( refine' spec_use (f := 265) (by k_asm) (by k_asm) (by k_asm) (by k_asm) (by k_asm) (by first | exact rfl | assumption) (by first | exact kind_none _ _ | exact kind_int _ _ _ _ | exact kind_name _ _ _ _ _ (by k_mem) (by k_mem) | exact kind_ref _ _ _ _ _ (by k_mem) (by k_mem) | exact kind_list _ _ _ _ _ (by k_mem) | exact kind_dict _ _ _ _ (by k_mem) (dict_cls (by assumption))) (by ktr_room) (by ktr_units) (ret_kind ?_); (intro t9 h9 tk9 F9 N9; (try k_sweep); (try dsimp only); (try k_fold))))) | ((with_reducible show wpAny _ _ (eval (Expr.ListComp _ _ _ _) _) _ _ _); first | with_reducible (k_here; k_dflt (refine LCg.ListComp_U (F₀ := by k_asm) (by rfl) (by decide) (by rfl) (by decide) (by rfl) ?_))) | (k_end; kc_close) | walk1 | (dsimp only; walk1) | (leave1; (try dsimp only)))
  refine LCg.CompSrc.ledger rfl (by k_asm) (by k_asm) (by k_mem) (by rw [List.size_toArray, sizeLine_eq]; omega) ?_
  intro g9
  refine compRest_up (fun i ys tl => All2 (ToldIs tl dd) ys (ts.take i)) ?_ ?_ trivial
  · intro i ys tl v I oI C oC D m₂ hh tk E' hi hv U R hC hx F8 N8 off ne
    obtain ⟨t0, hT, ht⟩ := hts.at (i := i) (a := v) (by simpa using hv)
    repeat' (first | (k_unfold; (try dsimp only)) | ((with_reducible show wpAny _ _ (binaryOp Operator.Add (Value.ref _) (Value.ref _)) _ _ _); first | with_reducible (k_here; k_dflt (refine' addTup_N (by k_asm) (by k_asm) (by k_mem) (by k_mem) (by exact List.cons_ne_nil _ _) (by (simp only [List.length_cons, List.length_nil]; omega)) ?_ ?_); intro z0'; (try intro D' h' F' N' l1)) | (k_here; k_dflt (refine' addTup_N (by k_asm) (by k_asm) (by k_mem) (by k_mem) (by exact List.cons_ne_nil _ _) (by (simp only [List.length_cons, List.length_nil]; omega)) ?_ ?_); intro z0'; (try intro D' h' F' N' l1))) | ((with_reducible show wpAny _ _ (call (Value.type "tuple") _) _ _ _); first | with_reducible (k_here; k_dflt (refine' tupleOf_N (by k_asm) (by k_asm) (by k_mem) (by omega) ?_); intro D' h' F' N' l1) | (k_here; k_dflt (refine' tupleOf_N (by k_asm) (by k_asm) (by k_mem) (by omega) ?_); intro D' h' F' N' l1)) | ((with_reducible show wpAny _ _ (call (Value.ref _) _) _ _ _); first | with_reducible (k_here; k_dflt ( refine' spec_use (f := 277) (by k_asm) (by k_asm) (by k_asm) (by k_asm) (by k_asm) (by first | exact rfl | assumption) (Tells.use (by assumption) (by repeat (first | exact sub_refl _ | assumption | refine' sub_cons ?_ | refine' sub_app ?_))) (by ktr_room) (by ktr_units) (ret_made ?_); (intro r9 tl9 h9 tk9 F9 N9 up9 t9; (try simp only [List.cons_append] at N9); (try k_sweep); (try dsimp only); (try k_fold)))) | with_reducible (k_here; k_dflt ( refine' spec_use (f := 265) (by k_asm) (by k_asm) (by k_asm) (by k_asm) (by k_asm) (by first | exact rfl | assumption) (by first | exact kind_none _ _ | exact kind_int _ _ _ _ | exact kind_name _ _ _ _ _ (by k_mem) (by k_mem) | exact kind_ref _ _ _ _ _ (by k_mem) (by k_mem) | exact kind_list _ _ _ _ _ (by k_mem) | exact kind_dict _ _ _ _ (by k_mem) (dict_cls (by assumption))) (by ktr_room) (by ktr_units) (ret_kind ?_); (intro t9 h9 tk9 F9 N9; (try k_sweep); (try dsimp only); (try k_fold))))) | ((with_reducible show wpAny _ _ (eval (Expr.ListComp _ _ _ _) _) _ _ _); first | with_reducible (k_here; k_dflt (refine LCg.ListComp_U (F₀ := by k_asm) (by rfl) (by decide) (by rfl) (by decide) (by rfl) ?_))) | (k_end; kc_close) | walk1 | (dsimp only; walk1) | (leave1; (try dsimp only)))
    refine compEnd_up (by k_asm) (by k_asm) (by assumption) off (.inr ⟨listOf vs.toArray n, by simp [hm], rfl, n, rfl⟩) ⟨_, List.append_assoc .., U.app ((by assumption : Up ((I, oI) :: (C, oC) :: (D, LCg.lst ys) :: _) _).sub (sub_cons (sub_cons (sub_cons (sub_refl _))))), ?_⟩
    rw [ht]
    exact All2.snoc (ToldIs.mono (sub_r _ _) (by assumption)) (R.imp fun _ _ h => h.mono (sub_l _ _))
  · intro ys tl U R
    have hl : ys.length = ts.length := by rw [R.length, List.length_take]; have := hts.length; simp only [List.size_toArray]; omega
    have hy : ys.length ≤ 100 := by have := hts.length; omega
    have ht : ts.take vs.toArray.size = ts := List.take_of_length_le (by have := hts.length; simp only [List.size_toArray]; omega)
    rw [ht] at R
    repeat' (first | (k_unfold; (try dsimp only)) | ((with_reducible show wpAny _ _ (binaryOp Operator.Add (Value.ref _) (Value.ref _)) _ _ _); first | with_reducible (k_here; k_dflt (refine' addTup_N (by k_asm) (by k_asm) (by k_mem) (by k_mem) (by exact List.cons_ne_nil _ _) (by (simp only [List.length_cons, List.length_nil]; omega)) ?_ ?_); intro z0'; (try intro D' h' F' N' l1)) | (k_here; k_dflt (refine' addTup_N (by k_asm) (by k_asm) (by k_mem) (by k_mem) (by exact List.cons_ne_nil _ _) (by (simp only [List.length_cons, List.length_nil]; omega)) ?_ ?_); intro z0'; (try intro D' h' F' N' l1))) | ((with_reducible show wpAny _ _ (call (Value.type "tuple") _) _ _ _); first | with_reducible (k_here; k_dflt (refine' tupleOf_N (by k_asm) (by k_asm) (by k_mem) (by omega) ?_); intro D' h' F' N' l1) | (k_here; k_dflt (refine' tupleOf_N (by k_asm) (by k_asm) (by k_mem) (by omega) ?_); intro D' h' F' N' l1)) | ((with_reducible show wpAny _ _ (call (Value.ref _) _) _ _ _); first | with_reducible (k_here; k_dflt ( refine' spec_use (f := 277) (by k_asm) (by k_asm) (by k_asm) (by k_asm) (by k_asm) (by first | exact rfl | assumption) (Tells.use (by assumption) (by repeat (first | exact sub_refl _ | assumption | refine' sub_cons ?_ | refine' sub_app ?_))) (by ktr_room) (by ktr_units) (ret_made ?_); (intro r9 tl9 h9 tk9 F9 N9 up9 t9; (try simp only [List.cons_append] at N9); (try k_sweep); (try dsimp only); (try k_fold)))) | with_reducible (k_here; k_dflt ( refine' spec_use (f := 265) (by k_asm) (by k_asm) (by k_asm) (by k_asm) (by k_asm) (by first | exact rfl | assumption) (by first | exact kind_none _ _ | exact kind_int _ _ _ _ | exact kind_name _ _ _ _ _ (by k_mem) (by k_mem) | exact kind_ref _ _ _ _ _ (by k_mem) (by k_mem) | exact kind_list _ _ _ _ _ (by k_mem) | exact kind_dict _ _ _ _ (by k_mem) (dict_cls (by assumption))) (by ktr_room) (by ktr_units) (ret_kind ?_); (intro t9 h9 tk9 F9 N9; (try k_sweep); (try dsimp only); (try k_fold))))) | ((with_reducible show wpAny _ _ (eval (Expr.ListComp _ _ _ _) _) _ _ _); first | with_reducible (k_here; k_dflt (refine LCg.ListComp_U (F₀ := by k_asm) (by rfl) (by decide) (by rfl) (by decide) (by rfl) ?_))) | (k_end; kc_close) | walk1 | (dsimp only; walk1) | (leave1; (try dsimp only)))
    · refine finish hret (by k_asm) (by k_asm) (fun p hp => by simp [hp]) fun tl' U' keep => ?_
      have e : ys = [] := by assumption
      subst e
      have e' : ts = [] := by cases ts with | nil => rfl | cons a b => simp at hl
      subst e'
      exact ⟨_, [_], _, rfl, keep _ (.tail _ (.tail _ (.head _))) (lt_of_all (And.right (by assumption))), ToldIs.strI, trivial⟩
    · refine finish hret (by k_asm) (by k_asm) (fun p hp => by simp [hp]) fun tl' U' keep => ?_
      refine ⟨_, _, _, rfl, keep _ (.head _) (above_of (by assumption) fun p hp => by simp [hp]), ?_⟩
      refine ⟨ToldIs.strI, R.imp fun _ _ h => h.mono fun p hp => keep p (by simp [hp]) fun q hq => U q (by simp [hq]) p hp⟩
end
end Mine
namespace Mine
section
local macro_rules | `(tactic| ktr_enter) => `(tactic| (refine' code_defC ?k1 ?k2 ?k3 ?k4 ?k5 ?kA ?kF ?kK ?k6 ?k7 ?k8 ?k9 ?kB ?kD ?_ ?c2 ?c3 ?c4; (case kA => exact rfl); (case kF => exact rfl); (case kK => assumption); (case k1 => k_asm); (case k2 => k_asm); (case k3 => k_asm); (case k4 => k_asm); (case k5 => k_asm); (case k6 => k_is); (case k7 => k_is); (case k8 => ktr_room); (case k9 => exact BindsTo.of_eq rfl); (case kB => exact rfl); (case kD => decide +kernel); (case c2 => exact rfl); (case c3 => exact rfl); (case c4 => exact rfl); k_whole; intro g' L' h' tk' cells' FG' F' N' Y' B' X' T' l1; (try k_lt l1); k_cells Y'; (try simp only [List.cons_append, List.nil_append] at N'); (try dsimp only); (try k_fold)))
local macro_rules | `(tactic| k_all) => `(tactic| first | assumption | (refine' off_of ?h; (case h => with_reducible (first | assumption | (apply And.right; (iterate 14 (first | done | assumption | apply And.right)); done)))) | fail "none")
local macro_rules | `(tactic| k_room) => `(tactic| ktr_room)
local macro_rules | `(tactic| k_ne) => `(tactic| (refine neN ?_; (try dsimp only); with_reducible first | assumption | exact Ne.symm (by assumption) | (apply Nat.ne_of_gt; first | assumption | (apply And.left; (iterate 14 (first | done | assumption | apply And.right)); done)) | (apply Nat.ne_of_lt; first | assumption | (apply And.left; (iterate 14 (first | done | assumption | apply And.right)); done))))
local macro_rules | `(tactic| ktr_room) => `(tactic| first | ((first | (refine' room ?h ?l; (case h => assumption)) | (refine' room2 ?h ?l; (case h => assumption))); (case l => first | exact Nat.le_of_ble_eq_true rfl | exact room_k (Nat.le_of_ble_eq_true rfl) | exact room_n (Nat.le_of_ble_eq_true rfl) | exact room_sz (by assumption) (Nat.le_of_ble_eq_true rfl) | omega)) | fail "room")
local macro_rules | `(tactic| ktr_units) => `(tactic| first | ((first | (refine' units ?h ?l; (case h => assumption)) | (refine' units2 ?h ?l; (case h => assumption))); (case l => first | exact Nat.le_of_ble_eq_true rfl | exact room_k (Nat.le_of_ble_eq_true rfl) | exact room_n (Nat.le_of_ble_eq_true rfl) | exact room_sz (by assumption) (Nat.le_of_ble_eq_true rfl) | omega)) | fail "units")
local macro_rules | `(tactic| k_mem) => `(tactic| first | assumption | exact mem_inl' (by assumption) | exact mem_inl' (mem_inl' (by assumption)) | exact mem_inl' (mem_inl' (mem_inl' (by assumption))))
local macro_rules | `(tactic| k_mem) => `(tactic| with_reducible assumption)
local macro_rules | `(tactic| k_in) => `(tactic| first | with_reducible assumption | exact Frag.In.keeps (by with_reducible assumption) (Fr.keep (by with_reducible assumption)))
local macro_rules | `(tactic| ktd_sub) => `(tactic| (repeat (first | (exact sub_refl _) | assumption | (refine' sub_cons ?_) | (refine' sub_app ?_))))
local macro_rules | `(tactic| ktn_ord) => `(tactic| first | assumption | exact above_of (by assumption) (by ktd_sub) | (refine' above_of (ktn_ltOf ?h) ?s; (case h => first | assumption | (apply And.right; (iterate 14 (first | done | assumption | apply And.right)); done)); (case s => ktd_sub)) | (refine' above_tr ?k (above_of (ktn_ltOf ?h) ?s); (case k => assumption); (case h => first | assumption | (apply And.right; (iterate 14 (first | done | assumption | apply And.right)); done)); (case s => ktd_sub)) | fail "none")
section
theorem walk_plain_ToldC : True := by
  w_top off
  trivial
section
variable {prog : Program} {w : World} {A : Around} {E : Value → Shared → Prop} {s : Shared} {h₀ : Heap} {L d : Addr} {m : Str → Option Value} {news : List (Addr × Obj)} {o : Obj} {Q : Value → Shared → Prop}
/-- two keys, in their order -/
def Order2 (kvs : List (Str × Value)) (c1 c2 : Str) : Prop := kvs.length < 64 ∧ ∀ ss : List Str, ss.Perm (kvs.map (·.1)) → sortedS ss = true → ss = [c1, c2]
theorem sorted_g2 {c1 c2 : Str} {kvs : List (Str × Value)} (hh : A.handled = none) (F : Fr h₀ L s.heap m) (N : News h₀ L s.heap news) (hm : (d, o) ∈ news) (lo : (d == sysModules) = false) (hd : o.IsDictOf (PySem.strKind prog w) kvs) (hb : Order2 kvs c1 c2)
    (h : ∀ (B : Addr) h' tk t1 t2 e, Fr h₀ L h' m → News h₀ L h' ((B, listOf [.str c1 t1, .str c2 t2].toArray e) :: news) → (∀ q ∈ news, q.1 < B) → Q (.ref B) { s with heap := h', toks := tk }) :
    wpAny (model prog w) A (call (.builtin "sorted") [.ref d]) Q E s :=
  sorted_dictS hh F N hm lo hd hb.1 fun B h' tk vs ss e F' N' l1 hS hp hs => by
    rw [hb.2 ss hp hs] at hS
    cases hS with | cons _ t hr => cases hr with | cons _ t' hr' => cases hr'; exact h B h' tk t t' e F' N' l1
end
section
set_option maxRecDepth 100000 in
set_option maxHeartbeats 8000000 in
theorem told_g1 (w : World) (news : List (Addr × Obj)) (x k : Addr) (sz dd : Nat) (t : T) (c : String) (hD : DictAt w news x [(Str.ofString c, .ref k)])
   (ht : Tells w news sz dd (.ref k) t) : Spec w 277 (sz + 3) [.ref x] news (Made news fun r tl => ToldIs tl (dd + 2) r (.tup [S "dict", .tup [S c, t]])) := by
  unfold Spec
  k_fill
  intro dp un gd cn cs a ccd cl outer A₀ base h₀ L m s loose mean mg mb Q E B F X N T hk hd hu hret
  obtain ⟨oD, hm, hlo, hdict⟩ := id hD
  refine wpAny_call ?_
  k_dflt ktr_enter
  repeat' (first | (k_unfold; (try dsimp only)) | ((with_reducible show wpAny _ _ (eval (Expr.ListComp _ _ _ _) _) _ _ _); first | with_reducible (k_here; k_dflt (refine LCt.ListComp_T (F₀ := by k_asm) (by with_unfolding_all rfl) (by decide) (by rfl) (by decide) (by rfl) ?_))) | ((with_reducible show LCg.CompEnd _ _ _ _ _ _ _ _ _ _ _ _ _ _); first | with_reducible (k_here; (refine' compEnd_up1 (by k_asm) (by assumption) (by k_asm) (by assumption) (by exact ktn_ltOf (by assumption)) (by ((try simp only [List.cons_append]); exact Or.inr ⟨_, by k_mem, rfl, _, rfl⟩)) ?_); (try simp only [List.cons_append])) | (k_here; (refine' compEnd_up1 (by k_asm) (by assumption) (by k_asm) (by assumption) (by exact ktn_ltOf (by assumption)) (by ((try simp only [List.cons_append]); exact Or.inr ⟨_, by k_mem, rfl, _, rfl⟩)) ?_); (try simp only [List.cons_append]))) | ((with_reducible show wpAny _ _ (binaryOp Operator.Add (Value.ref _) (Value.ref _)) _ _ _); first | with_reducible (k_here; k_dflt (refine' addTup_N (by k_asm) (by k_asm) (by k_mem) (by k_mem) (by exact List.cons_ne_nil _ _) (by exact Nat.le_of_ble_eq_true rfl) ?_ ?_); intro z0'; (first | (intro D' h' F' N' l1) | (exact absurd z0' (List.cons_ne_nil _ _)))) | (k_here; k_dflt (refine' addTup_N (by k_asm) (by k_asm) (by k_mem) (by k_mem) (by exact List.cons_ne_nil _ _) (by exact Nat.le_of_ble_eq_true rfl) ?_ ?_); intro z0'; (first | (intro D' h' F' N' l1) | (exact absurd z0' (List.cons_ne_nil _ _))))) | ((with_reducible show wpAny _ _ (call (Value.type "tuple") _) _ _ _); first | with_reducible (k_here; k_dflt (refine' tupleOf_N (by k_asm) (by k_asm) (by k_mem) (by exact Nat.le_of_ble_eq_true rfl) ?_); intro D' h' F' N' l1) | (k_here; k_dflt (refine' tupleOf_N (by k_asm) (by k_asm) (by k_mem) (by exact Nat.le_of_ble_eq_true rfl) ?_); intro D' h' F' N' l1)) | ((with_reducible show wpAny _ _ (execs (Stmt.Assign _ _ _ :: _ :: _) _) _ _ _); first | with_reducible (k_here; (with_reducible refine wpAny_execs_cons ?_); try dsimp only)) | ((with_reducible show RangeRest _ _ _ _ _ _ _ _ _ _ _ _ _ _ _ _ _); first | with_reducible (k_here; first | ((with_reducible refine RangeRest.succ ?_); intro t' h' tk' F' N') | ((with_reducible refine RangeRest.zero ?_); intro h' tk' F' N'))) | ((with_reducible show wpAny _ _ (subscriptTail _ _ _ _) _ _ _); first | with_reducible (k_here; (with_reducible show wpAny _ _ (subscriptTail _ _ (Value.ref _) (Value.str _ _)) _ _ _); k_dflt (refine' kda_item (knd := PySem.strKind _ _) (by k_asm) (by k_mem) (by assumption) (strKind_is _ _ _ _) (by first | exact val_hd | assumption) ?_))) | ((with_reducible show wpAny _ _ (call (Value.builtin "sorted") _) _ _ _); first | with_reducible (k_here; k_dflt (first | (refine' sorted_d1 (by exact rfl) (by k_asm) (by k_asm) (by k_mem) (by assumption) (by assumption) ?_; intro D' h' tk' t1' e' F' N' l1; (try k_lt l1)) | (refine' sorted_g2 (by exact rfl) (by k_asm) (by k_asm) (by k_mem) (by assumption) (by assumption) (by assumption) ?_; intro D' h' tk' t1' t2' e' F' N' l1; (try k_lt l1))))) | ((with_reducible show wpAny _ _ (call (Value.ref _) _) _ _ _); first | with_reducible (k_here; k_dflt ( refine' spec_use (f := 277) (by k_asm) (by k_asm) (by k_asm) (by k_asm) (by k_asm) (by first | exact rfl | assumption) (Tells.use (by assumption) (by repeat (first | exact sub_refl _ | assumption | refine' sub_cons ?_ | refine' sub_app ?_))) (by ktr_room) (by ktr_units) (ret_made ?_); (intro r9 tl9 h9 tk9 F9 N9 up9 t9; (try simp only [List.cons_append] at N9); (try k_sweep); (try dsimp only); (try k_fold)))) | with_reducible (k_here; k_dflt ( refine' spec_use (f := 265) (by k_asm) (by k_asm) (by k_asm) (by k_asm) (by k_asm) (by first | exact rfl | assumption) (by first | exact kind_none _ _ | exact kind_int _ _ _ _ | exact kind_name _ _ _ _ _ (by k_mem) (by k_mem) | exact kind_ref _ _ _ _ _ (by k_mem) (by k_mem) | exact kind_list _ _ _ _ _ (by k_mem) | exact kind_dict _ _ _ _ (by k_mem) (dict_cls (by assumption))) (by ktr_room) (by ktr_units) (ret_kind ?_); (intro t9 h9 tk9 F9 N9; (try k_sweep); (try dsimp only); (try k_fold))))) | (k_end; kc_close) | walk1 | (dsimp only; walk1) | (leave1; (try dsimp only)))
  refine finish hret (by k_asm) (by k_asm) (by ktd_sub) fun tl' U' keep => ?_
  refine ⟨_, _, _, rfl, keep _ (.head _) (by ktn_ord), ToldIs.strI, ⟨_, [_, _], _, rfl, keep _ (by k_mem) (by ktn_ord), ToldIs.strI, (by assumption : ToldIs _ dd _ t).mono ?_, trivial⟩, trivial⟩
  exact fun p hp => keep p (by simp [hp]) fun q hq => (by assumption : Up _ _) q (by simp [hq]) p hp
set_option maxRecDepth 100000 in
set_option maxHeartbeats 8000000 in
theorem told_g2 (w : World) (news : List (Addr × Obj)) (x k1 k2 : Addr) (sz dd : Nat) (ta tb : T) (c1 c2 : String) (kvs : List (Str × Value)) (hD : DictAt w news x kvs) (hb : Order2 kvs (Str.ofString c1) (Str.ofString c2))
   (v1 : valueAt kvs (Str.ofString c1) = some (.ref k1)) (v2 : valueAt kvs (Str.ofString c2) = some (.ref k2))
   (hl : Tells w news sz dd (.ref k1) ta) (ht : Tells w news sz dd (.ref k2) tb) : Spec w 277 (sz + 3) [.ref x] news (Made news fun r tll => ToldIs tll (dd + 2) r (.tup [S "dict", .tup [S c1, ta], .tup [S c2, tb]])) := by
  unfold Spec
  k_fill
  intro dp un gd cn cs a ccd cl outer A₀ base h₀ L m s loose mean mg mb Q E B F X N T hk hd hu hret
  obtain ⟨oD, hm, hlo, hdict⟩ := id hD
  refine wpAny_call ?_
  k_dflt ktr_enter
  repeat' (first | (k_unfold; (try dsimp only)) | ((with_reducible show wpAny _ _ (eval (Expr.ListComp _ _ _ _) _) _ _ _); first | with_reducible (k_here; k_dflt (refine LCt.ListComp_T (F₀ := by k_asm) (by with_unfolding_all rfl) (by decide) (by rfl) (by decide) (by rfl) ?_))) | ((with_reducible show LCg.CompEnd _ _ _ _ _ _ _ _ _ _ _ _ _ _); first | with_reducible (k_here; (refine' compEnd_up1 (by k_asm) (by assumption) (by k_asm) (by assumption) (by exact ktn_ltOf (by assumption)) (by ((try simp only [List.cons_append]); exact Or.inr ⟨_, by k_mem, rfl, _, rfl⟩)) ?_); (try simp only [List.cons_append])) | (k_here; (refine' compEnd_up1 (by k_asm) (by assumption) (by k_asm) (by assumption) (by exact ktn_ltOf (by assumption)) (by ((try simp only [List.cons_append]); exact Or.inr ⟨_, by k_mem, rfl, _, rfl⟩)) ?_); (try simp only [List.cons_append]))) | ((with_reducible show wpAny _ _ (binaryOp Operator.Add (Value.ref _) (Value.ref _)) _ _ _); first | with_reducible (k_here; k_dflt (refine' addTup_N (by k_asm) (by k_asm) (by k_mem) (by k_mem) (by exact List.cons_ne_nil _ _) (by exact Nat.le_of_ble_eq_true rfl) ?_ ?_); intro z0'; (first | (intro D' h' F' N' l1) | (exact absurd z0' (List.cons_ne_nil _ _)))) | (k_here; k_dflt (refine' addTup_N (by k_asm) (by k_asm) (by k_mem) (by k_mem) (by exact List.cons_ne_nil _ _) (by exact Nat.le_of_ble_eq_true rfl) ?_ ?_); intro z0'; (first | (intro D' h' F' N' l1) | (exact absurd z0' (List.cons_ne_nil _ _))))) | ((with_reducible show wpAny _ _ (call (Value.type "tuple") _) _ _ _); first | with_reducible (k_here; k_dflt (refine' tupleOf_N (by k_asm) (by k_asm) (by k_mem) (by exact Nat.le_of_ble_eq_true rfl) ?_); intro D' h' F' N' l1) | (k_here; k_dflt (refine' tupleOf_N (by k_asm) (by k_asm) (by k_mem) (by exact Nat.le_of_ble_eq_true rfl) ?_); intro D' h' F' N' l1)) | ((with_reducible show wpAny _ _ (execs (Stmt.Assign _ _ _ :: _ :: _) _) _ _ _); first | with_reducible (k_here; (with_reducible refine wpAny_execs_cons ?_); try dsimp only)) | ((with_reducible show RangeRest _ _ _ _ _ _ _ _ _ _ _ _ _ _ _ _ _); first | with_reducible (k_here; first | ((with_reducible refine RangeRest.succ ?_); intro t' h' tk' F' N') | ((with_reducible refine RangeRest.zero ?_); intro h' tk' F' N'))) | ((with_reducible show wpAny _ _ (subscriptTail _ _ _ _) _ _ _); first | with_reducible (k_here; (with_reducible show wpAny _ _ (subscriptTail _ _ (Value.ref _) (Value.str _ _)) _ _ _); k_dflt (refine' kda_item (knd := PySem.strKind _ _) (by k_asm) (by k_mem) (by assumption) (strKind_is _ _ _ _) (by first | exact val_hd | assumption) ?_))) | ((with_reducible show wpAny _ _ (call (Value.builtin "sorted") _) _ _ _); first | with_reducible (k_here; k_dflt (first | (refine' sorted_d1 (by exact rfl) (by k_asm) (by k_asm) (by k_mem) (by assumption) (by assumption) ?_; intro D' h' tk' t1' e' F' N' l1; (try k_lt l1)) | (refine' sorted_g2 (by exact rfl) (by k_asm) (by k_asm) (by k_mem) (by assumption) (by assumption) (by assumption) ?_; intro D' h' tk' t1' t2' e' F' N' l1; (try k_lt l1))))) | ((with_reducible show wpAny _ _ (call (Value.ref _) _) _ _ _); first | with_reducible (k_here; k_dflt ( refine' spec_use (f := 277) (by k_asm) (by k_asm) (by k_asm) (by k_asm) (by k_asm) (by first | exact rfl | assumption) (Tells.use (by assumption) (by repeat (first | exact sub_refl _ | assumption | refine' sub_cons ?_ | refine' sub_app ?_))) (by ktr_room) (by ktr_units) (ret_made ?_); (intro r9 tl9 h9 tk9 F9 N9 up9 t9; (try simp only [List.cons_append] at N9); (try k_sweep); (try dsimp only); (try k_fold)))) | with_reducible (k_here; k_dflt ( refine' spec_use (f := 265) (by k_asm) (by k_asm) (by k_asm) (by k_asm) (by k_asm) (by first | exact rfl | assumption) (by first | exact kind_none _ _ | exact kind_int _ _ _ _ | exact kind_name _ _ _ _ _ (by k_mem) (by k_mem) | exact kind_ref _ _ _ _ _ (by k_mem) (by k_mem) | exact kind_list _ _ _ _ _ (by k_mem) | exact kind_dict _ _ _ _ (by k_mem) (dict_cls (by assumption))) (by ktr_room) (by ktr_units) (ret_kind ?_); (intro t9 h9 tk9 F9 N9; (try k_sweep); (try dsimp only); (try k_fold))))) | (k_end; kc_close) | walk1 | (dsimp only; walk1) | (leave1; (try dsimp only)))
  refine finish hret (by k_asm) (by k_asm) (by ktd_sub) fun tl' U' keep => ?_
  refine ⟨_, _, _, rfl, keep _ (.head _) (by ktn_ord), ToldIs.strI, ⟨_, [_, _], _, rfl, keep _ (by k_mem) (by ktn_ord), ToldIs.strI, (by assumption : ToldIs _ dd _ ta).mono ?_, trivial⟩, ⟨_, [_, _], _, rfl, keep _ (by k_mem) (by ktn_ord), ToldIs.strI, (by assumption : ToldIs _ dd _ tb).mono ?_, trivial⟩, trivial⟩
  · exact fun p hp => keep p (by simp [hp]) fun q hq => (by assumption : Up _ _) q (by simp [hq]) p hp
  · exact fun p hp => keep p (by simp [hp]) fun q hq => (by assumption : Up _ _) q (by simp [hq]) p hp
end
theorem told_d1 (w : World) (news : List (Addr × Obj)) (x k : Addr) (sz dd : Nat) (t : T) (hD : DictAt w news x [(Str.ofString "Kids", .ref k)])
   (ht : Tells w news sz dd (.ref k) t) : Spec w 277 (sz + 3) [.ref x] news (Made news fun r tl => ToldIs tl (dd + 2) r (.tup [S "dict", .tup [S "Kids", t]])) := told_g1 w news x k sz dd t "Kids" hD ht
theorem told_d1n (w : World) (news : List (Addr × Obj)) (x k : Addr) (sz dd : Nat) (t : T) (hD : DictAt w news x [(Str.ofString "Nums", .ref k)])
   (ht : Tells w news sz dd (.ref k) t) : Spec w 277 (sz + 3) [.ref x] news (Made news fun r tl => ToldIs tl (dd + 2) r (.tup [S "dict", .tup [S "Nums", t]])) := told_g1 w news x k sz dd t "Nums" hD ht
theorem told_d2 (w : World) (news : List (Addr × Obj)) (x l k : Addr) (sz dd : Nat) (tl tn : T) (hD : DictAt w news x [(Str.ofString "Limits", .ref l), (Str.ofString "Kids", .ref k)])
   (hl : Tells w news sz dd (.ref l) tl) (ht : Tells w news sz dd (.ref k) tn) : Spec w 277 (sz + 3) [.ref x] news (Made news fun r tll => ToldIs tll (dd + 2) r (.tup [S "dict", .tup [S "Kids", tn], .tup [S "Limits", tl]])) :=
  told_g2 w news x k l sz dd tn tl "Kids" "Limits" _ hD ⟨by simp, fun _ hp hs => perm_two hp hs kids_first⟩ (val_tl limits_kids val_hd) val_hd ht hl
theorem told_d2n (w : World) (news : List (Addr × Obj)) (x l k : Addr) (sz dd : Nat) (tl tn : T) (hD : DictAt w news x [(Str.ofString "Limits", .ref l), (Str.ofString "Nums", .ref k)])
   (hl : Tells w news sz dd (.ref l) tl) (ht : Tells w news sz dd (.ref k) tn) : Spec w 277 (sz + 3) [.ref x] news (Made news fun r tll => ToldIs tll (dd + 2) r (.tup [S "dict", .tup [S "Limits", tl], .tup [S "Nums", tn]])) :=
  told_g2 w news x l k sz dd tl tn "Limits" "Nums" _ hD ⟨by simp, fun _ hp hs => perm_two' hp hs limits_first⟩ val_hd (val_tl limits_nums val_hd) hl ht
end
section
theorem Spec.up {w : World} {f : Addr} {sz sz' : Nat} {args : List Value} {pre : List (Addr × Obj)} {post : Value → List (Addr × Obj) → Prop} (C : Spec w f sz args pre post) (h : sz ≤ sz') : Spec w f sz' args pre post :=
  fun _ _ _ _ _ _ _ _ _ _ _ _ _ _ _ _ _ _ _ _ _ B F X N T hk hd' hu ret => C _ _ _ _ _ _ _ _ _ _ _ _ _ _ _ _ _ _ _ _ _ B F X N T hk (by omega) (by omega) ret
theorem Tells.up {w : World} {news : List (Addr × Obj)} {sz sz' n n' : Nat} {v : Value} {t : T} (h : Tells w news sz n v t) (hs : sz ≤ sz') (hn : n ≤ n') : Tells w news sz' n' v t := fun news1 hs1 =>
  ((h news1 hs1).up hs).mono fun _ _ ⟨tl, e, u, x⟩ => ⟨tl, e, u, x.upTo hn⟩
theorem all2_tells {α : Type} {w : World} {news : List (Addr × Obj)} {sz n : Nat} {R : Value → α → Prop} {f : α → T} (h : ∀ v d, R v d → Tells w news sz n v (f d)) : ∀ {vs : List Value} {ds : List α}, All2 R vs ds → All2 (Tells w news sz n) vs (ds.map f)
  | [], [], _ => trivial
  | _ :: _, _ :: _, ⟨a, b⟩ => ⟨h _ _ a, all2_tells h b⟩
  | [], _ :: _, x => x.elim
  | _ :: _, [], x => x.elim
theorem tells_ints {w : World} {news : List (Addr × Obj)} {vs : List Value} {l : List Int} (h : IntsAre vs l) : All2 (Tells w news 3 1) vs (l.map fun i => .tup [S "int", .int i]) := by
  induction h with
  | nil => exact trivial
  | cons i t h ih => exact ⟨fun news1 _ => told_int w news1 i t, ih⟩
theorem tells_list {w : World} {news : List (Addr × Obj)} {a : Addr} {vs : List Value} {n sz dd : Nat} {ts : List T} (hm : (a, listOf vs.toArray n) ∈ news) (hl : vs.length ≤ 100) (h : All2 (Tells w news sz dd) vs ts) : Tells w news (sz + 3) (dd + 1) (.ref a) (.tup (S "array" :: ts)) :=
  fun news1 hs => told_list w news1 a vs n sz dd ts (hs _ hm) hl (h.imp fun _ _ x => x.mono hs)
theorem tells_item {w : World} {news : List (Addr × Obj)} {v : Value} {i : Item} (h : ItemIs w news v i) : Tells w news 6 2 v (tellItem i) := by
  cases i with
  | none => obtain rfl : v = .none := h; exact Tells.up (sz := 3) (n := 1) (fun news1 _ => told_none w news1) (by omega) (by omega)
  | int i => obtain ⟨t, rfl⟩ : ∃ t, v = .int i t := h; exact Tells.up (sz := 3) (n := 1) (fun news1 _ => told_int w news1 i t) (by omega) (by omega)
  | name => obtain ⟨x, dx, tk, tk', n, rfl, a, b⟩ := h; exact Tells.up (sz := 3) (n := 1) (fun news1 hs => told_name w news1 x dx tk tk' n (hs _ a) (hs _ b)) (by omega) (by omega)
  | ref k g => obtain ⟨x, dx, tk, tk', t, t', n, rfl, a, b⟩ := h; exact Tells.up (sz := 3) (n := 1) (fun news1 hs => told_ref w news1 x dx tk tk' t t' k g n (hs _ a) (hs _ b)) (by omega) (by omega)
  | intl l =>
    obtain ⟨a, vs, n, rfl, m, hi, hl⟩ := h
    exact tells_list m (by have := hi.length; omega) (tells_ints hi)
theorem tells_row {w : World} {news : List (Addr × Obj)} {v : Value} {l : List Item} (h : RowIs w news v l) : Tells w news 9 3 v (tellRow l) := by
  obtain ⟨a, vs, n, rfl, m, hi, hl⟩ := h
  exact tells_list m (by have := hi.length; omega) (all2_tells (fun _ _ x => tells_item x) hi)
theorem RowIs.isRef {w : World} {news : List (Addr × Obj)} {v : Value} {l : List Item} (h : RowIs w news v l) : ∃ a, v = .ref a := by
  obtain ⟨a, vs, n, e, _⟩ := h; exact ⟨a, e⟩
theorem tells_leaf {w : World} {news : List (Addr × Obj)} {a : Addr} {lim : Option (List Item)} {lv nv : Value} {nums : List Item} (hD : DictAt w news a (limKv lim lv ++ [(Str.ofString "Nums", nv)])) (hl : LimIs w news lim lv) (hn : RowIs w news nv nums) :
    Tells w news 12 5 (.ref a) (.tup (S "dict" :: (tellLim lim ++ [.tup [S "Nums", tellRow nums]]))) := by
  obtain ⟨k, rfl⟩ := hn.isRef
  cases lim with
  | none => exact fun news1 hs => told_d1n w news1 a k 9 3 _ (hD.mono hs) ((tells_row hn).mono hs)
  | some l =>
    obtain ⟨b, rfl⟩ := RowIs.isRef hl
    exact fun news1 hs => told_d2n w news1 a b k 9 3 _ _ (hD.mono hs) ((tells_row hl).mono hs) ((tells_row hn).mono hs)
/-- told of a node -/
theorem tells_node {w : World} {news : List (Addr × Obj)} : ∀ (n : Nat) {v : Value} {d : Node}, NodeIs w news n v d → Tells w news (12 + 6 * n) (5 + 3 * n) v (tellNode n d) := by
  intro n
  induction n with
  | zero =>
    intro v d h
    cases d with
    | leaf lim nums => obtain ⟨a, lv, nv, rfl, x, y, z⟩ := h; exact tells_leaf x y z
    | inner lim kids => exact h.elim
  | succ n ih =>
    intro v d h
    cases d with
    | leaf lim nums => obtain ⟨a, lv, nv, rfl, x, y, z⟩ := h; exact (tells_leaf x y z).up (by omega) (by omega)
    | inner lim kids =>
      obtain ⟨a, lv, b, vs, m, rfl, hD, hl, hb, hk, hlen⟩ := h
      have hkids : Tells w news (12 + 6 * n + 3) (5 + 3 * n + 1) (.ref b) (.tup (S "array" :: kids.map (tellNode n))) :=
        tells_list hb (by have := hk.length; omega) (all2_tells (fun _ _ x => ih x) hk)
      cases lim with
      | none => exact Tells.up (sz := 12 + 6 * n + 3 + 3) (n := 5 + 3 * n + 1 + 2) (fun news1 hs => told_d1 w news1 a b _ _ _ (hD.mono hs) (hkids.mono hs)) (by omega) (by omega)
      | some l =>
        obtain ⟨c, rfl⟩ := RowIs.isRef hl
        exact Tells.up (sz := 12 + 6 * n + 3 + 3) (n := 5 + 3 * n + 1 + 2) (fun news1 hs => told_d2 w news1 a c b _ _ _ _ (hD.mono hs) (((tells_row hl).up (by omega) (by omega)).mono hs) (hkids.mono hs)) (by omega) (by omega)
end
section
mutual
def pyd : T → PyData
  | .int i => .int i
  | .str s => .str s
  | .tup l => .tuple (pyds l)
def pyds : List T → List PyData
  | [] => []
  | t :: l => pyd t :: pyds l
end
def okT : Nat → T → Bool
  | _, .int _ => true
  | _, .str s => PyData.strOk s
  | 0, .tup _ => false
  | n + 1, .tup l => l.all (okT n)
theorem okT_str (n : Nat) (s : Str) : okT n (.str s) = PyData.strOk s := by cases n <;> rfl
mutual
theorem pyd_self : ∀ t : T, PyData.eqv (pyd t) (pyd t) = true
  | .int i => by simp [pyd, PyData.eqv]
  | .str s => by simp [pyd, PyData.eqv]
  | .tup l => by rw [pyd, PyData.eqv]; exact pyds_self l
theorem pyds_self : ∀ l : List T, PyData.eqvAll (pyds l) (pyds l) = true
  | [] => by simp [pyds, PyData.eqvAll]
  | t :: l => by rw [pyds, PyData.eqvAll, pyd_self t, pyds_self l]; rfl
end
section
variable {h₀ h : Heap} {L : Addr} {news : List (Addr × Obj)}
theorem told_reads (N : News h₀ L h news) : ∀ (n : Nat) {v : Value} {t : T}, ToldIs news n v t → okT n t = true → (∃ as, Reads h v (pyd t) as) ∧ (pyd t).canLay0 = true ∧ (pyd t).depth ≤ n := by
  intro n
  induction n with
  | zero =>
    intro v t h ok
    cases t with
    | int i => obtain ⟨k, rfl⟩ := h; exact ⟨⟨_, Reads.int i k⟩, by simp [pyd, PyData.canLay0], by simp [pyd, PyData.depth]⟩
    | str s => obtain ⟨k, rfl⟩ := h; exact ⟨⟨_, Reads.str s k⟩, by rw [okT_str] at ok; simpa [pyd, PyData.canLay0] using ok, by simp [pyd, PyData.depth]⟩
    | tup l => exact h.elim
  | succ n ih =>
    intro v t h ok
    cases t with
    | int i => obtain ⟨k, rfl⟩ := h; exact ⟨⟨_, Reads.int i k⟩, by simp [pyd, PyData.canLay0], by simp [pyd, PyData.depth]⟩
    | str s => obtain ⟨k, rfl⟩ := h; exact ⟨⟨_, Reads.str s k⟩, by rw [okT_str] at ok; simpa [pyd, PyData.canLay0] using ok, by simp [pyd, PyData.depth]⟩
    | tup l =>
      obtain ⟨a, vs, k, rfl, hm, hv⟩ := h
      have all : ∀ {vs : List Value} {l : List T}, All2 (ToldIs news n) vs l → l.all (okT n) = true → (∃ as, ReadsAll h vs (pyds l) as) ∧ PyData.canLayAll0 (pyds l) = true ∧ PyData.depthAll (pyds l) ≤ n := by
        intro vs
        induction vs with
        | nil =>
          intro l hl ok
          cases l with
          | nil => exact ⟨⟨_, ReadsAll.nil⟩, by simp [pyds, PyData.canLayAll0], by simp [pyds, PyData.depthAll]⟩
          | cons _ _ => exact hl.elim
        | cons x xs ihl =>
          intro l hl ok
          cases l with
          | nil => exact hl.elim
          | cons t ts =>
            simp only [List.all_cons, Bool.and_eq_true] at ok
            obtain ⟨⟨as, ra⟩, c1, d1⟩ := ih hl.1 ok.1
            obtain ⟨⟨bs, rb⟩, c2, d2⟩ := ihl hl.2 ok.2
            refine ⟨⟨_, ReadsAll.cons ra rb⟩, by simp [pyds, PyData.canLayAll0, c1, c2], ?_⟩
            simp only [pyds, PyData.depthAll]
            omega
      obtain ⟨⟨as, r⟩, c, d⟩ := all hv (by simpa [okT] using ok)
      refine ⟨⟨as, ?_⟩, by simpa [pyd, PyData.canLay0] using c, ?_⟩
      · rw [pyd]; exact reads_tuple_at (N.get hm) rfl rfl (by simpa using r)
      · simp only [pyd, PyData.depth]; omega
variable {prog : Program} {w : World} {A : Around} {E : Value → Shared → Prop} {s : Shared} {a b : Value} {Q : Value → Shared → Prop}
/-- what is told of the same is not unequal -/
theorem ne_told {n : Nat} {t : T} {na nb : List (Addr × Obj)} (N : News h₀ L s.heap news) (ha : ToldIs na n a t) (sa : ∀ p ∈ na, p ∈ news) (hb : ToldIs nb n b t) (sb : ∀ p ∈ nb, p ∈ news) (ok : okT n t = true) (hn : n ≤ 64) (hu : A.units + 64 < cLine)
    (h : Q (.bool false) s) : wpAny (model prog w) A (compareOp .NotEq a b) Q E s := by
  obtain ⟨⟨as, ra⟩, c, d⟩ := told_reads N n (ha.mono sa) ok
  obtain ⟨⟨bs, rb⟩, _, _⟩ := told_reads N n (hb.mono sb) ok
  have hs : PySem.SeqAt.shaped (pyd t) = true := by unfold SeqAt.shaped; rw [c, decide_eq_true (show (pyd t).depth ≤ 64 by omega)]; rfl
  exact ne_dataH ra rb hs hs hu (by rw [pyd_self]; exact h)
end
theorem okT_up : ∀ (n : Nat) (t : T), okT n t = true → okT (n + 1) t = true := by
  intro n
  induction n with
  | zero => intro t h; cases t <;> simp_all [okT]
  | succ n ih =>
    intro t h
    cases t with
    | tup l =>
      simp only [okT, List.all_eq_true] at h ⊢
      exact fun x hx => ih x (h x hx)
    | _ => exact h
theorem okT_upTo {n m : Nat} (h : n ≤ m) {t : T} (k : okT n t = true) : okT m t = true := by
  induction h with
  | refl => exact k
  | step _ ih => exact okT_up _ _ ih
theorem okS (n : Nat) (x : String) (h : PyData.strOk (Str.ofString x) = true) : okT n (S x) = true := by cases n <;> exact h
theorem ok_item (i : Item) : okT 2 (tellItem i) = true := by
  cases i with
  | none => simp only [tellItem, okT, List.all_cons, List.all_nil, Bool.and_true]; exact okS _ _ (by decide +kernel)
  | int i => simp only [tellItem, okT, List.all_cons, List.all_nil, Bool.and_true]; exact okS _ _ (by decide +kernel)
  | name => simp only [tellItem, okT, List.all_cons, List.all_nil, Bool.and_true, Bool.and_eq_true]; exact ⟨okS _ _ (by decide +kernel), okS _ _ (by decide +kernel)⟩
  | ref k g => simp only [tellItem, okT, List.all_cons, List.all_nil, Bool.and_true]; exact okS _ _ (by decide +kernel)
  | intl l =>
    simp only [tellItem, okT, List.all_cons, Bool.and_eq_true, List.all_map, List.all_eq_true]
    refine ⟨okS _ _ (by decide +kernel), fun x _ => ?_⟩
    simp only [Function.comp, okT, List.all_cons, List.all_nil, Bool.and_true]
    exact okS _ _ (by decide +kernel)
theorem ok_row (l : List Item) : okT 3 (tellRow l) = true := by
  simp only [tellRow, okT, List.all_cons, Bool.and_eq_true, List.all_map, List.all_eq_true]
  exact ⟨okS _ _ (by decide +kernel), fun i _ => ok_item i⟩
theorem ok_lim (lim : Option (List Item)) (n : Nat) (h : 4 ≤ n) : (tellLim lim).all (okT n) = true := by
  cases lim with
  | none => rfl
  | some l =>
    simp only [tellLim, List.all_cons, List.all_nil, Bool.and_true]
    refine okT_upTo h ?_
    simp only [okT, List.all_cons, List.all_nil, Bool.and_true, Bool.and_eq_true]
    exact ⟨okS _ _ (by decide +kernel), ok_row l⟩
theorem ok_leaf (lim : Option (List Item)) (nums : List Item) : okT 5 (.tup (S "dict" :: (tellLim lim ++ [.tup [S "Nums", tellRow nums]]))) = true := by
  simp only [okT, List.all_cons, List.all_append, List.all_nil, Bool.and_true, Bool.and_eq_true]
  exact ⟨okS _ _ (by decide +kernel), ok_lim lim 4 (Nat.le_refl _), okS _ _ (by decide +kernel), ok_row nums⟩
theorem ok_node : ∀ (n : Nat) (d : Node), okT (5 + 3 * n) (tellNode n d) = true := by
  intro n
  induction n with
  | zero =>
    intro d
    cases d with
    | leaf lim nums => exact ok_leaf lim nums
    | inner lim kids => rfl
  | succ n ih =>
    intro d
    cases d with
    | leaf lim nums => exact okT_upTo (by omega) (ok_leaf lim nums)
    | inner lim kids =>
      rw [show 5 + 3 * (n + 1) = (5 + 3 * n) + 2 + 1 by omega]
      simp only [tellNode, okT, List.all_cons, List.all_nil, Bool.and_true, Bool.and_eq_true, List.all_map, List.all_eq_true]
      exact ⟨okS _ _ (by decide +kernel), ⟨okS _ _ (by decide +kernel), okS _ _ (by decide +kernel), fun x _ => ih x⟩, fun x hx => List.all_eq_true.mp (ok_lim lim _ (by omega)) x hx⟩
end
section
local macro_rules | `(tactic| walk_at "an idle line 0") => `(tactic| fail "idle")
theorem walk_plain_ShelfA : True := by
  w_top off
  trivial
/-- a table's rows, numbered -/
def num : Nat → List Value → List (Int × Value)
  | _, [] => []
  | i, v :: vs => ((i : Int), v) :: num (i + 1) vs
theorem num_length : ∀ (i : Nat) (vs : List Value), (num i vs).length = vs.length
  | _, [] => rfl
  | i, _ :: vs => by simp [num, num_length (i + 1) vs]
theorem num_at : ∀ (i : Nat) (vs : List Value) (j : Nat), valueAt (num i vs) ((i + j : Nat) : Int) = vs[j]?
  | _, [], j => by simp [num, valueAt]
  | i, v :: vs, 0 => by simp [num, valueAt]
  | i, v :: vs, j + 1 => by
    have h := num_at (i + 1) vs j
    have e : ¬ ((i : Int) = ((i + (j + 1) : Nat) : Int)) := by omega
    unfold valueAt at h ⊢
    rw [num, List.find?_cons]
    simp only [e, decide_false]
    rw [show i + (j + 1) = i + 1 + j by omega, h]
    simp
theorem num_off : ∀ (i : Nat) (vs : List Value) (k : Int), k < i → valueAt (num i vs) k = none
  | _, [], k, _ => by simp [num, valueAt]
  | i, v :: vs, k, h => by
    have h' := num_off (i + 1) vs k (by omega)
    unfold valueAt at h' ⊢
    rw [num, List.find?_cons]
    have e : ¬ ((i : Int) = k) := by omega
    simp only [e, decide_false]
    exact h'
theorem num_get {vs : List Value} {k : Int} (h0 : 1 ≤ k) : valueAt (num 1 vs) k = vs[(k - 1).toNat]? := by
  have := num_at 1 vs (k - 1).toNat
  rwa [show ((1 + (k - 1).toNat : Nat) : Int) = k by omega] at this
theorem num_in {vs : List Value} {k : Int} (h0 : 1 ≤ k) (h1 : k ≤ vs.length) : (valueAt (num 1 vs) k).isSome = true := by
  rw [num_get h0, List.getElem?_eq_getElem (by omega)]; rfl
theorem num_out {vs : List Value} {k : Int} (h0 : 1 ≤ k) (h1 : ¬ k ≤ vs.length) : (valueAt (num 1 vs) k).isSome = false := by
  rw [num_get h0, List.getElem?_eq_none (by omega)]; rfl
theorem num_app : ∀ (i : Nat) (vs : List Value) (v : Value), num i (vs ++ [v]) = num i vs ++ [(((i + vs.length : Nat) : Int), v)]
  | i, [], v => by simp [num]
  | i, u :: vs, v => by
    simp only [List.cons_append, num, num_app (i + 1) vs v, List.length_cons]
    rw [show i + 1 + vs.length = i + (vs.length + 1) by omega]
theorem num_store {vs : List Value} {v : Value} {k : Int} (hk : k = vs.length + 1) : stored (num 1 vs) k v = num 1 (vs ++ [v]) := by
  have h : ∀ (i : Nat) (us : List Value) (j : Int), (i : Int) + us.length ≤ j → (num i us).any (fun kv => decide (kv.1 = j)) = false := by
    intro i us
    induction us generalizing i with
    | nil => intro j _; rfl
    | cons u us ih =>
      intro j hj
      simp only [List.length_cons] at hj
      simp only [num, List.any_cons, ih (i + 1) j (by omega), Bool.or_false]
      exact decide_eq_false (by omega)
  unfold stored
  rw [h 1 vs k (by omega), num_app]
  simp only [Bool.false_eq_true, if_false]
  rw [show ((1 + vs.length : Nat) : Int) = k by omega]
abbrev TabIs (w : World) (o : Obj) (vs : List Value) : Prop := o.IsDictOf (PySem.intKind PySem.Challenge.rw_og0169_01.row.prog w) (num 1 vs)
def NumEnd (h₀ : Heap) (L : Addr) (s : Shared) (y : Str) (i : Int) (m₀ : Str → Option Value) (news : List (Addr × Obj)) (f : Flow) (s₃ : Shared) : Prop :=
  f = .next ∧ ∃ h' tk t', s₃ = { s with heap := h', toks := tk } ∧ Fr h₀ L h' (fun z => if z = y then some (.int (i + 1) t') else m₀ z) ∧ News h₀ L h' news
section
variable {prog : Program} {w : World} {A : Around} {E : Value → Shared → Prop} {Q : Flow → Shared → Prop} {s : Shared} {env : Env} {h₀ : Heap} {L : Addr}
theorem while_num {test : Expr} {body : List Stmt} {pos : Pos} {m₀ : Str → Option Value} {news : List (Addr × Obj)} {t0 : Tok} (y : Str) (k : Nat) (F : Fr h₀ L s.heap m₀) (N : News h₀ L s.heap news) (hy : m₀ y = some (.int 1 t0))
    (turn : ∀ (i : Int) t h tk, 1 ≤ i → i ≤ k + 1 → Fr h₀ L h (fun z => if z = y then some (.int i t) else m₀ z) → News h₀ L h news →
      wpAny (model prog w) A (isTrue test env (eval test env)) (fun b s₂ =>
        if b = true then i ≤ k ∧ wpAny (model prog w) A (execs body env) (NumEnd h₀ L s y i m₀ news) E s₂ else Q .next s₂) E { s with heap := h, toks := tk })
    (hE : PassesOwn (model prog w) A env E := by passes_own) :
    wpAny (model prog w) A (exec (.While test body [] pos) env) Q E s := by
  have e0 : m₀ = (fun z => if z = y then some (.int 1 t0) else m₀ z) := by
    funext z
    by_cases hz : z = y
    · subst hz; simp [hy]
    · simp [hz]
  refine While_inv (fun n m nx => nx = news ∧ ∃ i t, 1 ≤ i ∧ i ≤ (k : Int) + 1 ∧ n = (k + 1 - i).toNat ∧ m = fun z => if z = y then some (.int i t) else m₀ z) (n₀ := k) F N ⟨rfl, 1, t0, by omega, by omega, by omega, e0⟩ ?_ hE
  rintro n m₁ nx h tk F₁ N₁ ⟨rfl, i, t, h1, h2, rfl, rfl⟩
  refine wpAny_mono (turn i t h tk h1 h2 F₁ N₁) (fun b s₂ p => ?_) fun _ _ x => x
  cases b with
  | false => simpa using p
  | true =>
    simp only [if_true] at p ⊢
    obtain ⟨hik, p⟩ := p
    refine wpAny_mono p (fun f s₃ q => ?_) fun _ _ x => x
    obtain ⟨rfl, h', tk', t', rfl, F', N'⟩ := q
    exact WhileStep.intro F' N' (n' := (k + 1 - (i + 1)).toNat) (by omega) ⟨rfl, i + 1, t', by omega, by omega, rfl, rfl⟩
theorem while_tab {test : Expr} {body : List Stmt} {pos : Pos} {m₀ : Str → Option Value} {news : List (Addr × Obj)} {t0 : Tok} {oT : Obj} {vs : List Value} (y : Str) (_hT : TabIs w oT vs) (F : Fr h₀ L s.heap m₀) (N : News h₀ L s.heap news) (hy : m₀ y = some (.int 1 t0))
    (yes : ∀ (i : Int) t h tk, 1 ≤ i → i ≤ vs.length → Fr h₀ L h (fun z => if z = y then some (.int i t) else m₀ z) → News h₀ L h news →
      wpAny (model prog w) A (isTrue test env (eval test env)) (fun b s₂ => b = true ∧ wpAny (model prog w) A (execs body env) (NumEnd h₀ L s y i m₀ news) E s₂) E { s with heap := h, toks := tk })
    (no : ∀ (i : Int) t h tk, i = vs.length + 1 → Fr h₀ L h (fun z => if z = y then some (.int i t) else m₀ z) → News h₀ L h news →
      wpAny (model prog w) A (isTrue test env (eval test env)) (fun b s₂ => b = false ∧ Q .next s₂) E { s with heap := h, toks := tk })
    (hE : PassesOwn (model prog w) A env E := by passes_own) :
    wpAny (model prog w) A (exec (.While test body [] pos) env) Q E s := by
  refine while_num y vs.length F N hy (fun i t h tk h1 h2 F' N' => ?_) hE
  by_cases hi : i ≤ vs.length
  · refine wpAny_mono (yes i t h tk h1 hi F' N') (fun b s₂ p => ?_) fun _ _ x => x
    obtain ⟨rfl, p⟩ := p
    simp only [if_true]
    exact ⟨hi, p⟩
  · refine wpAny_mono (no i t h tk (by omega) F' N') (fun b s₂ p => ?_) fun _ _ x => x
    obtain ⟨rfl, p⟩ := p
    simpa using p
theorem NumEnd.intro {h' : Heap} {tk : Nat} {t' : Tok} {y : Str} {i j : Int} {m₀ m' : Str → Option Value} {news : List (Addr × Obj)} (F : Fr h₀ L h' m') (N : News h₀ L h' news) (hy : m' y = some (.int j t')) (hj : j = i + 1) (hm : ∀ z, z ≠ y → m' z = m₀ z) :
    NumEnd h₀ L s y i m₀ news .next { s with heap := h', toks := tk } := by
  have e : m' = (fun z => if z = y then some (.int (i + 1) t') else m₀ z) := by
    funext z
    by_cases hz : z = y
    · subst hz; subst hj; simpa using hy
    · simpa [hz] using hm z hz
  rw [e] at F
  exact ⟨rfl, h', tk, t', rfl, F, N⟩
theorem tab_in {d : Addr} {news : List (Addr × Obj)} {o : Obj} {vs : List Value} {k : Int} {tk : Tok} {Q : Value → Shared → Prop} (N : News h₀ L s.heap news) (hp : (d, o) ∈ news) (hd : TabIs w o vs) (lo : (d == sysModules) = false) (h1 : 1 ≤ k) (b : Bool) (hb : decide (k ≤ vs.length) = b)
    (h : Q (.bool b) { s with toks := s.toks + 1 }) : wpAny (model PySem.Challenge.rw_og0169_01.row.prog w) A (compareOp .In (.int k tk) (.ref d)) Q E s := by
  refine kda_in (knd := PySem.intKind _ _) (k := k) N hp hd lo (intKind_is _ _ _ _) b ?_ h
  subst hb
  by_cases hk : k ≤ vs.length
  · rw [num_in h1 hk, decide_eq_true hk]
  · rw [num_out h1 hk, decide_eq_false hk]
theorem tab_yes {d : Addr} {news : List (Addr × Obj)} {o : Obj} {vs : List Value} {k : Int} {tk : Tok} {Q : Value → Shared → Prop} (N : News h₀ L s.heap news) (hp : (d, o) ∈ news) (hd : TabIs w o vs) (lo : (d == sysModules) = false) (h1 : 1 ≤ k) (h2 : k ≤ vs.length)
    (h : Q (.bool true) { s with toks := s.toks + 1 }) : wpAny (model PySem.Challenge.rw_og0169_01.row.prog w) A (compareOp .In (.int k tk) (.ref d)) Q E s := tab_in N hp hd lo h1 true (decide_eq_true h2) h
theorem tab_no {d : Addr} {news : List (Addr × Obj)} {o : Obj} {vs : List Value} {k : Int} {tk : Tok} {Q : Value → Shared → Prop} (N : News h₀ L s.heap news) (hp : (d, o) ∈ news) (hd : TabIs w o vs) (lo : (d == sysModules) = false) (h2 : k = vs.length + 1)
    (h : Q (.bool false) { s with toks := s.toks + 1 }) : wpAny (model PySem.Challenge.rw_og0169_01.row.prog w) A (compareOp .In (.int k tk) (.ref d)) Q E s := tab_in N hp hd lo (by omega) false (decide_eq_false (by omega)) h
theorem tab_set {d : Addr} {m : Str → Option Value} {news : List (Addr × Obj)} {g : Obj → List (Addr × Obj)} {o : Obj} {vs : List Value} {k : Int} {tk : Tok} {v : Value} {Q : Unit → Shared → Prop} (F : Fr h₀ L s.heap m) (N : News h₀ L s.heap news) (U : UpdF d o news g) (hd : TabIs w o vs) (hk : k = vs.length + 1) (hz : vs.length ≤ 1000)
    (h : ∀ h' o', Fr h₀ L h' m → News h₀ L h' (g o') → TabIs w o' (vs ++ [v]) → Q () { s with heap := h', toks := s.toks + 1 }) : wpAny (model PySem.Challenge.rw_og0169_01.row.prog w) A (setItem (.ref d) (.int k tk) v) Q E s :=
  kda_set (knd := PySem.intKind _ _) (k := k) F N U hd (intKind_is _ _ _ _) (by rw [num_length, sizeLine_eq]; omega) fun h' o' F' N' hd' => h h' o' F' N' (by rw [num_store hk] at hd'; exact hd')
end
section
set_option maxRecDepth 100000 in
set_option maxHeartbeats 8000000 in
theorem add_spec (w : World) (S T dS R : Addr) (k1 k2 : Tok) (n : Nat) (oT : Obj) (vs : List Value) (v : Value) (rest : List (Addr × Obj)) (hoff : ∀ p ∈ rest, p.1 ≠ T) (lT : (T == sysModules) = false) (hT : TabIs w oT vs) (hl : vs.length ≤ 1000)
   (hS : (S, instObj 363 dS) ∈ rest) (hd : (dS, dictOf (shelfD w k1 k2 T R) n) ∈ rest) :
   Spec w 334 3 [.ref S, v] ((T, oT) :: rest) (MadeP T oT rest fun r oT' tl => ∃ t, TabIs w oT' (vs ++ [.ref t]) ∧ (∃ tk m, (t, tupOf #[.int 0 tk, v] m) ∈ tl) ∧ RefIs w tl r (vs.length + 1) 0) := by
  unfold Spec
  k_fill
  intro dp un gd cn cs a ccd cl outer A₀ base h₀ L m s loose mean mg mb Q E B F X N T hk hd hu hret
  refine wpAny_call ?_
  k_dflt ktr_enter
  repeat' (first | (k_unfold; (try dsimp only)) | ((with_reducible show NumEnd _ _ _ _ _ _ _ _ _); first | with_reducible (refine NumEnd.intro (by k_asm) (by k_asm) (by with_unfolding_all rfl) rfl (by intro z h1; first | rfl | (simp [h1]; done) | (simp_all; done)))) | ((with_reducible show wpAny _ _ (setItem (Value.ref _) (Value.int _ _) _) _ _ _); first | with_reducible (k_here; k_dflt (refine' tab_set (by k_asm) (by k_asm) (by k_updF) (by assumption) (by exact rfl) (by assumption) ?_); intro h' o' F' N' hd'; (try dsimp only at N'))) | ((with_reducible show wpAny _ _ (compareOp CmpOp.In (Value.int _ _) (Value.ref _)) _ _ _); first | with_reducible (k_here; k_dflt (first | (refine' tab_yes (by k_asm) (by k_mem) (by assumption) (by assumption) (by assumption) (by assumption) ?_) | (refine' tab_no (by k_asm) (by k_mem) (by assumption) (by assumption) (by exact rfl) ?_)))) | ((with_reducible show wpAny _ _ (exec (Stmt.While _ _ _ _) _) _ _ _); first | with_reducible (k_here; (rename Fr _ _ _ _ => lF'); (rename News _ _ _ _ => lN'); (with_unfolding_all refine' while_tab (Str.ofString "number") (by assumption) lF' lN' (by exact rfl) ?_ ?_); (all_goals clear lF' lN'); (all_goals first | (intro i' t' h' tk' p1 p2 F' N') | (intro i' t' h' tk' p1 F' N'; subst p1))) | (k_here; (rename Fr _ _ _ _ => lF'); (rename News _ _ _ _ => lN'); (with_unfolding_all refine' while_tab (Str.ofString "number") (by assumption) lF' lN' (by exact rfl) ?_ ?_); (all_goals clear lF' lN'); (all_goals first | (intro i' t' h' tk' p1 p2 F' N') | (intro i' t' h' tk' p1 F' N'; subst p1)))) | ((with_reducible show wpAny _ _ (execs (Stmt.Assign _ _ _ :: _ :: _) _) _ _ _); first | with_reducible (k_here; (with_reducible refine wpAny_execs_cons ?_); try dsimp only)) | ((with_reducible show RangeRest _ _ _ _ _ _ _ _ _ _ _ _ _ _ _ _ _); first | with_reducible (k_here; first | ((with_reducible refine RangeRest.succ ?_); intro t' h' tk' F' N') | ((with_reducible refine RangeRest.zero ?_); intro h' tk' F' N'))) | (k_end; kc_close) | walk1 | (dsimp only; walk1) | (leave1; (try dsimp only)))
  refine finishP hret (by k_asm) (by k_asm) (by k_mem) (by ktd_sub) fun tl U keep => ?_
  refine ⟨_, by assumption, ⟨_, _, keep _ (.tail _ (.tail _ (.head _))) (by refine ltN ?_; dsimp only; omega) (by ktn_ord)⟩, _, _, _, _, _, _, _, rfl, keep _ (.head _) (by refine ltN ?_; dsimp only; omega) (by ktn_ord), keep _ (.tail _ (.head _)) (by refine ltN ?_; dsimp only; omega) (by ktn_ord)⟩
end
theorem ret_add {h₀ : Heap} {L : Addr} {m : Str → Option Value} {s : Shared} {Q : Value → Shared → Prop} {w : World} {T : Addr} {oT : Obj} {rest : List (Addr × Obj)} {vs : List Value} {v : Value} (k : ∀ r o' tl t tk n h' tk', Fr h₀ L h' m → News h₀ L h' ((T, o') :: (rest ++ tl)) → Up ((T, oT) :: rest) tl → TabIs w o' (vs ++ [.ref t]) → (t, tupOf #[.int 0 tk, v] n) ∈ tl → RefIs w tl r (vs.length + 1) 0 → Q r { s with heap := h', toks := tk' }) :
    ∀ r n' h' tk', Fr h₀ L h' m → News h₀ L h' n' → MadeP T oT rest (fun r oT' tl => ∃ t, TabIs w oT' (vs ++ [.ref t]) ∧ (∃ tk m, (t, tupOf #[.int 0 tk, v] m) ∈ tl) ∧ RefIs w tl r (vs.length + 1) 0) r n' → Q r { s with heap := h', toks := tk' } := by
  rintro r n' h' tk' F N ⟨o', tl, rfl, U, t, a1, ⟨tk, n, a2⟩, a3⟩
  exact k r o' tl t tk n h' tk' F N U a1 a2 a3
end
section
theorem walk_plain_Cls : True := by
  w_top off
  trivial
section
set_option maxRecDepth 100000 in
set_option maxHeartbeats 8000000 in
theorem ref_new (w : World) (k : Int) (p : Tok) (g : Int) (q : Tok) (rest : List (Addr × Obj)) :
   Spec w 254 2 [.int k p, .int g q] rest (fun r news' => ∃ x dx a c n, r = .ref x ∧ news' = (x, instObj 254 dx) :: (dx, dictOf (refD w a c (.int k p) (.int g q)) n) :: rest ∧ (∀ z ∈ rest, z.1 < dx) ∧ dx < x) := by
  unfold Spec
  k_fill
  intro dp un gd cn cs a ccd cl outer A₀ base h₀ L m s loose mean mg mb Q E B F X N T hk hd hu hret
  refine' call_cls ?k1 ?k2 ?k3 ?k4 ?k5 ?k6 ?_; (case k1 => k_asm); (case k2 => k_asm); (case k3 => k_asm); (case k4 => k_is); (case k5 => k_is); (case k6 => k_is); k_whole; intro x' d' h' F' N' l1 l2; (try k_lt l1); (try k_lt2 l2)
  k_dflt (refine' code_def ?k1 ?k2 ?k3 ?k4 ?k5 ?kA ?kF ?kK ?k6 ?k7 ?k8 ?k9 ?kB ?_ ?c2 ?c3 ?c4 ?c5; (case kA => exact rfl); (case kF => exact rfl); (case kK => assumption); (case k1 => k_asm); (case k2 => k_asm); (case k3 => k_asm); (case k4 => k_asm); (case k5 => k_asm); (case k6 => k_is); (case k7 => k_is); (case k8 => ktr_room); (case k9 => first | exact binds_K (by k_in) rfl (by k_is) rfl rfl rfl | exact BindsTo.of_eq rfl); (case c5 => decide); (case kB => exact locs rfl); (case c2 => exact rfl); (case c3 => exact rfl); (case c4 => exact rfl); k_whole)
  intro g1 L1 h1 FG1 F1 N1 B1 X1 T1
  (try dsimp only)
  (try k_fold)
  repeat' (first | (k_unfold; (try dsimp only)) | ((with_reducible show wpAny _ _ (execs (Stmt.Assign _ _ _ :: _ :: _) _) _ _ _); first | with_reducible (k_here; (with_reducible refine wpAny_execs_cons ?_); try dsimp only)) | ((with_reducible show RangeRest _ _ _ _ _ _ _ _ _ _ _ _ _ _ _ _ _); first | with_reducible (k_here; first | ((with_reducible refine RangeRest.succ ?_); intro t' h' tk' F' N') | ((with_reducible refine RangeRest.zero ?_); intro h' tk' F' N'))) | (k_end; kc_close) | walk1 | (dsimp only; walk1) | (leave1; (try dsimp only)))
  exact hret _ _ _ _ (by k_asm) (by k_asm) ⟨_, _, _, _, _, rfl, rfl, by ktn_ord, by assumption⟩
set_option maxRecDepth 100000 in
set_option maxHeartbeats 8000000 in
theorem name_new (w : World) (v : Value) (rest : List (Addr × Obj)) :
   Spec w 183 2 [v] rest (fun r news' => ∃ x dx a n, r = .ref x ∧ news' = (x, instObj 183 dx) :: (dx, dictOf [⟨PyData.keyHash w.params (Str.ofString "text"), .str (Str.ofString "text") a, v⟩] n) :: rest ∧ (∀ z ∈ rest, z.1 < dx) ∧ dx < x) := by
  unfold Spec
  k_fill
  intro dp un gd cn cs a ccd cl outer A₀ base h₀ L m s loose mean mg mb Q E B F X N T hk hd hu hret
  refine' call_cls ?k1 ?k2 ?k3 ?k4 ?k5 ?k6 ?_; (case k1 => k_asm); (case k2 => k_asm); (case k3 => k_asm); (case k4 => k_is); (case k5 => k_is); (case k6 => k_is); k_whole; intro x' d' h' F' N' l1 l2; (try k_lt l1); (try k_lt2 l2)
  k_dflt (refine' code_def ?k1 ?k2 ?k3 ?k4 ?k5 ?kA ?kF ?kK ?k6 ?k7 ?k8 ?k9 ?kB ?_ ?c2 ?c3 ?c4 ?c5; (case kA => exact rfl); (case kF => exact rfl); (case kK => assumption); (case k1 => k_asm); (case k2 => k_asm); (case k3 => k_asm); (case k4 => k_asm); (case k5 => k_asm); (case k6 => k_is); (case k7 => k_is); (case k8 => ktr_room); (case k9 => first | exact binds_K (by k_in) rfl (by k_is) rfl rfl rfl | exact BindsTo.of_eq rfl); (case c5 => decide); (case kB => exact locs rfl); (case c2 => exact rfl); (case c3 => exact rfl); (case c4 => exact rfl); k_whole)
  intro g1 L1 h1 FG1 F1 N1 B1 X1 T1
  (try dsimp only)
  (try k_fold)
  repeat' (first | (k_unfold; (try dsimp only)) | ((with_reducible show wpAny _ _ (execs (Stmt.Assign _ _ _ :: _ :: _) _) _ _ _); first | with_reducible (k_here; (with_reducible refine wpAny_execs_cons ?_); try dsimp only)) | ((with_reducible show RangeRest _ _ _ _ _ _ _ _ _ _ _ _ _ _ _ _ _); first | with_reducible (k_here; first | ((with_reducible refine RangeRest.succ ?_); intro t' h' tk' F' N') | ((with_reducible refine RangeRest.zero ?_); intro h' tk' F' N'))) | (k_end; kc_close) | walk1 | (dsimp only; walk1) | (leave1; (try dsimp only)))
  exact hret _ _ _ _ (by k_asm) (by k_asm) ⟨_, _, _, _, rfl, rfl, by ktn_ord, by assumption⟩
set_option maxRecDepth 100000 in
set_option maxHeartbeats 8000000 in
theorem shelf_new (w : World) (T R : Addr) (rest : List (Addr × Obj)) :
   Spec w 363 2 [.ref T, .ref R] rest (fun r news' => ∃ x dx a c n, r = .ref x ∧ news' = (x, instObj 363 dx) :: (dx, dictOf (shelfD w a c T R) n) :: rest ∧ (∀ z ∈ rest, z.1 < dx) ∧ dx < x) := by
  unfold Spec
  k_fill
  intro dp un gd cn cs a ccd cl outer A₀ base h₀ L m s loose mean mg mb Q E B F X N T hk hd hu hret
  refine' call_cls ?k1 ?k2 ?k3 ?k4 ?k5 ?k6 ?_; (case k1 => k_asm); (case k2 => k_asm); (case k3 => k_asm); (case k4 => k_is); (case k5 => k_is); (case k6 => k_is); k_whole; intro x' d' h' F' N' l1 l2; (try k_lt l1); (try k_lt2 l2)
  k_dflt (refine' code_def ?k1 ?k2 ?k3 ?k4 ?k5 ?kA ?kF ?kK ?k6 ?k7 ?k8 ?k9 ?kB ?_ ?c2 ?c3 ?c4 ?c5; (case kA => exact rfl); (case kF => exact rfl); (case kK => assumption); (case k1 => k_asm); (case k2 => k_asm); (case k3 => k_asm); (case k4 => k_asm); (case k5 => k_asm); (case k6 => k_is); (case k7 => k_is); (case k8 => ktr_room); (case k9 => first | exact binds_K (by k_in) rfl (by k_is) rfl rfl rfl | exact BindsTo.of_eq rfl); (case c5 => decide); (case kB => exact locs rfl); (case c2 => exact rfl); (case c3 => exact rfl); (case c4 => exact rfl); k_whole)
  intro g1 L1 h1 FG1 F1 N1 B1 X1 T1
  (try dsimp only)
  (try k_fold)
  repeat' (first | (k_unfold; (try dsimp only)) | ((with_reducible show wpAny _ _ (execs (Stmt.Assign _ _ _ :: _ :: _) _) _ _ _); first | with_reducible (k_here; (with_reducible refine wpAny_execs_cons ?_); try dsimp only)) | ((with_reducible show RangeRest _ _ _ _ _ _ _ _ _ _ _ _ _ _ _ _ _); first | with_reducible (k_here; first | ((with_reducible refine RangeRest.succ ?_); intro t' h' tk' F' N') | ((with_reducible refine RangeRest.zero ?_); intro h' tk' F' N'))) | (k_end; kc_close) | walk1 | (dsimp only; walk1) | (leave1; (try dsimp only)))
  exact hret _ _ _ _ (by k_asm) (by k_asm) ⟨_, _, _, _, _, rfl, rfl, by ktn_ord, by assumption⟩
set_option maxRecDepth 100000 in
set_option maxHeartbeats 8000000 in
theorem shelf_new0 (w : World) (rest : List (Addr × Obj)) :
   Spec w 363 2 [] rest (fun r news' => ∃ x dx a c n T oT R oR, r = .ref x ∧ news' = (R, oR) :: (T, oT) :: (x, instObj 363 dx) :: (dx, dictOf (shelfD w a c T R) n) :: rest ∧ (T == sysModules) = false ∧ oT.IsDictOf (PySem.intKind PySem.Challenge.rw_og0169_01.row.prog w) [] ∧
     ((∀ z ∈ rest, z.1 < dx) ∧ dx < x) ∧ (x < T ∧ dx < T ∧ ∀ z ∈ rest, z.1 < T) ∧ (T < R ∧ x < R ∧ dx < R ∧ ∀ z ∈ rest, z.1 < R)) := by
  unfold Spec
  k_fill
  intro dp un gd cn cs a ccd cl outer A₀ base h₀ L m s loose mean mg mb Q E B F X N T hk hd hu hret
  refine' call_cls ?k1 ?k2 ?k3 ?k4 ?k5 ?k6 ?_; (case k1 => k_asm); (case k2 => k_asm); (case k3 => k_asm); (case k4 => k_is); (case k5 => k_is); (case k6 => k_is); k_whole; intro x' d' h' F' N' l1 l2; (try k_lt l1); (try k_lt2 l2)
  k_dflt (refine' code_def ?k1 ?k2 ?k3 ?k4 ?k5 ?kA ?kF ?kK ?k6 ?k7 ?k8 ?k9 ?kB ?_ ?c2 ?c3 ?c4 ?c5; (case kA => exact rfl); (case kF => exact rfl); (case kK => assumption); (case k1 => k_asm); (case k2 => k_asm); (case k3 => k_asm); (case k4 => k_asm); (case k5 => k_asm); (case k6 => k_is); (case k7 => k_is); (case k8 => ktr_room); (case k9 => first | exact binds_K (by k_in) rfl (by k_is) rfl rfl rfl | exact BindsTo.of_eq rfl); (case c5 => decide); (case kB => exact locs rfl); (case c2 => exact rfl); (case c3 => exact rfl); (case c4 => exact rfl); k_whole)
  intro g1 L1 h1 FG1 F1 N1 B1 X1 T1
  (try dsimp only)
  (try k_fold)
  repeat' (first | (k_unfold; (try dsimp only)) | ((with_reducible show wpAny _ _ (execs (Stmt.Assign _ _ _ :: _ :: _) _) _ _ _); first | with_reducible (k_here; (with_reducible refine wpAny_execs_cons ?_); try dsimp only)) | ((with_reducible show RangeRest _ _ _ _ _ _ _ _ _ _ _ _ _ _ _ _ _); first | with_reducible (k_here; first | ((with_reducible refine RangeRest.succ ?_); intro t' h' tk' F' N') | ((with_reducible refine RangeRest.zero ?_); intro h' tk' F' N'))) | (k_end; kc_close) | walk1 | (dsimp only; walk1) | (leave1; (try dsimp only)))
  refine hret _ _ _ _ (by k_asm) (by k_asm) ⟨_, _, _, _, _, _, _, _, _, rfl, rfl, ?_⟩
  exact ⟨by assumption, by assumption, ⟨by ktn_ord, by assumption⟩, ⟨by refine ltN ?_; omega, by refine ltN ?_; omega, by ktn_ord⟩, ⟨by refine ltN ?_; omega, by refine ltN ?_; omega, by refine ltN ?_; omega, by ktn_ord⟩⟩
end
theorem ret_shelf0 {h₀ : Heap} {L : Addr} {m : Str → Option Value} {s : Shared} {Q : Value → Shared → Prop} {w : World} {rest : List (Addr × Obj)} (k : ∀ x dx a c n T oT R oR h' tk', Fr h₀ L h' m → News h₀ L h' ((R, oR) :: (T, oT) :: (x, instObj 363 dx) :: (dx, dictOf (shelfD w a c T R) n) :: rest) → (T == sysModules) = false → oT.IsDictOf (PySem.intKind PySem.Challenge.rw_og0169_01.row.prog w) [] → (∀ z ∈ rest, z.1 < dx) → dx < x → x < T → dx < T → (∀ z ∈ rest, z.1 < T) → T < R → x < R → dx < R → (∀ z ∈ rest, z.1 < R) → Q (.ref x) { s with heap := h', toks := tk' }) :
    ∀ r n' h' tk', Fr h₀ L h' m → News h₀ L h' n' → (∃ x dx a c n T oT R oR, r = .ref x ∧ n' = (R, oR) :: (T, oT) :: (x, instObj 363 dx) :: (dx, dictOf (shelfD w a c T R) n) :: rest ∧ (T == sysModules) = false ∧ oT.IsDictOf (PySem.intKind PySem.Challenge.rw_og0169_01.row.prog w) [] ∧
     ((∀ z ∈ rest, z.1 < dx) ∧ dx < x) ∧ (x < T ∧ dx < T ∧ ∀ z ∈ rest, z.1 < T) ∧ (T < R ∧ x < R ∧ dx < R ∧ ∀ z ∈ rest, z.1 < R)) → Q r { s with heap := h', toks := tk' } := by
  rintro r n' h' tk' F N ⟨x, dx, a, c, n, T, oT, R, oR, rfl, rfl, b1, b2, ⟨b3, b4⟩, ⟨b5, b6, b7⟩, ⟨b8, b9, b10, b11⟩⟩
  exact k x dx a c n T oT R oR h' tk' F N b1 b2 b3 b4 b5 b6 b7 b8 b9 b10 b11
end
section
local macro_rules | `(tactic| walk_at "an idle line 0") => `(tactic| fail "idle")
theorem walk_plain_FetchA : True := by
  w_top off
  trivial
theorem News.of_sub {h₀ h : Heap} {L : Addr} {a b : List (Addr × Obj)} (N : News h₀ L h b) (hs : ∀ p ∈ a, p ∈ b) : News h₀ L h a := fun p hp => N p (hs p hp)
theorem tab_get2 {w : World} {A : Around} {E : Value → Shared → Prop} {s : Shared} {h₀ : Heap} {L d : Addr} {news : List (Addr × Obj)} {o : Obj} {vs : List Value} {k : Int} {tk : Tok} {v dflt : Value} {Q : Value → Shared → Prop} (N : News h₀ L s.heap news) (hp : (d, o) ∈ news) (hd : TabIs w o vs) (lo : (d == sysModules) = false)
    (h1 : 1 ≤ k) (hv : vs[(k - 1).toNat]? = some v) (h : Q v { s with toks := s.toks + 1 }) : wpAny (model PySem.Challenge.rw_og0169_01.row.prog w) A (call (.builtin "dict.get") [.ref d, .int k tk, dflt]) Q E s :=
  kdg_get2 (knd := PySem.intKind _ _) N hp hd lo (intKind_is _ _ k tk) (some v) (by rw [num_get h1, hv]) h
theorem tab_get0 {w : World} {A : Around} {E : Value → Shared → Prop} {s : Shared} {h₀ : Heap} {L d : Addr} {news : List (Addr × Obj)} {o : Obj} {vs : List Value} {k : Int} {tk : Tok} {dflt : Value} {Q : Value → Shared → Prop} (N : News h₀ L s.heap news) (hp : (d, o) ∈ news) (hd : TabIs w o vs) (lo : (d == sysModules) = false)
    (h2 : (vs.length : Int) < k) (h : Q dflt { s with toks := s.toks + 1 }) : wpAny (model PySem.Challenge.rw_og0169_01.row.prog w) A (call (.builtin "dict.get") [.ref d, .int k tk, dflt]) Q E s :=
  kdg_get2 (knd := PySem.intKind _ _) N hp hd lo (intKind_is _ _ k tk) none (by rw [num_get (by omega), List.getElem?_eq_none (by omega)]) h
theorem tab_getm {w : World} {A : Around} {E : Value → Shared → Prop} {s : Shared} {h₀ : Heap} {L d : Addr} {news : List (Addr × Obj)} {o : Obj} {vs : List Value} {pl : Sem Bool} {Q : Value × List Value → Shared → Prop} (N : News h₀ L s.heap news) (hp : (d, o) ∈ news) (hd : TabIs w o vs)
    (h : Q (.builtin "dict.get", [.ref d]) s) : wpAny (model PySem.Challenge.rw_og0169_01.row.prog w) A (getMethod (.ref d) "get" pl) Q E s := kdg_method (knd := PySem.intKind _ _) N hp hd h
def Stop (p : Prop) : Prop := p
theorem Stop.out {p : Prop} (h : Stop p) : p := h
/-- isinstance(v, c) is False -/
def IsNot (w : World) (news : List (Addr × Obj)) (v c : Value) : Prop := ∀ (A : Around) (E : Value → Shared → Prop) (s : Shared) (h₀ : Heap) (L : Addr) (Q : Value → Shared → Prop), (fr.heap_1 w.params).In s.heap → News h₀ L s.heap news → (∀ tk, Q (.bool false) { s with toks := tk }) →
  wpAny (model PySem.Challenge.rw_og0169_01.row.prog w) A (call (.builtin "isinstance") [v, c]) Q E s
theorem IsNot.mono {w : World} {news news' : List (Addr × Obj)} {v c : Value} (h : IsNot w news v c) (hs : ∀ p ∈ news, p ∈ news') : IsNot w news' v c := fun A E s h₀ L Q X N q => h A E s h₀ L Q X (News.of_sub N hs) q
theorem IsNot.use {w : World} {news news' : List (Addr × Obj)} {v c : Value} {A : Around} {E : Value → Shared → Prop} {s : Shared} {h₀ : Heap} {L : Addr} {Q : Value → Shared → Prop} (X : (fr.heap_1 w.params).In s.heap) (N : News h₀ L s.heap news') (h : IsNot w news v c) (hs : ∀ p ∈ news, p ∈ news') (q : ∀ tk, Q (.bool false) { s with toks := tk }) :
  wpAny (model PySem.Challenge.rw_og0169_01.row.prog w) A (call (.builtin "isinstance") [v, c]) Q E s := h A E s h₀ L Q X (News.of_sub N hs) q
section
variable {prog : Program} {w : World} {A : Around} {E : Value → Shared → Prop} {s : Shared} {env : Env} {h₀ : Heap} {x y1 y2 y3 : Str} {body : List Stmt} {Q : Flow → Shared → Prop}
/-- a loop over a range that binds three names more, by an invariant over the first one's value -/
theorem rangeRest_inv {I : Addr} {a : Int} {n : Nat} {m₀ : Str → Option Value} {news : List (Addr × Obj)} (Inv : Nat → Value → Prop) (h0 : ∀ v, ¬ Inv 0 v)
    (turn : ∀ k v j t u2 u3 it h tk, Inv (k + 1) v → Fr h₀ env.locals h (fun y => if y = x then some (.int j t) else if y = y1 then some v else if y = y2 then u2 else if y = y3 then u3 else m₀ y) → News h₀ env.locals h ((I, it) :: news) →
      wpAny (model prog w) A (execs body env) (UnrPost h₀ env.locals { s with heap := h, toks := tk } I it (fun m' n' => (∀ z, z ≠ x → z ≠ y1 → z ≠ y2 → z ≠ y3 → m' z = m₀ z) ∧ (∃ v', m' y1 = some v' ∧ Inv k v') ∧ ∀ p ∈ news, p ∈ n') Q) E { s with heap := h, toks := tk }) :
    ∀ (k i : Nat) m news', (∃ v, m y1 = some v ∧ Inv k v) → (∀ z, z ≠ x → z ≠ y1 → z ≠ y2 → z ≠ y3 → m z = m₀ z) → (∀ p ∈ news, p ∈ news') → RangeRest prog w A E h₀ env x body Q s I a n k i m news' := by
  intro k
  induction k with
  | zero => intro i m news' hv _ _; obtain ⟨v, _, hv⟩ := hv; exact (h0 v hv).elim
  | succ k ih =>
    intro i m news' hv hm hs
    obtain ⟨v, hy, hv⟩ := hv
    refine RangeRest.succ fun t h tk F N => ?_
    have e : (fun y => if y = x then some (.int (a + (i : Int)) t) else m y) = (fun y => if y = x then some (.int (a + (i : Int)) t) else if y = y1 then some v else if y = y2 then m y2 else if y = y3 then m y3 else m₀ y) := by
      funext y
      by_cases hx : y = x
      · simp only [hx, if_true]
      · simp only [hx, if_false]
        by_cases h1 : y = y1
        · simp only [h1, if_true, hy]
        · simp only [h1, if_false]
          by_cases h2 : y = y2
          · simp only [h2, if_true]
          · simp only [h2, if_false]
            by_cases h3 : y = y3
            · simp only [h3, if_true]
            · simp only [h3, if_false, hm y hx h1 h2 h3]
    rw [e] at F
    refine wpAny_mono (turn k v _ t (m y2) (m y3) _ h tk hv F (News.of_sub N (fun p hp => by
      rcases List.mem_cons.mp hp with rfl | hp
      · exact .head _
      · exact .tail _ (hs p hp)))) (fun f s₂ p => ?_) fun _ _ x => x
    have go : ∀ it, UnrEnd h₀ env.locals { s with heap := h, toks := tk } I it (fun m' n' => (∀ z, z ≠ x → z ≠ y1 → z ≠ y2 → z ≠ y3 → m' z = m₀ z) ∧ (∃ v', m' y1 = some v' ∧ Inv k v') ∧ ∀ p ∈ news, p ∈ n') s₂ →
        UnrEnd h₀ env.locals { s with heap := h, toks := tk } I it (RangeRest prog w A E h₀ env x body Q s I a n k (i + 1)) s₂ := by
      rintro it ⟨h', tk', m', n', e', F', N', off, hm', hv', hs'⟩
      exact ⟨h', tk', m', n', e', F', N', off, ih (i + 1) m' n' hv' hm' hs'⟩
    cases f with
    | ret v => exact p
    | brk => exact p
    | next => exact go _ p
    | cont => exact go _ p
theorem iter_range_inv (y1 y2 y3 : Str) {r : Addr} {a₀ b₀ : Int} {t₀ u₀ v₀ : Tok} {n : Nat} {m₀ : Str → Option Value} {news : List (Addr × Obj)} {v0 : Value} (Inv : Nat → Value → Prop)
    (hh : A.handled = none) (hr : IsRange s.heap r a₀ b₀ 1 t₀ u₀ v₀) (hsmall : Builtin.Range.small a₀ b₀ 1 = true) (hn : Builtin.Range.rangeSize a₀ b₀ 1 = (n : Int)) (F : Fr h₀ env.locals s.heap m₀) (N : News h₀ env.locals s.heap news)
    (hy : m₀ y1 = some v0) (h0 : ∀ v, ¬ Inv 0 v) (hi : Inv n v0)
    (turn : ∀ I k v j t u2 u3 it h tk, (∀ p ∈ news, p.1 < I) → Inv (k + 1) v → Fr h₀ env.locals h (fun y => if y = x then some (.int j t) else if y = y1 then some v else if y = y2 then u2 else if y = y3 then u3 else m₀ y) → News h₀ env.locals h ((I, it) :: news) →
      wpAny (model prog w) A (execs body env) (UnrPost h₀ env.locals { s with heap := h, toks := tk } I it (fun m' n' => (∀ z, z ≠ x → z ≠ y1 → z ≠ y2 → z ≠ y3 → m' z = m₀ z) ∧ (∃ v', m' y1 = some v' ∧ Inv k v') ∧ ∀ p ∈ news, p ∈ n') Q) E { s with heap := h, toks := tk }) :
    wpAny (model prog w) A (pyIter (.ref r)) (fun it s₂ => LoopAtV prog w A h₀ env x body Q E it s₂) E s :=
  iter_rangeUnr hh hr hsmall hn F N fun I hI => rangeRest_inv (x := x) (y1 := y1) (y2 := y2) (y3 := y3) (m₀ := m₀) Inv h0 (fun k v j t u2 u3 it h tk => turn I k v j t u2 u3 it h tk hI) n 0 m₀ news ⟨v0, hy, hi⟩ (fun _ _ _ _ _ => rfl) fun _ h => h
end
/-- a shelf in the ledger -/
inductive ShelfAt (w : World) (news : List (Addr × Obj)) (S T : Addr) : Prop
  | mk (dS) (R) (k1) (k2) (n) (h0 : (S, instObj 363 dS) ∈ news) (h1 : (dS, dictOf (shelfD w k1 k2 T R) n) ∈ news) (h2 : (T == sysModules) = false) : ShelfAt w news S T
theorem ShelfAt.mono {w : World} {news news' : List (Addr × Obj)} {S T : Addr} (h : ShelfAt w news S T) (hs : ∀ p ∈ news, p ∈ news') : ShelfAt w news' S T := by
  obtain ⟨dS, R, k1, k2, n, a, b, c⟩ := h
  exact ⟨dS, R, k1, k2, n, hs _ a, hs _ b, c⟩
/-- one step of a fetch: a reference, its row, what the row holds -/
inductive Hop (w : World) (news : List (Addr × Obj)) (tab : List Value) (v v' : Value) : Prop
  | mk (x) (dx) (t) (k) (a) (b) (c) (d) (e) (m) (n) (h0 : v = .ref x) (h1 : (x, instObj 254 dx) ∈ news) (h2 : (dx, dictOf (refD w a b (.int k c) (.int 0 d)) m) ∈ news) (h3 : 1 ≤ k) (h4 : tab[(k - 1).toNat]? = some (.ref t)) (h5 : (t, tupOf #[.int 0 e, v'] n) ∈ news) : Hop w news tab v v'
def Res (w : World) (news : List (Addr × Obj)) (tab : List Value) : Nat → Value → Value → Prop
  | 0, v, u => v = u
  | h + 1, v, u => ∃ v', Hop w news tab v v' ∧ Res w news tab h v' u
theorem get_pre {tab more : List Value} {i : Nat} {v : Value} (h : tab[i]? = some v) : (tab ++ more)[i]? = some v := by
  have hi : i < tab.length := by
    rcases Nat.lt_or_ge i tab.length with x | x
    · exact x
    · rw [List.getElem?_eq_none x] at h; cases h
  rw [List.getElem?_append_left hi, h]
theorem Hop.mono {w : World} {news news' : List (Addr × Obj)} {tab more : List Value} {v v' : Value} (h : Hop w news tab v v') (hs : ∀ p ∈ news, p ∈ news') : Hop w news' (tab ++ more) v v' := by
  obtain ⟨x, dx, t, k, a, b, c, d, e, m, n, h1, h2, h3, h4, h5, h6⟩ := h
  exact ⟨x, dx, t, k, a, b, c, d, e, m, n, h1, hs _ h2, hs _ h3, h4, get_pre h5, hs _ h6⟩
theorem Res.mono {w : World} {news news' : List (Addr × Obj)} {tab more : List Value} (hs : ∀ p ∈ news, p ∈ news') : ∀ {h : Nat} {v u : Value}, Res w news tab h v u → Res w news' (tab ++ more) h v u
  | 0, _, _, e => e
  | _ + 1, _, _, ⟨v', a, b⟩ => ⟨v', a.mono hs, Res.mono hs b⟩
/-- a reference to no row -/
inductive Lost (w : World) (news : List (Addr × Obj)) (tab : List Value) (v : Value) : Prop
  | mk (x) (dx) (k) (a) (b) (c) (d) (m) (h0 : v = .ref x) (h1 : (x, instObj 254 dx) ∈ news) (h2 : (dx, dictOf (refD w a b (.int k c) (.int 0 d)) m) ∈ news) (h3 : (tab.length : Int) < k) : Lost w news tab v
/-- where a fetch ends, and with what -/
def Ends (w : World) (news : List (Addr × Obj)) (tab : List Value) (v u : Value) : Prop := (v = u ∧ IsNot w news v (.ref 254)) ∨ (u = .none ∧ Lost w news tab v)
inductive FInv (w : World) (news : List (Addr × Obj)) (tab : List Value) (u : Value) (k : Nat) (v : Value) : Prop
  | mk (h) (v') (h0 : h < k) (h1 : Res w news tab h v v') (h2 : Ends w news tab v' u) : FInv w news tab u k v
theorem off_top {D I : Addr} {oD : Obj} {l : List (Addr × Obj)} (h : @LT.lt Nat _ I D) (k : ∀ p ∈ l, p.1 < I) : ∀ p ∈ (D, oD) :: l, p.1 ≠ I := fun p hp => by
  rcases List.mem_cons.mp hp with rfl | hp
  · exact Nat.ne_of_gt h
  · exact Nat.ne_of_lt (k p hp)
theorem FInv.not {w : World} {news : List (Addr × Obj)} {tab : List Value} {u v : Value} : ¬ FInv w news tab u 0 v := by
  rintro ⟨_, _, h, _⟩
  exact Nat.not_lt_zero _ h
section
local macro_rules | `(tactic| kit_dict) => `(tactic| (refine' kitAt_N ?N ?m ?c; (case N => k_asm); (case m => k_mem); (case c => first | assumption | exact rfl)))
set_option maxRecDepth 100000 in
set_option maxHeartbeats 8000000 in
theorem fetch_any (w : World) (S Tb dS R : Addr) (k1 k2 : Tok) (n : Nat) (oT : Obj) (vs : List Value) (v u : Value) (rest : List (Addr × Obj)) (lT : (Tb == sysModules) = false) (hT : TabIs w oT vs)
   (hS : (S, instObj 363 dS) ∈ rest) (hd : (dS, dictOf (shelfD w k1 k2 Tb R) n) ∈ rest) (hv : FInv w rest vs u 30 v) :
   Spec w 299 1 [.ref S, v] ((Tb, oT) :: rest) (fun r news' => r = u ∧ news' = (Tb, oT) :: rest) := by
  unfold Spec
  k_fill
  intro dp un gd cn cs a ccd cl outer A₀ base h₀ L m s loose mean mg mb Q E B F X N T hk hd hu hret
  refine wpAny_call ?_
  k_dflt ktr_enter
  repeat' (first | (k_unfold; (try dsimp only)) | ((with_reducible show UnrEnd _ _ _ _ _ _ _); first | with_reducible (k_here; refine Stop.out ?_)) | ((with_reducible show wpAny _ _ (getMethod (Value.ref _) _ _) _ _ _); first | with_reducible (k_here; (with_reducible show wpAny _ _ (getMethod (Value.ref _) (Str.ofString "get") _) _ _ _); k_dflt (refine' tab_getm (by k_asm) (by k_mem) (by assumption) ?_))) | ((with_reducible show wpAny _ _ (call (Value.builtin "dict.get") _) _ _ _); first | with_reducible (k_here; k_dflt (first | (refine' tab_get2 (by k_asm) (by k_mem) (by assumption) (by assumption) (by assumption) (by assumption) ?_) | (refine' tab_get0 (by k_asm) (by k_mem) (by assumption) (by assumption) (by assumption) ?_)))) | ((with_reducible show wpAny _ _ (call (Value.builtin "isinstance") _) _ _ _); first | with_reducible (k_here; first | ((with_reducible show wpAny _ _ (call _ [Value.ref _, Value.ref _]) _ _ _); k_dflt (refine' isi_call (by k_in) (by k_types) (by k_is) (by intro e; cases e) ?_; k_whole)) | (k_dflt (refine' IsNot.use (by k_in) (by k_asm) (by assumption) (by ktd_sub) ?_); intro tk9))) | ((with_reducible show wpAny _ _ (pyIter (Value.ref _)) _ _ _); first | with_reducible (k_here; (with_reducible show wpAny _ _ (pyIter (Value.ref _)) (fun it s₂ => LoopAtV _ _ _ _ _ _ _ _ _ it s₂) _ _); refine Stop.out ?_) | (k_here; (with_reducible show wpAny _ _ (pyIter (Value.ref _)) (fun it s₂ => LoopAtV _ _ _ _ _ _ _ _ _ it s₂) _ _); refine Stop.out ?_)) | ((with_reducible show wpAny _ _ (execs (Stmt.Assign _ _ _ :: _ :: _) _) _ _ _); first | with_reducible (k_here; (with_reducible refine wpAny_execs_cons ?_); try dsimp only)) | ((with_reducible show RangeRest _ _ _ _ _ _ _ _ _ _ _ _ _ _ _ _ _); first | with_reducible (k_here; first | ((with_reducible refine RangeRest.succ ?_); intro t' h' tk' F' N') | ((with_reducible refine RangeRest.zero ?_); intro h' tk' F' N'))) | (k_end; kc_close) | walk1 | (dsimp only; walk1) | (leave1; (try dsimp only)))
  unfold Stop
  refine iter_range_inv (Str.ofString "here") (Str.ofString "generation") (Str.ofString "found") (n := 30) (FInv w rest vs u) (by rfl) (by assumption) (by decide) (by rfl) (by k_asm) (by k_asm) rfl (fun _ => FInv.not) hv ?_
  intro I k v' j t u2 u3 it h tk hI hv' F8 N8
  obtain ⟨hh, v9, hk, hr, he⟩ := hv'
  have hTI : @Ne Nat Tb I := Nat.ne_of_lt (hI _ (.head _))
  have hrI : ∀ p ∈ rest, p.1 ≠ I := fun p hp => Nat.ne_of_lt (hI p (.tail _ hp))
  cases hh with
  | zero =>
    obtain rfl : v' = v9 := hr
    rcases he with ⟨rfl, he⟩ | ⟨rfl, x, dx, k0, a, b, c, d, m, rfl, h1, h2, h3⟩
    · repeat' (first | (k_unfold; (try dsimp only)) | ((with_reducible show UnrEnd _ _ _ _ _ _ _); first | with_reducible (k_here; refine Stop.out ?_)) | ((with_reducible show wpAny _ _ (getMethod (Value.ref _) _ _) _ _ _); first | with_reducible (k_here; (with_reducible show wpAny _ _ (getMethod (Value.ref _) (Str.ofString "get") _) _ _ _); k_dflt (refine' tab_getm (by k_asm) (by k_mem) (by assumption) ?_))) | ((with_reducible show wpAny _ _ (call (Value.builtin "dict.get") _) _ _ _); first | with_reducible (k_here; k_dflt (first | (refine' tab_get2 (by k_asm) (by k_mem) (by assumption) (by assumption) (by assumption) (by assumption) ?_) | (refine' tab_get0 (by k_asm) (by k_mem) (by assumption) (by assumption) (by assumption) ?_)))) | ((with_reducible show wpAny _ _ (call (Value.builtin "isinstance") _) _ _ _); first | with_reducible (k_here; first | ((with_reducible show wpAny _ _ (call _ [Value.ref _, Value.ref _]) _ _ _); k_dflt (refine' isi_call (by k_in) (by k_types) (by k_is) (by intro e; cases e) ?_; k_whole)) | (k_dflt (refine' IsNot.use (by k_in) (by k_asm) (by assumption) (by ktd_sub) ?_); intro tk9))) | ((with_reducible show wpAny _ _ (pyIter (Value.ref _)) _ _ _); first | with_reducible (k_here; (with_reducible show wpAny _ _ (pyIter (Value.ref _)) (fun it s₂ => LoopAtV _ _ _ _ _ _ _ _ _ it s₂) _ _); refine Stop.out ?_) | (k_here; (with_reducible show wpAny _ _ (pyIter (Value.ref _)) (fun it s₂ => LoopAtV _ _ _ _ _ _ _ _ _ it s₂) _ _); refine Stop.out ?_)) | ((with_reducible show wpAny _ _ (execs (Stmt.Assign _ _ _ :: _ :: _) _) _ _ _); first | with_reducible (k_here; (with_reducible refine wpAny_execs_cons ?_); try dsimp only)) | ((with_reducible show RangeRest _ _ _ _ _ _ _ _ _ _ _ _ _ _ _ _ _); first | with_reducible (k_here; first | ((with_reducible refine RangeRest.succ ?_); intro t' h' tk' F' N') | ((with_reducible refine RangeRest.zero ?_); intro h' tk' F' N'))) | (k_end; kc_close) | walk1 | (dsimp only; walk1) | (leave1; (try dsimp only)))
      exact hret _ _ _ _ (by k_asm) (News.of_sub (by k_asm) (by ktd_sub)) ⟨rfl, rfl⟩
    · repeat' (first | (k_unfold; (try dsimp only)) | ((with_reducible show UnrEnd _ _ _ _ _ _ _); first | with_reducible (k_here; refine Stop.out ?_)) | ((with_reducible show wpAny _ _ (getMethod (Value.ref _) _ _) _ _ _); first | with_reducible (k_here; (with_reducible show wpAny _ _ (getMethod (Value.ref _) (Str.ofString "get") _) _ _ _); k_dflt (refine' tab_getm (by k_asm) (by k_mem) (by assumption) ?_))) | ((with_reducible show wpAny _ _ (call (Value.builtin "dict.get") _) _ _ _); first | with_reducible (k_here; k_dflt (first | (refine' tab_get2 (by k_asm) (by k_mem) (by assumption) (by assumption) (by assumption) (by assumption) ?_) | (refine' tab_get0 (by k_asm) (by k_mem) (by assumption) (by assumption) (by assumption) ?_)))) | ((with_reducible show wpAny _ _ (call (Value.builtin "isinstance") _) _ _ _); first | with_reducible (k_here; first | ((with_reducible show wpAny _ _ (call _ [Value.ref _, Value.ref _]) _ _ _); k_dflt (refine' isi_call (by k_in) (by k_types) (by k_is) (by intro e; cases e) ?_; k_whole)) | (k_dflt (refine' IsNot.use (by k_in) (by k_asm) (by assumption) (by ktd_sub) ?_); intro tk9))) | ((with_reducible show wpAny _ _ (pyIter (Value.ref _)) _ _ _); first | with_reducible (k_here; (with_reducible show wpAny _ _ (pyIter (Value.ref _)) (fun it s₂ => LoopAtV _ _ _ _ _ _ _ _ _ it s₂) _ _); refine Stop.out ?_) | (k_here; (with_reducible show wpAny _ _ (pyIter (Value.ref _)) (fun it s₂ => LoopAtV _ _ _ _ _ _ _ _ _ it s₂) _ _); refine Stop.out ?_)) | ((with_reducible show wpAny _ _ (execs (Stmt.Assign _ _ _ :: _ :: _) _) _ _ _); first | with_reducible (k_here; (with_reducible refine wpAny_execs_cons ?_); try dsimp only)) | ((with_reducible show RangeRest _ _ _ _ _ _ _ _ _ _ _ _ _ _ _ _ _); first | with_reducible (k_here; first | ((with_reducible refine RangeRest.succ ?_); intro t' h' tk' F' N') | ((with_reducible refine RangeRest.zero ?_); intro h' tk' F' N'))) | (k_end; kc_close) | walk1 | (dsimp only; walk1) | (leave1; (try dsimp only)))
      exact hret _ _ _ _ (by k_asm) (News.of_sub (by k_asm) (by ktd_sub)) ⟨rfl, rfl⟩
  | succ hh =>
    obtain ⟨v2, ⟨x, dx, t, k0, a, b, c, d, e, m, n, rfl, h1, h2, h3, h4, h5⟩, hr⟩ := hr
    repeat' (first | (k_unfold; (try dsimp only)) | ((with_reducible show UnrEnd _ _ _ _ _ _ _); first | with_reducible (k_here; refine Stop.out ?_)) | ((with_reducible show wpAny _ _ (getMethod (Value.ref _) _ _) _ _ _); first | with_reducible (k_here; (with_reducible show wpAny _ _ (getMethod (Value.ref _) (Str.ofString "get") _) _ _ _); k_dflt (refine' tab_getm (by k_asm) (by k_mem) (by assumption) ?_))) | ((with_reducible show wpAny _ _ (call (Value.builtin "dict.get") _) _ _ _); first | with_reducible (k_here; k_dflt (first | (refine' tab_get2 (by k_asm) (by k_mem) (by assumption) (by assumption) (by assumption) (by assumption) ?_) | (refine' tab_get0 (by k_asm) (by k_mem) (by assumption) (by assumption) (by assumption) ?_)))) | ((with_reducible show wpAny _ _ (call (Value.builtin "isinstance") _) _ _ _); first | with_reducible (k_here; first | ((with_reducible show wpAny _ _ (call _ [Value.ref _, Value.ref _]) _ _ _); k_dflt (refine' isi_call (by k_in) (by k_types) (by k_is) (by intro e; cases e) ?_; k_whole)) | (k_dflt (refine' IsNot.use (by k_in) (by k_asm) (by assumption) (by ktd_sub) ?_); intro tk9))) | ((with_reducible show wpAny _ _ (pyIter (Value.ref _)) _ _ _); first | with_reducible (k_here; (with_reducible show wpAny _ _ (pyIter (Value.ref _)) (fun it s₂ => LoopAtV _ _ _ _ _ _ _ _ _ it s₂) _ _); refine Stop.out ?_) | (k_here; (with_reducible show wpAny _ _ (pyIter (Value.ref _)) (fun it s₂ => LoopAtV _ _ _ _ _ _ _ _ _ it s₂) _ _); refine Stop.out ?_)) | ((with_reducible show wpAny _ _ (execs (Stmt.Assign _ _ _ :: _ :: _) _) _ _ _); first | with_reducible (k_here; (with_reducible refine wpAny_execs_cons ?_); try dsimp only)) | ((with_reducible show RangeRest _ _ _ _ _ _ _ _ _ _ _ _ _ _ _ _ _); first | with_reducible (k_here; first | ((with_reducible refine RangeRest.succ ?_); intro t' h' tk' F' N') | ((with_reducible refine RangeRest.zero ?_); intro h' tk' F' N'))) | (k_end; kc_close) | walk1 | (dsimp only; walk1) | (leave1; (try dsimp only)))
    unfold Stop
    exact unrEnd_pick (by k_asm) (by k_asm) (Pick.tail Pick.head) (off_top (And.left (by assumption)) hI) ⟨fun z hx h1 h2 h3 => (if_neg h1).trans ((if_neg h3).trans ((if_neg h2).trans ((if_neg hx).trans ((if_neg h1).trans ((if_neg h2).trans (if_neg h3)))))), ⟨_, rfl, hh, v9, Nat.lt_of_succ_lt_succ hk, hr, he⟩, fun p hp => .tail _ hp⟩
end
end
section
theorem walk_plain_FetchB : True := by
  w_top off
  trivial
theorem get_kids {w : World} {A : Around} {E : Value → Shared → Prop} {s : Shared} {h₀ : Heap} {L d : Addr} {news : List (Addr × Obj)} {o : Obj} {kvs : List (Str × Value)} {k : Str} {tk : Tok} {v : Value} {Q : Value → Shared → Prop} (N : News h₀ L s.heap news) (hp : (d, o) ∈ news) (hd : o.IsDictOf (PySem.strKind PySem.Challenge.rw_og0169_01.row.prog w) kvs) (lo : (d == sysModules) = false)
    (hv : valueAt kvs k = some v) (h : Q v { s with toks := s.toks + 1 }) : wpAny (model PySem.Challenge.rw_og0169_01.row.prog w) A (call (.builtin "dict.get") [.ref d, .str k tk]) Q E s :=
  kdg_get1 (knd := PySem.strKind _ _) N hp hd lo (strKind_is _ _ k tk) (some v) hv h
theorem get_kidsm {w : World} {A : Around} {E : Value → Shared → Prop} {s : Shared} {h₀ : Heap} {L d : Addr} {news : List (Addr × Obj)} {o : Obj} {kvs : List (Str × Value)} {pl : Sem Bool} {Q : Value × List Value → Shared → Prop} (N : News h₀ L s.heap news) (hp : (d, o) ∈ news) (hd : o.IsDictOf (PySem.strKind PySem.Challenge.rw_og0169_01.row.prog w) kvs)
    (h : Q (.builtin "dict.get", [.ref d]) s) : wpAny (model PySem.Challenge.rw_og0169_01.row.prog w) A (getMethod (.ref d) "get" pl) Q E s := kdg_method (knd := PySem.strKind _ _) N hp hd h
section
local macro_rules | `(tactic| kit_dict) => `(tactic| (refine' kitAt_N ?N ?m ?c; (case N => k_asm); (case m => k_mem); (case c => first | assumption | exact rfl)))
theorem isNot_dict {w : World} {news : List (Addr × Obj)} {u : Addr} {ou : Obj} (hu : (u, ou) ∈ news) (hc : ou.cls = .type "dict") : IsNot w news (.ref u) (.ref 254) := by
  unfold IsNot
  k_fill
  intro A E s h₀ L Q X N q
  walk1
  exact q _
theorem isNot_list {w : World} {news : List (Addr × Obj)} {u : Addr} {ou : Obj} (hu : (u, ou) ∈ news) (hc : ou.cls = .type "list") : IsNot w news (.ref u) (.ref 254) := by
  unfold IsNot
  k_fill
  intro A E s h₀ L Q X N q
  walk1
  exact q _
/-- the law's odd values -/
def PlainV (v : Value) : Prop := v = .none ∨ (∃ i t, v = .int i t) ∨ ∃ x t, v = .str x t
theorem PlainV.isNot {w : World} {news : List (Addr × Obj)} {v : Value} (h : PlainV v) : IsNot w news v (.ref 254) ∧ IsNot w news v (.type "dict") := by
  rcases h with rfl | ⟨i, t, rfl⟩ | ⟨x, t, rfl⟩
  all_goals (constructor <;> (unfold IsNot; k_fill; intro A E s h₀ L Q X N q; walk1; exact q _))
theorem fetch_res (w : World) (S T u : Addr) (ou oT : Obj) (vs : List Value) (rest : List (Addr × Obj)) (hS : ShelfAt w rest S T) (hT : TabIs w oT vs) (hu : (u, ou) ∈ rest) (hc : ou.cls = .type "dict") 
    (h : Nat) (v : Value) (hh : h ≤ 4) (hr : Res w rest vs h v (.ref u)) : Spec w 299 1 [.ref S, v] ((T, oT) :: rest) (fun r news' => r = .ref u ∧ news' = (T, oT) :: rest) := by
  obtain ⟨dS, R, k1, k2, n, a, b, c⟩ := hS
  exact fetch_any w S T dS R k1 k2 n oT vs v (.ref u) rest c hT a b ⟨h, _, Nat.lt_of_le_of_lt hh (by decide), hr, .inl ⟨rfl, isNot_dict hu hc⟩⟩
theorem fetch_l0 (w : World) (S T dS R : Addr) (k1 k2 : Tok) (n : Nat) (oT : Obj) (vs : List Value) (rest : List (Addr × Obj)) (lT : (T == sysModules) = false) (hT : TabIs w oT vs)
   (hS : (S, instObj 363 dS) ∈ rest) (hd : (dS, dictOf (shelfD w k1 k2 T R) n) ∈ rest) (u : Addr) (ou : Obj) (hu : (u, ou) ∈ rest) (hc : ou.cls = .type "list") :
   Spec w 299 1 [.ref S, .ref u] ((T, oT) :: rest) (fun r news' => r = .ref u ∧ news' = (T, oT) :: rest) :=
  fetch_any w S T dS R k1 k2 n oT vs (.ref u) (.ref u) rest lT hT hS hd ⟨0, _, by decide, rfl, .inl ⟨rfl, isNot_list hu hc⟩⟩
set_option maxRecDepth 100000 in
set_option maxHeartbeats 8000000 in
theorem node_of (w : World) (S u : Addr) (ou : Obj) (v : Value) (news : List (Addr × Obj)) (hu : (u, ou) ∈ news) (hc : ou.cls = .type "dict") (C : Spec w 299 1 [.ref S, v] news (fun r news' => r = .ref u ∧ news' = news))
   (dS : Addr) (hS : (S, instObj 363 dS) ∈ news) (T R : Addr) (k1 k2 : Tok) (n2 : Nat) (hd : (dS, dictOf (shelfD w k1 k2 T R) n2) ∈ news) :
   Spec w 372 2 [.ref S, v] news (fun r news' => r = .ref u ∧ news' = news) := by
  unfold Spec
  k_fill
  intro dp un gd cn cs a ccd cl outer A₀ base h₀ L m s loose mean mg mb Q E B F X N T hk hd hu hret
  refine wpAny_call ?_
  k_dflt ktr_enter
  repeat' (first | (k_unfold; (try dsimp only)) | ((with_reducible show wpAny _ _ (call (Value.ref _) _) _ _ _); first | with_reducible (k_here; k_dflt ( refine' spec_use (f := 299) (by k_asm) (by k_asm) (by k_asm) (by k_asm) (by k_asm) (by first | exact rfl | assumption) (by assumption) (by ktr_room) (by ktr_units) (ret_same ?_); (intro h9 tk9 F9 N9; (try k_sweep); (try dsimp only); (try k_fold))))) | ((with_reducible show wpAny _ _ (execs (Stmt.Assign _ _ _ :: _ :: _) _) _ _ _); first | with_reducible (k_here; (with_reducible refine wpAny_execs_cons ?_); try dsimp only)) | ((with_reducible show RangeRest _ _ _ _ _ _ _ _ _ _ _ _ _ _ _ _ _); first | with_reducible (k_here; first | ((with_reducible refine RangeRest.succ ?_); intro t' h' tk' F' N') | ((with_reducible refine RangeRest.zero ?_); intro h' tk' F' N'))) | (k_end; kc_close) | walk1 | (dsimp only; walk1) | (leave1; (try dsimp only)))
  exact hret _ _ _ _ (by k_asm) (News.of_sub (by k_asm) (by ktd_sub)) ⟨rfl, rfl⟩
set_option maxRecDepth 100000 in
set_option maxHeartbeats 8000000 in
theorem row_of (w : World) (S D b : Addr) (oD : Obj) (us : List Value) (n : Nat) (kvs : List (Str × Value)) (tk : Tok) (news : List (Addr × Obj)) (hD : (D, oD) ∈ news) (lo : (D == sysModules) = false) (hc : oD.IsDictOf (PySem.strKind PySem.Challenge.rw_og0169_01.row.prog w) kvs)
   (hv : valueAt kvs (Str.ofString "Kids") = some (.ref b)) (hb : (b, listOf us.toArray n) ∈ news) (C : Spec w 299 1 [.ref S, .ref b] news (fun r news' => r = .ref b ∧ news' = news))
   (dS : Addr) (hS : (S, instObj 363 dS) ∈ news) (T R : Addr) (k1 k2 : Tok) (n2 : Nat) (hd : (dS, dictOf (shelfD w k1 k2 T R) n2) ∈ news) :
   Spec w 379 3 [.ref S, .ref D, .str (Str.ofString "Kids") tk] news (fun r news' => r = .ref b ∧ news' = news) := by
  unfold Spec
  k_fill
  intro dp un gd cn cs a ccd cl outer A₀ base h₀ L m s loose mean mg mb Q E B F X N T hk hd hu hret
  refine wpAny_call ?_
  k_dflt ktr_enter
  repeat' (first | (k_unfold; (try dsimp only)) | ((with_reducible show wpAny _ _ (call (Value.ref _) _) _ _ _); first | with_reducible (k_here; k_dflt ( refine' spec_use (f := 299) (by k_asm) (by k_asm) (by k_asm) (by k_asm) (by k_asm) (by first | exact rfl | assumption) (by assumption) (by ktr_room) (by ktr_units) (ret_same ?_); (intro h9 tk9 F9 N9; (try k_sweep); (try dsimp only); (try k_fold)))) | with_reducible (k_here; k_dflt ( refine' spec_use (f := 299) (by k_asm) (by k_asm) (by k_asm) (by k_asm) (by k_asm) (by first | exact rfl | assumption) (by assumption) (by ktr_room) (by ktr_units) (ret_same ?_); (intro h9 tk9 F9 N9; (try k_sweep); (try dsimp only); (try k_fold))))) | ((with_reducible show wpAny _ _ (call (Value.builtin "dict.get") _) _ _ _); first | with_reducible (k_here; k_dflt (refine' get_kids (by k_asm) (by k_mem) (by assumption) (by assumption) (by assumption) ?_))) | ((with_reducible show wpAny _ _ (getMethod (Value.ref _) _ _) _ _ _); first | with_reducible (k_here; (with_reducible show wpAny _ _ (getMethod (Value.ref _) (Str.ofString "get") _) _ _ _); k_dflt (refine' get_kidsm (by k_asm) (by k_mem) (by assumption) ?_))) | ((with_reducible show wpAny _ _ (execs (Stmt.Assign _ _ _ :: _ :: _) _) _ _ _); first | with_reducible (k_here; (with_reducible refine wpAny_execs_cons ?_); try dsimp only)) | ((with_reducible show RangeRest _ _ _ _ _ _ _ _ _ _ _ _ _ _ _ _ _); first | with_reducible (k_here; first | ((with_reducible refine RangeRest.succ ?_); intro t' h' tk' F' N') | ((with_reducible refine RangeRest.zero ?_); intro h' tk' F' N'))) | (k_end; kc_close) | walk1 | (dsimp only; walk1) | (leave1; (try dsimp only)))
  exact hret _ _ _ _ (by k_asm) (News.of_sub (by k_asm) (by ktd_sub)) ⟨rfl, rfl⟩
end
end
section
local macro_rules | `(tactic| walk_at "an idle line 0") => `(tactic| fail "idle")
theorem walk_plain_Longer : True := by
  w_top off
  trivial
inductive LongPost (ps : List Value) (i : Int) (r : Value) (tl : List (Addr × Obj)) : Prop
  | mk (t) (p) (n) (h0 : r = .ref t) (h1 : (t, tupOf (ps ++ [p]).toArray n) ∈ tl) (h2 : PlaceIs tl p i) : LongPost ps i r tl
theorem ret_long {h₀ : Heap} {L : Addr} {m : Str → Option Value} {s : Shared} {Q : Value → Shared → Prop} {pre : List (Addr × Obj)} {ps : List Value} {i : Int} (k : ∀ t p n tl h' tk', Fr h₀ L h' m → News h₀ L h' (pre ++ tl) → Up pre tl → (t, tupOf (ps ++ [p]).toArray n) ∈ tl → PlaceIs tl p i → Q (.ref t) { s with heap := h', toks := tk' }) :
    ∀ r n' h' tk', Fr h₀ L h' m → News h₀ L h' n' → Made pre (LongPost ps i) r n' → Q r { s with heap := h', toks := tk' } := by
  rintro r n' h' tk' F N ⟨tl, rfl, U, t, p, n, rfl, a1, a2⟩
  exact k t p n tl h' tk' F N U a1 a2
theorem len_tup {prog : Program} {w : World} {A : Around} {E : Value → Shared → Prop} {s : Shared} {h₀ : Heap} {L t : Addr} {news : List (Addr × Obj)} {vs : List Value} {n : Nat} {Q : Value → Shared → Prop} (N : News h₀ L s.heap news) (hm : (t, tupOf vs.toArray n) ∈ news) (hz : vs.length ≤ 1000)
    (h : Q (.int vs.length (s.toks + 1)) { s with toks := s.toks + 1 + 1 }) : wpAny (model prog w) A (call (.builtin "len") [.ref t]) Q E s := by
  have ht : IsTup s.heap t vs.toArray := ⟨_, (N _ hm).1, rfl, n, rfl⟩
  exact len_tuple ht (by simp; omega) (by simpa using h)
section
variable {prog : Program} {w : World} {A : Around} {E : Value → Shared → Prop} {s : Shared} {h₀ : Heap} {L : Addr} {m : Str → Option Value} {news news0 : List (Addr × Obj)} {Q : Value → Shared → Prop}
theorem in_way' {t p : Addr} {vs : List Value} {n n' : Nat} {x y : Int} {tx ty : Tok} (N : News h₀ L s.heap news) (ht : (t, tupOf vs.toArray n) ∈ news) (hp : (p, tupOf #[.int x tx, .int y ty] n') ∈ news)
    (hne : ∀ v ∈ vs, ∃ i, PlaceIs news0 v i ∧ i ≠ x) (hs : ∀ p ∈ news0, p ∈ news) (hu : A.units + 1 < cLine) (h : Q (.bool false) s) : wpAny (model prog w) A (compareOp .In (.ref p) (.ref t)) Q E s :=
  in_way N ht hp (fun v hv => let ⟨i, a, b⟩ := hne v hv; ⟨i, a.mono hs, b⟩) hu h
end
section
local macro_rules | `(tactic| kit_dict) => `(tactic| (refine' kitAt_N ?N ?m ?c; (case N => k_asm); (case m => k_mem); (case c => first | assumption | exact rfl)))
section
set_option maxRecDepth 100000 in
set_option maxHeartbeats 8000000 in
theorem longer_r0 (w : World) (x dx : Addr) (k : Int) (a b c d : Tok) (m : Nat) (news : List (Addr × Obj)) (hx : (x, instObj 254 dx) ∈ news) (hd : (dx, dictOf (refD w a b (.int k c) (.int 0 d)) m) ∈ news) :
   Spec w 386 1 [.ref 392, .ref x] news (Made news (LongPost [] k)) := by
  unfold Spec
  k_fill
  intro dp un gd cn cs a ccd cl outer A₀ base h₀ L m s loose mean mg mb Q E B F X N T hk hd hu hret
  refine wpAny_call ?_
  k_dflt ktr_enter
  repeat' (first | (k_unfold; (try dsimp only)) | ((with_reducible show wpAny _ _ (binaryOp Operator.Add (Value.ref _) (Value.ref _)) _ _ _); first | with_reducible (k_here; k_dflt (refine' addTup0 (by k_asm) (by k_asm) (by k_asm) (by exact rfl) (by k_mem) (by exact Nat.le_of_ble_eq_true rfl) ?_)) | (k_here; k_dflt (refine' addTup0 (by k_asm) (by k_asm) (by k_asm) (by exact rfl) (by k_mem) (by exact Nat.le_of_ble_eq_true rfl) ?_))) | ((with_reducible show wpAny _ _ (compareOp CmpOp.In (Value.ref _) (Value.ref _)) _ _ _); first | with_reducible (k_here; k_dflt (refine' in_way0 (by k_asm) (by k_asm) (by exact rfl) ?_))) | ((with_reducible show wpAny _ _ (call (Value.builtin "isinstance") _) _ _ _); first | with_reducible (k_here; (with_reducible show wpAny _ _ (call _ [Value.ref _, Value.ref _]) _ _ _); k_dflt (refine' isi_call (by k_in) (by k_types) (by k_is) (by intro e; cases e) ?_; k_whole))) | ((with_reducible show wpAny _ _ (execs (Stmt.Assign _ _ _ :: _ :: _) _) _ _ _); first | with_reducible (k_here; (with_reducible refine wpAny_execs_cons ?_); try dsimp only)) | ((with_reducible show RangeRest _ _ _ _ _ _ _ _ _ _ _ _ _ _ _ _ _); first | with_reducible (k_here; first | ((with_reducible refine RangeRest.succ ?_); intro t' h' tk' F' N') | ((with_reducible refine RangeRest.zero ?_); intro h' tk' F' N'))) | (k_end; kc_close) | walk1 | (dsimp only; walk1) | (leave1; (try dsimp only)))
  refine finish hret (by k_asm) (by k_asm) (by ktd_sub) fun tl U keep => ?_
  exact ⟨_, _, _, rfl, keep _ (.head _) (by ktn_ord), _, _, _, _, _, rfl, keep _ (.tail _ (.head _)) (by ktn_ord)⟩
set_option maxRecDepth 100000 in
set_option maxHeartbeats 8000000 in
theorem longer_d0 (w : World) (x : Addr) (o : Obj) (news : List (Addr × Obj)) (hx : (x, o) ∈ news) (hc : o.cls = .type "dict") :
   Spec w 386 1 [.ref 392, .ref x] news (Made news (LongPost [] (-1))) := by
  unfold Spec
  k_fill
  intro dp un gd cn cs a ccd cl outer A₀ base h₀ L m s loose mean mg mb Q E B F X N T hk hd hu hret
  refine wpAny_call ?_
  k_dflt ktr_enter
  repeat' (first | (k_unfold; (try dsimp only)) | ((with_reducible show wpAny _ _ (binaryOp Operator.Add (Value.ref _) (Value.ref _)) _ _ _); first | with_reducible (k_here; k_dflt (refine' addTup0 (by k_asm) (by k_asm) (by k_asm) (by exact rfl) (by k_mem) (by exact Nat.le_of_ble_eq_true rfl) ?_)) | (k_here; k_dflt (refine' addTup0 (by k_asm) (by k_asm) (by k_asm) (by exact rfl) (by k_mem) (by exact Nat.le_of_ble_eq_true rfl) ?_))) | ((with_reducible show wpAny _ _ (compareOp CmpOp.In (Value.ref _) (Value.ref _)) _ _ _); first | with_reducible (k_here; k_dflt (refine' in_way0 (by k_asm) (by k_asm) (by exact rfl) ?_))) | ((with_reducible show wpAny _ _ (call (Value.builtin "isinstance") _) _ _ _); first | with_reducible (k_here; (with_reducible show wpAny _ _ (call _ [Value.ref _, Value.ref _]) _ _ _); k_dflt (refine' isi_call (by k_in) (by k_types) (by k_is) (by intro e; cases e) ?_; k_whole))) | ((with_reducible show wpAny _ _ (execs (Stmt.Assign _ _ _ :: _ :: _) _) _ _ _); first | with_reducible (k_here; (with_reducible refine wpAny_execs_cons ?_); try dsimp only)) | ((with_reducible show RangeRest _ _ _ _ _ _ _ _ _ _ _ _ _ _ _ _ _); first | with_reducible (k_here; first | ((with_reducible refine RangeRest.succ ?_); intro t' h' tk' F' N') | ((with_reducible refine RangeRest.zero ?_); intro h' tk' F' N'))) | (k_end; kc_close) | walk1 | (dsimp only; walk1) | (leave1; (try dsimp only)))
  refine finish hret (by k_asm) (by k_asm) (by ktd_sub) fun tl U keep => ?_
  exact ⟨_, _, _, rfl, keep _ (.head _) (by ktn_ord), _, _, _, _, _, rfl, keep _ (.tail _ (.head _)) (by ktn_ord)⟩
end
set_option maxRecDepth 100000 in
set_option maxHeartbeats 8000000 in
theorem longer_r1 (w : World) (t x dx : Addr) (ps : List Value) (n : Nat) (k : Int) (a b c d : Tok) (m : Nat) (news : List (Addr × Obj)) (ht : (t, tupOf ps.toArray n) ∈ news) (h0 : ps ≠ []) (hl : ps.length ≤ 40) (hne : ∀ v ∈ ps, ∃ i, PlaceIs news v i ∧ i ≠ k)
   (hx : (x, instObj 254 dx) ∈ news) (hd : (dx, dictOf (refD w a b (.int k c) (.int 0 d)) m) ∈ news) :
   Spec w 386 1 [.ref t, .ref x] news (Made news (LongPost ps k)) := by
  unfold Spec
  k_fill
  intro dp un gd cn cs a ccd cl outer A₀ base h₀ L m s loose mean mg mb Q E B F X N T hk hd hu hret
  refine wpAny_call ?_
  k_dflt ktr_enter
  repeat' (first | (k_unfold; (try dsimp only)) | ((with_reducible show wpAny _ _ (binaryOp Operator.Add (Value.ref _) (Value.ref _)) _ _ _); first | with_reducible (k_here; k_dflt (refine' addTup_N (by k_asm) (by k_asm) (by k_mem) (by exact List.Mem.head _) (by assumption) (by (simp only [List.length_cons, List.length_nil]; omega)) ?_ ?_); all_goals (intro z0'); all_goals (first | exact absurd z0' (List.cons_ne_nil _ _) | (intro D' h' F' N' l1))) | (k_here; k_dflt (refine' addTup_N (by k_asm) (by k_asm) (by k_mem) (by exact List.Mem.head _) (by assumption) (by (simp only [List.length_cons, List.length_nil]; omega)) ?_ ?_); all_goals (intro z0'); all_goals (first | exact absurd z0' (List.cons_ne_nil _ _) | (intro D' h' F' N' l1)))) | ((with_reducible show wpAny _ _ (call (Value.builtin "len") _) _ _ _); first | with_reducible (k_here; k_dflt (refine' len_tup (by k_asm) (by k_mem) (by omega) ?_))) | ((with_reducible show wpAny _ _ (compareOp CmpOp.In (Value.ref _) (Value.ref _)) _ _ _); first | with_reducible (k_here; k_dflt (refine' in_way' (by k_asm) (by k_mem) (by k_mem) (by assumption) (by ktd_sub) (by ktr_units) ?_))) | ((with_reducible show wpAny _ _ (call (Value.builtin "isinstance") _) _ _ _); first | with_reducible (k_here; (with_reducible show wpAny _ _ (call _ [Value.ref _, Value.ref _]) _ _ _); k_dflt (refine' isi_call (by k_in) (by k_types) (by k_is) (by intro e; cases e) ?_; k_whole))) | ((with_reducible show wpAny _ _ (execs (Stmt.Assign _ _ _ :: _ :: _) _) _ _ _); first | with_reducible (k_here; (with_reducible refine wpAny_execs_cons ?_); try dsimp only)) | ((with_reducible show RangeRest _ _ _ _ _ _ _ _ _ _ _ _ _ _ _ _ _); first | with_reducible (k_here; first | ((with_reducible refine RangeRest.succ ?_); intro t' h' tk' F' N') | ((with_reducible refine RangeRest.zero ?_); intro h' tk' F' N'))) | (k_end; kc_close) | walk1 | (dsimp only; walk1) | (leave1; (try dsimp only)))
  refine finish hret (by k_asm) (by k_asm) (by ktd_sub) fun tl U keep => ?_
  exact ⟨_, _, _, rfl, keep _ (.head _) (by ktn_ord), _, _, _, _, _, rfl, keep _ (.tail _ (.tail _ (.head _))) (by ktn_ord)⟩
set_option maxRecDepth 100000 in
set_option maxHeartbeats 8000000 in
theorem longer_d1 (w : World) (t x : Addr) (o : Obj) (ps : List Value) (n : Nat) (news : List (Addr × Obj)) (ht : (t, tupOf ps.toArray n) ∈ news) (h0 : ps ≠ []) (hl : ps.length ≤ 40)
   (hx : (x, o) ∈ news) (hc : o.cls = .type "dict") :
   Spec w 386 1 [.ref t, .ref x] news (Made news (LongPost ps (-1))) := by
  unfold Spec
  k_fill
  intro dp un gd cn cs a ccd cl outer A₀ base h₀ L m s loose mean mg mb Q E B F X N T hk hd hu hret
  refine wpAny_call ?_
  k_dflt ktr_enter
  repeat' (first | (k_unfold; (try dsimp only)) | ((with_reducible show wpAny _ _ (binaryOp Operator.Add (Value.ref _) (Value.ref _)) _ _ _); first | with_reducible (k_here; k_dflt (refine' addTup_N (by k_asm) (by k_asm) (by k_mem) (by exact List.Mem.head _) (by assumption) (by (simp only [List.length_cons, List.length_nil]; omega)) ?_ ?_); all_goals (intro z0'); all_goals (first | exact absurd z0' (List.cons_ne_nil _ _) | (intro D' h' F' N' l1))) | (k_here; k_dflt (refine' addTup_N (by k_asm) (by k_asm) (by k_mem) (by exact List.Mem.head _) (by assumption) (by (simp only [List.length_cons, List.length_nil]; omega)) ?_ ?_); all_goals (intro z0'); all_goals (first | exact absurd z0' (List.cons_ne_nil _ _) | (intro D' h' F' N' l1)))) | ((with_reducible show wpAny _ _ (call (Value.builtin "len") _) _ _ _); first | with_reducible (k_here; k_dflt (refine' len_tup (by k_asm) (by k_mem) (by omega) ?_))) | ((with_reducible show wpAny _ _ (compareOp CmpOp.In (Value.ref _) (Value.ref _)) _ _ _); first | with_reducible (k_here; k_dflt (refine' in_way' (by k_asm) (by k_mem) (by k_mem) (by assumption) (by ktd_sub) (by ktr_units) ?_))) | ((with_reducible show wpAny _ _ (call (Value.builtin "isinstance") _) _ _ _); first | with_reducible (k_here; (with_reducible show wpAny _ _ (call _ [Value.ref _, Value.ref _]) _ _ _); k_dflt (refine' isi_call (by k_in) (by k_types) (by k_is) (by intro e; cases e) ?_; k_whole))) | ((with_reducible show wpAny _ _ (execs (Stmt.Assign _ _ _ :: _ :: _) _) _ _ _); first | with_reducible (k_here; (with_reducible refine wpAny_execs_cons ?_); try dsimp only)) | ((with_reducible show RangeRest _ _ _ _ _ _ _ _ _ _ _ _ _ _ _ _ _); first | with_reducible (k_here; first | ((with_reducible refine RangeRest.succ ?_); intro t' h' tk' F' N') | ((with_reducible refine RangeRest.zero ?_); intro h' tk' F' N'))) | (k_end; kc_close) | walk1 | (dsimp only; walk1) | (leave1; (try dsimp only)))
  refine finish hret (by k_asm) (by k_asm) (by ktd_sub) fun tl U keep => ?_
  exact ⟨_, _, _, rfl, keep _ (.head _) (by ktn_ord), _, _, _, _, _, rfl, keep _ (.tail _ (.tail _ (.head _))) (by ktn_ord)⟩
end
end
section
section
variable {prog : Program} {w : World} {A : Around} {E : Value → Shared → Prop} {s : Shared} {env : Env} {h₀ : Heap} {x : Str} {body : List Stmt} {Q : Flow → Shared → Prop}
/-- a loop over a list of the ledger, by an invariant over what is done and the ledger -/
theorem listRest_inv {I : Addr} {lp : Addr × Obj} {m₀ : Str → Option Value} (Inv : List Value → List (Addr × Obj) → Prop) {vs : List Value}
    (turn : ∀ done v rem news it h tk, vs = done ++ v :: rem → Inv done news → lp ∈ news → it.cls = .type "list_iterator" → Fr h₀ env.locals h (fun y => if y = x then some v else m₀ y) → News h₀ env.locals h ((I, it) :: news) →
      wpAny (model prog w) A (execs body env) (UnrPost h₀ env.locals { s with heap := h, toks := tk } I it (fun m' n' => (∀ z, z ≠ x → m' z = m₀ z) ∧ lp ∈ n' ∧ Inv (done ++ [v]) n') Q) E { s with heap := h, toks := tk })
    (fin : ∀ (u : Str → Option Value) news h tk, Inv vs news → Fr h₀ env.locals h (fun y => if y = x then u y else m₀ y) → News h₀ env.locals h news → Q .next { s with heap := h, toks := tk }) :
    ∀ (rem done : List Value) m news, vs = done ++ rem → (∀ z, z ≠ x → m z = m₀ z) → lp ∈ news → Inv done news → ListRest prog w A E h₀ env x body Q s I lp rem m news := by
  intro rem
  induction rem with
  | nil =>
    intro done m news e hm _ hi
    rw [List.append_nil] at e
    subst e
    refine ListRest.zero fun h tk F N => fin m news h tk hi ?_ N
    have : (fun y => if y = x then m y else m₀ y) = m := by
      funext y
      by_cases hy : y = x
      · simp [hy]
      · simp [hy, hm y hy]
    rw [this]; exact F
  | cons v rem ih =>
    intro done m news e hm hlp hi
    refine ListRest.succ fun it h tk hit F N => ?_
    have : (fun y => if y = x then some v else m y) = (fun y => if y = x then some v else m₀ y) := by
      funext y
      by_cases hy : y = x
      · simp [hy]
      · simp [hy, hm y hy]
    rw [this] at F
    refine wpAny_mono (turn done v rem news it h tk e hi hlp hit F N) (fun f s₂ p => ?_) fun _ _ x => x
    have go : UnrEnd h₀ env.locals { s with heap := h, toks := tk } I it (fun m' n' => (∀ z, z ≠ x → m' z = m₀ z) ∧ lp ∈ n' ∧ Inv (done ++ [v]) n') s₂ →
        UnrEnd h₀ env.locals { s with heap := h, toks := tk } I it (fun m' n' => lp ∈ n' ∧ ListRest prog w A E h₀ env x body Q s I lp rem m' n') s₂ := by
      rintro ⟨h', tk', m', n', e', F', N', off, hm', hl', hi'⟩
      exact ⟨h', tk', m', n', e', F', N', off, hl', ih (done ++ [v]) m' n' (by simpa using e) hm' hl' hi'⟩
    cases f with
    | ret v => exact p
    | brk => exact p
    | next => exact go p
    | cont => exact go p
theorem iter_list_inv {ax : Addr} {vs : List Value} {n : Nat} {m₀ : Str → Option Value} {news : List (Addr × Obj)} (Inv : Addr → List Value → List (Addr × Obj) → Prop)
    (hh : A.handled = none) (F : Fr h₀ env.locals s.heap m₀) (N : News h₀ env.locals s.heap news) (hm : (ax, listOf vs.toArray n) ∈ news) (h0 : ∀ I, (∀ p ∈ news, p.1 < I) → Inv I [] news)
    (turn : ∀ I done v rem news' it h tk, (∀ p ∈ news, p.1 < I) → vs = done ++ v :: rem → Inv I done news' → (ax, listOf vs.toArray n) ∈ news' → it.cls = .type "list_iterator" → Fr h₀ env.locals h (fun y => if y = x then some v else m₀ y) → News h₀ env.locals h ((I, it) :: news') →
      wpAny (model prog w) A (execs body env) (UnrPost h₀ env.locals { s with heap := h, toks := tk } I it (fun m' n' => (∀ z, z ≠ x → m' z = m₀ z) ∧ (ax, listOf vs.toArray n) ∈ n' ∧ Inv I (done ++ [v]) n') Q) E { s with heap := h, toks := tk })
    (fin : ∀ I (u : Str → Option Value) news' h tk, Inv I vs news' → Fr h₀ env.locals h (fun y => if y = x then u y else m₀ y) → News h₀ env.locals h news' → Q .next { s with heap := h, toks := tk }) :
    wpAny (model prog w) A (pyIter (.ref ax)) (fun it s₂ => LoopAtV prog w A h₀ env x body Q E it s₂) E s :=
  iter_listUnr hh F N hm rfl rfl fun I hI => listRest_inv (Inv I) (fun done v rem news' it h tk e hi hl hit F' N' => turn I done v rem news' it h tk hI e hi hl hit F' N') (fin I) vs [] m₀ news rfl (fun _ _ => rfl) hm (h0 I hI)
end
section
variable {prog : Program} {w : World} {K : Type} [DecidableEq K] {knd : KeyKind prog w K} {A : Around} {E : Value → Shared → Prop} {s : Shared} {h₀ : Heap} {L u : Addr} {m : Str → Option Value} {news : List (Addr × Obj)} {ou : Obj} {kvs : List (K × Value)} {Q : Value → Shared → Prop}
/-- dict(d): a dict of its own, with the same rows -/
theorem dict_copy (F : Fr h₀ L s.heap m) (N : News h₀ L s.heap news) (hbig : h₀.NoLimit) (hm : (u, ou) ∈ news) (lo : (u == sysModules) = false) (hd : ou.IsDictOf knd kvs) (hz : kvs.length ≤ 1000)
    (h : ∀ D h' o, Fr h₀ L h' m → News h₀ L h' ((D, o) :: news) → (∀ p ∈ news, p.1 < D) → (D == sysModules) = false → o.IsDictOf knd kvs → Q (.ref D) { s with heap := h' }) :
    wpAny (model prog w) A (call (.type "dict") [.ref u]) Q E s := by
  refine kt_call_dict lo (kda_dict N hm hd) (by rw [sizeLine_eq]; omega) fun h' hd' hs => ?_
  obtain ⟨o', ho', hd''⟩ := Heap.dictOf_iff.mp hd'
  have N1 := News.push F N { cls := .type "dict", data := .dict #[] }
  exact h _ h' o' ((F.push _).change hs (N1 _ (.head _)).2.1 (N1.fresh (.head _))) (N1.setHead N.apart hs ho') (fun p hp => Heap.lt_size (N p hp).1) (F.notModules (modules_low hbig)) hd''
end
section
variable {w : World} {A : Around} {E : Value → Shared → Prop} {s : Shared} {h₀ : Heap} {L d : Addr} {m : Str → Option Value} {news : List (Addr × Obj)} {o : Obj} {lim : Option (List Item)} {lv nv x y : Value} {tk : Tok} {Q : Value → Shared → Prop}
theorem kids_at : valueAt (limKv lim lv ++ [(Str.ofString "Kids", x)]) (Str.ofString "Kids") = some x := by
  cases lim with
  | none => exact val_hd
  | some l => exact val_tl limits_kids val_hd
theorem kids_not : valueAt (limKv lim lv ++ [(Str.ofString "Nums", x)]) (Str.ofString "Kids") = none := by
  cases lim with
  | none => exact val_tln nums_kids val_no
  | some l => exact val_tln limits_kids (val_tln nums_kids val_no)
theorem kids_stored : stored (limKv lim lv ++ [(Str.ofString "Kids", x)]) (Str.ofString "Kids") y = limKv lim lv ++ [(Str.ofString "Kids", y)] := by
  cases lim with
  | none => simp [limKv, stored]
  | some l => simp [limKv, stored, limits_kids]
theorem limKv_len : (limKv lim lv).length ≤ 1 := by cases lim <;> simp [limKv]
theorem kids_yes (N : News h₀ L s.heap news) (hp : (d, o) ∈ news) (hd : o.IsDictOf (PySem.strKind PySem.Challenge.rw_og0169_01.row.prog w) (limKv lim lv ++ [(Str.ofString "Kids", x)])) (lo : (d == sysModules) = false) (h : Q (.bool true) { s with toks := s.toks + 1 }) :
    wpAny (model PySem.Challenge.rw_og0169_01.row.prog w) A (compareOp .In (.str (Str.ofString "Kids") tk) (.ref d)) Q E s := kda_in (knd := PySem.strKind _ _) N hp hd lo (strKind_is _ _ _ _) true (by rw [kids_at]; rfl) h
theorem kids_no (N : News h₀ L s.heap news) (hp : (d, o) ∈ news) (hd : o.IsDictOf (PySem.strKind PySem.Challenge.rw_og0169_01.row.prog w) (limKv lim lv ++ [(Str.ofString "Nums", x)])) (lo : (d == sysModules) = false) (h : Q (.bool false) { s with toks := s.toks + 1 }) :
    wpAny (model PySem.Challenge.rw_og0169_01.row.prog w) A (compareOp .In (.str (Str.ofString "Kids") tk) (.ref d)) Q E s := kda_in (knd := PySem.strKind _ _) N hp hd lo (strKind_is _ _ _ _) false (by rw [kids_not]; rfl) h
theorem kids_nyes (N : News h₀ L s.heap news) (hp : (d, o) ∈ news) (hd : o.IsDictOf (PySem.strKind PySem.Challenge.rw_og0169_01.row.prog w) (limKv lim lv ++ [(Str.ofString "Kids", x)])) (lo : (d == sysModules) = false) (h : Q (.bool false) { s with toks := s.toks + 1 }) :
    wpAny (model PySem.Challenge.rw_og0169_01.row.prog w) A (compareOp .NotIn (.str (Str.ofString "Kids") tk) (.ref d)) Q E s := kdg_notin (knd := PySem.strKind _ _) N hp hd lo (strKind_is _ _ _ _) true (by rw [kids_at]; rfl) h
theorem kids_nno (N : News h₀ L s.heap news) (hp : (d, o) ∈ news) (hd : o.IsDictOf (PySem.strKind PySem.Challenge.rw_og0169_01.row.prog w) (limKv lim lv ++ [(Str.ofString "Nums", x)])) (lo : (d == sysModules) = false) (h : Q (.bool true) { s with toks := s.toks + 1 }) :
    wpAny (model PySem.Challenge.rw_og0169_01.row.prog w) A (compareOp .NotIn (.str (Str.ofString "Kids") tk) (.ref d)) Q E s := kdg_notin (knd := PySem.strKind _ _) N hp hd lo (strKind_is _ _ _ _) false (by rw [kids_not]; rfl) h
theorem kids_item {value slice : Expr} (N : News h₀ L s.heap news) (hp : (d, o) ∈ news) (hd : o.IsDictOf (PySem.strKind PySem.Challenge.rw_og0169_01.row.prog w) (limKv lim lv ++ [(Str.ofString "Kids", x)])) (h : Q x { s with toks := s.toks + 1 })
    (hs : subscripted slice false (.ref d) (.str (Str.ofString "Kids") tk) = operate [.ref d, .str (Str.ofString "Kids") tk] (getItem (.ref d) (.str (Str.ofString "Kids") tk)) := by with_unfolding_all rfl) (hg : ∀ r, letTemporaryGo value (.ref d) r = pure () := by intro _; with_unfolding_all rfl) :
    wpAny (model PySem.Challenge.rw_og0169_01.row.prog w) A (subscriptTail value slice (.ref d) (.str (Str.ofString "Kids") tk)) Q E s := kda_item (knd := PySem.strKind _ _) N hp hd (strKind_is _ _ _ _) kids_at h hs hg
theorem kids_set {g : Obj → List (Addr × Obj)} {Q : Unit → Shared → Prop} (F : Fr h₀ L s.heap m) (N : News h₀ L s.heap news) (U : UpdF d o news g) (hd : o.IsDictOf (PySem.strKind PySem.Challenge.rw_og0169_01.row.prog w) (limKv lim lv ++ [(Str.ofString "Kids", x)]))
    (h : ∀ h' o', Fr h₀ L h' m → News h₀ L h' (g o') → o'.IsDictOf (PySem.strKind PySem.Challenge.rw_og0169_01.row.prog w) (limKv lim lv ++ [(Str.ofString "Kids", y)]) → Q () { s with heap := h', toks := s.toks + 1 }) :
    wpAny (model PySem.Challenge.rw_og0169_01.row.prog w) A (setItem (.ref d) (.str (Str.ofString "Kids") tk) y) Q E s :=
  kda_set (knd := PySem.strKind _ _) F N U hd (strKind_is _ _ _ _) (by rw [List.length_append, sizeLine_eq]; have := limKv_len (lim := lim) (lv := lv); simp; omega) fun h' o' F' N' hd' => h h' o' F' N' (by rw [kids_stored] at hd'; exact hd')
end
section
variable {prog : Program} {w : World} {A : Around} {E : Value → Shared → Prop} {s : Shared} {env : Env} {h₀ : Heap} {x y1 : Str} {body : List Stmt} {Q : Flow → Shared → Prop}
/-- a loop over a range, by an invariant over the locals and the ledger -/
theorem rangeRest_gen {I : Addr} {a : Int} {n : Nat} (Inv : Nat → (Str → Option Value) → List (Addr × Obj) → Prop)
    (turn : ∀ k m news j t it h tk, Inv (k + 1) m news → Fr h₀ env.locals h (fun y => if y = x then some (.int j t) else m y) → News h₀ env.locals h ((I, it) :: news) →
      wpAny (model prog w) A (execs body env) (UnrPost h₀ env.locals { s with heap := h, toks := tk } I it (Inv k) Q) E { s with heap := h, toks := tk })
    (fin : ∀ m news h tk, Inv 0 m news → Fr h₀ env.locals h m → News h₀ env.locals h news → Q .next { s with heap := h, toks := tk }) :
    ∀ (k i : Nat) m news, Inv k m news → RangeRest prog w A E h₀ env x body Q s I a n k i m news := by
  intro k
  induction k with
  | zero => exact fun i m news hi => RangeRest.zero fun h tk F N => fin m news h tk hi F N
  | succ k ih =>
    intro i m news hi
    refine RangeRest.succ fun t h tk F N => wpAny_mono (turn k m news _ t _ h tk hi F N) (fun f s₂ p => ?_) fun _ _ x => x
    have go : ∀ it, UnrEnd h₀ env.locals { s with heap := h, toks := tk } I it (Inv k) s₂ → UnrEnd h₀ env.locals { s with heap := h, toks := tk } I it (RangeRest prog w A E h₀ env x body Q s I a n k (i + 1)) s₂ := by
      rintro it ⟨h', tk', m', n', e', F', N', off, hi'⟩
      exact ⟨h', tk', m', n', e', F', N', off, ih (i + 1) m' n' hi'⟩
    cases f with
    | ret v => exact p
    | brk => exact p
    | next => exact go _ p
    | cont => exact go _ p
theorem iter_range_gen (Inv : Addr → Nat → (Str → Option Value) → List (Addr × Obj) → Prop) {r : Addr} {a₀ b₀ : Int} {t₀ u₀ v₀ : Tok} {n : Nat} {m₀ : Str → Option Value} {news : List (Addr × Obj)}
    (hh : A.handled = none) (hr : IsRange s.heap r a₀ b₀ 1 t₀ u₀ v₀) (hsmall : Builtin.Range.small a₀ b₀ 1 = true) (hn : Builtin.Range.rangeSize a₀ b₀ 1 = (n : Int)) (F : Fr h₀ env.locals s.heap m₀) (N : News h₀ env.locals s.heap news)
    (hi : ∀ I, (∀ p ∈ news, p.1 < I) → Inv I n m₀ news)
    (turn : ∀ I k m news' j t it h tk, Inv I (k + 1) m news' → Fr h₀ env.locals h (fun y => if y = x then some (.int j t) else m y) → News h₀ env.locals h ((I, it) :: news') →
      wpAny (model prog w) A (execs body env) (UnrPost h₀ env.locals { s with heap := h, toks := tk } I it (Inv I k) Q) E { s with heap := h, toks := tk })
    (fin : ∀ I m news' h tk, Inv I 0 m news' → Fr h₀ env.locals h m → News h₀ env.locals h news' → Q .next { s with heap := h, toks := tk }) :
    wpAny (model prog w) A (pyIter (.ref r)) (fun it s₂ => LoopAtV prog w A h₀ env x body Q E it s₂) E s :=
  iter_rangeUnr hh hr hsmall hn F N fun I hI => rangeRest_gen (Inv I) (turn I) (fin I) n 0 m₀ news (hi I hI)
/-- locals that bind x and y1 anew -/
def Sets (x y1 : Str) (m₀ : Str → Option Value) (v : Value) (m : Str → Option Value) : Prop := m y1 = some v ∧ ∀ z, z ≠ x → z ≠ y1 → m z = m₀ z
theorem Sets.start {m₀ : Str → Option Value} {v : Value} (h : m₀ y1 = some v) : Sets x y1 m₀ v m₀ := ⟨h, fun _ _ _ => rfl⟩
theorem Sets.turn {m₀ m : Str → Option Value} {v : Value} {o : Option Value} (h : Sets x y1 m₀ v m) : (fun y => if y = x then o else m y) = (fun y => if y = x then o else if y = y1 then some v else m₀ y) := by
  funext y
  by_cases hx : y = x
  · rw [if_pos hx, if_pos hx]
  · rw [if_neg hx, if_neg hx]
    by_cases h1 : y = y1
    · rw [if_pos h1, h1, h.1]
    · rw [if_neg h1, h.2 y hx h1]
theorem Sets.fin {m₀ m : Str → Option Value} {v : Value} (h : Sets x y1 m₀ v m) (ne : y1 ≠ x) : m = (fun y => if y = x then m x else if y = y1 then some v else m₀ y) := by
  funext y
  by_cases hx : y = x
  · rw [if_pos hx, hx]
  · rw [if_neg hx]
    by_cases h1 : y = y1
    · rw [if_pos h1, h1, h.1]
    · rw [if_neg h1, h.2 y hx h1]
theorem Sets.next {m₀ : Str → Option Value} {v v' : Value} {o : Option Value} : Sets x y1 m₀ v' (fun y => if y = y1 then some v' else if y = x then o else if y = y1 then some v else m₀ y) :=
  ⟨if_pos rfl, fun _ hx h1 => (if_neg h1).trans ((if_neg hx).trans (if_neg h1))⟩
end
theorem sub_cons2 {x : Addr × Obj} {a b : List (Addr × Obj)} (h : ∀ p ∈ a, p ∈ b) : ∀ p ∈ x :: a, p ∈ x :: b := fun p hp => by
  rcases List.mem_cons.mp hp with rfl | hp
  · exact .head _
  · exact .tail _ (h p hp)
theorem first_of {a b : Addr × Obj} {r tl all : List (Addr × Obj)} (h : all = (a :: b :: r) ++ tl) : a ∈ all := by rw [h]; exact .head _
theorem unrEnd_pick2 {h₀ : Heap} {L I : Addr} {it : Obj} {rest : (Str → Option Value) → List (Addr × Obj) → Prop} {s₁ : Shared} {h' : Heap} {tk : Nat} {m' : Str → Option Value} {all news' : List (Addr × Obj)} (F : Fr h₀ L h' m') (N : News h₀ L h' all) (k : Pick I it all news')
    (r : (∀ p ∈ news', p.1 ≠ I) ∧ rest m' news') : UnrEnd h₀ L s₁ I it rest { s₁ with heap := h', toks := tk } := unrEnd_pick F N k r.1 r.2
end
section
theorem walk_plain_Gather : True := by
  w_top off
  trivial
def NodeC (w : World) (news0 : List (Addr × Obj)) (S : Addr) (v : Value) (u : Addr) : Prop := ∀ news, (∀ p ∈ news0, p ∈ news) → Spec w 372 2 [.ref S, v] news (fun r n' => r = .ref u ∧ n' = news)
def RowC (w : World) (news0 : List (Addr × Obj)) (S : Addr) (b : Addr) : Prop := ∀ D oD kvs tk news, (∀ p ∈ news0, p ∈ news) → (D, oD) ∈ news → (D == sysModules) = false → oD.IsDictOf (PySem.strKind PySem.Challenge.rw_og0169_01.row.prog w) kvs → valueAt kvs (Str.ofString "Kids") = some (.ref b) →
  Spec w 379 3 [.ref S, .ref D, .str (Str.ofString "Kids") tk] news (fun r n' => r = .ref b ∧ n' = news)
theorem RowC.use {w : World} {news0 : List (Addr × Obj)} {S b D : Addr} {oD : Obj} {lim : Option (List Item)} {lv : Value} {tk : Tok} {news : List (Addr × Obj)} (h : RowC w news0 S b) (hs : ∀ p ∈ news0, p ∈ news) (hm : (D, oD) ∈ news) (lo : (D == sysModules) = false) (hd : oD.IsDictOf (PySem.strKind PySem.Challenge.rw_og0169_01.row.prog w) (limKv lim lv ++ [(Str.ofString "Kids", .ref b)])) :
    Spec w 379 3 [.ref S, .ref D, .str (Str.ofString "Kids") tk] news (fun r n' => r = .ref b ∧ n' = news) := h D oD _ tk news hs hm lo hd kids_at
theorem NodeC.use {w : World} {news0 : List (Addr × Obj)} {S : Addr} {v : Value} {u : Addr} {news : List (Addr × Obj)} (h : NodeC w news0 S v u) (hs : ∀ p ∈ news0, p ∈ news) : Spec w 372 2 [.ref S, v] news (fun r n' => r = .ref u ∧ n' = news) := h news hs
def Places (news : List (Addr × Obj)) (ok : Int → Prop) (ps : List Value) : Prop := ∀ q ∈ ps, ∃ j, PlaceIs news q j ∧ ok j
theorem Places.mono {news news' : List (Addr × Obj)} {ok : Int → Prop} {ps : List Value} (h : Places news ok ps) (hs : ∀ p ∈ news, p ∈ news') : Places news' ok ps := fun q hq => let ⟨j, a, b⟩ := h q hq; ⟨j, a.mono hs, b⟩
theorem Places.snoc {news : List (Addr × Obj)} {ok : Int → Prop} {ps : List Value} {p : Value} {i : Int} (h : Places news ok ps) (hp : PlaceIs news p i) (hi : ok i) : Places news ok (ps ++ [p]) := fun q hq => by
  rcases List.mem_append.mp hq with hq | hq
  · exact h q hq
  · rw [List.mem_singleton.mp hq]; exact ⟨i, hp, hi⟩
/-- tree_gathered of a child, below a way whose places are all other ones -/
def Gath (w : World) (news0 : List (Addr × Obj)) (S : Addr) (sz n len : Nat) (ok : Int → Prop) (v : Value) (d : Node) : Prop :=
  ∀ news way ps k, (∀ q ∈ news0, q ∈ news) → (way, tupOf ps.toArray k) ∈ news → ps ≠ [] → ps.length ≤ len → Places news ok ps → Spec w 400 sz [.ref S, v, .ref way] news (Made news fun r tl => NodeIs w (news0 ++ tl) n r d)
theorem Gath.use {w : World} {news0 : List (Addr × Obj)} {S : Addr} {sz n len : Nat} {ok : Int → Prop} {ps : List Value} {v : Value} {d : Node} {news : List (Addr × Obj)} {way : Addr} {k : Nat} (h : Gath w news0 S sz n len ok v d) (hs : ∀ q ∈ news0, q ∈ news) (hm : (way, tupOf ps.toArray k) ∈ news) (h0 : ps ≠ []) (hl : ps.length ≤ len) (hp : Places news ok ps) :
    Spec w 400 sz [.ref S, v, .ref way] news (Made news fun r tl => NodeIs w (news0 ++ tl) n r d) := h news way ps k hs hm h0 hl hp
theorem snoc_ne {α : Type} (l : List α) (x : α) : l ++ [x] ≠ [] := by simp
/-- what the loop over the children keeps -/
inductive GInv (w : World) (news0 : List (Addr × Obj)) (n : Nat) (kids : List Node) (K : Addr) (base : List (Addr × Obj)) (I : Addr) (done : List Value) (nx : List (Addr × Obj)) : Prop
  | mk (ys) (ny) (all) (tl) (h0 : nx = (K, listOf ys.toArray ny) :: all) (h1 : all = base ++ tl) (h2 : (∀ p ∈ tl, K < p.1)) (h3 : (∀ p ∈ base, p.1 < K)) (h4 : (∀ p ∈ nx, p.1 ≠ I)) (h5 : All2 (NodeIs w (news0 ++ tl) n) ys (kids.take done.length)) : GInv w news0 n kids K base I done nx
theorem GInv.start {w : World} {news0 : List (Addr × Obj)} {n : Nat} {kids : List Node} {K : Addr} {base : List (Addr × Obj)} {I : Addr} {ny : Nat} (hI : ∀ p ∈ (K, listOf ([] : List Value).toArray ny) :: base, p.1 < I) (hK : ∀ p ∈ base, p.1 < K) : GInv w news0 n kids K base I [] ((K, listOf ([] : List Value).toArray ny) :: base) :=
  ⟨[], ny, base, [], rfl, by rw [List.append_nil], fun _ h => (nomatch h), hK, fun p hp => Nat.ne_of_lt (hI p hp), trivial⟩
theorem off_up {K : Addr} {all tl9 : List (Addr × Obj)} {x : Addr × Obj} {o : Obj} (h : ∀ p ∈ all, p.1 ≠ K) (u : Up (x :: (K, o) :: all) tl9) : ∀ p ∈ all ++ tl9, p.1 ≠ K := fun p hp => by
  rcases List.mem_append.mp hp with hp | hp
  · exact h p hp
  · exact Nat.ne_of_gt (u (K, o) (.tail _ (.head _)) p hp)
theorem off_I {K I : Addr} {all tl9 : List (Addr × Obj)} {it o o1 o2 : Obj} (h : ∀ p ∈ (K, o1) :: all, p.1 ≠ I) (u : Up ((I, it) :: (K, o) :: all) tl9) : ∀ p ∈ (K, o2) :: (all ++ tl9), p.1 ≠ I := fun p hp => by
  rcases List.mem_cons.mp hp with rfl | hp
  · exact h (K, o1) (.head _)
  · rcases List.mem_append.mp hp with hp | hp
    · exact h p (.tail _ hp)
    · exact Nat.ne_of_gt (u (I, it) (.head _) p hp)
theorem off_D {D K : Addr} {oD : Obj} {a tl : List (Addr × Obj)} (h : ∀ p ∈ a, p.1 < D) (hb : ∀ p ∈ (D, oD) :: a, p.1 < K) (ht : ∀ p ∈ tl, K < p.1) : ∀ p ∈ a ++ tl, p.1 ≠ D := fun p hp => by
  rcases List.mem_append.mp hp with hp | hp
  · exact Nat.ne_of_lt (h p hp)
  · exact Nat.ne_of_gt (Nat.lt_trans (hb (D, oD) (.head _)) (ht p hp))
theorem NodeIs.gathered {w : World} {news0 tl tl' : List (Addr × Obj)} {n : Nat} {D K : Addr} {oD : Obj} {lim : Option (List Item)} {lv : Value} {ys : List Value} {ny : Nat} {kids : List Node} (hD : (D, oD) ∈ tl') (lo : (D == sysModules) = false) (hd : oD.IsDictOf (PySem.strKind PySem.Challenge.rw_og0169_01.row.prog w) (limKv lim lv ++ [(Str.ofString "Kids", .ref K)])) (hl : LimIs w news0 lim lv)
    (hK : (K, listOf ys.toArray ny) ∈ tl') (hys : All2 (NodeIs w (news0 ++ tl) n) ys kids) (ht : ∀ p ∈ tl, p ∈ tl') (hlen : kids.length ≤ 10) : NodeIs w (news0 ++ tl') (n + 1) (.ref D) (.inner lim kids) :=
  ⟨D, lv, K, ys, ny, rfl, ⟨oD, List.mem_append.mpr (.inr hD), lo, hd⟩, hl.mono fun p hp => List.mem_append.mpr (.inl hp), List.mem_append.mpr (.inr hK), hys.imp fun _ _ h => h.mono fun p hp => by
    rcases List.mem_append.mp hp with hp | hp
    · exact List.mem_append.mpr (.inl hp)
    · exact List.mem_append.mpr (.inr (ht p hp)), hlen⟩
theorem GInv.next {w : World} {news0 : List (Addr × Obj)} {n : Nat} {kids : List Node} {K : Addr} {base : List (Addr × Obj)} {I : Addr} {done ys : List Value} {ny ny' : Nat} {all tl tl9 : List (Addr × Obj)} {v r : Value} {d : Node} {it o : Obj} (hall : all = base ++ tl) (ht : ∀ p ∈ tl, K < p.1) (hb : ∀ p ∈ base, p.1 < K) (hoI : ∀ p ∈ (K, listOf ys.toArray ny) :: all, p.1 ≠ I)
    (hys : All2 (NodeIs w (news0 ++ tl) n) ys (kids.take done.length)) (u : Up ((I, it) :: (K, o) :: all) tl9) (hr : NodeIs w (news0 ++ tl9) n r d) (htk : kids.take (done.length + 1) = kids.take done.length ++ [d]) :
    GInv w news0 n kids K base I (done ++ [v]) ((K, listOf (ys.toArray.push r) ny') :: (all ++ tl9)) := by
  refine ⟨ys ++ [r], ny', all ++ tl9, tl ++ tl9, by rw [List.push_toArray], by rw [hall, List.append_assoc], fun p hp => ?_, hb, fun p hp => ?_, ?_⟩
  · rcases List.mem_append.mp hp with hp | hp
    · exact ht p hp
    · exact u (K, o) (.tail _ (.head _)) p hp
  · rcases List.mem_cons.mp hp with rfl | hp
    · exact hoI (K, listOf ys.toArray ny) (.head _)
    · rcases List.mem_append.mp hp with hp | hp
      · exact hoI p (.tail _ hp)
      · exact Nat.ne_of_gt (u (I, it) (.head _) p hp)
  · rw [List.length_append, List.length_singleton, htk]
    refine All2.snoc (hr.mono fun p hp => ?_) (hys.imp fun _ _ h => h.mono fun p hp => ?_)
    · rcases List.mem_append.mp hp with hp | hp
      · exact List.mem_append.mpr (.inl hp)
      · exact List.mem_append.mpr (.inr (List.mem_append.mpr (.inr hp)))
    · rcases List.mem_append.mp hp with hp | hp
      · exact List.mem_append.mpr (.inl hp)
      · exact List.mem_append.mpr (.inr (List.mem_append.mpr (.inl hp)))
section
section
set_option maxRecDepth 100000 in
set_option maxHeartbeats 8000000 in
theorem gather_leaf3 (w : World) (news0 news : List (Addr × Obj)) (S u : Addr) (way : Addr) (ou : Obj) (v lv nv : Value) (lim : Option (List Item)) (ps : List Value) (i : Int) (sz : Nat) (hs : ∀ p ∈ news0, p ∈ news) (hu0 : (u, ou) ∈ news0) (lo : (u == sysModules) = false)
   (hd : ou.IsDictOf (PySem.strKind PySem.Challenge.rw_og0169_01.row.prog w) (limKv lim lv ++ [(Str.ofString "Nums", nv)])) (hN : NodeC w news0 S v u) (hL : Spec w 386 1 [.ref way, v] news (Made news (LongPost ps i))) (dS T R : Addr) (k1 k2 : Tok) (n2 : Nat) (h1 : (S, instObj 363 dS) ∈ news) (h2 : (dS, dictOf (shelfD w k1 k2 T R) n2) ∈ news) :
   Spec w 400 3 [.ref S, v, .ref way] news (Made news fun r tl => ∃ a, r = .ref a ∧ DictAt w tl a (limKv lim lv ++ [(Str.ofString "Nums", nv)])) := by
  have hu1 := hs _ hu0
  unfold Spec
  k_fill
  intro dp un gd cn cs a ccd cl outer A₀ base h₀ L m s loose mean mg mb Q E B F X N T hk hd hu hret
  refine wpAny_call ?_
  k_dflt (refine' code_def ?k1 ?k2 ?k3 ?k4 ?k5 ?kA ?kF ?kK ?k6 ?k7 ?k8 ?k9 ?kB ?_ ?c2 ?c3 ?c4 ?c5; (case kA => exact rfl); (case kF => exact rfl); (case kK => assumption); (case k1 => k_asm); (case k2 => k_asm); (case k3 => k_asm); (case k4 => k_asm); (case k5 => k_asm); (case k6 => k_is); (case k7 => k_is); (case k8 => ktr_room); (case k9 => first | exact binds_K (by k_in) rfl (by k_is) rfl rfl rfl | exact BindsTo.of_eq rfl); (case c5 => decide); (case kB => exact locs rfl); (case c2 => exact rfl); (case c3 => exact rfl); (case c4 => exact rfl); k_whole)
  intro g1 L1 h1 FG1 F1 N1 B1 X1 T1
  (try dsimp only)
  (try k_fold)
  repeat' (first | (k_unfold; (try dsimp only)) | ((with_reducible show wpAny _ _ (compareOp CmpOp.In (Value.str _ _) (Value.ref _)) _ _ _); first | with_reducible (k_here; k_dflt (refine' kids_no (by k_asm) (by k_mem) (by assumption) (by assumption) ?_))) | ((with_reducible show wpAny _ _ (call (Value.ref _) _) _ _ _); first | with_reducible (k_here; (with_reducible show wpAny _ _ (call (Value.ref 372) _) _ _ _); k_dflt ( refine' spec_use (f := 372) (by k_asm) (by k_asm) (by k_asm) (by k_asm) (by k_asm) (by first | exact rfl | assumption) (NodeC.use (by assumption) (by ktd_sub)) (by ktr_room) (by ktr_units) (ret_same ?_); (intro h9 tk9 F9 N9; (try k_sweep); (try dsimp only); (try k_fold)))) | with_reducible (k_here; (with_reducible show wpAny _ _ (call (Value.ref 386) _) _ _ _); k_dflt ( refine' spec_use (f := 386) (by k_asm) (by k_asm) (by k_asm) (by k_asm) (by k_asm) (by first | exact rfl | assumption) (by assumption) (by ktr_room) (by ktr_units) (ret_long ?_); (intro t9 pl9 nn9 tl9 h9 tk9 F9 N9 up9 m9 pi9; (try k_sweep); (try dsimp only); (try k_fold))))) | ((with_reducible show wpAny _ _ (call (Value.type "dict") _) _ _ _); first | with_reducible (k_here; k_dflt (refine' dict_copy (knd := PySem.strKind _ _) (by k_asm) (by k_asm) (by exact Top.nolimit (by k_asm)) (by k_mem) (by assumption) (by assumption) (by (rw [List.length_append]; have := @limKv_len; exact Nat.le_trans (Nat.add_le_add (limKv_len) (Nat.le_refl _)) (Nat.le_of_ble_eq_true rfl))) ?_); intro D' h' o' F' N' l1 lo' hd')) | ((with_reducible show wpAny _ _ (execs (Stmt.Assign _ _ _ :: _ :: _) _) _ _ _); first | with_reducible (k_here; (with_reducible refine wpAny_execs_cons ?_); try dsimp only)) | ((with_reducible show RangeRest _ _ _ _ _ _ _ _ _ _ _ _ _ _ _ _ _); first | with_reducible (k_here; first | ((with_reducible refine RangeRest.succ ?_); intro t' h' tk' F' N') | ((with_reducible refine RangeRest.zero ?_); intro h' tk' F' N'))) | (k_end; kc_close) | walk1 | (dsimp only; walk1) | (leave1; (try dsimp only)))
  refine finish hret (by k_asm) (by k_asm) (by ktd_sub) fun tl U keep => ⟨_, rfl, _, keep _ (.head _) (by ktn_ord), by assumption, by assumption⟩
set_option maxRecDepth 100000 in
set_option maxHeartbeats 8000000 in
theorem gather_leaf2 (w : World) (news0 news : List (Addr × Obj)) (S u : Addr) (ou : Obj) (v lv nv : Value) (lim : Option (List Item)) (ps : List Value) (i : Int) (sz : Nat) (hs : ∀ p ∈ news0, p ∈ news) (hu0 : (u, ou) ∈ news0) (lo : (u == sysModules) = false)
   (hd : ou.IsDictOf (PySem.strKind PySem.Challenge.rw_og0169_01.row.prog w) (limKv lim lv ++ [(Str.ofString "Nums", nv)])) (hN : NodeC w news0 S v u) (hL : Spec w 386 1 [.ref 392, v] news (Made news (LongPost ps i))) (dS T R : Addr) (k1 k2 : Tok) (n2 : Nat) (h1 : (S, instObj 363 dS) ∈ news) (h2 : (dS, dictOf (shelfD w k1 k2 T R) n2) ∈ news) :
   Spec w 400 3 [.ref S, v] news (Made news fun r tl => ∃ a, r = .ref a ∧ DictAt w tl a (limKv lim lv ++ [(Str.ofString "Nums", nv)])) := by
  have hu1 := hs _ hu0
  unfold Spec
  k_fill
  intro dp un gd cn cs a ccd cl outer A₀ base h₀ L m s loose mean mg mb Q E B F X N T hk hd hu hret
  refine wpAny_call ?_
  k_dflt (refine' code_def ?k1 ?k2 ?k3 ?k4 ?k5 ?kA ?kF ?kK ?k6 ?k7 ?k8 ?k9 ?kB ?_ ?c2 ?c3 ?c4 ?c5; (case kA => exact rfl); (case kF => exact rfl); (case kK => assumption); (case k1 => k_asm); (case k2 => k_asm); (case k3 => k_asm); (case k4 => k_asm); (case k5 => k_asm); (case k6 => k_is); (case k7 => k_is); (case k8 => ktr_room); (case k9 => first | exact binds_K (by k_in) rfl (by k_is) rfl rfl rfl | exact BindsTo.of_eq rfl); (case c5 => decide); (case kB => exact locs rfl); (case c2 => exact rfl); (case c3 => exact rfl); (case c4 => exact rfl); k_whole)
  intro g1 L1 h1 FG1 F1 N1 B1 X1 T1
  (try dsimp only)
  (try k_fold)
  repeat' (first | (k_unfold; (try dsimp only)) | ((with_reducible show wpAny _ _ (compareOp CmpOp.In (Value.str _ _) (Value.ref _)) _ _ _); first | with_reducible (k_here; k_dflt (refine' kids_no (by k_asm) (by k_mem) (by assumption) (by assumption) ?_))) | ((with_reducible show wpAny _ _ (call (Value.ref _) _) _ _ _); first | with_reducible (k_here; (with_reducible show wpAny _ _ (call (Value.ref 372) _) _ _ _); k_dflt ( refine' spec_use (f := 372) (by k_asm) (by k_asm) (by k_asm) (by k_asm) (by k_asm) (by first | exact rfl | assumption) (NodeC.use (by assumption) (by ktd_sub)) (by ktr_room) (by ktr_units) (ret_same ?_); (intro h9 tk9 F9 N9; (try k_sweep); (try dsimp only); (try k_fold)))) | with_reducible (k_here; (with_reducible show wpAny _ _ (call (Value.ref 386) _) _ _ _); k_dflt ( refine' spec_use (f := 386) (by k_asm) (by k_asm) (by k_asm) (by k_asm) (by k_asm) (by first | exact rfl | assumption) (by assumption) (by ktr_room) (by ktr_units) (ret_long ?_); (intro t9 pl9 nn9 tl9 h9 tk9 F9 N9 up9 m9 pi9; (try k_sweep); (try dsimp only); (try k_fold))))) | ((with_reducible show wpAny _ _ (call (Value.type "dict") _) _ _ _); first | with_reducible (k_here; k_dflt (refine' dict_copy (knd := PySem.strKind _ _) (by k_asm) (by k_asm) (by exact Top.nolimit (by k_asm)) (by k_mem) (by assumption) (by assumption) (by (rw [List.length_append]; have := @limKv_len; exact Nat.le_trans (Nat.add_le_add (limKv_len) (Nat.le_refl _)) (Nat.le_of_ble_eq_true rfl))) ?_); intro D' h' o' F' N' l1 lo' hd')) | ((with_reducible show wpAny _ _ (execs (Stmt.Assign _ _ _ :: _ :: _) _) _ _ _); first | with_reducible (k_here; (with_reducible refine wpAny_execs_cons ?_); try dsimp only)) | ((with_reducible show RangeRest _ _ _ _ _ _ _ _ _ _ _ _ _ _ _ _ _); first | with_reducible (k_here; first | ((with_reducible refine RangeRest.succ ?_); intro t' h' tk' F' N') | ((with_reducible refine RangeRest.zero ?_); intro h' tk' F' N'))) | (k_end; kc_close) | walk1 | (dsimp only; walk1) | (leave1; (try dsimp only)))
  refine finish hret (by k_asm) (by k_asm) (by ktd_sub) fun tl U keep => ⟨_, rfl, _, keep _ (.head _) (by ktn_ord), by assumption, by assumption⟩
end
section
local macro_rules | `(tactic| k_all) => `(tactic| exact off_up (by assumption) (by assumption))
set_option maxRecDepth 100000 in
set_option maxHeartbeats 8000000 in
theorem gather_in3 (w : World) (news0 news : List (Addr × Obj)) (S u : Addr) (way : Addr) (ou : Obj) (v lv : Value) (b : Addr) (vs : List Value) (mb0 : Nat) (kids : List Node) (lim : Option (List Item)) (ps : List Value) (i : Int) (sz n : Nat) (hs : ∀ p ∈ news0, p ∈ news) (hu0 : (u, ou) ∈ news0) (lo : (u == sysModules) = false)
   (hd : ou.IsDictOf (PySem.strKind PySem.Challenge.rw_og0169_01.row.prog w) (limKv lim lv ++ [(Str.ofString "Kids", .ref b)])) (hlim : LimIs w news0 lim lv) (hb0 : (b, listOf vs.toArray mb0) ∈ news0) (hlen : kids.length ≤ 10) (len : Nat) (ok : Int → Prop) (hlen2 : ps.length + 1 ≤ len) (hps : Places news ok ps) (hoki : ok i) (hkids : All2 (Gath w news0 S sz n len ok) vs kids)
   (hN : NodeC w news0 S v u) (hR : RowC w news0 S b) (hL : Spec w 386 1 [.ref way, v] news (Made news (LongPost ps i))) (dS T R : Addr) (k1 k2 : Tok) (n2 : Nat) (h1 : (S, instObj 363 dS) ∈ news) (h2 : (dS, dictOf (shelfD w k1 k2 T R) n2) ∈ news) (hsz : 3 ≤ sz) :
   Spec w 400 (sz + 1) [.ref S, v, .ref way] news (Made news fun r tl => NodeIs w (news0 ++ tl) (n + 1) r (.inner lim kids)) := by
  have hu1 := hs _ hu0
  have hb1 := hs _ hb0
  unfold Spec
  k_fill
  intro dp un gd cn cs a ccd cl outer A₀ base h₀ L m s loose mean mg mb Q E B F X N T hk hd hu hret
  refine wpAny_call ?_
  k_dflt (refine' code_def ?k1 ?k2 ?k3 ?k4 ?k5 ?kA ?kF ?kK ?k6 ?k7 ?k8 ?k9 ?kB ?_ ?c2 ?c3 ?c4 ?c5; (case kA => exact rfl); (case kF => exact rfl); (case kK => assumption); (case k1 => k_asm); (case k2 => k_asm); (case k3 => k_asm); (case k4 => k_asm); (case k5 => k_asm); (case k6 => k_is); (case k7 => k_is); (case k8 => ktr_room); (case k9 => first | exact binds_K (by k_in) rfl (by k_is) rfl rfl rfl | exact BindsTo.of_eq rfl); (case c5 => decide); (case kB => exact locs rfl); (case c2 => exact rfl); (case c3 => exact rfl); (case c4 => exact rfl); k_whole)
  intro g1 L1 h1 FG1 F1 N1 B1 X1 T1
  (try dsimp only)
  (try k_fold)
  repeat' (first | (k_unfold; (try dsimp only)) | ((with_reducible show UnrEnd _ _ _ _ _ _ _); first | with_reducible (k_here; refine Stop.out ?_)) | ((with_reducible show wpAny _ _ (setItem (Value.ref _) (Value.str _ _) _) _ _ _); first | with_reducible (k_here; k_dflt (refine' kids_set (by k_asm) (by k_asm) (by k_updF) (by assumption) ?_); intro h' o' F' N' hd'; (try dsimp only at N'))) | ((with_reducible show wpAny _ _ (call (Value.builtin "list.append") _) _ _ _); first | with_reducible (k_here; (with_reducible show wpAny _ _ (call (Value.builtin _) [Value.ref _, _]) _ _ _); k_dflt (refine' append_K (by k_asm) (by k_asm) (by k_upd) ?_ (by (rw [List.size_toArray, sizeLine_eq]; omega)); k_whole); intro h' F' N'; (try k_sweep))) | ((with_reducible show wpAny _ _ (pyIter (Value.ref _)) _ _ _); first | with_reducible (k_here; (with_reducible show wpAny _ _ (pyIter (Value.ref _)) (fun it s₂ => LoopAtV _ _ _ _ _ _ _ _ _ it s₂) _ _); refine Stop.out ?_) | (k_here; (with_reducible show wpAny _ _ (pyIter (Value.ref _)) (fun it s₂ => LoopAtV _ _ _ _ _ _ _ _ _ it s₂) _ _); refine Stop.out ?_)) | ((with_reducible show wpAny _ _ (exec (Stmt.For _ _ _ _ _) _) _ _ _); first | with_reducible (k_here; (rename Fr _ _ _ _ => lF'); (with_unfolding_all refine' For_invVF lF' (by exact rfl) (by exact rfl) ?_; k_whole)) | (k_here; (rename Fr _ _ _ _ => lF'); (with_unfolding_all refine' For_invVF lF' (by exact rfl) (by exact rfl) ?_; k_whole))) | ((with_reducible show wpAny _ _ (compareOp CmpOp.In (Value.str _ _) (Value.ref _)) _ _ _); first | with_reducible (k_here; k_dflt (refine' kids_yes (by k_asm) (by k_mem) (by assumption) (by assumption) ?_))) | ((with_reducible show wpAny _ _ (call (Value.ref _) _) _ _ _); first | with_reducible (k_here; (with_reducible show wpAny _ _ (call (Value.ref 400) _) _ _ _); k_dflt ( refine' spec_use (f := 400) (by k_asm) (by k_asm) (by k_asm) (by k_asm) (by k_asm) (by first | exact rfl | assumption) (Gath.use (by assumption) (by ktd_sub) (by k_mem) (by exact snoc_ne _ _) (by (rw [List.length_append, List.length_singleton]; assumption)) (by exact Places.mono (by assumption) (by ktd_sub))) (by ktr_room) (by ktr_units) (ret_made ?_); (intro r9 tl9 h9 tk9 F9 N9 up9 nd9; (try simp only [List.cons_append] at N9); (try k_sweep); (try dsimp only); (try k_fold)))) | with_reducible (k_here; (with_reducible show wpAny _ _ (call (Value.ref 379) _) _ _ _); k_dflt ( refine' spec_use (f := 379) (by k_asm) (by k_asm) (by k_asm) (by k_asm) (by k_asm) (by first | exact rfl | assumption) (RowC.use (by assumption) (by ktd_sub) (by k_mem) (by assumption) (by assumption)) (by ktr_room) (by ktr_units) (ret_same ?_); (intro h9 tk9 F9 N9; (try k_sweep); (try dsimp only); (try k_fold)))) | with_reducible (k_here; (with_reducible show wpAny _ _ (call (Value.ref 372) _) _ _ _); k_dflt ( refine' spec_use (f := 372) (by k_asm) (by k_asm) (by k_asm) (by k_asm) (by k_asm) (by first | exact rfl | assumption) (NodeC.use (by assumption) (by ktd_sub)) (by ktr_room) (by ktr_units) (ret_same ?_); (intro h9 tk9 F9 N9; (try k_sweep); (try dsimp only); (try k_fold)))) | with_reducible (k_here; (with_reducible show wpAny _ _ (call (Value.ref 386) _) _ _ _); k_dflt ( refine' spec_use (f := 386) (by k_asm) (by k_asm) (by k_asm) (by k_asm) (by k_asm) (by first | exact rfl | assumption) (by assumption) (by ktr_room) (by ktr_units) (ret_long ?_); (intro t9 pl9 nn9 tl9 h9 tk9 F9 N9 up9 m9 pi9; (try k_sweep); (try dsimp only); (try k_fold))))) | ((with_reducible show wpAny _ _ (call (Value.type "dict") _) _ _ _); first | with_reducible (k_here; k_dflt (refine' dict_copy (knd := PySem.strKind _ _) (by k_asm) (by k_asm) (by exact Top.nolimit (by k_asm)) (by k_mem) (by assumption) (by assumption) (by (rw [List.length_append]; have := @limKv_len; exact Nat.le_trans (Nat.add_le_add (limKv_len) (Nat.le_refl _)) (Nat.le_of_ble_eq_true rfl))) ?_); intro D' h' o' F' N' l1 lo' hd')) | ((with_reducible show wpAny _ _ (execs (Stmt.Assign _ _ _ :: _ :: _) _) _ _ _); first | with_reducible (k_here; (with_reducible refine wpAny_execs_cons ?_); try dsimp only)) | ((with_reducible show RangeRest _ _ _ _ _ _ _ _ _ _ _ _ _ _ _ _ _); first | with_reducible (k_here; first | ((with_reducible refine RangeRest.succ ?_); intro t' h' tk' F' N') | ((with_reducible refine RangeRest.zero ?_); intro h' tk' F' N'))) | (k_end; kc_close) | walk1 | (dsimp only; walk1) | (leave1; (try dsimp only)))
  unfold Stop
  refine iter_list_inv (GInv w news0 n kids _ _) (by rfl) (by k_asm) (by k_asm) (by k_mem) (fun I hI => GInv.start hI (by refine ktn_ltOf ?_; exact ‹_ ∧ AllLt _ _›)) ?_ ?_
  · intro I done v' rem nx it h tk hI e hinv hlp hit F8 N8
    obtain ⟨ys, ny, all, tl, rfl, hall, ht1, hb2, hoI, hys⟩ := hinv
    obtain ⟨d, hG, htk⟩ := hkids.at (i := done.length) (a := v') (by rw [e]; simp)
    have hyl : ys.length ≤ 10 := by have := hys.length; rw [List.length_take] at this; omega
    have hKI : (_ : Nat) ≠ I := hoI _ (.head _)
    have hKa : ∀ p ∈ all, p.1 ≠ _ := fun p hp => by
      rw [hall] at hp
      rcases List.mem_append.mp hp with hp | hp
      · exact Nat.ne_of_lt (hb2 p hp)
      · exact Nat.ne_of_gt (ht1 p hp)
    have hs0 : ∀ p ∈ news0, p ∈ all := fun p hp => by rw [hall]; exact List.mem_append.mpr (.inl (.tail _ (List.mem_append.mpr (.inl (hs p hp)))))
    have ht0 : ∀ p ∈ _, p ∈ all := fun p hp => by rw [hall]; exact List.mem_append.mpr (.inl (.tail _ (List.mem_append.mpr (.inr hp))))
    have hway := ht0 _ ‹_ ∈ _›
    have hpl := Places.snoc (hps.mono fun p hp => (by rw [hall]; exact List.mem_append.mpr (.inl (.tail _ (List.mem_append.mpr (.inl hp)))) : p ∈ all)) (PlaceIs.mono (by assumption) ht0) hoki
    repeat' (first | (k_unfold; (try dsimp only)) | ((with_reducible show UnrEnd _ _ _ _ _ _ _); first | with_reducible (k_here; refine Stop.out ?_)) | ((with_reducible show wpAny _ _ (setItem (Value.ref _) (Value.str _ _) _) _ _ _); first | with_reducible (k_here; k_dflt (refine' kids_set (by k_asm) (by k_asm) (by k_updF) (by assumption) ?_); intro h' o' F' N' hd'; (try dsimp only at N'))) | ((with_reducible show wpAny _ _ (call (Value.builtin "list.append") _) _ _ _); first | with_reducible (k_here; (with_reducible show wpAny _ _ (call (Value.builtin _) [Value.ref _, _]) _ _ _); k_dflt (refine' append_K (by k_asm) (by k_asm) (by k_upd) ?_ (by (rw [List.size_toArray, sizeLine_eq]; omega)); k_whole); intro h' F' N'; (try k_sweep))) | ((with_reducible show wpAny _ _ (pyIter (Value.ref _)) _ _ _); first | with_reducible (k_here; (with_reducible show wpAny _ _ (pyIter (Value.ref _)) (fun it s₂ => LoopAtV _ _ _ _ _ _ _ _ _ it s₂) _ _); refine Stop.out ?_) | (k_here; (with_reducible show wpAny _ _ (pyIter (Value.ref _)) (fun it s₂ => LoopAtV _ _ _ _ _ _ _ _ _ it s₂) _ _); refine Stop.out ?_)) | ((with_reducible show wpAny _ _ (exec (Stmt.For _ _ _ _ _) _) _ _ _); first | with_reducible (k_here; (rename Fr _ _ _ _ => lF'); (with_unfolding_all refine' For_invVF lF' (by exact rfl) (by exact rfl) ?_; k_whole)) | (k_here; (rename Fr _ _ _ _ => lF'); (with_unfolding_all refine' For_invVF lF' (by exact rfl) (by exact rfl) ?_; k_whole))) | ((with_reducible show wpAny _ _ (compareOp CmpOp.In (Value.str _ _) (Value.ref _)) _ _ _); first | with_reducible (k_here; k_dflt (refine' kids_yes (by k_asm) (by k_mem) (by assumption) (by assumption) ?_))) | ((with_reducible show wpAny _ _ (call (Value.ref _) _) _ _ _); first | with_reducible (k_here; (with_reducible show wpAny _ _ (call (Value.ref 400) _) _ _ _); k_dflt ( refine' spec_use (f := 400) (by k_asm) (by k_asm) (by k_asm) (by k_asm) (by k_asm) (by first | exact rfl | assumption) (Gath.use (by assumption) (by ktd_sub) (by k_mem) (by exact snoc_ne _ _) (by (rw [List.length_append, List.length_singleton]; assumption)) (by exact Places.mono (by assumption) (by ktd_sub))) (by ktr_room) (by ktr_units) (ret_made ?_); (intro r9 tl9 h9 tk9 F9 N9 up9 nd9; (try simp only [List.cons_append] at N9); (try k_sweep); (try dsimp only); (try k_fold)))) | with_reducible (k_here; (with_reducible show wpAny _ _ (call (Value.ref 379) _) _ _ _); k_dflt ( refine' spec_use (f := 379) (by k_asm) (by k_asm) (by k_asm) (by k_asm) (by k_asm) (by first | exact rfl | assumption) (RowC.use (by assumption) (by ktd_sub) (by k_mem) (by assumption) (by assumption)) (by ktr_room) (by ktr_units) (ret_same ?_); (intro h9 tk9 F9 N9; (try k_sweep); (try dsimp only); (try k_fold)))) | with_reducible (k_here; (with_reducible show wpAny _ _ (call (Value.ref 372) _) _ _ _); k_dflt ( refine' spec_use (f := 372) (by k_asm) (by k_asm) (by k_asm) (by k_asm) (by k_asm) (by first | exact rfl | assumption) (NodeC.use (by assumption) (by ktd_sub)) (by ktr_room) (by ktr_units) (ret_same ?_); (intro h9 tk9 F9 N9; (try k_sweep); (try dsimp only); (try k_fold)))) | with_reducible (k_here; (with_reducible show wpAny _ _ (call (Value.ref 386) _) _ _ _); k_dflt ( refine' spec_use (f := 386) (by k_asm) (by k_asm) (by k_asm) (by k_asm) (by k_asm) (by first | exact rfl | assumption) (by assumption) (by ktr_room) (by ktr_units) (ret_long ?_); (intro t9 pl9 nn9 tl9 h9 tk9 F9 N9 up9 m9 pi9; (try k_sweep); (try dsimp only); (try k_fold))))) | ((with_reducible show wpAny _ _ (call (Value.type "dict") _) _ _ _); first | with_reducible (k_here; k_dflt (refine' dict_copy (knd := PySem.strKind _ _) (by k_asm) (by k_asm) (by exact Top.nolimit (by k_asm)) (by k_mem) (by assumption) (by assumption) (by (rw [List.length_append]; have := @limKv_len; exact Nat.le_trans (Nat.add_le_add (limKv_len) (Nat.le_refl _)) (Nat.le_of_ble_eq_true rfl))) ?_); intro D' h' o' F' N' l1 lo' hd')) | ((with_reducible show wpAny _ _ (execs (Stmt.Assign _ _ _ :: _ :: _) _) _ _ _); first | with_reducible (k_here; (with_reducible refine wpAny_execs_cons ?_); try dsimp only)) | ((with_reducible show RangeRest _ _ _ _ _ _ _ _ _ _ _ _ _ _ _ _ _); first | with_reducible (k_here; first | ((with_reducible refine RangeRest.succ ?_); intro t' h' tk' F' N') | ((with_reducible refine RangeRest.zero ?_); intro h' tk' F' N'))) | (k_end; kc_close) | walk1 | (dsimp only; walk1) | (leave1; (try dsimp only)))
    unfold Stop
    exact unrEnd_pick (by k_asm) (by k_asm) Pick.head (off_I hoI (by assumption)) ⟨fun z hz => if_neg hz, .tail _ (mem_inl' (hs0 _ hb0)), GInv.next hall ht1 hb2 hoI hys (by assumption) (by assumption) htk⟩
  · intro I u nx h tk hinv F8 N8
    obtain ⟨ys, ny, all, tl, rfl, hall, ht1, hb2, hoI, hys⟩ := hinv
    subst hall
    have hoD := off_D (by assumption) hb2 ht1
    simp only [List.cons_append] at N8
    rw [show vs.length = kids.length from hkids.length, List.take_length] at hys
    dsimp only
    repeat' (first | (k_unfold; (try dsimp only)) | ((with_reducible show UnrEnd _ _ _ _ _ _ _); first | with_reducible (k_here; refine Stop.out ?_)) | ((with_reducible show wpAny _ _ (setItem (Value.ref _) (Value.str _ _) _) _ _ _); first | with_reducible (k_here; k_dflt (refine' kids_set (by k_asm) (by k_asm) (by k_updF) (by assumption) ?_); intro h' o' F' N' hd'; (try dsimp only at N'))) | ((with_reducible show wpAny _ _ (call (Value.builtin "list.append") _) _ _ _); first | with_reducible (k_here; (with_reducible show wpAny _ _ (call (Value.builtin _) [Value.ref _, _]) _ _ _); k_dflt (refine' append_K (by k_asm) (by k_asm) (by k_upd) ?_ (by (rw [List.size_toArray, sizeLine_eq]; omega)); k_whole); intro h' F' N'; (try k_sweep))) | ((with_reducible show wpAny _ _ (pyIter (Value.ref _)) _ _ _); first | with_reducible (k_here; (with_reducible show wpAny _ _ (pyIter (Value.ref _)) (fun it s₂ => LoopAtV _ _ _ _ _ _ _ _ _ it s₂) _ _); refine Stop.out ?_) | (k_here; (with_reducible show wpAny _ _ (pyIter (Value.ref _)) (fun it s₂ => LoopAtV _ _ _ _ _ _ _ _ _ it s₂) _ _); refine Stop.out ?_)) | ((with_reducible show wpAny _ _ (exec (Stmt.For _ _ _ _ _) _) _ _ _); first | with_reducible (k_here; (rename Fr _ _ _ _ => lF'); (with_unfolding_all refine' For_invVF lF' (by exact rfl) (by exact rfl) ?_; k_whole)) | (k_here; (rename Fr _ _ _ _ => lF'); (with_unfolding_all refine' For_invVF lF' (by exact rfl) (by exact rfl) ?_; k_whole))) | ((with_reducible show wpAny _ _ (compareOp CmpOp.In (Value.str _ _) (Value.ref _)) _ _ _); first | with_reducible (k_here; k_dflt (refine' kids_yes (by k_asm) (by k_mem) (by assumption) (by assumption) ?_))) | ((with_reducible show wpAny _ _ (call (Value.ref _) _) _ _ _); first | with_reducible (k_here; (with_reducible show wpAny _ _ (call (Value.ref 400) _) _ _ _); k_dflt ( refine' spec_use (f := 400) (by k_asm) (by k_asm) (by k_asm) (by k_asm) (by k_asm) (by first | exact rfl | assumption) (Gath.use (by assumption) (by ktd_sub) (by k_mem) (by exact snoc_ne _ _) (by (rw [List.length_append, List.length_singleton]; assumption)) (by exact Places.mono (by assumption) (by ktd_sub))) (by ktr_room) (by ktr_units) (ret_made ?_); (intro r9 tl9 h9 tk9 F9 N9 up9 nd9; (try simp only [List.cons_append] at N9); (try k_sweep); (try dsimp only); (try k_fold)))) | with_reducible (k_here; (with_reducible show wpAny _ _ (call (Value.ref 379) _) _ _ _); k_dflt ( refine' spec_use (f := 379) (by k_asm) (by k_asm) (by k_asm) (by k_asm) (by k_asm) (by first | exact rfl | assumption) (RowC.use (by assumption) (by ktd_sub) (by k_mem) (by assumption) (by assumption)) (by ktr_room) (by ktr_units) (ret_same ?_); (intro h9 tk9 F9 N9; (try k_sweep); (try dsimp only); (try k_fold)))) | with_reducible (k_here; (with_reducible show wpAny _ _ (call (Value.ref 372) _) _ _ _); k_dflt ( refine' spec_use (f := 372) (by k_asm) (by k_asm) (by k_asm) (by k_asm) (by k_asm) (by first | exact rfl | assumption) (NodeC.use (by assumption) (by ktd_sub)) (by ktr_room) (by ktr_units) (ret_same ?_); (intro h9 tk9 F9 N9; (try k_sweep); (try dsimp only); (try k_fold)))) | with_reducible (k_here; (with_reducible show wpAny _ _ (call (Value.ref 386) _) _ _ _); k_dflt ( refine' spec_use (f := 386) (by k_asm) (by k_asm) (by k_asm) (by k_asm) (by k_asm) (by first | exact rfl | assumption) (by assumption) (by ktr_room) (by ktr_units) (ret_long ?_); (intro t9 pl9 nn9 tl9 h9 tk9 F9 N9 up9 m9 pi9; (try k_sweep); (try dsimp only); (try k_fold))))) | ((with_reducible show wpAny _ _ (call (Value.type "dict") _) _ _ _); first | with_reducible (k_here; k_dflt (refine' dict_copy (knd := PySem.strKind _ _) (by k_asm) (by k_asm) (by exact Top.nolimit (by k_asm)) (by k_mem) (by assumption) (by assumption) (by (rw [List.length_append]; have := @limKv_len; exact Nat.le_trans (Nat.add_le_add (limKv_len) (Nat.le_refl _)) (Nat.le_of_ble_eq_true rfl))) ?_); intro D' h' o' F' N' l1 lo' hd')) | ((with_reducible show wpAny _ _ (execs (Stmt.Assign _ _ _ :: _ :: _) _) _ _ _); first | with_reducible (k_here; (with_reducible refine wpAny_execs_cons ?_); try dsimp only)) | ((with_reducible show RangeRest _ _ _ _ _ _ _ _ _ _ _ _ _ _ _ _ _); first | with_reducible (k_here; first | ((with_reducible refine RangeRest.succ ?_); intro t' h' tk' F' N') | ((with_reducible refine RangeRest.zero ?_); intro h' tk' F' N'))) | (k_end; kc_close) | walk1 | (dsimp only; walk1) | (leave1; (try dsimp only)))
    refine finish hret (by k_asm) (by k_asm) (by ktd_sub) fun tl' U keep => ?_
    refine NodeIs.gathered (keep _ (.tail _ (.head _)) (by ktn_ord)) (by assumption) (by assumption) hlim (keep _ (.head _) (by ktn_ord)) hys (fun p hp => keep p (.tail _ (.tail _ (List.mem_append.mpr (.inr hp)))) fun q hq => Nat.lt_trans (hb2 q (.tail _ (mem_inl' hq))) (ht1 p hp)) hlen
set_option maxRecDepth 100000 in
set_option maxHeartbeats 8000000 in
theorem gather_in2 (w : World) (news0 news : List (Addr × Obj)) (S u : Addr) (ou : Obj) (v lv : Value) (b : Addr) (vs : List Value) (mb0 : Nat) (kids : List Node) (lim : Option (List Item)) (ps : List Value) (i : Int) (sz n : Nat) (hs : ∀ p ∈ news0, p ∈ news) (hu0 : (u, ou) ∈ news0) (lo : (u == sysModules) = false)
   (hd : ou.IsDictOf (PySem.strKind PySem.Challenge.rw_og0169_01.row.prog w) (limKv lim lv ++ [(Str.ofString "Kids", .ref b)])) (hlim : LimIs w news0 lim lv) (hb0 : (b, listOf vs.toArray mb0) ∈ news0) (hlen : kids.length ≤ 10) (len : Nat) (ok : Int → Prop) (hlen2 : ps.length + 1 ≤ len) (hps : Places news ok ps) (hoki : ok i) (hkids : All2 (Gath w news0 S sz n len ok) vs kids)
   (hN : NodeC w news0 S v u) (hR : RowC w news0 S b) (hL : Spec w 386 1 [.ref 392, v] news (Made news (LongPost ps i))) (dS T R : Addr) (k1 k2 : Tok) (n2 : Nat) (h1 : (S, instObj 363 dS) ∈ news) (h2 : (dS, dictOf (shelfD w k1 k2 T R) n2) ∈ news) (hsz : 3 ≤ sz) :
   Spec w 400 (sz + 1) [.ref S, v] news (Made news fun r tl => NodeIs w (news0 ++ tl) (n + 1) r (.inner lim kids)) := by
  have hu1 := hs _ hu0
  have hb1 := hs _ hb0
  unfold Spec
  k_fill
  intro dp un gd cn cs a ccd cl outer A₀ base h₀ L m s loose mean mg mb Q E B F X N T hk hd hu hret
  refine wpAny_call ?_
  k_dflt (refine' code_def ?k1 ?k2 ?k3 ?k4 ?k5 ?kA ?kF ?kK ?k6 ?k7 ?k8 ?k9 ?kB ?_ ?c2 ?c3 ?c4 ?c5; (case kA => exact rfl); (case kF => exact rfl); (case kK => assumption); (case k1 => k_asm); (case k2 => k_asm); (case k3 => k_asm); (case k4 => k_asm); (case k5 => k_asm); (case k6 => k_is); (case k7 => k_is); (case k8 => ktr_room); (case k9 => first | exact binds_K (by k_in) rfl (by k_is) rfl rfl rfl | exact BindsTo.of_eq rfl); (case c5 => decide); (case kB => exact locs rfl); (case c2 => exact rfl); (case c3 => exact rfl); (case c4 => exact rfl); k_whole)
  intro g1 L1 h1 FG1 F1 N1 B1 X1 T1
  (try dsimp only)
  (try k_fold)
  repeat' (first | (k_unfold; (try dsimp only)) | ((with_reducible show UnrEnd _ _ _ _ _ _ _); first | with_reducible (k_here; refine Stop.out ?_)) | ((with_reducible show wpAny _ _ (setItem (Value.ref _) (Value.str _ _) _) _ _ _); first | with_reducible (k_here; k_dflt (refine' kids_set (by k_asm) (by k_asm) (by k_updF) (by assumption) ?_); intro h' o' F' N' hd'; (try dsimp only at N'))) | ((with_reducible show wpAny _ _ (call (Value.builtin "list.append") _) _ _ _); first | with_reducible (k_here; (with_reducible show wpAny _ _ (call (Value.builtin _) [Value.ref _, _]) _ _ _); k_dflt (refine' append_K (by k_asm) (by k_asm) (by k_upd) ?_ (by (rw [List.size_toArray, sizeLine_eq]; omega)); k_whole); intro h' F' N'; (try k_sweep))) | ((with_reducible show wpAny _ _ (pyIter (Value.ref _)) _ _ _); first | with_reducible (k_here; (with_reducible show wpAny _ _ (pyIter (Value.ref _)) (fun it s₂ => LoopAtV _ _ _ _ _ _ _ _ _ it s₂) _ _); refine Stop.out ?_) | (k_here; (with_reducible show wpAny _ _ (pyIter (Value.ref _)) (fun it s₂ => LoopAtV _ _ _ _ _ _ _ _ _ it s₂) _ _); refine Stop.out ?_)) | ((with_reducible show wpAny _ _ (exec (Stmt.For _ _ _ _ _) _) _ _ _); first | with_reducible (k_here; (rename Fr _ _ _ _ => lF'); (with_unfolding_all refine' For_invVF lF' (by exact rfl) (by exact rfl) ?_; k_whole)) | (k_here; (rename Fr _ _ _ _ => lF'); (with_unfolding_all refine' For_invVF lF' (by exact rfl) (by exact rfl) ?_; k_whole))) | ((with_reducible show wpAny _ _ (compareOp CmpOp.In (Value.str _ _) (Value.ref _)) _ _ _); first | with_reducible (k_here; k_dflt (refine' kids_yes (by k_asm) (by k_mem) (by assumption) (by assumption) ?_))) | ((with_reducible show wpAny _ _ (call (Value.ref _) _) _ _ _); first | with_reducible (k_here; (with_reducible show wpAny _ _ (call (Value.ref 400) _) _ _ _); k_dflt ( refine' spec_use (f := 400) (by k_asm) (by k_asm) (by k_asm) (by k_asm) (by k_asm) (by first | exact rfl | assumption) (Gath.use (by assumption) (by ktd_sub) (by k_mem) (by exact snoc_ne _ _) (by (rw [List.length_append, List.length_singleton]; assumption)) (by exact Places.mono (by assumption) (by ktd_sub))) (by ktr_room) (by ktr_units) (ret_made ?_); (intro r9 tl9 h9 tk9 F9 N9 up9 nd9; (try simp only [List.cons_append] at N9); (try k_sweep); (try dsimp only); (try k_fold)))) | with_reducible (k_here; (with_reducible show wpAny _ _ (call (Value.ref 379) _) _ _ _); k_dflt ( refine' spec_use (f := 379) (by k_asm) (by k_asm) (by k_asm) (by k_asm) (by k_asm) (by first | exact rfl | assumption) (RowC.use (by assumption) (by ktd_sub) (by k_mem) (by assumption) (by assumption)) (by ktr_room) (by ktr_units) (ret_same ?_); (intro h9 tk9 F9 N9; (try k_sweep); (try dsimp only); (try k_fold)))) | with_reducible (k_here; (with_reducible show wpAny _ _ (call (Value.ref 372) _) _ _ _); k_dflt ( refine' spec_use (f := 372) (by k_asm) (by k_asm) (by k_asm) (by k_asm) (by k_asm) (by first | exact rfl | assumption) (NodeC.use (by assumption) (by ktd_sub)) (by ktr_room) (by ktr_units) (ret_same ?_); (intro h9 tk9 F9 N9; (try k_sweep); (try dsimp only); (try k_fold)))) | with_reducible (k_here; (with_reducible show wpAny _ _ (call (Value.ref 386) _) _ _ _); k_dflt ( refine' spec_use (f := 386) (by k_asm) (by k_asm) (by k_asm) (by k_asm) (by k_asm) (by first | exact rfl | assumption) (by assumption) (by ktr_room) (by ktr_units) (ret_long ?_); (intro t9 pl9 nn9 tl9 h9 tk9 F9 N9 up9 m9 pi9; (try k_sweep); (try dsimp only); (try k_fold))))) | ((with_reducible show wpAny _ _ (call (Value.type "dict") _) _ _ _); first | with_reducible (k_here; k_dflt (refine' dict_copy (knd := PySem.strKind _ _) (by k_asm) (by k_asm) (by exact Top.nolimit (by k_asm)) (by k_mem) (by assumption) (by assumption) (by (rw [List.length_append]; have := @limKv_len; exact Nat.le_trans (Nat.add_le_add (limKv_len) (Nat.le_refl _)) (Nat.le_of_ble_eq_true rfl))) ?_); intro D' h' o' F' N' l1 lo' hd')) | ((with_reducible show wpAny _ _ (execs (Stmt.Assign _ _ _ :: _ :: _) _) _ _ _); first | with_reducible (k_here; (with_reducible refine wpAny_execs_cons ?_); try dsimp only)) | ((with_reducible show RangeRest _ _ _ _ _ _ _ _ _ _ _ _ _ _ _ _ _); first | with_reducible (k_here; first | ((with_reducible refine RangeRest.succ ?_); intro t' h' tk' F' N') | ((with_reducible refine RangeRest.zero ?_); intro h' tk' F' N'))) | (k_end; kc_close) | walk1 | (dsimp only; walk1) | (leave1; (try dsimp only)))
  unfold Stop
  refine iter_list_inv (GInv w news0 n kids _ _) (by rfl) (by k_asm) (by k_asm) (by k_mem) (fun I hI => GInv.start hI (by refine ktn_ltOf ?_; exact ‹_ ∧ AllLt _ _›)) ?_ ?_
  · intro I done v' rem nx it h tk hI e hinv hlp hit F8 N8
    obtain ⟨ys, ny, all, tl, rfl, hall, ht1, hb2, hoI, hys⟩ := hinv
    obtain ⟨d, hG, htk⟩ := hkids.at (i := done.length) (a := v') (by rw [e]; simp)
    have hyl : ys.length ≤ 10 := by have := hys.length; rw [List.length_take] at this; omega
    have hKI : (_ : Nat) ≠ I := hoI _ (.head _)
    have hKa : ∀ p ∈ all, p.1 ≠ _ := fun p hp => by
      rw [hall] at hp
      rcases List.mem_append.mp hp with hp | hp
      · exact Nat.ne_of_lt (hb2 p hp)
      · exact Nat.ne_of_gt (ht1 p hp)
    have hs0 : ∀ p ∈ news0, p ∈ all := fun p hp => by rw [hall]; exact List.mem_append.mpr (.inl (.tail _ (List.mem_append.mpr (.inl (hs p hp)))))
    have ht0 : ∀ p ∈ _, p ∈ all := fun p hp => by rw [hall]; exact List.mem_append.mpr (.inl (.tail _ (List.mem_append.mpr (.inr hp))))
    have hway := ht0 _ ‹_ ∈ _›
    have hpl := Places.snoc (hps.mono fun p hp => (by rw [hall]; exact List.mem_append.mpr (.inl (.tail _ (List.mem_append.mpr (.inl hp)))) : p ∈ all)) (PlaceIs.mono (by assumption) ht0) hoki
    repeat' (first | (k_unfold; (try dsimp only)) | ((with_reducible show UnrEnd _ _ _ _ _ _ _); first | with_reducible (k_here; refine Stop.out ?_)) | ((with_reducible show wpAny _ _ (setItem (Value.ref _) (Value.str _ _) _) _ _ _); first | with_reducible (k_here; k_dflt (refine' kids_set (by k_asm) (by k_asm) (by k_updF) (by assumption) ?_); intro h' o' F' N' hd'; (try dsimp only at N'))) | ((with_reducible show wpAny _ _ (call (Value.builtin "list.append") _) _ _ _); first | with_reducible (k_here; (with_reducible show wpAny _ _ (call (Value.builtin _) [Value.ref _, _]) _ _ _); k_dflt (refine' append_K (by k_asm) (by k_asm) (by k_upd) ?_ (by (rw [List.size_toArray, sizeLine_eq]; omega)); k_whole); intro h' F' N'; (try k_sweep))) | ((with_reducible show wpAny _ _ (pyIter (Value.ref _)) _ _ _); first | with_reducible (k_here; (with_reducible show wpAny _ _ (pyIter (Value.ref _)) (fun it s₂ => LoopAtV _ _ _ _ _ _ _ _ _ it s₂) _ _); refine Stop.out ?_) | (k_here; (with_reducible show wpAny _ _ (pyIter (Value.ref _)) (fun it s₂ => LoopAtV _ _ _ _ _ _ _ _ _ it s₂) _ _); refine Stop.out ?_)) | ((with_reducible show wpAny _ _ (exec (Stmt.For _ _ _ _ _) _) _ _ _); first | with_reducible (k_here; (rename Fr _ _ _ _ => lF'); (with_unfolding_all refine' For_invVF lF' (by exact rfl) (by exact rfl) ?_; k_whole)) | (k_here; (rename Fr _ _ _ _ => lF'); (with_unfolding_all refine' For_invVF lF' (by exact rfl) (by exact rfl) ?_; k_whole))) | ((with_reducible show wpAny _ _ (compareOp CmpOp.In (Value.str _ _) (Value.ref _)) _ _ _); first | with_reducible (k_here; k_dflt (refine' kids_yes (by k_asm) (by k_mem) (by assumption) (by assumption) ?_))) | ((with_reducible show wpAny _ _ (call (Value.ref _) _) _ _ _); first | with_reducible (k_here; (with_reducible show wpAny _ _ (call (Value.ref 400) _) _ _ _); k_dflt ( refine' spec_use (f := 400) (by k_asm) (by k_asm) (by k_asm) (by k_asm) (by k_asm) (by first | exact rfl | assumption) (Gath.use (by assumption) (by ktd_sub) (by k_mem) (by exact snoc_ne _ _) (by (rw [List.length_append, List.length_singleton]; assumption)) (by exact Places.mono (by assumption) (by ktd_sub))) (by ktr_room) (by ktr_units) (ret_made ?_); (intro r9 tl9 h9 tk9 F9 N9 up9 nd9; (try simp only [List.cons_append] at N9); (try k_sweep); (try dsimp only); (try k_fold)))) | with_reducible (k_here; (with_reducible show wpAny _ _ (call (Value.ref 379) _) _ _ _); k_dflt ( refine' spec_use (f := 379) (by k_asm) (by k_asm) (by k_asm) (by k_asm) (by k_asm) (by first | exact rfl | assumption) (RowC.use (by assumption) (by ktd_sub) (by k_mem) (by assumption) (by assumption)) (by ktr_room) (by ktr_units) (ret_same ?_); (intro h9 tk9 F9 N9; (try k_sweep); (try dsimp only); (try k_fold)))) | with_reducible (k_here; (with_reducible show wpAny _ _ (call (Value.ref 372) _) _ _ _); k_dflt ( refine' spec_use (f := 372) (by k_asm) (by k_asm) (by k_asm) (by k_asm) (by k_asm) (by first | exact rfl | assumption) (NodeC.use (by assumption) (by ktd_sub)) (by ktr_room) (by ktr_units) (ret_same ?_); (intro h9 tk9 F9 N9; (try k_sweep); (try dsimp only); (try k_fold)))) | with_reducible (k_here; (with_reducible show wpAny _ _ (call (Value.ref 386) _) _ _ _); k_dflt ( refine' spec_use (f := 386) (by k_asm) (by k_asm) (by k_asm) (by k_asm) (by k_asm) (by first | exact rfl | assumption) (by assumption) (by ktr_room) (by ktr_units) (ret_long ?_); (intro t9 pl9 nn9 tl9 h9 tk9 F9 N9 up9 m9 pi9; (try k_sweep); (try dsimp only); (try k_fold))))) | ((with_reducible show wpAny _ _ (call (Value.type "dict") _) _ _ _); first | with_reducible (k_here; k_dflt (refine' dict_copy (knd := PySem.strKind _ _) (by k_asm) (by k_asm) (by exact Top.nolimit (by k_asm)) (by k_mem) (by assumption) (by assumption) (by (rw [List.length_append]; have := @limKv_len; exact Nat.le_trans (Nat.add_le_add (limKv_len) (Nat.le_refl _)) (Nat.le_of_ble_eq_true rfl))) ?_); intro D' h' o' F' N' l1 lo' hd')) | ((with_reducible show wpAny _ _ (execs (Stmt.Assign _ _ _ :: _ :: _) _) _ _ _); first | with_reducible (k_here; (with_reducible refine wpAny_execs_cons ?_); try dsimp only)) | ((with_reducible show RangeRest _ _ _ _ _ _ _ _ _ _ _ _ _ _ _ _ _); first | with_reducible (k_here; first | ((with_reducible refine RangeRest.succ ?_); intro t' h' tk' F' N') | ((with_reducible refine RangeRest.zero ?_); intro h' tk' F' N'))) | (k_end; kc_close) | walk1 | (dsimp only; walk1) | (leave1; (try dsimp only)))
    unfold Stop
    exact unrEnd_pick (by k_asm) (by k_asm) Pick.head (off_I hoI (by assumption)) ⟨fun z hz => if_neg hz, .tail _ (mem_inl' (hs0 _ hb0)), GInv.next hall ht1 hb2 hoI hys (by assumption) (by assumption) htk⟩
  · intro I u nx h tk hinv F8 N8
    obtain ⟨ys, ny, all, tl, rfl, hall, ht1, hb2, hoI, hys⟩ := hinv
    subst hall
    have hoD := off_D (by assumption) hb2 ht1
    simp only [List.cons_append] at N8
    rw [show vs.length = kids.length from hkids.length, List.take_length] at hys
    dsimp only
    repeat' (first | (k_unfold; (try dsimp only)) | ((with_reducible show UnrEnd _ _ _ _ _ _ _); first | with_reducible (k_here; refine Stop.out ?_)) | ((with_reducible show wpAny _ _ (setItem (Value.ref _) (Value.str _ _) _) _ _ _); first | with_reducible (k_here; k_dflt (refine' kids_set (by k_asm) (by k_asm) (by k_updF) (by assumption) ?_); intro h' o' F' N' hd'; (try dsimp only at N'))) | ((with_reducible show wpAny _ _ (call (Value.builtin "list.append") _) _ _ _); first | with_reducible (k_here; (with_reducible show wpAny _ _ (call (Value.builtin _) [Value.ref _, _]) _ _ _); k_dflt (refine' append_K (by k_asm) (by k_asm) (by k_upd) ?_ (by (rw [List.size_toArray, sizeLine_eq]; omega)); k_whole); intro h' F' N'; (try k_sweep))) | ((with_reducible show wpAny _ _ (pyIter (Value.ref _)) _ _ _); first | with_reducible (k_here; (with_reducible show wpAny _ _ (pyIter (Value.ref _)) (fun it s₂ => LoopAtV _ _ _ _ _ _ _ _ _ it s₂) _ _); refine Stop.out ?_) | (k_here; (with_reducible show wpAny _ _ (pyIter (Value.ref _)) (fun it s₂ => LoopAtV _ _ _ _ _ _ _ _ _ it s₂) _ _); refine Stop.out ?_)) | ((with_reducible show wpAny _ _ (exec (Stmt.For _ _ _ _ _) _) _ _ _); first | with_reducible (k_here; (rename Fr _ _ _ _ => lF'); (with_unfolding_all refine' For_invVF lF' (by exact rfl) (by exact rfl) ?_; k_whole)) | (k_here; (rename Fr _ _ _ _ => lF'); (with_unfolding_all refine' For_invVF lF' (by exact rfl) (by exact rfl) ?_; k_whole))) | ((with_reducible show wpAny _ _ (compareOp CmpOp.In (Value.str _ _) (Value.ref _)) _ _ _); first | with_reducible (k_here; k_dflt (refine' kids_yes (by k_asm) (by k_mem) (by assumption) (by assumption) ?_))) | ((with_reducible show wpAny _ _ (call (Value.ref _) _) _ _ _); first | with_reducible (k_here; (with_reducible show wpAny _ _ (call (Value.ref 400) _) _ _ _); k_dflt ( refine' spec_use (f := 400) (by k_asm) (by k_asm) (by k_asm) (by k_asm) (by k_asm) (by first | exact rfl | assumption) (Gath.use (by assumption) (by ktd_sub) (by k_mem) (by exact snoc_ne _ _) (by (rw [List.length_append, List.length_singleton]; assumption)) (by exact Places.mono (by assumption) (by ktd_sub))) (by ktr_room) (by ktr_units) (ret_made ?_); (intro r9 tl9 h9 tk9 F9 N9 up9 nd9; (try simp only [List.cons_append] at N9); (try k_sweep); (try dsimp only); (try k_fold)))) | with_reducible (k_here; (with_reducible show wpAny _ _ (call (Value.ref 379) _) _ _ _); k_dflt ( refine' spec_use (f := 379) (by k_asm) (by k_asm) (by k_asm) (by k_asm) (by k_asm) (by first | exact rfl | assumption) (RowC.use (by assumption) (by ktd_sub) (by k_mem) (by assumption) (by assumption)) (by ktr_room) (by ktr_units) (ret_same ?_); (intro h9 tk9 F9 N9; (try k_sweep); (try dsimp only); (try k_fold)))) | with_reducible (k_here; (with_reducible show wpAny _ _ (call (Value.ref 372) _) _ _ _); k_dflt ( refine' spec_use (f := 372) (by k_asm) (by k_asm) (by k_asm) (by k_asm) (by k_asm) (by first | exact rfl | assumption) (NodeC.use (by assumption) (by ktd_sub)) (by ktr_room) (by ktr_units) (ret_same ?_); (intro h9 tk9 F9 N9; (try k_sweep); (try dsimp only); (try k_fold)))) | with_reducible (k_here; (with_reducible show wpAny _ _ (call (Value.ref 386) _) _ _ _); k_dflt ( refine' spec_use (f := 386) (by k_asm) (by k_asm) (by k_asm) (by k_asm) (by k_asm) (by first | exact rfl | assumption) (by assumption) (by ktr_room) (by ktr_units) (ret_long ?_); (intro t9 pl9 nn9 tl9 h9 tk9 F9 N9 up9 m9 pi9; (try k_sweep); (try dsimp only); (try k_fold))))) | ((with_reducible show wpAny _ _ (call (Value.type "dict") _) _ _ _); first | with_reducible (k_here; k_dflt (refine' dict_copy (knd := PySem.strKind _ _) (by k_asm) (by k_asm) (by exact Top.nolimit (by k_asm)) (by k_mem) (by assumption) (by assumption) (by (rw [List.length_append]; have := @limKv_len; exact Nat.le_trans (Nat.add_le_add (limKv_len) (Nat.le_refl _)) (Nat.le_of_ble_eq_true rfl))) ?_); intro D' h' o' F' N' l1 lo' hd')) | ((with_reducible show wpAny _ _ (execs (Stmt.Assign _ _ _ :: _ :: _) _) _ _ _); first | with_reducible (k_here; (with_reducible refine wpAny_execs_cons ?_); try dsimp only)) | ((with_reducible show RangeRest _ _ _ _ _ _ _ _ _ _ _ _ _ _ _ _ _); first | with_reducible (k_here; first | ((with_reducible refine RangeRest.succ ?_); intro t' h' tk' F' N') | ((with_reducible refine RangeRest.zero ?_); intro h' tk' F' N'))) | (k_end; kc_close) | walk1 | (dsimp only; walk1) | (leave1; (try dsimp only)))
    refine finish hret (by k_asm) (by k_asm) (by ktd_sub) fun tl' U keep => ?_
    refine NodeIs.gathered (keep _ (.tail _ (.head _)) (by ktn_ord)) (by assumption) (by assumption) hlim (keep _ (.head _) (by ktn_ord)) hys (fun p hp => keep p (.tail _ (.tail _ (List.mem_append.mpr (.inr hp)))) fun q hq => Nat.lt_trans (hb2 q (.tail _ (mem_inl' hq))) (ht1 p hp)) hlen
end
end
end
section
/-- what the numbers of a value's references are held against -/
def Low (w : World) (news : List (Addr × Obj)) (h : Nat) (v : Value) (B B' : Int) : Prop := (h = 0 ∧ B' ≤ B) ∨ (h ≠ 0 ∧ ∃ k, RefIs w news v k 0 ∧ 1 ≤ k ∧ k ≤ B ∧ B' < k)
theorem Low.mono {w : World} {news news' : List (Addr × Obj)} {h : Nat} {v : Value} {B B' : Int} (l : Low w news h v B B') (hs : ∀ p ∈ news, p ∈ news') : Low w news' h v B B' := by
  rcases l with l | ⟨a, k, r, b⟩
  · exact .inl l
  · exact .inr ⟨a, k, r.mono hs, b⟩
theorem Low.up {w : World} {news : List (Addr × Obj)} {h : Nat} {v : Value} {B C B' : Int} (l : Low w news h v B B') (hB : B ≤ C) : Low w news h v C B' := by
  rcases l with ⟨a, b⟩ | ⟨a, k, r, b, c, d⟩
  · exact .inl ⟨a, by omega⟩
  · exact .inr ⟨a, k, r, b, by omega, d⟩
/-- a value that stands for a node: the node's dict, or a reference that leads to it -/
def Stands (w : World) (news : List (Addr × Obj)) (tab : List Value) : Nat → Int → Value → Node → Prop
  | _, B, v, .leaf lim nums => ∃ h u lv nv B', h ≤ 4 ∧ Res w news tab h v (.ref u) ∧ Low w news h v B B' ∧ DictAt w news u (limKv lim lv ++ [(Str.ofString "Nums", nv)]) ∧ LimIs w news lim lv ∧ RowIs w news nv nums
  | 0, _, _, .inner .. => False
  | n + 1, B, v, .inner lim kids => ∃ h u lv b vs m B', h ≤ 4 ∧ Res w news tab h v (.ref u) ∧ Low w news h v B B' ∧ DictAt w news u (limKv lim lv ++ [(Str.ofString "Kids", .ref b)]) ∧ LimIs w news lim lv ∧ (b, listOf vs.toArray m) ∈ news ∧ All2 (Stands w news tab n B') vs kids ∧ kids.length ≤ 10
theorem Stands.mono {w : World} {news news' : List (Addr × Obj)} {tab more : List Value} (hs : ∀ p ∈ news, p ∈ news') : ∀ {n : Nat} {B C : Int} {v : Value} {d : Node}, B ≤ C → Stands w news tab n B v d → Stands w news' (tab ++ more) n C v d := by
  intro n
  induction n with
  | zero =>
    intro B C v d hB h
    cases d with
    | leaf lim nums => obtain ⟨h', u, lv, nv, B', a, b, c, d, e, f⟩ := h; exact ⟨h', u, lv, nv, B', a, b.mono hs, (c.mono hs).up hB, d.mono hs, e.mono hs, f.mono hs⟩
    | inner lim kids => exact h
  | succ n ih =>
    intro B C v d hB h
    cases d with
    | leaf lim nums => obtain ⟨h', u, lv, nv, B', a, b, c, d, e, f⟩ := h; exact ⟨h', u, lv, nv, B', a, b.mono hs, (c.mono hs).up hB, d.mono hs, e.mono hs, f.mono hs⟩
    | inner lim kids => obtain ⟨h', u, lv, b, vs, m, B', a, r, c, d, e, f, g, i⟩ := h; exact ⟨h', u, lv, b, vs, m, B', a, r.mono hs, (c.mono hs).up hB, d.mono hs, e.mono hs, hs _ f, g.imp fun _ _ x => ih (Int.le_refl _) x, i⟩
/-- a tree of dicts stands for itself -/
theorem NodeIs.stands {w : World} {news : List (Addr × Obj)} {tab : List Value} : ∀ {n : Nat} {B : Int} {v : Value} {d : Node}, NodeIs w news n v d → Stands w news tab n B v d := by
  intro n
  induction n with
  | zero =>
    intro B v d h
    cases d with
    | leaf lim nums => obtain ⟨a, lv, nv, rfl, x, y, z⟩ := h; exact ⟨0, a, lv, nv, B, by omega, rfl, .inl ⟨rfl, Int.le_refl _⟩, x, y, z⟩
    | inner lim kids => exact h.elim
  | succ n ih =>
    intro B v d h
    cases d with
    | leaf lim nums => obtain ⟨a, lv, nv, rfl, x, y, z⟩ := h; exact ⟨0, a, lv, nv, B, by omega, rfl, .inl ⟨rfl, Int.le_refl _⟩, x, y, z⟩
    | inner lim kids => obtain ⟨a, lv, b, vs, m, rfl, x, y, z, q, r⟩ := h; exact ⟨0, a, lv, b, vs, m, B, by omega, rfl, .inl ⟨rfl, Int.le_refl _⟩, x, y, z, q.imp fun _ _ h => ih h, r⟩
section
variable {w : World} {news0 : List (Addr × Obj)} {tab : List Value} {S T : Addr} {oT : Obj}
/-- a call's contract over a ledger that says an entry twice -/
theorem Spec.dup {f : Addr} {sz : Nat} {args : List Value} {q : Addr × Obj} {news : List (Addr × Obj)} {r₀ : Value} (hq : q ∈ news) (C : Spec w f sz args (q :: news) (fun r n' => r = r₀ ∧ n' = q :: news)) : Spec w f sz args news (fun r n' => r = r₀ ∧ n' = news) :=
  fun _ _ _ _ _ _ _ _ _ _ _ _ _ _ _ _ _ _ _ _ _ B F X N T hk hd' hu ret => C _ _ _ _ _ _ _ _ _ _ _ _ _ _ _ _ _ _ _ _ _ B F X (fun p hp => by
    rcases List.mem_cons.mp hp with rfl | hp
    · exact N _ hq
    · exact N _ hp) T hk hd' hu fun r n h' tk' F' N' hp => ret r news h' tk' F' (by rw [hp.2] at N'; exact fun p hp => N' p (.tail _ hp)) ⟨hp.1, rfl⟩
theorem nodeC_of (hS : ShelfAt w news0 S T) (hT0 : (T, oT) ∈ news0) (hT : TabIs w oT tab) {h u : Nat} {v : Value} {kvs : List (Str × Value)} (hh : h ≤ 4) (hr : Res w news0 tab h v (.ref u)) (hd : DictAt w news0 u kvs) : NodeC w news0 S v u := by
  intro news hs
  obtain ⟨o, ho, lo, hk⟩ := hd
  obtain ⟨dS, R, k1, k2, n, a, b, c⟩ := hS
  have hr' : Res w news tab h v (.ref u) := by have := hr.mono (more := []) hs; rwa [List.append_nil] at this
  have F := fetch_res w S T u o oT tab news ⟨dS, R, k1, k2, n, hs _ a, hs _ b, c⟩ hT (hs _ ho) (dict_cls hk) h v hh hr'
  exact node_of w S u o v news (hs _ ho) (dict_cls hk) (Spec.dup (hs _ hT0) F) dS (hs _ a) T R k1 k2 n (hs _ b)
theorem rowC_of (hS : ShelfAt w news0 S T) (hT0 : (T, oT) ∈ news0) (hT : TabIs w oT tab) {b : Addr} {vs : List Value} {m : Nat} (hb : (b, listOf vs.toArray m) ∈ news0) : RowC w news0 S b := by
  intro D oD kvs tk news hs hD lo hd hv
  obtain ⟨dS, R, k1, k2, n, x, y, c⟩ := hS
  have F := fetch_l0 w S T dS R k1 k2 n oT tab news c hT (hs _ x) (hs _ y) b (listOf vs.toArray m) (hs _ hb) rfl
  exact row_of w S D b oD vs m kvs tk news hD lo hd hv (hs _ hb) (Spec.dup (hs _ hT0) F) dS (hs _ x) T R k1 k2 n (hs _ y)
end
/-- what a place's number may be -/
def okB (B : Int) (j : Int) : Prop := j = -1 ∨ B < j
theorem okB.down {B B' j : Int} (h : okB B j) (hB : B' ≤ B) : okB B' j := by rcases h with h | h; exact .inl h; exact .inr (by omega)
section
variable {w : World} {news0 : List (Addr × Obj)} {tab : List Value} {S T : Addr} {oT : Obj}
theorem Spec.postMono {f : Addr} {sz : Nat} {args : List Value} {pre : List (Addr × Obj)} {X Y : Value → List (Addr × Obj) → Prop} (C : Spec w f sz args pre (Made pre X)) (h : ∀ r tl, X r tl → Y r tl) : Spec w f sz args pre (Made pre Y) := C.mono fun _ _ ⟨tl, a, b, c⟩ => ⟨tl, a, b, h _ _ c⟩
theorem Spec.bigger {f : Addr} {sz sz' : Nat} {args : List Value} {pre : List (Addr × Obj)} {post : Value → List (Addr × Obj) → Prop} (C : Spec w f sz args pre post) (h : sz ≤ sz') : Spec w f sz' args pre post :=
  fun _ _ _ _ _ _ _ _ _ _ _ _ _ _ _ _ _ _ _ _ _ B F X N T hk hd' hu ret => C _ _ _ _ _ _ _ _ _ _ _ _ _ _ _ _ _ _ _ _ _ B F X N T hk (by omega) (by omega) ret
/-- longer_way of a value that stands for a node -/
theorem longer_any {h u : Nat} {v : Value} {B B' : Int} {kvs : List (Str × Value)} (hr : Res w news0 tab h v (.ref u)) (hl : Low w news0 h v B B') (hd : DictAt w news0 u kvs) (hB : 0 ≤ B) :
    ∃ i, okB B' i ∧ (∀ news way ps k, (∀ q ∈ news0, q ∈ news) → (way, tupOf ps.toArray k) ∈ news → ps ≠ [] → ps.length ≤ 40 → Places news (okB B) ps → Spec w 386 1 [.ref way, v] news (Made news (LongPost ps i))) ∧
      (∀ news, (∀ q ∈ news0, q ∈ news) → Spec w 386 1 [.ref 392, v] news (Made news (LongPost [] i))) := by
  rcases hl with ⟨rfl, hb⟩ | ⟨h0, k, ⟨x, dx, tk, tk', t, t', n, rfl, hx, hdx⟩, k1, kB, kB'⟩
  · obtain rfl : v = .ref u := hr
    obtain ⟨o, ho, lo, hk⟩ := hd
    exact ⟨-1, .inl rfl, fun news way ps k hs ht h0 hl hp => longer_d1 w way u o ps k news ht h0 hl (hs _ ho) (dict_cls hk), fun news hs => longer_d0 w u o news (hs _ ho) (dict_cls hk)⟩
  · exact ⟨k, .inr kB', fun news way ps m hs ht h0 hl hp => longer_r1 w way x dx ps m k tk tk' t t' n news ht h0 hl (fun v hv => by
      obtain ⟨j, a, b⟩ := hp v hv
      exact ⟨j, a, by rcases b with b | b <;> omega⟩) (hs _ hx) (hs _ hdx), fun news hs => longer_r0 w x dx k tk tk' t t' n news (hs _ hx) (hs _ hdx)⟩
theorem own_leaf (lim : Option (List Item)) (nums : List Item) (n : Nat) (lv nv : Value) (hl : LimIs w news0 lim lv) (hn : RowIs w news0 nv nums) : ∀ r tl, (∃ a, r = .ref a ∧ DictAt w tl a (limKv lim lv ++ [(Str.ofString "Nums", nv)])) → NodeIs w (news0 ++ tl) n r (.leaf lim nums) := by
  intro r tl ⟨a, e, hd⟩
  have : NodeIs w (news0 ++ tl) 0 r (.leaf lim nums) := ⟨a, lv, nv, e, hd.mono (sub_r _ _), hl.mono (sub_l _ _), hn.mono (sub_l _ _)⟩
  cases n <;> exact this
theorem Low.le {h : Nat} {v : Value} {B B' : Int} (l : Low w news0 h v B B') : B' ≤ B := by rcases l with l | ⟨_, k, _, l⟩ <;> omega
theorem Low.nonneg {h : Nat} {v : Value} {B B' : Int} (l : Low w news0 h v B B') (hB : 0 ≤ B) : Low w news0 h v B (max B' 0) ∧ 0 ≤ max B' 0 := by
  refine ⟨?_, by omega⟩
  rcases l with ⟨a, b⟩ | ⟨a, k, r, b, c, d⟩
  · exact .inl ⟨a, by omega⟩
  · exact .inr ⟨a, k, r, b, c, by omega⟩
theorem Stands.nonneg {n : Nat} {B : Int} {v : Value} {d : Node} (x : Stands w news0 tab n B v d) : Stands w news0 tab n (max B 0) v d := by
  have := x.mono (news' := news0) (more := []) (C := max B 0) (fun _ h => h) (by omega)
  rwa [List.append_nil] at this
theorem gath_any (hS : ShelfAt w news0 S T) (hT0 : (T, oT) ∈ news0) (hT : TabIs w oT tab) : ∀ (n : Nat) (len : Nat) (B : Int) (v : Value) (d : Node), Stands w news0 tab n B v d → 0 ≤ B → len + n ≤ 40 → Gath w news0 S (3 + n) n len (okB B) v d := by
  have hS' := hS
  obtain ⟨dS, R, k1, k2, n2, hs1, hs2, hs3⟩ := hS'
  have leaf : ∀ (n len : Nat) (B : Int) (v : Value) (lim : Option (List Item)) (nums : List Item), Stands w news0 tab n B v (.leaf lim nums) → 0 ≤ B → len + n ≤ 40 → Gath w news0 S (3 + n) n len (okB B) v (.leaf lim nums) := by
    intro n len B v lim nums hst hB hln news way ps k hs hm h0 hl hp
    have hst' : ∃ h u lv nv B', h ≤ 4 ∧ Res w news0 tab h v (.ref u) ∧ Low w news0 h v B B' ∧ DictAt w news0 u (limKv lim lv ++ [(Str.ofString "Nums", nv)]) ∧ LimIs w news0 lim lv ∧ RowIs w news0 nv nums := by cases n <;> exact hst
    obtain ⟨h, u, lv, nv, B', hh, hr, hlow, hd, hlim, hrow⟩ := hst'
    obtain ⟨i, oki, L3, L2⟩ := longer_any hr hlow hd hB
    have hN := nodeC_of hS hT0 hT hh hr hd
    obtain ⟨o, ho, lo, hk⟩ := hd
    exact ((gather_leaf3 w news0 news S u way o v lv nv lim ps i 3 hs ho lo hk hN (L3 news way ps k hs hm h0 (by omega) hp) dS T R k1 k2 n2 (hs _ hs1) (hs _ hs2)).postMono (own_leaf lim nums n lv nv hlim hrow)).bigger (by omega)
  intro n
  induction n with
  | zero =>
    intro len B v d hst hB hln
    cases d with
    | leaf lim nums => exact leaf 0 len B v lim nums hst hB hln
    | inner lim kids => exact hst.elim
  | succ n ih =>
    intro len B v d hst hB hln
    cases d with
    | leaf lim nums => exact leaf (n + 1) len B v lim nums hst hB hln
    | inner lim kids =>
      intro news way ps k hs hm h0 hl hp
      obtain ⟨h, u, lv, b, vs, m, B', hh, hr, hlow, hd, hlim, hb, hkids, hlen⟩ := hst
      have hlow := hlow.nonneg hB
      have hkids := hkids.imp fun v d x => Stands.nonneg x
      generalize max B' 0 = B' at hlow hkids
      obtain ⟨hlow, hB'⟩ := hlow
      obtain ⟨i, oki, L3, L2⟩ := longer_any hr hlow hd hB
      have hN := nodeC_of hS hT0 hT hh hr hd
      have hR := rowC_of hS hT0 hT hb
      obtain ⟨o, ho, lo, hk⟩ := hd
      have hle := hlow.le
      have hkids' := hkids.imp fun v d x => ih (len + 1) B' v d x hB' (by omega)
      exact (gather_in3 w news0 news S u way o v lv b vs m kids lim ps i (3 + n) n hs ho lo hk hlim hb hlen (len + 1) (okB B') (by omega) (fun q hq => let ⟨j, x, y⟩ := hp q hq; ⟨j, x, y.down hle⟩) oki hkids' hN hR (L3 news way ps k hs hm h0 (by omega) hp) dS T R k1 k2 n2 (hs _ hs1) (hs _ hs2) (by omega)).bigger (by omega)
/-- tree_gathered of a tree, from its root -/
theorem gath_root (hS : ShelfAt w news0 S T) (hT0 : (T, oT) ∈ news0) (hT : TabIs w oT tab) {n : Nat} {B : Int} {v : Value} {lim : Option (List Item)} {kids : List Node} (hst : Stands w news0 tab (n + 1) B v (.inner lim kids)) (hB : 0 ≤ B) (hn : n ≤ 30) (news : List (Addr × Obj)) (hs : ∀ p ∈ news0, p ∈ news) :
    Spec w 400 (4 + n) [.ref S, v] news (Made news fun r tl => NodeIs w (news0 ++ tl) (n + 1) r (.inner lim kids)) := by
  have hS' := hS
  obtain ⟨dS, R, k1, k2, n2, hs1, hs2, hs3⟩ := hS'
  obtain ⟨h, u, lv, b, vs, m, B', hh, hr, hlow, hd, hlim, hb, hkids, hlen⟩ := hst
  have hlow := hlow.nonneg hB
  have hkids := hkids.imp fun v d x => Stands.nonneg x
  generalize max B' 0 = B' at hlow hkids
  obtain ⟨hlow, hB'⟩ := hlow
  obtain ⟨i, oki, L3, L2⟩ := longer_any hr hlow hd hB
  have hN := nodeC_of hS hT0 hT hh hr hd
  have hR := rowC_of hS hT0 hT hb
  obtain ⟨o, ho, lo, hk⟩ := hd
  have hkids' := hkids.imp fun v d x => gath_any hS hT0 hT n 1 B' v d x hB' (by omega)
  exact (gather_in2 w news0 news S u o v lv b vs m kids lim [] i (3 + n) n hs ho lo hk hlim hb hlen 1 (okB B') (by simp) (fun q hq => nomatch hq) oki hkids' hN hR (L2 news hs) dS T R k1 k2 n2 (hs _ hs1) (hs _ hs2) (by omega)).bigger (by omega)
end
end
section
/-- how many nodes -/
def cnt : Nat → Node → Nat
  | _, .leaf .. => 1
  | 0, .inner .. => 1
  | n + 1, .inner _ kids => 1 + (kids.map (cnt n)).sum
theorem cnt_pos (n : Nat) (d : Node) : 1 ≤ cnt n d := by cases n <;> cases d <;> simp [cnt]
def Body (w : World) (news : List (Addr × Obj)) (tab : List Value) : Nat → Int → Addr → Node → Prop
  | _, _, u, .leaf lim nums => ∃ lv nv, DictAt w news u (limKv lim lv ++ [(Str.ofString "Nums", nv)]) ∧ LimIs w news lim lv ∧ RowIs w news nv nums
  | 0, _, _, .inner .. => False
  | n + 1, B', u, .inner lim kids => ∃ lv b vs m, DictAt w news u (limKv lim lv ++ [(Str.ofString "Kids", .ref b)]) ∧ LimIs w news lim lv ∧ (b, listOf vs.toArray m) ∈ news ∧ All2 (Stands w news tab n B') vs kids ∧ kids.length ≤ 10
section
variable {w : World} {news news' : List (Addr × Obj)} {tab more : List Value}
theorem Body.mono (hs : ∀ p ∈ news, p ∈ news') {n : Nat} {B C : Int} {u : Addr} {d : Node} (hB : B ≤ C) (h : Body w news tab n B u d) : Body w news' (tab ++ more) n C u d := by
  cases d with
  | leaf lim nums =>
    have : ∃ lv nv, DictAt w news u (limKv lim lv ++ [(Str.ofString "Nums", nv)]) ∧ LimIs w news lim lv ∧ RowIs w news nv nums := by cases n <;> exact h
    obtain ⟨lv, nv, a, b, c⟩ := this
    have : ∃ lv nv, DictAt w news' u (limKv lim lv ++ [(Str.ofString "Nums", nv)]) ∧ LimIs w news' lim lv ∧ RowIs w news' nv nums := ⟨lv, nv, a.mono hs, b.mono hs, c.mono hs⟩
    cases n <;> exact this
  | inner lim kids =>
    cases n with
    | zero => exact h
    | succ n => obtain ⟨lv, b, vs, m, x, y, z, q, r⟩ := h; exact ⟨lv, b, vs, m, x.mono hs, y.mono hs, hs _ z, q.imp fun _ _ h => h.mono hs hB, r⟩
/-- Stands, by no more than H references -/
def StandsAt (w : World) (news : List (Addr × Obj)) (tab : List Value) (H n : Nat) (B : Int) (v : Value) (d : Node) : Prop := ∃ h u B', h ≤ H ∧ Res w news tab h v (.ref u) ∧ Low w news h v B B' ∧ Body w news tab n B' u d
theorem StandsAt.stands {H n : Nat} {B : Int} {v : Value} {d : Node} (hH : H ≤ 4) (x : StandsAt w news tab H n B v d) : Stands w news tab n B v d := by
  obtain ⟨h, u, B', hh, hr, hl, hb⟩ := x
  cases d with
  | leaf lim nums =>
    have : ∃ lv nv, DictAt w news u (limKv lim lv ++ [(Str.ofString "Nums", nv)]) ∧ LimIs w news lim lv ∧ RowIs w news nv nums := by cases n <;> exact hb
    obtain ⟨lv, nv, a, b, c⟩ := this
    have : ∃ h u lv nv B', h ≤ 4 ∧ Res w news tab h v (.ref u) ∧ Low w news h v B B' ∧ DictAt w news u (limKv lim lv ++ [(Str.ofString "Nums", nv)]) ∧ LimIs w news lim lv ∧ RowIs w news nv nums := ⟨h, u, lv, nv, B', by omega, hr, hl, a, b, c⟩
    cases n <;> exact this
  | inner lim kids =>
    cases n with
    | zero => exact hb
    | succ n => obtain ⟨lv, b, vs, m, x, y, z, q, r⟩ := hb; exact ⟨h, u, lv, b, vs, m, B', by omega, hr, hl, x, y, z, q, r⟩
theorem StandsAt.mono (hs : ∀ p ∈ news, p ∈ news') {H n : Nat} {B C : Int} {v : Value} {d : Node} (hB : B ≤ C) (x : StandsAt w news tab H n B v d) : StandsAt w news' (tab ++ more) H n C v d := by
  obtain ⟨h, u, B', hh, hr, hl, hb⟩ := x
  exact ⟨h, u, B', hh, hr.mono hs, (hl.mono hs).up hB, hb.mono hs (Int.le_refl _)⟩
/-- one reference more -/
theorem StandsAt.hop {H n : Nat} {B k : Int} {v y : Value} {d : Node} {t e : Addr} {m : Nat} (x : StandsAt w news tab H n B v d) (hB : B < k) (h1 : 1 ≤ k) (hr : RefIs w news y k 0) (ht : tab[(k - 1).toNat]? = some (.ref t)) (hm : (t, tupOf #[.int 0 e, v] m) ∈ news) : StandsAt w news tab (H + 1) n k y d := by
  obtain ⟨h, u, B', hh, hres, hl, hb⟩ := x
  have hle := hl.le
  refine ⟨h + 1, u, B', by omega, ⟨v, ?_, hres⟩, .inr ⟨by omega, k, hr, h1, Int.le_refl _, by omega⟩, hb⟩
  obtain ⟨x, dx, tk, tk', t1, t2, n', e1, e2, e3⟩ := hr
  exact ⟨x, dx, t, k, tk, tk', t1, t2, e, n', m, e1, e2, e3, h1, ht, hm⟩
end
/-- the children of what was laid are references -/
def KidRefs (w : World) (news : List (Addr × Obj)) (r : Value) : Node → Prop
  | .leaf .. => True
  | .inner lim kids => ∃ (u : Addr) (lv : Value) (b : Addr) (vs : List Value) (m : Nat), r = .ref u ∧ DictAt w news u (limKv lim lv ++ [(Str.ofString "Kids", .ref b)]) ∧ (b, listOf vs.toArray m) ∈ news ∧ vs.length = kids.length ∧ ∀ v ∈ vs, ∃ k, RefIs w news v k 0
theorem KidRefs.mono {w : World} {news news' : List (Addr × Obj)} (hs : ∀ p ∈ news, p ∈ news') {r : Value} {d : Node} (h : KidRefs w news r d) : KidRefs w news' r d := by
  cases d with
  | leaf lim nums => trivial
  | inner lim kids => obtain ⟨u, lv, b, vs, m, e, a, c, l, h⟩ := h; exact ⟨u, lv, b, vs, m, e, a.mono hs, hs _ c, l, fun v hv => let ⟨k, x⟩ := h v hv; ⟨k, x.mono hs⟩⟩
/-- tree_laid's contract -/
inductive LaidPost (w : World) (news0 : List (Addr × Obj)) (tab : List Value) (n : Nat) (d : Node) (r : Value) (o' : Obj) (tl : List (Addr × Obj)) : Prop
  | mk (more) (h0 : TabIs w o' (tab ++ more)) (h1 : more.length + 1 = cnt n d) (h2 : StandsAt w (news0 ++ tl) (tab ++ more) 0 n (tab.length + more.length) r d) (h3 : KidRefs w (news0 ++ tl) r d) : LaidPost w news0 tab n d r o' tl
theorem ret_laid {h₀ : Heap} {L : Addr} {m : Str → Option Value} {s : Shared} {Q : Value → Shared → Prop} {w : World} {news0 : List (Addr × Obj)} {tab : List Value} {j : Nat} {d : Node} {T : Addr} {o : Obj} {rest : List (Addr × Obj)} (k : ∀ r o' tl more h' tk', Fr h₀ L h' m → News h₀ L h' ((T, o') :: (rest ++ tl)) → Apart ((T, o) :: rest) tl → TabIs w o' (tab ++ more) → more.length + 1 = cnt j d → StandsAt w (news0 ++ tl) (tab ++ more) 0 j (tab.length + more.length) r d → KidRefs w (news0 ++ tl) r d → Q r { s with heap := h', toks := tk' }) :
    ∀ r n' h' tk', Fr h₀ L h' m → News h₀ L h' n' → MadeQ T o rest (LaidPost w news0 tab j d) r n' → Q r { s with heap := h', toks := tk' } := by
  rintro r n' h' tk' F N ⟨o', tl, rfl, U, more, a1, a2, a3, a4⟩
  exact k r o' tl more h' tk' F N U a1 a2 a3 a4
def Lays (w : World) (news0 : List (Addr × Obj)) (S T : Addr) (sz n : Nat) (v : Value) (d : Node) : Prop :=
  ∀ oT tab rest, (∀ p ∈ news0, p ∈ rest) → (∀ p ∈ rest, p.1 ≠ T) → TabIs w oT tab → tab.length + cnt n d ≤ 1000 → Spec w 391 sz [.ref S, v] ((T, oT) :: rest) (MadeQ T oT rest (LaidPost w news0 tab n d))
theorem Lays.use {w : World} {news0 : List (Addr × Obj)} {S T : Addr} {sz n : Nat} {v : Value} {d : Node} (h : Lays w news0 S T sz n v d) {oT : Obj} {tab : List Value} {rest : List (Addr × Obj)} (hs : ∀ p ∈ news0, p ∈ rest) (ho : ∀ p ∈ rest, p.1 ≠ T) (hT : TabIs w oT tab) (hl : tab.length + cnt n d ≤ 1000) :
    Spec w 391 sz [.ref S, v] ((T, oT) :: rest) (MadeQ T oT rest (LaidPost w news0 tab n d)) := h oT tab rest hs ho hT hl
end
section
local macro_rules | `(tactic| walk_at "an idle line 0") => `(tactic| fail "idle")
theorem walk_plain_Laid : True := by
  w_top off
  trivial
/-- what the comprehension over the children keeps -/
inductive CInv (w : World) (news0 : List (Addr × Obj)) (T : Addr) (oT : Obj) (base : List (Addr × Obj)) (tab : List Value) (n : Nat) (kids : List Node) (i : Nat) (ys : List Value) (nx : List (Addr × Obj)) : Prop
  | mk (o') (all) (more) (tl) (h0 : nx = (T, o') :: all) (h1 : all = base ++ tl) (h2 : Apart ((T, oT) :: base) tl) (h3 : TabIs w o' (tab ++ more)) (h4 : more.length = ((kids.take i).map (cnt n)).sum) (h5 : All2 (StandsAt w (news0 ++ tl) (tab ++ more) 1 n (tab.length + more.length)) ys (kids.take i)) (h6 : ∀ v ∈ ys, ∃ k, RefIs w (news0 ++ tl) v k 0) : CInv w news0 T oT base tab n kids i ys nx
theorem CInv.start {w : World} {news0 : List (Addr × Obj)} {T : Addr} {oT : Obj} {base : List (Addr × Obj)} {tab : List Value} {n : Nat} {kids : List Node} (hT : TabIs w oT tab) : CInv w news0 T oT base tab n kids 0 [] ((T, oT) :: base) :=
  ⟨oT, base, [], [], rfl, by rw [List.append_nil], Apart.nil _, by rwa [List.append_nil], rfl, trivial, fun _ h => nomatch h⟩
theorem second_of {a b : Addr × Obj} {r tl all : List (Addr × Obj)} (h : all = (a :: b :: r) ++ tl) : b ∈ all := by rw [h]; exact List.mem_append.mpr (.inl (.tail _ (.head _)))
theorem off_T {T I C D : Addr} {o oI oC oD : Obj} {X : List (Addr × Obj)} (off : LCg.Off3 I C D ((T, o) :: X)) (hX : ∀ p ∈ X, p.1 ≠ T) : ∀ p ∈ (I, oI) :: (C, oC) :: (D, oD) :: X, p.1 ≠ T := fun p hp => by
  rcases List.mem_cons.mp hp with rfl | hp
  · exact Ne.symm off.1.1
  · rcases List.mem_cons.mp hp with rfl | hp
    · exact Ne.symm off.1.2.1
    · rcases List.mem_cons.mp hp with rfl | hp
      · exact Ne.symm off.1.2.2
      · exact hX p hp
theorem off_more {T : Addr} {o : Obj} {rest tl : List (Addr × Obj)} (h : ∀ p ∈ rest, p.1 ≠ T) (u : Apart ((T, o) :: rest) tl) : ∀ p ∈ rest ++ tl, p.1 ≠ T := fun p hp => by
  rcases List.mem_append.mp hp with hp | hp
  · exact h p hp
  · exact (u (T, o) (.head _) p hp).symm
theorem off3_up {T I C D : Addr} {o o1 o2 oI oC oD : Obj} {X tl : List (Addr × Obj)} (off : LCg.Off3 I C D ((T, o) :: X)) (u : Apart ((T, o1) :: (I, oI) :: (C, oC) :: (D, oD) :: X) tl) : LCg.Off3 I C D ((T, o2) :: (X ++ tl)) :=
  ⟨off.1, off3_app off.2 fun p hp => ⟨u _ (.tail _ (.head _)) p hp, u _ (.tail _ (.tail _ (.head _))) p hp, u _ (.tail _ (.tail _ (.tail _ (.head _)))) p hp⟩⟩
theorem compEnd_P {h₀ : Heap} {L T I C D : Addr} {m : Str → Option Value} {s₁ : Shared} {o2 oI oC oD : Obj} {S : List (Addr × Obj) → Prop} {rest : Value → List (Addr × Obj) → Prop} {y : Value} {h' : Heap} {tk : Nat} {Y : List (Addr × Obj)}
    (F : Fr h₀ L h' m) (N : News h₀ L h' ((T, o2) :: (I, oI) :: (C, oC) :: (D, oD) :: Y)) (off : LCg.Off3 I C D ((T, o2) :: Y)) (hS : S ((T, o2) :: Y)) (r : rest y ((T, o2) :: Y)) :
    LCg.CompEnd h₀ L m s₁ I oI C oC D oD S rest y { s₁ with heap := h', toks := tk } :=
  ⟨h', tk, (T, o2) :: Y, rfl, F, fun p hp => N p (by
    rcases List.mem_cons.mp hp with rfl | hp
    · exact .tail _ (.head _)
    · rcases List.mem_cons.mp hp with rfl | hp
      · exact .tail _ (.tail _ (.head _))
      · rcases List.mem_cons.mp hp with rfl | hp
        · exact .tail _ (.tail _ (.tail _ (.head _)))
        · rcases List.mem_cons.mp hp with rfl | hp
          · exact .head _
          · exact .tail _ (.tail _ (.tail _ (.tail _ hp)))), off, hS, r⟩
theorem CInv.next {w : World} {news0 : List (Addr × Obj)} {T : Addr} {oT o1 o2 o3 : Obj} {base all tl tl9 tl10 X : List (Addr × Obj)} {tab more more9 : List Value} {n i : Nat} {kids : List Node} {ys : List Value} {d : Node} {r y : Value} {t tk : Addr} {m : Nat}
    (hall : all = base ++ tl) (u : Apart ((T, oT) :: base) tl) (hb : ∀ p ∈ base, p ∈ X) (hm : more.length = ((kids.take i).map (cnt n)).sum) (hys : All2 (StandsAt w (news0 ++ tl) (tab ++ more) 1 n (tab.length + more.length)) ys (kids.take i)) (hrf : ∀ v ∈ ys, ∃ k, RefIs w (news0 ++ tl) v k 0) (htk : kids.take (i + 1) = kids.take i ++ [d])
    (u9 : Apart ((T, o1) :: X) tl9) (hc : more9.length + 1 = cnt n d) (st : StandsAt w (news0 ++ tl9) ((tab ++ more) ++ more9) 0 n ((tab ++ more).length + more9.length) r d)
    (u10 : Apart ((T, o2) :: (X ++ tl9)) tl10) (hT : TabIs w o3 (((tab ++ more) ++ more9) ++ [.ref t])) (hrow : (t, tupOf #[.int 0 tk, r] m) ∈ tl10) (hr : RefIs w tl10 y (((tab ++ more) ++ more9).length + 1) 0) :
    CInv w news0 T oT base tab n kids (i + 1) (ys ++ [y]) ((T, o3) :: (all ++ tl9 ++ tl10)) := by
  have e : ((tab ++ more) ++ more9) ++ [Value.ref t] = tab ++ (more ++ more9 ++ [.ref t]) := by simp [List.append_assoc]
  refine ⟨o3, all ++ tl9 ++ tl10, more ++ more9 ++ [.ref t], tl ++ tl9 ++ tl10, rfl, by rw [hall]; simp [List.append_assoc], ?_, by rw [← e]; exact hT, ?_, ?_, ?_⟩
  · intro q hq p hp
    rcases List.mem_append.mp hp with hp | hp
    · rcases List.mem_append.mp hp with hp | hp
      · exact u q hq p hp
      · rcases List.mem_cons.mp hq with rfl | hq
        · exact u9 (T, o1) (.head _) p hp
        · exact u9 q (.tail _ (hb q hq)) p hp
    · rcases List.mem_cons.mp hq with rfl | hq
      · exact u10 (T, o2) (.head _) p hp
      · exact u10 q (.tail _ (List.mem_append.mpr (.inl (hb q hq)))) p hp
  · rw [htk]
    simp only [List.length_append, List.length_cons, List.length_nil, List.map_append, List.map_cons, List.map_nil, List.sum_append, List.sum_cons, List.sum_nil]
    omega
  · rw [htk, ← e]
    have s1 : ∀ p ∈ news0 ++ tl9, p ∈ news0 ++ (tl ++ tl9 ++ tl10) := fun p hp => by
      rcases List.mem_append.mp hp with hp | hp
      · exact List.mem_append.mpr (.inl hp)
      · exact List.mem_append.mpr (.inr (List.mem_append.mpr (.inl (List.mem_append.mpr (.inr hp)))))
    have s2 : ∀ p ∈ news0 ++ tl, p ∈ news0 ++ (tl ++ tl9 ++ tl10) := fun p hp => by
      rcases List.mem_append.mp hp with hp | hp
      · exact List.mem_append.mpr (.inl hp)
      · exact List.mem_append.mpr (.inr (List.mem_append.mpr (.inl (List.mem_append.mpr (.inl hp)))))
    have s3 : ∀ p ∈ tl10, p ∈ news0 ++ (tl ++ tl9 ++ tl10) := fun p hp => List.mem_append.mpr (.inr (List.mem_append.mpr (.inr hp)))
    refine All2.snoc ?_ (hys.imp fun v d x => ?_)
    · have x := st.mono (more := [.ref t]) s1 (Int.le_refl _)
      have y' := x.hop (k := (((tab ++ more) ++ more9).length : Int) + 1) (y := y) (t := t) (e := tk) (m := m) (by simp only [List.length_append]; push_cast; omega) (by omega) (hr.mono s3) (by
        rw [show ((((tab ++ more) ++ more9).length : Int) + 1 - 1).toNat = ((tab ++ more) ++ more9).length by omega]
        simp) (s3 _ hrow)
      have z := y'.mono (news' := news0 ++ (tl ++ tl9 ++ tl10)) (more := []) (fun _ h => h) (C := (tab.length : Int) + ((more ++ more9 ++ [Value.ref t]).length : Int)) (by simp only [List.length_append, List.length_cons, List.length_nil]; push_cast; omega)
      rw [List.append_nil] at z
      exact z
    · have z := x.mono (news' := news0 ++ (tl ++ tl9 ++ tl10)) (more := more9 ++ [.ref t]) s2 (C := (tab.length : Int) + ((more ++ more9 ++ [Value.ref t]).length : Int)) (by simp only [List.length_append, List.length_cons, List.length_nil]; push_cast; omega)
      simpa only [List.append_assoc] using z
  · intro v hv
    rcases List.mem_append.mp hv with hv | hv
    · obtain ⟨k, x⟩ := hrf v hv
      exact ⟨k, x.mono fun p hp => by
        rcases List.mem_append.mp hp with hp | hp
        · exact List.mem_append.mpr (.inl hp)
        · exact List.mem_append.mpr (.inr (List.mem_append.mpr (.inl (List.mem_append.mpr (.inl hp)))))⟩
    · rw [List.mem_singleton.mp hv]
      exact ⟨_, hr.mono fun p hp => List.mem_append.mpr (.inr (List.mem_append.mpr (.inr hp)))⟩
theorem sum_take_le {α : Type} (f : α → Nat) (l : List α) (k : Nat) : ((l.take k).map f).sum ≤ (l.map f).sum := by
  induction l generalizing k with
  | nil => simp
  | cons x l ih =>
    cases k with
    | zero => simp
    | succ k => simp only [List.take_succ_cons, List.map_cons, List.sum_cons]; have := ih k; omega
theorem CInv.room {n i : Nat} {tab more : List Value} {kids : List Node} {d : Node} {lim : Option (List Item)} (hl : tab.length + cnt (n + 1) (.inner lim kids) ≤ 1000) (hm : more.length = ((kids.take i).map (cnt n)).sum) (htk : kids.take (i + 1) = kids.take i ++ [d]) : (tab ++ more).length + cnt n d ≤ 1000 := by
  have h := sum_take_le (cnt n) kids (i + 1)
  rw [htk] at h
  simp only [List.map_append, List.map_cons, List.map_nil, List.sum_append, List.sum_cons, List.sum_nil, cnt] at h hl
  rw [List.length_append]
  omega
theorem laidInner {w : World} {news0 tl tl' : List (Addr × Obj)} {tab more : List Value} {n : Nat} {lim : Option (List Item)} {kids : List Node} {lv : Value} {D K : Addr} {o oT : Obj} {ys : List Value} {ny : Nat} (hT : TabIs w oT (tab ++ more)) (hm : more.length = (kids.map (cnt n)).sum) (hys : All2 (StandsAt w (news0 ++ tl) (tab ++ more) 1 n (tab.length + more.length)) ys kids) (hrf : ∀ v ∈ ys, ∃ k, RefIs w (news0 ++ tl) v k 0)
    (hD : (D, o) ∈ tl') (lo : (D == sysModules) = false) (hd : o.IsDictOf (PySem.strKind PySem.Challenge.rw_og0169_01.row.prog w) (limKv lim lv ++ [(Str.ofString "Kids", .ref K)])) (hlim : LimIs w news0 lim lv) (hK : (K, listOf ys.toArray ny) ∈ tl') (hlen : kids.length ≤ 10) (ht : ∀ p ∈ tl, p ∈ tl') :
    LaidPost w news0 tab (n + 1) (.inner lim kids) (.ref D) oT tl' := by
  have hsub : ∀ p ∈ news0 ++ tl, p ∈ news0 ++ tl' := fun p hp => by
    rcases List.mem_append.mp hp with hp | hp
    · exact List.mem_append.mpr (.inl hp)
    · exact List.mem_append.mpr (.inr (ht p hp))
  refine ⟨more, hT, by simp only [cnt]; omega, ⟨0, D, tab.length + more.length, Nat.le_refl _, rfl, .inl ⟨rfl, Int.le_refl _⟩, ?_⟩, D, lv, K, ys, ny, rfl, ⟨o, List.mem_append.mpr (.inr hD), lo, hd⟩, List.mem_append.mpr (.inr hK), hys.length, fun v hv => let ⟨k, x⟩ := hrf v hv; ⟨k, x.mono hsub⟩⟩
  refine ⟨lv, K, ys, ny, ⟨o, List.mem_append.mpr (.inr hD), lo, hd⟩, hlim.mono (sub_l _ _), List.mem_append.mpr (.inr hK), hys.imp fun v d x => ?_, hlen⟩
  have z := x.mono (news' := news0 ++ tl') (more := []) (fun p hp => by
    rcases List.mem_append.mp hp with hp | hp
    · exact List.mem_append.mpr (.inl hp)
    · exact List.mem_append.mpr (.inr (ht p hp))) (Int.le_refl _)
  rw [List.append_nil] at z
  exact z.stands (by omega)
theorem off_D2 {D : Addr} {oD : Obj} {q c : Addr × Obj} {rest tl : List (Addr × Obj)} (u : Apart (q :: (D, oD) :: c :: rest) tl) (h : ∀ p ∈ rest, p.1 < D) : ∀ p ∈ rest ++ tl, p.1 ≠ D := fun p hp => by
  rcases List.mem_append.mp hp with hp | hp
  · exact Nat.ne_of_lt (h p hp)
  · exact (u (D, oD) (.tail _ (.head _)) p hp).symm
theorem off1_mem {D : Addr} : ∀ {l : List (Addr × Obj)}, LCg.Off1 D l → ∀ p ∈ l, p.1 ≠ D
  | _ :: _, h, p, hp => by
    rcases List.mem_cons.mp hp with rfl | hp
    · exact h.1
    · exact off1_mem h.2 p hp
  | [], _, _, hp => nomatch hp
theorem laidLeaf {w : World} {news0 tl : List (Addr × Obj)} {tab : List Value} {n : Nat} {lim : Option (List Item)} {nums : List Item} {lv nv : Value} {D : Addr} {o oT : Obj} (hT : TabIs w oT tab) (hD : (D, o) ∈ tl) (lo : (D == sysModules) = false) (hd : o.IsDictOf (PySem.strKind PySem.Challenge.rw_og0169_01.row.prog w) (limKv lim lv ++ [(Str.ofString "Nums", nv)])) (hlim : LimIs w news0 lim lv) (hrow : RowIs w news0 nv nums) :
    LaidPost w news0 tab n (.leaf lim nums) (.ref D) oT tl := by
  refine ⟨[], by rwa [List.append_nil], by cases n <;> rfl, ⟨0, D, tab.length, Nat.le_refl _, rfl, .inl ⟨rfl, by simp⟩, ?_⟩, trivial⟩
  have : ∃ lv nv, DictAt w (news0 ++ tl) D (limKv lim lv ++ [(Str.ofString "Nums", nv)]) ∧ LimIs w (news0 ++ tl) lim lv ∧ RowIs w (news0 ++ tl) nv nums := ⟨lv, nv, ⟨o, List.mem_append.mpr (.inr hD), lo, hd⟩, hlim.mono (sub_l _ _), hrow.mono (sub_l _ _)⟩
  cases n <;> exact this
section
section
set_option maxRecDepth 100000 in
set_option maxHeartbeats 8000000 in
theorem laid_leaf (w : World) (news0 : List (Addr × Obj)) (S T u : Addr) (ou : Obj) (lv nv : Value) (lim : Option (List Item)) (nums : List Item) (n : Nat) (oT : Obj) (tab : List Value) (rest : List (Addr × Obj)) (hs : ∀ p ∈ news0, p ∈ rest) (hoff : ∀ p ∈ rest, p.1 ≠ T) (hT : TabIs w oT tab)
   (hu0 : (u, ou) ∈ news0) (lo : (u == sysModules) = false) (hd : ou.IsDictOf (PySem.strKind PySem.Challenge.rw_og0169_01.row.prog w) (limKv lim lv ++ [(Str.ofString "Nums", nv)])) (hlim : LimIs w news0 lim lv) (hrow : RowIs w news0 nv nums) :
   Spec w 391 1 [.ref S, .ref u] ((T, oT) :: rest) (MadeQ T oT rest (LaidPost w news0 tab n (.leaf lim nums))) := by
  have hu1 := hs _ hu0
  unfold Spec
  k_fill
  intro dp un gd cn cs a ccd cl outer A₀ base h₀ L m s loose mean mg mb Q E B F X N T hk hd hu hret
  refine wpAny_call ?_
  k_dflt ktr_enter
  repeat' (first | (k_unfold; (try dsimp only)) | ((with_reducible show wpAny _ _ (compareOp CmpOp.NotIn (Value.str _ _) (Value.ref _)) _ _ _); first | with_reducible (k_here; k_dflt (refine' kids_nno (by k_asm) (by k_mem) (by assumption) (by assumption) ?_))) | ((with_reducible show wpAny _ _ (call (Value.type "dict") _) _ _ _); first | with_reducible (k_here; k_dflt (refine' dict_copy (knd := PySem.strKind _ _) (by k_asm) (by k_asm) (by exact Top.nolimit (by k_asm)) (by k_mem) (by assumption) (by assumption) (by (rw [List.length_append]; exact Nat.le_trans (Nat.add_le_add (limKv_len) (Nat.le_refl _)) (Nat.le_of_ble_eq_true rfl))) ?_); intro D' h' o' F' N' l1 lo' hd'; (try k_lt l1))) | ((with_reducible show wpAny _ _ (execs (Stmt.Assign _ _ _ :: _ :: _) _) _ _ _); first | with_reducible (k_here; (with_reducible refine wpAny_execs_cons ?_); try dsimp only)) | ((with_reducible show RangeRest _ _ _ _ _ _ _ _ _ _ _ _ _ _ _ _ _); first | with_reducible (k_here; first | ((with_reducible refine RangeRest.succ ?_); intro t' h' tk' F' N') | ((with_reducible refine RangeRest.zero ?_); intro h' tk' F' N'))) | (k_end; kc_close) | walk1 | (dsimp only; walk1) | (leave1; (try dsimp only)))
  refine finishQ hret (by k_asm) (by k_asm) (by k_mem) (by ktd_sub) fun tl U keep => ?_
  exact laidLeaf hT (keep _ (.head _) (by refine neN ?_; dsimp only; omega) (ne_ord (by ktn_ord))) (by assumption) (by assumption) hlim hrow
end
set_option maxRecDepth 100000 in
set_option maxHeartbeats 8000000 in
theorem laid_in (w : World) (news0 : List (Addr × Obj)) (S Tb u : Addr) (ou : Obj) (lv : Value) (b : Addr) (vs : List Value) (mb0 : Nat) (lim : Option (List Item)) (kids : List Node) (sz n : Nat) (oT : Obj) (tab : List Value) (rest : List (Addr × Obj)) (hs : ∀ p ∈ news0, p ∈ rest) (hoff : ∀ p ∈ rest, p.1 ≠ Tb) (hT : TabIs w oT tab)
   (hl : tab.length + cnt (n + 1) (.inner lim kids) ≤ 1000) (hu0 : (u, ou) ∈ news0) (lo : (u == sysModules) = false) (hd : ou.IsDictOf (PySem.strKind PySem.Challenge.rw_og0169_01.row.prog w) (limKv lim lv ++ [(Str.ofString "Kids", .ref b)])) (hlim : LimIs w news0 lim lv) (hb0 : (b, listOf vs.toArray mb0) ∈ news0) (hlen : kids.length ≤ 10)
   (hkids : All2 (Lays w news0 S Tb sz n) vs kids) (lT : (Tb == sysModules) = false) (dS R : Addr) (k1 k2 : Tok) (n2 : Nat) (h1 : (S, instObj 363 dS) ∈ news0) (h2 : (dS, dictOf (shelfD w k1 k2 Tb R) n2) ∈ news0) (hsz : 4 ≤ sz) :
   Spec w 391 (sz + 1) [.ref S, .ref u] ((Tb, oT) :: rest) (MadeQ Tb oT rest (LaidPost w news0 tab (n + 1) (.inner lim kids))) := by
  have hu1 := hs _ hu0
  have hb1 := hs _ hb0
  have h11 := hs _ h1
  have h21 := hs _ h2
  unfold Spec
  k_fill
  intro dp un gd cn cs a ccd cl outer A₀ base h₀ L m s loose mean mg mb Q E B F X N T hk hd hu hret
  refine wpAny_call ?_
  k_dflt ktr_enter
  repeat' (first | (k_unfold; (try dsimp only)) | ((with_reducible show LCg.CompEnd _ _ _ _ _ _ _ _ _ _ _ _ _ _); first | with_reducible (k_here; refine Stop.out ?_) | (k_here; refine Stop.out ?_)) | ((with_reducible show wpAny _ _ (call (Value.ref _) _) _ _ _); first | with_reducible (k_here; (with_reducible show wpAny _ _ (call (Value.ref 334) _) _ _ _); k_dflt ( refine' spec_use (f := 334) (by k_asm) (by k_asm) (by k_asm) (by k_asm) (by k_asm) (by first | exact rfl | assumption) (add_spec _ _ _ _ _ _ _ _ _ _ _ _ (by assumption) (by assumption) (by assumption) (by (rw [List.length_append]; omega)) (by k_mem) (by k_mem)) (by ktr_room) (by ktr_units) (ret_add ?_); (intro r10 o10 tl10 t10 tt10 m10 h10 tk10 F10 N10 up10' tb10 mem10 ref10; have up10 := up10'.apart; (try simp only [List.cons_append] at N10); (try k_sweep); (try dsimp only); (try k_fold)))) | with_reducible (k_here; (with_reducible show wpAny _ _ (call (Value.ref 391) _) _ _ _); k_dflt ( refine' spec_use (f := 391) (by k_asm) (by k_asm) (by k_asm) (Pick.of (by k_asm) (by exact Pick.tail (Pick.tail (Pick.tail Pick.head)))) (by k_asm) (by first | exact rfl | assumption) (Lays.use (by assumption) (by ktd_sub) (by assumption) (by assumption) (by assumption)) (by ktr_room) (by ktr_units) (ret_laid ?_); (intro r9 o9 tl9 m9 h9 tk9 F9 N9 up9 t9 c9 st9 kr9; have ho9 := off_more (by assumption) up9; (try simp only [List.cons_append] at N9 ho9); (try k_sweep); (try dsimp only); (try k_fold))))) | ((with_reducible show wpAny _ _ (setItem (Value.ref _) (Value.str _ _) _) _ _ _); first | with_reducible (k_here; k_dflt (refine' kids_set (by k_asm) (by k_asm) (by k_updF) (by assumption) ?_); intro h' o' F' N' hd'; (try dsimp only at N'))) | ((with_reducible show wpAny _ _ (eval (Expr.ListComp _ _ _ _) _) _ _ _); first | with_reducible (k_here; k_dflt (refine LCg.ListComp_U (F₀ := by k_asm) (by rfl) (by decide) (by rfl) (by decide) (by rfl) ?_))) | ((with_reducible show wpAny _ _ (subscriptTail _ _ _ _) _ _ _); first | with_reducible (k_here; (with_reducible show wpAny _ _ (subscriptTail _ _ (Value.ref _) (Value.str _ _)) _ _ _); k_dflt (refine' kids_item (by k_asm) (by k_mem) (by assumption) ?_))) | ((with_reducible show wpAny _ _ (compareOp CmpOp.NotIn (Value.str _ _) (Value.ref _)) _ _ _); first | with_reducible (k_here; k_dflt (refine' kids_nyes (by k_asm) (by k_mem) (by assumption) (by assumption) ?_))) | ((with_reducible show wpAny _ _ (call (Value.type "dict") _) _ _ _); first | with_reducible (k_here; k_dflt (refine' dict_copy (knd := PySem.strKind _ _) (by k_asm) (by k_asm) (by exact Top.nolimit (by k_asm)) (by k_mem) (by assumption) (by assumption) (by (rw [List.length_append]; exact Nat.le_trans (Nat.add_le_add (limKv_len) (Nat.le_refl _)) (Nat.le_of_ble_eq_true rfl))) ?_); intro D' h' o' F' N' l1 lo' hd'; (try k_lt l1))) | ((with_reducible show wpAny _ _ (execs (Stmt.Assign _ _ _ :: _ :: _) _) _ _ _); first | with_reducible (k_here; (with_reducible refine wpAny_execs_cons ?_); try dsimp only)) | ((with_reducible show RangeRest _ _ _ _ _ _ _ _ _ _ _ _ _ _ _ _ _); first | with_reducible (k_here; first | ((with_reducible refine RangeRest.succ ?_); intro t' h' tk' F' N') | ((with_reducible refine RangeRest.zero ?_); intro h' tk' F' N'))) | (k_end; kc_close) | walk1 | (dsimp only; walk1) | (leave1; (try dsimp only)))
  refine' LCg.CompSrc.ledger rfl ?F (Pick.news (P := Tb) (o := oT) ?pk ?N) ?m ?sz ?_
  case F => k_asm
  case N => k_asm
  case pk => first | exact Pick.head | exact Pick.tail Pick.head | exact Pick.tail (Pick.tail Pick.head) | exact Pick.tail (Pick.tail (Pick.tail Pick.head))
  case m => k_mem
  case sz => (rw [List.size_toArray, sizeLine_eq]; have := hkids.length; omega)
  intro g9
  refine compRest_all (CInv w news0 Tb oT _ tab n kids) ?_ ?_ _ _ _ _ (Nat.zero_add _) (CInv.start hT)
  · intro i ys nx v I oI C oC D m₂ hh tk E' hi hv hinv hC hx F8 N8 off ne
    obtain ⟨o', all, more, tl, rfl, hall, hup, hT', hmore, hys, hrf⟩ := hinv
    obtain ⟨d, hG, htk⟩ := hkids.at (i := i) (a := v) (by simpa using hv)
    have hcell := second_of hall
    have hsa : ∀ p ∈ rest, p ∈ all := fun p hp => by rw [hall]; exact List.mem_append.mpr (.inl (.tail _ (.tail _ hp)))
    have hs0 : ∀ p ∈ news0, p ∈ all := fun p hp => hsa p (hs p hp)
    have h12 := hs0 _ h1
    have h22 := hs0 _ h2
    have hoA : ∀ p ∈ all, p.1 ≠ Tb := fun p hp => by
      rw [hall] at hp
      rcases List.mem_append.mp hp with hp | hp
      · rcases List.mem_cons.mp hp with rfl | hp
        · refine neN ?_; dsimp only; omega
        · rcases List.mem_cons.mp hp with rfl | hp
          · refine neN ?_; dsimp only; omega
          · exact hoff p hp
      · exact (hup _ (.head _) p hp).symm
    have hoT : ∀ p ∈ (I, oI) :: (C, oC) :: (D, LCg.lst ys) :: all, p.1 ≠ Tb := off_T off hoA
    have hroom := CInv.room hl hmore htk
    repeat' (first | (k_unfold; (try dsimp only)) | ((with_reducible show LCg.CompEnd _ _ _ _ _ _ _ _ _ _ _ _ _ _); first | with_reducible (k_here; refine Stop.out ?_) | (k_here; refine Stop.out ?_)) | ((with_reducible show wpAny _ _ (call (Value.ref _) _) _ _ _); first | with_reducible (k_here; (with_reducible show wpAny _ _ (call (Value.ref 334) _) _ _ _); k_dflt ( refine' spec_use (f := 334) (by k_asm) (by k_asm) (by k_asm) (by k_asm) (by k_asm) (by first | exact rfl | assumption) (add_spec _ _ _ _ _ _ _ _ _ _ _ _ (by assumption) (by assumption) (by assumption) (by (rw [List.length_append]; omega)) (by k_mem) (by k_mem)) (by ktr_room) (by ktr_units) (ret_add ?_); (intro r10 o10 tl10 t10 tt10 m10 h10 tk10 F10 N10 up10' tb10 mem10 ref10; have up10 := up10'.apart; (try simp only [List.cons_append] at N10); (try k_sweep); (try dsimp only); (try k_fold)))) | with_reducible (k_here; (with_reducible show wpAny _ _ (call (Value.ref 391) _) _ _ _); k_dflt ( refine' spec_use (f := 391) (by k_asm) (by k_asm) (by k_asm) (Pick.of (by k_asm) (by exact Pick.tail (Pick.tail (Pick.tail Pick.head)))) (by k_asm) (by first | exact rfl | assumption) (Lays.use (by assumption) (by ktd_sub) (by assumption) (by assumption) (by assumption)) (by ktr_room) (by ktr_units) (ret_laid ?_); (intro r9 o9 tl9 m9 h9 tk9 F9 N9 up9 t9 c9 st9 kr9; have ho9 := off_more (by assumption) up9; (try simp only [List.cons_append] at N9 ho9); (try k_sweep); (try dsimp only); (try k_fold))))) | ((with_reducible show wpAny _ _ (setItem (Value.ref _) (Value.str _ _) _) _ _ _); first | with_reducible (k_here; k_dflt (refine' kids_set (by k_asm) (by k_asm) (by k_updF) (by assumption) ?_); intro h' o' F' N' hd'; (try dsimp only at N'))) | ((with_reducible show wpAny _ _ (eval (Expr.ListComp _ _ _ _) _) _ _ _); first | with_reducible (k_here; k_dflt (refine LCg.ListComp_U (F₀ := by k_asm) (by rfl) (by decide) (by rfl) (by decide) (by rfl) ?_))) | ((with_reducible show wpAny _ _ (subscriptTail _ _ _ _) _ _ _); first | with_reducible (k_here; (with_reducible show wpAny _ _ (subscriptTail _ _ (Value.ref _) (Value.str _ _)) _ _ _); k_dflt (refine' kids_item (by k_asm) (by k_mem) (by assumption) ?_))) | ((with_reducible show wpAny _ _ (compareOp CmpOp.NotIn (Value.str _ _) (Value.ref _)) _ _ _); first | with_reducible (k_here; k_dflt (refine' kids_nyes (by k_asm) (by k_mem) (by assumption) (by assumption) ?_))) | ((with_reducible show wpAny _ _ (call (Value.type "dict") _) _ _ _); first | with_reducible (k_here; k_dflt (refine' dict_copy (knd := PySem.strKind _ _) (by k_asm) (by k_asm) (by exact Top.nolimit (by k_asm)) (by k_mem) (by assumption) (by assumption) (by (rw [List.length_append]; exact Nat.le_trans (Nat.add_le_add (limKv_len) (Nat.le_refl _)) (Nat.le_of_ble_eq_true rfl))) ?_); intro D' h' o' F' N' l1 lo' hd'; (try k_lt l1))) | ((with_reducible show wpAny _ _ (execs (Stmt.Assign _ _ _ :: _ :: _) _) _ _ _); first | with_reducible (k_here; (with_reducible refine wpAny_execs_cons ?_); try dsimp only)) | ((with_reducible show RangeRest _ _ _ _ _ _ _ _ _ _ _ _ _ _ _ _ _); first | with_reducible (k_here; first | ((with_reducible refine RangeRest.succ ?_); intro t' h' tk' F' N') | ((with_reducible refine RangeRest.zero ?_); intro h' tk' F' N'))) | (k_end; kc_close) | walk1 | (dsimp only; walk1) | (leave1; (try dsimp only)))
    unfold Stop
    exact compEnd_P (by k_asm) (by k_asm) (off3_up (off3_up (o2 := o') off (by assumption)) (by assumption)) (.inr ⟨_, .tail _ (mem_inl' (mem_inl' (hs0 _ hb0))), rfl, _, rfl⟩)
      (CInv.next (X := (I, oI) :: (C, oC) :: (D, LCg.lst ys) :: all) hall hup (fun p hp => .tail _ (.tail _ (.tail _ (by rw [hall]; exact List.mem_append.mpr (.inl hp))))) hmore hys hrf htk (by assumption) (by assumption) (by assumption) (by assumption) (by assumption) (by assumption) (by assumption))
  · intro ys nx hinv
    obtain ⟨o', all, more, tl, rfl, hall, hup, hT', hmore, hys, hrf⟩ := hinv
    rw [show vs.toArray.size = kids.length by simpa using hkids.length, List.take_length] at hmore hys
    have hall' : all = _ :: _ :: (rest ++ tl) := hall
    subst hall'
    have hoD := off_D2 hup (by ktn_ord)
    repeat' (first | (k_unfold; (try dsimp only)) | ((with_reducible show LCg.CompEnd _ _ _ _ _ _ _ _ _ _ _ _ _ _); first | with_reducible (k_here; refine Stop.out ?_) | (k_here; refine Stop.out ?_)) | ((with_reducible show wpAny _ _ (call (Value.ref _) _) _ _ _); first | with_reducible (k_here; (with_reducible show wpAny _ _ (call (Value.ref 334) _) _ _ _); k_dflt ( refine' spec_use (f := 334) (by k_asm) (by k_asm) (by k_asm) (by k_asm) (by k_asm) (by first | exact rfl | assumption) (add_spec _ _ _ _ _ _ _ _ _ _ _ _ (by assumption) (by assumption) (by assumption) (by (rw [List.length_append]; omega)) (by k_mem) (by k_mem)) (by ktr_room) (by ktr_units) (ret_add ?_); (intro r10 o10 tl10 t10 tt10 m10 h10 tk10 F10 N10 up10' tb10 mem10 ref10; have up10 := up10'.apart; (try simp only [List.cons_append] at N10); (try k_sweep); (try dsimp only); (try k_fold)))) | with_reducible (k_here; (with_reducible show wpAny _ _ (call (Value.ref 391) _) _ _ _); k_dflt ( refine' spec_use (f := 391) (by k_asm) (by k_asm) (by k_asm) (Pick.of (by k_asm) (by exact Pick.tail (Pick.tail (Pick.tail Pick.head)))) (by k_asm) (by first | exact rfl | assumption) (Lays.use (by assumption) (by ktd_sub) (by assumption) (by assumption) (by assumption)) (by ktr_room) (by ktr_units) (ret_laid ?_); (intro r9 o9 tl9 m9 h9 tk9 F9 N9 up9 t9 c9 st9 kr9; have ho9 := off_more (by assumption) up9; (try simp only [List.cons_append] at N9 ho9); (try k_sweep); (try dsimp only); (try k_fold))))) | ((with_reducible show wpAny _ _ (setItem (Value.ref _) (Value.str _ _) _) _ _ _); first | with_reducible (k_here; k_dflt (refine' kids_set (by k_asm) (by k_asm) (by k_updF) (by assumption) ?_); intro h' o' F' N' hd'; (try dsimp only at N'))) | ((with_reducible show wpAny _ _ (eval (Expr.ListComp _ _ _ _) _) _ _ _); first | with_reducible (k_here; k_dflt (refine LCg.ListComp_U (F₀ := by k_asm) (by rfl) (by decide) (by rfl) (by decide) (by rfl) ?_))) | ((with_reducible show wpAny _ _ (subscriptTail _ _ _ _) _ _ _); first | with_reducible (k_here; (with_reducible show wpAny _ _ (subscriptTail _ _ (Value.ref _) (Value.str _ _)) _ _ _); k_dflt (refine' kids_item (by k_asm) (by k_mem) (by assumption) ?_))) | ((with_reducible show wpAny _ _ (compareOp CmpOp.NotIn (Value.str _ _) (Value.ref _)) _ _ _); first | with_reducible (k_here; k_dflt (refine' kids_nyes (by k_asm) (by k_mem) (by assumption) (by assumption) ?_))) | ((with_reducible show wpAny _ _ (call (Value.type "dict") _) _ _ _); first | with_reducible (k_here; k_dflt (refine' dict_copy (knd := PySem.strKind _ _) (by k_asm) (by k_asm) (by exact Top.nolimit (by k_asm)) (by k_mem) (by assumption) (by assumption) (by (rw [List.length_append]; exact Nat.le_trans (Nat.add_le_add (limKv_len) (Nat.le_refl _)) (Nat.le_of_ble_eq_true rfl))) ?_); intro D' h' o' F' N' l1 lo' hd'; (try k_lt l1))) | ((with_reducible show wpAny _ _ (execs (Stmt.Assign _ _ _ :: _ :: _) _) _ _ _); first | with_reducible (k_here; (with_reducible refine wpAny_execs_cons ?_); try dsimp only)) | ((with_reducible show RangeRest _ _ _ _ _ _ _ _ _ _ _ _ _ _ _ _ _); first | with_reducible (k_here; first | ((with_reducible refine RangeRest.succ ?_); intro t' h' tk' F' N') | ((with_reducible refine RangeRest.zero ?_); intro h' tk' F' N'))) | (k_end; kc_close) | walk1 | (dsimp only; walk1) | (leave1; (try dsimp only)))
    refine finishQ hret (by k_asm) (by k_asm) (by k_mem) (by ktd_sub) fun tl' U keep => ?_
    have ho1 := off1_mem (And.right (And.right (And.right ‹_ ∧ _ ∧ _ ∧ LCg.Off1 _ _›)))
    exact laidInner hT' hmore hys hrf (keep _ (.tail _ (.tail _ (.head _))) (by refine neN ?_; dsimp only; omega) (ne_ord (by ktn_ord))) (by assumption) (by assumption) hlim (keep _ (.head _) (by refine neN ?_; dsimp only; omega) fun q hq => ho1 q (mem_inl' hq)) hlen
      (fun p hp => keep p (.tail _ (.tail _ (.tail _ (.tail _ (mem_inr' hp))))) (hup _ (.head _) p hp) fun q hq => hup q (.tail _ (.tail _ (.tail _ hq))) p hp)
end
end
section
theorem walk_plain_CountA : True := by
  w_top off
  trivial
theorem sum_N {prog : Program} {w : World} {A : Around} {E : Value → Shared → Prop} {s : Shared} {h₀ : Heap} {L l : Addr} {m : Str → Option Value} {news : List (Addr × Obj)} {vs : List Value} {k : Nat} {ns : List Int} {Q : Value → Shared → Prop} (F : Fr h₀ L s.heap m) (N : News h₀ L s.heap news) (hh : A.handled = none) (hm : (l, listOf vs.toArray k) ∈ news) (hi : IntsAre vs ns)
    (h : ∀ h' tk t', Fr h₀ L h' m → News h₀ L h' news → Q (.int ns.sum t') { s with heap := h', toks := tk }) : wpAny (model prog w) A (call (.builtin "sum") [.ref l]) Q E s :=
  LSm.sum_ints F N hh ⟨_, (N _ hm).1, rfl, k, rfl⟩ hi h
theorem sum_cnt (n : Nat) (kids : List Node) : (kids.map fun d => (cnt n d : Int)).sum = ((kids.map (cnt n)).sum : Nat) := by
  induction kids with
  | nil => rfl
  | cons d l ih => simp only [List.map_cons, List.sum_cons, ih]; push_cast; rfl
theorem laid_any {w : World} {news0 : List (Addr × Obj)} {S T : Addr} (hS : ShelfAt w news0 S T) : ∀ (n : Nat) (v : Value) (d : Node), NodeIs w news0 n v d → Lays w news0 S T (4 + n) n v d := by
  obtain ⟨dS, R, k1, k2, n2, s1, s2, lT⟩ := hS
  have leaf : ∀ (n : Nat) (v : Value) (lim : Option (List Item)) (nums : List Item), NodeIs w news0 n v (.leaf lim nums) → Lays w news0 S T (4 + n) n v (.leaf lim nums) := by
    intro n v lim nums h oT tab rest hs hoff hT hl
    have h' : ∃ a lv nv, v = .ref a ∧ DictAt w news0 a (limKv lim lv ++ [(Str.ofString "Nums", nv)]) ∧ LimIs w news0 lim lv ∧ RowIs w news0 nv nums := by cases n <;> exact h
    obtain ⟨a, lv, nv, rfl, ⟨o, ho, lo, hd⟩, hlim, hrow⟩ := h'
    exact (laid_leaf w news0 S T a o lv nv lim nums n oT tab rest hs hoff hT ho lo hd hlim hrow).bigger (by omega)
  intro n
  induction n with
  | zero =>
    intro v d h
    cases d with
    | leaf lim nums => exact leaf 0 v lim nums h
    | inner lim kids => exact h.elim
  | succ n ih =>
    intro v d h
    cases d with
    | leaf lim nums => exact leaf (n + 1) v lim nums h
    | inner lim kids =>
      obtain ⟨a, lv, b, vs, m, rfl, ⟨o, ho, lo, hd⟩, hlim, hb, hk, hlen⟩ := h
      intro oT tab rest hs hoff hT hl
      exact (laid_in w news0 S T a o lv b vs m lim kids (4 + n) n oT tab rest hs hoff hT hl ho lo hd hlim hb hlen (hk.imp fun v d x => ih v d x) lT dS R k1 k2 n2 s1 s2 (by omega)).bigger (by omega)
def Counts (w : World) (news0 : List (Addr × Obj)) (sz n : Nat) (v : Value) (d : Node) : Prop :=
  ∀ news, (∀ p ∈ news0, p ∈ news) → Spec w 417 sz [v] news (Made news fun r _ => ∃ t, r = .int (cnt n d) t)
theorem Counts.use {w : World} {news0 : List (Addr × Obj)} {sz n : Nat} {v : Value} {d : Node} (h : Counts w news0 sz n v d) {news : List (Addr × Obj)} (hs : ∀ p ∈ news0, p ∈ news) : Spec w 417 sz [v] news (Made news fun r _ => ∃ t, r = .int (cnt n d) t) := h news hs
section
section
set_option maxRecDepth 100000 in
set_option maxHeartbeats 8000000 in
theorem numbers_spec (w : World) (S Tb dS R : Addr) (k1 k2 : Tok) (n : Nat) (oT : Obj) (tab : List Value) (news : List (Addr × Obj)) (hTb : (Tb, oT) ∈ news) (lT : (Tb == sysModules) = false) (hT : TabIs w oT tab) (hl : tab.length < 64)
   (hS : (S, instObj 363 dS) ∈ news) (hd : (dS, dictOf (shelfD w k1 k2 Tb R) n) ∈ news) :
   Spec w 348 1 [.ref S] news (Made news fun r tl => ∃ (b : Addr) (vs : List Value) (m : Nat), r = .ref b ∧ (b, listOf vs.toArray m) ∈ tl ∧ vs.length = tab.length) := by
  unfold Spec
  k_fill
  intro dp un gd cn cs a ccd cl outer A₀ base h₀ L m s loose mean mg mb Q E B F X N T hk hd hu hret
  refine wpAny_call ?_
  k_dflt ktr_enter
  repeat' (first | (k_unfold; (try dsimp only)) | ((with_reducible show wpAny _ _ (call (Value.builtin "sorted") _) _ _ _); first | with_reducible (k_here; k_dflt (refine' sorted_dictI (kvs := num 1 _) (by exact rfl) (by k_asm) (by k_asm) (by k_mem) (by assumption) (by assumption) (by (rw [num_length]; omega)) ?_; intro D' h' tk' vs' ns' e' F' N' l1 i1 n1; (rw [num_length] at n1)))) | ((with_reducible show wpAny _ _ (execs (Stmt.Assign _ _ _ :: _ :: _) _) _ _ _); first | with_reducible (k_here; (with_reducible refine wpAny_execs_cons ?_); try dsimp only)) | ((with_reducible show RangeRest _ _ _ _ _ _ _ _ _ _ _ _ _ _ _ _ _); first | with_reducible (k_here; first | ((with_reducible refine RangeRest.succ ?_); intro t' h' tk' F' N') | ((with_reducible refine RangeRest.zero ?_); intro h' tk' F' N'))) | (k_end; kc_close) | walk1 | (dsimp only; walk1) | (leave1; (try dsimp only)))
  refine finish hret (by k_asm) (by k_asm) (by ktd_sub) fun tl U keep => ?_
  exact ⟨_, _, _, rfl, keep _ (.head _) (by ktn_ord), (IntsAre.length (by assumption)).trans (by assumption)⟩
theorem numbers_use {w : World} {S Tb dS R : Addr} {k1 k2 : Tok} {n : Nat} {oT : Obj} {tab : List Value} {news : List (Addr × Obj)} (hS : (S, instObj 363 dS) ∈ news) (hd : (dS, dictOf (shelfD w k1 k2 Tb R) n) ∈ news) (hTb : (Tb, oT) ∈ news) (lT : (Tb == sysModules) = false) (hT : TabIs w oT tab) (hl : tab.length < 64) :
   Spec w 348 1 [.ref S] news (Made news fun r tl => ∃ (b : Addr) (vs : List Value) (m : Nat), r = .ref b ∧ (b, listOf vs.toArray m) ∈ tl ∧ vs.length = tab.length) := numbers_spec w S Tb dS R k1 k2 n oT tab news hTb lT hT hl hS hd
end
section
set_option maxRecDepth 100000 in
set_option maxHeartbeats 8000000 in
theorem count_leaf (w : World) (u : Addr) (ou : Obj) (lv nv : Value) (lim : Option (List Item)) (news : List (Addr × Obj)) (hu0 : (u, ou) ∈ news) (lo : (u == sysModules) = false) (hd : ou.IsDictOf (PySem.strKind PySem.Challenge.rw_og0169_01.row.prog w) (limKv lim lv ++ [(Str.ofString "Nums", nv)])) :
   Spec w 417 1 [.ref u] news (Made news fun r _ => ∃ t, r = .int 1 t) := by
  unfold Spec
  k_fill
  intro dp un gd cn cs a ccd cl outer A₀ base h₀ L m s loose mean mg mb Q E B F X N T hk hd hu hret
  refine wpAny_call ?_
  k_dflt ktr_enter
  repeat' (first | (k_unfold; (try dsimp only)) | ((with_reducible show wpAny _ _ (call (Value.builtin "dict.get") _) _ _ _); first | with_reducible (k_here; k_dflt (refine' kdg_get2 (knd := PySem.strKind _ _) (by k_asm) (by k_mem) (by assumption) (by assumption) (strKind_is _ _ _ _) none kids_not ?_); (try dsimp only [Option.getD]))) | ((with_reducible show wpAny _ _ (getMethod (Value.ref _) _ _) _ _ _); first | with_reducible (k_here; (with_reducible show wpAny _ _ (getMethod (Value.ref _) (Str.ofString "get") _) _ _ _); k_dflt (refine' get_kidsm (by k_asm) (by k_mem) (by assumption) ?_))) | ((with_reducible show wpAny _ _ (eval (Expr.ListComp _ _ _ _) _) _ _ _); first | with_reducible (k_here; k_dflt (refine LCg.ListComp_U (F₀ := by k_asm) (by rfl) (by decide) (by rfl) (by decide) (by rfl) ?_))) | ((with_reducible show wpAny _ _ (execs (Stmt.Assign _ _ _ :: _ :: _) _) _ _ _); first | with_reducible (k_here; (with_reducible refine wpAny_execs_cons ?_); try dsimp only)) | ((with_reducible show RangeRest _ _ _ _ _ _ _ _ _ _ _ _ _ _ _ _ _); first | with_reducible (k_here; first | ((with_reducible refine RangeRest.succ ?_); intro t' h' tk' F' N') | ((with_reducible refine RangeRest.zero ?_); intro h' tk' F' N'))) | (k_end; kc_close) | walk1 | (dsimp only; walk1) | (leave1; (try dsimp only)))
  exact finish hret (by k_asm) (by k_asm) (by ktd_sub) fun tl U keep => ⟨_, rfl⟩
end
section
set_option maxRecDepth 100000 in
set_option maxHeartbeats 8000000 in
theorem count_in (w : World) (news0 : List (Addr × Obj)) (u : Addr) (ou : Obj) (lv : Value) (b : Addr) (vs : List Value) (mb0 : Nat) (lim : Option (List Item)) (kids : List Node) (sz n : Nat) (news : List (Addr × Obj)) (hs : ∀ p ∈ news0, p ∈ news) (hu0 : (u, ou) ∈ news) (lo : (u == sysModules) = false) (hd : ou.IsDictOf (PySem.strKind PySem.Challenge.rw_og0169_01.row.prog w) (limKv lim lv ++ [(Str.ofString "Kids", .ref b)]))
   (hb0 : (b, listOf vs.toArray mb0) ∈ news) (hlen : kids.length ≤ 10) (hkids : All2 (Counts w news0 sz n) vs kids) :
   Spec w 417 (sz + 1) [.ref u] news (Made news fun r _ => ∃ t, r = .int (cnt (n + 1) (.inner lim kids)) t) := by
  unfold Spec
  k_fill
  intro dp un gd cn cs a ccd cl outer A₀ base h₀ L m s loose mean mg mb Q E B F X N T hk hd hu hret
  refine wpAny_call ?_
  k_dflt ktr_enter
  repeat' (first | (k_unfold; (try dsimp only)) | ((with_reducible show wpAny _ _ (call (Value.builtin "sum") _) _ _ _); first | with_reducible (k_here; (with_reducible show wpAny _ _ (call (Value.builtin "sum") [Value.ref _]) _ _ _); k_dflt (refine' sum_N (by k_asm) (by k_asm) (by exact rfl) (by k_mem) (by assumption) ?_); intro h' tk' t' F' N')) | ((with_reducible show LCg.CompEnd _ _ _ _ _ _ _ _ _ _ _ _ _ _); first | with_reducible (k_here; refine Stop.out ?_) | (k_here; refine Stop.out ?_)) | ((with_reducible show wpAny _ _ (call (Value.ref _) _) _ _ _); first | with_reducible (k_here; (with_reducible show wpAny _ _ (call (Value.ref 417) _) _ _ _); k_dflt ( refine' spec_use (f := 417) (by k_asm) (by k_asm) (by k_asm) (by k_asm) (by k_asm) (by first | exact rfl | assumption) (Counts.use (by assumption) (by ktd_sub)) (by ktr_room) (by ktr_units) (ret_int ?_); (intro t9 tl9 h9 tk9 F9 N9 up9; (try simp only [List.cons_append] at N9); (try k_sweep); (try dsimp only); (try k_fold))))) | ((with_reducible show wpAny _ _ (call (Value.builtin "dict.get") _) _ _ _); first | with_reducible (k_here; k_dflt (refine' kdg_get2 (knd := PySem.strKind _ _) (by k_asm) (by k_mem) (by assumption) (by assumption) (strKind_is _ _ _ _) (some _) kids_at ?_); (try dsimp only [Option.getD]))) | ((with_reducible show wpAny _ _ (getMethod (Value.ref _) _ _) _ _ _); first | with_reducible (k_here; (with_reducible show wpAny _ _ (getMethod (Value.ref _) (Str.ofString "get") _) _ _ _); k_dflt (refine' get_kidsm (by k_asm) (by k_mem) (by assumption) ?_))) | ((with_reducible show wpAny _ _ (eval (Expr.ListComp _ _ _ _) _) _ _ _); first | with_reducible (k_here; k_dflt (refine LCg.ListComp_U (F₀ := by k_asm) (by rfl) (by decide) (by rfl) (by decide) (by rfl) ?_))) | ((with_reducible show wpAny _ _ (execs (Stmt.Assign _ _ _ :: _ :: _) _) _ _ _); first | with_reducible (k_here; (with_reducible refine wpAny_execs_cons ?_); try dsimp only)) | ((with_reducible show RangeRest _ _ _ _ _ _ _ _ _ _ _ _ _ _ _ _ _); first | with_reducible (k_here; first | ((with_reducible refine RangeRest.succ ?_); intro t' h' tk' F' N') | ((with_reducible refine RangeRest.zero ?_); intro h' tk' F' N'))) | (k_end; kc_close) | walk1 | (dsimp only; walk1) | (leave1; (try dsimp only)))
  refine' LCg.CompSrc.ledger rfl ?F ?N ?m ?sz ?_
  case F => k_asm
  case N => k_asm
  case m => k_mem
  case sz => (rw [List.size_toArray, sizeLine_eq]; have := hkids.length; omega)
  intro g9
  refine compRest_up (fun i ys tl => IntsAre ys ((kids.take i).map fun d => (cnt n d : Int))) ?_ ?_ .nil
  · intro i ys tl v I oI C oC D m₂ hh tk E' hi hv U R hC hx F8 N8 off ne
    obtain ⟨d, hG, htk⟩ := hkids.at (i := i) (a := v) (by simpa using hv)
    repeat' (first | (k_unfold; (try dsimp only)) | ((with_reducible show wpAny _ _ (call (Value.builtin "sum") _) _ _ _); first | with_reducible (k_here; (with_reducible show wpAny _ _ (call (Value.builtin "sum") [Value.ref _]) _ _ _); k_dflt (refine' sum_N (by k_asm) (by k_asm) (by exact rfl) (by k_mem) (by assumption) ?_); intro h' tk' t' F' N')) | ((with_reducible show LCg.CompEnd _ _ _ _ _ _ _ _ _ _ _ _ _ _); first | with_reducible (k_here; refine Stop.out ?_) | (k_here; refine Stop.out ?_)) | ((with_reducible show wpAny _ _ (call (Value.ref _) _) _ _ _); first | with_reducible (k_here; (with_reducible show wpAny _ _ (call (Value.ref 417) _) _ _ _); k_dflt ( refine' spec_use (f := 417) (by k_asm) (by k_asm) (by k_asm) (by k_asm) (by k_asm) (by first | exact rfl | assumption) (Counts.use (by assumption) (by ktd_sub)) (by ktr_room) (by ktr_units) (ret_int ?_); (intro t9 tl9 h9 tk9 F9 N9 up9; (try simp only [List.cons_append] at N9); (try k_sweep); (try dsimp only); (try k_fold))))) | ((with_reducible show wpAny _ _ (call (Value.builtin "dict.get") _) _ _ _); first | with_reducible (k_here; k_dflt (refine' kdg_get2 (knd := PySem.strKind _ _) (by k_asm) (by k_mem) (by assumption) (by assumption) (strKind_is _ _ _ _) (some _) kids_at ?_); (try dsimp only [Option.getD]))) | ((with_reducible show wpAny _ _ (getMethod (Value.ref _) _ _) _ _ _); first | with_reducible (k_here; (with_reducible show wpAny _ _ (getMethod (Value.ref _) (Str.ofString "get") _) _ _ _); k_dflt (refine' get_kidsm (by k_asm) (by k_mem) (by assumption) ?_))) | ((with_reducible show wpAny _ _ (eval (Expr.ListComp _ _ _ _) _) _ _ _); first | with_reducible (k_here; k_dflt (refine LCg.ListComp_U (F₀ := by k_asm) (by rfl) (by decide) (by rfl) (by decide) (by rfl) ?_))) | ((with_reducible show wpAny _ _ (execs (Stmt.Assign _ _ _ :: _ :: _) _) _ _ _); first | with_reducible (k_here; (with_reducible refine wpAny_execs_cons ?_); try dsimp only)) | ((with_reducible show RangeRest _ _ _ _ _ _ _ _ _ _ _ _ _ _ _ _ _); first | with_reducible (k_here; first | ((with_reducible refine RangeRest.succ ?_); intro t' h' tk' F' N') | ((with_reducible refine RangeRest.zero ?_); intro h' tk' F' N'))) | (k_end; kc_close) | walk1 | (dsimp only; walk1) | (leave1; (try dsimp only)))
    unfold Stop
    refine compEnd_up (by k_asm) (by k_asm) (by assumption) off (.inr ⟨listOf vs.toArray mb0, by simp [hb0], rfl, mb0, rfl⟩) ⟨_, List.append_assoc .., U.app ((by assumption : Up ((I, oI) :: (C, oC) :: (D, LCg.lst ys) :: _) _).sub (sub_cons (sub_cons (sub_cons (sub_refl _))))), ?_⟩
    rw [htk, List.map_append]
    exact IntsAre.append R (.cons _ _ .nil)
  · intro ys tl U R
    rw [show vs.toArray.size = kids.length by simpa using hkids.length, List.take_length] at R
    repeat' (first | (k_unfold; (try dsimp only)) | ((with_reducible show wpAny _ _ (call (Value.builtin "sum") _) _ _ _); first | with_reducible (k_here; (with_reducible show wpAny _ _ (call (Value.builtin "sum") [Value.ref _]) _ _ _); k_dflt (refine' sum_N (by k_asm) (by k_asm) (by exact rfl) (by k_mem) (by assumption) ?_); intro h' tk' t' F' N')) | ((with_reducible show LCg.CompEnd _ _ _ _ _ _ _ _ _ _ _ _ _ _); first | with_reducible (k_here; refine Stop.out ?_) | (k_here; refine Stop.out ?_)) | ((with_reducible show wpAny _ _ (call (Value.ref _) _) _ _ _); first | with_reducible (k_here; (with_reducible show wpAny _ _ (call (Value.ref 417) _) _ _ _); k_dflt ( refine' spec_use (f := 417) (by k_asm) (by k_asm) (by k_asm) (by k_asm) (by k_asm) (by first | exact rfl | assumption) (Counts.use (by assumption) (by ktd_sub)) (by ktr_room) (by ktr_units) (ret_int ?_); (intro t9 tl9 h9 tk9 F9 N9 up9; (try simp only [List.cons_append] at N9); (try k_sweep); (try dsimp only); (try k_fold))))) | ((with_reducible show wpAny _ _ (call (Value.builtin "dict.get") _) _ _ _); first | with_reducible (k_here; k_dflt (refine' kdg_get2 (knd := PySem.strKind _ _) (by k_asm) (by k_mem) (by assumption) (by assumption) (strKind_is _ _ _ _) (some _) kids_at ?_); (try dsimp only [Option.getD]))) | ((with_reducible show wpAny _ _ (getMethod (Value.ref _) _ _) _ _ _); first | with_reducible (k_here; (with_reducible show wpAny _ _ (getMethod (Value.ref _) (Str.ofString "get") _) _ _ _); k_dflt (refine' get_kidsm (by k_asm) (by k_mem) (by assumption) ?_))) | ((with_reducible show wpAny _ _ (eval (Expr.ListComp _ _ _ _) _) _ _ _); first | with_reducible (k_here; k_dflt (refine LCg.ListComp_U (F₀ := by k_asm) (by rfl) (by decide) (by rfl) (by decide) (by rfl) ?_))) | ((with_reducible show wpAny _ _ (execs (Stmt.Assign _ _ _ :: _ :: _) _) _ _ _); first | with_reducible (k_here; (with_reducible refine wpAny_execs_cons ?_); try dsimp only)) | ((with_reducible show RangeRest _ _ _ _ _ _ _ _ _ _ _ _ _ _ _ _ _); first | with_reducible (k_here; first | ((with_reducible refine RangeRest.succ ?_); intro t' h' tk' F' N') | ((with_reducible refine RangeRest.zero ?_); intro h' tk' F' N'))) | (k_end; kc_close) | walk1 | (dsimp only; walk1) | (leave1; (try dsimp only)))
    exact finish hret (by k_asm) (by k_asm) (by ktd_sub) fun tl U keep => ⟨_, by rw [sum_cnt]; simp only [cnt]; push_cast; rfl⟩
end
end
theorem count_any {w : World} {news0 : List (Addr × Obj)} : ∀ (n : Nat) (v : Value) (d : Node), NodeIs w news0 n v d → Counts w news0 (1 + n) n v d := by
  have leaf : ∀ (n : Nat) (v : Value) (lim : Option (List Item)) (nums : List Item), NodeIs w news0 n v (.leaf lim nums) → Counts w news0 (1 + n) n v (.leaf lim nums) := by
    intro n v lim nums h news hs
    have h' : ∃ a lv nv, v = .ref a ∧ DictAt w news0 a (limKv lim lv ++ [(Str.ofString "Nums", nv)]) := by cases n <;> (obtain ⟨a, lv, nv, x, y, _⟩ := h; exact ⟨a, lv, nv, x, y⟩)
    obtain ⟨a, lv, nv, rfl, ⟨o, ho, lo, hd⟩⟩ := h'
    have := (count_leaf w a o lv nv lim news (hs _ ho) lo hd).bigger (sz' := 1 + n) (by omega)
    cases n <;> exact this
  intro n
  induction n with
  | zero =>
    intro v d h
    cases d with
    | leaf lim nums => exact leaf 0 v lim nums h
    | inner lim kids => exact h.elim
  | succ n ih =>
    intro v d h
    cases d with
    | leaf lim nums => exact leaf (n + 1) v lim nums h
    | inner lim kids =>
      obtain ⟨a, lv, b, vs, m, rfl, ⟨o, ho, lo, hd⟩, hlim, hb, hk, hlen⟩ := h
      intro news hs
      exact (count_in w news0 a o lv b vs m lim kids (1 + n) n news hs (hs _ ho) lo hd (hs _ hb) hlen (hk.imp fun v d x => ih v d x)).bigger (by omega)
end
section
theorem split3 {d : Int} {G : Prop} (h0 : 0 ≤ d) (h1 : d < 3) (k0 : d = 0 → G) (k1 : d = 1 → G) (k2 : d = 2 → G) : G := by
  have : d = 0 ∨ d = 1 ∨ d = 2 := by omega
  rcases this with h | h | h
  · exact k0 h
  · exact k1 h
  · exact k2 h
theorem small0 {d : Int} (h0 : 0 ≤ d) (h1 : d < 3) : Builtin.Range.small 0 d 1 = true := split3 h0 h1 (fun e => by subst e; decide) (fun e => by subst e; decide) (fun e => by subst e; decide)
theorem rsize0 {d : Int} (h0 : 0 ≤ d) (h1 : d < 3) : Builtin.Range.rangeSize 0 d 1 = ((d.toNat : Nat) : Int) := split3 h0 h1 (fun e => by subst e; decide) (fun e => by subst e; decide) (fun e => by subst e; decide)
theorem toNat2 {d : Int} (h1 : d < 3) : d.toNat ≤ 2 := by omega
theorem Pick.news2 {P T : Addr} {o oT : Obj} {l r r2 : List (Addr × Obj)} {h₀ h : Heap} {L : Addr} (k : Pick T oT l r) (k2 : Pick P o r r2) (N : News h₀ L h l) : News h₀ L h ((T, oT) :: (P, o) :: r2) := fun p hp => by
  rcases List.mem_cons.mp hp with rfl | hp
  · exact N _ (k.mem _ (.head _))
  · exact N _ (k.mem _ (.tail _ (k2.mem _ hp)))
theorem Spec.pick {w : World} {f : Addr} {sz : Nat} {args : List Value} {T : Addr} {oT : Obj} {all rest : List (Addr × Obj)} {post : Value → List (Addr × Obj) → Prop} (P : Pick T oT all rest) (C : Spec w f sz args ((T, oT) :: rest) post) : Spec w f sz args all post :=
  fun _ _ _ _ _ _ _ _ _ _ _ _ _ _ _ _ _ _ _ _ _ B F X N T hk hd hu ret => C _ _ _ _ _ _ _ _ _ _ _ _ _ _ _ _ _ _ _ _ _ B F X (Pick.news P N) T hk hd hu ret
theorem add_pick {w : World} {S T dS R : Addr} {k1 k2 : Tok} {n : Nat} {oT : Obj} {vs : List Value} {v : Value} {all rest : List (Addr × Obj)} (hT : TabIs w oT vs) (P : Pick T oT all rest) (hoff : ∀ p ∈ rest, p.1 ≠ T) (lT : (T == sysModules) = false) (hl : vs.length ≤ 1000)
   (hS : (S, instObj 363 dS) ∈ rest) (hd : (dS, dictOf (shelfD w k1 k2 T R) n) ∈ rest) :
   Spec w 334 3 [.ref S, v] all (MadeP T oT rest fun r oT' tl => ∃ t, TabIs w oT' (vs ++ [.ref t]) ∧ (∃ tk m, (t, tupOf #[.int 0 tk, v] m) ∈ tl) ∧ RefIs w tl r (vs.length + 1) 0) := Spec.pick P (add_spec w S T dS R k1 k2 n oT vs v rest hoff lT hT hl hS hd)
def Off2 (T P : Addr) (a : List (Addr × Obj)) : Prop := ∀ p ∈ a, p.1 ≠ T ∧ p.1 ≠ P
theorem Off2.fst {T P : Addr} {a : List (Addr × Obj)} (h : Off2 T P a) : ∀ p ∈ a, p.1 ≠ T := fun p hp => (h p hp).1
theorem Off2.snd {T P : Addr} {a : List (Addr × Obj)} (h : Off2 T P a) : ∀ p ∈ a, p.1 ≠ P := fun p hp => (h p hp).2
theorem Off2.more {T P : Addr} {a L tl : List (Addr × Obj)} (h : Off2 T P a) (u : Apart L tl) (mT : ∃ o, (T, o) ∈ L) (mP : ∃ o, (P, o) ∈ L) : Off2 T P (a ++ tl) := fun p hp => by
  obtain ⟨oT, mT⟩ := mT
  obtain ⟨oP, mP⟩ := mP
  rcases List.mem_append.mp hp with hp | hp
  · exact h p hp
  · exact ⟨(u _ mT p hp).symm, (u _ mP p hp).symm⟩
theorem Off2.moreU {T P : Addr} {a L tl : List (Addr × Obj)} (h : Off2 T P a) (u : Up L tl) (mT : ∃ o, (T, o) ∈ L) (mP : ∃ o, (P, o) ∈ L) : Off2 T P (a ++ tl) := h.more u.apart mT mP
/-- a call's post: the table and the pool changed, and what was made stands elsewhere -/
inductive MadeQ2 (T : Addr) (oT : Obj) (P : Addr) (oP : Obj) (rest : List (Addr × Obj)) (X : Value → Obj → List (Addr × Obj) → Prop) (r : Value) (news' : List (Addr × Obj)) : Prop
  | mk (o') (vs') (n') (tl) (h0 : news' = (T, o') :: (P, listOf (List.toArray vs') n') :: (rest ++ tl)) (h1 : PoolIs vs') (h2 : Apart ((T, oT) :: (P, oP) :: rest) tl) (h3 : X r o' tl) : MadeQ2 T oT P oP rest X r news'
theorem ret_q2 {h₀ : Heap} {L : Addr} {m : Str → Option Value} {s : Shared} {Q : Value → Shared → Prop} {T P : Addr} {oT oP : Obj} {rest : List (Addr × Obj)} {X : Value → Obj → List (Addr × Obj) → Prop} (k : ∀ r o' vs n tl h' tk', Fr h₀ L h' m → News h₀ L h' ((T, o') :: (P, listOf (List.toArray vs) n) :: (rest ++ tl)) → PoolIs vs → Apart ((T, oT) :: (P, oP) :: rest) tl → X r o' tl → Q r { s with heap := h', toks := tk' }) :
    ∀ r n' h' tk', Fr h₀ L h' m → News h₀ L h' n' → MadeQ2 T oT P oP rest X r n' → Q r { s with heap := h', toks := tk' } := by
  rintro r n' h' tk' F N ⟨o', vs, n, tl, rfl, a1, a2, a3⟩
  exact k r o' vs n tl h' tk' F N a1 a2 a3
theorem finishQ2 {h₀ h : Heap} {L T P : Addr} {oT oT' oP : Obj} {vs' : List Value} {n' : Nat} {m : Str → Option Value} {s : Shared} {tk : Nat} {r : Value} {rest all : List (Addr × Obj)} {X : Value → Obj → List (Addr × Obj) → Prop} {Q : Value → Shared → Prop}
    (hret : ∀ r news' h' tk', Fr h₀ L h' m → News h₀ L h' news' → MadeQ2 T oT P oP rest X r news' → Q r { s with heap := h', toks := tk' })
    (F : Fr h₀ L h m) (N : News h₀ L h all) (hT : (T, oT') ∈ all) (hP : (P, listOf vs'.toArray n') ∈ all) (hp : PoolIs vs') (h1 : ∀ p ∈ rest, p ∈ all) (hX : ∀ tl, Apart ((T, oT) :: (P, oP) :: rest) tl → (∀ p ∈ all, T ≠ p.1 → P ≠ p.1 → (∀ q ∈ rest, q.1 ≠ p.1) → p ∈ tl) → X r oT' tl) : Q r { s with heap := h, toks := tk } := by
  refine finishQ (T := T) (oT := oT) (rest := (P, listOf vs'.toArray n') :: rest) (X := fun r o' tl => Apart ((T, oT) :: (P, oP) :: rest) tl ∧ X r o' tl) (fun r news' h' tk' F N hq => ?_) F N hT (fun p hp => ?_) fun tl ha hk => ?_
  · obtain ⟨o', tl, e, _, ha, hx⟩ := hq
    exact hret r news' h' tk' F N ⟨o', vs', n', tl, e, hp, ha, hx⟩
  · rcases List.mem_cons.mp hp with rfl | hp
    · exact hP
    · exact h1 p hp
  · have ha' : Apart ((T, oT) :: (P, oP) :: rest) tl := fun q hq p hp => by
      rcases List.mem_cons.mp hq with rfl | hq
      · exact ha (T, oT) (.head _) p hp
      · rcases List.mem_cons.mp hq with rfl | hq
        · exact ha (P, listOf vs'.toArray n') (.tail _ (.head _)) p hp
        · exact ha q (.tail _ (.tail _ hq)) p hp
    exact ⟨ha', hX tl ha' fun p hp hTp hPp hr => hk p hp hTp fun q hq => by
      rcases List.mem_cons.mp hq with rfl | hq
      · exact hPp
      · exact hr q hq⟩
inductive HungPost (w : World) (news0 : List (Addr × Obj)) (tab : List Value) (n : Nat) (d : Node) (r : Value) (o' : Obj) (tl : List (Addr × Obj)) : Prop
  | mk (more) (h0 : TabIs w o' (tab ++ more)) (h1 : more.length ≤ 3 * cnt n d) (h2 : StandsAt w (news0 ++ tl) (tab ++ more) 3 n (tab.length + more.length) r d) : HungPost w news0 tab n d r o' tl
theorem ret_hung {h₀ : Heap} {L : Addr} {m : Str → Option Value} {s : Shared} {Q : Value → Shared → Prop} {w : World} {news0 : List (Addr × Obj)} {tab : List Value} {j : Nat} {d : Node} {T P : Addr} {oT oP : Obj} {rest : List (Addr × Obj)} (k : ∀ r o' vs n tl more h' tk', Fr h₀ L h' m → News h₀ L h' ((T, o') :: (P, listOf (List.toArray vs) n) :: (rest ++ tl)) → PoolIs vs → Apart ((T, oT) :: (P, oP) :: rest) tl → TabIs w o' (tab ++ more) → more.length ≤ 3 * cnt j d → StandsAt w (news0 ++ tl) (tab ++ more) 3 j (tab.length + more.length) r d → Q r { s with heap := h', toks := tk' }) :
    ∀ r n' h' tk', Fr h₀ L h' m → News h₀ L h' n' → MadeQ2 T oT P oP rest (HungPost w news0 tab j d) r n' → Q r { s with heap := h', toks := tk' } := by
  rintro r n' h' tk' F N ⟨o', vs, n, tl, rfl, a1, a2, more, a3, a4, a5⟩
  exact k r o' vs n tl more h' tk' F N a1 a2 a3 a4 a5
def Hangs (w : World) (news0 : List (Addr × Obj)) (S T P : Addr) (sz n : Nat) (v : Value) (d : Node) : Prop :=
  ∀ oT tab vs m rest, (∀ p ∈ news0, p ∈ rest) → Off2 T P rest → TabIs w oT tab → PoolIs vs → tab.length + 3 * cnt n d ≤ 1000 → Spec w 422 sz [.ref P, .ref S, v] ((T, oT) :: (P, listOf vs.toArray m) :: rest) (MadeQ2 T oT P (listOf vs.toArray m) rest (HungPost w news0 tab n d))
theorem StandsAt.hop2 {w : World} {Lg tlk : List (Addr × Obj)} {tab : List Value} {H n : Nat} {v y : Value} {d : Node} {t e : Addr} {m : Nat} (hr : RefIs w tlk y (tab.length + 1) 0) (hm : (t, tupOf #[.int 0 e, v] m) ∈ tlk) (hs : ∀ p ∈ tlk, p ∈ Lg) (x : StandsAt w Lg tab H n tab.length v d) : StandsAt w Lg (tab ++ [Value.ref t]) (H + 1) n ((tab ++ [Value.ref t]).length) y d := by
  have x := x.mono (news' := Lg) (more := [.ref t]) (fun _ h => h) (Int.le_refl _)
  have z := x.hop (k := (tab.length : Int) + 1) (y := y) (t := t) (e := e) (m := m) (by omega) (by omega) (hr.mono hs) (by
    rw [show ((tab.length : Int) + 1 - 1).toNat = tab.length by omega]
    simp) (hs _ hm)
  have e1 : ((tab ++ [Value.ref t]).length : Int) = (tab.length : Int) + 1 := by simp
  rw [e1]
  exact z
theorem keep_tl {T P : Addr} {L tlk rest all tl' news0 : List (Addr × Obj)} (keep : ∀ p ∈ all, T ≠ p.1 → P ≠ p.1 → (∀ q ∈ rest, q.1 ≠ p.1) → p ∈ tl') (u : Apart L tlk) (mT : ∃ o, (T, o) ∈ L) (mP : ∃ o, (P, o) ∈ L) (mr : ∀ q ∈ rest, q ∈ L) (ma : ∀ p ∈ tlk, p ∈ all) : ∀ p ∈ tlk, p ∈ news0 ++ tl' := fun p hp => by
  obtain ⟨o, mT⟩ := mT
  obtain ⟨o', mP⟩ := mP
  exact List.mem_append.mpr (.inr (keep p (ma p hp) (u _ mT p hp) (u _ mP p hp) fun q hq => u q (mr q hq) p hp))
theorem standsLeaf {w : World} {news0 tl : List (Addr × Obj)} {tab : List Value} {n : Nat} {lim : Option (List Item)} {nums : List Item} {lv nv : Value} {D : Addr} {o : Obj} (hD : (D, o) ∈ tl) (lo : (D == sysModules) = false) (hd : o.IsDictOf (PySem.strKind PySem.Challenge.rw_og0169_01.row.prog w) (limKv lim lv ++ [(Str.ofString "Nums", nv)])) (hlim : LimIs w news0 lim lv) (hrow : RowIs w news0 nv nums) :
    StandsAt w (news0 ++ tl) tab 0 n tab.length (.ref D) (.leaf lim nums) := by
  refine ⟨0, D, tab.length, Nat.le_refl _, rfl, .inl ⟨rfl, Int.le_refl _⟩, ?_⟩
  have : ∃ lv nv, DictAt w (news0 ++ tl) D (limKv lim lv ++ [(Str.ofString "Nums", nv)]) ∧ LimIs w (news0 ++ tl) lim lv ∧ RowIs w (news0 ++ tl) nv nums := ⟨lv, nv, ⟨o, List.mem_append.mpr (.inr hD), lo, hd⟩, hlim.mono (sub_l _ _), hrow.mono (sub_l _ _)⟩
  cases n <;> exact this
theorem hungEnd {w : World} {news0 tl : List (Addr × Obj)} {tab tabf more : List Value} {H n : Nat} {r : Value} {d : Node} {o : Obj} (hT : TabIs w o tabf) (e : tabf = tab ++ more) (hl : more.length ≤ 3 * cnt n d) (hH : H ≤ 3) (x : StandsAt w (news0 ++ tl) tabf H n tabf.length r d) : HungPost w news0 tab n d r o tl := by
  subst e
  obtain ⟨h, u, B', hh, a, b, c⟩ := x
  refine ⟨more, hT, hl, h, u, B', by omega, a, ?_, c⟩
  rwa [List.length_append, Int.natCast_add] at b
theorem cnt_leaf (n : Nat) (lim : Option (List Item)) (nums : List Item) : cnt n (.leaf lim nums) = 1 := by cases n <;> rfl
theorem off_app {X : Addr} {a tl : List (Addr × Obj)} (h : ∀ p ∈ a, p.1 ≠ X) (k : ∀ p ∈ tl, p.1 ≠ X) : ∀ p ∈ a ++ tl, p.1 ≠ X := fun p hp => by
  rcases List.mem_append.mp hp with hp | hp
  · exact h p hp
  · exact k p hp
theorem off_ap {X : Addr} {L tl : List (Addr × Obj)} (u : Apart L tl) (m : ∃ o, (X, o) ∈ L) : ∀ p ∈ tl, p.1 ≠ X := fun p hp => by
  obtain ⟨o, m⟩ := m
  exact (u _ m p hp).symm
end
section
local macro_rules | `(tactic| walk_at "an idle line 0") => `(tactic| fail "idle")
theorem walk_plain_HungB : True := by
  w_top off
  trivial
theorem Hangs.use {w : World} {news0 : List (Addr × Obj)} {S T P : Addr} {sz n : Nat} {v : Value} {d : Node} (h : Hangs w news0 S T P sz n v d) {oT : Obj} {tab vs : List Value} {m : Nat} {rest : List (Addr × Obj)} (hs : ∀ p ∈ news0, p ∈ rest) (ho : Off2 T P rest) (hT : TabIs w oT tab) (hp : PoolIs vs) (hl : tab.length + 3 * cnt n d ≤ 1000) :
    Spec w 422 sz [.ref P, .ref S, v] ((T, oT) :: (P, listOf vs.toArray m) :: rest) (MadeQ2 T oT P (listOf vs.toArray m) rest (HungPost w news0 tab n d)) := h oT tab vs m rest hs ho hT hp hl
theorem Hangs.pick {w : World} {news0 : List (Addr × Obj)} {S T P : Addr} {sz n : Nat} {v : Value} {d : Node} {oT : Obj} {tab vs : List Value} {m : Nat} {all r1 rest : List (Addr × Obj)} (hT : TabIs w oT tab) (P1 : Pick T oT all r1) (P2 : Pick P (listOf vs.toArray m) r1 rest) (h : Hangs w news0 S T P sz n v d) (hs : ∀ p ∈ news0, p ∈ rest) (ho : Off2 T P rest) (hp : PoolIs vs) (hl : tab.length + 3 * cnt n d ≤ 1000) :
    Spec w 422 sz [.ref P, .ref S, v] all (MadeQ2 T oT P (listOf vs.toArray m) rest (HungPost w news0 tab n d)) :=
  fun _ _ _ _ _ _ _ _ _ _ _ _ _ _ _ _ _ _ _ _ _ B F X N T hk hd hu ret => h oT tab vs m rest hs ho hT hp hl _ _ _ _ _ _ _ _ _ _ _ _ _ _ _ _ _ _ _ _ _ B F X (Pick.news2 P1 P2 N) T hk hd hu ret
inductive CInv2 (w : World) (news0 : List (Addr × Obj)) (T : Addr) (oT : Obj) (P : Addr) (oP : Obj) (base : List (Addr × Obj)) (tab : List Value) (n : Nat) (kids : List Node) (i : Nat) (ys : List Value) (nx : List (Addr × Obj)) : Prop
  | mk (o') (vs) (m) (all) (more) (tl) (h0 : nx = (T, o') :: (P, listOf (List.toArray vs) m) :: all) (h1 : all = base ++ tl) (h2 : Apart ((T, oT) :: (P, oP) :: base) tl) (h3 : TabIs w o' (tab ++ more)) (h4 : PoolIs vs) (h5 : more.length ≤ 3 * ((kids.take i).map (cnt n)).sum) (h6 : All2 (StandsAt w (news0 ++ tl) (tab ++ more) 3 n (tab.length + more.length)) ys (kids.take i)) : CInv2 w news0 T oT P oP base tab n kids i ys nx
theorem CInv2.start {w : World} {news0 : List (Addr × Obj)} {T P : Addr} {oT oP : Obj} {vs : List Value} {m : Nat} {base : List (Addr × Obj)} {tab : List Value} {n : Nat} {kids : List Node} (hT : TabIs w oT tab) (hp : PoolIs vs) : CInv2 w news0 T oT P oP base tab n kids 0 [] ((T, oT) :: (P, listOf vs.toArray m) :: base) :=
  ⟨oT, vs, m, base, [], [], rfl, by rw [List.append_nil], Apart.nil _, by rwa [List.append_nil], hp, Nat.zero_le _, trivial⟩
theorem CInv2.next {w : World} {news0 : List (Addr × Obj)} {T P : Addr} {oT oP o1 o2 oP1 : Obj} {base all tl tl9 X : List (Addr × Obj)} {tab more vs9 : List Value} {m9 : Nat} {n i : Nat} {kids : List Node} {ys : List Value} {d : Node} {y : Value}
    (hall : all = base ++ tl) (u : Apart ((T, oT) :: (P, oP) :: base) tl) (hb : ∀ p ∈ base, p ∈ X) (hm : more.length ≤ 3 * ((kids.take i).map (cnt n)).sum) (hys : All2 (StandsAt w (news0 ++ tl) (tab ++ more) 3 n (tab.length + more.length)) ys (kids.take i)) (htk : kids.take (i + 1) = kids.take i ++ [d])
    (u9 : Apart ((T, o1) :: (P, oP1) :: X) tl9) (hp : PoolIs vs9) (hx : HungPost w news0 (tab ++ more) n d y o2 tl9) : CInv2 w news0 T oT P oP base tab n kids (i + 1) (ys ++ [y]) ((T, o2) :: (P, listOf vs9.toArray m9) :: (all ++ tl9)) := by
  obtain ⟨more9, hT, hc, st⟩ := hx
  refine ⟨o2, vs9, m9, all ++ tl9, more ++ more9, tl ++ tl9, rfl, by rw [hall, List.append_assoc], ?_, by rw [← List.append_assoc]; exact hT, hp, ?_, ?_⟩
  · intro q hq p hp
    rcases List.mem_append.mp hp with hp | hp
    · exact u q hq p hp
    · rcases List.mem_cons.mp hq with rfl | hq
      · exact u9 (T, o1) (.head _) p hp
      · rcases List.mem_cons.mp hq with rfl | hq
        · exact u9 (P, oP1) (.tail _ (.head _)) p hp
        · exact u9 q (.tail _ (.tail _ (hb q hq))) p hp
  · rw [htk]
    simp only [List.length_append, List.map_append, List.map_cons, List.map_nil, List.sum_append, List.sum_cons, List.sum_nil]
    omega
  · rw [htk]
    refine All2.snoc ?_ (hys.imp fun v d x => ?_)
    · have x := st.mono (news' := news0 ++ (tl ++ tl9)) (more := []) (fun p hp => by
        rcases List.mem_append.mp hp with hp | hp
        · exact List.mem_append.mpr (.inl hp)
        · exact List.mem_append.mpr (.inr (List.mem_append.mpr (.inr hp)))) (C := (tab.length : Int) + ((more ++ more9).length : Int)) (by simp only [List.length_append]; push_cast; omega)
      rw [List.append_nil, List.append_assoc] at x
      exact x
    · have x := x.mono (news' := news0 ++ (tl ++ tl9)) (more := more9) (fun p hp => by
        rcases List.mem_append.mp hp with hp | hp
        · exact List.mem_append.mpr (.inl hp)
        · exact List.mem_append.mpr (.inr (List.mem_append.mpr (.inl hp)))) (C := (tab.length : Int) + ((more ++ more9).length : Int)) (by simp only [List.length_append]; push_cast; omega)
      rw [List.append_assoc] at x
      exact x
theorem CInv2.room {n i : Nat} {tab more : List Value} {kids : List Node} {d : Node} {lim : Option (List Item)} (hl : tab.length + 3 * cnt (n + 1) (.inner lim kids) ≤ 1000) (hm : more.length ≤ 3 * ((kids.take i).map (cnt n)).sum) (htk : kids.take (i + 1) = kids.take i ++ [d]) : (tab ++ more).length + 3 * cnt n d ≤ 1000 := by
  have h := sum_take_le (cnt n) kids (i + 1)
  rw [htk] at h
  simp only [List.map_append, List.map_cons, List.map_nil, List.sum_append, List.sum_cons, List.sum_nil, cnt] at h hl
  rw [List.length_append]
  omega
theorem compEnd_P2 {h₀ : Heap} {L T P I C D : Addr} {m : Str → Option Value} {s₁ : Shared} {o2 oP oI oC oD : Obj} {S : List (Addr × Obj) → Prop} {rest : Value → List (Addr × Obj) → Prop} {y : Value} {h' : Heap} {tk : Nat} {Y : List (Addr × Obj)}
    (F : Fr h₀ L h' m) (N : News h₀ L h' ((T, o2) :: (P, oP) :: (I, oI) :: (C, oC) :: (D, oD) :: Y)) (off : LCg.Off3 I C D ((T, o2) :: (P, oP) :: Y)) (hS : S ((T, o2) :: (P, oP) :: Y)) (r : rest y ((T, o2) :: (P, oP) :: Y)) :
    LCg.CompEnd h₀ L m s₁ I oI C oC D oD S rest y { s₁ with heap := h', toks := tk } :=
  ⟨h', tk, (T, o2) :: (P, oP) :: Y, rfl, F, fun p hp => N p (by
    simp only [List.mem_cons] at hp ⊢
    rcases hp with h | h | h | h | h | h <;> simp [h]), off, hS, r⟩
theorem off3_up2 {T P I C D : Addr} {o o1 o2 oP oP1 oP2 oI oC oD : Obj} {X tl : List (Addr × Obj)} (off : LCg.Off3 I C D ((T, o) :: (P, oP) :: X)) (u : Apart ((T, o1) :: (P, oP1) :: (I, oI) :: (C, oC) :: (D, oD) :: X) tl) : LCg.Off3 I C D ((T, o2) :: (P, oP2) :: (X ++ tl)) :=
  ⟨off.1, off.2.1, off3_app off.2.2 fun p hp => ⟨u _ (.tail _ (.tail _ (.head _))) p hp, u _ (.tail _ (.tail _ (.tail _ (.head _)))) p hp, u _ (.tail _ (.tail _ (.tail _ (.tail _ (.head _))))) p hp⟩⟩
theorem off2_T {T P I C D : Addr} {o oP oI oC oD : Obj} {X : List (Addr × Obj)} (off : LCg.Off3 I C D ((T, o) :: (P, oP) :: X)) (hX : Off2 T P X) : Off2 T P ((I, oI) :: (C, oC) :: (D, oD) :: X) := fun p hp => by
  rcases List.mem_cons.mp hp with rfl | hp
  · exact ⟨Ne.symm off.1.1, Ne.symm off.2.1.1⟩
  · rcases List.mem_cons.mp hp with rfl | hp
    · exact ⟨Ne.symm off.1.2.1, Ne.symm off.2.1.2.1⟩
    · rcases List.mem_cons.mp hp with rfl | hp
      · exact ⟨Ne.symm off.1.2.2, Ne.symm off.2.1.2.2⟩
      · exact hX p hp
/-- behind the node's own dict -/
inductive CutH (w : World) (news0 : List (Addr × Obj)) (T : Addr) (oT : Obj) (P : Addr) (oP : Obj) (D : Addr) (oD : Obj) (base : List (Addr × Obj)) (tab : List Value) (n : Nat) (d : Node) (g : Heap) (L : Addr) (m : Str → Option Value) (s s' : Shared) : Prop
  | mk (h : Heap) (tk : Nat) (oT' : Obj) (vs : List Value) (pn : Nat) (oD' : Obj) (more : List Value) (tl : List (Addr × Obj)) (e : s' = { s with heap := h, toks := tk }) (F : Fr g L h m) (N : News g L h ((T, oT') :: (P, listOf vs.toArray pn) :: (D, oD') :: (base ++ tl)))
    (hT : TabIs w oT' (tab ++ more)) (hp : PoolIs vs) (u : Apart ((T, oT) :: (P, oP) :: (D, oD) :: base) tl) (hm : more.length + 3 ≤ 3 * cnt n d)
    (x : ∀ Lg, (∀ p ∈ (D, oD') :: tl, p ∈ Lg) → StandsAt w (news0 ++ Lg) (tab ++ more) 0 n (tab ++ more).length (.ref D) d) : CutH w news0 T oT P oP D oD base tab n d g L m s s'
theorem cut_hung {w : World} {A : Around} {E : Value → Shared → Prop} {s : Shared} {env : Env} {st : Stmt} {rest : List Stmt} {Q : Flow → Shared → Prop} {news0 : List (Addr × Obj)} {T P D : Addr} {oT oP oD : Obj} {base : List (Addr × Obj)} {tab : List Value} {n : Nat} {d : Node} {g : Heap} {L : Addr} {m : Str → Option Value} (_F : Fr g L s.heap m)
    (h1 : wpAny (model PySem.Challenge.rw_og0169_01.row.prog w) A (exec st env) (fun f s' => match f with | .next => CutH w news0 T oT P oP D oD base tab n d g L m s s' | f => Q f s') E s)
    (h2 : ∀ h tk oT' vs pn oD' more tl, Fr g L h m → News g L h ((T, oT') :: (P, listOf vs.toArray pn) :: (D, oD') :: (base ++ tl)) → TabIs w oT' (tab ++ more) → PoolIs vs → Apart ((T, oT) :: (P, oP) :: (D, oD) :: base) tl → more.length + 3 ≤ 3 * cnt n d →
      (∀ Lg, (∀ p ∈ (D, oD') :: tl, p ∈ Lg) → StandsAt w (news0 ++ Lg) (tab ++ more) 0 n (tab ++ more).length (.ref D) d) → wpAny (model PySem.Challenge.rw_og0169_01.row.prog w) A (execs rest env) Q E { s with heap := h, toks := tk }) : wpAny (model PySem.Challenge.rw_og0169_01.row.prog w) A (execs (st :: rest) env) Q E s := by
  refine wpAny_execs_cons (wpAny_mono h1 (fun f s' hf => ?_) fun _ _ e => e)
  cases f with
  | next => obtain ⟨h, tk, oT', vs, pn, oD', more, tl, rfl, F, N, a, b, c, d, e⟩ := hf; exact h2 h tk oT' vs pn oD' more tl F N a b c d e
  | brk => exact hf
  | cont => exact hf
  | ret v => exact hf
/-- what the loop over the references keeps -/
inductive HInv (w : World) (news0 : List (Addr × Obj)) (T : Addr) (oT : Obj) (P : Addr) (oP : Obj) (base : List (Addr × Obj)) (tab : List Value) (n : Nat) (d : Node) (m₀ : Str → Option Value) (I : Addr) (k : Nat) (m : Str → Option Value) (nx : List (Addr × Obj)) : Prop
  | mk (v : Value) (o : Obj) (vs : List Value) (pn H : Nat) (more : List Value) (all tl : List (Addr × Obj)) (hm : Sets (Str.ofString "turn") (Str.ofString "place") m₀ v m) (hs : ∀ p ∈ (T, o) :: (P, listOf vs.toArray pn) :: all, p ∈ nx) (hall : all = base ++ tl) (hI : ∀ p ∈ nx, p.1 ≠ I) (u : Apart ((T, oT) :: (P, oP) :: base) tl)
    (hT : TabIs w o (tab ++ more)) (hp : PoolIs vs) (hl : more.length + k ≤ 3 * cnt n d) (hH : H + k ≤ 3) (x : StandsAt w (news0 ++ tl) (tab ++ more) H n (tab ++ more).length v d) : HInv w news0 T oT P oP base tab n d m₀ I k m nx
theorem StandsAt.addOne {w : World} {news0 tl tl9 : List (Addr × Obj)} {tab : List Value} {H n : Nat} {v y : Value} {d : Node} {t : Addr} (x : StandsAt w (news0 ++ tl) tab H n tab.length v d) (hm : ∃ e m, (t, tupOf #[.int 0 e, v] m) ∈ tl9) (hr : RefIs w tl9 y (tab.length + 1) 0) : StandsAt w (news0 ++ (tl ++ tl9)) (tab ++ [Value.ref t]) (H + 1) n (tab ++ [Value.ref t]).length y d := by
  obtain ⟨e, m, hm⟩ := hm
  have z := x.mono (news' := news0 ++ (tl ++ tl9)) (more := []) (fun p hp => by rw [← List.append_assoc]; exact mem_inl' hp) (Int.le_refl _)
  rw [List.append_nil] at z
  exact StandsAt.hop2 hr hm (fun p hp => mem_inr' (mem_inr' hp)) z
theorem HInv.next {w : World} {news0 : List (Addr × Obj)} {T P I t : Addr} {oT oP o o' oI : Obj} {base all tl tl9 : List (Addr × Obj)} {tab more vs : List Value} {n pn H k : Nat} {d : Node} {m₀ : Str → Option Value} {v y : Value} {j : Option Value} (hall : all = base ++ tl) (hPI : @Ne Nat P I) (hTI : @Ne Nat T I) (hAI : ∀ p ∈ all, p.1 ≠ I) (u : Apart ((T, oT) :: (P, oP) :: base) tl) (hp : PoolIs vs)
    (hl : more.length + (k + 1) ≤ 3 * cnt n d) (hH : H + (k + 1) ≤ 3) (x : StandsAt w (news0 ++ tl) (tab ++ more) H n (tab ++ more).length v d)
    (u9 : Apart ((T, o) :: (I, oI) :: (P, listOf vs.toArray pn) :: all) tl9) (hT : TabIs w o' ((tab ++ more) ++ [Value.ref t])) (hm : ∃ e m, (t, tupOf #[.int 0 e, v] m) ∈ tl9) (hr : RefIs w tl9 y ((tab ++ more).length + 1) 0) :
    (∀ p ∈ (T, o') :: (P, listOf vs.toArray pn) :: (all ++ tl9), p.1 ≠ I) ∧ HInv w news0 T oT P oP base tab n d m₀ I k (fun z => if z = Str.ofString "place" then some y else if z = Str.ofString "turn" then j else if z = Str.ofString "place" then some v else m₀ z) ((T, o') :: (P, listOf vs.toArray pn) :: (all ++ tl9)) := by
  have hI : ∀ p ∈ (T, o') :: (P, listOf vs.toArray pn) :: (all ++ tl9), p.1 ≠ I := fun p hp => by
    rcases List.mem_cons.mp hp with rfl | hp
    · exact hTI
    · rcases List.mem_cons.mp hp with rfl | hp
      · exact hPI
      · rcases List.mem_append.mp hp with hp | hp
        · exact hAI p hp
        · exact (u9 _ (.tail _ (.head _)) p hp).symm
  have z := x.addOne hm hr
  rw [List.append_assoc] at z hT
  refine ⟨hI, y, o', vs, pn, H + 1, more ++ [Value.ref t], all ++ tl9, tl ++ tl9, .next, fun _ h => h, by rw [hall, List.append_assoc], hI, fun q hq p hp => ?_, hT, hp, ?_, ?_, z⟩
  · rcases List.mem_append.mp hp with hp | hp
    · exact u q hq p hp
    · rcases List.mem_cons.mp hq with rfl | hq
      · exact u9 (T, o) (.head _) p hp
      · rcases List.mem_cons.mp hq with rfl | hq
        · exact u9 (P, listOf vs.toArray pn) (.tail _ (.tail _ (.head _))) p hp
        · exact u9 q (.tail _ (.tail _ (.tail _ (by rw [hall]; exact mem_inl' hq)))) p hp
  · rw [List.length_append]; exact Nat.le_trans (Nat.le_of_eq (by rw [Nat.add_assoc]; exact congrArg _ (Nat.add_comm _ _))) hl
  · rw [Nat.add_assoc, Nat.add_comm 1 k]; exact hH
theorem HInv.start {w : World} {news0 : List (Addr × Obj)} {T P I D t a1 a2 : Addr} {oT oP oD oD' o' oT' oP' o1 o2 : Obj} {rest tl tl9 : List (Addr × Obj)} {tab more vs : List Value} {pn k n : Nat} {d : Node} {m₀ : Str → Option Value} {y : Value} (hy : m₀ (Str.ofString "place") = some y)
    (hI : ∀ p ∈ (P, listOf vs.toArray pn) :: (T, o') :: (D, oD') :: (a1, o1) :: (a2, o2) :: (rest ++ tl ++ tl9), p.1 < I) (hD : @LT.lt Nat _ a1 D ∧ @LT.lt Nat _ a2 D ∧ @LT.lt Nat _ T D ∧ @LT.lt Nat _ P D ∧ AllLt D rest) (u : Apart ((T, oT) :: (P, oP) :: (D, oD) :: (a1, o1) :: (a2, o2) :: rest) tl)
    (u9 : Up ((T, oT') :: (P, oP') :: (D, oD') :: ((a1, o1) :: (a2, o2) :: rest ++ tl)) tl9) (hT : TabIs w o' ((tab ++ more) ++ [Value.ref t])) (hp : PoolIs vs) (hl : more.length + 3 ≤ 3 * cnt n d) (hk : k ≤ 2)
    (x : ∀ Lg, (∀ p ∈ (D, oD') :: tl, p ∈ Lg) → StandsAt w (news0 ++ Lg) (tab ++ more) 0 n (tab ++ more).length (.ref D) d) (hm : ∃ e m, (t, tupOf #[.int 0 e, .ref D] m) ∈ tl9) (hr : RefIs w tl9 y ((tab ++ more).length + 1) 0) :
    HInv w news0 T oT P oP ((a1, o1) :: (a2, o2) :: rest) tab n d m₀ I k m₀ ((P, listOf vs.toArray pn) :: (T, o') :: (D, oD') :: (a1, o1) :: (a2, o2) :: (rest ++ tl ++ tl9)) := by
  have z := (x ((D, oD') :: tl) fun _ h => h).addOne hm hr
  rw [List.append_assoc] at z hT
  refine ⟨y, o', vs, pn, 0 + 1, more ++ [Value.ref t], _, (D, oD') :: tl ++ tl9, .start hy, fun p h => ?_, rfl, fun p h => Nat.ne_of_lt (hI p h), fun q hq p hp => ?_, hT, hp, ?_, Nat.add_le_add_left hk 1, z⟩
  · simp only [List.mem_cons, List.mem_append] at h ⊢
    rcases h with h | h | (h | h | h) | ((h | h) | h) <;> simp only [h, true_or, or_true]
  · have q1 : q ∈ (T, oT) :: (P, oP) :: (D, oD) :: (a1, o1) :: (a2, o2) :: rest := by
      rcases List.mem_cons.mp hq with rfl | hq
      · exact .head _
      · rcases List.mem_cons.mp hq with rfl | hq
        · exact .tail _ (.head _)
        · exact .tail _ (.tail _ (.tail _ hq))
    rcases List.mem_append.mp hp with hp | hp
    · rcases List.mem_cons.mp hp with rfl | hp
      · refine Nat.ne_of_lt ?_
        rcases List.mem_cons.mp hq with rfl | hq
        · exact hD.2.2.1
        · rcases List.mem_cons.mp hq with rfl | hq
          · exact hD.2.2.2.1
          · rcases List.mem_cons.mp hq with rfl | hq
            · exact hD.1
            · rcases List.mem_cons.mp hq with rfl | hq
              · exact hD.2.1
              · exact ktn_ltOf hD.2.2.2.2 q hq
      · exact u q q1 p hp
    · rcases List.mem_cons.mp hq with rfl | hq
      · exact Nat.ne_of_lt (u9 (T, oT') (.head _) p hp)
      · rcases List.mem_cons.mp hq with rfl | hq
        · exact Nat.ne_of_lt (u9 (P, oP') (.tail _ (.head _)) p hp)
        · exact Nat.ne_of_lt (u9 q (.tail _ (.tail _ (.tail _ (mem_inl' hq)))) p hp)
  · rw [List.length_append]
    show more.length + 1 + k ≤ _
    omega
theorem sub_rotK {K a b c x y : Addr × Obj} {l tl : List (Addr × Obj)} : ∀ p ∈ a :: b :: c :: ((x :: y :: l) ++ (K :: tl)), p ∈ K :: a :: b :: c :: x :: y :: (l ++ tl) := fun p hp => by
  simp only [List.mem_cons, List.mem_append] at hp ⊢
  rcases hp with h | h | h | (h | h | h) | (h | h) <;> simp only [h, true_or, or_true]
theorem apart_K {K T P D a1 a2 : Addr} {oT oP oD oD' oK o1 o2 : Obj} {rest tl : List (Addr × Obj)} (u : Apart ((T, oT) :: (P, oP) :: (D, oD) :: (a1, o1) :: (a2, o2) :: rest) tl) (h : @Ne Nat T K ∧ @Ne Nat P K ∧ @Ne Nat D K ∧ @Ne Nat a1 K ∧ @Ne Nat a2 K ∧ LCg.Off1 K (rest ++ tl)) : Apart ((T, oT) :: (P, oP) :: (D, oD') :: (a1, o1) :: (a2, o2) :: rest) ((K, oK) :: tl) := fun q hq p hp => by
  rcases List.mem_cons.mp hp with rfl | hp
  · simp only [List.mem_cons] at hq
    rcases hq with rfl | rfl | rfl | rfl | rfl | hq
    · exact h.1
    · exact h.2.1
    · exact h.2.2.1
    · exact h.2.2.2.1
    · exact h.2.2.2.2.1
    · exact off1_mem h.2.2.2.2.2 q (mem_inl' hq)
  · simp only [List.mem_cons] at hq
    rcases hq with rfl | rfl | rfl | hq
    · exact u (T, oT) (.head _) p hp
    · exact u (P, oP) (.tail _ (.head _)) p hp
    · exact u (D, oD) (.tail _ (.tail _ (.head _))) p hp
    · exact u q (.tail _ (.tail _ (.tail _ (show q ∈ (a1, o1) :: (a2, o2) :: rest by simpa only [List.mem_cons] using hq)))) p hp
theorem off2_cons {T P a : Addr} {o : Obj} {l : List (Addr × Obj)} (h1 : @Ne Nat a T) (h2 : @Ne Nat a P) (h : Off2 T P l) : Off2 T P ((a, o) :: l) := fun p hp => by
  rcases List.mem_cons.mp hp with rfl | hp
  · exact ⟨h1, h2⟩
  · exact h p hp
theorem off2_app {T P : Addr} {l tl : List (Addr × Obj)} (h : Off2 T P l) (k : ∀ p ∈ tl, p.1 ≠ T ∧ p.1 ≠ P) : Off2 T P (l ++ tl) := fun p hp => by
  rcases List.mem_append.mp hp with hp | hp
  · exact h p hp
  · exact k p hp
theorem sub_rot3 {a b c x y : Addr × Obj} {l : List (Addr × Obj)} : ∀ p ∈ a :: b :: c :: ((x :: y :: l) ++ []), p ∈ c :: x :: y :: a :: b :: l := fun p hp => by
  rw [List.append_nil] at hp
  simp only [List.mem_cons] at hp ⊢
  rcases hp with h | h | h | h | h | h <;> simp only [h, true_or, or_true]
theorem third_of {a b c : Addr × Obj} {r tl all : List (Addr × Obj)} (h : all = (a :: b :: c :: r) ++ tl) : c ∈ all := by rw [h]; exact List.mem_append.mpr (.inl (.tail _ (.tail _ (.head _))))
theorem standsInner {w : World} {news0 tl tl' : List (Addr × Obj)} {tab more : List Value} {n : Nat} {lim : Option (List Item)} {kids : List Node} {lv : Value} {D K : Addr} {o : Obj} {ys : List Value} {ny : Nat} (hD : (D, o) ∈ tl') (lo : (D == sysModules) = false) (hd : o.IsDictOf (PySem.strKind PySem.Challenge.rw_og0169_01.row.prog w) (limKv lim lv ++ [(Str.ofString "Kids", .ref K)])) (hys : All2 (StandsAt w (news0 ++ tl) (tab ++ more) 3 n (tab.length + more.length)) ys kids)
    (hlim : LimIs w news0 lim lv) (hK : (K, listOf ys.toArray ny) ∈ tl') (hlen : kids.length ≤ 10) (ht : ∀ p ∈ tl, p ∈ tl') : StandsAt w (news0 ++ tl') (tab ++ more) 0 (n + 1) (tab ++ more).length (.ref D) (.inner lim kids) := by
  refine ⟨0, D, tab.length + more.length, Nat.le_refl _, rfl, .inl ⟨rfl, by simp only [List.length_append]; push_cast; omega⟩, ?_⟩
  refine ⟨lv, K, ys, ny, ⟨o, List.mem_append.mpr (.inr hD), lo, hd⟩, hlim.mono (sub_l _ _), List.mem_append.mpr (.inr hK), hys.imp fun v d x => ?_, hlen⟩
  have z := x.mono (news' := news0 ++ tl') (more := []) (fun p hp => by
    rcases List.mem_append.mp hp with hp | hp
    · exact List.mem_append.mpr (.inl hp)
    · exact List.mem_append.mpr (.inr (ht p hp))) (Int.le_refl _)
  rw [List.append_nil] at z
  exact z.stands (by omega)
theorem off_D3 {D : Addr} {oD : Obj} {q q' : Addr × Obj} {cs rest tl : List (Addr × Obj)} (u : Apart (q :: q' :: (D, oD) :: cs) tl) (h : ∀ p ∈ rest, p.1 < D) : ∀ p ∈ rest ++ tl, p.1 ≠ D := fun p hp => by
  rcases List.mem_append.mp hp with hp | hp
  · exact Nat.ne_of_lt (h p hp)
  · exact (u (D, oD) (.tail _ (.tail _ (.head _))) p hp).symm
section
local macro_rules | `(tactic| k_all) => `(tactic| first | exact Off2.fst (by assumption) | exact Off2.snd (by assumption) | (refine' off_of ?h; (case h => with_reducible (first | assumption | (apply And.right; (iterate 20 (first | done | assumption | apply And.right)); done)))) | exact off_app (by k_all) (off_ap (by assumption) ⟨_, by k_mem⟩) | fail "none")
set_option maxRecDepth 100000 in
set_option maxHeartbeats 8000000 in
theorem hung_step (w : World) (news0 : List (Addr × Obj)) (S Tb Pb u : Addr) (ou : Obj) (lv x : Value) (key : Str) (lim : Option (List Item)) (d : Node) (sz n : Nat) (oT : Obj) (tab pvs : List Value) (pn : Nat) (rest : List (Addr × Obj)) (hs : ∀ p ∈ news0, p ∈ rest) (hoff : Off2 Tb Pb rest) (hTP : @Ne Nat Tb Pb) (hT : TabIs w oT tab) (hp : PoolIs pvs)
   (hl : tab.length + 3 * cnt n d ≤ 1000) (hu0 : (u, ou) ∈ news0) (lo : (u == sysModules) = false) (hd : ou.IsDictOf (PySem.strKind PySem.Challenge.rw_og0169_01.row.prog w) (limKv lim lv ++ [(key, x)])) (hlim : LimIs w news0 lim lv)
   (hsh : (∃ nums, d = .leaf lim nums ∧ key = Str.ofString "Nums" ∧ RowIs w news0 x nums) ∨ (∃ b vs mb0 kids k, d = .inner lim kids ∧ n = k + 1 ∧ key = Str.ofString "Kids" ∧ x = .ref b ∧ (b, listOf (List.toArray vs) mb0) ∈ news0 ∧ kids.length ≤ 10 ∧ All2 (Hangs w news0 S Tb Pb sz k) vs kids))
   (lT : (Tb == sysModules) = false) (dS R : Addr) (k1 k2 : Tok) (n2 : Nat) (hS1 : (S, instObj 363 dS) ∈ news0) (hS2 : (dS, dictOf (shelfD w k1 k2 Tb R) n2) ∈ news0) (hsz : 4 ≤ sz) :
   Spec w 422 (sz + 1) [.ref Pb, .ref S, .ref u] ((Tb, oT) :: (Pb, listOf pvs.toArray pn) :: rest) (MadeQ2 Tb oT Pb (listOf pvs.toArray pn) rest (HungPost w news0 tab n d)) := by
  have hu1 := hs _ hu0
  have h11 := hs _ hS1
  have h21 := hs _ hS2
  unfold Spec
  k_fill
  intro dp un gd cn cs a ccd cl outer A₀ base h₀ L m s loose mean mg mb Q E B F X N T hk hd hu hret
  refine wpAny_call ?_
  k_dflt (refine' code_defC ?k1 ?k2 ?k3 ?k4 ?k5 ?kA ?kF ?kK ?k6 ?k7 ?k8 ?k9 ?kB ?kD ?_ ?c2 ?c3 ?c4; (case kA => exact rfl); (case kF => exact rfl); (case kK => assumption); (case k1 => k_asm); (case k2 => k_asm); (case k3 => k_asm); (case k4 => k_asm); (case k5 => k_asm); (case k6 => k_is); (case k7 => k_is); (case k8 => ktr_room); (case k9 => exact BindsTo.of_eq rfl); (case kB => exact rfl); (case kD => decide +kernel); (case c2 => exact rfl); (case c3 => exact rfl); (case c4 => exact rfl); k_whole)
  intro g1 L1 h1 tk1 cells1 FG1 F1 N1 Y1 B1 X1 T1 lt1
  (try k_lt lt1)
  k_cells Y1
  (try simp only [List.cons_append, List.nil_append] at N1)
  (try dsimp only)
  (try k_fold)
  rename_i o1 o2 d1 d2
  repeat' (first | (k_unfold; (try dsimp only)) | ((with_reducible show CutH _ _ _ _ _ _ _ _ _ _ _ _ _ _ _ _ _); first | with_reducible (k_here; refine Stop.out ?_)) | ((with_reducible show wpAny _ _ (execs (Stmt.If _ _ _ _ :: _ :: _) _) _ _ _); first | with_reducible (k_here; refine Stop.out ?_)) | ((with_reducible show LCg.CompEnd _ _ _ _ _ _ _ _ _ _ _ _ _ _); first | with_reducible (k_here; refine Stop.out ?_) | (k_here; refine Stop.out ?_)) | ((with_reducible show wpAny _ _ (call (Value.ref _) _) _ _ _); first | with_reducible (k_here; (with_reducible show wpAny _ _ (call (Value.ref 422) _) _ _ _); k_dflt ( refine' spec_use (f := 422) (by k_asm) (by k_asm) (by k_asm) (by k_asm) (by k_asm) (by first | exact rfl | assumption) (Hangs.pick (by assumption) (by exact (Pick.tail (Pick.tail (Pick.tail Pick.head)))) (by exact (Pick.tail (Pick.tail (Pick.tail Pick.head)))) (by assumption) (by ktd_sub) (by assumption) (by assumption) (by assumption)) (by ktr_room) (by ktr_units) (ret_q2 ?_); (intro r9 o9 v9 k9 tl9 h9 tk9 F9 N9 q9 up9 x9; (try simp only [List.cons_append] at N9); (try k_sweep); (try dsimp only); (try k_fold)))) | with_reducible (k_here; (with_reducible show wpAny _ _ (call (Value.ref 407) _) _ _ _); k_dflt ( refine' spec_use (f := 407) (by k_asm) (by k_asm) (by k_asm) (Pick.of (by k_asm) (by first | exact Pick.head | exact (Pick.tail Pick.head) | exact (Pick.tail (Pick.tail Pick.head)) | exact (Pick.tail (Pick.tail (Pick.tail Pick.head))) | exact (Pick.tail (Pick.tail (Pick.tail (Pick.tail Pick.head)))) | exact (Pick.tail (Pick.tail (Pick.tail (Pick.tail (Pick.tail Pick.head))))) | exact (Pick.tail (Pick.tail (Pick.tail (Pick.tail (Pick.tail (Pick.tail Pick.head)))))) | exact (Pick.tail (Pick.tail (Pick.tail (Pick.tail (Pick.tail (Pick.tail (Pick.tail Pick.head))))))) | exact (Pick.tail (Pick.tail (Pick.tail (Pick.tail (Pick.tail (Pick.tail (Pick.tail (Pick.tail Pick.head)))))))))) (by k_asm) (by first | exact rfl | assumption) (take_any _ _ _ _ (by assumption) _ _ _ (by k_all) (by decide)) (by ktr_room) (by ktr_units) (ret_take ?_); (intro d9 t9 vs9 k9 h9 tk9 F9 N9 lo9 hi9 po9; (try k_sweep); (try dsimp only); (try k_fold)))) | with_reducible (k_here; (with_reducible show wpAny _ _ (call (Value.ref 334) _) _ _ _); k_dflt ( refine' spec_use (f := 334) (by k_asm) (by k_asm) (by k_asm) (by k_asm) (by k_asm) (by first | exact rfl | assumption) (add_pick (by assumption) (by first | exact Pick.head | exact (Pick.tail Pick.head) | exact (Pick.tail (Pick.tail Pick.head)) | exact (Pick.tail (Pick.tail (Pick.tail Pick.head))) | exact (Pick.tail (Pick.tail (Pick.tail (Pick.tail Pick.head)))) | exact (Pick.tail (Pick.tail (Pick.tail (Pick.tail (Pick.tail Pick.head))))) | exact (Pick.tail (Pick.tail (Pick.tail (Pick.tail (Pick.tail (Pick.tail Pick.head)))))) | exact (Pick.tail (Pick.tail (Pick.tail (Pick.tail (Pick.tail (Pick.tail (Pick.tail Pick.head))))))) | exact (Pick.tail (Pick.tail (Pick.tail (Pick.tail (Pick.tail (Pick.tail (Pick.tail (Pick.tail Pick.head))))))))) (by k_all) (by assumption) (by first | omega | (simp only [List.length_append, List.length_cons, List.length_nil]; omega)) (by k_mem) (by k_mem)) (by ktr_room) (by ktr_units) (ret_add ?_); (intro r10 o10 tl10 t10 tt10 m10 h10 tk10 F10 N10 up10' tb10 mem10 ref10; have up10 := up10'.apart; have q10 := Off2.more (by assumption) up10 ⟨_, by k_mem⟩ ⟨_, by k_mem⟩; (try simp only [List.cons_append] at N10); (try k_sweep); (try dsimp only); (try k_fold))))) | ((with_reducible show wpAny _ _ (setItem (Value.ref _) (Value.str _ _) _) _ _ _); first | with_reducible (k_here; k_dflt (refine' kids_set (by k_asm) (by k_asm) (by k_updF) (by assumption) ?_); intro h' o' F' N' hd'; (try dsimp only at N'))) | ((with_reducible show wpAny _ _ (eval (Expr.ListComp _ _ _ _) _) _ _ _); first | with_reducible (k_here; k_dflt (refine LCg.ListComp_U (F₀ := by k_asm) (by rfl) (by decide) (by rfl) (by decide) (by rfl) ?_))) | ((with_reducible show wpAny _ _ (subscriptTail _ _ _ _) _ _ _); first | with_reducible (k_here; (with_reducible show wpAny _ _ (subscriptTail _ _ (Value.ref _) (Value.str _ _)) _ _ _); k_dflt (refine' kids_item (by k_asm) (by k_mem) (by assumption) ?_))) | ((with_reducible show wpAny _ _ (compareOp CmpOp.In (Value.str _ _) (Value.ref _)) _ _ _); first | with_reducible (k_here; k_dflt (first | (refine' kids_yes (by k_asm) (by k_mem) (by assumption) (by assumption) ?_) | (refine' kids_no (by k_asm) (by k_mem) (by assumption) (by assumption) ?_)))) | ((with_reducible show UnrEnd _ _ _ _ _ _ _); first | with_reducible (k_here; refine Stop.out ?_)) | ((with_reducible show wpAny _ _ (pyIter (Value.ref _)) _ _ _); first | with_reducible (k_here; (with_reducible show wpAny _ _ (pyIter (Value.ref _)) (fun it s₂ => LoopAtV _ _ _ _ _ _ _ _ _ it s₂) _ _); refine Stop.out ?_) | (k_here; (with_reducible show wpAny _ _ (pyIter (Value.ref _)) (fun it s₂ => LoopAtV _ _ _ _ _ _ _ _ _ it s₂) _ _); refine Stop.out ?_)) | ((with_reducible show wpAny _ _ (call (Value.type "dict") _) _ _ _); first | with_reducible (k_here; k_dflt (refine' dict_copy (knd := PySem.strKind _ _) (by k_asm) (by k_asm) (by exact Top.nolimit (by k_asm)) (by k_mem) (by assumption) (by assumption) (by (rw [List.length_append]; exact Nat.le_trans (Nat.add_le_add (limKv_len) (Nat.le_refl _)) (Nat.le_of_ble_eq_true rfl))) ?_); intro D' h' o' F' N' l1 lo' hd'; (try k_lt l1))) | ((with_reducible show wpAny _ _ (execs (Stmt.Assign _ _ _ :: _ :: _) _) _ _ _); first | with_reducible (k_here; (with_reducible refine wpAny_execs_cons ?_); try dsimp only)) | ((with_reducible show RangeRest _ _ _ _ _ _ _ _ _ _ _ _ _ _ _ _ _); first | with_reducible (k_here; first | ((with_reducible refine RangeRest.succ ?_); intro t' h' tk' F' N') | ((with_reducible refine RangeRest.zero ?_); intro h' tk' F' N'))) | (k_end; kc_close) | walk1 | (dsimp only; walk1) | (leave1; (try dsimp only)))
  unfold Stop
  refine cut_hung (news0 := news0) (T := Tb) (oT := oT) (P := Pb) (oP := listOf pvs.toArray pn) (D := D') (oD := listOf pvs.toArray pn) (base := (L1 + 1 + 1, o1) :: (L1 + 1, o2) :: rest) (tab := tab) (n := n) (d := d) (by k_asm) ?_ ?_
  · rcases hsh with ⟨nums, rfl, rfl, hrow⟩ | ⟨b, vs, mb0, kids, k, rfl, rfl, rfl, rfl, hb0, hlen, hkids⟩
    · repeat' (first | (k_unfold; (try dsimp only)) | ((with_reducible show CutH _ _ _ _ _ _ _ _ _ _ _ _ _ _ _ _ _); first | with_reducible (k_here; refine Stop.out ?_)) | ((with_reducible show wpAny _ _ (execs (Stmt.If _ _ _ _ :: _ :: _) _) _ _ _); first | with_reducible (k_here; refine Stop.out ?_)) | ((with_reducible show LCg.CompEnd _ _ _ _ _ _ _ _ _ _ _ _ _ _); first | with_reducible (k_here; refine Stop.out ?_) | (k_here; refine Stop.out ?_)) | ((with_reducible show wpAny _ _ (call (Value.ref _) _) _ _ _); first | with_reducible (k_here; (with_reducible show wpAny _ _ (call (Value.ref 422) _) _ _ _); k_dflt ( refine' spec_use (f := 422) (by k_asm) (by k_asm) (by k_asm) (by k_asm) (by k_asm) (by first | exact rfl | assumption) (Hangs.pick (by assumption) (by exact (Pick.tail (Pick.tail (Pick.tail Pick.head)))) (by exact (Pick.tail (Pick.tail (Pick.tail Pick.head)))) (by assumption) (by ktd_sub) (by assumption) (by assumption) (by assumption)) (by ktr_room) (by ktr_units) (ret_q2 ?_); (intro r9 o9 v9 k9 tl9 h9 tk9 F9 N9 q9 up9 x9; (try simp only [List.cons_append] at N9); (try k_sweep); (try dsimp only); (try k_fold)))) | with_reducible (k_here; (with_reducible show wpAny _ _ (call (Value.ref 407) _) _ _ _); k_dflt ( refine' spec_use (f := 407) (by k_asm) (by k_asm) (by k_asm) (Pick.of (by k_asm) (by first | exact Pick.head | exact (Pick.tail Pick.head) | exact (Pick.tail (Pick.tail Pick.head)) | exact (Pick.tail (Pick.tail (Pick.tail Pick.head))) | exact (Pick.tail (Pick.tail (Pick.tail (Pick.tail Pick.head)))) | exact (Pick.tail (Pick.tail (Pick.tail (Pick.tail (Pick.tail Pick.head))))) | exact (Pick.tail (Pick.tail (Pick.tail (Pick.tail (Pick.tail (Pick.tail Pick.head)))))) | exact (Pick.tail (Pick.tail (Pick.tail (Pick.tail (Pick.tail (Pick.tail (Pick.tail Pick.head))))))) | exact (Pick.tail (Pick.tail (Pick.tail (Pick.tail (Pick.tail (Pick.tail (Pick.tail (Pick.tail Pick.head)))))))))) (by k_asm) (by first | exact rfl | assumption) (take_any _ _ _ _ (by assumption) _ _ _ (by k_all) (by decide)) (by ktr_room) (by ktr_units) (ret_take ?_); (intro d9 t9 vs9 k9 h9 tk9 F9 N9 lo9 hi9 po9; (try k_sweep); (try dsimp only); (try k_fold)))) | with_reducible (k_here; (with_reducible show wpAny _ _ (call (Value.ref 334) _) _ _ _); k_dflt ( refine' spec_use (f := 334) (by k_asm) (by k_asm) (by k_asm) (by k_asm) (by k_asm) (by first | exact rfl | assumption) (add_pick (by assumption) (by first | exact Pick.head | exact (Pick.tail Pick.head) | exact (Pick.tail (Pick.tail Pick.head)) | exact (Pick.tail (Pick.tail (Pick.tail Pick.head))) | exact (Pick.tail (Pick.tail (Pick.tail (Pick.tail Pick.head)))) | exact (Pick.tail (Pick.tail (Pick.tail (Pick.tail (Pick.tail Pick.head))))) | exact (Pick.tail (Pick.tail (Pick.tail (Pick.tail (Pick.tail (Pick.tail Pick.head)))))) | exact (Pick.tail (Pick.tail (Pick.tail (Pick.tail (Pick.tail (Pick.tail (Pick.tail Pick.head))))))) | exact (Pick.tail (Pick.tail (Pick.tail (Pick.tail (Pick.tail (Pick.tail (Pick.tail (Pick.tail Pick.head))))))))) (by k_all) (by assumption) (by first | omega | (simp only [List.length_append, List.length_cons, List.length_nil]; omega)) (by k_mem) (by k_mem)) (by ktr_room) (by ktr_units) (ret_add ?_); (intro r10 o10 tl10 t10 tt10 m10 h10 tk10 F10 N10 up10' tb10 mem10 ref10; have up10 := up10'.apart; have q10 := Off2.more (by assumption) up10 ⟨_, by k_mem⟩ ⟨_, by k_mem⟩; (try simp only [List.cons_append] at N10); (try k_sweep); (try dsimp only); (try k_fold))))) | ((with_reducible show wpAny _ _ (setItem (Value.ref _) (Value.str _ _) _) _ _ _); first | with_reducible (k_here; k_dflt (refine' kids_set (by k_asm) (by k_asm) (by k_updF) (by assumption) ?_); intro h' o' F' N' hd'; (try dsimp only at N'))) | ((with_reducible show wpAny _ _ (eval (Expr.ListComp _ _ _ _) _) _ _ _); first | with_reducible (k_here; k_dflt (refine LCg.ListComp_U (F₀ := by k_asm) (by rfl) (by decide) (by rfl) (by decide) (by rfl) ?_))) | ((with_reducible show wpAny _ _ (subscriptTail _ _ _ _) _ _ _); first | with_reducible (k_here; (with_reducible show wpAny _ _ (subscriptTail _ _ (Value.ref _) (Value.str _ _)) _ _ _); k_dflt (refine' kids_item (by k_asm) (by k_mem) (by assumption) ?_))) | ((with_reducible show wpAny _ _ (compareOp CmpOp.In (Value.str _ _) (Value.ref _)) _ _ _); first | with_reducible (k_here; k_dflt (first | (refine' kids_yes (by k_asm) (by k_mem) (by assumption) (by assumption) ?_) | (refine' kids_no (by k_asm) (by k_mem) (by assumption) (by assumption) ?_)))) | ((with_reducible show UnrEnd _ _ _ _ _ _ _); first | with_reducible (k_here; refine Stop.out ?_)) | ((with_reducible show wpAny _ _ (pyIter (Value.ref _)) _ _ _); first | with_reducible (k_here; (with_reducible show wpAny _ _ (pyIter (Value.ref _)) (fun it s₂ => LoopAtV _ _ _ _ _ _ _ _ _ it s₂) _ _); refine Stop.out ?_) | (k_here; (with_reducible show wpAny _ _ (pyIter (Value.ref _)) (fun it s₂ => LoopAtV _ _ _ _ _ _ _ _ _ it s₂) _ _); refine Stop.out ?_)) | ((with_reducible show wpAny _ _ (call (Value.type "dict") _) _ _ _); first | with_reducible (k_here; k_dflt (refine' dict_copy (knd := PySem.strKind _ _) (by k_asm) (by k_asm) (by exact Top.nolimit (by k_asm)) (by k_mem) (by assumption) (by assumption) (by (rw [List.length_append]; exact Nat.le_trans (Nat.add_le_add (limKv_len) (Nat.le_refl _)) (Nat.le_of_ble_eq_true rfl))) ?_); intro D' h' o' F' N' l1 lo' hd'; (try k_lt l1))) | ((with_reducible show wpAny _ _ (execs (Stmt.Assign _ _ _ :: _ :: _) _) _ _ _); first | with_reducible (k_here; (with_reducible refine wpAny_execs_cons ?_); try dsimp only)) | ((with_reducible show RangeRest _ _ _ _ _ _ _ _ _ _ _ _ _ _ _ _ _); first | with_reducible (k_here; first | ((with_reducible refine RangeRest.succ ?_); intro t' h' tk' F' N') | ((with_reducible refine RangeRest.zero ?_); intro h' tk' F' N'))) | (k_end; kc_close) | walk1 | (dsimp only; walk1) | (leave1; (try dsimp only)))
      unfold Stop
      refine CutH.mk _ _ oT pvs pn _ [] [] rfl (by k_asm) (News.of_sub (by k_asm) sub_rot3) (by rw [List.append_nil]; exact hT) hp (Apart.nil _) (by rw [cnt_leaf]; exact Nat.le_refl _) (fun Lg h => ?_)
      rw [List.append_nil]
      exact standsLeaf (h _ (.head _)) (by assumption) (by assumption) hlim hrow
    · have hb1 := hs _ hb0
      have hl3 : 3 * cnt (k + 1) (.inner lim kids) = 3 + 3 * (kids.map (cnt k)).sum := by simp only [cnt]; omega
      repeat' (first | (k_unfold; (try dsimp only)) | ((with_reducible show CutH _ _ _ _ _ _ _ _ _ _ _ _ _ _ _ _ _); first | with_reducible (k_here; refine Stop.out ?_)) | ((with_reducible show wpAny _ _ (execs (Stmt.If _ _ _ _ :: _ :: _) _) _ _ _); first | with_reducible (k_here; refine Stop.out ?_)) | ((with_reducible show LCg.CompEnd _ _ _ _ _ _ _ _ _ _ _ _ _ _); first | with_reducible (k_here; refine Stop.out ?_) | (k_here; refine Stop.out ?_)) | ((with_reducible show wpAny _ _ (call (Value.ref _) _) _ _ _); first | with_reducible (k_here; (with_reducible show wpAny _ _ (call (Value.ref 422) _) _ _ _); k_dflt ( refine' spec_use (f := 422) (by k_asm) (by k_asm) (by k_asm) (by k_asm) (by k_asm) (by first | exact rfl | assumption) (Hangs.pick (by assumption) (by exact (Pick.tail (Pick.tail (Pick.tail Pick.head)))) (by exact (Pick.tail (Pick.tail (Pick.tail Pick.head)))) (by assumption) (by ktd_sub) (by assumption) (by assumption) (by assumption)) (by ktr_room) (by ktr_units) (ret_q2 ?_); (intro r9 o9 v9 k9 tl9 h9 tk9 F9 N9 q9 up9 x9; (try simp only [List.cons_append] at N9); (try k_sweep); (try dsimp only); (try k_fold)))) | with_reducible (k_here; (with_reducible show wpAny _ _ (call (Value.ref 407) _) _ _ _); k_dflt ( refine' spec_use (f := 407) (by k_asm) (by k_asm) (by k_asm) (Pick.of (by k_asm) (by first | exact Pick.head | exact (Pick.tail Pick.head) | exact (Pick.tail (Pick.tail Pick.head)) | exact (Pick.tail (Pick.tail (Pick.tail Pick.head))) | exact (Pick.tail (Pick.tail (Pick.tail (Pick.tail Pick.head)))) | exact (Pick.tail (Pick.tail (Pick.tail (Pick.tail (Pick.tail Pick.head))))) | exact (Pick.tail (Pick.tail (Pick.tail (Pick.tail (Pick.tail (Pick.tail Pick.head)))))) | exact (Pick.tail (Pick.tail (Pick.tail (Pick.tail (Pick.tail (Pick.tail (Pick.tail Pick.head))))))) | exact (Pick.tail (Pick.tail (Pick.tail (Pick.tail (Pick.tail (Pick.tail (Pick.tail (Pick.tail Pick.head)))))))))) (by k_asm) (by first | exact rfl | assumption) (take_any _ _ _ _ (by assumption) _ _ _ (by k_all) (by decide)) (by ktr_room) (by ktr_units) (ret_take ?_); (intro d9 t9 vs9 k9 h9 tk9 F9 N9 lo9 hi9 po9; (try k_sweep); (try dsimp only); (try k_fold)))) | with_reducible (k_here; (with_reducible show wpAny _ _ (call (Value.ref 334) _) _ _ _); k_dflt ( refine' spec_use (f := 334) (by k_asm) (by k_asm) (by k_asm) (by k_asm) (by k_asm) (by first | exact rfl | assumption) (add_pick (by assumption) (by first | exact Pick.head | exact (Pick.tail Pick.head) | exact (Pick.tail (Pick.tail Pick.head)) | exact (Pick.tail (Pick.tail (Pick.tail Pick.head))) | exact (Pick.tail (Pick.tail (Pick.tail (Pick.tail Pick.head)))) | exact (Pick.tail (Pick.tail (Pick.tail (Pick.tail (Pick.tail Pick.head))))) | exact (Pick.tail (Pick.tail (Pick.tail (Pick.tail (Pick.tail (Pick.tail Pick.head)))))) | exact (Pick.tail (Pick.tail (Pick.tail (Pick.tail (Pick.tail (Pick.tail (Pick.tail Pick.head))))))) | exact (Pick.tail (Pick.tail (Pick.tail (Pick.tail (Pick.tail (Pick.tail (Pick.tail (Pick.tail Pick.head))))))))) (by k_all) (by assumption) (by first | omega | (simp only [List.length_append, List.length_cons, List.length_nil]; omega)) (by k_mem) (by k_mem)) (by ktr_room) (by ktr_units) (ret_add ?_); (intro r10 o10 tl10 t10 tt10 m10 h10 tk10 F10 N10 up10' tb10 mem10 ref10; have up10 := up10'.apart; have q10 := Off2.more (by assumption) up10 ⟨_, by k_mem⟩ ⟨_, by k_mem⟩; (try simp only [List.cons_append] at N10); (try k_sweep); (try dsimp only); (try k_fold))))) | ((with_reducible show wpAny _ _ (setItem (Value.ref _) (Value.str _ _) _) _ _ _); first | with_reducible (k_here; k_dflt (refine' kids_set (by k_asm) (by k_asm) (by k_updF) (by assumption) ?_); intro h' o' F' N' hd'; (try dsimp only at N'))) | ((with_reducible show wpAny _ _ (eval (Expr.ListComp _ _ _ _) _) _ _ _); first | with_reducible (k_here; k_dflt (refine LCg.ListComp_U (F₀ := by k_asm) (by rfl) (by decide) (by rfl) (by decide) (by rfl) ?_))) | ((with_reducible show wpAny _ _ (subscriptTail _ _ _ _) _ _ _); first | with_reducible (k_here; (with_reducible show wpAny _ _ (subscriptTail _ _ (Value.ref _) (Value.str _ _)) _ _ _); k_dflt (refine' kids_item (by k_asm) (by k_mem) (by assumption) ?_))) | ((with_reducible show wpAny _ _ (compareOp CmpOp.In (Value.str _ _) (Value.ref _)) _ _ _); first | with_reducible (k_here; k_dflt (first | (refine' kids_yes (by k_asm) (by k_mem) (by assumption) (by assumption) ?_) | (refine' kids_no (by k_asm) (by k_mem) (by assumption) (by assumption) ?_)))) | ((with_reducible show UnrEnd _ _ _ _ _ _ _); first | with_reducible (k_here; refine Stop.out ?_)) | ((with_reducible show wpAny _ _ (pyIter (Value.ref _)) _ _ _); first | with_reducible (k_here; (with_reducible show wpAny _ _ (pyIter (Value.ref _)) (fun it s₂ => LoopAtV _ _ _ _ _ _ _ _ _ it s₂) _ _); refine Stop.out ?_) | (k_here; (with_reducible show wpAny _ _ (pyIter (Value.ref _)) (fun it s₂ => LoopAtV _ _ _ _ _ _ _ _ _ it s₂) _ _); refine Stop.out ?_)) | ((with_reducible show wpAny _ _ (call (Value.type "dict") _) _ _ _); first | with_reducible (k_here; k_dflt (refine' dict_copy (knd := PySem.strKind _ _) (by k_asm) (by k_asm) (by exact Top.nolimit (by k_asm)) (by k_mem) (by assumption) (by assumption) (by (rw [List.length_append]; exact Nat.le_trans (Nat.add_le_add (limKv_len) (Nat.le_refl _)) (Nat.le_of_ble_eq_true rfl))) ?_); intro D' h' o' F' N' l1 lo' hd'; (try k_lt l1))) | ((with_reducible show wpAny _ _ (execs (Stmt.Assign _ _ _ :: _ :: _) _) _ _ _); first | with_reducible (k_here; (with_reducible refine wpAny_execs_cons ?_); try dsimp only)) | ((with_reducible show RangeRest _ _ _ _ _ _ _ _ _ _ _ _ _ _ _ _ _); first | with_reducible (k_here; first | ((with_reducible refine RangeRest.succ ?_); intro t' h' tk' F' N') | ((with_reducible refine RangeRest.zero ?_); intro h' tk' F' N'))) | (k_end; kc_close) | walk1 | (dsimp only; walk1) | (leave1; (try dsimp only)))
      refine' LCg.CompSrc.ledger rfl ?F (Pick.news2 (T := Tb) (oT := oT) (P := Pb) (o := listOf pvs.toArray pn) ?pk ?pk2 ?N) ?m ?sz ?_
      case F => k_asm
      case N => k_asm
      case pk => exact (Pick.tail (Pick.tail (Pick.tail Pick.head)))
      case pk2 => exact (Pick.tail (Pick.tail (Pick.tail Pick.head)))
      case m => k_mem
      case sz => (rw [List.size_toArray, sizeLine_eq]; have := hkids.length; omega)
      intro g9
      refine compRest_all (CInv2 w news0 Tb oT Pb (listOf pvs.toArray pn) _ tab k kids) ?_ ?_ _ _ _ _ (Nat.zero_add _) (CInv2.start hT hp)
      · intro i ys nx v I oI C oC D m₂ hh tk E' hi hv hinv hC hx F8 N8 off ne
        obtain ⟨o', vs', m', all, more, tl, rfl, hall, hup, hT', hp', hmore, hys⟩ := hinv
        obtain ⟨d, hG, htk⟩ := hkids.at (i := i) (a := v) (by simpa using hv)
        have hcell := second_of hall
        have hcell2 := third_of hall
        have hsa : ∀ p ∈ rest, p ∈ all := fun p hp => by rw [hall]; exact List.mem_append.mpr (.inl (.tail _ (.tail _ (.tail _ hp))))
        have hs0 : ∀ p ∈ news0, p ∈ all := fun p hp => hsa p (hs p hp)
        have h12 := hs0 _ hS1
        have h22 := hs0 _ hS2
        have hoA : Off2 Tb Pb all := by
          have hD := (by assumption : L1 + 1 + 1 < _ ∧ L1 + 1 < _ ∧ Tb < _ ∧ Pb < _ ∧ AllLt _ rest)
          rw [hall]
          exact off2_app (off2_cons (Nat.ne_of_gt hD.2.2.1) (Nat.ne_of_gt hD.2.2.2.1) (off2_cons (Nat.ne_of_gt (Nat.lt_succ_of_lt (Nat.lt_succ_of_lt lt1.1))) (Nat.ne_of_gt (Nat.lt_succ_of_lt (Nat.lt_succ_of_lt lt1.2.1))) (off2_cons (Nat.ne_of_gt (Nat.lt_succ_of_lt lt1.1)) (Nat.ne_of_gt (Nat.lt_succ_of_lt lt1.2.1)) hoff))) fun p hp => ⟨(hup _ (.head _) p hp).symm, (hup _ (.tail _ (.head _)) p hp).symm⟩
        have hoT : Off2 Tb Pb ((I, oI) :: (C, oC) :: (D, LCg.lst ys) :: all) := off2_T off hoA
        have hroom := CInv2.room hl hmore htk
        repeat' (first | (k_unfold; (try dsimp only)) | ((with_reducible show CutH _ _ _ _ _ _ _ _ _ _ _ _ _ _ _ _ _); first | with_reducible (k_here; refine Stop.out ?_)) | ((with_reducible show wpAny _ _ (execs (Stmt.If _ _ _ _ :: _ :: _) _) _ _ _); first | with_reducible (k_here; refine Stop.out ?_)) | ((with_reducible show LCg.CompEnd _ _ _ _ _ _ _ _ _ _ _ _ _ _); first | with_reducible (k_here; refine Stop.out ?_) | (k_here; refine Stop.out ?_)) | ((with_reducible show wpAny _ _ (call (Value.ref _) _) _ _ _); first | with_reducible (k_here; (with_reducible show wpAny _ _ (call (Value.ref 422) _) _ _ _); k_dflt ( refine' spec_use (f := 422) (by k_asm) (by k_asm) (by k_asm) (by k_asm) (by k_asm) (by first | exact rfl | assumption) (Hangs.pick (by assumption) (by exact (Pick.tail (Pick.tail (Pick.tail Pick.head)))) (by exact (Pick.tail (Pick.tail (Pick.tail Pick.head)))) (by assumption) (by ktd_sub) (by assumption) (by assumption) (by assumption)) (by ktr_room) (by ktr_units) (ret_q2 ?_); (intro r9 o9 v9 k9 tl9 h9 tk9 F9 N9 q9 up9 x9; (try simp only [List.cons_append] at N9); (try k_sweep); (try dsimp only); (try k_fold)))) | with_reducible (k_here; (with_reducible show wpAny _ _ (call (Value.ref 407) _) _ _ _); k_dflt ( refine' spec_use (f := 407) (by k_asm) (by k_asm) (by k_asm) (Pick.of (by k_asm) (by first | exact Pick.head | exact (Pick.tail Pick.head) | exact (Pick.tail (Pick.tail Pick.head)) | exact (Pick.tail (Pick.tail (Pick.tail Pick.head))) | exact (Pick.tail (Pick.tail (Pick.tail (Pick.tail Pick.head)))) | exact (Pick.tail (Pick.tail (Pick.tail (Pick.tail (Pick.tail Pick.head))))) | exact (Pick.tail (Pick.tail (Pick.tail (Pick.tail (Pick.tail (Pick.tail Pick.head)))))) | exact (Pick.tail (Pick.tail (Pick.tail (Pick.tail (Pick.tail (Pick.tail (Pick.tail Pick.head))))))) | exact (Pick.tail (Pick.tail (Pick.tail (Pick.tail (Pick.tail (Pick.tail (Pick.tail (Pick.tail Pick.head)))))))))) (by k_asm) (by first | exact rfl | assumption) (take_any _ _ _ _ (by assumption) _ _ _ (by k_all) (by decide)) (by ktr_room) (by ktr_units) (ret_take ?_); (intro d9 t9 vs9 k9 h9 tk9 F9 N9 lo9 hi9 po9; (try k_sweep); (try dsimp only); (try k_fold)))) | with_reducible (k_here; (with_reducible show wpAny _ _ (call (Value.ref 334) _) _ _ _); k_dflt ( refine' spec_use (f := 334) (by k_asm) (by k_asm) (by k_asm) (by k_asm) (by k_asm) (by first | exact rfl | assumption) (add_pick (by assumption) (by first | exact Pick.head | exact (Pick.tail Pick.head) | exact (Pick.tail (Pick.tail Pick.head)) | exact (Pick.tail (Pick.tail (Pick.tail Pick.head))) | exact (Pick.tail (Pick.tail (Pick.tail (Pick.tail Pick.head)))) | exact (Pick.tail (Pick.tail (Pick.tail (Pick.tail (Pick.tail Pick.head))))) | exact (Pick.tail (Pick.tail (Pick.tail (Pick.tail (Pick.tail (Pick.tail Pick.head)))))) | exact (Pick.tail (Pick.tail (Pick.tail (Pick.tail (Pick.tail (Pick.tail (Pick.tail Pick.head))))))) | exact (Pick.tail (Pick.tail (Pick.tail (Pick.tail (Pick.tail (Pick.tail (Pick.tail (Pick.tail Pick.head))))))))) (by k_all) (by assumption) (by first | omega | (simp only [List.length_append, List.length_cons, List.length_nil]; omega)) (by k_mem) (by k_mem)) (by ktr_room) (by ktr_units) (ret_add ?_); (intro r10 o10 tl10 t10 tt10 m10 h10 tk10 F10 N10 up10' tb10 mem10 ref10; have up10 := up10'.apart; have q10 := Off2.more (by assumption) up10 ⟨_, by k_mem⟩ ⟨_, by k_mem⟩; (try simp only [List.cons_append] at N10); (try k_sweep); (try dsimp only); (try k_fold))))) | ((with_reducible show wpAny _ _ (setItem (Value.ref _) (Value.str _ _) _) _ _ _); first | with_reducible (k_here; k_dflt (refine' kids_set (by k_asm) (by k_asm) (by k_updF) (by assumption) ?_); intro h' o' F' N' hd'; (try dsimp only at N'))) | ((with_reducible show wpAny _ _ (eval (Expr.ListComp _ _ _ _) _) _ _ _); first | with_reducible (k_here; k_dflt (refine LCg.ListComp_U (F₀ := by k_asm) (by rfl) (by decide) (by rfl) (by decide) (by rfl) ?_))) | ((with_reducible show wpAny _ _ (subscriptTail _ _ _ _) _ _ _); first | with_reducible (k_here; (with_reducible show wpAny _ _ (subscriptTail _ _ (Value.ref _) (Value.str _ _)) _ _ _); k_dflt (refine' kids_item (by k_asm) (by k_mem) (by assumption) ?_))) | ((with_reducible show wpAny _ _ (compareOp CmpOp.In (Value.str _ _) (Value.ref _)) _ _ _); first | with_reducible (k_here; k_dflt (first | (refine' kids_yes (by k_asm) (by k_mem) (by assumption) (by assumption) ?_) | (refine' kids_no (by k_asm) (by k_mem) (by assumption) (by assumption) ?_)))) | ((with_reducible show UnrEnd _ _ _ _ _ _ _); first | with_reducible (k_here; refine Stop.out ?_)) | ((with_reducible show wpAny _ _ (pyIter (Value.ref _)) _ _ _); first | with_reducible (k_here; (with_reducible show wpAny _ _ (pyIter (Value.ref _)) (fun it s₂ => LoopAtV _ _ _ _ _ _ _ _ _ it s₂) _ _); refine Stop.out ?_) | (k_here; (with_reducible show wpAny _ _ (pyIter (Value.ref _)) (fun it s₂ => LoopAtV _ _ _ _ _ _ _ _ _ it s₂) _ _); refine Stop.out ?_)) | ((with_reducible show wpAny _ _ (call (Value.type "dict") _) _ _ _); first | with_reducible (k_here; k_dflt (refine' dict_copy (knd := PySem.strKind _ _) (by k_asm) (by k_asm) (by exact Top.nolimit (by k_asm)) (by k_mem) (by assumption) (by assumption) (by (rw [List.length_append]; exact Nat.le_trans (Nat.add_le_add (limKv_len) (Nat.le_refl _)) (Nat.le_of_ble_eq_true rfl))) ?_); intro D' h' o' F' N' l1 lo' hd'; (try k_lt l1))) | ((with_reducible show wpAny _ _ (execs (Stmt.Assign _ _ _ :: _ :: _) _) _ _ _); first | with_reducible (k_here; (with_reducible refine wpAny_execs_cons ?_); try dsimp only)) | ((with_reducible show RangeRest _ _ _ _ _ _ _ _ _ _ _ _ _ _ _ _ _); first | with_reducible (k_here; first | ((with_reducible refine RangeRest.succ ?_); intro t' h' tk' F' N') | ((with_reducible refine RangeRest.zero ?_); intro h' tk' F' N'))) | (k_end; kc_close) | walk1 | (dsimp only; walk1) | (leave1; (try dsimp only)))
        unfold Stop
        exact compEnd_P2 (by k_asm) (by k_asm) (off3_up2 off (by assumption)) (.inr ⟨_, .tail _ (.tail _ (mem_inl' (hs0 _ hb0))), rfl, _, rfl⟩)
          (CInv2.next (X := (I, oI) :: (C, oC) :: (D, LCg.lst ys) :: all) hall hup (fun p hp => .tail _ (.tail _ (.tail _ (by rw [hall]; exact List.mem_append.mpr (.inl hp))))) hmore hys htk (by assumption) (by assumption) (by assumption))
      · intro ys nx hinv
        obtain ⟨o', vs', m', all, more, tl, rfl, hall, hup, hT', hp', hmore, hys⟩ := hinv
        rw [show vs.toArray.size = kids.length by simpa using hkids.length, List.take_length] at hmore hys
        have hall' : all = _ :: _ :: _ :: (rest ++ tl) := hall
        subst hall'
        have hoD := off_D3 hup (rest := rest) (by ktn_ord)
        repeat' (first | (k_unfold; (try dsimp only)) | ((with_reducible show CutH _ _ _ _ _ _ _ _ _ _ _ _ _ _ _ _ _); first | with_reducible (k_here; refine Stop.out ?_)) | ((with_reducible show wpAny _ _ (execs (Stmt.If _ _ _ _ :: _ :: _) _) _ _ _); first | with_reducible (k_here; refine Stop.out ?_)) | ((with_reducible show LCg.CompEnd _ _ _ _ _ _ _ _ _ _ _ _ _ _); first | with_reducible (k_here; refine Stop.out ?_) | (k_here; refine Stop.out ?_)) | ((with_reducible show wpAny _ _ (call (Value.ref _) _) _ _ _); first | with_reducible (k_here; (with_reducible show wpAny _ _ (call (Value.ref 422) _) _ _ _); k_dflt ( refine' spec_use (f := 422) (by k_asm) (by k_asm) (by k_asm) (by k_asm) (by k_asm) (by first | exact rfl | assumption) (Hangs.pick (by assumption) (by exact (Pick.tail (Pick.tail (Pick.tail Pick.head)))) (by exact (Pick.tail (Pick.tail (Pick.tail Pick.head)))) (by assumption) (by ktd_sub) (by assumption) (by assumption) (by assumption)) (by ktr_room) (by ktr_units) (ret_q2 ?_); (intro r9 o9 v9 k9 tl9 h9 tk9 F9 N9 q9 up9 x9; (try simp only [List.cons_append] at N9); (try k_sweep); (try dsimp only); (try k_fold)))) | with_reducible (k_here; (with_reducible show wpAny _ _ (call (Value.ref 407) _) _ _ _); k_dflt ( refine' spec_use (f := 407) (by k_asm) (by k_asm) (by k_asm) (Pick.of (by k_asm) (by first | exact Pick.head | exact (Pick.tail Pick.head) | exact (Pick.tail (Pick.tail Pick.head)) | exact (Pick.tail (Pick.tail (Pick.tail Pick.head))) | exact (Pick.tail (Pick.tail (Pick.tail (Pick.tail Pick.head)))) | exact (Pick.tail (Pick.tail (Pick.tail (Pick.tail (Pick.tail Pick.head))))) | exact (Pick.tail (Pick.tail (Pick.tail (Pick.tail (Pick.tail (Pick.tail Pick.head)))))) | exact (Pick.tail (Pick.tail (Pick.tail (Pick.tail (Pick.tail (Pick.tail (Pick.tail Pick.head))))))) | exact (Pick.tail (Pick.tail (Pick.tail (Pick.tail (Pick.tail (Pick.tail (Pick.tail (Pick.tail Pick.head)))))))))) (by k_asm) (by first | exact rfl | assumption) (take_any _ _ _ _ (by assumption) _ _ _ (by k_all) (by decide)) (by ktr_room) (by ktr_units) (ret_take ?_); (intro d9 t9 vs9 k9 h9 tk9 F9 N9 lo9 hi9 po9; (try k_sweep); (try dsimp only); (try k_fold)))) | with_reducible (k_here; (with_reducible show wpAny _ _ (call (Value.ref 334) _) _ _ _); k_dflt ( refine' spec_use (f := 334) (by k_asm) (by k_asm) (by k_asm) (by k_asm) (by k_asm) (by first | exact rfl | assumption) (add_pick (by assumption) (by first | exact Pick.head | exact (Pick.tail Pick.head) | exact (Pick.tail (Pick.tail Pick.head)) | exact (Pick.tail (Pick.tail (Pick.tail Pick.head))) | exact (Pick.tail (Pick.tail (Pick.tail (Pick.tail Pick.head)))) | exact (Pick.tail (Pick.tail (Pick.tail (Pick.tail (Pick.tail Pick.head))))) | exact (Pick.tail (Pick.tail (Pick.tail (Pick.tail (Pick.tail (Pick.tail Pick.head)))))) | exact (Pick.tail (Pick.tail (Pick.tail (Pick.tail (Pick.tail (Pick.tail (Pick.tail Pick.head))))))) | exact (Pick.tail (Pick.tail (Pick.tail (Pick.tail (Pick.tail (Pick.tail (Pick.tail (Pick.tail Pick.head))))))))) (by k_all) (by assumption) (by first | omega | (simp only [List.length_append, List.length_cons, List.length_nil]; omega)) (by k_mem) (by k_mem)) (by ktr_room) (by ktr_units) (ret_add ?_); (intro r10 o10 tl10 t10 tt10 m10 h10 tk10 F10 N10 up10' tb10 mem10 ref10; have up10 := up10'.apart; have q10 := Off2.more (by assumption) up10 ⟨_, by k_mem⟩ ⟨_, by k_mem⟩; (try simp only [List.cons_append] at N10); (try k_sweep); (try dsimp only); (try k_fold))))) | ((with_reducible show wpAny _ _ (setItem (Value.ref _) (Value.str _ _) _) _ _ _); first | with_reducible (k_here; k_dflt (refine' kids_set (by k_asm) (by k_asm) (by k_updF) (by assumption) ?_); intro h' o' F' N' hd'; (try dsimp only at N'))) | ((with_reducible show wpAny _ _ (eval (Expr.ListComp _ _ _ _) _) _ _ _); first | with_reducible (k_here; k_dflt (refine LCg.ListComp_U (F₀ := by k_asm) (by rfl) (by decide) (by rfl) (by decide) (by rfl) ?_))) | ((with_reducible show wpAny _ _ (subscriptTail _ _ _ _) _ _ _); first | with_reducible (k_here; (with_reducible show wpAny _ _ (subscriptTail _ _ (Value.ref _) (Value.str _ _)) _ _ _); k_dflt (refine' kids_item (by k_asm) (by k_mem) (by assumption) ?_))) | ((with_reducible show wpAny _ _ (compareOp CmpOp.In (Value.str _ _) (Value.ref _)) _ _ _); first | with_reducible (k_here; k_dflt (first | (refine' kids_yes (by k_asm) (by k_mem) (by assumption) (by assumption) ?_) | (refine' kids_no (by k_asm) (by k_mem) (by assumption) (by assumption) ?_)))) | ((with_reducible show UnrEnd _ _ _ _ _ _ _); first | with_reducible (k_here; refine Stop.out ?_)) | ((with_reducible show wpAny _ _ (pyIter (Value.ref _)) _ _ _); first | with_reducible (k_here; (with_reducible show wpAny _ _ (pyIter (Value.ref _)) (fun it s₂ => LoopAtV _ _ _ _ _ _ _ _ _ it s₂) _ _); refine Stop.out ?_) | (k_here; (with_reducible show wpAny _ _ (pyIter (Value.ref _)) (fun it s₂ => LoopAtV _ _ _ _ _ _ _ _ _ it s₂) _ _); refine Stop.out ?_)) | ((with_reducible show wpAny _ _ (call (Value.type "dict") _) _ _ _); first | with_reducible (k_here; k_dflt (refine' dict_copy (knd := PySem.strKind _ _) (by k_asm) (by k_asm) (by exact Top.nolimit (by k_asm)) (by k_mem) (by assumption) (by assumption) (by (rw [List.length_append]; exact Nat.le_trans (Nat.add_le_add (limKv_len) (Nat.le_refl _)) (Nat.le_of_ble_eq_true rfl))) ?_); intro D' h' o' F' N' l1 lo' hd'; (try k_lt l1))) | ((with_reducible show wpAny _ _ (execs (Stmt.Assign _ _ _ :: _ :: _) _) _ _ _); first | with_reducible (k_here; (with_reducible refine wpAny_execs_cons ?_); try dsimp only)) | ((with_reducible show RangeRest _ _ _ _ _ _ _ _ _ _ _ _ _ _ _ _ _); first | with_reducible (k_here; first | ((with_reducible refine RangeRest.succ ?_); intro t' h' tk' F' N') | ((with_reducible refine RangeRest.zero ?_); intro h' tk' F' N'))) | (k_end; kc_close) | walk1 | (dsimp only; walk1) | (leave1; (try dsimp only)))
        unfold Stop
        refine CutH.mk _ _ _ vs' m' _ more ((_, LCg.lst ys) :: tl) rfl (by k_asm) (News.of_sub (by k_asm) sub_rotK) hT' hp' (apart_K hup (by assumption)) (by rw [hl3, Nat.add_comm]; exact Nat.add_le_add_left hmore 3) (fun Lg h => ?_)
        exact standsInner (h _ (.head _)) lo' (by assumption) hys hlim (h _ (.tail _ (.head _))) hlen fun p hp => h p (.tail _ (.tail _ hp))
  · intro h9 tk9 oT' vs' pn' oD' more tl F9 N9 hT9 hp9 hu9 hm9 hx9
    have hml : (tab ++ more).length ≤ 1000 := by rw [List.length_append]; omega
    have hoB : Off2 Tb Pb ((L1 + 1 + 1, o1) :: (L1 + 1, o2) :: (rest ++ tl)) := off2_cons (Nat.ne_of_gt (Nat.lt_succ_of_lt (Nat.lt_succ_of_lt lt1.1))) (Nat.ne_of_gt (Nat.lt_succ_of_lt (Nat.lt_succ_of_lt lt1.2.1))) (off2_cons (Nat.ne_of_gt (Nat.lt_succ_of_lt lt1.1)) (Nat.ne_of_gt (Nat.lt_succ_of_lt lt1.2.1)) (off2_app hoff fun p hp => ⟨(hu9 _ (.head _) p hp).symm, (hu9 _ (.tail _ (.head _)) p hp).symm⟩))
    repeat' (first | (k_unfold; (try dsimp only)) | ((with_reducible show CutH _ _ _ _ _ _ _ _ _ _ _ _ _ _ _ _ _); first | with_reducible (k_here; refine Stop.out ?_)) | ((with_reducible show wpAny _ _ (execs (Stmt.If _ _ _ _ :: _ :: _) _) _ _ _); first | with_reducible (k_here; refine Stop.out ?_)) | ((with_reducible show LCg.CompEnd _ _ _ _ _ _ _ _ _ _ _ _ _ _); first | with_reducible (k_here; refine Stop.out ?_) | (k_here; refine Stop.out ?_)) | ((with_reducible show wpAny _ _ (call (Value.ref _) _) _ _ _); first | with_reducible (k_here; (with_reducible show wpAny _ _ (call (Value.ref 422) _) _ _ _); k_dflt ( refine' spec_use (f := 422) (by k_asm) (by k_asm) (by k_asm) (by k_asm) (by k_asm) (by first | exact rfl | assumption) (Hangs.pick (by assumption) (by exact (Pick.tail (Pick.tail (Pick.tail Pick.head)))) (by exact (Pick.tail (Pick.tail (Pick.tail Pick.head)))) (by assumption) (by ktd_sub) (by assumption) (by assumption) (by assumption)) (by ktr_room) (by ktr_units) (ret_q2 ?_); (intro r9 o9 v9 k9 tl9 h9 tk9 F9 N9 q9 up9 x9; (try simp only [List.cons_append] at N9); (try k_sweep); (try dsimp only); (try k_fold)))) | with_reducible (k_here; (with_reducible show wpAny _ _ (call (Value.ref 407) _) _ _ _); k_dflt ( refine' spec_use (f := 407) (by k_asm) (by k_asm) (by k_asm) (Pick.of (by k_asm) (by first | exact Pick.head | exact (Pick.tail Pick.head) | exact (Pick.tail (Pick.tail Pick.head)) | exact (Pick.tail (Pick.tail (Pick.tail Pick.head))) | exact (Pick.tail (Pick.tail (Pick.tail (Pick.tail Pick.head)))) | exact (Pick.tail (Pick.tail (Pick.tail (Pick.tail (Pick.tail Pick.head))))) | exact (Pick.tail (Pick.tail (Pick.tail (Pick.tail (Pick.tail (Pick.tail Pick.head)))))) | exact (Pick.tail (Pick.tail (Pick.tail (Pick.tail (Pick.tail (Pick.tail (Pick.tail Pick.head))))))) | exact (Pick.tail (Pick.tail (Pick.tail (Pick.tail (Pick.tail (Pick.tail (Pick.tail (Pick.tail Pick.head)))))))))) (by k_asm) (by first | exact rfl | assumption) (take_any _ _ _ _ (by assumption) _ _ _ (by k_all) (by decide)) (by ktr_room) (by ktr_units) (ret_take ?_); (intro d9 t9 vs9 k9 h9 tk9 F9 N9 lo9 hi9 po9; (try k_sweep); (try dsimp only); (try k_fold)))) | with_reducible (k_here; (with_reducible show wpAny _ _ (call (Value.ref 334) _) _ _ _); k_dflt ( refine' spec_use (f := 334) (by k_asm) (by k_asm) (by k_asm) (by k_asm) (by k_asm) (by first | exact rfl | assumption) (add_pick (by assumption) (by first | exact Pick.head | exact (Pick.tail Pick.head) | exact (Pick.tail (Pick.tail Pick.head)) | exact (Pick.tail (Pick.tail (Pick.tail Pick.head))) | exact (Pick.tail (Pick.tail (Pick.tail (Pick.tail Pick.head)))) | exact (Pick.tail (Pick.tail (Pick.tail (Pick.tail (Pick.tail Pick.head))))) | exact (Pick.tail (Pick.tail (Pick.tail (Pick.tail (Pick.tail (Pick.tail Pick.head)))))) | exact (Pick.tail (Pick.tail (Pick.tail (Pick.tail (Pick.tail (Pick.tail (Pick.tail Pick.head))))))) | exact (Pick.tail (Pick.tail (Pick.tail (Pick.tail (Pick.tail (Pick.tail (Pick.tail (Pick.tail Pick.head))))))))) (by k_all) (by assumption) (by first | omega | (simp only [List.length_append, List.length_cons, List.length_nil]; omega)) (by k_mem) (by k_mem)) (by ktr_room) (by ktr_units) (ret_add ?_); (intro r10 o10 tl10 t10 tt10 m10 h10 tk10 F10 N10 up10' tb10 mem10 ref10; have up10 := up10'.apart; have q10 := Off2.more (by assumption) up10 ⟨_, by k_mem⟩ ⟨_, by k_mem⟩; (try simp only [List.cons_append] at N10); (try k_sweep); (try dsimp only); (try k_fold))))) | ((with_reducible show wpAny _ _ (setItem (Value.ref _) (Value.str _ _) _) _ _ _); first | with_reducible (k_here; k_dflt (refine' kids_set (by k_asm) (by k_asm) (by k_updF) (by assumption) ?_); intro h' o' F' N' hd'; (try dsimp only at N'))) | ((with_reducible show wpAny _ _ (eval (Expr.ListComp _ _ _ _) _) _ _ _); first | with_reducible (k_here; k_dflt (refine LCg.ListComp_U (F₀ := by k_asm) (by rfl) (by decide) (by rfl) (by decide) (by rfl) ?_))) | ((with_reducible show wpAny _ _ (subscriptTail _ _ _ _) _ _ _); first | with_reducible (k_here; (with_reducible show wpAny _ _ (subscriptTail _ _ (Value.ref _) (Value.str _ _)) _ _ _); k_dflt (refine' kids_item (by k_asm) (by k_mem) (by assumption) ?_))) | ((with_reducible show wpAny _ _ (compareOp CmpOp.In (Value.str _ _) (Value.ref _)) _ _ _); first | with_reducible (k_here; k_dflt (first | (refine' kids_yes (by k_asm) (by k_mem) (by assumption) (by assumption) ?_) | (refine' kids_no (by k_asm) (by k_mem) (by assumption) (by assumption) ?_)))) | ((with_reducible show UnrEnd _ _ _ _ _ _ _); first | with_reducible (k_here; refine Stop.out ?_)) | ((with_reducible show wpAny _ _ (pyIter (Value.ref _)) _ _ _); first | with_reducible (k_here; (with_reducible show wpAny _ _ (pyIter (Value.ref _)) (fun it s₂ => LoopAtV _ _ _ _ _ _ _ _ _ it s₂) _ _); refine Stop.out ?_) | (k_here; (with_reducible show wpAny _ _ (pyIter (Value.ref _)) (fun it s₂ => LoopAtV _ _ _ _ _ _ _ _ _ it s₂) _ _); refine Stop.out ?_)) | ((with_reducible show wpAny _ _ (call (Value.type "dict") _) _ _ _); first | with_reducible (k_here; k_dflt (refine' dict_copy (knd := PySem.strKind _ _) (by k_asm) (by k_asm) (by exact Top.nolimit (by k_asm)) (by k_mem) (by assumption) (by assumption) (by (rw [List.length_append]; exact Nat.le_trans (Nat.add_le_add (limKv_len) (Nat.le_refl _)) (Nat.le_of_ble_eq_true rfl))) ?_); intro D' h' o' F' N' l1 lo' hd'; (try k_lt l1))) | ((with_reducible show wpAny _ _ (execs (Stmt.Assign _ _ _ :: _ :: _) _) _ _ _); first | with_reducible (k_here; (with_reducible refine wpAny_execs_cons ?_); try dsimp only)) | ((with_reducible show RangeRest _ _ _ _ _ _ _ _ _ _ _ _ _ _ _ _ _); first | with_reducible (k_here; first | ((with_reducible refine RangeRest.succ ?_); intro t' h' tk' F' N') | ((with_reducible refine RangeRest.zero ?_); intro h' tk' F' N'))) | (k_end; kc_close) | walk1 | (dsimp only; walk1) | (leave1; (try dsimp only)))
    unfold Stop
    have hD := (by assumption : L1 + 1 + 1 < D' ∧ L1 + 1 < D' ∧ Tb < D' ∧ Pb < D' ∧ AllLt D' rest)
    refine iter_range_gen (n := Int.toNat _) (HInv w news0 Tb oT Pb (listOf pvs.toArray pn) ((L1 + 1 + 1, o1) :: (L1 + 1, o2) :: rest) tab n d _) (by rfl) (by assumption) (small0 lo9 hi9) (rsize0 lo9 hi9) (by k_asm) (by k_asm) (fun I hI => HInv.start (by rfl) hI hD hu9 up10' tb10 po9 hm9 (toNat2 hi9) hx9 ⟨_, _, mem10⟩ ref10) ?_ ?_
    · intro I k' m' news' j tj it h tk hinv F8 N8
      obtain ⟨v, o, pvs', pm', H, more', all, tl', hm, hsub, hall, hoI, hup, hTt, hpp, hln, hHk, hx⟩ := hinv
      rw [hm.turn] at F8
      have N8 := News.of_sub N8 (sub_cons2 hsub)
      have hTI : @Ne Nat Tb I := hoI _ (hsub _ (.head _))
      have hPI : @Ne Nat Pb I := hoI _ (hsub _ (.tail _ (.head _)))
      have hAI : ∀ p ∈ all, p.1 ≠ I := fun p hp => hoI p (hsub p (.tail _ (.tail _ hp)))
      have hcell := first_of hall
      have hcell2 := second_of hall
      have h12 : (S, instObj 363 dS) ∈ all := by rw [hall]; exact .tail _ (.tail _ (mem_inl' (hs _ hS1)))
      have h22 : (dS, dictOf (shelfD w k1 k2 Tb R) n2) ∈ all := by rw [hall]; exact .tail _ (.tail _ (mem_inl' (hs _ hS2)))
      have hoA : Off2 Tb Pb all := by rw [hall]; exact off2_app (off2_cons (Nat.ne_of_gt (Nat.lt_succ_of_lt (Nat.lt_succ_of_lt lt1.1))) (Nat.ne_of_gt (Nat.lt_succ_of_lt (Nat.lt_succ_of_lt lt1.2.1))) (off2_cons (Nat.ne_of_gt (Nat.lt_succ_of_lt lt1.1)) (Nat.ne_of_gt (Nat.lt_succ_of_lt lt1.2.1)) hoff)) fun p hp => ⟨(hup _ (.head _) p hp).symm, (hup _ (.tail _ (.head _)) p hp).symm⟩
      have hml' : (tab ++ more').length ≤ 1000 := by rw [List.length_append]; omega
      clear hm hsub hml hoB q10 up10 hx9 hu9 tb10 ref10
      repeat' (first | (k_unfold; (try dsimp only)) | ((with_reducible show CutH _ _ _ _ _ _ _ _ _ _ _ _ _ _ _ _ _); first | with_reducible (k_here; refine Stop.out ?_)) | ((with_reducible show wpAny _ _ (execs (Stmt.If _ _ _ _ :: _ :: _) _) _ _ _); first | with_reducible (k_here; refine Stop.out ?_)) | ((with_reducible show LCg.CompEnd _ _ _ _ _ _ _ _ _ _ _ _ _ _); first | with_reducible (k_here; refine Stop.out ?_) | (k_here; refine Stop.out ?_)) | ((with_reducible show wpAny _ _ (call (Value.ref _) _) _ _ _); first | with_reducible (k_here; (with_reducible show wpAny _ _ (call (Value.ref 422) _) _ _ _); k_dflt ( refine' spec_use (f := 422) (by k_asm) (by k_asm) (by k_asm) (by k_asm) (by k_asm) (by first | exact rfl | assumption) (Hangs.pick (by assumption) (by exact (Pick.tail (Pick.tail (Pick.tail Pick.head)))) (by exact (Pick.tail (Pick.tail (Pick.tail Pick.head)))) (by assumption) (by ktd_sub) (by assumption) (by assumption) (by assumption)) (by ktr_room) (by ktr_units) (ret_q2 ?_); (intro r9 o9 v9 k9 tl9 h9 tk9 F9 N9 q9 up9 x9; (try simp only [List.cons_append] at N9); (try k_sweep); (try dsimp only); (try k_fold)))) | with_reducible (k_here; (with_reducible show wpAny _ _ (call (Value.ref 407) _) _ _ _); k_dflt ( refine' spec_use (f := 407) (by k_asm) (by k_asm) (by k_asm) (Pick.of (by k_asm) (by first | exact Pick.head | exact (Pick.tail Pick.head) | exact (Pick.tail (Pick.tail Pick.head)) | exact (Pick.tail (Pick.tail (Pick.tail Pick.head))) | exact (Pick.tail (Pick.tail (Pick.tail (Pick.tail Pick.head)))) | exact (Pick.tail (Pick.tail (Pick.tail (Pick.tail (Pick.tail Pick.head))))) | exact (Pick.tail (Pick.tail (Pick.tail (Pick.tail (Pick.tail (Pick.tail Pick.head)))))) | exact (Pick.tail (Pick.tail (Pick.tail (Pick.tail (Pick.tail (Pick.tail (Pick.tail Pick.head))))))) | exact (Pick.tail (Pick.tail (Pick.tail (Pick.tail (Pick.tail (Pick.tail (Pick.tail (Pick.tail Pick.head)))))))))) (by k_asm) (by first | exact rfl | assumption) (take_any _ _ _ _ (by assumption) _ _ _ (by k_all) (by decide)) (by ktr_room) (by ktr_units) (ret_take ?_); (intro d9 t9 vs9 k9 h9 tk9 F9 N9 lo9 hi9 po9; (try k_sweep); (try dsimp only); (try k_fold)))) | with_reducible (k_here; (with_reducible show wpAny _ _ (call (Value.ref 334) _) _ _ _); k_dflt ( refine' spec_use (f := 334) (by k_asm) (by k_asm) (by k_asm) (by k_asm) (by k_asm) (by first | exact rfl | assumption) (add_pick (by assumption) (by first | exact Pick.head | exact (Pick.tail Pick.head) | exact (Pick.tail (Pick.tail Pick.head)) | exact (Pick.tail (Pick.tail (Pick.tail Pick.head))) | exact (Pick.tail (Pick.tail (Pick.tail (Pick.tail Pick.head)))) | exact (Pick.tail (Pick.tail (Pick.tail (Pick.tail (Pick.tail Pick.head))))) | exact (Pick.tail (Pick.tail (Pick.tail (Pick.tail (Pick.tail (Pick.tail Pick.head)))))) | exact (Pick.tail (Pick.tail (Pick.tail (Pick.tail (Pick.tail (Pick.tail (Pick.tail Pick.head))))))) | exact (Pick.tail (Pick.tail (Pick.tail (Pick.tail (Pick.tail (Pick.tail (Pick.tail (Pick.tail Pick.head))))))))) (by k_all) (by assumption) (by first | omega | (simp only [List.length_append, List.length_cons, List.length_nil]; omega)) (by k_mem) (by k_mem)) (by ktr_room) (by ktr_units) (ret_add ?_); (intro r10 o10 tl10 t10 tt10 m10 h10 tk10 F10 N10 up10' tb10 mem10 ref10; have up10 := up10'.apart; have q10 := Off2.more (by assumption) up10 ⟨_, by k_mem⟩ ⟨_, by k_mem⟩; (try simp only [List.cons_append] at N10); (try k_sweep); (try dsimp only); (try k_fold))))) | ((with_reducible show wpAny _ _ (setItem (Value.ref _) (Value.str _ _) _) _ _ _); first | with_reducible (k_here; k_dflt (refine' kids_set (by k_asm) (by k_asm) (by k_updF) (by assumption) ?_); intro h' o' F' N' hd'; (try dsimp only at N'))) | ((with_reducible show wpAny _ _ (eval (Expr.ListComp _ _ _ _) _) _ _ _); first | with_reducible (k_here; k_dflt (refine LCg.ListComp_U (F₀ := by k_asm) (by rfl) (by decide) (by rfl) (by decide) (by rfl) ?_))) | ((with_reducible show wpAny _ _ (subscriptTail _ _ _ _) _ _ _); first | with_reducible (k_here; (with_reducible show wpAny _ _ (subscriptTail _ _ (Value.ref _) (Value.str _ _)) _ _ _); k_dflt (refine' kids_item (by k_asm) (by k_mem) (by assumption) ?_))) | ((with_reducible show wpAny _ _ (compareOp CmpOp.In (Value.str _ _) (Value.ref _)) _ _ _); first | with_reducible (k_here; k_dflt (first | (refine' kids_yes (by k_asm) (by k_mem) (by assumption) (by assumption) ?_) | (refine' kids_no (by k_asm) (by k_mem) (by assumption) (by assumption) ?_)))) | ((with_reducible show UnrEnd _ _ _ _ _ _ _); first | with_reducible (k_here; refine Stop.out ?_)) | ((with_reducible show wpAny _ _ (pyIter (Value.ref _)) _ _ _); first | with_reducible (k_here; (with_reducible show wpAny _ _ (pyIter (Value.ref _)) (fun it s₂ => LoopAtV _ _ _ _ _ _ _ _ _ it s₂) _ _); refine Stop.out ?_) | (k_here; (with_reducible show wpAny _ _ (pyIter (Value.ref _)) (fun it s₂ => LoopAtV _ _ _ _ _ _ _ _ _ it s₂) _ _); refine Stop.out ?_)) | ((with_reducible show wpAny _ _ (call (Value.type "dict") _) _ _ _); first | with_reducible (k_here; k_dflt (refine' dict_copy (knd := PySem.strKind _ _) (by k_asm) (by k_asm) (by exact Top.nolimit (by k_asm)) (by k_mem) (by assumption) (by assumption) (by (rw [List.length_append]; exact Nat.le_trans (Nat.add_le_add (limKv_len) (Nat.le_refl _)) (Nat.le_of_ble_eq_true rfl))) ?_); intro D' h' o' F' N' l1 lo' hd'; (try k_lt l1))) | ((with_reducible show wpAny _ _ (execs (Stmt.Assign _ _ _ :: _ :: _) _) _ _ _); first | with_reducible (k_here; (with_reducible refine wpAny_execs_cons ?_); try dsimp only)) | ((with_reducible show RangeRest _ _ _ _ _ _ _ _ _ _ _ _ _ _ _ _ _); first | with_reducible (k_here; first | ((with_reducible refine RangeRest.succ ?_); intro t' h' tk' F' N') | ((with_reducible refine RangeRest.zero ?_); intro h' tk' F' N'))) | (k_end; kc_close) | walk1 | (dsimp only; walk1) | (leave1; (try dsimp only)))
      unfold Stop
      refine unrEnd_pick2 (by k_asm) (by k_asm) (Pick.tail Pick.head) ?_
      exact HInv.next hall hPI hTI hAI hup hpp hln hHk hx (by assumption) (by assumption) ⟨_, _, by assumption⟩ (by assumption)
    · intro I m' news' h tk hinv F8 N8
      obtain ⟨v, o, pvs', pm', H, more', all, tl', hm, hsub, hall, hoI, hup, hTt, hpp, hln, hHk, hx⟩ := hinv
      rw [hm.fin (by decide +kernel)] at F8
      have N8 := News.of_sub N8 hsub
      clear hm hsub
      repeat' (first | (k_unfold; (try dsimp only)) | ((with_reducible show CutH _ _ _ _ _ _ _ _ _ _ _ _ _ _ _ _ _); first | with_reducible (k_here; refine Stop.out ?_)) | ((with_reducible show wpAny _ _ (execs (Stmt.If _ _ _ _ :: _ :: _) _) _ _ _); first | with_reducible (k_here; refine Stop.out ?_)) | ((with_reducible show LCg.CompEnd _ _ _ _ _ _ _ _ _ _ _ _ _ _); first | with_reducible (k_here; refine Stop.out ?_) | (k_here; refine Stop.out ?_)) | ((with_reducible show wpAny _ _ (call (Value.ref _) _) _ _ _); first | with_reducible (k_here; (with_reducible show wpAny _ _ (call (Value.ref 422) _) _ _ _); k_dflt ( refine' spec_use (f := 422) (by k_asm) (by k_asm) (by k_asm) (by k_asm) (by k_asm) (by first | exact rfl | assumption) (Hangs.pick (by assumption) (by exact (Pick.tail (Pick.tail (Pick.tail Pick.head)))) (by exact (Pick.tail (Pick.tail (Pick.tail Pick.head)))) (by assumption) (by ktd_sub) (by assumption) (by assumption) (by assumption)) (by ktr_room) (by ktr_units) (ret_q2 ?_); (intro r9 o9 v9 k9 tl9 h9 tk9 F9 N9 q9 up9 x9; (try simp only [List.cons_append] at N9); (try k_sweep); (try dsimp only); (try k_fold)))) | with_reducible (k_here; (with_reducible show wpAny _ _ (call (Value.ref 407) _) _ _ _); k_dflt ( refine' spec_use (f := 407) (by k_asm) (by k_asm) (by k_asm) (Pick.of (by k_asm) (by first | exact Pick.head | exact (Pick.tail Pick.head) | exact (Pick.tail (Pick.tail Pick.head)) | exact (Pick.tail (Pick.tail (Pick.tail Pick.head))) | exact (Pick.tail (Pick.tail (Pick.tail (Pick.tail Pick.head)))) | exact (Pick.tail (Pick.tail (Pick.tail (Pick.tail (Pick.tail Pick.head))))) | exact (Pick.tail (Pick.tail (Pick.tail (Pick.tail (Pick.tail (Pick.tail Pick.head)))))) | exact (Pick.tail (Pick.tail (Pick.tail (Pick.tail (Pick.tail (Pick.tail (Pick.tail Pick.head))))))) | exact (Pick.tail (Pick.tail (Pick.tail (Pick.tail (Pick.tail (Pick.tail (Pick.tail (Pick.tail Pick.head)))))))))) (by k_asm) (by first | exact rfl | assumption) (take_any _ _ _ _ (by assumption) _ _ _ (by k_all) (by decide)) (by ktr_room) (by ktr_units) (ret_take ?_); (intro d9 t9 vs9 k9 h9 tk9 F9 N9 lo9 hi9 po9; (try k_sweep); (try dsimp only); (try k_fold)))) | with_reducible (k_here; (with_reducible show wpAny _ _ (call (Value.ref 334) _) _ _ _); k_dflt ( refine' spec_use (f := 334) (by k_asm) (by k_asm) (by k_asm) (by k_asm) (by k_asm) (by first | exact rfl | assumption) (add_pick (by assumption) (by first | exact Pick.head | exact (Pick.tail Pick.head) | exact (Pick.tail (Pick.tail Pick.head)) | exact (Pick.tail (Pick.tail (Pick.tail Pick.head))) | exact (Pick.tail (Pick.tail (Pick.tail (Pick.tail Pick.head)))) | exact (Pick.tail (Pick.tail (Pick.tail (Pick.tail (Pick.tail Pick.head))))) | exact (Pick.tail (Pick.tail (Pick.tail (Pick.tail (Pick.tail (Pick.tail Pick.head)))))) | exact (Pick.tail (Pick.tail (Pick.tail (Pick.tail (Pick.tail (Pick.tail (Pick.tail Pick.head))))))) | exact (Pick.tail (Pick.tail (Pick.tail (Pick.tail (Pick.tail (Pick.tail (Pick.tail (Pick.tail Pick.head))))))))) (by k_all) (by assumption) (by first | omega | (simp only [List.length_append, List.length_cons, List.length_nil]; omega)) (by k_mem) (by k_mem)) (by ktr_room) (by ktr_units) (ret_add ?_); (intro r10 o10 tl10 t10 tt10 m10 h10 tk10 F10 N10 up10' tb10 mem10 ref10; have up10 := up10'.apart; have q10 := Off2.more (by assumption) up10 ⟨_, by k_mem⟩ ⟨_, by k_mem⟩; (try simp only [List.cons_append] at N10); (try k_sweep); (try dsimp only); (try k_fold))))) | ((with_reducible show wpAny _ _ (setItem (Value.ref _) (Value.str _ _) _) _ _ _); first | with_reducible (k_here; k_dflt (refine' kids_set (by k_asm) (by k_asm) (by k_updF) (by assumption) ?_); intro h' o' F' N' hd'; (try dsimp only at N'))) | ((with_reducible show wpAny _ _ (eval (Expr.ListComp _ _ _ _) _) _ _ _); first | with_reducible (k_here; k_dflt (refine LCg.ListComp_U (F₀ := by k_asm) (by rfl) (by decide) (by rfl) (by decide) (by rfl) ?_))) | ((with_reducible show wpAny _ _ (subscriptTail _ _ _ _) _ _ _); first | with_reducible (k_here; (with_reducible show wpAny _ _ (subscriptTail _ _ (Value.ref _) (Value.str _ _)) _ _ _); k_dflt (refine' kids_item (by k_asm) (by k_mem) (by assumption) ?_))) | ((with_reducible show wpAny _ _ (compareOp CmpOp.In (Value.str _ _) (Value.ref _)) _ _ _); first | with_reducible (k_here; k_dflt (first | (refine' kids_yes (by k_asm) (by k_mem) (by assumption) (by assumption) ?_) | (refine' kids_no (by k_asm) (by k_mem) (by assumption) (by assumption) ?_)))) | ((with_reducible show UnrEnd _ _ _ _ _ _ _); first | with_reducible (k_here; refine Stop.out ?_)) | ((with_reducible show wpAny _ _ (pyIter (Value.ref _)) _ _ _); first | with_reducible (k_here; (with_reducible show wpAny _ _ (pyIter (Value.ref _)) (fun it s₂ => LoopAtV _ _ _ _ _ _ _ _ _ it s₂) _ _); refine Stop.out ?_) | (k_here; (with_reducible show wpAny _ _ (pyIter (Value.ref _)) (fun it s₂ => LoopAtV _ _ _ _ _ _ _ _ _ it s₂) _ _); refine Stop.out ?_)) | ((with_reducible show wpAny _ _ (call (Value.type "dict") _) _ _ _); first | with_reducible (k_here; k_dflt (refine' dict_copy (knd := PySem.strKind _ _) (by k_asm) (by k_asm) (by exact Top.nolimit (by k_asm)) (by k_mem) (by assumption) (by assumption) (by (rw [List.length_append]; exact Nat.le_trans (Nat.add_le_add (limKv_len) (Nat.le_refl _)) (Nat.le_of_ble_eq_true rfl))) ?_); intro D' h' o' F' N' l1 lo' hd'; (try k_lt l1))) | ((with_reducible show wpAny _ _ (execs (Stmt.Assign _ _ _ :: _ :: _) _) _ _ _); first | with_reducible (k_here; (with_reducible refine wpAny_execs_cons ?_); try dsimp only)) | ((with_reducible show RangeRest _ _ _ _ _ _ _ _ _ _ _ _ _ _ _ _ _); first | with_reducible (k_here; first | ((with_reducible refine RangeRest.succ ?_); intro t' h' tk' F' N') | ((with_reducible refine RangeRest.zero ?_); intro h' tk' F' N'))) | (k_end; kc_close) | walk1 | (dsimp only; walk1) | (leave1; (try dsimp only)))
      refine finishQ2 hret (by k_asm) (by k_asm) (.head _) (.tail _ (.head _)) hpp (fun p hp => .tail _ (.tail _ (by rw [hall]; exact .tail _ (.tail _ (mem_inl' hp))))) fun tl'' U keep => ?_
      have hk : ∀ p ∈ news0 ++ tl', p ∈ news0 ++ tl'' := fun p hp => by
        rcases List.mem_append.mp hp with hp | hp
        · exact mem_inl' hp
        · exact mem_inr' (keep p (.tail _ (.tail _ (by rw [hall]; exact mem_inr' hp))) (hup _ (.head _) p hp) (hup _ (.tail _ (.head _)) p hp) fun q hq => hup q (.tail _ (.tail _ (.tail _ (.tail _ hq)))) p hp)
      have z := hx.mono (more := []) hk (Int.le_refl _)
      rw [List.append_nil] at z
      exact hungEnd hTt rfl hln hHk z
end
theorem hung_any {w : World} {news0 : List (Addr × Obj)} {S T P : Addr} (hS : ShelfAt w news0 S T) (hTP : @Ne Nat T P) : ∀ (n : Nat) (v : Value) (d : Node), NodeIs w news0 n v d → Hangs w news0 S T P (5 + n) n v d := by
  obtain ⟨dS, R, k1, k2, n2, s1, s2, lT⟩ := hS
  have leaf : ∀ (n : Nat) (v : Value) (lim : Option (List Item)) (nums : List Item), NodeIs w news0 n v (.leaf lim nums) → Hangs w news0 S T P (5 + n) n v (.leaf lim nums) := by
    intro n v lim nums h oT tab vs m rest hs hoff hT hp hl
    have h' : ∃ a lv nv, v = .ref a ∧ DictAt w news0 a (limKv lim lv ++ [(Str.ofString "Nums", nv)]) ∧ LimIs w news0 lim lv ∧ RowIs w news0 nv nums := by cases n <;> exact h
    obtain ⟨a, lv, nv, rfl, ⟨o, ho, lo, hd⟩, hlim, hrow⟩ := h'
    exact (hung_step w news0 S T P a o lv nv _ lim _ 4 n oT tab vs m rest hs hoff hTP hT hp hl ho lo hd hlim (.inl ⟨nums, rfl, rfl, hrow⟩) lT dS R k1 k2 n2 s1 s2 (Nat.le_refl _)).bigger (Nat.le_add_right 5 n)
  intro n
  induction n with
  | zero =>
    intro v d h
    cases d with
    | leaf lim nums => exact leaf 0 v lim nums h
    | inner lim kids => exact h.elim
  | succ n ih =>
    intro v d h
    cases d with
    | leaf lim nums => exact leaf (n + 1) v lim nums h
    | inner lim kids =>
      obtain ⟨a, lv, b, us, mb, rfl, ⟨o, ho, lo, hd⟩, hlim, hb, hk, hlen⟩ := h
      intro oT tab vs m rest hs hoff hT hp hl
      exact hung_step w news0 S T P a o lv _ _ lim _ (5 + n) (n + 1) oT tab vs m rest hs hoff hTP hT hp hl ho lo hd hlim (.inr ⟨b, us, mb, kids, n, rfl, rfl, rfl, rfl, hb, hlen, hk.imp fun v d x => ih v d x⟩) lT dS R k1 k2 n2 s1 s2 (Nat.le_trans (by decide) (Nat.le_add_right 5 n))
end
section
theorem walk_plain_TreeD : True := by
  w_top off
  trivial
section
variable {w : World} {A : Around} {E : Value → Shared → Prop} {s : Shared} {h₀ : Heap} {L : Addr} {m : Str → Option Value} {news : List (Addr × Obj)} {Q : Value → Shared → Prop}
/-- the law's menu of values at a place that is drawn -/
theorem menu5 {value slice : Expr} {t x dx l y dy : Addr} {n1 n2 n3 n4 : Nat} {t7 a b k1 k2 k3 k4 k5 k6 u : Tok} {d : Int} (N : News h₀ L s.heap news)
    (hm : (t, tupOf [Value.none, .int 7 t7, .ref x, .ref l, .ref y].toArray n1) ∈ news) (h1 : (x, instObj 183 dx) ∈ news) (h2 : (dx, dictOf (nameD w k1 k2) n2) ∈ news)
    (h3 : (l, listOf [Value.int 1 a, .int 2 b].toArray n3) ∈ news) (h4 : (y, instObj 254 dy) ∈ news) (h5 : (dy, dictOf (refD w k3 k4 (.int 900 k5) (.int 0 k6)) n4) ∈ news)
    (hd0 : 0 ≤ d) (hd1 : d < 5)
    (h : ∀ v i, ItemIs w [(x, instObj 183 dx), (dx, dictOf (nameD w k1 k2) n2), (l, listOf [Value.int 1 a, .int 2 b].toArray n3), (y, instObj 254 dy), (dy, dictOf (refD w k3 k4 (.int 900 k5) (.int 0 k6)) n4)] v i → Q v s)
    (hs : subscripted slice false (.ref t) (.int d u) = operate [.ref t, .int d u] (getItem (.ref t) (.int d u)) := by with_unfolding_all rfl) :
    wpAny (model PySem.Challenge.rw_og0169_01.row.prog w) A (subscriptTail value slice (.ref t) (.int d u)) Q E s := by
  have ht : IsTup s.heap t [Value.none, .int 7 t7, .ref x, .ref l, .ref y].toArray := ⟨_, (N _ hm).1, rfl, n1, rfl⟩
  have hj : seqIndex? d [Value.none, .int 7 t7, .ref x, .ref l, .ref y].length = some d.toNat := by
    unfold seqIndex?
    have e : ¬ d < 0 := by omega
    simp only [List.length_cons, List.length_nil, e, if_false]
    rw [if_pos (by simp; omega)]
  have go : ∀ v i, [Value.none, .int 7 t7, .ref x, .ref l, .ref y][d.toNat]? = some v → ItemIs w [(x, instObj 183 dx), (dx, dictOf (nameD w k1 k2) n2), (l, listOf [Value.int 1 a, .int 2 b].toArray n3), (y, instObj 254 dy), (dy, dictOf (refD w k3 k4 (.int 900 k5) (.int 0 k6)) n4)] v i → wpAny (model PySem.Challenge.rw_og0169_01.row.prog w) A (subscriptTail value slice (.ref t) (.int d u)) Q E s :=
    fun v i hv hi => item_tupleT ht (by omega) (by omega) hj hv (h v i hi) hs
  have : d = 0 ∨ d = 1 ∨ d = 2 ∨ d = 3 ∨ d = 4 := by omega
  rcases this with rfl | rfl | rfl | rfl | rfl
  · exact go _ .none rfl rfl
  · exact go _ (.int 7) rfl ⟨_, rfl⟩
  · exact go _ .name rfl ⟨x, dx, k1, k2, n2, rfl, .head _, .tail _ (.head _)⟩
  · exact go _ (.intl [1, 2]) rfl ⟨_, _, _, rfl, List.Mem.tail _ (List.Mem.tail _ (List.Mem.head _)), .cons _ _ (.cons _ _ .nil), by simp⟩
  · exact go _ (.ref 900 0) rfl ⟨y, dy, k3, k4, k5, k6, n4, rfl, .tail _ (.tail _ (.tail _ (.head _))), .tail _ (.tail _ (.tail _ (.tail _ (.head _))))⟩
end
inductive CutN (g : Heap) (L : Addr) (m : Str → Option Value) (P : Addr) (base : List (Addr × Obj)) (s s' : Shared) : Prop
  | mk (h) (tk) (vs) (n) (h0 : s' = { s with heap := h, toks := tk }) (h1 : Fr g L h m) (h2 : News g L h ((P, listOf (List.toArray vs) n) :: base)) (h3 : PoolIs vs) : CutN g L m P base s s'
theorem cut_pool {prog : Program} {w : World} {A : Around} {E : Value → Shared → Prop} {s : Shared} {env : Env} {st : Stmt} {rest : List Stmt} {Q : Flow → Shared → Prop} {P : Addr} {base : List (Addr × Obj)} {g : Heap} {L : Addr} {m : Str → Option Value} (_F : Fr g L s.heap m)
    (h1 : wpAny (model prog w) A (exec st env) (fun f s' => match f with | .next => CutN g L m P base s s' | f => Q f s') E s)
    (h2 : ∀ h tk vs n, Fr g L h m → News g L h ((P, listOf (List.toArray vs) n) :: base) → PoolIs vs → wpAny (model prog w) A (execs rest env) Q E { s with heap := h, toks := tk }) : wpAny (model prog w) A (execs (st :: rest) env) Q E s := by
  refine wpAny_execs_cons (wpAny_mono h1 (fun f s' hf => ?_) fun _ _ e => e)
  cases f with
  | next => obtain ⟨h, tk, vs, n, rfl, F, N, hp⟩ := hf; exact h2 h tk vs n F N hp
  | brk => exact hf
  | cont => exact hf
  | ret v => exact hf
theorem cutN_end {g h : Heap} {L P : Addr} {m : Str → Option Value} {base all : List (Addr × Obj)} {vs : List Value} {n tk : Nat} {s : Shared} (F : Fr g L h m) (N : News g L h all) (hP : (P, listOf vs.toArray n) ∈ all) (hb : ∀ p ∈ base, p ∈ all) (hp : PoolIs vs) : CutN g L m P base s { s with heap := h, toks := tk } :=
  ⟨h, tk, vs, n, rfl, F, fun p hq => by
    rcases List.mem_cons.mp hq with rfl | hq
    · exact N _ hP
    · exact N p (hb p hq), hp⟩
/-- how many nodes a drawn tree has at most -/
def bnd : Nat → Nat
  | 0 => 1
  | n + 1 => 1 + 3 * bnd n
inductive TreePost (w : World) (k : Nat) (r : Value) (o' : Obj) (tl : List (Addr × Obj)) : Prop
  | mk (vs') (m') (d) (h0 : o' = listOf (List.toArray vs') m') (h1 : PoolIs vs') (h2 : NodeIs w tl k r d) (h3 : cnt k d ≤ bnd k) : TreePost w k r o' tl
theorem ret_tree {h₀ : Heap} {L : Addr} {m : Str → Option Value} {s : Shared} {Q : Value → Shared → Prop} {w : World} {P : Addr} {o : Obj} {rest : List (Addr × Obj)} {j : Nat} (k : ∀ r vs n d tl h' tk', Fr h₀ L h' m → News h₀ L h' ((P, listOf (List.toArray vs) n) :: (rest ++ tl)) → Apart ((P, o) :: rest) tl → PoolIs vs → NodeIs w tl j r d → cnt j d ≤ bnd j → Q r { s with heap := h', toks := tk' }) :
    ∀ r n' h' tk', Fr h₀ L h' m → News h₀ L h' n' → MadeQ P o rest (TreePost w j) r n' → Q r { s with heap := h', toks := tk' } := by
  rintro r n' h' tk' F N ⟨_, tl, rfl, U, vs, n, d, rfl, a1, a2, a3⟩
  exact k r vs n d tl h' tk' F N U a1 a2 a3
def Trees (w : World) (P : Addr) (sz k : Nat) : Prop := ∀ (d : Int) t vs m rest, d = k → PoolIs vs → (∀ p ∈ rest, p.1 ≠ P) → Spec w 412 sz [.ref P, .int d t] ((P, listOf vs.toArray m) :: rest) (MadeQ P (listOf vs.toArray m) rest (TreePost w k))
theorem Trees.use {w : World} {P : Addr} {sz k : Nat} (h : Trees w P sz k) {d : Int} {t : Tok} {vs : List Value} {m : Nat} {rest : List (Addr × Obj)} (e : d = k) (hp : PoolIs vs) (ho : ∀ p ∈ rest, p.1 ≠ P) :
    Spec w 412 sz [.ref P, .int d t] ((P, listOf vs.toArray m) :: rest) (MadeQ P (listOf vs.toArray m) rest (TreePost w k)) := h d t vs m rest e hp ho
theorem small_of {d : Int} (h0 : 0 ≤ d) (h1 : d < 3) : Builtin.Range.small 0 (1 + d) 1 = true := split3 h0 h1 (fun e => by subst e; decide) (fun e => by subst e; decide) (fun e => by subst e; decide)
theorem rsize_of {d : Int} (h0 : 0 ≤ d) (h1 : d < 3) : Builtin.Range.rangeSize 0 (1 + d) 1 = (((1 + d).toNat : Nat) : Int) := split3 h0 h1 (fun e => by subst e; decide) (fun e => by subst e; decide) (fun e => by subst e; decide)
theorem fourth_of {a b c d : Addr × Obj} {r tl all : List (Addr × Obj)} (h : all = (a :: b :: c :: d :: r) ++ tl) : d ∈ all := by rw [h]; exact List.mem_append.mpr (.inl (.tail _ (.tail _ (.tail _ (.head _)))))
inductive CInvT (w : World) (P : Addr) (oP : Obj) (base : List (Addr × Obj)) (k : Nat) (i : Nat) (ys : List Value) (nx : List (Addr × Obj)) : Prop
  | mk (vs) (m) (all) (tl) (ds) (h0 : nx = (P, listOf (List.toArray vs) m) :: all) (h1 : all = base ++ tl) (h2 : Apart ((P, oP) :: base) tl) (h3 : PoolIs vs) (h4 : All2 (NodeIs w tl k) ys ds) (h5 : (∀ d ∈ ds, cnt k d ≤ bnd k)) (h6 : ys.length = i) : CInvT w P oP base k i ys nx
theorem CInvT.start {w : World} {P : Addr} {oP : Obj} {vs : List Value} {m k : Nat} {base : List (Addr × Obj)} (hp : PoolIs vs) : CInvT w P oP base k 0 [] ((P, listOf vs.toArray m) :: base) := ⟨vs, m, base, [], [], rfl, by rw [List.append_nil], Apart.nil _, hp, trivial, (fun _ h => (nomatch h)), rfl⟩
theorem CInvT.next {w : World} {P : Addr} {oP o1 o2 : Obj} {base all tl tl9 X : List (Addr × Obj)} {k i : Nat} {ys : List Value} {ds : List Node} {y : Value} (hall : all = base ++ tl) (u : Apart ((P, oP) :: base) tl) (hb : ∀ p ∈ base, p ∈ X) (hys : All2 (NodeIs w tl k) ys ds) (hc : ∀ d ∈ ds, cnt k d ≤ bnd k) (hl : ys.length = i)
    (u9 : Apart ((P, o1) :: X) tl9) (hx : TreePost w k y o2 tl9) : CInvT w P oP base k (i + 1) (ys ++ [y]) ((P, o2) :: (all ++ tl9)) := by
  obtain ⟨vs', m', d, rfl, hp, hn, hd⟩ := hx
  refine ⟨vs', m', all ++ tl9, tl ++ tl9, ds ++ [d], rfl, by rw [hall, List.append_assoc], ?_, hp, All2.snoc (hn.mono (sub_r _ _)) (hys.imp fun _ _ h => h.mono (sub_l _ _)), ?_, by rw [List.length_append, List.length_singleton, hl]⟩
  · intro q hq p hp
    rcases List.mem_append.mp hp with hp | hp
    · exact u q hq p hp
    · rcases List.mem_cons.mp hq with rfl | hq
      · exact u9 (P, o1) (.head _) p hp
      · exact u9 q (.tail _ (hb q hq)) p hp
  · intro x hx
    rcases List.mem_append.mp hx with hx | hx
    · exact hc x hx
    · rw [List.mem_singleton.mp hx]; exact hd
theorem off_T3 {D : Addr} {oD : Obj} {q q' c c' : Addr × Obj} {rest tl : List (Addr × Obj)} (u : Apart (q :: q' :: (D, oD) :: c :: c' :: rest) tl) (h : ∀ p ∈ rest, p.1 < D) : ∀ p ∈ rest ++ tl, p.1 ≠ D := fun p hp => by
  rcases List.mem_append.mp hp with hp | hp
  · exact Nat.ne_of_lt (h p hp)
  · exact (u (D, oD) (.tail _ (.tail _ (.head _))) p hp).symm
theorem sum_le {k c : Nat} : ∀ (ds : List Node), (∀ d ∈ ds, cnt k d ≤ c) → (ds.map (cnt k)).sum ≤ ds.length * c
  | [], _ => by simp
  | d :: ds, h => by
    have h1 := h d (.head _)
    have h2 := sum_le ds fun x hx => h x (.tail _ hx)
    simp only [List.map_cons, List.sum_cons, List.length_cons, Nat.succ_mul]
    omega
theorem treeInner {w : World} {tl tl' : List (Addr × Obj)} {k kk m' nl ny : Nat} {D l K : Addr} {o : Obj} {vs' ys : List Value} {ds : List Node} {t0 t9 : Tok} {dd : Int} (hkk : k = kk + 1) (hp : PoolIs vs') (hD : (D, o) ∈ tl') (lo : (D == sysModules) = false)
    (hd : o.IsDictOf (PySem.strKind PySem.Challenge.rw_og0169_01.row.prog w) [(Str.ofString "Limits", .ref l), (Str.ofString "Kids", .ref K)]) (hl : (l, listOf [.int 0 t0, .int 9 t9].toArray nl) ∈ tl') (hK : (K, listOf ys.toArray ny) ∈ tl')
    (hys : All2 (NodeIs w tl kk) ys ds) (hc : ∀ d ∈ ds, cnt kk d ≤ bnd kk) (hln : ys.length = (1 + dd).toNat) (hdd : dd < 3) (ht : ∀ p ∈ tl, p ∈ tl') : TreePost w k (.ref D) (listOf vs'.toArray m') tl' := by
  subst hkk
  have e := hys.length
  have hs := sum_le ds hc
  have h3 : ds.length ≤ 3 := by omega
  have hm := Nat.mul_le_mul_right (bnd kk) h3
  exact ⟨vs', m', .inner (some [.int 0, .int 9]) ds, rfl, hp, ⟨D, .ref l, K, ys, ny, rfl, ⟨o, hD, lo, hd⟩, ⟨l, _, nl, rfl, hl, ⟨⟨t0, rfl⟩, ⟨t9, rfl⟩, trivial⟩, by simp⟩, hK, hys.imp fun _ _ x => x.mono ht, by omega⟩, by simp only [cnt, bnd]; omega⟩
theorem keep_above {T B : Addr} {rest all tl' : List (Addr × Obj)} (keep : ∀ p ∈ all, T ≠ p.1 → (∀ q ∈ rest, q.1 ≠ p.1) → p ∈ tl') (hT : T < B) (hb : ∀ q ∈ rest, q.1 < B) : ∀ p ∈ all, @LE.le Nat _ B p.1 → p ∈ tl' :=
  fun p hp hx => keep p hp (Nat.ne_of_lt (Nat.lt_of_lt_of_le hT hx)) (ne_ord fun q hq => Nat.lt_of_lt_of_le (hb q hq) hx)
theorem treeLeaf {w : World} {tl' : List (Addr × Obj)} {k m' nl nr : Nat} {D l r : Addr} {o : Obj} {vs' vs : List Value} {nums : List Item} {t0 t9 : Tok} (hp : PoolIs vs') (hD : (D, o) ∈ tl') (lo : (D == sysModules) = false)
    (hd : o.IsDictOf (PySem.strKind PySem.Challenge.rw_og0169_01.row.prog w) [(Str.ofString "Limits", .ref l), (Str.ofString "Nums", .ref r)]) (hl : (l, listOf [.int 0 t0, .int 1 t9].toArray nl) ∈ tl') (hr : (r, listOf vs.toArray nr) ∈ tl')
    (hits : All2 (ItemIs w tl') vs nums) (h10 : nums.length ≤ 10) : TreePost w k (.ref D) (listOf vs'.toArray m') tl' := by
  have hn : NodeIs w tl' 0 (.ref D) (.leaf (some [.int 0, .int 1]) nums) := ⟨D, .ref l, .ref r, rfl, ⟨o, hD, lo, hd⟩, ⟨l, _, nl, rfl, hl, ⟨⟨t0, rfl⟩, ⟨t9, rfl⟩, trivial⟩, by simp⟩, r, vs, nr, rfl, hr, hits, h10⟩
  refine ⟨vs', m', .leaf (some [.int 0, .int 1]) nums, rfl, hp, by cases k <;> exact hn, ?_⟩
  rw [cnt_leaf]
  cases k <;> simp [bnd]
theorem treeLeaf2 {w : World} {tl' : List (Addr × Obj)} {k m' nl nr : Nat} {D l r : Addr} {o : Obj} {vs' : List Value} {t0 t9 : Tok} {a1 : Int} {t1 : Tok} {v1 : Value} {i1 : Item} (hp : PoolIs vs') (hD : (D, o) ∈ tl') (lo : (D == sysModules) = false)
    (hd : o.IsDictOf (PySem.strKind PySem.Challenge.rw_og0169_01.row.prog w) [(Str.ofString "Limits", .ref l), (Str.ofString "Nums", .ref r)]) (hl : (l, listOf [.int 0 t0, .int 1 t9].toArray nl) ∈ tl') (hr : (r, listOf [.int a1 t1, v1].toArray nr) ∈ tl')
    (h1 : ItemIs w tl' v1 i1) : TreePost w k (.ref D) (listOf vs'.toArray m') tl' :=
  treeLeaf (nums := [.int a1, i1]) hp hD lo hd hl hr ⟨⟨_, rfl⟩, h1, trivial⟩ (by simp)
theorem treeLeaf4 {w : World} {tl' : List (Addr × Obj)} {k m' nl nr : Nat} {D l r : Addr} {o : Obj} {vs' : List Value} {t0 t9 : Tok} {a1 a2 : Int} {t1 t2 : Tok} {v1 v2 : Value} {i1 i2 : Item} (hp : PoolIs vs') (hD : (D, o) ∈ tl') (lo : (D == sysModules) = false)
    (hd : o.IsDictOf (PySem.strKind PySem.Challenge.rw_og0169_01.row.prog w) [(Str.ofString "Limits", .ref l), (Str.ofString "Nums", .ref r)]) (hl : (l, listOf [.int 0 t0, .int 1 t9].toArray nl) ∈ tl') (hr : (r, listOf [.int a1 t1, v1, .int a2 t2, v2].toArray nr) ∈ tl')
    (h1 : ItemIs w tl' v1 i1) (h2 : ItemIs w tl' v2 i2) : TreePost w k (.ref D) (listOf vs'.toArray m') tl' :=
  treeLeaf (nums := [.int a1, i1, .int a2, i2]) hp hD lo hd hl hr ⟨⟨_, rfl⟩, h1, ⟨_, rfl⟩, h2, trivial⟩ (by simp)
/-- what the loop over the row keeps -/
inductive TInv (w : World) (P : Addr) (oP : Obj) (base : List (Addr × Obj)) (m₀ : Str → Option Value) (I : Addr) (k : Nat) (m : Str → Option Value) (nx : List (Addr × Obj)) : Prop
  | mk (r) (vs) (nr) (pvs) (pm) (all) (tl) (its) (h0 : Sets (Str.ofString "turn") (Str.ofString "row") m₀ (.ref r) m) (h1 : (∀ p ∈ (P, listOf (List.toArray pvs) pm) :: all, p ∈ nx)) (h2 : all = base ++ tl) (h3 : (∀ p ∈ nx, p.1 ≠ I)) (h4 : Apart ((P, oP) :: base) tl) (h5 : PoolIs pvs) (h6 : (r, listOf (List.toArray vs) nr) ∈ tl) (h7 : All2 (ItemIs w tl) vs its) (h8 : vs.length + 2 * k ≤ 4) : TInv w P oP base m₀ I k m nx
theorem TInv.start {w : World} {P I r : Addr} {oP : Obj} {base : List (Addr × Obj)} {m₀ : Str → Option Value} {k nr pm : Nat} {pvs : List Value} {news : List (Addr × Obj)} (hr : m₀ (Str.ofString "row") = some (.ref r)) (hp : PoolIs pvs) (hk : k ≤ 2) (hs : ∀ p ∈ (P, listOf pvs.toArray pm) :: (base ++ [(r, listOf [].toArray nr)]), p ∈ news) (hI : ∀ p ∈ news, p.1 < I) (hP : P < r) (hb : ∀ p ∈ base, p.1 < r) : TInv w P oP base m₀ I k m₀ news :=
  ⟨r, [], nr, pvs, pm, base ++ [(r, listOf [].toArray nr)], [(r, listOf [].toArray nr)], [], .start hr, hs, rfl, fun p hp => Nat.ne_of_lt (hI p hp), fun q hq p hp => by
    rw [List.mem_singleton.mp hp]
    rcases List.mem_cons.mp hq with rfl | hq
    · exact Nat.ne_of_lt hP
    · exact Nat.ne_of_lt (hb q hq), hp, .head _, trivial, by rw [List.length_nil, Nat.zero_add]; exact Nat.mul_le_mul_left 2 hk⟩
open Classical in
theorem TInv.next {w : World} {P I B D z t y dy l x : Addr} {oP oD oz ot oy ody ol ox oB : Obj} {base all tl : List (Addr × Obj)} {m₀ : Str → Option Value} {k nr pm : Nat} {pvs vs : List Value} {its : List Item} {v : Value} {i : Item} {o : Option Value} {j : Int} {tj : Tok} {vr : Value} {C3 C4 C6 C7 C8 : Prop} (hall : all = base ++ tl) (u : Apart ((P, oP) :: base) tl) (hys : All2 (ItemIs w tl) vs its) (hl : vs.length + 2 * (k + 1) ≤ 4)
    (hPI : @Ne Nat P I) (hAI : ∀ p ∈ all, p.1 ≠ I) (hp : PoolIs pvs) (hi : ItemIs w [(x, ox), (B, oB), (l, ol), (y, oy), (dy, ody)] v i)
    (k1 : @LT.lt Nat _ I B ∧ P < B ∧ AllLt B all) (k2 : B < x) (k3 : x < l ∧ B < l ∧ C3) (k4 : l < dy ∧ C4) (k5 : dy < y) (k6 : y < t ∧ C6) (k7 : P < z ∧ t < z ∧ C7) (k8 : z < D ∧ C8) (e : oD = listOf (vs ++ [.int j tj, v]).toArray nr) :
    (∀ p ∈ (D, oD) :: (z, oz) :: (P, listOf pvs.toArray pm) :: (t, ot) :: (y, oy) :: (dy, ody) :: (l, ol) :: (x, ox) :: (B, oB) :: all, p.1 ≠ I) ∧
    TInv w P oP base m₀ I k (fun y => if y = Str.ofString "row" then some (.ref D) else if y = Str.ofString "turn" then o else if y = Str.ofString "row" then some vr else m₀ y) ((D, oD) :: (z, oz) :: (P, listOf pvs.toArray pm) :: (t, ot) :: (y, oy) :: (dy, ody) :: (l, ol) :: (x, ox) :: (B, oB) :: all) := by
  subst e
  have b2 : B ≤ x := Nat.le_of_lt k2
  have b3 : B ≤ l := Nat.le_of_lt k3.2.1
  have b4 : B ≤ dy := Nat.le_trans b3 (Nat.le_of_lt k4.1)
  have b5 : B ≤ y := Nat.le_trans b4 (Nat.le_of_lt k5)
  have b6 : B ≤ t := Nat.le_trans b5 (Nat.le_of_lt k6.1)
  have b7 : B ≤ z := Nat.le_trans b6 (Nat.le_of_lt k7.2.1)
  have b8 : B ≤ D := Nat.le_trans b7 (Nat.le_of_lt k8.1)
  generalize hn : (D, listOf (vs ++ [Value.int j tj, v]).toArray nr) :: (z, oz) :: (P, listOf pvs.toArray pm) :: (t, ot) :: (y, oy) :: (dy, ody) :: (l, ol) :: (x, ox) :: (B, oB) :: all = nx
  have hb := ktn_ltOf k1.2.2
  have ap : ∀ a : Nat, B ≤ a → ∀ q ∈ (P, oP) :: base, q.1 ≠ a := fun a ha q hq => by
    rcases List.mem_cons.mp hq with rfl | hq
    · exact Nat.ne_of_lt (Nat.lt_of_lt_of_le k1.2.1 ha)
    · exact Nat.ne_of_lt (Nat.lt_of_lt_of_le (hb q (by rw [hall]; exact mem_inl' hq)) ha)
  have hin : ∀ p ∈ nx, (∀ q ∈ (P, oP) :: base, q.1 ≠ p.1) → p ∈ nx.filter (fun p => decide (∀ q ∈ (P, oP) :: base, q.1 ≠ p.1)) := fun p h1 h2 => List.mem_filter.mpr ⟨h1, decide_eq_true h2⟩
  have hs : ∀ p ∈ all, p ∈ nx := fun p hp => by rw [← hn]; iterate 9 (refine .tail _ ?_)
                                                exact hp
  have hP : (P, listOf pvs.toArray pm) ∈ nx := by rw [← hn]; exact .tail _ (.tail _ (.head _))
  have htl : ∀ p ∈ tl, p ∈ nx.filter (fun p => decide (∀ q ∈ (P, oP) :: base, q.1 ≠ p.1)) := fun p hp => hin p (hs p (by rw [hall]; exact mem_inr' hp)) fun q hq => u q hq p hp
  refine ⟨?_, D, _, nr, pvs, pm, base ++ nx.filter (fun p => decide (∀ q ∈ (P, oP) :: base, q.1 ≠ p.1)), _, its ++ [.int j, i], .next, fun p h => ?_, rfl, ?_, fun q hq p hp => of_decide_eq_true (List.mem_filter.mp hp).2 q hq, hp, hin _ (by rw [← hn]; exact .head _) (ap _ b8), ?_, ?_⟩
  rotate_left
  · rcases List.mem_cons.mp h with rfl | h
    · exact hP
    · rcases List.mem_append.mp h with h | h
      · exact hs p (by rw [hall]; exact mem_inl' h)
      · exact (List.mem_filter.mp h).1
  rotate_left
  · rw [show vs ++ [Value.int j tj, v] = (vs ++ [.int j tj]) ++ [v] by simp, show its ++ [Item.int j, i] = (its ++ [.int j]) ++ [i] by simp]
    refine All2.snoc (hi.mono fun p hp => ?_) (All2.snoc ⟨tj, rfl⟩ (hys.imp fun _ _ h => h.mono htl))
    have : p ∈ nx ∧ B ≤ p.1 := by
      rw [← hn]
      simp only [List.mem_cons, List.not_mem_nil, or_false] at hp
      rcases hp with rfl | rfl | rfl | rfl | rfl
      · exact ⟨by simp, b2⟩
      · exact ⟨by simp, Nat.le_refl _⟩
      · exact ⟨by simp, b3⟩
      · exact ⟨by simp, b5⟩
      · exact ⟨by simp, b4⟩
    exact hin p this.1 (ap _ this.2)
  · rw [List.length_append]
    show vs.length + 2 + 2 * k ≤ 4
    omega
  all_goals
    intro p hp
    have hIB := k1.1
    rw [← hn] at hp
    simp only [List.mem_cons] at hp
    rcases hp with rfl | rfl | rfl | rfl | rfl | rfl | rfl | rfl | rfl | hp
    · exact Nat.ne_of_gt (Nat.lt_of_lt_of_le hIB b8)
    · exact Nat.ne_of_gt (Nat.lt_of_lt_of_le hIB b7)
    · exact hPI
    · exact Nat.ne_of_gt (Nat.lt_of_lt_of_le hIB b6)
    · exact Nat.ne_of_gt (Nat.lt_of_lt_of_le hIB b5)
    · exact Nat.ne_of_gt (Nat.lt_of_lt_of_le hIB b4)
    · exact Nat.ne_of_gt (Nat.lt_of_lt_of_le hIB b3)
    · exact Nat.ne_of_gt (Nat.lt_of_lt_of_le hIB b2)
    · exact Nat.ne_of_gt hIB
    · exact hAI p hp
theorem add_row {w : World} {A : Around} {E : Value → Shared → Prop} {s : Shared} {h₀ : Heap} {L a b : Addr} {m : Str → Option Value} {news : List (Addr × Obj)} {xs ys : List Value} {n1 n2 k : Nat} {Q : Value → Shared → Prop} (F : Fr h₀ L s.heap m) (N : News h₀ L s.heap news) (ha : (a, listOf xs.toArray n1) ∈ news) (hb : (b, listOf ys.toArray n2) ∈ news) (hl : xs.length + 2 * k ≤ 4) (hy : ys.length ≤ 2)
    (h : ∀ D h', Fr h₀ L h' m → News h₀ L h' ((D, listOf (xs ++ ys).toArray 0) :: news) → (∀ p ∈ news, p.1 < D) → Q (.ref D) { s with heap := h' }) : wpAny (model PySem.Challenge.rw_og0169_01.row.prog w) A (binaryOp .Add (.ref a) (.ref b)) Q E s :=
  kmk_add_lit F N ⟨_, (N _ ha).1, rfl, n1, rfl⟩ ⟨_, (N _ hb).1, rfl, n2, rfl⟩ rfl h (by rw [sizeLine_eq]; simp only [List.toList_toArray]; omega)
theorem keep_ab {Pb : Addr} {rest all now tl' : List (Addr × Obj)} (keep : ∀ p ∈ now, @Ne Nat Pb p.1 → (∀ q ∈ rest, q.1 ≠ p.1) → p ∈ tl') (hrs : ∀ p ∈ rest, p ∈ all) {p : Addr × Obj} (h : p ∈ now) (b : @LT.lt Nat _ Pb p.1 ∧ AllLt p.1 all) : p ∈ tl' := keep p h (Nat.ne_of_lt b.1) fun q hq => Nat.ne_of_lt (ktn_ltOf b.2 q (hrs q hq))
theorem mem_rot {a r : Addr × Obj} {base : List (Addr × Obj)} : ∀ p ∈ a :: (base ++ [r]), p ∈ a :: r :: base := fun p hp => by
  rcases List.mem_cons.mp hp with rfl | hp
  · exact .head _
  · rcases List.mem_append.mp hp with hp | hp
    · exact .tail _ (.tail _ hp)
    · rw [List.mem_singleton.mp hp]; exact .tail _ (.head _)
theorem off_two {P a b : Addr} {o1 o2 : Obj} {rest : List (Addr × Obj)} (h1 : P < a) (h2 : P < b) (h : ∀ p ∈ rest, p.1 ≠ P) : ∀ p ∈ (a, o1) :: (b, o2) :: rest, p.1 ≠ P := fun p hp => by
  rcases List.mem_cons.mp hp with rfl | hp
  · exact Nat.ne_of_gt h1
  · rcases List.mem_cons.mp hp with rfl | hp
    · exact Nat.ne_of_gt h2
    · exact h p hp
section
local macro_rules | `(tactic| k_mem) => `(tactic| first | exact Pick.head | (refine' Pick.tail ?pk; (case pk => k_mem)))
set_option maxRecDepth 100000 in
set_option maxHeartbeats 8000000 in
theorem tree_step (w : World) (Pb : Addr) (pm : Nat) (vs : List Value) (hp : PoolIs vs) (d : Int) (k sz : Nat) (hdk : d = k) (t : Tok) (rest : List (Addr × Obj)) (hoff : ∀ p ∈ rest, p.1 ≠ Pb) (IH : ∀ n, k = n + 1 → Trees w Pb sz n) (hsz : 3 ≤ sz) :
   Spec w 412 (sz + 1) [.ref Pb, .int d t] ((Pb, listOf vs.toArray pm) :: rest) (MadeQ Pb (listOf vs.toArray pm) rest (TreePost w k)) := by
  unfold Spec
  k_fill
  intro dp un gd cn cs a ccd cl outer A₀ base h₀ L m s loose mean mg mb Q E B F X N T hk hd hu hret
  refine wpAny_call ?_
  k_dflt (refine' code_defC ?k1 ?k2 ?k3 ?k4 ?k5 ?kA ?kF ?kK ?k6 ?k7 ?k8 ?k9 ?kB ?kD ?_ ?c2 ?c3 ?c4; (case kA => exact rfl); (case kF => exact rfl); (case kK => assumption); (case k1 => k_asm); (case k2 => k_asm); (case k3 => k_asm); (case k4 => k_asm); (case k5 => k_asm); (case k6 => k_is); (case k7 => k_is); (case k8 => ktr_room); (case k9 => exact BindsTo.of_eq rfl); (case kB => exact rfl); (case kD => decide +kernel); (case c2 => exact rfl); (case c3 => exact rfl); (case c4 => exact rfl); k_whole)
  intro g1 L1 h1 tk1 cells1 FG1 F1 N1 Y1 B1 X1 T1 lt1
  (try k_lt lt1)
  k_cells Y1
  (try simp only [List.cons_append, List.nil_append] at N1)
  (try dsimp only)
  (try k_fold)
  rename_i o1 o2 d1 d2
  refine cut_pool (P := Pb) (base := (L1 + 1 + 1, o1) :: (L1 + 1, o2) :: rest) F1 ?_ ?_
  · repeat' (first | (k_unfold; (try dsimp only)) | ((with_reducible show LCg.CompEnd _ _ _ _ _ _ _ _ _ _ _ _ _ _); first | with_reducible (k_here; refine Stop.out ?_) | (k_here; refine Stop.out ?_)) | ((with_reducible show if _ then _ else _); first | with_reducible (k_here; first | with_reducible refine ite_tt ?_ | with_reducible refine ite_ff ?_ | (with_reducible refine split_ine ?_ ?_ <;> intro _) | (with_reducible refine split_ieq ?_ ?_ <;> intro _) | with_reducible refine split_not ?_ | (with_reducible refine split_dec ?_ ?_ <;> intro _) | (with_reducible refine split_bool ?_ ?_ <;> intro _))) | ((with_reducible show wpAny _ _ (call (Value.ref _) _) _ _ _); first | with_reducible (k_here; (with_reducible show wpAny _ _ (call (Value.ref 183) [_]) _ _ _); k_dflt ( refine' spec_use (f := 183) (by k_asm) (by k_asm) (by k_asm) (by k_asm) (by k_asm) (by first | exact rfl | assumption) (name_new _ _ _) (by ktr_room) (by ktr_units) (ret_obj1 ?_); (intro x9 d9 a9 m9 h9 tk9 F9 N9 l9 k9; (try k_lt l9); (try k_lt2 k9); (try k_sweep); (try dsimp only); (try k_fold)))) | with_reducible (k_here; (with_reducible show wpAny _ _ (call (Value.ref 254) [Value.int _ _, Value.int _ _]) _ _ _); k_dflt ( refine' spec_use (f := 254) (by k_asm) (by k_asm) (by k_asm) (by k_asm) (by k_asm) (by first | exact rfl | assumption) (ref_new _ _ _ _ _ _) (by ktr_room) (by ktr_units) (ret_obj ?_); (intro x9 d9 a9 c9 m9 h9 tk9 F9 N9 l9 k9; (try k_lt l9); (try k_lt2 k9); (try k_sweep); (try dsimp only); (try k_fold)))) | with_reducible (k_here; (with_reducible show wpAny _ _ (call (Value.ref 412) _) _ _ _); k_dflt ( refine' spec_use (f := 412) (by k_asm) (by k_asm) (by k_asm) (Pick.of (by k_asm) (by exact (Pick.tail (Pick.tail (Pick.tail Pick.head))))) (by k_asm) (by first | exact rfl | assumption) (Trees.use (by assumption) (by omega) (by assumption) (by assumption)) (by ktr_room) (by ktr_units) (ret_q ?_); (intro r9 o9 tl9 h9 tk9 F9 N9 up9 x9; (try simp only [List.cons_append] at N9); (try k_sweep); (try dsimp only); (try k_fold)))) | with_reducible (k_here; k_dflt ( refine' spec_use (f := 407) (by k_asm) (by k_asm) (by k_asm) (Pick.of (by k_asm) (by k_mem)) (by k_asm) (by first | exact rfl | assumption) (take_any _ _ _ _ (by assumption) _ _ _ (by k_all) (by decide)) (by ktr_room) (by ktr_units) (ret_take ?_); (intro d9 t9 vs9 k9 h9 tk9 F9 N9 lo9 hi9 po9; (try k_sweep); (try dsimp only); (try k_fold))))) | ((with_reducible show LCg.CompSrc _ _ _ _ _ _ _ _ _ _ _ _ _ _); first | with_reducible (k_here; refine Stop.out ?_)) | ((with_reducible show wpAny _ _ (eval (Expr.ListComp _ _ _ _) _) _ _ _); first | with_reducible (k_here; k_dflt (refine LCg.ListComp_U (F₀ := by k_asm) (by rfl) (by decide) (by rfl) (by decide) (by rfl) ?_))) | ((with_reducible show CutN _ _ _ _ _ _ _); first | with_reducible (k_here; refine Stop.out ?_)) | ((with_reducible show UnrEnd _ _ _ _ _ _ _); first | with_reducible (k_here; refine Stop.out ?_)) | ((with_reducible show wpAny _ _ (subscriptTail _ _ _ _) _ _ _); first | with_reducible (k_here; k_dflt (refine' menu5 (by k_asm) (by k_mem) (by k_mem) (by k_mem) (by k_mem) (by k_mem) (by k_mem) (by assumption) (by assumption) ?_); intro v9 i9 it9)) | ((with_reducible show wpAny _ _ (binaryOp Operator.Add (Value.ref _) (Value.ref _)) _ _ _); first | with_reducible (k_here; k_dflt (refine' add_row (by k_asm) (by k_asm) (by k_mem) (by k_mem) (by assumption) (by exact Nat.le_refl _) ?_); intro D' h' F' N' l1; (try k_lt l1)) | (k_here; k_dflt (refine' add_row (by k_asm) (by k_asm) (by k_mem) (by k_mem) (by assumption) (by exact Nat.le_refl _) ?_); intro D' h' F' N' l1; (try k_lt l1))) | ((with_reducible show wpAny _ _ (pyIter (Value.ref _)) _ _ _); first | with_reducible (k_here; (with_reducible show wpAny _ _ (pyIter (Value.ref _)) (fun it s₂ => LoopAtV _ _ _ _ _ _ _ _ _ it s₂) _ _); refine Stop.out ?_) | (k_here; (with_reducible show wpAny _ _ (pyIter (Value.ref _)) (fun it s₂ => LoopAtV _ _ _ _ _ _ _ _ _ it s₂) _ _); refine Stop.out ?_)) | ((with_reducible show wpAny _ _ (execs (Stmt.Assign _ _ _ :: _ :: _) _) _ _ _); first | with_reducible (k_here; (with_reducible refine wpAny_execs_cons ?_); try dsimp only)) | ((with_reducible show RangeRest _ _ _ _ _ _ _ _ _ _ _ _ _ _ _ _ _); first | with_reducible (k_here; first | ((with_reducible refine RangeRest.succ ?_); intro t' h' tk' F' N') | ((with_reducible refine RangeRest.zero ?_); intro h' tk' F' N'))) | (k_end; kc_close) | walk1 | (dsimp only; walk1) | (leave1; (try dsimp only)))
    all_goals (try (unfold Stop; exact cutN_end (by k_asm) (by k_asm) (by k_mem) (by intro p hp; simp only [List.mem_cons] at hp ⊢; rcases hp with h | h | h <;> simp only [h, true_or, or_true]) (by assumption)))
    · unfold Stop
      obtain ⟨kk, hkk⟩ : ∃ kk, k = kk + 1 := ⟨k - 1, by omega⟩
      have hIH := IH kk hkk
      refine' LCg.CompSrc.range (n := (1 + (_ : Int)).toNat) rfl ?F (Pick.news (P := Pb) ?pk ?N) ?hr ?hsm ?hn ?sz ?_
      case F => k_asm
      case N => k_asm
      case pk => first | exact Pick.head | exact (Pick.tail Pick.head) | exact (Pick.tail (Pick.tail Pick.head)) | exact (Pick.tail (Pick.tail (Pick.tail Pick.head))) | exact (Pick.tail (Pick.tail (Pick.tail (Pick.tail Pick.head)))) | exact (Pick.tail (Pick.tail (Pick.tail (Pick.tail (Pick.tail Pick.head))))) | exact (Pick.tail (Pick.tail (Pick.tail (Pick.tail (Pick.tail (Pick.tail Pick.head)))))) | exact (Pick.tail (Pick.tail (Pick.tail (Pick.tail (Pick.tail (Pick.tail (Pick.tail Pick.head))))))) | exact (Pick.tail (Pick.tail (Pick.tail (Pick.tail (Pick.tail (Pick.tail (Pick.tail (Pick.tail Pick.head))))))))
      case hr => assumption
      case hsm => exact small_of (by assumption) (by assumption)
      case hn => exact rsize_of (by assumption) (by assumption)
      case sz => (rw [sizeLine_eq]; omega)
      intro g9
      refine compRest_all (CInvT w Pb (listOf vs.toArray pm) _ kk) ?_ ?_ _ _ _ _ (Nat.zero_add _) (CInvT.start (by assumption))
      · intro i ys nx v I oI C oC D m₂ hh tk E' hi hv hinv hC hx F8 N8 off ne
        obtain ⟨vs', m', all, tl, ds, rfl, hall, hup, hp', hys, hcn, hln⟩ := hinv
        have hcell := third_of hall
        have hcell2 := fourth_of hall
        have hoA : ∀ p ∈ all, p.1 ≠ Pb := fun p hp => by
          rw [hall] at hp
          rcases List.mem_append.mp hp with hp | hp
          · rcases List.mem_cons.mp hp with rfl | hp
            · refine neN ?_; dsimp only; omega
            · rcases List.mem_cons.mp hp with rfl | hp
              · refine neN ?_; dsimp only; omega
              · rcases List.mem_cons.mp hp with rfl | hp
                · refine neN ?_; dsimp only; omega
                · rcases List.mem_cons.mp hp with rfl | hp
                  · refine neN ?_; dsimp only; omega
                  · exact hoff p hp
          · exact (hup _ (.head _) p hp).symm
        have hoT : ∀ p ∈ (I, oI) :: (C, oC) :: (D, LCg.lst ys) :: all, p.1 ≠ Pb := off_T off hoA
        repeat' (first | (k_unfold; (try dsimp only)) | ((with_reducible show LCg.CompEnd _ _ _ _ _ _ _ _ _ _ _ _ _ _); first | with_reducible (k_here; refine Stop.out ?_) | (k_here; refine Stop.out ?_)) | ((with_reducible show if _ then _ else _); first | with_reducible (k_here; first | with_reducible refine ite_tt ?_ | with_reducible refine ite_ff ?_ | (with_reducible refine split_ine ?_ ?_ <;> intro _) | (with_reducible refine split_ieq ?_ ?_ <;> intro _) | with_reducible refine split_not ?_ | (with_reducible refine split_dec ?_ ?_ <;> intro _) | (with_reducible refine split_bool ?_ ?_ <;> intro _))) | ((with_reducible show wpAny _ _ (call (Value.ref _) _) _ _ _); first | with_reducible (k_here; (with_reducible show wpAny _ _ (call (Value.ref 183) [_]) _ _ _); k_dflt ( refine' spec_use (f := 183) (by k_asm) (by k_asm) (by k_asm) (by k_asm) (by k_asm) (by first | exact rfl | assumption) (name_new _ _ _) (by ktr_room) (by ktr_units) (ret_obj1 ?_); (intro x9 d9 a9 m9 h9 tk9 F9 N9 l9 k9; (try k_lt l9); (try k_lt2 k9); (try k_sweep); (try dsimp only); (try k_fold)))) | with_reducible (k_here; (with_reducible show wpAny _ _ (call (Value.ref 254) [Value.int _ _, Value.int _ _]) _ _ _); k_dflt ( refine' spec_use (f := 254) (by k_asm) (by k_asm) (by k_asm) (by k_asm) (by k_asm) (by first | exact rfl | assumption) (ref_new _ _ _ _ _ _) (by ktr_room) (by ktr_units) (ret_obj ?_); (intro x9 d9 a9 c9 m9 h9 tk9 F9 N9 l9 k9; (try k_lt l9); (try k_lt2 k9); (try k_sweep); (try dsimp only); (try k_fold)))) | with_reducible (k_here; (with_reducible show wpAny _ _ (call (Value.ref 412) _) _ _ _); k_dflt ( refine' spec_use (f := 412) (by k_asm) (by k_asm) (by k_asm) (Pick.of (by k_asm) (by exact (Pick.tail (Pick.tail (Pick.tail Pick.head))))) (by k_asm) (by first | exact rfl | assumption) (Trees.use (by assumption) (by omega) (by assumption) (by assumption)) (by ktr_room) (by ktr_units) (ret_q ?_); (intro r9 o9 tl9 h9 tk9 F9 N9 up9 x9; (try simp only [List.cons_append] at N9); (try k_sweep); (try dsimp only); (try k_fold)))) | with_reducible (k_here; k_dflt ( refine' spec_use (f := 407) (by k_asm) (by k_asm) (by k_asm) (Pick.of (by k_asm) (by k_mem)) (by k_asm) (by first | exact rfl | assumption) (take_any _ _ _ _ (by assumption) _ _ _ (by k_all) (by decide)) (by ktr_room) (by ktr_units) (ret_take ?_); (intro d9 t9 vs9 k9 h9 tk9 F9 N9 lo9 hi9 po9; (try k_sweep); (try dsimp only); (try k_fold))))) | ((with_reducible show LCg.CompSrc _ _ _ _ _ _ _ _ _ _ _ _ _ _); first | with_reducible (k_here; refine Stop.out ?_)) | ((with_reducible show wpAny _ _ (eval (Expr.ListComp _ _ _ _) _) _ _ _); first | with_reducible (k_here; k_dflt (refine LCg.ListComp_U (F₀ := by k_asm) (by rfl) (by decide) (by rfl) (by decide) (by rfl) ?_))) | ((with_reducible show CutN _ _ _ _ _ _ _); first | with_reducible (k_here; refine Stop.out ?_)) | ((with_reducible show UnrEnd _ _ _ _ _ _ _); first | with_reducible (k_here; refine Stop.out ?_)) | ((with_reducible show wpAny _ _ (subscriptTail _ _ _ _) _ _ _); first | with_reducible (k_here; k_dflt (refine' menu5 (by k_asm) (by k_mem) (by k_mem) (by k_mem) (by k_mem) (by k_mem) (by k_mem) (by assumption) (by assumption) ?_); intro v9 i9 it9)) | ((with_reducible show wpAny _ _ (binaryOp Operator.Add (Value.ref _) (Value.ref _)) _ _ _); first | with_reducible (k_here; k_dflt (refine' add_row (by k_asm) (by k_asm) (by k_mem) (by k_mem) (by assumption) (by exact Nat.le_refl _) ?_); intro D' h' F' N' l1; (try k_lt l1)) | (k_here; k_dflt (refine' add_row (by k_asm) (by k_asm) (by k_mem) (by k_mem) (by assumption) (by exact Nat.le_refl _) ?_); intro D' h' F' N' l1; (try k_lt l1))) | ((with_reducible show wpAny _ _ (pyIter (Value.ref _)) _ _ _); first | with_reducible (k_here; (with_reducible show wpAny _ _ (pyIter (Value.ref _)) (fun it s₂ => LoopAtV _ _ _ _ _ _ _ _ _ it s₂) _ _); refine Stop.out ?_) | (k_here; (with_reducible show wpAny _ _ (pyIter (Value.ref _)) (fun it s₂ => LoopAtV _ _ _ _ _ _ _ _ _ it s₂) _ _); refine Stop.out ?_)) | ((with_reducible show wpAny _ _ (execs (Stmt.Assign _ _ _ :: _ :: _) _) _ _ _); first | with_reducible (k_here; (with_reducible refine wpAny_execs_cons ?_); try dsimp only)) | ((with_reducible show RangeRest _ _ _ _ _ _ _ _ _ _ _ _ _ _ _ _ _); first | with_reducible (k_here; first | ((with_reducible refine RangeRest.succ ?_); intro t' h' tk' F' N') | ((with_reducible refine RangeRest.zero ?_); intro h' tk' F' N'))) | (k_end; kc_close) | walk1 | (dsimp only; walk1) | (leave1; (try dsimp only)))
        unfold Stop
        exact compEnd_P (by k_asm) (by k_asm) (off3_up off (by assumption)) trivial (CInvT.next (X := (I, oI) :: (C, oC) :: (D, LCg.lst ys) :: all) hall hup (fun p hp => .tail _ (.tail _ (.tail _ (by rw [hall]; exact List.mem_append.mpr (.inl hp))))) hys hcn hln (by assumption) (by assumption))
      · intro ys nx hinv
        obtain ⟨vs', m', all, tl, ds, rfl, hall, hup, hp', hys, hcn, hln⟩ := hinv
        have hall' : all = _ :: _ :: _ :: _ :: (rest ++ tl) := hall
        subst hall'
        have hoD := off_T3 hup (by ktn_ord)
        repeat' (first | (k_unfold; (try dsimp only)) | ((with_reducible show LCg.CompEnd _ _ _ _ _ _ _ _ _ _ _ _ _ _); first | with_reducible (k_here; refine Stop.out ?_) | (k_here; refine Stop.out ?_)) | ((with_reducible show if _ then _ else _); first | with_reducible (k_here; first | with_reducible refine ite_tt ?_ | with_reducible refine ite_ff ?_ | (with_reducible refine split_ine ?_ ?_ <;> intro _) | (with_reducible refine split_ieq ?_ ?_ <;> intro _) | with_reducible refine split_not ?_ | (with_reducible refine split_dec ?_ ?_ <;> intro _) | (with_reducible refine split_bool ?_ ?_ <;> intro _))) | ((with_reducible show wpAny _ _ (call (Value.ref _) _) _ _ _); first | with_reducible (k_here; (with_reducible show wpAny _ _ (call (Value.ref 183) [_]) _ _ _); k_dflt ( refine' spec_use (f := 183) (by k_asm) (by k_asm) (by k_asm) (by k_asm) (by k_asm) (by first | exact rfl | assumption) (name_new _ _ _) (by ktr_room) (by ktr_units) (ret_obj1 ?_); (intro x9 d9 a9 m9 h9 tk9 F9 N9 l9 k9; (try k_lt l9); (try k_lt2 k9); (try k_sweep); (try dsimp only); (try k_fold)))) | with_reducible (k_here; (with_reducible show wpAny _ _ (call (Value.ref 254) [Value.int _ _, Value.int _ _]) _ _ _); k_dflt ( refine' spec_use (f := 254) (by k_asm) (by k_asm) (by k_asm) (by k_asm) (by k_asm) (by first | exact rfl | assumption) (ref_new _ _ _ _ _ _) (by ktr_room) (by ktr_units) (ret_obj ?_); (intro x9 d9 a9 c9 m9 h9 tk9 F9 N9 l9 k9; (try k_lt l9); (try k_lt2 k9); (try k_sweep); (try dsimp only); (try k_fold)))) | with_reducible (k_here; (with_reducible show wpAny _ _ (call (Value.ref 412) _) _ _ _); k_dflt ( refine' spec_use (f := 412) (by k_asm) (by k_asm) (by k_asm) (Pick.of (by k_asm) (by exact (Pick.tail (Pick.tail (Pick.tail Pick.head))))) (by k_asm) (by first | exact rfl | assumption) (Trees.use (by assumption) (by omega) (by assumption) (by assumption)) (by ktr_room) (by ktr_units) (ret_q ?_); (intro r9 o9 tl9 h9 tk9 F9 N9 up9 x9; (try simp only [List.cons_append] at N9); (try k_sweep); (try dsimp only); (try k_fold)))) | with_reducible (k_here; k_dflt ( refine' spec_use (f := 407) (by k_asm) (by k_asm) (by k_asm) (Pick.of (by k_asm) (by k_mem)) (by k_asm) (by first | exact rfl | assumption) (take_any _ _ _ _ (by assumption) _ _ _ (by k_all) (by decide)) (by ktr_room) (by ktr_units) (ret_take ?_); (intro d9 t9 vs9 k9 h9 tk9 F9 N9 lo9 hi9 po9; (try k_sweep); (try dsimp only); (try k_fold))))) | ((with_reducible show LCg.CompSrc _ _ _ _ _ _ _ _ _ _ _ _ _ _); first | with_reducible (k_here; refine Stop.out ?_)) | ((with_reducible show wpAny _ _ (eval (Expr.ListComp _ _ _ _) _) _ _ _); first | with_reducible (k_here; k_dflt (refine LCg.ListComp_U (F₀ := by k_asm) (by rfl) (by decide) (by rfl) (by decide) (by rfl) ?_))) | ((with_reducible show CutN _ _ _ _ _ _ _); first | with_reducible (k_here; refine Stop.out ?_)) | ((with_reducible show UnrEnd _ _ _ _ _ _ _); first | with_reducible (k_here; refine Stop.out ?_)) | ((with_reducible show wpAny _ _ (subscriptTail _ _ _ _) _ _ _); first | with_reducible (k_here; k_dflt (refine' menu5 (by k_asm) (by k_mem) (by k_mem) (by k_mem) (by k_mem) (by k_mem) (by k_mem) (by assumption) (by assumption) ?_); intro v9 i9 it9)) | ((with_reducible show wpAny _ _ (binaryOp Operator.Add (Value.ref _) (Value.ref _)) _ _ _); first | with_reducible (k_here; k_dflt (refine' add_row (by k_asm) (by k_asm) (by k_mem) (by k_mem) (by assumption) (by exact Nat.le_refl _) ?_); intro D' h' F' N' l1; (try k_lt l1)) | (k_here; k_dflt (refine' add_row (by k_asm) (by k_asm) (by k_mem) (by k_mem) (by assumption) (by exact Nat.le_refl _) ?_); intro D' h' F' N' l1; (try k_lt l1))) | ((with_reducible show wpAny _ _ (pyIter (Value.ref _)) _ _ _); first | with_reducible (k_here; (with_reducible show wpAny _ _ (pyIter (Value.ref _)) (fun it s₂ => LoopAtV _ _ _ _ _ _ _ _ _ it s₂) _ _); refine Stop.out ?_) | (k_here; (with_reducible show wpAny _ _ (pyIter (Value.ref _)) (fun it s₂ => LoopAtV _ _ _ _ _ _ _ _ _ it s₂) _ _); refine Stop.out ?_)) | ((with_reducible show wpAny _ _ (execs (Stmt.Assign _ _ _ :: _ :: _) _) _ _ _); first | with_reducible (k_here; (with_reducible refine wpAny_execs_cons ?_); try dsimp only)) | ((with_reducible show RangeRest _ _ _ _ _ _ _ _ _ _ _ _ _ _ _ _ _); first | with_reducible (k_here; first | ((with_reducible refine RangeRest.succ ?_); intro t' h' tk' F' N') | ((with_reducible refine RangeRest.zero ?_); intro h' tk' F' N'))) | (k_end; kc_close) | walk1 | (dsimp only; walk1) | (leave1; (try dsimp only)))
        refine finishQ hret (by k_asm) (by k_asm) (by k_mem) (by ktd_sub) fun tl' U keep => ?_
        have ho1 := off1_mem (And.right (And.right (And.right (And.right (And.right ‹_ ∧ _ ∧ _ ∧ _ ∧ _ ∧ LCg.Off1 _ _›)))))
        refine' treeInner hkk hp' ?D (by assumption) (by assumption) ?l ?K hys hcn hln (by assumption) ?s
        case D => exact keep _ (by k_mem) (by refine neN ?_; dsimp only; omega) (ne_ord (by ktn_ord))
        case l => exact keep _ (by k_mem) (by refine neN ?_; dsimp only; omega) (ne_ord (by ktn_ord))
        case K => exact keep _ (.head _) (by refine neN ?_; dsimp only; omega) fun q hq => ho1 q (mem_inl' hq)
        case s => exact fun p hp => keep p (by simp [hp]) (hup _ (.head _) p hp) fun q hq => hup q (by simp [hq]) p hp
  · clear F1 N1
    intro h2 tk2 vs2 n2 F2 N2 hp2
    repeat' (first | (k_unfold; (try dsimp only)) | ((with_reducible show LCg.CompEnd _ _ _ _ _ _ _ _ _ _ _ _ _ _); first | with_reducible (k_here; refine Stop.out ?_) | (k_here; refine Stop.out ?_)) | ((with_reducible show if _ then _ else _); first | with_reducible (k_here; first | with_reducible refine ite_tt ?_ | with_reducible refine ite_ff ?_ | (with_reducible refine split_ine ?_ ?_ <;> intro _) | (with_reducible refine split_ieq ?_ ?_ <;> intro _) | with_reducible refine split_not ?_ | (with_reducible refine split_dec ?_ ?_ <;> intro _) | (with_reducible refine split_bool ?_ ?_ <;> intro _))) | ((with_reducible show wpAny _ _ (call (Value.ref _) _) _ _ _); first | with_reducible (k_here; (with_reducible show wpAny _ _ (call (Value.ref 183) [_]) _ _ _); k_dflt ( refine' spec_use (f := 183) (by k_asm) (by k_asm) (by k_asm) (by k_asm) (by k_asm) (by first | exact rfl | assumption) (name_new _ _ _) (by ktr_room) (by ktr_units) (ret_obj1 ?_); (intro x9 d9 a9 m9 h9 tk9 F9 N9 l9 k9; (try k_lt l9); (try k_lt2 k9); (try k_sweep); (try dsimp only); (try k_fold)))) | with_reducible (k_here; (with_reducible show wpAny _ _ (call (Value.ref 254) [Value.int _ _, Value.int _ _]) _ _ _); k_dflt ( refine' spec_use (f := 254) (by k_asm) (by k_asm) (by k_asm) (by k_asm) (by k_asm) (by first | exact rfl | assumption) (ref_new _ _ _ _ _ _) (by ktr_room) (by ktr_units) (ret_obj ?_); (intro x9 d9 a9 c9 m9 h9 tk9 F9 N9 l9 k9; (try k_lt l9); (try k_lt2 k9); (try k_sweep); (try dsimp only); (try k_fold)))) | with_reducible (k_here; (with_reducible show wpAny _ _ (call (Value.ref 412) _) _ _ _); k_dflt ( refine' spec_use (f := 412) (by k_asm) (by k_asm) (by k_asm) (Pick.of (by k_asm) (by exact (Pick.tail (Pick.tail (Pick.tail Pick.head))))) (by k_asm) (by first | exact rfl | assumption) (Trees.use (by assumption) (by omega) (by assumption) (by assumption)) (by ktr_room) (by ktr_units) (ret_q ?_); (intro r9 o9 tl9 h9 tk9 F9 N9 up9 x9; (try simp only [List.cons_append] at N9); (try k_sweep); (try dsimp only); (try k_fold)))) | with_reducible (k_here; k_dflt ( refine' spec_use (f := 407) (by k_asm) (by k_asm) (by k_asm) (Pick.of (by k_asm) (by k_mem)) (by k_asm) (by first | exact rfl | assumption) (take_any _ _ _ _ (by assumption) _ _ _ (by k_all) (by decide)) (by ktr_room) (by ktr_units) (ret_take ?_); (intro d9 t9 vs9 k9 h9 tk9 F9 N9 lo9 hi9 po9; (try k_sweep); (try dsimp only); (try k_fold))))) | ((with_reducible show LCg.CompSrc _ _ _ _ _ _ _ _ _ _ _ _ _ _); first | with_reducible (k_here; refine Stop.out ?_)) | ((with_reducible show wpAny _ _ (eval (Expr.ListComp _ _ _ _) _) _ _ _); first | with_reducible (k_here; k_dflt (refine LCg.ListComp_U (F₀ := by k_asm) (by rfl) (by decide) (by rfl) (by decide) (by rfl) ?_))) | ((with_reducible show CutN _ _ _ _ _ _ _); first | with_reducible (k_here; refine Stop.out ?_)) | ((with_reducible show UnrEnd _ _ _ _ _ _ _); first | with_reducible (k_here; refine Stop.out ?_)) | ((with_reducible show wpAny _ _ (subscriptTail _ _ _ _) _ _ _); first | with_reducible (k_here; k_dflt (refine' menu5 (by k_asm) (by k_mem) (by k_mem) (by k_mem) (by k_mem) (by k_mem) (by k_mem) (by assumption) (by assumption) ?_); intro v9 i9 it9)) | ((with_reducible show wpAny _ _ (binaryOp Operator.Add (Value.ref _) (Value.ref _)) _ _ _); first | with_reducible (k_here; k_dflt (refine' add_row (by k_asm) (by k_asm) (by k_mem) (by k_mem) (by assumption) (by exact Nat.le_refl _) ?_); intro D' h' F' N' l1; (try k_lt l1)) | (k_here; k_dflt (refine' add_row (by k_asm) (by k_asm) (by k_mem) (by k_mem) (by assumption) (by exact Nat.le_refl _) ?_); intro D' h' F' N' l1; (try k_lt l1))) | ((with_reducible show wpAny _ _ (pyIter (Value.ref _)) _ _ _); first | with_reducible (k_here; (with_reducible show wpAny _ _ (pyIter (Value.ref _)) (fun it s₂ => LoopAtV _ _ _ _ _ _ _ _ _ it s₂) _ _); refine Stop.out ?_) | (k_here; (with_reducible show wpAny _ _ (pyIter (Value.ref _)) (fun it s₂ => LoopAtV _ _ _ _ _ _ _ _ _ it s₂) _ _); refine Stop.out ?_)) | ((with_reducible show wpAny _ _ (execs (Stmt.Assign _ _ _ :: _ :: _) _) _ _ _); first | with_reducible (k_here; (with_reducible refine wpAny_execs_cons ?_); try dsimp only)) | ((with_reducible show RangeRest _ _ _ _ _ _ _ _ _ _ _ _ _ _ _ _ _); first | with_reducible (k_here; first | ((with_reducible refine RangeRest.succ ?_); intro t' h' tk' F' N') | ((with_reducible refine RangeRest.zero ?_); intro h' tk' F' N'))) | (k_end; kc_close) | walk1 | (dsimp only; walk1) | (leave1; (try dsimp only)))
    unfold Stop
    have hl1 := (by assumption : Pb < _ ∧ L1 + 1 + 1 < _ ∧ L1 + 1 < _ ∧ AllLt _ rest)
    refine iter_range_gen (n := Int.toNat _) (TInv w Pb (listOf vs.toArray pm) ((L1 + 1 + 1, o1) :: (L1 + 1, o2) :: rest) _) (by rfl) (by assumption) (small0 lo9 hi9) (rsize0 lo9 hi9) (by k_asm) (by k_asm) (fun I hI => TInv.start (by rfl) po9 (toNat2 hi9) mem_rot hI (And.left hl1) (ktn_ltOf (And.right hl1))) ?_ ?_
    · intro I k' m' news' j tj it h tk hinv F8 N8
      obtain ⟨r, vs', nr, pvs, pm', all, tl, its, hm, hsub, hall, hoI, hup, hpp, hr, hits, hlen⟩ := hinv
      rw [hm.turn] at F8
      have N8 := News.of_sub N8 (sub_cons2 hsub)
      have hPI : @Ne Nat Pb I := hoI _ (hsub _ (.head _))
      have hAI : ∀ p ∈ all, p.1 ≠ I := fun p hp => hoI p (hsub p (.tail _ hp))
      have hra : (r, listOf vs'.toArray nr) ∈ all := by rw [hall]; exact mem_inr' hr
      have hcell := first_of hall
      have hcell2 := second_of hall
      have hoA : ∀ p ∈ all, p.1 ≠ Pb := by rw [hall]; exact off_app (off_two (Nat.lt_succ_of_lt (Nat.lt_succ_of_lt (And.left lt1))) (Nat.lt_succ_of_lt (And.left lt1)) hoff) (fun p hp => (hup _ (.head _) p hp).symm)
      clear hm hsub
      repeat' (first | (k_unfold; (try dsimp only)) | ((with_reducible show LCg.CompEnd _ _ _ _ _ _ _ _ _ _ _ _ _ _); first | with_reducible (k_here; refine Stop.out ?_) | (k_here; refine Stop.out ?_)) | ((with_reducible show if _ then _ else _); first | with_reducible (k_here; first | with_reducible refine ite_tt ?_ | with_reducible refine ite_ff ?_ | (with_reducible refine split_ine ?_ ?_ <;> intro _) | (with_reducible refine split_ieq ?_ ?_ <;> intro _) | with_reducible refine split_not ?_ | (with_reducible refine split_dec ?_ ?_ <;> intro _) | (with_reducible refine split_bool ?_ ?_ <;> intro _))) | ((with_reducible show wpAny _ _ (call (Value.ref _) _) _ _ _); first | with_reducible (k_here; (with_reducible show wpAny _ _ (call (Value.ref 183) [_]) _ _ _); k_dflt ( refine' spec_use (f := 183) (by k_asm) (by k_asm) (by k_asm) (by k_asm) (by k_asm) (by first | exact rfl | assumption) (name_new _ _ _) (by ktr_room) (by ktr_units) (ret_obj1 ?_); (intro x9 d9 a9 m9 h9 tk9 F9 N9 l9 k9; (try k_lt l9); (try k_lt2 k9); (try k_sweep); (try dsimp only); (try k_fold)))) | with_reducible (k_here; (with_reducible show wpAny _ _ (call (Value.ref 254) [Value.int _ _, Value.int _ _]) _ _ _); k_dflt ( refine' spec_use (f := 254) (by k_asm) (by k_asm) (by k_asm) (by k_asm) (by k_asm) (by first | exact rfl | assumption) (ref_new _ _ _ _ _ _) (by ktr_room) (by ktr_units) (ret_obj ?_); (intro x9 d9 a9 c9 m9 h9 tk9 F9 N9 l9 k9; (try k_lt l9); (try k_lt2 k9); (try k_sweep); (try dsimp only); (try k_fold)))) | with_reducible (k_here; (with_reducible show wpAny _ _ (call (Value.ref 412) _) _ _ _); k_dflt ( refine' spec_use (f := 412) (by k_asm) (by k_asm) (by k_asm) (Pick.of (by k_asm) (by exact (Pick.tail (Pick.tail (Pick.tail Pick.head))))) (by k_asm) (by first | exact rfl | assumption) (Trees.use (by assumption) (by omega) (by assumption) (by assumption)) (by ktr_room) (by ktr_units) (ret_q ?_); (intro r9 o9 tl9 h9 tk9 F9 N9 up9 x9; (try simp only [List.cons_append] at N9); (try k_sweep); (try dsimp only); (try k_fold)))) | with_reducible (k_here; k_dflt ( refine' spec_use (f := 407) (by k_asm) (by k_asm) (by k_asm) (Pick.of (by k_asm) (by k_mem)) (by k_asm) (by first | exact rfl | assumption) (take_any _ _ _ _ (by assumption) _ _ _ (by k_all) (by decide)) (by ktr_room) (by ktr_units) (ret_take ?_); (intro d9 t9 vs9 k9 h9 tk9 F9 N9 lo9 hi9 po9; (try k_sweep); (try dsimp only); (try k_fold))))) | ((with_reducible show LCg.CompSrc _ _ _ _ _ _ _ _ _ _ _ _ _ _); first | with_reducible (k_here; refine Stop.out ?_)) | ((with_reducible show wpAny _ _ (eval (Expr.ListComp _ _ _ _) _) _ _ _); first | with_reducible (k_here; k_dflt (refine LCg.ListComp_U (F₀ := by k_asm) (by rfl) (by decide) (by rfl) (by decide) (by rfl) ?_))) | ((with_reducible show CutN _ _ _ _ _ _ _); first | with_reducible (k_here; refine Stop.out ?_)) | ((with_reducible show UnrEnd _ _ _ _ _ _ _); first | with_reducible (k_here; refine Stop.out ?_)) | ((with_reducible show wpAny _ _ (subscriptTail _ _ _ _) _ _ _); first | with_reducible (k_here; k_dflt (refine' menu5 (by k_asm) (by k_mem) (by k_mem) (by k_mem) (by k_mem) (by k_mem) (by k_mem) (by assumption) (by assumption) ?_); intro v9 i9 it9)) | ((with_reducible show wpAny _ _ (binaryOp Operator.Add (Value.ref _) (Value.ref _)) _ _ _); first | with_reducible (k_here; k_dflt (refine' add_row (by k_asm) (by k_asm) (by k_mem) (by k_mem) (by assumption) (by exact Nat.le_refl _) ?_); intro D' h' F' N' l1; (try k_lt l1)) | (k_here; k_dflt (refine' add_row (by k_asm) (by k_asm) (by k_mem) (by k_mem) (by assumption) (by exact Nat.le_refl _) ?_); intro D' h' F' N' l1; (try k_lt l1))) | ((with_reducible show wpAny _ _ (pyIter (Value.ref _)) _ _ _); first | with_reducible (k_here; (with_reducible show wpAny _ _ (pyIter (Value.ref _)) (fun it s₂ => LoopAtV _ _ _ _ _ _ _ _ _ it s₂) _ _); refine Stop.out ?_) | (k_here; (with_reducible show wpAny _ _ (pyIter (Value.ref _)) (fun it s₂ => LoopAtV _ _ _ _ _ _ _ _ _ it s₂) _ _); refine Stop.out ?_)) | ((with_reducible show wpAny _ _ (execs (Stmt.Assign _ _ _ :: _ :: _) _) _ _ _); first | with_reducible (k_here; (with_reducible refine wpAny_execs_cons ?_); try dsimp only)) | ((with_reducible show RangeRest _ _ _ _ _ _ _ _ _ _ _ _ _ _ _ _ _); first | with_reducible (k_here; first | ((with_reducible refine RangeRest.succ ?_); intro t' h' tk' F' N') | ((with_reducible refine RangeRest.zero ?_); intro h' tk' F' N'))) | (k_end; kc_close) | walk1 | (dsimp only; walk1) | (leave1; (try dsimp only)))
      unfold Stop
      refine unrEnd_pick2 (by k_asm) (by k_asm) (Pick.tail (Pick.tail (Pick.tail (Pick.tail (Pick.tail (Pick.tail (Pick.tail (Pick.tail (Pick.tail Pick.head))))))))) ?_
      exact TInv.next hall hup hits hlen hPI hAI (by assumption) (by assumption) (by assumption) (by assumption) (by assumption) (by assumption) (by assumption) (by assumption) (by assumption) (by assumption) rfl
    · intro I m' news' h tk hinv F8 N8
      obtain ⟨r, vs', nr, pvs, pm', all, tl, its, hm, hsub, hall, hoI, hup, hpp, hr, hits, hlen⟩ := hinv
      rw [hm.fin (by decide +kernel)] at F8
      have N8 := News.of_sub N8 hsub
      have hra : (r, listOf vs'.toArray nr) ∈ all := by rw [hall]; exact mem_inr' hr
      have hrs : ∀ p ∈ rest, p ∈ all := fun p hp => by rw [hall]; exact .tail _ (.tail _ (mem_inl' hp))
      clear hm hsub
      repeat' (first | (k_unfold; (try dsimp only)) | ((with_reducible show LCg.CompEnd _ _ _ _ _ _ _ _ _ _ _ _ _ _); first | with_reducible (k_here; refine Stop.out ?_) | (k_here; refine Stop.out ?_)) | ((with_reducible show if _ then _ else _); first | with_reducible (k_here; first | with_reducible refine ite_tt ?_ | with_reducible refine ite_ff ?_ | (with_reducible refine split_ine ?_ ?_ <;> intro _) | (with_reducible refine split_ieq ?_ ?_ <;> intro _) | with_reducible refine split_not ?_ | (with_reducible refine split_dec ?_ ?_ <;> intro _) | (with_reducible refine split_bool ?_ ?_ <;> intro _))) | ((with_reducible show wpAny _ _ (call (Value.ref _) _) _ _ _); first | with_reducible (k_here; (with_reducible show wpAny _ _ (call (Value.ref 183) [_]) _ _ _); k_dflt ( refine' spec_use (f := 183) (by k_asm) (by k_asm) (by k_asm) (by k_asm) (by k_asm) (by first | exact rfl | assumption) (name_new _ _ _) (by ktr_room) (by ktr_units) (ret_obj1 ?_); (intro x9 d9 a9 m9 h9 tk9 F9 N9 l9 k9; (try k_lt l9); (try k_lt2 k9); (try k_sweep); (try dsimp only); (try k_fold)))) | with_reducible (k_here; (with_reducible show wpAny _ _ (call (Value.ref 254) [Value.int _ _, Value.int _ _]) _ _ _); k_dflt ( refine' spec_use (f := 254) (by k_asm) (by k_asm) (by k_asm) (by k_asm) (by k_asm) (by first | exact rfl | assumption) (ref_new _ _ _ _ _ _) (by ktr_room) (by ktr_units) (ret_obj ?_); (intro x9 d9 a9 c9 m9 h9 tk9 F9 N9 l9 k9; (try k_lt l9); (try k_lt2 k9); (try k_sweep); (try dsimp only); (try k_fold)))) | with_reducible (k_here; (with_reducible show wpAny _ _ (call (Value.ref 412) _) _ _ _); k_dflt ( refine' spec_use (f := 412) (by k_asm) (by k_asm) (by k_asm) (Pick.of (by k_asm) (by exact (Pick.tail (Pick.tail (Pick.tail Pick.head))))) (by k_asm) (by first | exact rfl | assumption) (Trees.use (by assumption) (by omega) (by assumption) (by assumption)) (by ktr_room) (by ktr_units) (ret_q ?_); (intro r9 o9 tl9 h9 tk9 F9 N9 up9 x9; (try simp only [List.cons_append] at N9); (try k_sweep); (try dsimp only); (try k_fold)))) | with_reducible (k_here; k_dflt ( refine' spec_use (f := 407) (by k_asm) (by k_asm) (by k_asm) (Pick.of (by k_asm) (by k_mem)) (by k_asm) (by first | exact rfl | assumption) (take_any _ _ _ _ (by assumption) _ _ _ (by k_all) (by decide)) (by ktr_room) (by ktr_units) (ret_take ?_); (intro d9 t9 vs9 k9 h9 tk9 F9 N9 lo9 hi9 po9; (try k_sweep); (try dsimp only); (try k_fold))))) | ((with_reducible show LCg.CompSrc _ _ _ _ _ _ _ _ _ _ _ _ _ _); first | with_reducible (k_here; refine Stop.out ?_)) | ((with_reducible show wpAny _ _ (eval (Expr.ListComp _ _ _ _) _) _ _ _); first | with_reducible (k_here; k_dflt (refine LCg.ListComp_U (F₀ := by k_asm) (by rfl) (by decide) (by rfl) (by decide) (by rfl) ?_))) | ((with_reducible show CutN _ _ _ _ _ _ _); first | with_reducible (k_here; refine Stop.out ?_)) | ((with_reducible show UnrEnd _ _ _ _ _ _ _); first | with_reducible (k_here; refine Stop.out ?_)) | ((with_reducible show wpAny _ _ (subscriptTail _ _ _ _) _ _ _); first | with_reducible (k_here; k_dflt (refine' menu5 (by k_asm) (by k_mem) (by k_mem) (by k_mem) (by k_mem) (by k_mem) (by k_mem) (by assumption) (by assumption) ?_); intro v9 i9 it9)) | ((with_reducible show wpAny _ _ (binaryOp Operator.Add (Value.ref _) (Value.ref _)) _ _ _); first | with_reducible (k_here; k_dflt (refine' add_row (by k_asm) (by k_asm) (by k_mem) (by k_mem) (by assumption) (by exact Nat.le_refl _) ?_); intro D' h' F' N' l1; (try k_lt l1)) | (k_here; k_dflt (refine' add_row (by k_asm) (by k_asm) (by k_mem) (by k_mem) (by assumption) (by exact Nat.le_refl _) ?_); intro D' h' F' N' l1; (try k_lt l1))) | ((with_reducible show wpAny _ _ (pyIter (Value.ref _)) _ _ _); first | with_reducible (k_here; (with_reducible show wpAny _ _ (pyIter (Value.ref _)) (fun it s₂ => LoopAtV _ _ _ _ _ _ _ _ _ it s₂) _ _); refine Stop.out ?_) | (k_here; (with_reducible show wpAny _ _ (pyIter (Value.ref _)) (fun it s₂ => LoopAtV _ _ _ _ _ _ _ _ _ it s₂) _ _); refine Stop.out ?_)) | ((with_reducible show wpAny _ _ (execs (Stmt.Assign _ _ _ :: _ :: _) _) _ _ _); first | with_reducible (k_here; (with_reducible refine wpAny_execs_cons ?_); try dsimp only)) | ((with_reducible show RangeRest _ _ _ _ _ _ _ _ _ _ _ _ _ _ _ _ _); first | with_reducible (k_here; first | ((with_reducible refine RangeRest.succ ?_); intro t' h' tk' F' N') | ((with_reducible refine RangeRest.zero ?_); intro h' tk' F' N'))) | (k_end; kc_close) | walk1 | (dsimp only; walk1) | (leave1; (try dsimp only)))
      refine finishQ hret (by k_asm) (by k_asm) (by k_mem) (by ktd_sub) fun tl' U keep => ?_
      have kt : ∀ p ∈ tl, p ∈ tl' := fun p hp => keep p (by rw [hall]; simp [hp]) (hup _ (.head _) p hp) fun q hq => hup q (.tail _ (.tail _ (.tail _ hq))) p hp
      exact treeLeaf hpp (keep_ab keep hrs (by k_mem) (by assumption)) (by assumption) (by assumption) (keep_ab keep hrs (by k_mem) (And.right (by assumption))) (kt _ hr) (hits.imp fun _ _ h => h.mono kt) (by have := hits.length; omega)
end
theorem trees (w : World) (P : Addr) : ∀ k, Trees w P (4 + k) k := by
  intro k
  induction k with
  | zero => exact fun d t vs m rest e hp ho => tree_step w P m vs hp d 0 3 e t rest ho (fun n h => by omega) (Nat.le_refl _)
  | succ k ih => exact fun d t vs m rest e hp ho => tree_step w P m vs hp d (k + 1) (4 + k) e t rest ho (fun n h => by obtain rfl : k = n := by { omega }; exact ih) (by omega)
end
section
set_option maxRecDepth 100000
open PySem.W in
theorem tf_obj (w : World) : ∃ nm q bs hdct sn sub ab col dd k0 k1 k2 k3 k5, (fr.heap_1 w.params).lookup 59 = some (excClassObj nm q 59 58 bs [.ref 46, .type "Exception", .type "BaseException", .type "object"] hdct sn sub ab col dd k0 k1 k2 k3 k5 "Exception.__new__") :=
  ⟨_, _, _, _, _, _, _, _, _, _, _, _, _, _, rfl⟩
theorem tf_call (w : World) : specialIn (fr.heap_1 w.params) (.ref 59) "__call__" = some (some (.builtin "type.__call__")) := by rfl
theorem tf_typ (w : World) : instIn (fr.heap_1 w.params) (.ref 59) (.type "type") = some true := by rfl
theorem tf_init (w : World) : findIn (fr.heap_1 w.params) (.ref 59) "__init__" = some (some (.ref 36)) := by rfl
theorem tf_fn (w : World) : typeIn (fr.heap_1 w.params) (.ref 36) = some (.type "function") := by rfl
theorem tf_hasB : (Value.ref 59 :: [.ref 46, .type "Exception", .type "BaseException", .type "object"]).contains (.type "Exception") = true := by decide +kernel
open Builtin
section
variable {prog : Program} {w : World} {A : Around} {R : Result → Shared → Prop} {h : Heap} {g : Array GenState} {d : Drawn} {t : Nat} {os : OsState}
variable {nm q : Str} {C N : Addr} {bs bm bmB : List Value} {hdct : Bool} {sn : List Str} {sub : List Value} {ab : Bool} {col : Option Bool} {dd : Option Addr} {k0 k1 k2 k3 k5 : Option Value} {B newId initId : String}
abbrev excObj (C t : Addr) (dd : Option Addr) : Obj := { cls := .ref C, dict := dd, data := .fields #[.ref t, .none, .none, .none, .bool false, .none] }
abbrev argsObj (rest : List Value) : Obj := { cls := .type "tuple", data := .seq rest.toArray }
/-- the exception's object, made: the args' tuple, the object itself -/
theorem exc_new (F : ExcBaseFacts B newId initId bmB) (hB : (Value.ref C :: bm).contains (.type B) = true) (hA : (Value.ref C :: bm).contains (.type "AttributeError") = false) (hN : (Value.ref C :: bm).contains (.type "NameError") = false) {rest : List Value} (hrest : rest.length ≤ 1000)
    (hC : h.get? C = some (excClassObj nm q C N bs bm hdct sn sub ab col dd k0 k1 k2 k3 k5 newId)) (hq : R (.ok (.ret (.ref (h.objs.size + 1)))) ⟨(h.push (argsObj rest)).push (excObj C h.objs.size none), g, d, t, os⟩) :
    codeAny (model prog w) A (.builtin newId ⟨.ref C :: rest, []⟩) R ⟨h, g, d, t, os⟩ := by
  have e1 := F.ends
  have e2 : rest.length ≤ sizeLine := by rw [sizeLine_eq]; omega
  refine codeAny_builtinAt F.entry ?_
  unfold Builtin.«BaseException.__new__»
  refine PySem.wpAt_bind ?_
  show PySem.wpAt _ _ _ (stack >>= _) _ _ _
  refine PySem.wpAt_bind (PySem.wpAt_stack fun p below => PySem.wpAt_of_wpAny ?_)
  wp_walk
  refine PySem.wpAt_of_wpAny ?_
  have hq' : R (.ok (.ret (.ref (h.push (argsObj rest)).objs.size))) ⟨(h.push (argsObj rest)).push (excObj C h.objs.size none), g, d, t, os⟩ := by rw [Heap.size_push]; exact hq
  rw [F.owner]
  repeat (first | (with_reducible refine wpAny_madeHere_exc F.canon hC ?_) | (with_reducible refine wpAny_loadPart_at hC ?_) | (with_reducible refine wpAny_isSubtype_exc hC ?_; first | rw [hB] | rw [hA] | rw [hN]) | wp_step)
  exact hq'
/-- a call of an exception's class whose __init__ is the text's own -/
theorem exc_core {fI : Addr} (F : ExcBaseFacts B newId initId bmB) (hB : (Value.ref C :: bm).contains (.type B) = true) (hA : (Value.ref C :: bm).contains (.type "AttributeError") = false) (hN : (Value.ref C :: bm).contains (.type "NameError") = false) {rest : List Value} (hrest : rest.length ≤ 1000)
    (hC : h.get? C = some (excClassObj nm q C N bs bm hdct sn sub ab col dd k0 k1 k2 k3 k5 newId)) (call : Looks (model prog w) h (specialOf (.ref C) "__call__") (some (.builtin "type.__call__"))) (typ : Looks (model prog w) h (isInstance (.ref C) (.type "type")) true)
    (hi : Looks (model prog w) h (typeLookup (.ref C) "__init__") (some (.ref fI))) (hb : ∀ self, Looks (model prog w) h (bindSpecial (.ref fI) self) (.ref fI, [self]))
    (hq : codeAny (model prog w) (A.under (.builtin "type.__call__" ⟨.ref C :: rest, []⟩)) (.call (.ref fI) ⟨.ref (h.objs.size + 1) :: rest, []⟩) (InitBack (h.objs.size + 1) R) ⟨(h.push (argsObj rest)).push (excObj C h.objs.size none), g, d, t, os⟩) :
    codeAny (model prog w) A (.call (.ref C) ⟨rest, []⟩) R ⟨h, g, d, t, os⟩ := by
  refine codeAny_of_tree ?_
  show wpAny _ _ (callAny (.ref C) _) _ _ _
  refine nd_load hC ?_
  show wpAny _ _ (callAny.viaDunder (.ref C) _) _ _ _
  unfold callAny.viaDunder
  refine wpAny_bind (call.at ?_)
  dsimp only
  rw [tc_bind]
  refine wpAny_bind (wpAny_pure (wpAny_bind (wpAny_pure ?_)))
  refine wpAny_pure (a := Fin.again (.call (.builtin "type.__call__") ⟨.ref C :: rest, []⟩)) (And.intro rfl ?_)
  refine codeAny_call_builtin_at (Code.quiet_builtin _ (by decide +kernel)) entry_typeCall (check_slot tc_kind tc_split typ (tc_args _ _ _) ?_)
  unfold Builtin.«type.__call__»
  have hm : Looks (model prog w) h (mroOf (.ref C)) (.ref C :: bm) := ((Looks.ld (part := none) hC).andThen .now).andThen .now
  have made : Looks (model prog w) h (Bind.madeBy (.ref C)) (some newId) := fun A Q E s k q => by
    obtain ⟨hh, g, d, t, os⟩ := s
    exact wpAny_madeBy_exc (k _ _ hC) q
  repeat (first | simp only [List.isEmpty_cons, Bool.false_eq_true, if_false] | with_reducible refine wpAny_call ?_ | lk)
  have hBm : bm.contains (.type B) = true := by rw [List.contains_cons] at hB; simpa using hB
  refine codeAny_call_builtin_code (Code.quiet_builtin _ F.quiet) (wpAny_check_new_subU F hBm OwnTail.base hC ?_)
  refine exc_new F hB hA hN hrest hC ?_
  have k : ∀ b o, h.get? b = some o → ((h.push (argsObj rest)).push (excObj C h.objs.size none)).get? b = some o := fun b o e => Heap.get?_push_of_some _ (Heap.get?_push_of_some _ e)
  have hx : ((h.push (argsObj rest)).push (excObj C h.objs.size none)).get? (h.objs.size + 1) = some (excObj C h.objs.size none) := by heap_get
  have t1 : Looks (model prog w) ((h.push (argsObj rest)).push (excObj C h.objs.size none)) (typeOf (.ref (h.objs.size + 1))) (.ref C) := (Looks.ld hx).andThen .now
  have s1 : Looks (model prog w) ((h.push (argsObj rest)).push (excObj C h.objs.size none)) (isSubtype (.ref C) (.ref C)) true := fun A Q E s k' q => by
    obtain ⟨hh, g, d, t, os⟩ := s
    exact wpAny_isSubtype_exc (k' _ _ (k _ _ hC)) (by simpa using q)
  have i1 := hi.keeps k
  have b1 := (hb (.ref (h.objs.size + 1))).keeps k
  show wpAny _ _ _ _ _ _
  unfold isInstance callSpecial? specialOf
  repeat (first | with_reducible refine wpAny_call ?_ | lk)
  refine codeAny_mono hq fun r s' z => ?_
  rcases r with e | (v | _ | _ | _) <;> first | exact z | exact z.elim | skip
  obtain ⟨rfl, z⟩ := z
  exact wpAny_pure (wpAny_pure z)
end
end
section
section
variable {w : World} {A : Around} {E : Value → Shared → Prop} {s : Shared} {h₀ : Heap} {L : Addr} {m : Str → Option Value} {news : List (Addr × Obj)}

/-- TreeFault(..): the object and its args' tuple, then its __init__ -/
theorem make_tf {R : Result → Shared → Prop} {rest : List Value} (F : Fr h₀ L s.heap m) (N : News h₀ L s.heap news) (X : (fr.heap_1 w.params).In s.heap) (hz : rest.length ≤ 1000)
    (h : ∀ e t h', Fr h₀ L h' m → News h₀ L h' ((e, excObj 59 t none) :: (t, argsObj rest) :: news) → (∀ p ∈ news, p.1 < t) → t < e →
      codeAny (model PySem.Challenge.rw_og0169_01.row.prog w) (A.under (.builtin "type.__call__" ⟨.ref 59 :: rest, []⟩)) (.call (.ref 36) ⟨.ref e :: rest, []⟩) (InitBack e R) { s with heap := h' }) :
    codeAny (model PySem.Challenge.rw_og0169_01.row.prog w) A (.call (.ref 59) ⟨rest, []⟩) R s := by
  obtain ⟨hh, g, d, t, os⟩ := s
  obtain ⟨nm, q, bs, hdct, sn, sub, ab, col, dd, k0, k1, k2, k3, k5, ho⟩ := tf_obj w
  refine exc_core PySem.F.excBase_Exception (by decide +kernel) (by decide +kernel) (by decide +kernel) hz (X _ _ ho) (looks_specialIn X (tf_call w)) (looks_instIn X (tf_typ w)) (looks_findIn X (tf_init w)) (fun self => bind_fn X self (tf_fn w)) (h _ hh.objs.size _ ((F.push _).push _) ?_ (fun p hp => Heap.lt_size (N p hp).1) (Nat.lt_succ_self _))
  have := (N.push F (argsObj rest)).push (F.push _) (excObj 59 hh.objs.size none)
  rwa [Heap.size_push] at this
theorem call_tf {rest : List Value} {Q : Value → Shared → Prop} (F : Fr h₀ L s.heap m) (N : News h₀ L s.heap news) (X : (fr.heap_1 w.params).In s.heap) (hz : rest.length ≤ 1000)
    (h : ∀ e t h', Fr h₀ L h' m → News h₀ L h' ((e, excObj 59 t none) :: (t, argsObj rest) :: news) → (∀ p ∈ news, p.1 < t) → t < e →
      codeAny (model PySem.Challenge.rw_og0169_01.row.prog w) (A.under (.builtin "type.__call__" ⟨.ref 59 :: rest, []⟩)) (.call (.ref 36) ⟨.ref e :: rest, []⟩) (InitBack e fun r s' => match r with | .ok (.ret v) => Q v s' | .ok _ => False | .error e => E e s') { s with heap := h' }) :
    wpAny (model PySem.Challenge.rw_og0169_01.row.prog w) A (call (.ref 59) rest) Q E s := wpAny_call (codeAny_mono (make_tf F N X hz h) fun r s' z => by
      rcases r with e | (v | _ | _ | _) <;> exact z)
/-- what a raise hands on -/
inductive RaiseT (w : World) (h₀ : Heap) (L : Addr) (m : Str → Option Value) (E : Value → Shared → Prop) (v : Value) (s₁ : Shared) : Prop
  | mk (e) (t) (dd) (news) (h0 : v = .ref e) (h1 : (fr.heap_1 w.params).In s₁.heap) (h2 : Fr h₀ L s₁.heap m) (h3 : News h₀ L s₁.heap news) (h4 : (e, excObj 59 t dd) ∈ news) (h5 : E (.ref e) s₁) : RaiseT w h₀ L m E v s₁
theorem RaiseT.intro {e t : Addr} {dd : Option Addr} {h' : Heap} {tk : Nat} {all : List (Addr × Obj)} (X : (fr.heap_1 w.params).In h') (F : Fr h₀ L h' m) (N : News h₀ L h' all) (he : (e, excObj 59 t dd) ∈ all) (h : E (.ref e) { s with heap := h', toks := tk }) : RaiseT w h₀ L m E (.ref e) { s with heap := h', toks := tk } :=
  ⟨e, t, dd, all, rfl, X, F, N, he, h⟩
theorem raise_tf {env : Env} {e₀ : Expr} {pos : Pos} {Q : Flow → Shared → Prop} (_F : Fr h₀ L s.heap m) (hh : A.handled = none) (h : wpAny (model PySem.Challenge.rw_og0169_01.row.prog w) A (eval e₀ env) (RaiseT w h₀ L m E) E s) : wpAny (model PySem.Challenge.rw_og0169_01.row.prog w) A (exec (.Raise (some e₀) none pos) env) Q E s := by
  obtain ⟨nm, q, bs, hdct, sn, sub, ab, col, dd, k0, k1, k2, k3, k5, ho⟩ := tf_obj w
  have hcB : (Value.ref 59 :: [Value.ref 46, .type "Exception", .type "BaseException", .type "object"]).contains (.type "BaseException") = true := by decide +kernel
  rw [arm_exec_Raise]
  refine wpAny_bind (wpAny_standAt ?_)
  show wpAny (model PySem.Challenge.rw_og0169_01.row.prog w) A (raiseStmt env (some (do let v ← eval e₀ env; standAt pos; pure v)) none) Q E s
  unfold raiseStmt
  refine wpAny_bind (wpAny_bind (wpAny_mono h (fun v s₁ h₁ => wpAny_bind (wpAny_standAt (wpAny_pure ?_))) fun _ _ x => x))
  obtain ⟨e, t, d', news', rfl, X, F', N', he, hE⟩ := h₁
  have z := (N' _ he).1
  have hC := X _ _ ho
  obtain ⟨hp, g, d, tk, os⟩ := s₁
  repeat (first | with_reducible refine wpAny_loadPart_at z ?_ | with_reducible refine wpAny_loadPart_at hC ?_ | (with_reducible refine wpAny_isSubtype_exc hC ?_; rw [hcB]) | wp_step)
  exact wpAny_raiseNew_none hh hE
end
section
variable {M : Model} {A : Around} {E : Value → Shared → Prop} {s' : Shared} {base g : Heap} {outer : List Env} {L a e t C : Addr} {m : Str → Option Value} {name : Str} {scope : Scope} {cd : Value} {Q : Unit → Shared → Prop} {news all : List (Addr × Obj)}
/-- the raising frame is left: the exception flies, with the ledger that stood -/
theorem leave_tf {vs : List Value} {dd : Option Addr} (K : Below A base outer g) (F : Fr g L s'.heap m) (N : News g L s'.heap all) (he : (e, excObj C t dd) ∈ all) (ht : (t, argsObj vs) ∈ all) (hs : ∀ p ∈ news, p ∈ all) (hne : ∀ p ∈ news, p.1 ≠ e) (hnt : ∀ p ∈ news, p.1 ≠ t)
    (hQ : ∀ h', RaisedS base g outer e (.ref C) t vs news h' → RaisedK base outer e (.ref C) t vs news h' → g.UpToSlots h' → Q () { s' with heap := h' }) (hk : scope.kind = .function := by rfl) :
    wpAny M (A.deeper (envOf name scope L a cd)) (leaving (envOf name scope L a cd) (.ref e)) Q E s' := by
  have K' := K.push (name := name) (a := a) (cd := cd) F hk
  have zE := N _ he
  have zT := N _ ht
  have nE : base.get? e = none := fresh_of_stays K.stays zE.2.2
  have nT : base.get? t = none := fresh_of_stays K.stays zT.2.2
  have hin : ∀ env ∈ (envOf name scope L a cd :: outer), ∀ b, env.frame = some b → b ∈ e :: t :: (envOf name scope L a cd :: outer).filterMap (·.frame) := fun env he b hb => .tail _ (.tail _ (List.mem_filterMap.mpr ⟨env, he, hb⟩))
  have st : base.StaysIn (hideAll s'.heap (e :: t :: (envOf name scope L a cd :: outer).filterMap (·.frame))) := fun b o q => hideAll_get _ (K'.stays b o q) fun hm => by
    rcases List.mem_cons.mp hm with rfl | hm
    · rw [nE] at q; cases q
    · rcases List.mem_cons.mp hm with rfl | hm
      · rw [nT] at q; cases q
      · rw [(K'.frames.mem hm).1] at q; cases q
  have sg : ∀ b o, g.get? b = some o → b ∉ outer.filterMap (·.frame) → (hideAll s'.heap (e :: t :: (envOf name scope L a cd :: outer).filterMap (·.frame))).get? b = some o := fun b o q nm => hideAll_get _ (F.keep b o q) fun hm => by
    rcases List.mem_cons.mp hm with rfl | hm
    · rw [zE.2.2] at q; cases q
    · rcases List.mem_cons.mp hm with rfl | hm
      · rw [zT.2.2] at q; cases q
      · rcases kts_mem hm with z | z
        · rw [z, kts_self F] at q
          cases q
        · exact nm z
  have hl : ∀ q ∈ news, (hideAll s'.heap (e :: t :: (envOf name scope L a cd :: outer).filterMap (·.frame))).get? q.1 = some q.2 ∧ g.get? q.1 = none ∧ base.get? q.1 = none := fun q hq => by
    have z := N q (hs q hq)
    refine ⟨hideAll_get _ z.1 fun hm => ?_, z.2.2, fresh_of_stays K.stays z.2.2⟩
    rcases List.mem_cons.mp hm with h | hm
    · exact hne q hq h
    · rcases List.mem_cons.mp hm with h | hm
      · exact hnt q hq h
      · obtain ⟨env, he', hf⟩ := List.mem_filterMap.mp hm
        rcases List.mem_cons.mp he' with rfl | he'
        · exact z.2.1 (Option.some.inj hf).symm
        · obtain ⟨o, ho, _⟩ := (K.frames.mem (List.mem_filterMap.mpr ⟨env, he', hf⟩)).2
          rw [z.2.2] at ho; cases ho
  refine wpAny_leaving_firstW (base := hideAll s'.heap (e :: t :: (envOf name scope L a cd :: outer).filterMap (·.frame))) (a0 := .ref t) K'.stack (funFrames_hide K'.frames hin) rfl zE.1 (fun b o q => of_hideAll _ q) (hideAll_none _ (.head _)) rfl rfl rfl fun h' hL => ?_
  obtain ⟨k1, ⟨_, _, k2⟩, k3, k4⟩ := hL
  have R : RaisedS base g outer e (.ref C) t vs news h' := ⟨⟨_, st, sg, hl, ⟨k1, hideAll_none _ (.head _), k2, k3⟩, hideAll_none _ (.tail _ (.head _))⟩, Heap.TupAt.of_slots ⟨_, _, zT.1, rfl, rfl⟩ k4⟩
  exact hQ h' R R.toK ((Heap.UpToSlots.of_keeps F.keep).trans k4)
end
theorem meta_exc : typeOf (.type "Exception") = pure (.type "type") := by kernel_rfl
theorem exc_find (w : World) : findCls (fr.heap_1 w.params) (.type "Exception") (.type "type") "__init__" = some (.val (.builtin "Exception.__init__")) := by rfl
end
section
set_option maxRecDepth 100000
theorem ei_plain : plainId "Exception.__init__" = true := by decide +kernel
theorem ei_kind : builtinKind "Exception.__init__" = some .slot := by decide +kernel
theorem ei_split : splitId "Exception.__init__" = some ("Exception", "__init__") := by decide +kernel
theorem ei_entry : entryFor table "Exception.__init__" = some Builtin.«BaseException.__init__» :=
  entryFor_alias (id' := "BaseException.__init__") (by rw [fastTable_eq_tree]; kernel_rfl) (by first | rfl | decide +kernel) (by decide +kernel) (by rw [fastTable_eq_tree]; kernel_rfl)
theorem tf_subE (w : World) : subIn (fr.heap_1 w.params) (.ref 59) (.type "Exception") = some true := by rfl
theorem tf_subO (w : World) : subIn (fr.heap_1 w.params) (.ref 59) (.type "object") = some true := by rfl
theorem tf_setattr (w : World) : findIn (fr.heap_1 w.params) (.ref 59) "__setattr__" = some (some (.builtin "object.__setattr__")) := by rfl
theorem check_initE {M : Model} {A : Around} {E : Value → Shared → Prop} {h : Heap} {g : Array GenState} {d : Drawn} {t : Nat} {os : OsState} {nm q : Str} {C N : Addr} {bs bm : List Value} {hdct : Bool} {sn : List Str} {sub : List Value} {ab : Bool} {col : Option Bool} {dd : Option Addr} {k0 k1 k2 k3 k5 : Option Value} {newId : String} {e : Addr} {oe : Obj} {rest : List Value} {Q : Unit → Shared → Prop}
    (hcB : (Value.ref C :: bm).contains (.type "Exception") = true)
    (hC : h.get? C = some (excClassObj nm q C N bs bm hdct sn sub ab col dd k0 k1 k2 k3 k5 newId)) (he : h.get? e = some oe) (hcls : oe.cls = .ref C) (hq : Q () ⟨h, g, d, t, os⟩) :
    wpAny M A (checkBuiltinCall "Exception.__init__" ⟨.ref e :: rest, []⟩) Q E ⟨h, g, d, t, os⟩ := by
  have hshort := PySem.F.excBase_Exception.noStar
  simp only [checkBuiltinCall, PySem.F.excBase_Exception.initKind, PySem.F.excBase_Exception.initSplit, PySem.F.excBase_Exception.initRow]
  repeat (first | (with_reducible refine wpAny_loadPart_at he ?_; rw [hcls]) | with_reducible refine wpAny_loadPart_at hC ?_ | (with_reducible refine wpAny_isSubtype_exc hC ?_; rw [hcB]) | wp_step)
  refine wpAny_onRaise ?_
  rw [show ∀ (a b : String) (n : Nat), Bind.check ⟨.positional, "*", "Exception", .self, [⟨"args", .varPos, false⟩]⟩ a b n (List.map (fun x => x.fst) ({ pos := Value.ref e :: rest } : Args).kw) = pure () from
    fun a b n => check_star_args _ _ _ _ _ _]
  exact wpAny_pure hq
section
variable {w : World} {A : Around} {E : Value → Shared → Prop} {s : Shared} {h₀ : Heap} {L : Addr} {m : Str → Option Value} {news : List (Addr × Obj)}
/-- Exception.__init__(self, what): a new args tuple -/
theorem exc_init {e t : Addr} {dd : Option Addr} {v : Value} {g : Obj → List (Addr × Obj)} {Q : Value → Shared → Prop} (F : Fr h₀ L s.heap m) (N : News h₀ L s.heap news) (X : (fr.heap_1 w.params).In s.heap) (U : UpdF e (excObj 59 t dd) news g)
    (h : ∀ t' h', Fr h₀ L h' m → News h₀ L h' ((t', argsObj [v]) :: g (excObj 59 t' dd)) → (∀ p ∈ news, p.1 < t') → Q .none { s with heap := h' }) :
    wpAny (model PySem.Challenge.rw_og0169_01.row.prog w) A (call (.builtin "Exception.__init__") [.ref e, v]) Q E s := by
  obtain ⟨pre, post, rfl, hg, a, b⟩ := U.split
  obtain ⟨hp, gs, d, tk, os⟩ := s
  have hx := (N (e, excObj 59 t dd) (by simp)).1
  have t1 : Looks (model PySem.Challenge.rw_og0169_01.row.prog w) hp (typeOf (.ref e)) (.ref 59) := (Looks.ld hx).andThen .now
  have i1 : Looks (model PySem.Challenge.rw_og0169_01.row.prog w) hp (isInstance (.ref e) (.type "Exception")) true := t1.andThen (looks_subIn X (tf_subE w))
  obtain ⟨nm, q, bs, hdct, sn, sub, ab, col, dd', k0, k1, k2, k3, k5, ho⟩ := tf_obj w
  refine wpAny_call (codeAny_call_builtin ei_plain ei_entry (check_initE (by decide +kernel) (X _ _ ho) hx rfl ?_))
  have N1 := N.push F (argsObj [v])
  have F1 := F.push (argsObj [v])
  have ne : ∀ p ∈ (hp.objs.size, argsObj [v]) :: pre, p.1 ≠ e := fun p hq => by
    rcases List.mem_cons.mp hq with rfl | hq
    · exact Nat.ne_of_gt (Heap.lt_size hx)
    · exact a p hq
  obtain ⟨U1, U2⟩ := news_upd (f := Obj.mapFields (·.setIfInBounds 0 (.ref hp.objs.size))) (o' := excObj 59 hp.objs.size dd) F1 N1 ne b rfl rfl
  have hx1 : (hp.push (argsObj [v])).get? e = some (excObj 59 t dd) := Heap.get?_push_of_some _ hx
  have z := h hp.objs.size _ U1 (by rw [hg]; exact U2) (fun p hq => Heap.lt_size (N p hq).1)
  unfold Builtin.«BaseException.__init__» Builtin.BaseException.bexcPut
  show wpAny _ _ (newTuple [v] >>= fun t' => (field (.ref e) 0 >>= fun old => setField (.ref e) 0 t' >>= fun _ => match old with | .ref _ => letGo [old] [] | _ => pure ()) >>= fun _ => ret .none) _ _ _
  refine wpAny_bind (wpAny_newTuple ?_ (by rw [sizeLine_eq]; simp))
  refine wpAny_bind (wpAny_bind (wpAny_field hx1 rfl rfl (wpAny_bind (wpAny_setField hx1 rfl (by simp) ?_))))
  refine wpAny_letGo ?_
  exact wpAny_pure z
/-- a store on the exception: its own dict -/
theorem osa_openE {ox : Obj} {x : Addr} {od : Option Obj} {name : Str} {tk : Tok} {v : Value} {R : Result → Shared → Prop} (X : (fr.heap_1 w.params).In s.heap) (I : InstAt s.heap x ox 59 od) (ha : findIn (fr.heap_1 w.params) (.ref 59) name = some none)
    (h : wpAny (model PySem.Challenge.rw_og0169_01.row.prog w) A.in1 (Builtin.ObjectAttr.storeInOwnDict (.ref x) (.ref 59) (.str name tk) name v false)
      (fun fin s' => match fin with | .done f => R (.ok f) s' | .again c' => c'.quiet = true ∧ codeAny (model PySem.Challenge.rw_og0169_01.row.prog w) A c' R s') (fun e s' => R (.error e) s') s) :
    codeAny (model PySem.Challenge.rw_og0169_01.row.prog w) A (.call (.builtin "object.__setattr__") ⟨[.ref x, .str name tk, v], []⟩) R s := by
  have SF := PySem.F.store_object
  obtain ⟨nm, q, bs, hdct, sn, sub, ab, col, dd, k0, k1, k2, k3, k5, ho⟩ := tf_obj w
  have sub : Looks (model PySem.Challenge.rw_og0169_01.row.prog w) s.heap (isInstance (.ref x) (.type "object")) true := I.type.andThen (looks_subIn X (tf_subO w))
  refine codeAny_call_builtin SF.slot.plain SF.entry (@check_slot (model PySem.Challenge.rw_og0169_01.row.prog w) _ _ s "object.__setattr__" "object" "__setattr__" (.ref x) [.str name tk, v] [] _ SF.kind SF.split sub (SF.args (.ref x) (.str name tk) v) ?_)
  have hm : Looks (model PySem.Challenge.rw_og0169_01.row.prog w) s.heap (mroOf (.ref 59)) [.ref 59, .ref 46, .type "Exception", .type "BaseException", .type "object"] := ((Looks.ld (part := none) (X _ _ ho)).andThen .now).andThen .now
  rw [osa_eq, refuse_eq]
  refine wpAny_bind (wpAny_bind (I.type.here (wpAny_bind (hm.here ?_))))
  rw [refuseLoop_ref, refuseLoop_ref, PySem.F.store_Exception.passes]
  exact wpAny_pure (wpAny_bind (I.type.here (wpAny_bind ((looks_findIn X ha).here (wpAny_bind (wpAny_pure h))))))
/-- the store into the dict, which stands -/
theorem store_in {d : Addr} {name : Str} {tk : Tok} {v : Value} {es es' : List DictEntry} {n n' : Nat} {Q : Fin → Shared → Prop} (D : s.heap.get? d = some (dictOf es n)) (hl : (getL name es).isSome = true)
    (e : (putL name (PyData.keyHash w.params name) (.str name s.toks) v es, putN name es n) = (es', n')) (hz : es'.length ≤ 1000)
    (h : (s.heap.update d (Obj.putName name (PyData.keyHash w.params name) (.str name s.toks) v)).get? d = some (dictOf es' n') → Q (.done (.ret .none)) { s with heap := s.heap.update d (Obj.putName name (PyData.keyHash w.params name) (.str name s.toks) v), toks := s.toks + 1 }) :
    wpAny (model PySem.Challenge.rw_og0169_01.row.prog w) A (Builtin.ObjectAttr.storeInDict d (.str name tk) name v) Q E s := by
  obtain ⟨e1, e2⟩ := Prod.mk.inj e
  have D' : (s.heap.update d (Obj.putName name (PyData.keyHash w.params name) (.str name s.toks) v)).get? d = some (dictOf es' n') := by
    rw [Heap.get?_update_self _ D (by rw [putName_dict]; rfl), putName_dict, e1, e2]
  unfold Builtin.ObjectAttr.storeInDict Builtin.ObjectAttr.newKeyGuard nsSet
  refine wpAny_bind (wpAny_pure (wpAny_bind (wpAny_bind (wpAny_bind (wpAny_askSetting (wpAny_pure (wpAny_bind (wpAny_mkText (wpAny_bind (wpAny_loadPart D ?_))))))))))
  have hl' : (lookIn name (dictOf es n)).isSome = true := hl
  unfold lookIn at hl'
  dsimp only at hl' ⊢
  have c : (!es.toArray.any (·.key.isStr name) && es.toArray.any (·.refKey)) = false := by
    rw [← Array.any_toList, ← Array.any_toList]
    split at hl'
    · rename_i en he
      rw [List.any_eq_true.mpr ⟨en, List.mem_of_find?_eq_some he, List.find?_some he⟩]; rfl
    · split at hl'
      · cases hl'
      · rename_i z; rw [Bool.not_eq_true] at z; rw [z, Bool.and_false]
  rw [aRefKeyMayBeTheName_at, c]
  refine wpAny_updatePart D ?_
  refine wpAny_bind (wpAny_lookBehind D' (pastItsLine_dict (by rw [List.size_toArray, sizeLine_eq]; omega)) ?_)
  exact wpAny_pure (h D')
theorem tf_dict (w : World) : (clsIn (fr.heap_1 w.params) 59).any (·.hasDict) = true := by rfl
/-- the first store -/
theorem set_exc1 {e t : Addr} {name : Str} {v : Value} {g : Obj → List (Addr × Obj)} {Q : Unit → Shared → Prop} (F : Fr h₀ L s.heap m) (N : News h₀ L s.heap news) (X : (fr.heap_1 w.params).In s.heap) (U : UpdF e (excObj 59 t none) news g)
    (ha : findIn (fr.heap_1 w.params) (.ref 59) name = some none)
    (h : ∀ d h', Fr h₀ L h' m → News h₀ L h' ((d, dictOf [⟨PyData.keyHash w.params name, .str name (s.toks + 1), v⟩] 1) :: g (excObj 59 t (some d))) → (∀ p ∈ news, p.1 < d) → Q () { s with heap := h', toks := s.toks + 2 }) :
    wpAny (model PySem.Challenge.rw_og0169_01.row.prog w) A (setAttr (.ref e) name v) Q E s := by
  obtain ⟨pre, post, rfl, hg, a, b⟩ := U.split
  obtain ⟨hp, gs, dr, tk, os⟩ := s
  have hx := (N (e, excObj 59 t none) (by simp)).1
  have I : InstAt hp e (excObj 59 t none) 59 none := ⟨hx, rfl, rfl, trivial⟩
  refine set_plain (s := ⟨hp, gs, dr, tk, os⟩) X I (tf_setattr w) (osa_openE (s := ⟨hp, gs, dr, tk + 1, os⟩) X I ha ?_)
  obtain ⟨cd, hc, hd'⟩ := any_some (tf_dict w)
  refine wpAny_bind (wpAny_pure (wpAny_bind (wpAny_bind (wpAny_loadPart hx (wpAny_bind (Looks.here (s := ⟨hp, gs, dr, tk + 1, os⟩) (looks_clsIn X hc) ?_))))))
  rw [hd']
  have N1 := N.push F emptyDict
  have F1 := F.push emptyDict
  have hx1 : (hp.push emptyDict).get? e = some (excObj 59 t none) := Heap.get?_push_of_some _ hx
  have ne : ∀ p ∈ (hp.objs.size, emptyDict) :: pre, p.1 ≠ e := fun p hq => by
    rcases List.mem_cons.mp hq with rfl | hq
    · exact Nat.ne_of_gt (Heap.lt_size hx)
    · exact a p hq
  obtain ⟨F2, N2⟩ := news_upd (f := fun o => { o with dict := some hp.objs.size }) (o' := excObj 59 t (some hp.objs.size)) F1 N1 ne b rfl rfl
  have nd : ∀ p ∈ pre ++ (e, excObj 59 t (some hp.objs.size)) :: post, p.1 ≠ hp.objs.size := fun p hq => by
    rcases List.mem_append.mp hq with hq | hq
    · exact Nat.ne_of_lt (Heap.lt_size (N p (List.mem_append.mpr (.inl hq))).1)
    · rcases List.mem_cons.mp hq with rfl | hq
      · exact Nat.ne_of_lt (Heap.lt_size hx)
      · exact Nat.ne_of_lt (Heap.lt_size (N p (List.mem_append.mpr (.inr (.tail _ hq)))).1)
  have D := (N2 (hp.objs.size, emptyDict) (.head _)).1
  obtain ⟨F3, N3⟩ := news_upd (pre := []) (f := Obj.putName name (PyData.keyHash w.params name) (.str name (tk + 1)) v) (o' := dictOf [⟨PyData.keyHash w.params name, .str name (tk + 1), v⟩] 1) F2 N2 (fun _ h => nomatch h) nd (by exact putName_dict name _ _ v [] 0) rfl
  show wpAny _ _ (alloc emptyDict >>= fun d => update e (fun o => { o with dict := some d }) >>= fun _ => pure (some d)) _ _ _
  refine wpAny_bind (wpAny_alloc' (wpAny_bind (wpAny_update' hx1 (wpAny_pure ?_))))
  refine store_in (s := ⟨(hp.push emptyDict).update e (fun o => { o with dict := some hp.objs.size }), gs, dr, tk + 1, os⟩) (es := []) (n := 0) D rfl rfl (by simp [putL]) fun D' => ?_
  exact h _ _ F3 (by rw [hg]; exact N3) (fun p hq => Heap.lt_size (N p hq).1)
/-- the stores behind -/
theorem set_exc2 {e t d : Addr} {name : Str} {v : Value} {es es' : List DictEntry} {n n' : Nat} {news' : List (Addr × Obj)} {Q : Unit → Shared → Prop} (F : Fr h₀ L s.heap m) (N : News h₀ L s.heap news) (X : (fr.heap_1 w.params).In s.heap) (he : (e, excObj 59 t (some d)) ∈ news) (_hD : (d, dictOf es n) ∈ news)
    (ha : findIn (fr.heap_1 w.params) (.ref 59) name = some none) (hl : (getL name es).isSome = true)
    (q : (putL name (PyData.keyHash w.params name) (.str name (s.toks + 1)) v es, putN name es n) = (es', n')) (hz : es'.length ≤ 1000) (U : Upd d (dictOf es n) (dictOf es' n') news news')
    (h : ∀ h', Fr h₀ L h' m → News h₀ L h' news' → Q () { s with heap := h', toks := s.toks + 2 }) :
    wpAny (model PySem.Challenge.rw_og0169_01.row.prog w) A (setAttr (.ref e) name v) Q E s := by
  obtain ⟨pre, post, rfl, rfl, a, b⟩ := U.split
  obtain ⟨e1, e2⟩ := Prod.mk.inj q
  obtain ⟨hp, gs, dr, tk, os⟩ := s
  have hx := (N _ he).1
  have D := (N (d, dictOf es n) (by simp)).1
  have I : InstAt hp e (excObj 59 t (some d)) 59 (some (dictOf es n)) := ⟨hx, rfl, rfl, D⟩
  refine set_plain (s := ⟨hp, gs, dr, tk, os⟩) X I (tf_setattr w) (osa_openE (s := ⟨hp, gs, dr, tk + 1, os⟩) X I ha ?_)
  obtain ⟨cd, hc, hd'⟩ := any_some (tf_dict w)
  refine wpAny_bind (wpAny_pure (wpAny_bind (wpAny_bind (wpAny_loadPart hx (wpAny_bind (Looks.here (s := ⟨hp, gs, dr, tk + 1, os⟩) (looks_clsIn X hc) ?_))))))
  rw [hd']
  refine wpAny_pure (a := some d) ?_
  obtain ⟨F3, N3⟩ := news_upd (f := Obj.putName name (PyData.keyHash w.params name) (.str name (tk + 1)) v) (o' := dictOf es' n') F N a b (by rw [putName_dict, e1, e2]) rfl
  refine store_in (s := ⟨hp, gs, dr, tk + 1, os⟩) D hl q hz fun D' => ?_
  exact h _ F3 N3
end
end
section
local macro_rules | `(tactic| walk_at "an idle line 0") => `(tactic| fail "idle")
theorem walk_plain_ExcD : True := by
  w_top off
  trivial
/-- the contract of a call that raises TreeFault -/
def SpecE (w : World) (f : Addr) (sz : Nat) (args : List Value) (pre : List (Addr × Obj)) : Prop :=
  ∀ (dp un : Nat) (gd : Option (List Code)) (cn : Str) (cs : Scope) (a : Addr) (ccd : Value) (cl : List (Str × Addr)) (outer : List Env) (A₀ : Around) (base h₀ : Heap) (L : Addr) (m : Str → Option Value) (s : Shared)
    (loose : List Str) (mean : ExcName → Option Value) (mg mb : Str → Option Value) (Q E : Value → Shared → Prop),
    Below A₀ base outer h₀ → Fr h₀ L s.heap m → (fr.heap_1 w.params).In h₀ → News h₀ L s.heap pre → Top lawView loose mean mg mb h₀ → cs.kind = .function → dp + sz < recursionLimit → un + 8 * sz < cLine →
    (∀ e t vs g h' tk', Fr h₀ L g m → g.UpToSlots h' → RaisedS base g (envX cn cs L a ccd cl :: outer) e (.ref 59) t vs pre h' → E (.ref e) { s with heap := h', toks := tk' }) →
    wpAny (model PySem.Challenge.rw_og0169_01.row.prog w) (ktrTop dp un gd cn cs L a ccd cl outer) (call (.ref f) args) Q E s
theorem spec_useE {w : World} {f : Addr} {sz : Nat} {args : List Value} {pre : List (Addr × Obj)}
    {dp un : Nat} {gd : Option (List Code)} {cn : Str} {cs : Scope} {a : Addr} {ccd : Value} {cl : List (Str × Addr)} {outer : List Env} {A₀ : Around} {base h₀ : Heap} {L : Addr} {m : Str → Option Value} {s : Shared}
    {loose : List Str} {mean : ExcName → Option Value} {mg mb : Str → Option Value} {Q E : Value → Shared → Prop}
    (B : Below A₀ base outer h₀) (F : Fr h₀ L s.heap m) (X : (fr.heap_1 w.params).In h₀) (N : News h₀ L s.heap pre) (T : Top lawView loose mean mg mb h₀) (hk : cs.kind = .function)
    (C : SpecE w f sz args pre) (hd' : dp + sz < recursionLimit) (hu : un + 8 * sz < cLine)
    (ret : ∀ e t vs g h' tk', Fr h₀ L g m → g.UpToSlots h' → RaisedS base g (envX cn cs L a ccd cl :: outer) e (.ref 59) t vs pre h' → E (.ref e) { s with heap := h', toks := tk' }) :
    wpAny (model PySem.Challenge.rw_og0169_01.row.prog w) (ktrTop dp un gd cn cs L a ccd cl outer) (call (.ref f) args) Q E s := C _ _ _ _ _ _ _ _ _ _ _ _ _ _ _ _ _ _ _ _ _ B F X N T hk hd' hu ret
theorem raised_sub {base G h : Heap} {l : List Env} {e t : Addr} {cls : Value} {vs : List Value} {news news' : List (Addr × Obj)} (R : RaisedS base G l e cls t vs news h) (hs : ∀ p ∈ news', p ∈ news) : RaisedS base G l e cls t vs news' h := by
  obtain ⟨⟨B, a, b, c, d⟩, x⟩ := R
  exact ⟨⟨B, a, b, fun q hq => c q (hs q hq), d⟩, x⟩
theorem SpecE.bigger {w : World} {f : Addr} {sz sz' : Nat} {args : List Value} {pre : List (Addr × Obj)} (C : SpecE w f sz args pre) (h : sz ≤ sz') : SpecE w f sz' args pre :=
  fun _ _ _ _ _ _ _ _ _ _ _ _ _ _ _ _ _ _ _ _ _ B F X N T hk hd' hu ret => C _ _ _ _ _ _ _ _ _ _ _ _ _ _ _ _ _ _ _ _ _ B F X N T hk (by omega) (by omega) ret
/-- what stays of the ledger -/
def Keep (_ : List (Addr × Obj)) : Prop := True
theorem leave_tf' {M : Model} {A : Around} {E : Value → Shared → Prop} {s' : Shared} {base g : Heap} {outer : List Env} {L a e t C : Addr} {m : Str → Option Value} {name : Str} {scope : Scope} {cd : Value} {Q : Unit → Shared → Prop} {news all : List (Addr × Obj)} {vs : List Value} {dd : Option Addr} (_k : Keep news)
    (K : Below A base outer g) (F : Fr g L s'.heap m) (N : News g L s'.heap all) (he : (e, excObj C t dd) ∈ all) (ht : (t, argsObj vs) ∈ all) (hs : ∀ p ∈ news, p ∈ all) (hne : ∀ p ∈ news, p.1 ≠ e) (hnt : ∀ p ∈ news, p.1 ≠ t)
    (hQ : ∀ h', RaisedS base g outer e (.ref C) t vs news h' → RaisedK base outer e (.ref C) t vs news h' → g.UpToSlots h' → Q () { s' with heap := h' }) (hk : scope.kind = .function := by rfl) :
    wpAny M (A.deeper (envOf name scope L a cd)) (leaving (envOf name scope L a cd) (.ref e)) Q E s' := leave_tf K F N he ht hs hne hnt hQ hk
theorem leave_on2 {M : Model} {A : Around} {E : Value → Shared → Prop} {s' : Shared} {base g g₂ : Heap} {outer : List Env} {L a e t : Addr} {m : Str → Option Value} {name : Str} {scope : Scope} {cd : Value} {Q : Unit → Shared → Prop} {news : List (Addr × Obj)} {cls : Value} {vs : List Value}
    (R : RaisedS base g₂ (envOf name scope L a cd :: outer) e cls t vs news s'.heap) (F : Fr g L g₂ m) (K : Below A base outer g) (hsm : g₂.UpToSlots s'.heap)
    (hQ : ∀ h', RaisedS base g outer e cls t vs news h' → RaisedK base outer e cls t vs news h' → g.UpToSlots h' → Q () { s' with heap := h' }) :
    wpAny M (A.deeper (envOf name scope L a cd)) (leaving (envOf name scope L a cd) (.ref e)) Q E s' := leave_onS K F R hsm hQ
/-- a place, told whole -/
inductive PlaceG (news : List (Addr × Obj)) (v : Value) (i : Int) : Prop
  | mk (a) (ti) (tj) (m) (h0 : v = .ref a) (h1 : (a, tupOf #[.int i ti, .int 0 tj] m) ∈ news) : PlaceG news v i
theorem PlaceG.mono {news news' : List (Addr × Obj)} {v : Value} {i : Int} (h : PlaceG news v i) (hs : ∀ p ∈ news, p ∈ news') : PlaceG news' v i := by
  obtain ⟨a, ti, tj, m, e, x⟩ := h
  exact ⟨a, ti, tj, m, e, hs _ x⟩
theorem PlaceG.is {news : List (Addr × Obj)} {v : Value} {i : Int} (h : PlaceG news v i) : PlaceIs news v i := by
  obtain ⟨a, ti, tj, m, e, x⟩ := h
  exact ⟨a, ti, 0, tj, m, e, x⟩
inductive LongPostG (ps : List Value) (i : Int) (r : Value) (tl : List (Addr × Obj)) : Prop
  | mk (t) (p) (n) (h0 : r = .ref t) (h1 : (t, tupOf (ps ++ [p]).toArray n) ∈ tl) (h2 : PlaceG tl p i) : LongPostG ps i r tl
theorem ret_longG {h₀ : Heap} {L : Addr} {m : Str → Option Value} {s : Shared} {Q : Value → Shared → Prop} {pre : List (Addr × Obj)} {ps : List Value} {i : Int} (k : ∀ t p n tl h' tk', Fr h₀ L h' m → News h₀ L h' (pre ++ tl) → Up pre tl → (t, tupOf (ps ++ [p]).toArray n) ∈ tl → PlaceG tl p i → (t, tupOf (ps ++ [p]).toArray n) ∈ pre ++ tl → PlaceG (pre ++ tl) p i → Q (.ref t) { s with heap := h', toks := tk' }) :
    ∀ r n' h' tk', Fr h₀ L h' m → News h₀ L h' n' → Made pre (LongPostG ps i) r n' → Q r { s with heap := h', toks := tk' } := by
  rintro r n' h' tk' F N ⟨tl, rfl, U, t, p, n, rfl, a1, a2⟩
  exact k t p n tl h' tk' F N U a1 a2 (mem_inr' a1) (a2.mono (sub_r _ _))
def WayIs (news : List (Addr × Obj)) (l : List Int) (ps : List Value) : Prop := All2 (PlaceG news) ps l
theorem WayIs.mono {news news' : List (Addr × Obj)} {l : List Int} {ps : List Value} (h : WayIs news l ps) (hs : ∀ p ∈ news, p ∈ news') : WayIs news' l ps := All2.imp (fun _ _ x => x.mono hs) h
section
local macro_rules | `(tactic| k_all) => `(tactic| ((fail_if_success (refine' List.forall_mem_cons.mpr ⟨?_, ?_⟩)); exact ne_ord (by ktn_ord)))
section
local macro_rules | `(tactic| ktn_ord) => `(tactic| exact above_tr (by assumption) (above_of (by assumption) (by ktd_sub)))
local macro_rules | `(tactic| kit_dict) => `(tactic| (refine' kitAt_N ?N ?m ?c; (case N => k_asm); (case m => k_mem); (case c => first | assumption | exact rfl)))
set_option maxRecDepth 100000 in
set_option maxHeartbeats 8000000 in
theorem node_raise (w : World) (S dS R Tb : Addr) (k1 k2 : Tok) (n : Nat) (v u : Value) (news : List (Addr × Obj)) (hS : (S, instObj 363 dS) ∈ news) (hd : (dS, dictOf (shelfD w k1 k2 Tb R) n) ∈ news)
   (C : Spec w 299 1 [.ref S, v] news (fun r n' => r = u ∧ n' = news)) (hn : IsNot w news u (.type "dict")) : SpecE w 372 4 [.ref S, v] news := by
  have hkp : Keep news := trivial
  unfold SpecE
  k_fill
  intro dp un gd cn cs a ccd cl outer A₀ base h₀ L m s loose mean mg mb Q E B F X N T hk hd hu hret
  refine wpAny_call ?_
  k_dflt (refine' code_def ?k1 ?k2 ?k3 ?k4 ?k5 ?kA ?kF ?kK ?k6 ?k7 ?k8 ?k9 ?kB ?_ ?c2 ?c3 ?c4 ?c5; (case kA => exact rfl); (case kF => exact rfl); (case kK => assumption); (case k1 => k_asm); (case k2 => k_asm); (case k3 => k_asm); (case k4 => k_asm); (case k5 => k_asm); (case k6 => k_is); (case k7 => k_is); (case k8 => ktr_room); (case k9 => first | exact binds_K (by k_in) rfl (by k_is) rfl rfl rfl | exact BindsTo.of_eq rfl); (case c5 => decide); (case kB => exact locs rfl); (case c2 => exact rfl); (case c3 => exact rfl); (case c4 => exact rfl); k_whole)
  intro g1 L1 h1 FG1 F1 N1 B1 X1 T1
  (try dsimp only)
  (try k_fold)
  repeat' (first | (k_unfold; (try dsimp only)) | ((with_reducible show wpAny _ _ (call (Value.builtin "isinstance") _) _ _ _); first | with_reducible (k_here; k_dflt (refine' IsNot.use (by k_in) (by k_asm) (by assumption) (by ktd_sub) ?_); intro tk9)) | ((with_reducible show wpAny _ _ (call (Value.ref _) _) _ _ _); first | with_reducible (k_here; (with_reducible show wpAny _ _ (call (Value.ref 299) _) _ _ _); k_dflt ( refine' spec_use (f := 299) (by k_asm) (by k_asm) (by k_asm) (by k_asm) (by k_asm) (by first | exact rfl | assumption) (by assumption) (by ktr_room) (by ktr_units) (ret_same ?_); (intro h9 tk9 F9 N9; (try k_sweep); (try dsimp only); (try k_fold)))) | with_reducible (k_here; (with_reducible show wpAny _ _ (call (Value.ref 59) _) _ _ _); k_dflt (refine' call_tf (by k_asm) (by k_asm) (by k_in) (by exact Nat.le_of_ble_eq_true rfl) ?_); intro x' d' h' F' N' l1 l2; (try k_lt l1); (try k_lt2 l2); (try k_sweep); k_enter) | (k_here; (with_reducible show wpAny _ _ (call (Value.ref 59) _) _ _ _); k_dflt (refine' call_tf (by k_asm) (by k_asm) (by k_in) (by exact Nat.le_of_ble_eq_true rfl) ?_); intro x' d' h' F' N' l1 l2; (try k_lt l1); (try k_lt2 l2); (try k_sweep); k_enter)) | ((with_reducible show wpAny _ _ (setAttr (Value.ref _) _ _) _ _ _); first | with_reducible (k_here; k_dflt (first | (refine' set_exc1 (by k_asm) (by k_asm) (by k_in) (by k_updF) (by k_is) ?_; intro d' h' F' N' l1; (try k_lt l1); (try dsimp only at N')) | (refine' set_exc2 (by k_asm) (by k_asm) (by k_in) (by k_mem) (by k_mem) (by k_is) (by k_get) (by k_put) (by exact Nat.le_of_ble_eq_true rfl) (by k_upd) ?_; intro h' F' N'))) | (k_here; k_dflt (first | (refine' set_exc1 (by k_asm) (by k_asm) (by k_in) (by k_updF) (by k_is) ?_; intro d' h' F' N' l1; (try k_lt l1); (try dsimp only at N')) | (refine' set_exc2 (by k_asm) (by k_asm) (by k_in) (by k_mem) (by k_mem) (by k_is) (by k_get) (by k_put) (by exact Nat.le_of_ble_eq_true rfl) (by k_upd) ?_; intro h' F' N')))) | ((with_reducible show wpAny _ _ (call (Value.builtin "Exception.__init__") _) _ _ _); first | with_reducible (k_here; k_dflt (refine' exc_init (by k_asm) (by k_asm) (by k_in) (by k_updF) ?_); intro t' h' F' N' l1; (try k_lt l1); (try dsimp only at N')) | (k_here; k_dflt (refine' exc_init (by k_asm) (by k_asm) (by k_in) (by k_updF) ?_); intro t' h' F' N' l1; (try k_lt l1); (try dsimp only at N'))) | ((with_reducible show wpAny _ _ (getMethod (Value.type "Exception") _ _) _ _ _); first | with_reducible (k_here; refine' method_type (by k_asm) (by k_asm) meta_exc (by decide +kernel) (exc_find _) (by k_handed) ?_) | (k_here; refine' method_type (by k_asm) (by k_asm) meta_exc (by decide +kernel) (exc_find _) (by k_handed) ?_)) | ((with_reducible show RaiseT _ _ _ _ _ _ _); first | with_reducible (k_here; refine RaiseT.intro (by k_in) (by k_asm) (by k_asm) (by k_mem) ?_) | (k_here; refine RaiseT.intro (by k_in) (by k_asm) (by k_asm) (by k_mem) ?_)) | ((with_reducible show wpAny _ _ (exec (Stmt.Raise _ _ _) _) _ _ _); first | with_reducible (k_here; k_dflt (refine' raise_tf (by k_asm) (by exact rfl) ?_)) | (k_here; k_dflt (refine' raise_tf (by k_asm) (by exact rfl) ?_))) | ((with_reducible show wpAny _ _ (leaving _ (Value.ref _)) _ _ _); first | with_reducible (k_here; first | (k_dflt (refine' leave_on2 (by assumption) (by assumption) (by assumption) (by assumption) ?_; k_whole); intro h' S' R' U'; (try dsimp only at S' R' U' ⊢); refine Stop.out ?_) | (k_dflt (refine' leave_tf' (by assumption) (by k_asm) (by k_asm) (by k_asm) (by k_mem) (by k_mem) (by ktd_sub) (by exact ne_ord (by ktn_ord)) (by exact ne_ord (by ktn_ord)) ?_; k_whole); intro h' S' R' U'; (try dsimp only at S' R' U' ⊢); refine Stop.out ?_)) | (k_here; first | (k_dflt (refine' leave_on2 (by assumption) (by assumption) (by assumption) (by assumption) ?_; k_whole); intro h' S' R' U'; (try dsimp only at S' R' U' ⊢); refine Stop.out ?_) | (k_dflt (refine' leave_tf' (by assumption) (by k_asm) (by k_asm) (by k_asm) (by k_mem) (by k_mem) (by ktd_sub) (by exact ne_ord (by ktn_ord)) (by exact ne_ord (by ktn_ord)) ?_; k_whole); intro h' S' R' U'; (try dsimp only at S' R' U' ⊢); refine Stop.out ?_))) | ((with_reducible show wpAny _ _ (execs (Stmt.Assign _ _ _ :: _ :: _) _) _ _ _); first | with_reducible (k_here; (with_reducible refine wpAny_execs_cons ?_); try dsimp only)) | ((with_reducible show RangeRest _ _ _ _ _ _ _ _ _ _ _ _ _ _ _ _ _); first | with_reducible (k_here; first | ((with_reducible refine RangeRest.succ ?_); intro t' h' tk' F' N') | ((with_reducible refine RangeRest.zero ?_); intro h' tk' F' N'))) | (k_end; kc_close) | walk1 | (dsimp only; walk1) | (leave1; (try dsimp only)))
  all_goals (unfold Stop; exact hret _ _ _ _ _ _ (by assumption) (by assumption) (raised_sub (by assumption) (by ktd_sub)))
end
theorem node_raise7 (w : World) (S Tb dS R x dx : Addr) (k1 k2 k3 k4 k5 k6 : Tok) (n n2 : Nat) (oT : Obj) (tab : List Value) (news : List (Addr × Obj)) (lT : (Tb == sysModules) = false) (hT : TabIs w oT tab) (hTb : (Tb, oT) ∈ news) (hl : tab.length < 7)
   (hS : (S, instObj 363 dS) ∈ news) (hd : (dS, dictOf (shelfD w k1 k2 Tb R) n) ∈ news) (hx : (x, instObj 254 dx) ∈ news) (hdx : (dx, dictOf (refD w k3 k4 (.int 7 k5) (.int 0 k6)) n2) ∈ news) :
   SpecE w 372 4 [.ref S, .ref x] news :=
  node_raise w S dS R Tb k1 k2 n _ .none news hS hd (Spec.dup hTb (fetch_any w S Tb dS R k1 k2 n oT tab _ _ news lT hT hS hd ⟨0, _, by decide, rfl, .inr ⟨rfl, x, dx, 7, _, _, _, _, _, rfl, hx, hdx, by omega⟩⟩)) (PlainV.isNot (.inl rfl)).2
theorem node_raise_v (w : World) (S Tb dS R x dx t : Addr) (k1 k2 k3 k4 k5 k6 tk : Tok) (n n2 n3 : Nat) (k : Int) (oT : Obj) (tab : List Value) (val : Value) (news : List (Addr × Obj)) (lT : (Tb == sysModules) = false) (hT : TabIs w oT tab) (hTb : (Tb, oT) ∈ news)
   (hS : (S, instObj 363 dS) ∈ news) (hd : (dS, dictOf (shelfD w k1 k2 Tb R) n) ∈ news) (hx : (x, instObj 254 dx) ∈ news) (hdx : (dx, dictOf (refD w k3 k4 (.int k k5) (.int 0 k6)) n2) ∈ news) (hk1 : 1 ≤ k) (ht : tab[(k - 1).toNat]? = some (.ref t)) (hrow : (t, tupOf #[.int 0 tk, val] n3) ∈ news) (hval : PlainV val) :
   SpecE w 372 4 [.ref S, .ref x] news :=
  node_raise w S dS R Tb k1 k2 n _ val news hS hd (Spec.dup hTb (fetch_any w S Tb dS R k1 k2 n oT tab _ _ news lT hT hS hd ⟨1, val, by decide, ⟨val, ⟨x, dx, t, k, _, _, _, _, _, _, _, rfl, hx, hdx, hk1, ht, hrow⟩, rfl⟩, .inl ⟨rfl, hval.isNot.1⟩⟩)) hval.isNot.2
end
end
section
theorem walk_plain_ExcE : True := by
  w_top off
  trivial
def NodeE (w : World) (news0 : List (Addr × Obj)) (S : Addr) (v : Value) : Prop := ∀ news, (∀ p ∈ news0, p ∈ news) → SpecE w 372 4 [.ref S, v] news
theorem NodeE.use {w : World} {news0 : List (Addr × Obj)} {S : Addr} {v : Value} {news : List (Addr × Obj)} (h : NodeE w news0 S v) (hs : ∀ p ∈ news0, p ∈ news) : SpecE w 372 4 [.ref S, v] news := h news hs
def GathE (w : World) (news0 : List (Addr × Obj)) (S : Addr) (sz : Nat) (v : Value) (l : List Int) : Prop := ∀ news way ps k, (∀ p ∈ news0, p ∈ news) → (way, tupOf ps.toArray k) ∈ news → WayIs news l ps → SpecE w 400 sz [.ref S, v, .ref way] news
theorem GathE.use {w : World} {news0 : List (Addr × Obj)} {S : Addr} {sz : Nat} {v : Value} {l : List Int} {news : List (Addr × Obj)} {way : Addr} {ps : List Value} {k : Nat} (h : GathE w news0 S sz v l) (hs : ∀ p ∈ news0, p ∈ news) (hm : (way, tupOf ps.toArray k) ∈ news) (hp : WayIs news l ps) : SpecE w 400 sz [.ref S, v, .ref way] news := h news way ps k hs hm hp
theorem WayIs.snoc {news news' : List (Addr × Obj)} {l : List Int} {ps : List Value} {v : Value} {i : Int} (h : WayIs news l ps) (hp : PlaceG news' v i) (hs : ∀ p ∈ news, p ∈ news') : WayIs news' (l ++ [i]) (ps ++ [v]) := All2.snoc hp (h.mono hs)
/-- the place that is in the way already -/
theorem in_way3 {prog : Program} {w : World} {A : Around} {E : Value → Shared → Prop} {s : Shared} {h₀ : Heap} {L : Addr} {news0 news : List (Addr × Obj)} {Q : Value → Shared → Prop} {t p a1 a2 a3 : Addr} {n n' n1 n2 n3 : Nat} {tx ty x1 y1 x2 y2 x3 y3 : Tok} (N : News h₀ L s.heap news) (hp : (p, tupOf #[.int 2 tx, .int 0 ty] n') ∈ news) (ht : (t, tupOf [Value.ref a1, .ref a2, .ref a3].toArray n) ∈ news0) (h1 : (a1, tupOf #[.int 1 x1, .int 0 y1] n1) ∈ news0) (h2 : (a2, tupOf #[.int 2 x2, .int 0 y2] n2) ∈ news0) (h3 : (a3, tupOf #[.int 3 x3, .int 0 y3] n3) ∈ news0) (hs : ∀ q ∈ news0, q ∈ news) (lt : ∀ q ∈ news0, q.1 < p)
    (hu : A.units + 1 < cLine) (h : Q (.bool true) s) : wpAny (model prog w) A (compareOp .In (.ref p) (.ref t)) Q E s := by
  refine in_way_yes (us := [.ref a1]) (vs := [.ref a3]) (a := a2) N (hs _ ht) hp (hs _ h2) (Nat.ne_of_lt (lt _ h2)) (fun v hv => ?_) hu h
  simp only [List.cons_append, List.nil_append, List.mem_cons, List.not_mem_nil, or_false] at hv
  rcases hv with rfl | rfl | rfl
  · exact .inr ⟨1, ⟨a1, x1, 0, y1, n1, rfl, hs _ h1⟩, by decide⟩
  · exact .inl rfl
  · exact .inr ⟨3, ⟨a3, x3, 0, y3, n3, rfl, hs _ h3⟩, by decide⟩
section
local macro_rules | `(tactic| k_all) => `(tactic| ((fail_if_success (refine' List.forall_mem_cons.mpr ⟨?_, ?_⟩)); exact ne_ord (by ktn_ord)))
section
local macro_rules | `(tactic| kit_dict) => `(tactic| (refine' kitAt_N ?N ?m ?c; (case N => k_asm); (case m => k_mem); (case c => first | assumption | exact rfl)))
section
section
set_option maxRecDepth 100000 in
set_option maxHeartbeats 8000000 in
theorem longer_g0 (w : World) (x dx : Addr) (k : Int) (a b c d : Tok) (m : Nat) (news : List (Addr × Obj)) (hx : (x, instObj 254 dx) ∈ news) (hd : (dx, dictOf (refD w a b (.int k c) (.int 0 d)) m) ∈ news) :
   Spec w 386 1 [.ref 392, .ref x] news (Made news (LongPostG [] k)) := by
  unfold Spec
  k_fill
  intro dp un gd cn cs a ccd cl outer A₀ base h₀ L m s loose mean mg mb Q E B F X N T hk hd hu hret
  refine wpAny_call ?_
  k_dflt ktr_enter
  repeat' (first | (k_unfold; (try dsimp only)) | ((with_reducible show wpAny _ _ (binaryOp Operator.Add (Value.ref _) (Value.ref _)) _ _ _); first | with_reducible (k_here; k_dflt (refine' addTup0 (by k_asm) (by k_asm) (by k_asm) (by exact rfl) (by k_mem) (by exact Nat.le_of_ble_eq_true rfl) ?_)) | (k_here; k_dflt (refine' addTup0 (by k_asm) (by k_asm) (by k_asm) (by exact rfl) (by k_mem) (by exact Nat.le_of_ble_eq_true rfl) ?_))) | ((with_reducible show wpAny _ _ (compareOp CmpOp.In (Value.ref _) (Value.ref _)) _ _ _); first | with_reducible (k_here; k_dflt (refine' in_way0 (by k_asm) (by k_asm) (by exact rfl) ?_))) | ((with_reducible show wpAny _ _ (setAttr (Value.ref _) _ _) _ _ _); first | with_reducible (k_here; k_dflt (first | (refine' set_exc1 (by k_asm) (by k_asm) (by k_in) (by k_updF) (by k_is) ?_; intro d' h' F' N' l1; (try k_lt l1); (try dsimp only at N')) | (refine' set_exc2 (by k_asm) (by k_asm) (by k_in) (by k_mem) (by k_mem) (by k_is) (by k_get) (by k_put) (by exact Nat.le_of_ble_eq_true rfl) (by k_upd) ?_; intro h' F' N'))) | (k_here; k_dflt (first | (refine' set_exc1 (by k_asm) (by k_asm) (by k_in) (by k_updF) (by k_is) ?_; intro d' h' F' N' l1; (try k_lt l1); (try dsimp only at N')) | (refine' set_exc2 (by k_asm) (by k_asm) (by k_in) (by k_mem) (by k_mem) (by k_is) (by k_get) (by k_put) (by exact Nat.le_of_ble_eq_true rfl) (by k_upd) ?_; intro h' F' N')))) | ((with_reducible show wpAny _ _ (call (Value.builtin "Exception.__init__") _) _ _ _); first | with_reducible (k_here; k_dflt (refine' exc_init (by k_asm) (by k_asm) (by k_in) (by k_updF) ?_); intro t' h' F' N' l1; (try k_lt l1); (try dsimp only at N')) | (k_here; k_dflt (refine' exc_init (by k_asm) (by k_asm) (by k_in) (by k_updF) ?_); intro t' h' F' N' l1; (try k_lt l1); (try dsimp only at N'))) | ((with_reducible show wpAny _ _ (getMethod (Value.type "Exception") _ _) _ _ _); first | with_reducible (k_here; refine' method_type (by k_asm) (by k_asm) meta_exc (by decide +kernel) (exc_find _) (by k_handed) ?_) | (k_here; refine' method_type (by k_asm) (by k_asm) meta_exc (by decide +kernel) (exc_find _) (by k_handed) ?_)) | ((with_reducible show RaiseT _ _ _ _ _ _ _); first | with_reducible (k_here; refine RaiseT.intro (by k_in) (by k_asm) (by k_asm) (by k_mem) ?_) | (k_here; refine RaiseT.intro (by k_in) (by k_asm) (by k_asm) (by k_mem) ?_)) | ((with_reducible show wpAny _ _ (exec (Stmt.Raise _ _ _) _) _ _ _); first | with_reducible (k_here; k_dflt (refine' raise_tf (by k_asm) (by exact rfl) ?_)) | (k_here; k_dflt (refine' raise_tf (by k_asm) (by exact rfl) ?_))) | ((with_reducible show wpAny _ _ (call (Value.ref _) _) _ _ _); first | with_reducible (k_here; (with_reducible show wpAny _ _ (call (Value.ref 59) _) _ _ _); k_dflt (refine' call_tf (by k_asm) (by k_asm) (by k_in) (by exact Nat.le_of_ble_eq_true rfl) ?_); intro x' d' h' F' N' l1 l2; (try k_lt l1); (try k_lt2 l2); (try k_sweep); k_enter) | (k_here; (with_reducible show wpAny _ _ (call (Value.ref 59) _) _ _ _); k_dflt (refine' call_tf (by k_asm) (by k_asm) (by k_in) (by exact Nat.le_of_ble_eq_true rfl) ?_); intro x' d' h' F' N' l1 l2; (try k_lt l1); (try k_lt2 l2); (try k_sweep); k_enter)) | ((with_reducible show wpAny _ _ (leaving _ (Value.ref _)) _ _ _); first | with_reducible (k_here; first | (k_dflt (refine' leave_on2 (by assumption) (by assumption) (by assumption) (by assumption) ?_; k_whole); intro h' S' R' U'; (try dsimp only at S' R' U' ⊢); refine Stop.out ?_) | (k_dflt (refine' leave_tf' (by assumption) (by k_asm) (by k_asm) (by k_asm) (by k_mem) (by k_mem) (by ktd_sub) (by exact ne_ord (by ktn_ord)) (by exact ne_ord (by ktn_ord)) ?_; k_whole); intro h' S' R' U'; (try dsimp only at S' R' U' ⊢); refine Stop.out ?_)) | (k_here; first | (k_dflt (refine' leave_on2 (by assumption) (by assumption) (by assumption) (by assumption) ?_; k_whole); intro h' S' R' U'; (try dsimp only at S' R' U' ⊢); refine Stop.out ?_) | (k_dflt (refine' leave_tf' (by assumption) (by k_asm) (by k_asm) (by k_asm) (by k_mem) (by k_mem) (by ktd_sub) (by exact ne_ord (by ktn_ord)) (by exact ne_ord (by ktn_ord)) ?_; k_whole); intro h' S' R' U'; (try dsimp only at S' R' U' ⊢); refine Stop.out ?_))) | ((with_reducible show wpAny _ _ (call (Value.builtin "isinstance") _) _ _ _); first | with_reducible (k_here; (with_reducible show wpAny _ _ (call _ [Value.ref _, Value.ref _]) _ _ _); k_dflt (refine' isi_call (by k_in) (by k_types) (by k_is) (by intro e; cases e) ?_; k_whole))) | ((with_reducible show wpAny _ _ (execs (Stmt.Assign _ _ _ :: _ :: _) _) _ _ _); first | with_reducible (k_here; (with_reducible refine wpAny_execs_cons ?_); try dsimp only)) | ((with_reducible show RangeRest _ _ _ _ _ _ _ _ _ _ _ _ _ _ _ _ _); first | with_reducible (k_here; first | ((with_reducible refine RangeRest.succ ?_); intro t' h' tk' F' N') | ((with_reducible refine RangeRest.zero ?_); intro h' tk' F' N'))) | (k_end; kc_close) | walk1 | (dsimp only; walk1) | (leave1; (try dsimp only)))
  refine finish hret (by k_asm) (by k_asm) (by ktd_sub) fun tl U keep => ?_
  exact ⟨_, _, _, rfl, keep _ (.head _) (by ktn_ord), _, _, _, _, rfl, keep _ (.tail _ (.head _)) (by ktn_ord)⟩
end
section
set_option maxRecDepth 100000 in
set_option maxHeartbeats 8000000 in
theorem longer_g1 (w : World) (t x dx : Addr) (ps : List Value) (n : Nat) (k : Int) (a b c d : Tok) (m : Nat) (news : List (Addr × Obj)) (ht : (t, tupOf ps.toArray n) ∈ news) (h0 : ps ≠ []) (hl : ps.length ≤ 40) (hne : ∀ v ∈ ps, ∃ i, PlaceIs news v i ∧ i ≠ k)
   (hx : (x, instObj 254 dx) ∈ news) (hd : (dx, dictOf (refD w a b (.int k c) (.int 0 d)) m) ∈ news) :
   Spec w 386 1 [.ref t, .ref x] news (Made news (LongPostG ps k)) := by
  unfold Spec
  k_fill
  intro dp un gd cn cs a ccd cl outer A₀ base h₀ L m s loose mean mg mb Q E B F X N T hk hd hu hret
  refine wpAny_call ?_
  k_dflt ktr_enter
  repeat' (first | (k_unfold; (try dsimp only)) | ((with_reducible show wpAny _ _ (binaryOp Operator.Add (Value.ref _) (Value.ref _)) _ _ _); first | with_reducible (k_here; k_dflt (refine' addTup_N (by k_asm) (by k_asm) (by k_mem) (by exact List.Mem.head _) (by assumption) (by (simp only [List.length_cons, List.length_nil]; omega)) ?_ ?_); all_goals (intro z0'); all_goals (first | exact absurd z0' (List.cons_ne_nil _ _) | (intro D' h' F' N' l1))) | (k_here; k_dflt (refine' addTup_N (by k_asm) (by k_asm) (by k_mem) (by exact List.Mem.head _) (by assumption) (by (simp only [List.length_cons, List.length_nil]; omega)) ?_ ?_); all_goals (intro z0'); all_goals (first | exact absurd z0' (List.cons_ne_nil _ _) | (intro D' h' F' N' l1)))) | ((with_reducible show wpAny _ _ (call (Value.builtin "len") _) _ _ _); first | with_reducible (k_here; k_dflt (refine' len_tup (by k_asm) (by k_mem) (by omega) ?_))) | ((with_reducible show wpAny _ _ (compareOp CmpOp.In (Value.ref _) (Value.ref _)) _ _ _); first | with_reducible (k_here; k_dflt (refine' in_way' (by k_asm) (by k_mem) (by k_mem) (by assumption) (by ktd_sub) (by ktr_units) ?_))) | ((with_reducible show wpAny _ _ (setAttr (Value.ref _) _ _) _ _ _); first | with_reducible (k_here; k_dflt (first | (refine' set_exc1 (by k_asm) (by k_asm) (by k_in) (by k_updF) (by k_is) ?_; intro d' h' F' N' l1; (try k_lt l1); (try dsimp only at N')) | (refine' set_exc2 (by k_asm) (by k_asm) (by k_in) (by k_mem) (by k_mem) (by k_is) (by k_get) (by k_put) (by exact Nat.le_of_ble_eq_true rfl) (by k_upd) ?_; intro h' F' N'))) | (k_here; k_dflt (first | (refine' set_exc1 (by k_asm) (by k_asm) (by k_in) (by k_updF) (by k_is) ?_; intro d' h' F' N' l1; (try k_lt l1); (try dsimp only at N')) | (refine' set_exc2 (by k_asm) (by k_asm) (by k_in) (by k_mem) (by k_mem) (by k_is) (by k_get) (by k_put) (by exact Nat.le_of_ble_eq_true rfl) (by k_upd) ?_; intro h' F' N')))) | ((with_reducible show wpAny _ _ (call (Value.builtin "Exception.__init__") _) _ _ _); first | with_reducible (k_here; k_dflt (refine' exc_init (by k_asm) (by k_asm) (by k_in) (by k_updF) ?_); intro t' h' F' N' l1; (try k_lt l1); (try dsimp only at N')) | (k_here; k_dflt (refine' exc_init (by k_asm) (by k_asm) (by k_in) (by k_updF) ?_); intro t' h' F' N' l1; (try k_lt l1); (try dsimp only at N'))) | ((with_reducible show wpAny _ _ (getMethod (Value.type "Exception") _ _) _ _ _); first | with_reducible (k_here; refine' method_type (by k_asm) (by k_asm) meta_exc (by decide +kernel) (exc_find _) (by k_handed) ?_) | (k_here; refine' method_type (by k_asm) (by k_asm) meta_exc (by decide +kernel) (exc_find _) (by k_handed) ?_)) | ((with_reducible show RaiseT _ _ _ _ _ _ _); first | with_reducible (k_here; refine RaiseT.intro (by k_in) (by k_asm) (by k_asm) (by k_mem) ?_) | (k_here; refine RaiseT.intro (by k_in) (by k_asm) (by k_asm) (by k_mem) ?_)) | ((with_reducible show wpAny _ _ (exec (Stmt.Raise _ _ _) _) _ _ _); first | with_reducible (k_here; k_dflt (refine' raise_tf (by k_asm) (by exact rfl) ?_)) | (k_here; k_dflt (refine' raise_tf (by k_asm) (by exact rfl) ?_))) | ((with_reducible show wpAny _ _ (call (Value.ref _) _) _ _ _); first | with_reducible (k_here; (with_reducible show wpAny _ _ (call (Value.ref 59) _) _ _ _); k_dflt (refine' call_tf (by k_asm) (by k_asm) (by k_in) (by exact Nat.le_of_ble_eq_true rfl) ?_); intro x' d' h' F' N' l1 l2; (try k_lt l1); (try k_lt2 l2); (try k_sweep); k_enter) | (k_here; (with_reducible show wpAny _ _ (call (Value.ref 59) _) _ _ _); k_dflt (refine' call_tf (by k_asm) (by k_asm) (by k_in) (by exact Nat.le_of_ble_eq_true rfl) ?_); intro x' d' h' F' N' l1 l2; (try k_lt l1); (try k_lt2 l2); (try k_sweep); k_enter)) | ((with_reducible show wpAny _ _ (leaving _ (Value.ref _)) _ _ _); first | with_reducible (k_here; first | (k_dflt (refine' leave_on2 (by assumption) (by assumption) (by assumption) (by assumption) ?_; k_whole); intro h' S' R' U'; (try dsimp only at S' R' U' ⊢); refine Stop.out ?_) | (k_dflt (refine' leave_tf' (by assumption) (by k_asm) (by k_asm) (by k_asm) (by k_mem) (by k_mem) (by ktd_sub) (by exact ne_ord (by ktn_ord)) (by exact ne_ord (by ktn_ord)) ?_; k_whole); intro h' S' R' U'; (try dsimp only at S' R' U' ⊢); refine Stop.out ?_)) | (k_here; first | (k_dflt (refine' leave_on2 (by assumption) (by assumption) (by assumption) (by assumption) ?_; k_whole); intro h' S' R' U'; (try dsimp only at S' R' U' ⊢); refine Stop.out ?_) | (k_dflt (refine' leave_tf' (by assumption) (by k_asm) (by k_asm) (by k_asm) (by k_mem) (by k_mem) (by ktd_sub) (by exact ne_ord (by ktn_ord)) (by exact ne_ord (by ktn_ord)) ?_; k_whole); intro h' S' R' U'; (try dsimp only at S' R' U' ⊢); refine Stop.out ?_))) | ((with_reducible show wpAny _ _ (call (Value.builtin "isinstance") _) _ _ _); first | with_reducible (k_here; (with_reducible show wpAny _ _ (call _ [Value.ref _, Value.ref _]) _ _ _); k_dflt (refine' isi_call (by k_in) (by k_types) (by k_is) (by intro e; cases e) ?_; k_whole))) | ((with_reducible show wpAny _ _ (execs (Stmt.Assign _ _ _ :: _ :: _) _) _ _ _); first | with_reducible (k_here; (with_reducible refine wpAny_execs_cons ?_); try dsimp only)) | ((with_reducible show RangeRest _ _ _ _ _ _ _ _ _ _ _ _ _ _ _ _ _); first | with_reducible (k_here; first | ((with_reducible refine RangeRest.succ ?_); intro t' h' tk' F' N') | ((with_reducible refine RangeRest.zero ?_); intro h' tk' F' N'))) | (k_end; kc_close) | walk1 | (dsimp only; walk1) | (leave1; (try dsimp only)))
  refine finish hret (by k_asm) (by k_asm) (by ktd_sub) fun tl U keep => ?_
  exact ⟨_, _, _, rfl, keep _ (.head _) (by ktn_ord), _, _, _, _, rfl, keep _ (.tail _ (.tail _ (.head _))) (by ktn_ord)⟩
end
section
set_option maxRecDepth 100000 in
set_option maxHeartbeats 8000000 in
theorem longer_raise (w : World) (t x dx a1 a2 a3 : Addr) (n n1 n2 n3 : Nat) (x1 y1 x2 y2 x3 y3 : Tok) (a b c d : Tok) (m : Nat) (news : List (Addr × Obj)) (ht : (t, tupOf [Value.ref a1, .ref a2, .ref a3].toArray n) ∈ news) (h1 : (a1, tupOf #[.int 1 x1, .int 0 y1] n1) ∈ news) (h2 : (a2, tupOf #[.int 2 x2, .int 0 y2] n2) ∈ news) (h3 : (a3, tupOf #[.int 3 x3, .int 0 y3] n3) ∈ news)
   (hx : (x, instObj 254 dx) ∈ news) (hd : (dx, dictOf (refD w a b (.int 2 c) (.int 0 d)) m) ∈ news) :
   SpecE w 386 4 [.ref t, .ref x] news := by
  have hkp : Keep news := trivial
  unfold SpecE
  k_fill
  intro dp un gd cn cs a ccd cl outer A₀ base h₀ L m s loose mean mg mb Q E B F X N T hk hd hu hret
  refine wpAny_call ?_
  k_dflt (refine' code_def ?k1 ?k2 ?k3 ?k4 ?k5 ?kA ?kF ?kK ?k6 ?k7 ?k8 ?k9 ?kB ?_ ?c2 ?c3 ?c4 ?c5; (case kA => exact rfl); (case kF => exact rfl); (case kK => assumption); (case k1 => k_asm); (case k2 => k_asm); (case k3 => k_asm); (case k4 => k_asm); (case k5 => k_asm); (case k6 => k_is); (case k7 => k_is); (case k8 => ktr_room); (case k9 => first | exact binds_K (by k_in) rfl (by k_is) rfl rfl rfl | exact BindsTo.of_eq rfl); (case c5 => decide); (case kB => exact locs rfl); (case c2 => exact rfl); (case c3 => exact rfl); (case c4 => exact rfl); k_whole)
  intro g1 L1 h1 FG1 F1 N1 B1 X1 T1
  (try dsimp only)
  (try k_fold)
  repeat' (first | (k_unfold; (try dsimp only)) | ((with_reducible show wpAny _ _ (compareOp CmpOp.In (Value.ref _) (Value.ref _)) _ _ _); first | with_reducible (k_here; k_dflt (refine' in_way3 (by k_asm) (by k_mem) (by assumption) (by assumption) (by assumption) (by assumption) (by ktd_sub) (by ktn_ord) (by ktr_units) ?_))) | ((with_reducible show wpAny _ _ (setAttr (Value.ref _) _ _) _ _ _); first | with_reducible (k_here; k_dflt (first | (refine' set_exc1 (by k_asm) (by k_asm) (by k_in) (by k_updF) (by k_is) ?_; intro d' h' F' N' l1; (try k_lt l1); (try dsimp only at N')) | (refine' set_exc2 (by k_asm) (by k_asm) (by k_in) (by k_mem) (by k_mem) (by k_is) (by k_get) (by k_put) (by exact Nat.le_of_ble_eq_true rfl) (by k_upd) ?_; intro h' F' N'))) | (k_here; k_dflt (first | (refine' set_exc1 (by k_asm) (by k_asm) (by k_in) (by k_updF) (by k_is) ?_; intro d' h' F' N' l1; (try k_lt l1); (try dsimp only at N')) | (refine' set_exc2 (by k_asm) (by k_asm) (by k_in) (by k_mem) (by k_mem) (by k_is) (by k_get) (by k_put) (by exact Nat.le_of_ble_eq_true rfl) (by k_upd) ?_; intro h' F' N')))) | ((with_reducible show wpAny _ _ (call (Value.builtin "Exception.__init__") _) _ _ _); first | with_reducible (k_here; k_dflt (refine' exc_init (by k_asm) (by k_asm) (by k_in) (by k_updF) ?_); intro t' h' F' N' l1; (try k_lt l1); (try dsimp only at N')) | (k_here; k_dflt (refine' exc_init (by k_asm) (by k_asm) (by k_in) (by k_updF) ?_); intro t' h' F' N' l1; (try k_lt l1); (try dsimp only at N'))) | ((with_reducible show wpAny _ _ (getMethod (Value.type "Exception") _ _) _ _ _); first | with_reducible (k_here; refine' method_type (by k_asm) (by k_asm) meta_exc (by decide +kernel) (exc_find _) (by k_handed) ?_) | (k_here; refine' method_type (by k_asm) (by k_asm) meta_exc (by decide +kernel) (exc_find _) (by k_handed) ?_)) | ((with_reducible show RaiseT _ _ _ _ _ _ _); first | with_reducible (k_here; refine RaiseT.intro (by k_in) (by k_asm) (by k_asm) (by k_mem) ?_) | (k_here; refine RaiseT.intro (by k_in) (by k_asm) (by k_asm) (by k_mem) ?_)) | ((with_reducible show wpAny _ _ (exec (Stmt.Raise _ _ _) _) _ _ _); first | with_reducible (k_here; k_dflt (refine' raise_tf (by k_asm) (by exact rfl) ?_)) | (k_here; k_dflt (refine' raise_tf (by k_asm) (by exact rfl) ?_))) | ((with_reducible show wpAny _ _ (call (Value.ref _) _) _ _ _); first | with_reducible (k_here; (with_reducible show wpAny _ _ (call (Value.ref 59) _) _ _ _); k_dflt (refine' call_tf (by k_asm) (by k_asm) (by k_in) (by exact Nat.le_of_ble_eq_true rfl) ?_); intro x' d' h' F' N' l1 l2; (try k_lt l1); (try k_lt2 l2); (try k_sweep); k_enter) | (k_here; (with_reducible show wpAny _ _ (call (Value.ref 59) _) _ _ _); k_dflt (refine' call_tf (by k_asm) (by k_asm) (by k_in) (by exact Nat.le_of_ble_eq_true rfl) ?_); intro x' d' h' F' N' l1 l2; (try k_lt l1); (try k_lt2 l2); (try k_sweep); k_enter)) | ((with_reducible show wpAny _ _ (leaving _ (Value.ref _)) _ _ _); first | with_reducible (k_here; first | (k_dflt (refine' leave_on2 (by assumption) (by assumption) (by assumption) (by assumption) ?_; k_whole); intro h' S' R' U'; (try dsimp only at S' R' U' ⊢); refine Stop.out ?_) | (k_dflt (refine' leave_tf' (by assumption) (by k_asm) (by k_asm) (by k_asm) (by k_mem) (by k_mem) (by ktd_sub) (by exact ne_ord (by ktn_ord)) (by exact ne_ord (by ktn_ord)) ?_; k_whole); intro h' S' R' U'; (try dsimp only at S' R' U' ⊢); refine Stop.out ?_)) | (k_here; first | (k_dflt (refine' leave_on2 (by assumption) (by assumption) (by assumption) (by assumption) ?_; k_whole); intro h' S' R' U'; (try dsimp only at S' R' U' ⊢); refine Stop.out ?_) | (k_dflt (refine' leave_tf' (by assumption) (by k_asm) (by k_asm) (by k_asm) (by k_mem) (by k_mem) (by ktd_sub) (by exact ne_ord (by ktn_ord)) (by exact ne_ord (by ktn_ord)) ?_; k_whole); intro h' S' R' U'; (try dsimp only at S' R' U' ⊢); refine Stop.out ?_))) | ((with_reducible show wpAny _ _ (call (Value.builtin "isinstance") _) _ _ _); first | with_reducible (k_here; (with_reducible show wpAny _ _ (call _ [Value.ref _, Value.ref _]) _ _ _); k_dflt (refine' isi_call (by k_in) (by k_types) (by k_is) (by intro e; cases e) ?_; k_whole))) | ((with_reducible show wpAny _ _ (execs (Stmt.Assign _ _ _ :: _ :: _) _) _ _ _); first | with_reducible (k_here; (with_reducible refine wpAny_execs_cons ?_); try dsimp only)) | ((with_reducible show RangeRest _ _ _ _ _ _ _ _ _ _ _ _ _ _ _ _ _); first | with_reducible (k_here; first | ((with_reducible refine RangeRest.succ ?_); intro t' h' tk' F' N') | ((with_reducible refine RangeRest.zero ?_); intro h' tk' F' N'))) | (k_end; kc_close) | walk1 | (dsimp only; walk1) | (leave1; (try dsimp only)))
  all_goals (unfold Stop; exact hret _ _ _ _ _ _ (by assumption) (by assumption) (raised_sub (by assumption) (by ktd_sub)))
end
end
end
end
end
section
local macro_rules | `(tactic| walk_at "an idle line 0") => `(tactic| fail "idle")
theorem walk_plain_ExcF : True := by
  w_top off
  trivial
section
local macro_rules | `(tactic| k_all) => `(tactic| ((fail_if_success (refine' List.forall_mem_cons.mpr ⟨?_, ?_⟩)); exact ne_ord (by ktn_ord)))
section
set_option maxRecDepth 100000 in
set_option maxHeartbeats 8000000 in
theorem gl3 (w : World) (news : List (Addr × Obj)) (S : Addr) (way : Addr) (v : Value) (hL : SpecE w 386 4 [.ref way, v] news) :
   SpecE w 400 6 [.ref S, v, .ref way] news := by
  unfold SpecE
  k_fill
  intro dp un gd cn cs a ccd cl outer A₀ base h₀ L m s loose mean mg mb Q E B F X N T hk hd hu hret
  refine wpAny_call ?_
  k_dflt (refine' code_def ?k1 ?k2 ?k3 ?k4 ?k5 ?kA ?kF ?kK ?k6 ?k7 ?k8 ?k9 ?kB ?_ ?c2 ?c3 ?c4 ?c5; (case kA => exact rfl); (case kF => exact rfl); (case kK => assumption); (case k1 => k_asm); (case k2 => k_asm); (case k3 => k_asm); (case k4 => k_asm); (case k5 => k_asm); (case k6 => k_is); (case k7 => k_is); (case k8 => ktr_room); (case k9 => first | exact binds_K (by k_in) rfl (by k_is) rfl rfl rfl | exact BindsTo.of_eq rfl); (case c5 => decide); (case kB => exact locs rfl); (case c2 => exact rfl); (case c3 => exact rfl); (case c4 => exact rfl); k_whole)
  intro g1 L1 h1 FG1 F1 N1 B1 X1 T1
  (try dsimp only)
  (try k_fold)
  repeat' (first | (k_unfold; (try dsimp only)) | ((with_reducible show wpAny _ _ (call (Value.ref _) _) _ _ _); first | with_reducible (k_here; (with_reducible show wpAny _ _ (call (Value.ref 386) _) _ _ _); k_dflt ( refine' spec_useE (f := 386) (by k_asm) (by k_asm) (by k_asm) (by k_asm) (by k_asm) (by first | exact rfl | assumption) (by assumption) (by ktr_room) (by ktr_units) ?_; (intro e9 t9 vs9 g9 h9 tk9 FG9 U9 R9; (try dsimp only)))) | with_reducible (k_here; (with_reducible show wpAny _ _ (call (Value.ref 59) _) _ _ _); k_dflt (refine' call_tf (by k_asm) (by k_asm) (by k_in) (by exact Nat.le_of_ble_eq_true rfl) ?_); intro x' d' h' F' N' l1 l2; (try k_lt l1); (try k_lt2 l2); (try k_sweep); k_enter) | (k_here; (with_reducible show wpAny _ _ (call (Value.ref 59) _) _ _ _); k_dflt (refine' call_tf (by k_asm) (by k_asm) (by k_in) (by exact Nat.le_of_ble_eq_true rfl) ?_); intro x' d' h' F' N' l1 l2; (try k_lt l1); (try k_lt2 l2); (try k_sweep); k_enter)) | ((with_reducible show wpAny _ _ (setAttr (Value.ref _) _ _) _ _ _); first | with_reducible (k_here; k_dflt (first | (refine' set_exc1 (by k_asm) (by k_asm) (by k_in) (by k_updF) (by k_is) ?_; intro d' h' F' N' l1; (try k_lt l1); (try dsimp only at N')) | (refine' set_exc2 (by k_asm) (by k_asm) (by k_in) (by k_mem) (by k_mem) (by k_is) (by k_get) (by k_put) (by exact Nat.le_of_ble_eq_true rfl) (by k_upd) ?_; intro h' F' N'))) | (k_here; k_dflt (first | (refine' set_exc1 (by k_asm) (by k_asm) (by k_in) (by k_updF) (by k_is) ?_; intro d' h' F' N' l1; (try k_lt l1); (try dsimp only at N')) | (refine' set_exc2 (by k_asm) (by k_asm) (by k_in) (by k_mem) (by k_mem) (by k_is) (by k_get) (by k_put) (by exact Nat.le_of_ble_eq_true rfl) (by k_upd) ?_; intro h' F' N')))) | ((with_reducible show wpAny _ _ (call (Value.builtin "Exception.__init__") _) _ _ _); first | with_reducible (k_here; k_dflt (refine' exc_init (by k_asm) (by k_asm) (by k_in) (by k_updF) ?_); intro t' h' F' N' l1; (try k_lt l1); (try dsimp only at N')) | (k_here; k_dflt (refine' exc_init (by k_asm) (by k_asm) (by k_in) (by k_updF) ?_); intro t' h' F' N' l1; (try k_lt l1); (try dsimp only at N'))) | ((with_reducible show wpAny _ _ (getMethod (Value.type "Exception") _ _) _ _ _); first | with_reducible (k_here; refine' method_type (by k_asm) (by k_asm) meta_exc (by decide +kernel) (exc_find _) (by k_handed) ?_) | (k_here; refine' method_type (by k_asm) (by k_asm) meta_exc (by decide +kernel) (exc_find _) (by k_handed) ?_)) | ((with_reducible show RaiseT _ _ _ _ _ _ _); first | with_reducible (k_here; refine RaiseT.intro (by k_in) (by k_asm) (by k_asm) (by k_mem) ?_) | (k_here; refine RaiseT.intro (by k_in) (by k_asm) (by k_asm) (by k_mem) ?_)) | ((with_reducible show wpAny _ _ (exec (Stmt.Raise _ _ _) _) _ _ _); first | with_reducible (k_here; k_dflt (refine' raise_tf (by k_asm) (by exact rfl) ?_)) | (k_here; k_dflt (refine' raise_tf (by k_asm) (by exact rfl) ?_))) | ((with_reducible show wpAny _ _ (leaving _ (Value.ref _)) _ _ _); first | with_reducible (k_here; first | (k_dflt (refine' leave_on2 (by assumption) (by assumption) (by assumption) (by assumption) ?_; k_whole); intro h' S' R' U'; (try dsimp only at S' R' U' ⊢); refine Stop.out ?_) | (k_dflt (refine' leave_tf' (by assumption) (by k_asm) (by k_asm) (by k_asm) (by k_mem) (by k_mem) (by ktd_sub) (by exact ne_ord (by ktn_ord)) (by exact ne_ord (by ktn_ord)) ?_; k_whole); intro h' S' R' U'; (try dsimp only at S' R' U' ⊢); refine Stop.out ?_)) | (k_here; first | (k_dflt (refine' leave_on2 (by assumption) (by assumption) (by assumption) (by assumption) ?_; k_whole); intro h' S' R' U'; (try dsimp only at S' R' U' ⊢); refine Stop.out ?_) | (k_dflt (refine' leave_tf' (by assumption) (by k_asm) (by k_asm) (by k_asm) (by k_mem) (by k_mem) (by ktd_sub) (by exact ne_ord (by ktn_ord)) (by exact ne_ord (by ktn_ord)) ?_; k_whole); intro h' S' R' U'; (try dsimp only at S' R' U' ⊢); refine Stop.out ?_))) | ((with_reducible show wpAny _ _ (execs (Stmt.Assign _ _ _ :: _ :: _) _) _ _ _); first | with_reducible (k_here; (with_reducible refine wpAny_execs_cons ?_); try dsimp only)) | ((with_reducible show RangeRest _ _ _ _ _ _ _ _ _ _ _ _ _ _ _ _ _); first | with_reducible (k_here; first | ((with_reducible refine RangeRest.succ ?_); intro t' h' tk' F' N') | ((with_reducible refine RangeRest.zero ?_); intro h' tk' F' N'))) | (k_end; kc_close) | walk1 | (dsimp only; walk1) | (leave1; (try dsimp only)))
  all_goals (unfold Stop; exact hret _ _ _ _ _ _ (by assumption) (by assumption) (raised_sub (by assumption) (by ktd_sub)))
end
section
set_option maxRecDepth 100000 in
set_option maxHeartbeats 8000000 in
theorem gn3 (w : World) (news0 news : List (Addr × Obj)) (S : Addr) (way : Addr) (v : Value) (ps : List Value) (i : Int) (hs : ∀ p ∈ news0, p ∈ news) (hN : NodeE w news0 S v) (hL : Spec w 386 1 [.ref way, v] news (Made news (LongPostG ps i))) :
   SpecE w 400 6 [.ref S, v, .ref way] news := by
  unfold SpecE
  k_fill
  intro dp un gd cn cs a ccd cl outer A₀ base h₀ L m s loose mean mg mb Q E B F X N T hk hd hu hret
  refine wpAny_call ?_
  k_dflt (refine' code_def ?k1 ?k2 ?k3 ?k4 ?k5 ?kA ?kF ?kK ?k6 ?k7 ?k8 ?k9 ?kB ?_ ?c2 ?c3 ?c4 ?c5; (case kA => exact rfl); (case kF => exact rfl); (case kK => assumption); (case k1 => k_asm); (case k2 => k_asm); (case k3 => k_asm); (case k4 => k_asm); (case k5 => k_asm); (case k6 => k_is); (case k7 => k_is); (case k8 => ktr_room); (case k9 => first | exact binds_K (by k_in) rfl (by k_is) rfl rfl rfl | exact BindsTo.of_eq rfl); (case c5 => decide); (case kB => exact locs rfl); (case c2 => exact rfl); (case c3 => exact rfl); (case c4 => exact rfl); k_whole)
  intro g1 L1 h1 FG1 F1 N1 B1 X1 T1
  (try dsimp only)
  (try k_fold)
  repeat' (first | (k_unfold; (try dsimp only)) | ((with_reducible show wpAny _ _ (call (Value.ref _) _) _ _ _); first | with_reducible (k_here; (with_reducible show wpAny _ _ (call (Value.ref 372) _) _ _ _); k_dflt ( refine' spec_useE (f := 372) (by k_asm) (by k_asm) (by k_asm) (by k_asm) (by k_asm) (by first | exact rfl | assumption) (NodeE.use (by assumption) (by ktd_sub)) (by ktr_room) (by ktr_units) ?_; (intro e9 t9 vs9 g9 h9 tk9 FG9 U9 R9; (try dsimp only)))) | with_reducible (k_here; (with_reducible show wpAny _ _ (call (Value.ref 386) _) _ _ _); k_dflt ( refine' spec_use (f := 386) (by k_asm) (by k_asm) (by k_asm) (by k_asm) (by k_asm) (by first | exact rfl | assumption) (by assumption) (by ktr_room) (by ktr_units) (ret_longG ?_); (intro t9 pl9 nn9 tl9 h9 tk9 F9 N9 up9 m9 pi9 mm9 pg9; clear mm9; (try k_sweep); (try dsimp only); (try k_fold)))) | with_reducible (k_here; (with_reducible show wpAny _ _ (call (Value.ref 59) _) _ _ _); k_dflt (refine' call_tf (by k_asm) (by k_asm) (by k_in) (by exact Nat.le_of_ble_eq_true rfl) ?_); intro x' d' h' F' N' l1 l2; (try k_lt l1); (try k_lt2 l2); (try k_sweep); k_enter) | (k_here; (with_reducible show wpAny _ _ (call (Value.ref 59) _) _ _ _); k_dflt (refine' call_tf (by k_asm) (by k_asm) (by k_in) (by exact Nat.le_of_ble_eq_true rfl) ?_); intro x' d' h' F' N' l1 l2; (try k_lt l1); (try k_lt2 l2); (try k_sweep); k_enter)) | ((with_reducible show wpAny _ _ (setAttr (Value.ref _) _ _) _ _ _); first | with_reducible (k_here; k_dflt (first | (refine' set_exc1 (by k_asm) (by k_asm) (by k_in) (by k_updF) (by k_is) ?_; intro d' h' F' N' l1; (try k_lt l1); (try dsimp only at N')) | (refine' set_exc2 (by k_asm) (by k_asm) (by k_in) (by k_mem) (by k_mem) (by k_is) (by k_get) (by k_put) (by exact Nat.le_of_ble_eq_true rfl) (by k_upd) ?_; intro h' F' N'))) | (k_here; k_dflt (first | (refine' set_exc1 (by k_asm) (by k_asm) (by k_in) (by k_updF) (by k_is) ?_; intro d' h' F' N' l1; (try k_lt l1); (try dsimp only at N')) | (refine' set_exc2 (by k_asm) (by k_asm) (by k_in) (by k_mem) (by k_mem) (by k_is) (by k_get) (by k_put) (by exact Nat.le_of_ble_eq_true rfl) (by k_upd) ?_; intro h' F' N')))) | ((with_reducible show wpAny _ _ (call (Value.builtin "Exception.__init__") _) _ _ _); first | with_reducible (k_here; k_dflt (refine' exc_init (by k_asm) (by k_asm) (by k_in) (by k_updF) ?_); intro t' h' F' N' l1; (try k_lt l1); (try dsimp only at N')) | (k_here; k_dflt (refine' exc_init (by k_asm) (by k_asm) (by k_in) (by k_updF) ?_); intro t' h' F' N' l1; (try k_lt l1); (try dsimp only at N'))) | ((with_reducible show wpAny _ _ (getMethod (Value.type "Exception") _ _) _ _ _); first | with_reducible (k_here; refine' method_type (by k_asm) (by k_asm) meta_exc (by decide +kernel) (exc_find _) (by k_handed) ?_) | (k_here; refine' method_type (by k_asm) (by k_asm) meta_exc (by decide +kernel) (exc_find _) (by k_handed) ?_)) | ((with_reducible show RaiseT _ _ _ _ _ _ _); first | with_reducible (k_here; refine RaiseT.intro (by k_in) (by k_asm) (by k_asm) (by k_mem) ?_) | (k_here; refine RaiseT.intro (by k_in) (by k_asm) (by k_asm) (by k_mem) ?_)) | ((with_reducible show wpAny _ _ (exec (Stmt.Raise _ _ _) _) _ _ _); first | with_reducible (k_here; k_dflt (refine' raise_tf (by k_asm) (by exact rfl) ?_)) | (k_here; k_dflt (refine' raise_tf (by k_asm) (by exact rfl) ?_))) | ((with_reducible show wpAny _ _ (leaving _ (Value.ref _)) _ _ _); first | with_reducible (k_here; first | (k_dflt (refine' leave_on2 (by assumption) (by assumption) (by assumption) (by assumption) ?_; k_whole); intro h' S' R' U'; (try dsimp only at S' R' U' ⊢); refine Stop.out ?_) | (k_dflt (refine' leave_tf' (by assumption) (by k_asm) (by k_asm) (by k_asm) (by k_mem) (by k_mem) (by ktd_sub) (by exact ne_ord (by ktn_ord)) (by exact ne_ord (by ktn_ord)) ?_; k_whole); intro h' S' R' U'; (try dsimp only at S' R' U' ⊢); refine Stop.out ?_)) | (k_here; first | (k_dflt (refine' leave_on2 (by assumption) (by assumption) (by assumption) (by assumption) ?_; k_whole); intro h' S' R' U'; (try dsimp only at S' R' U' ⊢); refine Stop.out ?_) | (k_dflt (refine' leave_tf' (by assumption) (by k_asm) (by k_asm) (by k_asm) (by k_mem) (by k_mem) (by ktd_sub) (by exact ne_ord (by ktn_ord)) (by exact ne_ord (by ktn_ord)) ?_; k_whole); intro h' S' R' U'; (try dsimp only at S' R' U' ⊢); refine Stop.out ?_))) | ((with_reducible show wpAny _ _ (execs (Stmt.Assign _ _ _ :: _ :: _) _) _ _ _); first | with_reducible (k_here; (with_reducible refine wpAny_execs_cons ?_); try dsimp only)) | ((with_reducible show RangeRest _ _ _ _ _ _ _ _ _ _ _ _ _ _ _ _ _); first | with_reducible (k_here; first | ((with_reducible refine RangeRest.succ ?_); intro t' h' tk' F' N') | ((with_reducible refine RangeRest.zero ?_); intro h' tk' F' N'))) | (k_end; kc_close) | walk1 | (dsimp only; walk1) | (leave1; (try dsimp only)))
  all_goals (unfold Stop; exact hret _ _ _ _ _ _ (by assumption) (by assumption) (raised_sub (by assumption) (by ktd_sub)))
set_option maxRecDepth 100000 in
set_option maxHeartbeats 8000000 in
theorem gn2 (w : World) (news0 news : List (Addr × Obj)) (S : Addr) (v : Value) (ps : List Value) (i : Int) (hs : ∀ p ∈ news0, p ∈ news) (hN : NodeE w news0 S v) (hL : Spec w 386 1 [.ref 392, v] news (Made news (LongPostG ps i))) :
   SpecE w 400 6 [.ref S, v] news := by
  unfold SpecE
  k_fill
  intro dp un gd cn cs a ccd cl outer A₀ base h₀ L m s loose mean mg mb Q E B F X N T hk hd hu hret
  refine wpAny_call ?_
  k_dflt (refine' code_def ?k1 ?k2 ?k3 ?k4 ?k5 ?kA ?kF ?kK ?k6 ?k7 ?k8 ?k9 ?kB ?_ ?c2 ?c3 ?c4 ?c5; (case kA => exact rfl); (case kF => exact rfl); (case kK => assumption); (case k1 => k_asm); (case k2 => k_asm); (case k3 => k_asm); (case k4 => k_asm); (case k5 => k_asm); (case k6 => k_is); (case k7 => k_is); (case k8 => ktr_room); (case k9 => first | exact binds_K (by k_in) rfl (by k_is) rfl rfl rfl | exact BindsTo.of_eq rfl); (case c5 => decide); (case kB => exact locs rfl); (case c2 => exact rfl); (case c3 => exact rfl); (case c4 => exact rfl); k_whole)
  intro g1 L1 h1 FG1 F1 N1 B1 X1 T1
  (try dsimp only)
  (try k_fold)
  repeat' (first | (k_unfold; (try dsimp only)) | ((with_reducible show wpAny _ _ (call (Value.ref _) _) _ _ _); first | with_reducible (k_here; (with_reducible show wpAny _ _ (call (Value.ref 372) _) _ _ _); k_dflt ( refine' spec_useE (f := 372) (by k_asm) (by k_asm) (by k_asm) (by k_asm) (by k_asm) (by first | exact rfl | assumption) (NodeE.use (by assumption) (by ktd_sub)) (by ktr_room) (by ktr_units) ?_; (intro e9 t9 vs9 g9 h9 tk9 FG9 U9 R9; (try dsimp only)))) | with_reducible (k_here; (with_reducible show wpAny _ _ (call (Value.ref 386) _) _ _ _); k_dflt ( refine' spec_use (f := 386) (by k_asm) (by k_asm) (by k_asm) (by k_asm) (by k_asm) (by first | exact rfl | assumption) (by assumption) (by ktr_room) (by ktr_units) (ret_longG ?_); (intro t9 pl9 nn9 tl9 h9 tk9 F9 N9 up9 m9 pi9 mm9 pg9; clear mm9; (try k_sweep); (try dsimp only); (try k_fold)))) | with_reducible (k_here; (with_reducible show wpAny _ _ (call (Value.ref 59) _) _ _ _); k_dflt (refine' call_tf (by k_asm) (by k_asm) (by k_in) (by exact Nat.le_of_ble_eq_true rfl) ?_); intro x' d' h' F' N' l1 l2; (try k_lt l1); (try k_lt2 l2); (try k_sweep); k_enter) | (k_here; (with_reducible show wpAny _ _ (call (Value.ref 59) _) _ _ _); k_dflt (refine' call_tf (by k_asm) (by k_asm) (by k_in) (by exact Nat.le_of_ble_eq_true rfl) ?_); intro x' d' h' F' N' l1 l2; (try k_lt l1); (try k_lt2 l2); (try k_sweep); k_enter)) | ((with_reducible show wpAny _ _ (setAttr (Value.ref _) _ _) _ _ _); first | with_reducible (k_here; k_dflt (first | (refine' set_exc1 (by k_asm) (by k_asm) (by k_in) (by k_updF) (by k_is) ?_; intro d' h' F' N' l1; (try k_lt l1); (try dsimp only at N')) | (refine' set_exc2 (by k_asm) (by k_asm) (by k_in) (by k_mem) (by k_mem) (by k_is) (by k_get) (by k_put) (by exact Nat.le_of_ble_eq_true rfl) (by k_upd) ?_; intro h' F' N'))) | (k_here; k_dflt (first | (refine' set_exc1 (by k_asm) (by k_asm) (by k_in) (by k_updF) (by k_is) ?_; intro d' h' F' N' l1; (try k_lt l1); (try dsimp only at N')) | (refine' set_exc2 (by k_asm) (by k_asm) (by k_in) (by k_mem) (by k_mem) (by k_is) (by k_get) (by k_put) (by exact Nat.le_of_ble_eq_true rfl) (by k_upd) ?_; intro h' F' N')))) | ((with_reducible show wpAny _ _ (call (Value.builtin "Exception.__init__") _) _ _ _); first | with_reducible (k_here; k_dflt (refine' exc_init (by k_asm) (by k_asm) (by k_in) (by k_updF) ?_); intro t' h' F' N' l1; (try k_lt l1); (try dsimp only at N')) | (k_here; k_dflt (refine' exc_init (by k_asm) (by k_asm) (by k_in) (by k_updF) ?_); intro t' h' F' N' l1; (try k_lt l1); (try dsimp only at N'))) | ((with_reducible show wpAny _ _ (getMethod (Value.type "Exception") _ _) _ _ _); first | with_reducible (k_here; refine' method_type (by k_asm) (by k_asm) meta_exc (by decide +kernel) (exc_find _) (by k_handed) ?_) | (k_here; refine' method_type (by k_asm) (by k_asm) meta_exc (by decide +kernel) (exc_find _) (by k_handed) ?_)) | ((with_reducible show RaiseT _ _ _ _ _ _ _); first | with_reducible (k_here; refine RaiseT.intro (by k_in) (by k_asm) (by k_asm) (by k_mem) ?_) | (k_here; refine RaiseT.intro (by k_in) (by k_asm) (by k_asm) (by k_mem) ?_)) | ((with_reducible show wpAny _ _ (exec (Stmt.Raise _ _ _) _) _ _ _); first | with_reducible (k_here; k_dflt (refine' raise_tf (by k_asm) (by exact rfl) ?_)) | (k_here; k_dflt (refine' raise_tf (by k_asm) (by exact rfl) ?_))) | ((with_reducible show wpAny _ _ (leaving _ (Value.ref _)) _ _ _); first | with_reducible (k_here; first | (k_dflt (refine' leave_on2 (by assumption) (by assumption) (by assumption) (by assumption) ?_; k_whole); intro h' S' R' U'; (try dsimp only at S' R' U' ⊢); refine Stop.out ?_) | (k_dflt (refine' leave_tf' (by assumption) (by k_asm) (by k_asm) (by k_asm) (by k_mem) (by k_mem) (by ktd_sub) (by exact ne_ord (by ktn_ord)) (by exact ne_ord (by ktn_ord)) ?_; k_whole); intro h' S' R' U'; (try dsimp only at S' R' U' ⊢); refine Stop.out ?_)) | (k_here; first | (k_dflt (refine' leave_on2 (by assumption) (by assumption) (by assumption) (by assumption) ?_; k_whole); intro h' S' R' U'; (try dsimp only at S' R' U' ⊢); refine Stop.out ?_) | (k_dflt (refine' leave_tf' (by assumption) (by k_asm) (by k_asm) (by k_asm) (by k_mem) (by k_mem) (by ktd_sub) (by exact ne_ord (by ktn_ord)) (by exact ne_ord (by ktn_ord)) ?_; k_whole); intro h' S' R' U'; (try dsimp only at S' R' U' ⊢); refine Stop.out ?_))) | ((with_reducible show wpAny _ _ (execs (Stmt.Assign _ _ _ :: _ :: _) _) _ _ _); first | with_reducible (k_here; (with_reducible refine wpAny_execs_cons ?_); try dsimp only)) | ((with_reducible show RangeRest _ _ _ _ _ _ _ _ _ _ _ _ _ _ _ _ _); first | with_reducible (k_here; first | ((with_reducible refine RangeRest.succ ?_); intro t' h' tk' F' N') | ((with_reducible refine RangeRest.zero ?_); intro h' tk' F' N'))) | (k_end; kc_close) | walk1 | (dsimp only; walk1) | (leave1; (try dsimp only)))
  all_goals (unfold Stop; exact hret _ _ _ _ _ _ (by assumption) (by assumption) (raised_sub (by assumption) (by ktd_sub)))
end
end
end
section
theorem walk_plain_ExcG : True := by
  w_top off
  trivial
theorem mem_in9 {n a tl : List (Addr × Obj)} {x : Addr × Obj} (e : n = a ++ tl) (h : x ∈ tl) : x ∈ n := by rw [e]; exact List.mem_append.mpr (.inr h)
section
local macro_rules | `(tactic| k_all) => `(tactic| ((fail_if_success (refine' List.forall_mem_cons.mpr ⟨?_, ?_⟩)); exact ne_ord (by ktn_ord)))
section
section
set_option maxRecDepth 100000 in
set_option maxHeartbeats 8000000 in
theorem gk3 (w : World) (news0 news : List (Addr × Obj)) (S u : Addr) (way : Addr) (ou : Obj) (v lv : Value) (b : Addr) (kid : Value) (mb0 : Nat) (lim : Option (List Item)) (ps : List Value) (l : List Int) (i : Int) (sz : Nat) (hs : ∀ p ∈ news0, p ∈ news) (hu0 : (u, ou) ∈ news0) (lo : (u == sysModules) = false)
   (hd : ou.IsDictOf (PySem.strKind PySem.Challenge.rw_og0169_01.row.prog w) (limKv lim lv ++ [(Str.ofString "Kids", .ref b)])) (hb0 : (b, listOf [kid].toArray mb0) ∈ news0) (hN : NodeC w news0 S v u) (hR : RowC w news0 S b) (hL : Spec w 386 1 [.ref way, v] news (Made news (LongPostG ps i))) (hW : WayIs news l ps) (hK : GathE w news0 S sz kid (l ++ [i])) (dS T R : Addr) (k1 k2 : Tok) (n2 : Nat) (h1 : (S, instObj 363 dS) ∈ news) (h2 : (dS, dictOf (shelfD w k1 k2 T R) n2) ∈ news) (hsz : 6 ≤ sz) :
   SpecE w 400 (sz + 1) [.ref S, v, .ref way] news := by
  have hu1 := hs _ hu0
  have hb1 := hs _ hb0
  unfold SpecE
  k_fill
  intro dp un gd cn cs a ccd cl outer A₀ base h₀ L m s loose mean mg mb Q E B F X N T hk hd hu hret
  refine wpAny_call ?_
  k_dflt (refine' code_def ?k1 ?k2 ?k3 ?k4 ?k5 ?kA ?kF ?kK ?k6 ?k7 ?k8 ?k9 ?kB ?_ ?c2 ?c3 ?c4 ?c5; (case kA => exact rfl); (case kF => exact rfl); (case kK => assumption); (case k1 => k_asm); (case k2 => k_asm); (case k3 => k_asm); (case k4 => k_asm); (case k5 => k_asm); (case k6 => k_is); (case k7 => k_is); (case k8 => ktr_room); (case k9 => first | exact binds_K (by k_in) rfl (by k_is) rfl rfl rfl | exact BindsTo.of_eq rfl); (case c5 => decide); (case kB => exact locs rfl); (case c2 => exact rfl); (case c3 => exact rfl); (case c4 => exact rfl); k_whole)
  intro g1 L1 h1 FG1 F1 N1 B1 X1 T1
  (try dsimp only)
  (try k_fold)
  repeat' (first | (k_unfold; (try dsimp only)) | ((with_reducible show wpAny _ _ (pyIter (Value.ref _)) _ _ _); first | with_reducible (k_here; (with_reducible show wpAny _ _ (pyIter (Value.ref _)) (fun it s₂ => LoopAtV _ _ _ _ _ _ _ _ _ it s₂) _ _); (rename Fr _ _ _ _ => lF'); (rename News _ _ _ _ => lN'); (with_unfolding_all refine' iter_listUnr (by rfl) (by exact lF') (by exact lN') (by k_mem) (by rfl) (by rfl) ?_); clear lF' lN'; intro i' l1; (try k_lt l1)) | (k_here; (with_reducible show wpAny _ _ (pyIter (Value.ref _)) (fun it s₂ => LoopAtV _ _ _ _ _ _ _ _ _ it s₂) _ _); (rename Fr _ _ _ _ => lF'); (rename News _ _ _ _ => lN'); (with_unfolding_all refine' iter_listUnr (by rfl) (by exact lF') (by exact lN') (by k_mem) (by rfl) (by rfl) ?_); clear lF' lN'; intro i' l1; (try k_lt l1))) | ((with_reducible show wpAny _ _ (call (Value.builtin "list.append") _) _ _ _); first | with_reducible (k_here; (with_reducible show wpAny _ _ (call (Value.builtin _) [Value.ref _, _]) _ _ _); k_dflt (refine' append_K (by k_asm) (by k_asm) (by k_upd) ?_ (by (rw [List.size_toArray, sizeLine_eq]; omega)); k_whole); intro h' F' N'; (try k_sweep))) | ((with_reducible show wpAny _ _ (compareOp CmpOp.In (Value.str _ _) (Value.ref _)) _ _ _); first | with_reducible (k_here; k_dflt (refine' kids_yes (by k_asm) (by k_mem) (by assumption) (by assumption) ?_))) | ((with_reducible show wpAny _ _ (call (Value.ref _) _) _ _ _); first | with_reducible (k_here; (with_reducible show wpAny _ _ (call (Value.ref 400) _) _ _ _); k_dflt ( refine' spec_useE (f := 400) (by k_asm) (by k_asm) (by k_asm) (by k_asm) (by k_asm) (by first | exact rfl | assumption) (GathE.use (by assumption) (by ktd_sub) (by k_mem) (by exact WayIs.snoc (by assumption) (PlaceG.mono (by assumption) (by ktd_sub)) (by ktd_sub))) (by ktr_room) (by ktr_units) ?_; (intro e9 t9 vs9 g9 h9 tk9 FG9 U9 R9; (try dsimp only)))) | with_reducible (k_here; (with_reducible show wpAny _ _ (call (Value.ref 379) _) _ _ _); k_dflt ( refine' spec_use (f := 379) (by k_asm) (by k_asm) (by k_asm) (by k_asm) (by k_asm) (by first | exact rfl | assumption) (RowC.use (by assumption) (by ktd_sub) (by k_mem) (by assumption) (by assumption)) (by ktr_room) (by ktr_units) (ret_same ?_); (intro h9 tk9 F9 N9; (try k_sweep); (try dsimp only); (try k_fold)))) | with_reducible (k_here; (with_reducible show wpAny _ _ (call (Value.ref 372) _) _ _ _); k_dflt ( refine' spec_use (f := 372) (by k_asm) (by k_asm) (by k_asm) (by k_asm) (by k_asm) (by first | exact rfl | assumption) (NodeC.use (by assumption) (by ktd_sub)) (by ktr_room) (by ktr_units) (ret_same ?_); (intro h9 tk9 F9 N9; (try k_sweep); (try dsimp only); (try k_fold)))) | with_reducible (k_here; (with_reducible show wpAny _ _ (call (Value.ref 386) _) _ _ _); k_dflt ( refine' spec_use (f := 386) (by k_asm) (by k_asm) (by k_asm) (by k_asm) (by k_asm) (by first | exact rfl | assumption) (by assumption) (by ktr_room) (by ktr_units) (ret_longG ?_); (intro t9 pl9 nn9 tl9 h9 tk9 F9 N9 up9 m9 pi9 mm9 pg9; (try k_sweep); (try dsimp only); (try k_fold)))) | with_reducible (k_here; (with_reducible show wpAny _ _ (call (Value.ref 59) _) _ _ _); k_dflt (refine' call_tf (by k_asm) (by k_asm) (by k_in) (by exact Nat.le_of_ble_eq_true rfl) ?_); intro x' d' h' F' N' l1 l2; (try k_lt l1); (try k_lt2 l2); (try k_sweep); k_enter) | (k_here; (with_reducible show wpAny _ _ (call (Value.ref 59) _) _ _ _); k_dflt (refine' call_tf (by k_asm) (by k_asm) (by k_in) (by exact Nat.le_of_ble_eq_true rfl) ?_); intro x' d' h' F' N' l1 l2; (try k_lt l1); (try k_lt2 l2); (try k_sweep); k_enter)) | ((with_reducible show wpAny _ _ (call (Value.type "dict") _) _ _ _); first | with_reducible (k_here; k_dflt (refine' dict_copy (knd := PySem.strKind _ _) (by k_asm) (by k_asm) (by exact Top.nolimit (by k_asm)) (by k_mem) (by assumption) (by assumption) (by (rw [List.length_append]; have := @limKv_len; exact Nat.le_trans (Nat.add_le_add (limKv_len) (Nat.le_refl _)) (Nat.le_of_ble_eq_true rfl))) ?_); intro D' h' o' F' N' l1 lo' hd')) | ((with_reducible show wpAny _ _ (setAttr (Value.ref _) _ _) _ _ _); first | with_reducible (k_here; k_dflt (first | (refine' set_exc1 (by k_asm) (by k_asm) (by k_in) (by k_updF) (by k_is) ?_; intro d' h' F' N' l1; (try k_lt l1); (try dsimp only at N')) | (refine' set_exc2 (by k_asm) (by k_asm) (by k_in) (by k_mem) (by k_mem) (by k_is) (by k_get) (by k_put) (by exact Nat.le_of_ble_eq_true rfl) (by k_upd) ?_; intro h' F' N'))) | (k_here; k_dflt (first | (refine' set_exc1 (by k_asm) (by k_asm) (by k_in) (by k_updF) (by k_is) ?_; intro d' h' F' N' l1; (try k_lt l1); (try dsimp only at N')) | (refine' set_exc2 (by k_asm) (by k_asm) (by k_in) (by k_mem) (by k_mem) (by k_is) (by k_get) (by k_put) (by exact Nat.le_of_ble_eq_true rfl) (by k_upd) ?_; intro h' F' N')))) | ((with_reducible show wpAny _ _ (call (Value.builtin "Exception.__init__") _) _ _ _); first | with_reducible (k_here; k_dflt (refine' exc_init (by k_asm) (by k_asm) (by k_in) (by k_updF) ?_); intro t' h' F' N' l1; (try k_lt l1); (try dsimp only at N')) | (k_here; k_dflt (refine' exc_init (by k_asm) (by k_asm) (by k_in) (by k_updF) ?_); intro t' h' F' N' l1; (try k_lt l1); (try dsimp only at N'))) | ((with_reducible show wpAny _ _ (getMethod (Value.type "Exception") _ _) _ _ _); first | with_reducible (k_here; refine' method_type (by k_asm) (by k_asm) meta_exc (by decide +kernel) (exc_find _) (by k_handed) ?_) | (k_here; refine' method_type (by k_asm) (by k_asm) meta_exc (by decide +kernel) (exc_find _) (by k_handed) ?_)) | ((with_reducible show RaiseT _ _ _ _ _ _ _); first | with_reducible (k_here; refine RaiseT.intro (by k_in) (by k_asm) (by k_asm) (by k_mem) ?_) | (k_here; refine RaiseT.intro (by k_in) (by k_asm) (by k_asm) (by k_mem) ?_)) | ((with_reducible show wpAny _ _ (exec (Stmt.Raise _ _ _) _) _ _ _); first | with_reducible (k_here; k_dflt (refine' raise_tf (by k_asm) (by exact rfl) ?_)) | (k_here; k_dflt (refine' raise_tf (by k_asm) (by exact rfl) ?_))) | ((with_reducible show wpAny _ _ (leaving _ (Value.ref _)) _ _ _); first | with_reducible (k_here; first | (k_dflt (refine' leave_on2 (by assumption) (by assumption) (by assumption) (by assumption) ?_; k_whole); intro h' S' R' U'; (try dsimp only at S' R' U' ⊢); refine Stop.out ?_) | (k_dflt (refine' leave_tf' (by assumption) (by k_asm) (by k_asm) (by k_asm) (by k_mem) (by k_mem) (by ktd_sub) (by exact ne_ord (by ktn_ord)) (by exact ne_ord (by ktn_ord)) ?_; k_whole); intro h' S' R' U'; (try dsimp only at S' R' U' ⊢); refine Stop.out ?_)) | (k_here; first | (k_dflt (refine' leave_on2 (by assumption) (by assumption) (by assumption) (by assumption) ?_; k_whole); intro h' S' R' U'; (try dsimp only at S' R' U' ⊢); refine Stop.out ?_) | (k_dflt (refine' leave_tf' (by assumption) (by k_asm) (by k_asm) (by k_asm) (by k_mem) (by k_mem) (by ktd_sub) (by exact ne_ord (by ktn_ord)) (by exact ne_ord (by ktn_ord)) ?_; k_whole); intro h' S' R' U'; (try dsimp only at S' R' U' ⊢); refine Stop.out ?_))) | ((with_reducible show wpAny _ _ (execs (Stmt.Assign _ _ _ :: _ :: _) _) _ _ _); first | with_reducible (k_here; (with_reducible refine wpAny_execs_cons ?_); try dsimp only)) | ((with_reducible show RangeRest _ _ _ _ _ _ _ _ _ _ _ _ _ _ _ _ _); first | with_reducible (k_here; first | ((with_reducible refine RangeRest.succ ?_); intro t' h' tk' F' N') | ((with_reducible refine RangeRest.zero ?_); intro h' tk' F' N'))) | (k_end; kc_close) | walk1 | (dsimp only; walk1) | (leave1; (try dsimp only)))
  all_goals (unfold Stop; exact hret _ _ _ _ _ _ (by assumption) (by assumption) (raised_sub (by assumption) (by ktd_sub)))
set_option maxRecDepth 100000 in
set_option maxHeartbeats 8000000 in
theorem gk2 (w : World) (news0 news : List (Addr × Obj)) (S u : Addr) (ou : Obj) (v lv : Value) (b : Addr) (kid : Value) (mb0 : Nat) (lim : Option (List Item)) (ps : List Value) (l : List Int) (i : Int) (sz : Nat) (hs : ∀ p ∈ news0, p ∈ news) (hu0 : (u, ou) ∈ news0) (lo : (u == sysModules) = false)
   (hd : ou.IsDictOf (PySem.strKind PySem.Challenge.rw_og0169_01.row.prog w) (limKv lim lv ++ [(Str.ofString "Kids", .ref b)])) (hb0 : (b, listOf [kid].toArray mb0) ∈ news0) (hN : NodeC w news0 S v u) (hR : RowC w news0 S b) (hL : Spec w 386 1 [.ref 392, v] news (Made news (LongPostG ps i))) (hW : WayIs news l ps) (hK : GathE w news0 S sz kid (l ++ [i])) (dS T R : Addr) (k1 k2 : Tok) (n2 : Nat) (h1 : (S, instObj 363 dS) ∈ news) (h2 : (dS, dictOf (shelfD w k1 k2 T R) n2) ∈ news) (hsz : 6 ≤ sz) :
   SpecE w 400 (sz + 1) [.ref S, v] news := by
  have hu1 := hs _ hu0
  have hb1 := hs _ hb0
  unfold SpecE
  k_fill
  intro dp un gd cn cs a ccd cl outer A₀ base h₀ L m s loose mean mg mb Q E B F X N T hk hd hu hret
  refine wpAny_call ?_
  k_dflt (refine' code_def ?k1 ?k2 ?k3 ?k4 ?k5 ?kA ?kF ?kK ?k6 ?k7 ?k8 ?k9 ?kB ?_ ?c2 ?c3 ?c4 ?c5; (case kA => exact rfl); (case kF => exact rfl); (case kK => assumption); (case k1 => k_asm); (case k2 => k_asm); (case k3 => k_asm); (case k4 => k_asm); (case k5 => k_asm); (case k6 => k_is); (case k7 => k_is); (case k8 => ktr_room); (case k9 => first | exact binds_K (by k_in) rfl (by k_is) rfl rfl rfl | exact BindsTo.of_eq rfl); (case c5 => decide); (case kB => exact locs rfl); (case c2 => exact rfl); (case c3 => exact rfl); (case c4 => exact rfl); k_whole)
  intro g1 L1 h1 FG1 F1 N1 B1 X1 T1
  (try dsimp only)
  (try k_fold)
  repeat' (first | (k_unfold; (try dsimp only)) | ((with_reducible show wpAny _ _ (pyIter (Value.ref _)) _ _ _); first | with_reducible (k_here; (with_reducible show wpAny _ _ (pyIter (Value.ref _)) (fun it s₂ => LoopAtV _ _ _ _ _ _ _ _ _ it s₂) _ _); (rename Fr _ _ _ _ => lF'); (rename News _ _ _ _ => lN'); (with_unfolding_all refine' iter_listUnr (by rfl) (by exact lF') (by exact lN') (by k_mem) (by rfl) (by rfl) ?_); clear lF' lN'; intro i' l1; (try k_lt l1)) | (k_here; (with_reducible show wpAny _ _ (pyIter (Value.ref _)) (fun it s₂ => LoopAtV _ _ _ _ _ _ _ _ _ it s₂) _ _); (rename Fr _ _ _ _ => lF'); (rename News _ _ _ _ => lN'); (with_unfolding_all refine' iter_listUnr (by rfl) (by exact lF') (by exact lN') (by k_mem) (by rfl) (by rfl) ?_); clear lF' lN'; intro i' l1; (try k_lt l1))) | ((with_reducible show wpAny _ _ (call (Value.builtin "list.append") _) _ _ _); first | with_reducible (k_here; (with_reducible show wpAny _ _ (call (Value.builtin _) [Value.ref _, _]) _ _ _); k_dflt (refine' append_K (by k_asm) (by k_asm) (by k_upd) ?_ (by (rw [List.size_toArray, sizeLine_eq]; omega)); k_whole); intro h' F' N'; (try k_sweep))) | ((with_reducible show wpAny _ _ (compareOp CmpOp.In (Value.str _ _) (Value.ref _)) _ _ _); first | with_reducible (k_here; k_dflt (refine' kids_yes (by k_asm) (by k_mem) (by assumption) (by assumption) ?_))) | ((with_reducible show wpAny _ _ (call (Value.ref _) _) _ _ _); first | with_reducible (k_here; (with_reducible show wpAny _ _ (call (Value.ref 400) _) _ _ _); k_dflt ( refine' spec_useE (f := 400) (by k_asm) (by k_asm) (by k_asm) (by k_asm) (by k_asm) (by first | exact rfl | assumption) (GathE.use (by assumption) (by ktd_sub) (by k_mem) (by exact WayIs.snoc (by assumption) (PlaceG.mono (by assumption) (by ktd_sub)) (by ktd_sub))) (by ktr_room) (by ktr_units) ?_; (intro e9 t9 vs9 g9 h9 tk9 FG9 U9 R9; (try dsimp only)))) | with_reducible (k_here; (with_reducible show wpAny _ _ (call (Value.ref 379) _) _ _ _); k_dflt ( refine' spec_use (f := 379) (by k_asm) (by k_asm) (by k_asm) (by k_asm) (by k_asm) (by first | exact rfl | assumption) (RowC.use (by assumption) (by ktd_sub) (by k_mem) (by assumption) (by assumption)) (by ktr_room) (by ktr_units) (ret_same ?_); (intro h9 tk9 F9 N9; (try k_sweep); (try dsimp only); (try k_fold)))) | with_reducible (k_here; (with_reducible show wpAny _ _ (call (Value.ref 372) _) _ _ _); k_dflt ( refine' spec_use (f := 372) (by k_asm) (by k_asm) (by k_asm) (by k_asm) (by k_asm) (by first | exact rfl | assumption) (NodeC.use (by assumption) (by ktd_sub)) (by ktr_room) (by ktr_units) (ret_same ?_); (intro h9 tk9 F9 N9; (try k_sweep); (try dsimp only); (try k_fold)))) | with_reducible (k_here; (with_reducible show wpAny _ _ (call (Value.ref 386) _) _ _ _); k_dflt ( refine' spec_use (f := 386) (by k_asm) (by k_asm) (by k_asm) (by k_asm) (by k_asm) (by first | exact rfl | assumption) (by assumption) (by ktr_room) (by ktr_units) (ret_longG ?_); (intro t9 pl9 nn9 tl9 h9 tk9 F9 N9 up9 m9 pi9 mm9 pg9; (try k_sweep); (try dsimp only); (try k_fold)))) | with_reducible (k_here; (with_reducible show wpAny _ _ (call (Value.ref 59) _) _ _ _); k_dflt (refine' call_tf (by k_asm) (by k_asm) (by k_in) (by exact Nat.le_of_ble_eq_true rfl) ?_); intro x' d' h' F' N' l1 l2; (try k_lt l1); (try k_lt2 l2); (try k_sweep); k_enter) | (k_here; (with_reducible show wpAny _ _ (call (Value.ref 59) _) _ _ _); k_dflt (refine' call_tf (by k_asm) (by k_asm) (by k_in) (by exact Nat.le_of_ble_eq_true rfl) ?_); intro x' d' h' F' N' l1 l2; (try k_lt l1); (try k_lt2 l2); (try k_sweep); k_enter)) | ((with_reducible show wpAny _ _ (call (Value.type "dict") _) _ _ _); first | with_reducible (k_here; k_dflt (refine' dict_copy (knd := PySem.strKind _ _) (by k_asm) (by k_asm) (by exact Top.nolimit (by k_asm)) (by k_mem) (by assumption) (by assumption) (by (rw [List.length_append]; have := @limKv_len; exact Nat.le_trans (Nat.add_le_add (limKv_len) (Nat.le_refl _)) (Nat.le_of_ble_eq_true rfl))) ?_); intro D' h' o' F' N' l1 lo' hd')) | ((with_reducible show wpAny _ _ (setAttr (Value.ref _) _ _) _ _ _); first | with_reducible (k_here; k_dflt (first | (refine' set_exc1 (by k_asm) (by k_asm) (by k_in) (by k_updF) (by k_is) ?_; intro d' h' F' N' l1; (try k_lt l1); (try dsimp only at N')) | (refine' set_exc2 (by k_asm) (by k_asm) (by k_in) (by k_mem) (by k_mem) (by k_is) (by k_get) (by k_put) (by exact Nat.le_of_ble_eq_true rfl) (by k_upd) ?_; intro h' F' N'))) | (k_here; k_dflt (first | (refine' set_exc1 (by k_asm) (by k_asm) (by k_in) (by k_updF) (by k_is) ?_; intro d' h' F' N' l1; (try k_lt l1); (try dsimp only at N')) | (refine' set_exc2 (by k_asm) (by k_asm) (by k_in) (by k_mem) (by k_mem) (by k_is) (by k_get) (by k_put) (by exact Nat.le_of_ble_eq_true rfl) (by k_upd) ?_; intro h' F' N')))) | ((with_reducible show wpAny _ _ (call (Value.builtin "Exception.__init__") _) _ _ _); first | with_reducible (k_here; k_dflt (refine' exc_init (by k_asm) (by k_asm) (by k_in) (by k_updF) ?_); intro t' h' F' N' l1; (try k_lt l1); (try dsimp only at N')) | (k_here; k_dflt (refine' exc_init (by k_asm) (by k_asm) (by k_in) (by k_updF) ?_); intro t' h' F' N' l1; (try k_lt l1); (try dsimp only at N'))) | ((with_reducible show wpAny _ _ (getMethod (Value.type "Exception") _ _) _ _ _); first | with_reducible (k_here; refine' method_type (by k_asm) (by k_asm) meta_exc (by decide +kernel) (exc_find _) (by k_handed) ?_) | (k_here; refine' method_type (by k_asm) (by k_asm) meta_exc (by decide +kernel) (exc_find _) (by k_handed) ?_)) | ((with_reducible show RaiseT _ _ _ _ _ _ _); first | with_reducible (k_here; refine RaiseT.intro (by k_in) (by k_asm) (by k_asm) (by k_mem) ?_) | (k_here; refine RaiseT.intro (by k_in) (by k_asm) (by k_asm) (by k_mem) ?_)) | ((with_reducible show wpAny _ _ (exec (Stmt.Raise _ _ _) _) _ _ _); first | with_reducible (k_here; k_dflt (refine' raise_tf (by k_asm) (by exact rfl) ?_)) | (k_here; k_dflt (refine' raise_tf (by k_asm) (by exact rfl) ?_))) | ((with_reducible show wpAny _ _ (leaving _ (Value.ref _)) _ _ _); first | with_reducible (k_here; first | (k_dflt (refine' leave_on2 (by assumption) (by assumption) (by assumption) (by assumption) ?_; k_whole); intro h' S' R' U'; (try dsimp only at S' R' U' ⊢); refine Stop.out ?_) | (k_dflt (refine' leave_tf' (by assumption) (by k_asm) (by k_asm) (by k_asm) (by k_mem) (by k_mem) (by ktd_sub) (by exact ne_ord (by ktn_ord)) (by exact ne_ord (by ktn_ord)) ?_; k_whole); intro h' S' R' U'; (try dsimp only at S' R' U' ⊢); refine Stop.out ?_)) | (k_here; first | (k_dflt (refine' leave_on2 (by assumption) (by assumption) (by assumption) (by assumption) ?_; k_whole); intro h' S' R' U'; (try dsimp only at S' R' U' ⊢); refine Stop.out ?_) | (k_dflt (refine' leave_tf' (by assumption) (by k_asm) (by k_asm) (by k_asm) (by k_mem) (by k_mem) (by ktd_sub) (by exact ne_ord (by ktn_ord)) (by exact ne_ord (by ktn_ord)) ?_; k_whole); intro h' S' R' U'; (try dsimp only at S' R' U' ⊢); refine Stop.out ?_))) | ((with_reducible show wpAny _ _ (execs (Stmt.Assign _ _ _ :: _ :: _) _) _ _ _); first | with_reducible (k_here; (with_reducible refine wpAny_execs_cons ?_); try dsimp only)) | ((with_reducible show RangeRest _ _ _ _ _ _ _ _ _ _ _ _ _ _ _ _ _); first | with_reducible (k_here; first | ((with_reducible refine RangeRest.succ ?_); intro t' h' tk' F' N') | ((with_reducible refine RangeRest.zero ?_); intro h' tk' F' N'))) | (k_end; kc_close) | walk1 | (dsimp only; walk1) | (leave1; (try dsimp only)))
  all_goals (unfold Stop; exact hret _ _ _ _ _ _ (by assumption) (by assumption) (raised_sub (by assumption) (by ktd_sub)))
end
end
end
/-- a row of the table that holds a node -/
def RowAt (w : World) (news : List (Addr × Obj)) (tab : List Value) (k : Int) (u b : Addr) (kid : Value) : Prop :=
  1 ≤ k ∧ (∃ t e n, tab[(k - 1).toNat]? = some (.ref t) ∧ (t, tupOf #[.int 0 e, .ref u] n) ∈ news) ∧ DictAt w news u [(Str.ofString "Kids", .ref b)] ∧ ∃ m, (b, listOf [kid].toArray m) ∈ news
section
variable {w : World} {news : List (Addr × Obj)} {tab : List Value} {S T : Addr} {oT : Obj}
theorem RowAt.node (hS : ShelfAt w news S T) (hT0 : (T, oT) ∈ news) (hT : TabIs w oT tab) {k : Int} {u b : Addr} {kid v : Value} (h : RowAt w news tab k u b kid) (hr : RefIs w news v k 0) : NodeC w news S v u := by
  obtain ⟨k1, ⟨t, e, n, ht, hm⟩, hd, _⟩ := h
  obtain ⟨x, dx, tk, tk', t1, t2, n', rfl, e2, e3⟩ := hr
  exact nodeC_of hS hT0 hT (h := 1) (by decide) ⟨.ref u, ⟨x, dx, t, k, tk, tk', t1, t2, e, n', n, rfl, e2, e3, k1, ht, hm⟩, rfl⟩ hd
theorem WayIs.ne {l : List Int} {ps : List Value} {k : Int} (h : WayIs news l ps) (hk : ∀ i ∈ l, i ≠ k) : ∀ v ∈ ps, ∃ i, PlaceIs news v i ∧ i ≠ k := by
  induction ps generalizing l with
  | nil => exact fun v hv => nomatch hv
  | cons p ps ih =>
    cases l with
    | nil => exact (h : False).elim
    | cons i l =>
      intro v hv
      rcases List.mem_cons.mp hv with rfl | hv
      · exact ⟨i, (h : _ ∧ _).1.is, hk i (.head _)⟩
      · exact ih (h : _ ∧ _).2 (fun j hj => hk j (.tail _ hj)) v hv
theorem RefIs.long1 {news0 : List (Addr × Obj)} {v : Value} {k : Int} (hr : RefIs w news0 v k 0) {way : Addr} {ps : List Value} {l : List Int} {n : Nat} (hs : ∀ p ∈ news0, p ∈ news) (ht : (way, tupOf ps.toArray n) ∈ news) (hW : WayIs news l ps) (h0 : l ≠ []) (hl : l.length ≤ 40) (hk : ∀ i ∈ l, i ≠ k) : Spec w 386 1 [.ref way, v] news (Made news (LongPostG ps k)) := by
  have hr := hr.mono hs
  obtain ⟨x, dx, tk, tk', t1, t2, n', rfl, e2, e3⟩ := hr
  have e := All2.length hW
  exact longer_g1 w way x dx ps n k tk tk' t1 t2 n' news ht (by rintro rfl; cases l with | nil => exact h0 rfl | cons _ _ => cases e) (by omega) (hW.ne hk) e2 e3
theorem RefIs.long0 {v : Value} {k : Int} (hr : RefIs w news v k 0) : Spec w 386 1 [.ref 392, v] news (Made news (LongPostG [] k)) := by
  obtain ⟨x, dx, tk, tk', t1, t2, n', rfl, e2, e3⟩ := hr
  exact longer_g0 w x dx k tk tk' t1 t2 n' news e2 e3
/-- a node below a way, whose child raises -/
theorem gath_kid (hS : ShelfAt w news S T) (hT0 : (T, oT) ∈ news) (hT : TabIs w oT tab) {k : Int} {u b : Addr} {kid v : Value} {l : List Int} {sz : Nat} (h : RowAt w news tab k u b kid) (hr : RefIs w news v k 0) (h0 : l ≠ []) (hl : l.length ≤ 40) (hk : ∀ i ∈ l, i ≠ k) (hz : 6 ≤ sz) (hK : GathE w news S sz kid (l ++ [k])) : GathE w news S (sz + 1) v l := by
  intro news' way ps n hs hm hW
  have hN := h.node hS hT0 hT hr
  obtain ⟨k1, _, ⟨o, ho, lo, hd⟩, mb, hb⟩ := h
  obtain ⟨dS, R, k1, k2, n2, s1, s2, lT⟩ := id hS
  exact gk3 w news news' S u way o v .none b kid mb none ps l k sz hs ho lo hd hb hN (rowC_of hS hT0 hT hb) (hr.long1 hs hm hW h0 hl hk) hW hK dS T R k1 k2 n2 (hs _ s1) (hs _ s2) hz
/-- the root, whose child raises -/
theorem gath_top (hS : ShelfAt w news S T) (hT0 : (T, oT) ∈ news) (hT : TabIs w oT tab) {k : Int} {u b : Addr} {kid v : Value} {sz : Nat} (h : RowAt w news tab k u b kid) (hr : RefIs w news v k 0) (hz : 6 ≤ sz) (hK : GathE w news S sz kid [k]) : SpecE w 400 (sz + 1) [.ref S, v] news := by
  have hN := h.node hS hT0 hT hr
  obtain ⟨k1, _, ⟨o, ho, lo, hd⟩, mb, hb⟩ := h
  obtain ⟨dS, R, k1, k2, n2, s1, s2, lT⟩ := id hS
  exact gk2 w news news S u o v .none b kid mb none [] [] k sz (fun _ h => h) ho lo hd hb hN (rowC_of hS hT0 hT hb) hr.long0 trivial hK dS T R k1 k2 n2 s1 s2 hz
/-- the ring is refused -/
theorem ring_raise (hS : ShelfAt w news S T) (hT0 : (T, oT) ∈ news) (hT : TabIs w oT tab) {u1 u2 u3 b1 b2 b3 : Addr} {v c1 c2 c3 : Value} (r1 : RowAt w news tab 1 u1 b1 c1) (r2 : RowAt w news tab 2 u2 b2 c2) (r3 : RowAt w news tab 3 u3 b3 c3)
    (h1 : RefIs w news v 1 0) (h2 : RefIs w news c1 2 0) (h3 : RefIs w news c2 3 0) (h4 : RefIs w news c3 2 0) : SpecE w 400 9 [.ref S, v] news := by
  refine gath_top hS hT0 hT r1 h1 (by decide) (gath_kid hS hT0 hT r2 h2 (by decide) (by decide) (by decide) (by decide) (gath_kid hS hT0 hT r3 h3 (by decide) (by decide) (by decide) (by decide) ?_))
  intro news' way ps n hs hm hW
  refine gl3 w news' S way c3 ?_
  have h4 := h4.mono hs
  obtain ⟨x, dx, tk, tk', t1, t2, n', rfl, e2, e3⟩ := h4
  obtain ⟨_, ps, rfl, ⟨a1, x1, y1, n1, rfl, p1⟩, hW2⟩ := All2.uncons hW
  obtain ⟨_, ps, rfl, ⟨a2, x2, y2, n2, rfl, p2⟩, hW3⟩ := All2.uncons hW2
  obtain ⟨_, ps, rfl, ⟨a3, x3, y3, n3, rfl, p3⟩, hW4⟩ := All2.uncons hW3
  cases ps with
  | cons _ _ => exact hW4.elim
  | nil => exact longer_raise w way x dx a1 a2 a3 n n1 n2 n3 x1 y1 x2 y2 x3 y3 tk tk' t1 t2 n' news' hm p1 p2 p3 e2 e3
theorem odd_raise (hS : ShelfAt w news S T) (hT0 : (T, oT) ∈ news) (hT : TabIs w oT tab) {u1 b1 t : Addr} {e : Tok} {n3 : Nat} {v c1 val : Value} (r1 : RowAt w news tab 1 u1 b1 c1) (h1 : RefIs w news v 1 0) (h2 : RefIs w news c1 2 0) (ht : tab[1]? = some (.ref t)) (hrow : (t, tupOf #[.int 0 e, val] n3) ∈ news) (hv : PlainV val) : SpecE w 400 7 [.ref S, v] news := by
  refine gath_top hS hT0 hT r1 h1 (by decide) ?_
  intro news' way ps n hs hm hW
  refine gn3 w news news' S way c1 ps 2 hs (fun nx hx => ?_) (h2.long1 hs hm hW (by decide) (by decide) (by decide))
  obtain ⟨dS, R, k1, k2, n2, s1, s2, lT⟩ := id hS
  have h2 := h2.mono hx
  obtain ⟨x, dx, tk, tk', t1, t2, n', rfl, e2, e3⟩ := h2
  exact node_raise_v w S T dS R x dx t k1 k2 tk tk' t1 t2 e n2 n' n3 2 oT tab val nx lT hT (hx _ hT0) (hx _ s1) (hx _ s2) e2 e3 (by decide) ht (hx _ hrow) hv
theorem odd7_raise (hS : ShelfAt w news S T) (hT0 : (T, oT) ∈ news) (hT : TabIs w oT tab) {v : Value} (hl : tab.length < 7) (h1 : RefIs w news v 7 0) : SpecE w 400 6 [.ref S, v] news := by
  refine gn2 w news news S v [] 7 (fun _ h => h) (fun nx hx => ?_) h1.long0
  obtain ⟨dS, R, k1, k2, n2, s1, s2, lT⟩ := id hS
  have h1 := h1.mono hx
  obtain ⟨x, dx, tk, tk', t1, t2, n', rfl, e2, e3⟩ := h1
  exact node_raise7 w S T dS R x dx k1 k2 tk tk' t1 t2 n2 n' oT tab nx lT hT (hx _ hT0) hl (hx _ s1) (hx _ s2) e2 e3
end
end
section
local macro_rules | `(tactic| walk_at "an idle line 0") => `(tactic| fail "idle")
theorem walk_plain_ExcH : True := by
  w_top off
  trivial
def SpecT (w : World) (f : Addr) (sz : Nat) (args : List Value) (pre : List (Addr × Obj)) (post : Value → List (Addr × Obj) → Prop) : Prop :=
  ∀ (dp un : Nat) (gd : Option (List Code)) (cn : Str) (cs : Scope) (a : Addr) (ccd : Value) (A₀ : Around) (h₀ : Heap) (L : Addr) (m : Str → Option Value) (s : Shared)
    (loose : List Str) (mean : ExcName → Option Value) (mg mb : Str → Option Value) (Q E : Value → Shared → Prop),
    Below A₀ h₀ [] h₀ → Fr h₀ L s.heap m → (fr.heap_1 w.params).In h₀ → News h₀ L s.heap pre → Top lawView loose mean mg mb h₀ → cs.kind = .function → dp + sz < recursionLimit → un + 8 * sz < cLine →
    (∀ r news' h' tk', Fr h₀ L h' m → News h₀ L h' news' → post r news' → Q r { s with heap := h', toks := tk' }) →
    wpAny (model PySem.Challenge.rw_og0169_01.row.prog w) (ktrTop dp un gd cn cs L a ccd [] []) (call (.ref f) args) Q E s
theorem spec_useT {w : World} {f : Addr} {sz : Nat} {args : List Value} {pre : List (Addr × Obj)} {post : Value → List (Addr × Obj) → Prop}
    {dp un : Nat} {gd : Option (List Code)} {cn : Str} {cs : Scope} {a : Addr} {ccd : Value} {A₀ : Around} {h₀ : Heap} {L : Addr} {m : Str → Option Value} {s : Shared}
    {loose : List Str} {mean : ExcName → Option Value} {mg mb : Str → Option Value} {Q E : Value → Shared → Prop}
    (B : Below A₀ h₀ [] h₀) (F : Fr h₀ L s.heap m) (X : (fr.heap_1 w.params).In h₀) (N : News h₀ L s.heap pre) (T : Top lawView loose mean mg mb h₀) (hk : cs.kind = .function)
    (C : SpecT w f sz args pre post) (hd' : dp + sz < recursionLimit) (hu : un + 8 * sz < cLine)
    (ret : ∀ r news' h' tk', Fr h₀ L h' m → News h₀ L h' news' → post r news' → Q r { s with heap := h', toks := tk' }) :
    wpAny (model PySem.Challenge.rw_og0169_01.row.prog w) (ktrTop dp un gd cn cs L a ccd [] []) (call (.ref f) args) Q E s := C _ _ _ _ _ _ _ _ _ _ _ _ _ _ _ _ _ _ B F X N T hk hd' hu ret
section
set_option maxRecDepth 100000 in
set_option maxHeartbeats 8000000 in
theorem refused (w : World) (S : Addr) (v : Value) (sz : Nat) (pre : List (Addr × Obj)) (hE : SpecE w 400 sz [.ref S, v] pre) :
   SpecT w 429 (sz + 2) [.ref S, v] pre (fun r news' => r = .bool true ∧ news' = pre) := by
  unfold SpecT
  k_fill
  intro dp un gd cn cs a ccd A₀ h₀ L m s loose mean mg mb Q E B F X N T hk hd hu hret
  refine wpAny_call ?_
  k_dflt (refine' code_defS0 ?k1 ?k2 ?k3 ?k4 ?k5 ?kA ?k6 ?k7 ?k8 ?k9 ?kB ?_ ?cK ?c2 ?c3 ?c4 ?c5; (case kA => exact rfl); (case k2 => k_asm); (case k1 => k_asm); (case k3 => k_asm); (case k4 => k_asm); (case k5 => k_asm); (case k6 => k_is); (case k7 => k_is); (case k8 => ktr_room); (case k9 => exact BindsTo.of_eq rfl); (case kB => exact locs rfl); (case cK => assumption); (case c2 => exact rfl); (case c3 => exact rfl); (case c4 => exact rfl); (case c5 => decide); k_whole; intro g' L' h' FG' F' N' B' X' T' D'; (try dsimp only); (try k_lift B'); (try k_fold))
  repeat' (first | (k_unfold; (try dsimp only)) | ((with_reducible show wpAny _ _ (call (Value.ref _) _) _ _ _); first | with_reducible (k_here; (with_reducible show wpAny _ _ (call (Value.ref 400) _) _ _ _); k_dflt ( refine' spec_useE (f := 400) (by k_asm) (by k_asm) (by k_asm) (by k_asm) (by k_asm) (by first | exact rfl | assumption) (by assumption) (by ktr_room) (by ktr_units) ?_; (intro e9 t9 vs9 g9 h9 tk9 FG9 U9 R9; (try dsimp only))))) | ((with_reducible show wpAny _ _ (execs (Stmt.Assign _ _ _ :: _ :: _) _) _ _ _); first | with_reducible (k_here; (with_reducible refine wpAny_execs_cons ?_); try dsimp only)) | ((with_reducible show RangeRest _ _ _ _ _ _ _ _ _ _ _ _ _ _ _ _ _); first | with_reducible (k_here; first | ((with_reducible refine RangeRest.succ ?_); intro t' h' tk' F' N') | ((with_reducible refine RangeRest.zero ?_); intro h' tk' F' N'))) | (k_end; kc_close) | walk1 | (dsimp only; walk1) | (leave1; (try dsimp only)))
  exact hret _ _ _ _ (by k_asm) (by k_asm) ⟨rfl, rfl⟩
end
end
end
end Mine
namespace Mine
theorem sub_nil (b : List (Addr × Obj)) : ∀ p ∈ ([] : List (Addr × Obj)), p ∈ b := fun _ h => nomatch h
theorem sub_consl {x : Addr × Obj} {a b : List (Addr × Obj)} (h : x ∈ b) (k : ∀ p ∈ a, p ∈ b) : ∀ p ∈ x :: a, p ∈ b := List.forall_mem_cons.mpr ⟨h, k⟩
theorem sub_appl {a b c : List (Addr × Obj)} (h : ∀ p ∈ a, p ∈ c) (k : ∀ p ∈ b, p ∈ c) : ∀ p ∈ a ++ b, p ∈ c := fun p hp => (List.mem_append.mp hp).elim (h p) (k p)
theorem sub_appR {a b c : List (Addr × Obj)} (h : ∀ p ∈ a, p ∈ c) : ∀ p ∈ a, p ∈ b ++ c := fun p hp => List.mem_append.mpr (.inr (h p hp))
def LawCut (C : Heap → Addr → (Str → Option Value) → Heap → Prop) (h₀ : Heap) (L : Addr) (m : Str → Option Value) (s s' : Shared) : Prop := ∃ h tk, s' = { s with heap := h, toks := tk } ∧ C h₀ L m h
/-- a statement of the law's, by what stands behind it -/
theorem cut_law {prog : Program} {w : World} {A : Around} {E : Value → Shared → Prop} {s : Shared} {env : Env} {st : Stmt} {rest : List Stmt} {Q : Flow → Shared → Prop} {h₀ : Heap} {L : Addr} {m : Str → Option Value} (m₀ : Str → Option Value) (_F : Fr h₀ L s.heap m) (C : Heap → Addr → (Str → Option Value) → Heap → Prop)
    (h1 : wpAny (model prog w) A (exec st env) (fun f s' => match f with | .next => LawCut C h₀ L m₀ s s' | f => Q f s') E s)
    (h2 : ∀ h tk, C h₀ L m₀ h → wpAny (model prog w) A (execs rest env) Q E { s with heap := h, toks := tk }) : wpAny (model prog w) A (execs (st :: rest) env) Q E s := by
  refine wpAny_execs_cons (wpAny_mono h1 (fun f s' hf => ?_) fun _ _ e => e)
  cases f with
  | next => obtain ⟨h, tk, rfl, c⟩ := hf; exact h2 h tk c
  | brk => exact hf
  | cont => exact hf
  | ret v => exact hf
theorem cut_law1 {prog : Program} {w : World} {A : Around} {E : Value → Shared → Prop} {s : Shared} {env : Env} {st : Stmt} {rest : List Stmt} {Q : Flow → Shared → Prop} {h₀ : Heap} {L : Addr} {m : Str → Option Value} (F : Fr h₀ L s.heap m) (C : Heap → Addr → (Str → Option Value) → Heap → Prop)
    (h1 : wpAny (model prog w) A (exec st env) (fun f s' => match f with | .next => LawCut C h₀ L m s s' | f => Q f s') E s)
    (h2 : ∀ h tk, C h₀ L m h → wpAny (model prog w) A (execs rest env) Q E { s with heap := h, toks := tk }) : wpAny (model prog w) A (execs (st :: rest) env) Q E s := cut_law m F C h1 h2
def LawEnd (R : Heap → Prop) (s s' : Shared) : Prop := ∃ h tk, s' = { s with heap := h, toks := tk } ∧ R h
theorem cut_lawR {M : Model} {A : Around} {E : Value → Shared → Prop} {s : Shared} {env : Env} {st : Stmt} {rest : List Stmt} {Q : Flow → Shared → Prop} (R : Heap → Prop)
    (h1 : wpAny M A (exec st env) (fun f s' => match f with | .next => LawEnd R s s' | f => Q f s') E s)
    (h2 : ∀ h tk, R h → wpAny M A (execs rest env) Q E { s with heap := h, toks := tk }) : wpAny M A (execs (st :: rest) env) Q E s := by
  refine wpAny_execs_cons (wpAny_mono h1 (fun f s' hf => ?_) fun _ _ e => e)
  cases f with
  | next => obtain ⟨h, tk, rfl, c⟩ := hf; exact h2 h tk c
  | brk => exact hf
  | cont => exact hf
  | ret v => exact hf
/-- the pool, and the rest of the ledger -/
inductive LawP (h₀ : Heap) (L : Addr) (mm : Str → Option Value) (h : Heap) (P : Addr) (X : List (Addr × Obj) → Prop) : Prop
  | mk (pv) (pn) (base) (h0 : Fr h₀ L h mm) (h1 : News h₀ L h ((P, listOf (List.toArray pv) pn) :: base)) (h2 : PoolIs pv) (h3 : (∀ p ∈ base, p.1 ≠ P)) (h4 : X base) : LawP h₀ L mm h P X
/-- a table, the pool, and the rest of the ledger -/
inductive LawS (h₀ : Heap) (L : Addr) (mm : Str → Option Value) (h : Heap) (T P : Addr) (X : List (Addr × Obj) → Obj → Prop) : Prop
  | mk (oT) (pv) (pn) (base) (h0 : Fr h₀ L h mm) (h1 : News h₀ L h ((T, oT) :: (P, listOf (List.toArray pv) pn) :: base)) (h2 : PoolIs pv) (h3 : Off2 T P base) (h4 : @Ne Nat T P) (h5 : X base oT) : LawS h₀ L mm h T P X
open Classical in
theorem LawP.intro {h₀ h : Heap} {L P : Addr} {mm : Str → Option Value} {X : List (Addr × Obj) → Prop} {all : List (Addr × Obj)} {pv : List Value} {pn : Nat} (F : Fr h₀ L h mm) (N : News h₀ L h all) (hP : (P, listOf pv.toArray pn) ∈ all) (hp : PoolIs pv) (hX : ∀ base, (∀ p ∈ all, @Ne Nat p.1 P → p ∈ base) → X base) : LawP h₀ L mm h P X :=
  ⟨pv, pn, all.filter fun p => decide (@Ne Nat p.1 P), F, fun p hq => by
    rcases List.mem_cons.mp hq with rfl | hq
    · exact N _ hP
    · exact N p (List.mem_filter.mp hq).1, hp, fun p hq => of_decide_eq_true (List.mem_filter.mp hq).2, hX _ fun p hq hne => List.mem_filter.mpr ⟨hq, decide_eq_true hne⟩⟩
open Classical in
theorem LawS.intro {h₀ h : Heap} {L T P : Addr} {mm : Str → Option Value} {X : List (Addr × Obj) → Obj → Prop} {all : List (Addr × Obj)} {oT : Obj} {pv : List Value} {pn : Nat} (F : Fr h₀ L h mm) (N : News h₀ L h all) (hT : (T, oT) ∈ all) (hP : (P, listOf pv.toArray pn) ∈ all) (hp : PoolIs pv) (hTP : @Ne Nat T P) (hX : ∀ base, (∀ p ∈ all, @Ne Nat p.1 T → @Ne Nat p.1 P → p ∈ base) → X base oT) : LawS h₀ L mm h T P X :=
  ⟨oT, pv, pn, all.filter fun p => decide (@Ne Nat p.1 T ∧ @Ne Nat p.1 P), F, fun p hq => by
    rcases List.mem_cons.mp hq with rfl | hq
    · exact N _ hT
    · rcases List.mem_cons.mp hq with rfl | hq
      · exact N _ hP
      · exact N p (List.mem_filter.mp hq).1, hp, fun p hq => of_decide_eq_true (List.mem_filter.mp hq).2, hTP, hX _ fun p hq hne hne' => List.mem_filter.mpr ⟨hq, decide_eq_true ⟨hne, hne'⟩⟩⟩
theorem keep_P {all base tl : List (Addr × Obj)} {P : Addr} (k : ∀ p ∈ all, @Ne Nat p.1 P → p ∈ base) (hs : ∀ p ∈ tl, p ∈ all) (ho : ∀ p ∈ tl, p.1 ≠ P) : ∀ p ∈ tl, p ∈ base := fun p hp => k p (hs p hp) (ho p hp)
theorem keep_S {all base tl : List (Addr × Obj)} {T P : Addr} (k : ∀ p ∈ all, @Ne Nat p.1 T → @Ne Nat p.1 P → p ∈ base) (hs : ∀ p ∈ tl, p ∈ all) (ho : Off2 T P tl) : ∀ p ∈ tl, p ∈ base := fun p hp => k p (hs p hp) (ho p hp).1 (ho p hp).2
/-- the law's tree -/
def TreeIs (w : World) (base : List (Addr × Obj)) (t : Addr) (d d1 : Node) : Prop :=
  NodeIs w base 4 (.ref t) d ∧ cnt 4 d ≤ 56 ∧ cnt 3 d1 ≤ 13 ∧ (∃ d2 d3 d4, d = .inner none [d1, d2, d3, d4]) ∧ ∃ b v1 v2 v3 v4 m, DictAt w base t [(Str.ofString "Kids", .ref b)] ∧ (b, listOf [v1, v2, v3, v4].toArray m) ∈ base ∧ NodeIs w base 3 v1 d1
theorem TreeIs.mono {w : World} {base base' : List (Addr × Obj)} {t : Addr} {d d1 : Node} (h : TreeIs w base t d d1) (hs : ∀ p ∈ base, p ∈ base') : TreeIs w base' t d d1 := by
  obtain ⟨a, b, c, e, b', v1, v2, v3, v4, m, g, i, j⟩ := h
  exact ⟨a.mono hs, b, c, e, b', v1, v2, v3, v4, m, g.mono hs, hs _ i, j.mono hs⟩
theorem len4 {vs : List Value} {l : List Node} {a b c d : Node} (e : l = [a, b, c, d]) (h : vs.length = l.length) : ∃ x1 x2 x3 x4, vs = [x1, x2, x3, x4] := by
  subst e
  obtain ⟨x1, vs, rfl⟩ := List.exists_cons_of_length_eq_add_one h
  obtain ⟨x2, vs, rfl⟩ := List.exists_cons_of_length_eq_add_one (Nat.succ.inj h)
  obtain ⟨x3, vs, rfl⟩ := List.exists_cons_of_length_eq_add_one (Nat.succ.inj (Nat.succ.inj h))
  obtain ⟨x4, vs, rfl⟩ := List.exists_cons_of_length_eq_add_one (Nat.succ.inj (Nat.succ.inj (Nat.succ.inj h)))
  obtain rfl := List.length_eq_zero_iff.mp (Nat.succ.inj (Nat.succ.inj (Nat.succ.inj (Nat.succ.inj h))))
  exact ⟨_, _, _, _, rfl⟩
theorem cnt_up {w : World} {news : List (Addr × Obj)} : ∀ (n : Nat) (v : Value) (d : Node), NodeIs w news n v d → cnt (n + 1) d = cnt n d := by
  intro n
  induction n with
  | zero =>
    intro v d h
    cases d with
    | leaf lim nums => rfl
    | inner lim kids => exact h.elim
  | succ n ih =>
    intro v d h
    cases d with
    | leaf lim nums => rfl
    | inner lim kids =>
      obtain ⟨a, lv, b, vs, m, e, x, y, z, q, r⟩ := h
      have hk : ∀ (vs : List Value) (kids : List Node), All2 (NodeIs w news n) vs kids → kids.map (cnt (n + 1)) = kids.map (cnt n) := by
        intro vs kids
        induction vs generalizing kids with
        | nil => cases kids with | nil => exact fun _ => rfl | cons _ _ => exact fun h => (h : False).elim
        | cons v vs ihv =>
          cases kids with
          | nil => exact fun h => (h : False).elim
          | cons k ks => exact fun h => by rw [List.map_cons, List.map_cons, ih v k (h : _ ∧ _).1, ihv ks (h : _ ∧ _).2]
      simp only [cnt, hk vs kids q]
theorem leaf11 {w : World} {news : List (Addr × Obj)} {a b : Addr} {t1 t2 : Tok} {m : Nat} (hd : DictAt w news a [(Str.ofString "Nums", .ref b)]) (hb : (b, listOf [.int 1 t1, .int 1 t2].toArray m) ∈ news) : NodeIs w news 3 (.ref a) (.leaf none [.int 1, .int 1]) :=
  ⟨a, .none, .ref b, rfl, hd, trivial, b, _, m, rfl, hb, ⟨⟨t1, rfl⟩, ⟨t2, rfl⟩, trivial⟩, by simp⟩
theorem treeIs_of {w : World} {base : List (Addr × Obj)} {u b a3 b3 a4 b4 : Addr} {v1 v2 : Value} {d1 d2 : Node} {m m3 m4 : Nat} {t31 t32 t41 t42 : Tok} (hd : DictAt w base u [(Str.ofString "Kids", .ref b)]) (hb : (b, listOf [v1, v2, .ref a3, .ref a4].toArray m) ∈ base)
    (h1 : NodeIs w base 2 v1 d1) (c1 : cnt 2 d1 ≤ 13) (h2 : NodeIs w base 3 v2 d2) (c2 : cnt 3 d2 ≤ 40) (hd3 : DictAt w base a3 [(Str.ofString "Nums", .ref b3)]) (hb3 : (b3, listOf [.int 1 t31, .int 1 t32].toArray m3) ∈ base) (hd4 : DictAt w base a4 [(Str.ofString "Nums", .ref b4)]) (hb4 : (b4, listOf [.int 1 t41, .int 1 t42].toArray m4) ∈ base) :
    TreeIs w base u (.inner none [d1, d2, .leaf none [.int 1, .int 1], .leaf none [.int 1, .int 1]]) d1 := by
  have e : cnt 3 d1 = cnt 2 d1 := cnt_up 2 v1 d1 h1
  refine ⟨⟨u, .none, b, _, m, rfl, hd, trivial, hb, ⟨h1.up, h2, leaf11 hd3 hb3, leaf11 hd4 hb4, trivial⟩, by simp⟩, ?_, by omega, ⟨_, _, _, rfl⟩, b, _, _, _, _, m, hd, hb, h1.up⟩
  simp only [cnt, List.map_cons, List.map_nil, List.sum_cons, List.sum_nil]
  omega
abbrev KS (w : World) := PySem.strKind PySem.Challenge.rw_og0169_01.row.prog w
theorem treeIs_of2 {w : World} {base : List (Addr × Obj)} {u b a3 b3 a4 b4 : Addr} {o o3 o4 : Obj} {v1 v2 : Value} {d1 d2 : Node} {m m3 m4 : Nat} {tk tk3 tk4 t31 t32 t41 t42 : Tok} (ho : (u, o) ∈ base) (lo : (u == sysModules) = false) (hd : o.IsDictOf (KS w) (strPairs [(.str (Str.ofString "Kids") tk, .ref b)])) (hb : (b, listOf [v1, v2, .ref a3, .ref a4].toArray m) ∈ base)
    (h1 : NodeIs w base 2 v1 d1) (c1 : cnt 2 d1 ≤ 13) (h2 : NodeIs w base 3 v2 d2) (c2 : cnt 3 d2 ≤ 40) (ho3 : (a3, o3) ∈ base) (lo3 : (a3 == sysModules) = false) (hd3 : o3.IsDictOf (KS w) (strPairs [(.str (Str.ofString "Nums") tk3, .ref b3)])) (hb3 : (b3, listOf [.int 1 t31, .int 1 t32].toArray m3) ∈ base)
    (ho4 : (a4, o4) ∈ base) (lo4 : (a4 == sysModules) = false) (hd4 : o4.IsDictOf (KS w) (strPairs [(.str (Str.ofString "Nums") tk4, .ref b4)])) (hb4 : (b4, listOf [.int 1 t41, .int 1 t42].toArray m4) ∈ base) :
    TreeIs w base u (.inner none [d1, d2, .leaf none [.int 1, .int 1], .leaf none [.int 1, .int 1]]) d1 :=
  treeIs_of ⟨o, ho, lo, hd⟩ hb h1 c1 h2 c2 ⟨o3, ho3, lo3, hd3⟩ hb3 ⟨o4, ho4, lo4, hd4⟩ hb4
abbrev S1 (x : Value) (m : Str → Option Value) : Str → Option Value := fun z => if z = Str.ofString "pool" then some x else m z
abbrev S2 (t x : Value) (m : Str → Option Value) : Str → Option Value := fun z => if z = Str.ofString "tree" then some t else S1 x m z
abbrev S3 (s b t x : Value) (m : Str → Option Value) : Str → Option Value := fun z => if z = Str.ofString "before" then some b else if z = Str.ofString "shelf" then some s else S2 t x m z
abbrev S4 (r s b t x : Value) (m : Str → Option Value) : Str → Option Value := fun z => if z = Str.ofString "root" then some r else S3 s b t x m z
abbrev S7 (wh r s b t x : Value) (m : Str → Option Value) : Str → Option Value := fun z => if z = Str.ofString "whole" then some wh else S4 r s b t x m z
abbrev S9 (hu wh r s b t x : Value) (m : Str → Option Value) : Str → Option Value := fun z => if z = Str.ofString "hung" then some hu else S7 wh r s b t x m z
abbrev S10 (pl hu wh r s b t x : Value) (m : Str → Option Value) : Str → Option Value := fun z => if z = Str.ofString "place" then some pl else S9 hu wh r s b t x m z
abbrev S12 (kd pl hu wh r s b t x : Value) (m : Str → Option Value) : Str → Option Value := fun z => if z = Str.ofString "kid" then some kd else S10 pl hu wh r s b t x m z
abbrev S13 (tw kd pl hu wh r s b t x : Value) (m : Str → Option Value) : Str → Option Value := fun z => if z = Str.ofString "twice" then some tw else S12 kd pl hu wh r s b t x m z
abbrev S15 (ri tw kd pl hu wh r s b t x : Value) (m : Str → Option Value) : Str → Option Value := fun z => if z = Str.ofString "ring" then some ri else S13 tw kd pl hu wh r s b t x m z
abbrev S16 (od ri tw kd pl hu wh r s b t x : Value) (m : Str → Option Value) : Str → Option Value := fun z => if z = Str.ofString "odd" then some od else S15 ri tw kd pl hu wh r s b t x m z
section
variable (w : World) (h₀ : Heap) (L : Addr) (m : Str → Option Value) (h : Heap)
inductive Law1 : Prop
  | mk (P) (pv) (pn) (h0 : Fr h₀ L h (S1 (.ref P) m)) (h1 : News h₀ L h [(P, listOf (List.toArray pv) pn)]) (h2 : PoolIs pv) : Law1
inductive Law2 : Prop
  | mk (P) (t) (d) (d1) (h0 : LawP h₀ L (S2 (.ref t) (.ref P) m) h P fun base => TreeIs w base t d d1) : Law2
inductive Law3 : Prop
  | mk (P) (t) (d) (d1) (b) (S) (T) (h0 : LawS h₀ L (S3 (.ref S) b (.ref t) (.ref P) m) h T P fun base oT => TreeIs w base t d d1 ∧ ToldIs base (5 + 3 * 4) b (tellNode 4 d) ∧ ShelfAt w base S T ∧ TabIs w oT []) : Law3
inductive Law4 : Prop
  | mk (P) (t) (d) (d1) (b) (S) (T) (r) (h0 : LawS h₀ L (S4 (.ref r) (.ref S) b (.ref t) (.ref P) m) h T P fun base oT => TreeIs w base t d d1 ∧ ToldIs base (5 + 3 * 4) b (tellNode 4 d) ∧ ShelfAt w base S T ∧ ∃ tab, TabIs w oT tab ∧ tab.length + 1 = cnt 4 d ∧ StandsAt w base tab 0 4 tab.length (.ref r) d ∧ KidRefs w base (.ref r) d) : Law4
inductive Law7 : Prop
  | mk (P) (t) (d) (d1) (b) (S) (T) (r) (wh) (oT) (pv) (pn) (base) (h0 : Fr h₀ L h (S7 wh (.ref r) (.ref S) b (.ref t) (.ref P) m)) (h1 : News h₀ L h ((T, oT) :: (P, listOf (List.toArray pv) pn) :: base)) (h2 : PoolIs pv) (h3 : Off2 T P base) (h4 : @Ne Nat T P) (h5 : TreeIs w base t d d1) (h6 : ToldIs base (5 + 3 * 4) b (tellNode 4 d)) (h7 : ShelfAt w base S T) (h8 : (∃ tab, TabIs w oT tab)) (h9 : NodeIs w ((T, oT) :: (P, listOf (List.toArray pv) pn) :: base) 4 wh d) : Law7
inductive Law8 : Prop
  | mk (P) (t) (d) (d1) (b) (s) (r) (wh) (h0 : LawP h₀ L (S7 wh r s b (.ref t) (.ref P) m) h P fun base => TreeIs w base t d d1 ∧ ToldIs base (5 + 3 * 4) b (tellNode 4 d)) : Law8
inductive Law9 : Prop
  | mk (P) (t) (d) (d1) (b) (S) (T) (s) (r) (wh) (h0 : LawS h₀ L (S9 (.ref S) wh r s b (.ref t) (.ref P) m) h T P fun base oT => TreeIs w base t d d1 ∧ ToldIs base (5 + 3 * 4) b (tellNode 4 d) ∧ ShelfAt w base S T ∧ TabIs w oT []) : Law9
inductive Law10 : Prop
  | mk (P) (t) (d) (d1) (b) (S) (T) (s) (r) (wh) (pl) (h0 : LawS h₀ L (S10 pl (.ref S) wh r s b (.ref t) (.ref P) m) h T P fun base oT => TreeIs w base t d d1 ∧ ToldIs base (5 + 3 * 4) b (tellNode 4 d) ∧ ShelfAt w base S T ∧ ∃ tab, TabIs w oT tab ∧ tab.length ≤ 168 ∧ StandsAt w base tab 3 4 tab.length pl d) : Law10
inductive Law12 : Prop
  | mk (P) (t) (d) (d1) (b) (S) (T) (s) (r) (wh) (pl) (kd) (h0 : LawS h₀ L (S12 kd pl (.ref S) wh r s b (.ref t) (.ref P) m) h T P fun base oT => TreeIs w base t d d1 ∧ ShelfAt w base S T ∧ ∃ tab, TabIs w oT tab ∧ tab.length ≤ 207 ∧ StandsAt w base tab 3 3 tab.length kd d1) : Law12
inductive Law13 : Prop
  | mk (P) (t) (d) (d1) (b) (S) (T) (s) (r) (wh) (pl) (kd) (tw) (h0 : LawS h₀ L (S13 tw kd pl (.ref S) wh r s b (.ref t) (.ref P) m) h T P fun base oT => TreeIs w base t d d1 ∧ ShelfAt w base S T ∧ ∃ tab, TabIs w oT tab ∧ ∃ d3, d3 = .inner none [d1, d1, d1] ∧ Stands w base tab 4 tab.length tw d3) : Law13
inductive Law14 : Prop
  | mk (P) (t) (b) (hu) (s) (r) (wh) (pl) (kd) (tw) (h0 : LawP h₀ L (S13 tw kd pl hu wh r s b (.ref t) (.ref P) m) h P fun _ => True) : Law14
/-- a shelf whose row k is refused -/
def Refuse (base : List (Addr × Obj)) (S : Addr) (sz : Nat) (k : Int) : Prop := ∀ news v, (∀ p ∈ base, p ∈ news) → RefIs w news v k 0 → SpecE w 400 sz [.ref S, v] news
inductive Law15 : Prop
  | mk (P) (t) (b) (hu) (s) (r) (wh) (pl) (kd) (tw) (S) (h0 : LawP h₀ L (S15 (.ref S) tw kd pl hu wh r s b (.ref t) (.ref P) m) h P fun base => Refuse w base S 9 1) : Law15
inductive Law16 : Prop
  | mk (P) (t) (b) (hu) (s) (r) (wh) (pl) (kd) (tw) (S) (S') (h0 : LawP h₀ L (S16 (.ref S') (.ref S) tw kd pl hu wh r s b (.ref t) (.ref P) m) h P fun base => Refuse w base S 9 1 ∧ Refuse w base S' 7 1 ∧ Refuse w base S' 6 7) : Law16
end
theorem pool_of {ys : List Value} {ns : List Int} (h : IntsAre ys (List.map (fun k' => Int.fmod (if k' < 0 then -k' else k') (10 ^ Int.toNat 80)) (List.take 24 ns))) : PoolIs ys := by
  refine ⟨_, h, by rw [List.length_map, List.length_take]; omega, fun n hn => ?_⟩
  obtain ⟨k, _, rfl⟩ := List.mem_map.mp hn
  exact ⟨fmod_lo _ (by decide), fmod_hi _ (by decide)⟩
theorem law1_intro {h₀ h : Heap} {L P : Addr} {m : Str → Option Value} {all : List (Addr × Obj)} {pv : List Value} {pn : Nat} (F : Fr h₀ L h (S1 (.ref P) m)) (N : News h₀ L h all) (hP : (P, listOf pv.toArray pn) ∈ all) (hp : PoolIs pv) : Law1 h₀ L m h :=
  ⟨P, pv, pn, F, fun p hq => by
    rcases List.mem_cons.mp hq with rfl | hq
    · exact N _ hP
    · exact absurd hq (List.not_mem_nil), hp⟩
theorem law3_intro {w : World} {h₀ h : Heap} {L P S dS T R : Addr} {m : Str → Option Value} {all base tl : List (Addr × Obj)} {pv : List Value} {pn n : Nat} {b : Value} {t : Addr} {d d1 : Node} {oT : Obj} {k1 k2 : Tok} (F : Fr h₀ L h (S3 (.ref S) b (.ref t) (.ref P) m)) (N : News h₀ L h all) (hS : (S, instObj 363 dS) ∈ all) (hd : (dS, dictOf (shelfD w k1 k2 T R) n) ∈ all) (hT : (T, oT) ∈ all) (lT : (T == sysModules) = false)
    (hi : oT.IsDictOf (PySem.intKind PySem.Challenge.rw_og0169_01.row.prog w) []) (hP : (P, listOf pv.toArray pn) ∈ all) (hp : PoolIs pv) (hTP : @Ne Nat T P) (hST : @Ne Nat S T) (hSP : @Ne Nat S P) (hdT : @Ne Nat dS T) (hdP : @Ne Nat dS P) (ht : TreeIs w base t d d1) (hb : ToldIs tl (5 + 3 * 4) b (tellNode 4 d)) (sb : ∀ p ∈ base ++ tl, p ∈ all) (lt : ∀ p ∈ base ++ tl, p.1 < T) (ho : ∀ p ∈ base, p.1 ≠ P) (u : ∀ p ∈ tl, p.1 ≠ P) : Law3 w h₀ L m h :=
  ⟨P, t, d, d1, b, S, T, LawS.intro F N hT hP hp hTP fun base' hk => by
    have hs : ∀ p ∈ base ++ tl, p ∈ base' := keep_S hk sb fun p hq => ⟨Nat.ne_of_lt (lt p hq), by
      rcases List.mem_append.mp hq with hq | hq
      · exact ho p hq
      · exact u p hq⟩
    exact ⟨ht.mono fun p hq => hs p (List.mem_append.mpr (.inl hq)), hb.mono fun p hq => hs p (List.mem_append.mpr (.inr hq)), ⟨dS, R, k1, k2, n, hk _ hS hST hSP, hk _ hd hdT hdP, lT⟩, hi⟩⟩
theorem tab_nil (w : World) : TabIs w emptyDict [] := ⟨#[], 0, ⟨rfl, rfl, rfl⟩, rfl, fun _ he => by simp at he, Pairs.nil, List.nodup_nil⟩
/-- tree_gathered, whatever stands around -/
def GathN (w : World) (N0 : List (Addr × Obj)) (S : Addr) (v : Value) (d : Node) : Prop := ∀ news, (∀ p ∈ N0, p ∈ news) → Spec w 400 7 [.ref S, v] news (Made news fun r tl => NodeIs w (news ++ tl) 4 r d)
theorem GathN.use {w : World} {N0 : List (Addr × Obj)} {S : Addr} {v : Value} {d : Node} {news : List (Addr × Obj)} (h : GathN w N0 S v d) (hs : ∀ p ∈ N0, p ∈ news) : Spec w 400 7 [.ref S, v] news (Made news fun r tl => NodeIs w (news ++ tl) 4 r d) := h news hs
theorem TreeIs.inner {w : World} {base : List (Addr × Obj)} {t : Addr} {d d1 : Node} (h : TreeIs w base t d d1) : ∃ lim kids, d = .inner lim kids := by
  obtain ⟨_, _, _, ⟨_, _, _, rfl⟩, _⟩ := h
  exact ⟨_, _, rfl⟩
theorem gathN_of {w : World} {base N0 : List (Addr × Obj)} {S T : Addr} {oT : Obj} {tab : List Value} {v : Value} {d : Node} {B : Int} (sb : ∀ p ∈ base, p ∈ N0) (hS : ShelfAt w base S T) (hT0 : (T, oT) ∈ N0) (hT : TabIs w oT tab) (hst : Stands w N0 tab 4 B v d) (hB : 0 ≤ B) (hd : ∃ lim kids, d = .inner lim kids) : GathN w N0 S v d := by
  obtain ⟨lim, kids, rfl⟩ := hd
  intro news hs
  exact (gath_root (hS.mono sb) hT0 hT hst hB (by decide) news hs).postMono fun r tl x => x.mono fun p hp => by
    rcases List.mem_append.mp hp with hp | hp
    · exact List.mem_append.mpr (.inl (hs p hp))
    · exact List.mem_append.mpr (.inr hp)
theorem Stands.more {w : World} {base N0 : List (Addr × Obj)} {tab : List Value} {n : Nat} {B : Int} {v : Value} {d : Node} (h : Stands w base tab n B v d) (sb : ∀ p ∈ base, p ∈ N0) : Stands w N0 tab n B v d := by
  have := h.mono (more := []) sb (Int.le_refl B)
  rwa [List.append_nil] at this
theorem StandsAt.more {w : World} {base N0 : List (Addr × Obj)} {tab : List Value} {H n : Nat} {B : Int} {v : Value} {d : Node} (h : StandsAt w base tab H n B v d) (sb : ∀ p ∈ base, p ∈ N0) : StandsAt w N0 tab H n B v d := by
  have := h.mono (more := []) sb (Int.le_refl B)
  rwa [List.append_nil] at this
theorem law4_intro {w : World} {h₀ h : Heap} {L P S T : Addr} {m : Str → Option Value} {all base tl L9 : List (Addr × Obj)} {pv : List Value} {pn : Nat} {r b : Value} {t : Addr} {d d1 : Node} {oT : Obj} {more : List Value} (F : Fr h₀ L h (S4 r (.ref S) b (.ref t) (.ref P) m)) (N : News h₀ L h all) (hT : (T, oT) ∈ all) (hP : (P, listOf pv.toArray pn) ∈ all) (hp : PoolIs pv) (hTP : @Ne Nat T P) (ht : TreeIs w base t d d1) (hb : ToldIs base (5 + 3 * 4) b (tellNode 4 d)) (hS : ShelfAt w base S T)
    (ho : Off2 T P base) (u : Apart L9 tl) (mT : ∃ o, (T, o) ∈ L9) (mP : ∃ o, (P, o) ∈ L9) (sb : ∀ p ∈ base ++ tl, p ∈ all) (hTab : TabIs w oT ([] ++ more)) (hl : more.length + 1 = cnt 4 d) (st : StandsAt w (base ++ tl) ([] ++ more) 0 4 ((([] : List Value).length : Int) + more.length) r d) (kr : KidRefs w (base ++ tl) r d) : Law4 w h₀ L m h :=
  by
  have hr : ∃ u, r = .ref u := by
    obtain ⟨_, _, _, ⟨_, _, _, rfl⟩, _⟩ := ht
    obtain ⟨u0, _, _, _, _, e, _⟩ := kr
    exact ⟨u0, e⟩
  obtain ⟨r0, rfl⟩ := hr
  exact ⟨P, t, d, d1, b, S, T, r0, LawS.intro F N hT hP hp hTP fun base' hk => by
    have hs : ∀ p ∈ base ++ tl, p ∈ base' := keep_S hk sb (ho.more u mT mP)
    have hs1 : ∀ p ∈ base, p ∈ base' := fun p hq => hs p (List.mem_append.mpr (.inl hq))
    refine ⟨ht.mono hs1, hb.mono hs1, hS.mono hs1, more, hTab, hl, ?_, kr.mono hs⟩
    have := st.more hs
    simpa using this⟩
theorem law9_intro {w : World} {h₀ h : Heap} {L P S dS T R : Addr} {m : Str → Option Value} {all base : List (Addr × Obj)} {pv : List Value} {pn n : Nat} {b s r wh : Value} {t : Addr} {d d1 : Node} {oT : Obj} {k1 k2 : Tok} (F : Fr h₀ L h (S9 (.ref S) wh r s b (.ref t) (.ref P) m)) (N : News h₀ L h all) (hS : (S, instObj 363 dS) ∈ all) (hd : (dS, dictOf (shelfD w k1 k2 T R) n) ∈ all) (hT : (T, oT) ∈ all) (lT : (T == sysModules) = false)
    (hi : oT.IsDictOf (PySem.intKind PySem.Challenge.rw_og0169_01.row.prog w) []) (hP : (P, listOf pv.toArray pn) ∈ all) (hp : PoolIs pv) (hTP : @Ne Nat T P) (hST : @Ne Nat S T) (hSP : @Ne Nat S P) (hdT : @Ne Nat dS T) (hdP : @Ne Nat dS P) (ht : TreeIs w base t d d1) (hb : ToldIs base (5 + 3 * 4) b (tellNode 4 d)) (sb : ∀ p ∈ base, p ∈ all) (lt : ∀ p ∈ base, p.1 < T) (ho : ∀ p ∈ base, p.1 ≠ P) : Law9 w h₀ L m h :=
  ⟨P, t, d, d1, b, S, T, s, r, wh, LawS.intro F N hT hP hp hTP fun base' hk => by
    have hs : ∀ p ∈ base, p ∈ base' := keep_S hk sb fun p hq => ⟨Nat.ne_of_lt (lt p hq), ho p hq⟩
    exact ⟨ht.mono hs, hb.mono hs, ⟨dS, R, k1, k2, n, hk _ hS hST hSP, hk _ hd hdT hdP, lT⟩, hi⟩⟩
theorem law10_intro {w : World} {h₀ h : Heap} {L P S T : Addr} {m : Str → Option Value} {all base tl L9 : List (Addr × Obj)} {pv : List Value} {pn : Nat} {r b s wh pl : Value} {t : Addr} {d d1 : Node} {oT : Obj} {more : List Value} (F : Fr h₀ L h (S10 pl (.ref S) wh r s b (.ref t) (.ref P) m)) (N : News h₀ L h all) (hT : (T, oT) ∈ all) (hP : (P, listOf pv.toArray pn) ∈ all) (hp : PoolIs pv) (hTP : @Ne Nat T P) (ht : TreeIs w base t d d1) (hb : ToldIs base (5 + 3 * 4) b (tellNode 4 d)) (hS : ShelfAt w base S T)
    (ho : Off2 T P base) (u : Apart L9 tl) (mT : ∃ o, (T, o) ∈ L9) (mP : ∃ o, (P, o) ∈ L9) (sb : ∀ p ∈ base ++ tl, p ∈ all) (hTab : TabIs w oT ([] ++ more)) (hl : more.length ≤ 3 * cnt 4 d) (st : StandsAt w (base ++ tl) ([] ++ more) 3 4 ((([] : List Value).length : Int) + more.length) pl d) : Law10 w h₀ L m h :=
  ⟨P, t, d, d1, b, S, T, s, r, wh, pl, LawS.intro F N hT hP hp hTP fun base' hk => by
    have hs : ∀ p ∈ base ++ tl, p ∈ base' := keep_S hk sb (ho.more u mT mP)
    have hs1 : ∀ p ∈ base, p ∈ base' := fun p hq => hs p (List.mem_append.mpr (.inl hq))
    have hc := ht.2.1
    refine ⟨ht.mono hs1, hb.mono hs1, hS.mono hs1, more, hTab, by omega, ?_⟩
    have := st.more hs
    simpa using this⟩
theorem law12_intro {w : World} {h₀ h : Heap} {L P S T : Addr} {m : Str → Option Value} {all base tl L9 : List (Addr × Obj)} {pv : List Value} {pn : Nat} {r b s wh pl kd : Value} {t : Addr} {d d1 : Node} {oT : Obj} {tab more : List Value} (F : Fr h₀ L h (S12 kd pl (.ref S) wh r s b (.ref t) (.ref P) m)) (N : News h₀ L h all) (hT : (T, oT) ∈ all) (hP : (P, listOf pv.toArray pn) ∈ all) (hp : PoolIs pv) (hTP : @Ne Nat T P) (ht : TreeIs w base t d d1) (hS : ShelfAt w base S T)
    (ho : Off2 T P base) (u : Apart L9 tl) (mT : ∃ o, (T, o) ∈ L9) (mP : ∃ o, (P, o) ∈ L9) (sb : ∀ p ∈ base ++ tl, p ∈ all) (hTab : TabIs w oT (tab ++ more)) (hl : more.length ≤ 3 * cnt 3 d1) (hl0 : tab.length ≤ 168) (st : StandsAt w (base ++ tl) (tab ++ more) 3 3 ((tab.length : Int) + more.length) kd d1) : Law12 w h₀ L m h :=
  ⟨P, t, d, d1, b, S, T, s, r, wh, pl, kd, LawS.intro F N hT hP hp hTP fun base' hk => by
    have hs : ∀ p ∈ base ++ tl, p ∈ base' := keep_S hk sb (ho.more u mT mP)
    have hs1 : ∀ p ∈ base, p ∈ base' := fun p hq => hs p (List.mem_append.mpr (.inl hq))
    have hc := ht.2.2.1
    refine ⟨ht.mono hs1, hS.mono hs1, tab ++ more, hTab, by rw [List.length_append]; omega, ?_⟩
    have := st.more hs
    rwa [List.length_append, Int.natCast_add]⟩
section
variable {prog : Program} {w : World} {A : Around} {E : Value → Shared → Prop} {s : Shared} {h₀ : Heap} {L l : Addr} {news : List (Addr × Obj)} {vs : List Value} {n : Nat} {Q : Value → Shared → Prop}
theorem len_N (N : News h₀ L s.heap news) (hm : (l, listOf vs.toArray n) ∈ news) (hz : vs.length ≤ 1000) (h : Q (.int vs.length (s.toks + 1)) { s with toks := s.toks + 1 + 1 }) : wpAny (model prog w) A (call (.builtin "len") [.ref l]) Q E s :=
  PyProof.Rows.len_list (PySem.IsL.isList (n := n) (N _ hm).1) (by rw [List.size_toArray]; omega) (by simpa using h)
theorem item0_N {value slice : Expr} {v : Value} {u : Tok} (N : News h₀ L s.heap news) (hm : (l, listOf (v :: vs).toArray n) ∈ news) (h : Q v s)
    (hs : subscripted slice false (.ref l) (.int 0 u) = operate [.ref l, .int 0 u] (getItem (.ref l) (.int 0 u)) := by with_unfolding_all rfl) :
    wpAny (model prog w) A (subscriptTail value slice (.ref l) (.int 0 u)) Q E s := by
  have hl : s.heap.IsList l (v :: vs).toArray := PySem.IsL.isList (n := n) (N _ hm).1
  exact tail_any hl.typeIs slot_list_getitem.lookup (wpAny_getItem_list hl (by decide) (by decide) rfl h) hs
end
/-- [v] * 3 -/
theorem mul3 {prog : Program} {w : World} {A : Around} {E : Value → Shared → Prop} {s : Shared} {h₀ : Heap} {L l : Addr} {m : Str → Option Value} {news : List (Addr × Obj)} {v : Value} {n : Nat} {u : Tok} {Q : Value → Shared → Prop} (F : Fr h₀ L s.heap m) (N : News h₀ L s.heap news) (hm : (l, listOf [v].toArray n) ∈ news)
    (h : ∀ D h', Fr h₀ L h' m → News h₀ L h' ((D, listOf [v, v, v].toArray 0) :: news) → (∀ p ∈ news, p.1 < D) → Q (.ref D) { s with heap := h' }) : wpAny (model prog w) A (binaryOp .Mult (.ref l) (.int 3 u)) Q E s :=
  KMa.mul (vs := [v]) (ws := [v, v, v]) F N (PySem.IsL.isList (n := n) (N _ hm).1) (by decide) (by decide) (by simp only [List.length_cons, List.length_nil]; decide) rfl h
theorem law13_intro {w : World} {h₀ h : Heap} {L P S T D l t1 t2 : Addr} {m : Str → Option Value} {all base tl1 tl2 : List (Addr × Obj)} {pv : List Value} {pn m1 m2 nl : Nat} {r b s wh pl kd y1 y2 : Value} {t : Addr} {d d1 : Node} {oT o : Obj} {tab : List Value} {e1 e2 tk : Tok} (F : Fr h₀ L h (S13 y2 kd pl (.ref S) wh r s b (.ref t) (.ref P) m)) (N : News h₀ L h all) (hTab : TabIs w oT ((tab ++ [.ref t1]) ++ [.ref t2])) (hT : (T, oT) ∈ all) (hP : (P, listOf pv.toArray pn) ∈ all) (hp : PoolIs pv) (hTP : @Ne Nat T P) (ht : TreeIs w base t d d1) (hS : ShelfAt w base S T)
    (hk0 : StandsAt w base tab 3 3 tab.length kd d1) (hr2 : RefIs w tl2 y2 ((tab ++ [Value.ref t1]).length + 1) 0) (hm2 : (t2, tupOf #[.int 0 e2, .ref D] m2) ∈ tl2) (hD : (D, o) ∈ all) (lo : (D == sysModules) = false) (hd : o.IsDictOf (KS w) (strPairs [(.str (Str.ofString "Kids") tk, .ref l)])) (hl : (l, listOf [kd, y1, kd].toArray nl) ∈ all) (hr1 : RefIs w tl1 y1 (tab.length + 1) 0) (hm1 : (t1, tupOf #[.int 0 e1, kd] m1) ∈ tl1)
    (sb : ∀ p ∈ base, p ∈ all) (s1 : ∀ p ∈ tl1, p ∈ all) (s2 : ∀ p ∈ tl2, p ∈ all) (ob : Off2 T P base) (o1T : ∀ p ∈ tl1, p.1 ≠ T) (o1P : ∀ p ∈ tl1, p.1 ≠ P) (o2T : ∀ p ∈ tl2, p.1 ≠ T) (o2P : ∀ p ∈ tl2, p.1 ≠ P) (DT : @Ne Nat D T) (DP : @Ne Nat D P) (lT : @Ne Nat l T) (lP : @Ne Nat l P) : Law13 w h₀ L m h :=
  ⟨P, t, d, d1, b, S, T, s, r, wh, pl, kd, y2, LawS.intro F N hT hP hp hTP fun base' hk => by
    have hb := keep_S hk sb ob
    have h1 : ∀ p ∈ tl1, p ∈ base' := keep_S hk s1 fun p hp => ⟨o1T p hp, o1P p hp⟩
    have h2 : ∀ p ∈ tl2, p ∈ base' := keep_S hk s2 fun p hp => ⟨o2T p hp, o2P p hp⟩
    have hk1 := hk0.more hb
    have x1 := StandsAt.hop2 hr1 hm1 h1 hk1
    have hk2 : StandsAt w base' (tab ++ [.ref t1]) 3 3 ((tab ++ [Value.ref t1]).length : Int) kd d1 := hk1.mono (fun _ h => h) (by rw [List.length_append]; push_cast; omega)
    have xd : StandsAt w base' (tab ++ [.ref t1]) 0 4 ((tab ++ [Value.ref t1]).length : Int) (.ref D) (.inner none [d1, d1, d1]) :=
      ⟨0, D, _, Nat.le_refl _, rfl, .inl ⟨rfl, Int.le_refl _⟩, .none, l, [kd, y1, kd], nl, ⟨o, hk _ hD DT DP, lo, hd⟩, trivial, hk _ hl lT lP, ⟨hk2.stands (by decide), x1.stands (by decide), hk2.stands (by decide), trivial⟩, by simp⟩
    have x2 := StandsAt.hop2 hr2 hm2 h2 xd
    exact ⟨ht.mono hb, hS.mono hb, _, hTab, _, rfl, x2.stands (by decide)⟩⟩
theorem tri_of {w : World} {news base : List (Addr × Obj)} {D l : Addr} {o : Obj} {v1 : Value} {d1 : Node} {tk : Tok} {nl : Nat} (hD : (D, o) ∈ news) (lo : (D == sysModules) = false) (hd : o.IsDictOf (KS w) (strPairs [(.str (Str.ofString "Kids") tk, .ref l)])) (hl : (l, listOf [v1, v1, v1].toArray nl) ∈ news) (h1 : NodeIs w base 3 v1 d1) (hs : ∀ p ∈ base, p ∈ news) : NodeIs w news 4 (.ref D) (.inner none [d1, d1, d1]) :=
  ⟨D, .none, l, _, nl, rfl, ⟨o, hD, lo, hd⟩, trivial, hl, ⟨h1.mono hs, h1.mono hs, h1.mono hs, trivial⟩, by simp⟩
theorem tri_of' {w : World} {news base : List (Addr × Obj)} {D l : Addr} {o : Obj} {v1 : Value} {d1 d3 : Node} {tk : Tok} {nl : Nat} (e : d3 = .inner none [d1, d1, d1]) (hD : (D, o) ∈ news) (lo : (D == sysModules) = false) (hd : o.IsDictOf (KS w) (strPairs [(.str (Str.ofString "Kids") tk, .ref l)])) (hl : (l, listOf [v1, v1, v1].toArray nl) ∈ news) (h1 : NodeIs w base 3 v1 d1) (hs : ∀ p ∈ base, p ∈ news) : NodeIs w news 4 (.ref D) d3 := by
  rw [e]; exact tri_of hD lo hd hl h1 hs
theorem Refuse.mono {w : World} {base base' : List (Addr × Obj)} {S : Addr} {sz : Nat} {k : Int} (h : Refuse w base S sz k) (hs : ∀ p ∈ base, p ∈ base') : Refuse w base' S sz k := fun nx v hn hr => h nx v (fun p hp => hn p (hs p hp)) hr
theorem Refuse.use {w : World} {base news : List (Addr × Obj)} {S : Addr} {sz : Nat} {k : Int} {v : Value} (h : Refuse w base S sz k) (hs : ∀ p ∈ base, p ∈ news) (hr : RefIs w news v k 0) : SpecE w 400 sz [.ref S, v] news := h news v hs hr
theorem rowAt_of {w : World} {news : List (Addr × Obj)} {tab : List Value} {k : Int} {t u b : Addr} {kid : Value} {e tk : Tok} {n nb : Nat} {o : Obj} (hk : 1 ≤ k) (ht : tab[(k - 1).toNat]? = some (.ref t)) (hrow : (t, tupOf #[.int 0 e, .ref u] n) ∈ news) (ho : (u, o) ∈ news) (lo : (u == sysModules) = false) (hd : o.IsDictOf (KS w) (strPairs [(.str (Str.ofString "Kids") tk, .ref b)])) (hb : (b, listOf [kid].toArray nb) ∈ news) : RowAt w news tab k u b kid :=
  ⟨hk, ⟨t, e, n, ht, hrow⟩, ⟨o, ho, lo, hd⟩, nb, hb⟩
theorem RowAt.mono {w : World} {news news' : List (Addr × Obj)} {tab : List Value} {k : Int} {u b : Addr} {kid : Value} (h : RowAt w news tab k u b kid) (hs : ∀ p ∈ news, p ∈ news') : RowAt w news' tab k u b kid := by
  obtain ⟨a, ⟨t, e, n, ht, hm⟩, hd, nb, hb⟩ := h
  exact ⟨a, ⟨t, e, n, ht, hs _ hm⟩, hd.mono hs, nb, hs _ hb⟩
theorem refI {w : World} {news : List (Addr × Obj)} {x dx : Addr} {k : Int} {a c p q : Tok} {n : Nat} (hx : (x, instObj 254 dx) ∈ news) (hd : (dx, dictOf (refD w a c (.int k p) (.int 0 q)) n) ∈ news) : RefIs w news (.ref x) k 0 := ⟨x, dx, a, c, p, q, n, rfl, hx, hd⟩
theorem Refuse.flip {w : World} {base news : List (Addr × Obj)} {S x dx : Addr} {sz : Nat} {k : Int} {a c p q : Tok} {n : Nat} (hx : (x, instObj 254 dx) ∈ news) (hd : (dx, dictOf (refD w a c (.int k p) (.int 0 q)) n) ∈ news) (h : Refuse w base S sz k) (hs : ∀ p ∈ base, p ∈ news) : SpecE w 400 sz [.ref S, .ref x] news := h.use hs (refI hx hd)
theorem ring_of {w : World} {base : List (Addr × Obj)} {S dS T R : Addr} {k1 k2 j1 j2 j3 : Tok} {n : Nat} {oT : Obj} {t1 t2 t3 u1 u2 u3 b1 b2 b3 : Addr} {c1 c2 c3 : Value} (hS : (S, instObj 363 dS) ∈ base) (hd : (dS, dictOf (shelfD w k1 k2 T R) n) ∈ base) (hT : (T, oT) ∈ base) (lT : (T == sysModules) = false) (hi : oT.IsDictOf (PySem.intKind PySem.Challenge.rw_og0169_01.row.prog w) (intKeyPairs [(.int 1 j1, .ref t1), (.int 2 j2, .ref t2), (.int 3 j3, .ref t3)]))
    (r1 : RowAt w base [.ref t1, .ref t2, .ref t3] 1 u1 b1 c1) (r2 : RowAt w base [.ref t1, .ref t2, .ref t3] 2 u2 b2 c2) (r3 : RowAt w base [.ref t1, .ref t2, .ref t3] 3 u3 b3 c3) (h2 : RefIs w base c1 2 0) (h3 : RefIs w base c2 3 0) (h4 : RefIs w base c3 2 0) : Refuse w base S 9 1 := fun nx v hn hr =>
  ring_raise (oT := oT) (tab := [.ref t1, .ref t2, .ref t3]) (ShelfAt.mono ⟨dS, R, k1, k2, n, hS, hd, lT⟩ hn) (hn _ hT) hi (r1.mono hn) (r2.mono hn) (r3.mono hn) hr (h2.mono hn) (h3.mono hn) (h4.mono hn)
theorem odd_of {w : World} {base : List (Addr × Obj)} {S dS T R : Addr} {k1 k2 j1 j2 e : Tok} {n n3 : Nat} {oT : Obj} {t1 t2 u1 b1 : Addr} {c1 val : Value} (hS : (S, instObj 363 dS) ∈ base) (hd : (dS, dictOf (shelfD w k1 k2 T R) n) ∈ base) (hT : (T, oT) ∈ base) (lT : (T == sysModules) = false) (hi : oT.IsDictOf (PySem.intKind PySem.Challenge.rw_og0169_01.row.prog w) (intKeyPairs [(.int 1 j1, .ref t1), (.int 2 j2, .ref t2)]))
    (r1 : RowAt w base [.ref t1, .ref t2] 1 u1 b1 c1) (h2 : RefIs w base c1 2 0) (hrow : (t2, tupOf #[.int 0 e, val] n3) ∈ base) (hv : PlainV val) : Refuse w base S 7 1 ∧ Refuse w base S 6 7 :=
  ⟨fun nx v hn hr => odd_raise (oT := oT) (tab := [.ref t1, .ref t2]) (ShelfAt.mono ⟨dS, R, k1, k2, n, hS, hd, lT⟩ hn) (hn _ hT) hi (r1.mono hn) hr (h2.mono hn) rfl (hn _ hrow) hv,
   fun nx v hn hr => odd7_raise (oT := oT) (tab := [.ref t1, .ref t2]) (ShelfAt.mono ⟨dS, R, k1, k2, n, hS, hd, lT⟩ hn) (hn _ hT) hi (by simp) hr⟩
theorem menu3 {prog : Program} {w : World} {A : Around} {E : Value → Shared → Prop} {s : Shared} {h₀ : Heap} {L : Addr} {news : List (Addr × Obj)} {Q : Value → Shared → Prop} {value slice : Expr} {t : Addr} {n1 : Nat} {t5 tx u : Tok} {x : Str} {d : Int} (N : News h₀ L s.heap news) (hm : (t, tupOf [.int 5 t5, Value.none, .str x tx].toArray n1) ∈ news) (hd0 : 0 ≤ d) (hd1 : d < 3) (h : ∀ v, PlainV v → Q v s)
    (hs : subscripted slice false (.ref t) (.int d u) = operate [.ref t, .int d u] (getItem (.ref t) (.int d u)) := by with_unfolding_all rfl) : wpAny (model prog w) A (subscriptTail value slice (.ref t) (.int d u)) Q E s := by
  have ht : IsTup s.heap t [.int 5 t5, Value.none, .str x tx].toArray := ⟨_, (N _ hm).1, rfl, n1, rfl⟩
  have hj : seqIndex? d [Value.int 5 t5, Value.none, .str x tx].length = some d.toNat := by
    unfold seqIndex?
    have e : ¬ d < 0 := by omega
    simp only [List.length_cons, List.length_nil, e, if_false]
    rw [if_pos (by simp; omega)]
  refine split3 hd0 hd1 (fun e => ?_) (fun e => ?_) (fun e => ?_) <;> subst e
  · exact item_tupleT ht (by omega) (by omega) hj rfl (h _ (.inr (.inl ⟨_, _, rfl⟩))) hs
  · exact item_tupleT ht (by omega) (by omega) hj rfl (h _ (.inl rfl)) hs
  · exact item_tupleT ht (by omega) (by omega) hj rfl (h _ (.inr (.inr ⟨_, _, rfl⟩))) hs
theorem compEnd_same {h₀ : Heap} {L I C D : Addr} {m : Str → Option Value} {s₁ : Shared} {oI oC oD : Obj} {S : List (Addr × Obj) → Prop} {rest : Value → List (Addr × Obj) → Prop} {y : Value} {h' : Heap} {tk : Nat} {news : List (Addr × Obj)} (F : Fr h₀ L h' m) (N : News h₀ L h' ((I, oI) :: (C, oC) :: (D, oD) :: news)) (off : LCg.Off3 I C D news) (hS : S news) (r : rest y news) :
    LCg.CompEnd h₀ L m s₁ I oI C oC D oD S rest y { s₁ with heap := h', toks := tk } := ⟨h', tk, news, rfl, F, N, off, hS, r⟩
/-- what stood stands -/
theorem news_on {h₀ h : Heap} {L : Addr} {a all : List (Addr × Obj)} (N : News h₀ L h all) (hs : ∀ p ∈ a, p ∈ all) : News h₀ L h a := fun p hp => N p (hs p hp)
theorem off_more2 {T P : Addr} {L tl base : List (Addr × Obj)} (ho : Off2 T P base) (u : Up L tl) (mT : ∃ o, (T, o) ∈ L) (mP : ∃ o, (P, o) ∈ L) : Off2 T P (base ++ tl) := ho.moreU u mT mP
end Mine
namespace Mine
theorem walk_plain_LawAll : True := by
  w_top off
  trivial
namespace fin
theorem tw14995081694147124713 : True := trivial
theorem tw8569027658895312972 : True := trivial
theorem tw11587955951900863698 : True := trivial
theorem tw17717364068325071970 : True := trivial
theorem tw7930893340574950883 : True := trivial
theorem tw4312942655851389009 : True := trivial
theorem tw4209717502836232480 : True := trivial
theorem tw13337293482115323266 : True := trivial
theorem tw7439575562449295702 : True := trivial
theorem tw7976502392129159676 : True := trivial
theorem tw6667815254911646788 : True := trivial
theorem tw2512408688544751470 : True := trivial
theorem tw6973266500810094378 : True := trivial
theorem tw3955986520655104412 : True := trivial
theorem tw17896612028031085017 : True := trivial
theorem tw428092273266315144 : True := trivial
theorem tw5805905742469029177 : True := trivial
theorem tw16906536467411238026 : True := trivial
theorem tw1625080806587739848 : True := trivial
theorem tw16510490156224867327 : True := trivial
theorem tw3199103547748192838 : True := trivial
theorem tw544173102793226557 : True := trivial
theorem tw4928979718650693569 : True := trivial
theorem tw6058378993454661626 : True := trivial
theorem tw17416127249078093707 : True := trivial
theorem tw14793013804824869981 : True := trivial
theorem tw6712194924023145494 : True := trivial
theorem tw2067723777617599883 : True := trivial
theorem tw1544503264643628384 : True := trivial
theorem tw15566928917628492161 : True := trivial
theorem tw16252508478716706905 : True := trivial
theorem tw9001875181463519149 : True := trivial
theorem tw17430205856086898164 : True := trivial
theorem tw4588413851689716618 : True := trivial
theorem tw10852849658779182186 : True := trivial
theorem tw18295790063311454060 : True := trivial
theorem tw15309079848183770524 : True := trivial
theorem tw17130245016438642246 : True := trivial
theorem tw3112429581023547943 : True := trivial
theorem tw2462912638960843985 : True := trivial
theorem tw4985728507212818316 : True := trivial
theorem tw17123178472405020103 : True := trivial
theorem tw16237762584071213788 : True := trivial
theorem tw4878226113927451544 : True := trivial
theorem tw3912488439876925007 : True := trivial
theorem tw4769821431679368130 : True := trivial
theorem tw7995362448368537469 : True := trivial
theorem tw7380833856163905736 : True := trivial
theorem tw5962627729488381771 : True := trivial
theorem tw3506512066687448480 : True := trivial
theorem tw3599858809825778643 : True := trivial
theorem tw12347537446847802165 : True := trivial
theorem tw3105451386036433885 : True := trivial
theorem tw10891054232620793217 : True := trivial
theorem tw6718411051458867188 : True := trivial
theorem tw803859442106103436 : True := trivial
theorem tw14075178694198228753 : True := trivial
theorem tw1560641971993327685 : True := trivial
theorem tw10936777179133785780 : True := trivial
theorem tw14347400895652799225 : True := trivial
theorem tw9997704412844104603 : True := trivial
theorem tw13021059552284102479 : True := trivial
theorem tw1080700006314346644 : True := trivial
theorem tw4171678462856256454 : True := trivial
theorem tw3974152918291533672 : True := trivial
theorem tw9221430085559818832 : True := trivial
theorem tw10580198807604790814 : True := trivial
theorem tw1921391257341544841 : True := trivial
theorem tw3028926083550364057 : True := trivial
theorem tw15583698165555649274 : True := trivial
theorem tw11192643925408225281 : True := trivial
theorem tw2910385600587045654 : True := trivial
theorem tw10234915967203826555 : True := trivial
theorem tw14279960228734115912 : True := trivial
theorem tw15564276425815640635 : True := trivial
theorem tw9218923581257491847 : True := trivial
theorem tw982560976839675504 : True := trivial
theorem tw17186005699333237546 : True := trivial
theorem tw14679806638718605512 : True := trivial
theorem tw3998398428148030388 : True := trivial
theorem tw4326780796455107134 : True := trivial
theorem tw13898374239775968522 : True := trivial
theorem tw12847644182280273618 : True := trivial
theorem tw4719063310657182621 : True := trivial
theorem tw10818889477481085253 : True := trivial
theorem tw12711679700452659978 : True := trivial
theorem tw3810570522144960214 : True := trivial
theorem tw8416529770105884409 : True := trivial
theorem tw1422313219903470601 : True := trivial
theorem tw6498334528663615478 : True := trivial
theorem tw8643116662766533202 : True := trivial
theorem tw15201286185872193147 : True := trivial
theorem tw9746214513668125432 : True := trivial
theorem tw4040260094072895976 : True := trivial
theorem tw6577878126316647860 : True := trivial
theorem tw612862322836996645 : True := trivial
theorem tw4218790737952374519 : True := trivial
theorem tw7613945582906998725 : True := trivial
theorem tw4924110625330727750 : True := trivial
theorem tw7613857476909055813 : True := trivial
theorem tw18105942590061964161 : True := trivial
theorem tw12135189313929291683 : True := trivial
theorem tw6515953530934532768 : True := trivial
theorem tw17570709534508481193 : True := trivial
theorem tw11112386831996348380 : True := trivial
theorem tw7890596953891613788 : True := trivial
theorem tw17041991840579044601 : True := trivial
theorem tw8119881530291889089 : True := trivial
theorem tw3222278782482380304 : True := trivial
theorem tw12669758225909598566 : True := trivial
theorem tw12876064707754696378 : True := trivial
theorem tw4162185377826839926 : True := trivial
theorem tw8066640407243068393 : True := trivial
theorem tw2656788454239962097 : True := trivial
theorem tw6766580051018981234 : True := trivial
theorem tw3493451186050813340 : True := trivial
theorem tw5071919506433949198 : True := trivial
theorem tw9917203430921899224 : True := trivial
theorem tw17132207802985990308 : True := trivial
theorem tw8272817396058243321 : True := trivial
theorem tw9746901515087519452 : True := trivial
theorem tw648105169693061245 : True := trivial
theorem tw13093503161671486093 : True := trivial
theorem tw18143746015782897960 : True := trivial
theorem tw4997895960566837665 : True := trivial
theorem tw2304379251839397102 : True := trivial
theorem tw3837020019201816242 : True := trivial
theorem tw5486226609284752418 : True := trivial
theorem tw2305881189932309285 : True := trivial
theorem tw6435670951450185984 : True := trivial
theorem tw5073790198343104882 : True := trivial
theorem tw8432929667963758897 : True := trivial
theorem tw2051409578822353534 : True := trivial
theorem tw7716820226725407877 : True := trivial
theorem tw5115476493328737885 : True := trivial
theorem tw11293339424137598113 : True := trivial
theorem tw11154830654865731599 : True := trivial
theorem tw15399907426655090358 : True := trivial
theorem tw9913140749668108558 : True := trivial
theorem tw14373992730908305990 : True := trivial
theorem tw8025084765662995669 : True := trivial
theorem tw111200028466390044 : True := trivial
theorem tw15459455144867644326 : True := trivial
theorem tw4768634762848416435 : True := trivial
theorem tw17656766251404061198 : True := trivial
theorem tw9247658263007524724 : True := trivial
theorem tw7661832156752021035 : True := trivial
theorem tw8330952907988395303 : True := trivial
theorem tw16103849850496634939 : True := trivial
theorem tw16256441300576474876 : True := trivial
theorem tw10511823565363050587 : True := trivial
theorem tw12105171945263650130 : True := trivial
theorem tw17067295170570645592 : True := trivial
theorem tw6323506392446703087 : True := trivial
theorem tw1249118550022496774 : True := trivial
theorem tw14166196953294261902 : True := trivial
theorem tw12740692763255036000 : True := trivial
theorem tw12550770813317053977 : True := trivial
theorem tw7000300075881102575 : True := trivial
theorem tw11061592194353771069 : True := trivial
theorem tw8919302590299486024 : True := trivial
theorem tw4598667867955821814 : True := trivial
theorem tw16115155874713506467 : True := trivial
theorem tw5098551885099359569 : True := trivial
theorem tw12180539936304867106 : True := trivial
theorem tw2889549343368979185 : True := trivial
theorem tw18373065035072037172 : True := trivial
theorem tw11897717083992391400 : True := trivial
theorem tw9722632081671974098 : True := trivial
theorem tw13700621096757390547 : True := trivial
theorem tw11039862389202566683 : True := trivial
theorem tw12141802397888321627 : True := trivial
theorem tw3314143786362844604 : True := trivial
theorem tw15741700470354863883 : True := trivial
theorem tw846297522682114974 : True := trivial
theorem tw10599938827571368224 : True := trivial
theorem tw8408514402456403777 : True := trivial
theorem tw17628183408451194143 : True := trivial
theorem tw8352470293576582857 : True := trivial
theorem tw3683778510129048087 : True := trivial
theorem tw14568449535678555946 : True := trivial
theorem tw13177410634674063896 : True := trivial
theorem tw16109372258727991565 : True := trivial
theorem tw10391319463526535247 : True := trivial
theorem tw16540275574145912595 : True := trivial
theorem tw5320702786494000081 : True := trivial
theorem tw10807920368746810246 : True := trivial
theorem tw1635022588487117616 : True := trivial
theorem tw12567809125941998234 : True := trivial
theorem tw6381419901266130222 : True := trivial
theorem tw14210890002308233579 : True := trivial
theorem tw6081921254191324426 : True := trivial
theorem tw17933470926392208243 : True := trivial
theorem tw744865244796547220 : True := trivial
theorem tw17260493314774615805 : True := trivial
theorem tw16889484823980962733 : True := trivial
theorem tw12629903358213643309 : True := trivial
theorem tw1012361349325877821 : True := trivial
theorem tw7055459427971326715 : True := trivial
theorem tw4265850918314828415 : True := trivial
theorem tw500868675978126160 : True := trivial
theorem tw4640724917100965312 : True := trivial
theorem tw16958243865122950064 : True := trivial
theorem tw10329872625359487480 : True := trivial
theorem tw14139026862911339306 : True := trivial
theorem tw6454446336052903152 : True := trivial
theorem tw18255404467826089762 : True := trivial
theorem tw14495431336439861174 : True := trivial
theorem tw13815853411582834384 : True := trivial
theorem tw5266742908149448401 : True := trivial
theorem tw12355744275394475900 : True := trivial
theorem tw799341379326975648 : True := trivial
theorem tw14728723275428758510 : True := trivial
theorem tw17743408960866722510 : True := trivial
theorem tw15344004072050561172 : True := trivial
theorem tw10098057777631523497 : True := trivial
theorem tw8656503046869711584 : True := trivial
theorem tw12212933522069011988 : True := trivial
theorem tw1363357906365418915 : True := trivial
theorem tw888132650186811988 : True := trivial
theorem tw2617349483901765261 : True := trivial
theorem tw13516622038369049944 : True := trivial
theorem tw13870153662132920491 : True := trivial
theorem tw2236755162388048479 : True := trivial
theorem tw6968583824967984638 : True := trivial
theorem tw12149302876761508202 : True := trivial
theorem tw12237877928780879103 : True := trivial
theorem tw2976117146107443816 : True := trivial
theorem tw10751089155417173751 : True := trivial
theorem tw17719728818120068181 : True := trivial
theorem tw807531904560671035 : True := trivial
theorem tw14109310954907245088 : True := trivial
theorem tw4424551920762525699 : True := trivial
theorem tw12464766053444552404 : True := trivial
theorem tw12649782002744950493 : True := trivial
theorem tw17449020081951674710 : True := trivial
theorem tw7451905468542833597 : True := trivial
theorem tw15205425988870721313 : True := trivial
theorem tw17974384156558142227 : True := trivial
theorem tw4684940682943077961 : True := trivial
theorem tw4950403968356008110 : True := trivial
theorem tw891787732878383699 : True := trivial
theorem tw17637551073024348614 : True := trivial
theorem tw10162525131873970293 : True := trivial
theorem tw4170516301191304579 : True := trivial
theorem tw17347454772498655404 : True := trivial
theorem tw16307707646766795581 : True := trivial
theorem tw9735714214384596553 : True := trivial
theorem tw6373057863659459694 : True := trivial
theorem tw4879674094562380441 : True := trivial
theorem tw999798209818781672 : True := trivial
theorem tw17869975865946814897 : True := trivial
theorem tw6127190174262240918 : True := trivial
theorem tw3975253019698251321 : True := trivial
theorem tw2316539691658765527 : True := trivial
theorem tw2367325634123391141 : True := trivial
theorem tw7321584467024264148 : True := trivial
theorem tw13383306551100868464 : True := trivial
theorem tw5734618986648460908 : True := trivial
theorem tw2671655128345628175 : True := trivial
theorem tw13162651487661262736 : True := trivial
theorem tw6388184931127306564 : True := trivial
theorem tw13814004702073501669 : True := trivial
theorem tw16196181902256332553 : True := trivial
theorem tw7803649310394182010 : True := trivial
theorem tw16275787546110486726 : True := trivial
theorem tw9113340658982188547 : True := trivial
theorem tw18387650150990424433 : True := trivial
theorem tw6474043946942992101 : True := trivial
theorem tw5227809002895711924 : True := trivial
theorem tw13790858721211988464 : True := trivial
theorem tw1982079694162106894 : True := trivial
theorem tw12221555665107904926 : True := trivial
theorem tw5011121235533021005 : True := trivial
theorem tw8018989035897545986 : True := trivial
theorem tw12696600883282566439 : True := trivial
theorem tw12494888245299231016 : True := trivial
theorem tw8992130219625755252 : True := trivial
theorem tw8590288500278120515 : True := trivial
theorem tw11336253725339858928 : True := trivial
theorem tw13929302177132474383 : True := trivial
theorem tw12962497063298326498 : True := trivial
theorem tw757079261281740938 : True := trivial
theorem tw14431720936831517352 : True := trivial
theorem tw16496857829328116044 : True := trivial
theorem tw3263211703599914710 : True := trivial
theorem tw14786503066443513839 : True := trivial
theorem tw17971676594858020690 : True := trivial
theorem tw12977279227502587607 : True := trivial
theorem tw5730831775697187677 : True := trivial
theorem tw15373703851562958014 : True := trivial
theorem tw5402249366112354979 : True := trivial
theorem tw9544026089342320630 : True := trivial
theorem tw11040825799340251285 : True := trivial
theorem tw15989303212955285315 : True := trivial
theorem tw15621619335703214680 : True := trivial
theorem tw15832999045522443761 : True := trivial
theorem tw11615019562542576733 : True := trivial
theorem tw895571856199123645 : True := trivial
theorem tw251868834278440796 : True := trivial
theorem tw8559517257967667466 : True := trivial
theorem tw7470013935711676318 : True := trivial
theorem tw3125960719983571848 : True := trivial
theorem tw12932903420030652473 : True := trivial
theorem tw6956187926921108005 : True := trivial
theorem tw1963134401048803436 : True := trivial
theorem tw8383268338085895543 : True := trivial
theorem tw15942684835789789487 : True := trivial
theorem tw17512474026176034454 : True := trivial
theorem tw3812028171767442716 : True := trivial
theorem tw10671828304227620169 : True := trivial
theorem tw16407147864228438881 : True := trivial
theorem tw12829507556594621215 : True := trivial
theorem tw14345562132136545540 : True := trivial
theorem tw5901363791540438844 : True := trivial
theorem tw3456623496861543869 : True := trivial
theorem tw3762306804915933987 : True := trivial
theorem tw8577089030196625639 : True := trivial
theorem tw10196768644732416780 : True := trivial
theorem tw244944058534012095 : True := trivial
theorem tw11079828417688620724 : True := trivial
theorem tw4443050520305737185 : True := trivial
theorem tw4898026214463823928 : True := trivial
theorem tw8462624477310905004 : True := trivial
theorem tw11151619158091525091 : True := trivial
theorem tw9387745189664136937 : True := trivial
theorem tw11277574374343807151 : True := trivial
theorem tw12118000046449163591 : True := trivial
theorem tw6068950659093879613 : True := trivial
theorem tw17963964198891936676 : True := trivial
theorem tw17784850919643140607 : True := trivial
theorem tw14814673180317915700 : True := trivial
theorem tw783483362715066742 : True := trivial
theorem tw10895054467252067526 : True := trivial
theorem tw18105285910621931680 : True := trivial
theorem tw1535588207084551279 : True := trivial
theorem tw857469055436470443 : True := trivial
theorem tw5678346346211369953 : True := trivial
theorem tw17164383140453370395 : True := trivial
theorem tw12448240930570709186 : True := trivial
theorem tw670465573061467203 : True := trivial
theorem tw4868334931027891882 : True := trivial
theorem tw13423622936843584764 : True := trivial
theorem tw3029852977388229646 : True := trivial
theorem tw2537931557510868981 : True := trivial
theorem tw9445451236469955387 : True := trivial
theorem tw18230178534529381785 : True := trivial
theorem tw3810338749695602999 : True := trivial
theorem tw11607805686811502034 : True := trivial
theorem tw10939691994893167182 : True := trivial
theorem tw12356021495744459628 : True := trivial
theorem tw11466478281803324712 : True := trivial
theorem tw15815952407149668801 : True := trivial
theorem tw7684487725183542926 : True := trivial
theorem tw6878024787957991413 : True := trivial
theorem tw12833947400113492166 : True := trivial
theorem tw13724452099449386491 : True := trivial
theorem tw3268265519342814607 : True := trivial
theorem tw16401934584784274106 : True := trivial
theorem tw14497727239971306367 : True := trivial
theorem tw7675655780812522254 : True := trivial
theorem tw1252854909445205041 : True := trivial
theorem tw14560573928864763818 : True := trivial
theorem tw480829909506669009 : True := trivial
theorem tw333583748066197110 : True := trivial
theorem tw1666694428299288667 : True := trivial
theorem tw12996517811204074000 : True := trivial
theorem tw9260378047223084069 : True := trivial
theorem tw2775396313129547428 : True := trivial
theorem tw10070804522480449196 : True := trivial
theorem tw4570111826955561243 : True := trivial
theorem tw17362494058136835672 : True := trivial
theorem tw5647864574477489665 : True := trivial
theorem tw15144710454662140524 : True := trivial
theorem tw10874316729293906858 : True := trivial
theorem tw14517287926952318261 : True := trivial
theorem tw7249652514872940865 : True := trivial
theorem tw10699407837109476802 : True := trivial
theorem tw6567050819087999508 : True := trivial
theorem tw4613182775407389354 : True := trivial
theorem tw11414674201277728305 : True := trivial
theorem tw13925877587632400325 : True := trivial
theorem tw11953781441336167498 : True := trivial
theorem tw16570786720924097770 : True := trivial
theorem tw1014637456484912126 : True := trivial
theorem tw2866121171748074186 : True := trivial
theorem tw9806666330580929782 : True := trivial
theorem tw884059145510264010 : True := trivial
theorem tw3004984022683251337 : True := trivial
theorem tw9610726530385051774 : True := trivial
theorem tw1613116972386908190 : True := trivial
theorem tw8399098705505230059 : True := trivial
theorem tw14142754788403991900 : True := trivial
theorem tw16269368082590959529 : True := trivial
theorem tw5897612983314593646 : True := trivial
theorem tw452842511749404161 : True := trivial
theorem tw8668149382578428375 : True := trivial
theorem tw4754365596532378047 : True := trivial
theorem tw4788878847521262168 : True := trivial
theorem tw10875463905939285979 : True := trivial
theorem tw14245171486683049214 : True := trivial
theorem tw10242451874928486539 : True := trivial
theorem tw1887099378405440850 : True := trivial
theorem tw12869217540446652890 : True := trivial
theorem tw1819255440876223710 : True := trivial
theorem tw17197158672614542318 : True := trivial
theorem tw4232310507111121658 : True := trivial
theorem tw216489041496292469 : True := trivial
theorem tw6455845175183424153 : True := trivial
theorem tw11273041486466551846 : True := trivial
theorem tw4555462946037337122 : True := trivial
end fin
section
local macro_rules | `(tactic| k_ne) => `(tactic| (refine neN ?_; (try dsimp only); with_reducible first | assumption | exact Ne.symm (by assumption) | (apply Nat.ne_of_gt; first | assumption | (apply And.left; (iterate 30 (first | done | assumption | apply And.right)); done)) | (apply Nat.ne_of_lt; first | assumption | (apply And.left; (iterate 30 (first | done | assumption | apply And.right)); done))))
local macro_rules | `(tactic| k_in) => `(tactic| first | with_reducible assumption | exact Frag.In.keeps (by k_asm) (Fr.keep (by k_asm)))
local macro_rules | `(tactic| ktn_ord) => `(tactic| first | (refine' ktn_ltOf ?h; (case h => with_reducible (first | assumption | (apply And.right; (iterate 30 (first | done | assumption | apply And.right)); done)))) | fail "none")
local macro_rules | `(tactic| k_mem) => `(tactic| first | exact (by with_reducible_and_instances assumption) | exact (mem_inl' (by with_reducible_and_instances assumption)) | exact (mem_inr' (by with_reducible_and_instances assumption)) | exact (mem_inl' (mem_inl' (by with_reducible_and_instances assumption))) | exact (mem_inl' (mem_inr' (by with_reducible_and_instances assumption))) | exact (mem_inl' (mem_inl' (mem_inl' (by with_reducible_and_instances assumption)))) | exact (mem_inl' (mem_inl' (mem_inr' (by with_reducible_and_instances assumption)))) | exact (mem_inl' (mem_inl' (mem_inl' (mem_inl' (by with_reducible_and_instances assumption))))))
local macro_rules | `(tactic| k_mem) => `(tactic| first | exact Pick.head | (refine' Pick.tail ?pk; (case pk => k_mem)))
local macro_rules | `(tactic| k_all) => `(tactic| first | with_reducible assumption | exact Off2.fst (by with_reducible assumption) | exact Off2.snd (by with_reducible assumption) | (refine' off_of ?h; (case h => with_reducible (first | assumption | (apply And.right; (iterate 20 (first | done | assumption | apply And.right)); done)))) | ((with_reducible refine' off_app ?oa ?ob); (case oa => k_all); (case ob => first | exact off_ap (by with_reducible assumption) ⟨_, by k_mem⟩ | exact off_ap (Up.apart (by with_reducible assumption)) ⟨_, by k_mem⟩)) | fail "none")
local macro_rules | `(tactic| ktd_sub) => `(tactic| first | (with_reducible exact sub_refl _) | with_reducible assumption | (with_reducible exact sub_nil _) | ((with_reducible refine' sub_consl ?_ ?_); (focus k_mem); ktd_sub) | ((with_reducible refine' sub_appl ?_ ?_); (focus ktd_sub); ktd_sub) | ((with_reducible refine' sub_cons ?_); ktd_sub) | ((with_reducible refine' sub_app ?_); ktd_sub) | ((with_reducible refine' sub_appR ?_); ktd_sub))
set_option Elab.async true in
set_option maxRecDepth 100000 in
set_option maxHeartbeats 16000000 in
theorem fin : PySem.Challenge.rw_og0169_01.Holds := by
  w_on
  o_law
  o_head (kHook Mine.fr.heap_1 [2, 3, 15, 17, 18, 20, 21, 22, 29, 30, 32, 33, 35, 36, 37, 39, 40, 42, 43, 44, 45, 46, 47, 50, 57, 58, 59, 69, 71, 72, 74, 75, 76, 78, 79, 81, 82, 83, 85, 86, 88, 89, 90, 92, 93, 95, 96, 97, 99, 100, 102, 103, 104, 106, 107, 109, 110, 111, 113, 114, 116, 117, 118, 120, 121, 123, 124, 125, 127, 128, 130, 131, 132, 134, 135, 137, 138, 139, 141, 142, 144, 145, 146, 148, 149, 151, 152, 153, 154, 155, 156, 157, 160, 162, 163, 165, 166, 174, 176, 177, 179, 180, 181, 182, 183, 184, 185, 195, 196, 198, 199, 201, 202, 203, 204, 205, 206, 207, 217, 219, 220, 222, 223, 224, 225, 226, 227, 228, 238, 240, 241, 243, 244, 245, 247, 248, 250, 251, 252, 253, 254, 255, 256, 259, 261, 262, 264, 265, 266, 268, 269, 271, 272, 273, 276, 277, 285, 286, 288, 289, 291, 292, 293, 295, 296, 298, 299, 300, 302, 303, 305, 306, 307, 308, 309, 310, 311, 314, 321, 323, 324, 326, 327, 328, 330, 331, 333, 334, 335, 337, 338, 340, 341, 342, 344, 345, 347, 348, 349, 351, 352, 354, 355, 356, 359, 360, 361, 362, 363, 366, 368, 369, 371, 372, 373, 375, 376, 378, 379, 380, 382, 383, 385, 386, 387, 390, 391, 392, 393, 394, 396, 397, 399, 400, 401, 403, 404, 406, 407, 408, 411, 412, 413, 416, 417, 418, 421, 422, 423, 425, 426, 428, 429, 430, 433, 434] (fun _ => by kernel_rfl))
  (case hw => w_witness2)
  w_top off
  k_go0
  all_goals try k_fold
  rename_i w s₀ s₁ mg mb vG vY fa vo vpm vdoc vkV vho vhg vKX vMX vLA vGL vT vTB vTE vTW vw9 vw8 vBM vw7 vw6 vhcd ns vhs vhlay vhL vhr vhl2 vw4 vw3 vw2 vs0 vw0 vIL vra vwl vr0 vII vrw vhc1 vhc2 vK0 vDf vh1 F1 vN
  have vT' : Top lawView _ _ _ _ _ := vT
  refine cut_law1 F1 Law1 ?_ ?_
  · skip
    repeat' (first | (k_unfold; (try dsimp only)) | ((with_reducible show wpAny _ _ (call (Value.ref _) _) _ _ _); first | with_reducible (k_here; (with_reducible show wpAny _ _ (call (Value.ref 363) []) _ _ _); k_dflt ( refine' spec_use (f := 363) (by k_asm) (by k_asm) (by k_asm) (by k_asm) (by k_asm) (by first | exact rfl | with_reducible assumption) (shelf_new0 _ _) (by exact Nat.le_of_ble_eq_true rfl) (by exact Nat.le_of_ble_eq_true rfl) (ret_shelf0 ?_); (intro x9 d9 a9 c9 m9 t9 o9 q9 u9 h9 tk9 F9 N9 b9 i9 l9 k9 v9 w9 y9 z9 f9 g9 j9; (try k_lt l9); (try k_lt2 k9); (try k_lt2 v9); (try k_lt2 w9); (try k_lt2 z9); (try k_lt2 f9); (try k_lt2 g9); (try k_lt y9); (try k_lt j9); (try k_sweep); (try dsimp only); (try k_fold)))) | with_reducible (k_here; (with_reducible show wpAny _ _ (call (Value.ref 363) [Value.ref _, Value.ref _]) _ _ _); k_dflt ( refine' spec_use (f := 363) (by k_asm) (by k_asm) (by k_asm) (by k_asm) (by k_asm) (by first | exact rfl | with_reducible assumption) (shelf_new _ _ _ _) (by exact Nat.le_of_ble_eq_true rfl) (by exact Nat.le_of_ble_eq_true rfl) (ret_obj ?_); (intro x9 d9 a9 c9 m9 h9 tk9 F9 N9 l9 k9; (try k_lt l9); (try k_lt2 k9); (try k_sweep); (try dsimp only); (try k_fold)))) | with_reducible (k_here; (with_reducible show wpAny _ _ (call (Value.ref 254) [Value.int _ _, Value.int _ _]) _ _ _); k_dflt ( refine' spec_use (f := 254) (by k_asm) (by k_asm) (by k_asm) (by k_asm) (by k_asm) (by first | exact rfl | with_reducible assumption) (ref_new _ _ _ _ _ _) (by exact Nat.le_of_ble_eq_true rfl) (by exact Nat.le_of_ble_eq_true rfl) (ret_obj ?_); (intro x9 d9 a9 c9 m9 h9 tk9 F9 N9 l9 k9; (try k_lt l9); (try k_lt2 k9); (try k_sweep); (try dsimp only); (try k_fold)))) | with_reducible (k_here; (with_reducible show wpAny _ _ (call (Value.ref 429) _) _ _ _); k_dflt ( refine' spec_useT (f := 429) (by k_asm) (by k_asm) (by k_asm) (by k_asm) (by k_asm) (by first | exact rfl | with_reducible assumption) (refused _ _ _ _ _ (Refuse.flip (by k_mem) (by k_mem) (by with_reducible assumption) (by ktd_sub))) (by exact Nat.le_of_ble_eq_true rfl) (by exact Nat.le_of_ble_eq_true rfl) (ret_same ?_); (intro h9 tk9 F9 N9; (try k_sweep); (try dsimp only); (try k_fold)))) | with_reducible (k_here; (with_reducible show wpAny _ _ (call (Value.ref 407) _) _ _ _); k_dflt ( refine' spec_use (f := 407) (by k_asm) (by k_asm) (by k_asm) (Pick.of (by k_asm) (by k_mem)) (by k_asm) (by first | exact rfl | with_reducible assumption) (take_any _ _ _ _ (by with_reducible assumption) _ _ _ (by k_all) (by decide)) (by exact Nat.le_of_ble_eq_true rfl) (by exact Nat.le_of_ble_eq_true rfl) (ret_take ?_); (intro d9 t9 vs9 k9 h9 tk9 F9 N9 lo9 hi9 po9; (try k_sweep); (try dsimp only); (try k_fold)))) | with_reducible (k_here; (with_reducible show wpAny _ _ (call (Value.ref 334) _) _ _ _); k_dflt ( refine' spec_use (f := 334) (by k_asm) (by k_asm) (by k_asm) (by k_asm) (by k_asm) (by first | exact rfl | with_reducible assumption) (add_pick (by with_reducible assumption) (by k_mem) (by k_all) (by with_reducible assumption) (by first | omega | (simp only [List.length_append, List.length_cons, List.length_nil]; omega)) (by k_mem) (by k_mem)) (by exact Nat.le_of_ble_eq_true rfl) (by exact Nat.le_of_ble_eq_true rfl) (ret_add ?_); (intro r9 o9 tl9 t9 tt9 m9 h9 tk9 F9 N9 up9' tb9 mem9 ref9; have up9 := up9'.apart; (try simp only [List.cons_append] at N9); (try k_sweep); (try dsimp only); (try k_fold)))) | with_reducible (k_here; (with_reducible show wpAny _ _ (call (Value.ref 422) _) _ _ _); k_dflt ( refine' spec_use (f := 422) (by k_asm) (by k_asm) (by k_asm) (by k_asm) (by k_asm) (by first | exact rfl | with_reducible assumption) (Hangs.use (by with_reducible assumption) (by ktd_sub) (by with_reducible assumption) (by with_reducible assumption) (by with_reducible assumption) (by (first | omega | (simp only [List.length_nil]; omega)))) (by exact Nat.le_of_ble_eq_true rfl) (by exact Nat.le_of_ble_eq_true rfl) (ret_hung ?_); (intro r9 o9 vs9 m9 tl9 more9 h9 tk9 F9 N9 pp9 up9 tb9 lm9 st9; (try simp only [List.cons_append] at N9); (try k_sweep); (try dsimp only); (try k_fold)))) | with_reducible (k_here; (with_reducible show wpAny _ _ (call (Value.ref 400) _) _ _ _); k_dflt ( refine' spec_use (f := 400) (by k_asm) (by k_asm) (by k_asm) (by k_asm) (by k_asm) (by first | exact rfl | with_reducible assumption) (GathN.use (by with_reducible assumption) (by ktd_sub)) (by exact Nat.le_of_ble_eq_true rfl) (by exact Nat.le_of_ble_eq_true rfl) (ret_made ?_); (intro r9 tl9 h9 tk9 F9 N9 up9 nd9; have tn9 := tells_node 4 nd9; (try simp only [List.cons_append] at nd9 tn9); (try simp only [List.cons_append] at N9); (try k_sweep); (try dsimp only); (try k_fold)))) | with_reducible (k_here; (with_reducible show wpAny _ _ (call (Value.ref 417) _) _ _ _); k_dflt ( refine' spec_use (f := 417) (by k_asm) (by k_asm) (by k_asm) (by k_asm) (by k_asm) (by first | exact rfl | with_reducible assumption) (Counts.use (by with_reducible assumption) (by ktd_sub)) (by exact Nat.le_of_ble_eq_true rfl) (by exact Nat.le_of_ble_eq_true rfl) (ret_int ?_); (intro t9 tl9 h9 tk9 F9 N9 up9; (try simp only [List.cons_append] at N9); (try k_sweep); (try dsimp only); (try k_fold)))) | with_reducible (k_here; (with_reducible show wpAny _ _ (call (Value.ref 348) _) _ _ _); k_dflt ( refine' spec_use (f := 348) (by k_asm) (by k_asm) (by k_asm) (by k_asm) (by k_asm) (by first | exact rfl | with_reducible assumption) (numbers_use (by k_mem) (by k_mem) (by k_mem) (by with_reducible assumption) (by with_reducible assumption) (by omega)) (by exact Nat.le_of_ble_eq_true rfl) (by exact Nat.le_of_ble_eq_true rfl) (ret_nums ?_); (intro b9 vs9 m9 tl9 h9 tk9 F9 N9 up9 mb9 ln9; (try simp only [List.cons_append] at N9); (try k_sweep); (try dsimp only); (try k_fold)))) | with_reducible (k_here; (with_reducible show wpAny _ _ (call (Value.ref 391) _) _ _ _); k_dflt ( refine' spec_use (f := 391) (by k_asm) (by k_asm) (by k_asm) (by k_asm) (by k_asm) (by first | exact rfl | with_reducible assumption) (Lays.use (by with_reducible assumption) (by ktd_sub) (by with_reducible assumption) (by with_reducible assumption) (by (simp only [List.length_nil]; omega))) (by exact Nat.le_of_ble_eq_true rfl) (by exact Nat.le_of_ble_eq_true rfl) (ret_laid ?_); (intro r9 o9 tl9 m9 h9 tk9 F9 N9 up9 t9 c9 st9 kr9; (try simp only [List.cons_append] at N9); (try k_sweep); (try dsimp only); (try k_fold)))) | with_reducible (k_here; (with_reducible show wpAny _ _ (call (Value.ref 277) _) _ _ _); k_dflt ( refine' spec_use (f := 277) (by k_asm) (by k_asm) (by k_asm) (by k_asm) (by k_asm) (by first | exact rfl | with_reducible assumption) (Tells.use (by with_reducible assumption) (by ktd_sub)) (by exact Nat.le_of_ble_eq_true rfl) (by exact Nat.le_of_ble_eq_true rfl) (ret_made ?_); (intro r9 tl9 h9 tk9 F9 N9 up9 td9; (try simp only [List.cons_append] at N9); (try k_sweep); (try dsimp only); (try k_fold)))) | with_reducible (k_here; (with_reducible show wpAny _ _ (call (Value.ref 277) _) _ _ _); k_dflt ( refine' spec_use (f := 277) (by k_asm) (by k_asm) (by k_asm) (by k_asm) (by k_asm) (by first | exact rfl | with_reducible assumption) (Tells.flip (by exact sub_refl _) (by exact tells_node 4 (tri_of' (by with_reducible assumption) (by k_mem) (by with_reducible assumption) (by with_reducible assumption) (by k_mem) (by with_reducible assumption) (by ktd_sub)))) (by exact Nat.le_of_ble_eq_true rfl) (by exact Nat.le_of_ble_eq_true rfl) (ret_made ?_); (intro r9 tl9 h9 tk9 F9 N9 up9 td9; (try simp only [List.cons_append] at N9); (try k_sweep); (try dsimp only); (try k_fold)))) | with_reducible (k_here; (with_reducible show wpAny _ _ (call (Value.ref 412) _) _ _ _); k_dflt (first | (refine' spec_use (f := 412) (by k_asm) (by k_asm) (by k_asm) (Pick.of (by k_asm) (by k_mem)) (by k_asm) (by first | exact rfl | with_reducible assumption) (Trees.use (trees _ _ 2) (by exact rfl) (by with_reducible assumption) (by k_all)) (by exact Nat.le_of_ble_eq_true rfl) (by exact Nat.le_of_ble_eq_true rfl) (ret_tree ?_); (intro r9 vs9 m9 d9 tl9 h9 tk9 F9 N9 up9 pp9 nd9 cn9; (try simp only [List.cons_append] at N9); (try k_sweep); (try dsimp only); (try k_fold))) | (refine' spec_use (f := 412) (by k_asm) (by k_asm) (by k_asm) (Pick.of (by k_asm) (by k_mem)) (by k_asm) (by first | exact rfl | with_reducible assumption) (Trees.use (trees _ _ 3) (by exact rfl) (by with_reducible assumption) (by k_all)) (by exact Nat.le_of_ble_eq_true rfl) (by exact Nat.le_of_ble_eq_true rfl) (ret_tree ?_); (intro r9 vs9 m9 d9 tl9 h9 tk9 F9 N9 up9 pp9 nd9 cn9; (try simp only [List.cons_append] at N9); (try k_sweep); (try dsimp only); (try k_fold)))))) | ((with_reducible show wpAny _ _ (call (Value.builtin "isinstance") _) _ _ _); first | with_reducible (k_here; (with_reducible show wpAny _ _ (call _ [Value.ref _, Value.ref _]) _ _ _); k_dflt (refine' isi_call (by k_in) (by k_types) (by k_is) (by intro e; cases e) ?_; k_whole))) | ((with_reducible show wpAny _ _ (binaryOp Operator.Mult (Value.ref _) (Value.int _ _)) _ _ _); first | with_reducible (k_here; (with_reducible show wpAny _ _ (binaryOp Operator.Mult (Value.ref _) (Value.int 3 _)) _ _ _); k_dflt (refine' mul3 (by k_asm) (by k_asm) (by k_mem) ?_); intro D' h' F' N' l1; (try k_lt l1); (try k_sweep))) | ((with_reducible show wpAny _ _ (exec (Stmt.If _ _ _ _) _) _ _ _); first | with_reducible (k_here; refine wpAny_If ?_)) | ((with_reducible show LCg.CompEnd _ _ _ _ _ _ _ _ _ _ _ _ _ _); first | with_reducible (k_here; k_dflt (refine' compEnd_same (by k_asm) (by k_asm) (by exact (by with_reducible assumption : (_ ≠ _ ∧ _ ≠ _ ∧ _ ≠ _) ∧ _)) (by exact Or.inr ⟨_, by k_mem, rfl, _, rfl⟩) ?_)) | (k_here; k_dflt (refine' compEnd_same (by k_asm) (by k_asm) (by exact (by with_reducible assumption : (_ ≠ _ ∧ _ ≠ _ ∧ _ ≠ _) ∧ _)) (by exact Or.inr ⟨_, by k_mem, rfl, _, rfl⟩) ?_))) | ((with_reducible show LCt.CompSrcT _ _ _ _ _ _ _ _ _ _ _ _ _ _ _); first | with_reducible (k_here; k_dflt (refine' LCt.CompSrcT.ledger rfl (by k_asm) (by k_asm) (by k_mem) (by exact Nat.le_of_ble_eq_true rfl) ?_); intro g9)) | ((with_reducible show wpAny _ _ (eval (Expr.ListComp _ _ _ _) _) _ _ _); first | with_reducible (k_here; k_dflt (refine LCt.ListComp_T (F₀ := by k_asm) (by with_unfolding_all rfl) (by decide) (by rfl) (by decide) (by rfl) ?_))) | ((with_reducible show wpAny _ _ (subscriptTail _ _ _ _) _ _ _); first | with_reducible (k_here; (with_reducible show wpAny _ _ (subscriptTail _ _ (Value.ref _) (Value.int _ _)) _ _ _); (fail_if_success (with_reducible show wpAny _ _ (subscriptTail _ _ (Value.ref _) (Value.int 0 _)) _ _ _)); k_dflt (refine' menu3 (by k_asm) (by k_mem) (by with_reducible assumption) (by with_reducible assumption) ?_); intro v9 pv9) | with_reducible (k_here; (with_reducible show wpAny _ _ (subscriptTail _ _ (Value.ref _) (Value.int 0 _)) _ _ _); k_dflt (refine' item0_N (by k_asm) (by k_mem) ?_)) | with_reducible (k_here; (with_reducible show wpAny _ _ (subscriptTail _ _ (Value.ref _) (Value.str _ _)) _ _ _); k_dflt (refine' kda_item (knd := PySem.strKind _ _) (by k_asm) (by k_mem) (by with_reducible assumption) (strKind_is _ _ _ _) (by exact val_hd) ?_))) | ((with_reducible show wpAny _ _ (call (Value.builtin "len") _) _ _ _); first | with_reducible (k_here; (with_reducible show wpAny _ _ (call (Value.builtin "len") [Value.ref _]) _ _ _); k_dflt (refine' len_N (by k_asm) (by k_mem) (by omega) ?_))) | ((with_reducible show wpAny _ _ (compareOp CmpOp.NotEq _ _) _ _ _); first | with_reducible (k_here; k_dflt (refine' ne_told (by k_asm) (by with_reducible assumption) (by ktd_sub) (by with_reducible assumption) (by ktd_sub) (ok_node 4 _) (by decide) (by exact Nat.le_of_ble_eq_true rfl) ?_))) | ((with_reducible show LawEnd _ _ _); first | with_reducible (k_here; refine Stop.out ?_)) | ((with_reducible show LawCut _ _ _ _ _ _); first | with_reducible (k_here; refine Stop.out ?_)) | walk1 | (dsimp only; walk1))
    unfold Stop
    exact ⟨_, _, rfl, law1_intro (by k_asm) (by k_asm) (by k_mem) (pool_of (by assumption))⟩
  intro h9 tk9 c9
  obtain ⟨m0, P, pv, pn, F0, N0, hp0⟩ : ∃ m0, Law1 _ _ m0 h9 := ⟨_, c9⟩
  clear c9 F1
  with_reducible refine cut_lawR ((Law2 w) s₁.heap s₁.heap.objs.size m0) ?_ ?_
  · skip
    clear vG vY vMX vLA vGL vTB vTE vTW vBM vhcd vDf vra vwl vr0 vrw
    repeat' (first | (k_unfold; (try dsimp only)) | ((with_reducible show wpAny _ _ (call (Value.ref _) _) _ _ _); first | with_reducible (k_here; (with_reducible show wpAny _ _ (call (Value.ref 363) []) _ _ _); k_dflt ( refine' spec_use (f := 363) (by k_asm) (by k_asm) (by k_asm) (by k_asm) (by k_asm) (by first | exact rfl | with_reducible assumption) (shelf_new0 _ _) (by exact Nat.le_of_ble_eq_true rfl) (by exact Nat.le_of_ble_eq_true rfl) (ret_shelf0 ?_); (intro x9 d9 a9 c9 m9 t9 o9 q9 u9 h9 tk9 F9 N9 b9 i9 l9 k9 v9 w9 y9 z9 f9 g9 j9; (try k_lt l9); (try k_lt2 k9); (try k_lt2 v9); (try k_lt2 w9); (try k_lt2 z9); (try k_lt2 f9); (try k_lt2 g9); (try k_lt y9); (try k_lt j9); (try k_sweep); (try dsimp only); (try k_fold)))) | with_reducible (k_here; (with_reducible show wpAny _ _ (call (Value.ref 363) [Value.ref _, Value.ref _]) _ _ _); k_dflt ( refine' spec_use (f := 363) (by k_asm) (by k_asm) (by k_asm) (by k_asm) (by k_asm) (by first | exact rfl | with_reducible assumption) (shelf_new _ _ _ _) (by exact Nat.le_of_ble_eq_true rfl) (by exact Nat.le_of_ble_eq_true rfl) (ret_obj ?_); (intro x9 d9 a9 c9 m9 h9 tk9 F9 N9 l9 k9; (try k_lt l9); (try k_lt2 k9); (try k_sweep); (try dsimp only); (try k_fold)))) | with_reducible (k_here; (with_reducible show wpAny _ _ (call (Value.ref 254) [Value.int _ _, Value.int _ _]) _ _ _); k_dflt ( refine' spec_use (f := 254) (by k_asm) (by k_asm) (by k_asm) (by k_asm) (by k_asm) (by first | exact rfl | with_reducible assumption) (ref_new _ _ _ _ _ _) (by exact Nat.le_of_ble_eq_true rfl) (by exact Nat.le_of_ble_eq_true rfl) (ret_obj ?_); (intro x9 d9 a9 c9 m9 h9 tk9 F9 N9 l9 k9; (try k_lt l9); (try k_lt2 k9); (try k_sweep); (try dsimp only); (try k_fold)))) | with_reducible (k_here; (with_reducible show wpAny _ _ (call (Value.ref 429) _) _ _ _); k_dflt ( refine' spec_useT (f := 429) (by k_asm) (by k_asm) (by k_asm) (by k_asm) (by k_asm) (by first | exact rfl | with_reducible assumption) (refused _ _ _ _ _ (Refuse.flip (by k_mem) (by k_mem) (by with_reducible assumption) (by ktd_sub))) (by exact Nat.le_of_ble_eq_true rfl) (by exact Nat.le_of_ble_eq_true rfl) (ret_same ?_); (intro h9 tk9 F9 N9; (try k_sweep); (try dsimp only); (try k_fold)))) | with_reducible (k_here; (with_reducible show wpAny _ _ (call (Value.ref 407) _) _ _ _); k_dflt ( refine' spec_use (f := 407) (by k_asm) (by k_asm) (by k_asm) (Pick.of (by k_asm) (by k_mem)) (by k_asm) (by first | exact rfl | with_reducible assumption) (take_any _ _ _ _ (by with_reducible assumption) _ _ _ (by k_all) (by decide)) (by exact Nat.le_of_ble_eq_true rfl) (by exact Nat.le_of_ble_eq_true rfl) (ret_take ?_); (intro d9 t9 vs9 k9 h9 tk9 F9 N9 lo9 hi9 po9; (try k_sweep); (try dsimp only); (try k_fold)))) | with_reducible (k_here; (with_reducible show wpAny _ _ (call (Value.ref 334) _) _ _ _); k_dflt ( refine' spec_use (f := 334) (by k_asm) (by k_asm) (by k_asm) (by k_asm) (by k_asm) (by first | exact rfl | with_reducible assumption) (add_pick (by with_reducible assumption) (by k_mem) (by k_all) (by with_reducible assumption) (by first | omega | (simp only [List.length_append, List.length_cons, List.length_nil]; omega)) (by k_mem) (by k_mem)) (by exact Nat.le_of_ble_eq_true rfl) (by exact Nat.le_of_ble_eq_true rfl) (ret_add ?_); (intro r9 o9 tl9 t9 tt9 m9 h9 tk9 F9 N9 up9' tb9 mem9 ref9; have up9 := up9'.apart; (try simp only [List.cons_append] at N9); (try k_sweep); (try dsimp only); (try k_fold)))) | with_reducible (k_here; (with_reducible show wpAny _ _ (call (Value.ref 422) _) _ _ _); k_dflt ( refine' spec_use (f := 422) (by k_asm) (by k_asm) (by k_asm) (by k_asm) (by k_asm) (by first | exact rfl | with_reducible assumption) (Hangs.use (by with_reducible assumption) (by ktd_sub) (by with_reducible assumption) (by with_reducible assumption) (by with_reducible assumption) (by (first | omega | (simp only [List.length_nil]; omega)))) (by exact Nat.le_of_ble_eq_true rfl) (by exact Nat.le_of_ble_eq_true rfl) (ret_hung ?_); (intro r9 o9 vs9 m9 tl9 more9 h9 tk9 F9 N9 pp9 up9 tb9 lm9 st9; (try simp only [List.cons_append] at N9); (try k_sweep); (try dsimp only); (try k_fold)))) | with_reducible (k_here; (with_reducible show wpAny _ _ (call (Value.ref 400) _) _ _ _); k_dflt ( refine' spec_use (f := 400) (by k_asm) (by k_asm) (by k_asm) (by k_asm) (by k_asm) (by first | exact rfl | with_reducible assumption) (GathN.use (by with_reducible assumption) (by ktd_sub)) (by exact Nat.le_of_ble_eq_true rfl) (by exact Nat.le_of_ble_eq_true rfl) (ret_made ?_); (intro r9 tl9 h9 tk9 F9 N9 up9 nd9; have tn9 := tells_node 4 nd9; (try simp only [List.cons_append] at nd9 tn9); (try simp only [List.cons_append] at N9); (try k_sweep); (try dsimp only); (try k_fold)))) | with_reducible (k_here; (with_reducible show wpAny _ _ (call (Value.ref 417) _) _ _ _); k_dflt ( refine' spec_use (f := 417) (by k_asm) (by k_asm) (by k_asm) (by k_asm) (by k_asm) (by first | exact rfl | with_reducible assumption) (Counts.use (by with_reducible assumption) (by ktd_sub)) (by exact Nat.le_of_ble_eq_true rfl) (by exact Nat.le_of_ble_eq_true rfl) (ret_int ?_); (intro t9 tl9 h9 tk9 F9 N9 up9; (try simp only [List.cons_append] at N9); (try k_sweep); (try dsimp only); (try k_fold)))) | with_reducible (k_here; (with_reducible show wpAny _ _ (call (Value.ref 348) _) _ _ _); k_dflt ( refine' spec_use (f := 348) (by k_asm) (by k_asm) (by k_asm) (by k_asm) (by k_asm) (by first | exact rfl | with_reducible assumption) (numbers_use (by k_mem) (by k_mem) (by k_mem) (by with_reducible assumption) (by with_reducible assumption) (by omega)) (by exact Nat.le_of_ble_eq_true rfl) (by exact Nat.le_of_ble_eq_true rfl) (ret_nums ?_); (intro b9 vs9 m9 tl9 h9 tk9 F9 N9 up9 mb9 ln9; (try simp only [List.cons_append] at N9); (try k_sweep); (try dsimp only); (try k_fold)))) | with_reducible (k_here; (with_reducible show wpAny _ _ (call (Value.ref 391) _) _ _ _); k_dflt ( refine' spec_use (f := 391) (by k_asm) (by k_asm) (by k_asm) (by k_asm) (by k_asm) (by first | exact rfl | with_reducible assumption) (Lays.use (by with_reducible assumption) (by ktd_sub) (by with_reducible assumption) (by with_reducible assumption) (by (simp only [List.length_nil]; omega))) (by exact Nat.le_of_ble_eq_true rfl) (by exact Nat.le_of_ble_eq_true rfl) (ret_laid ?_); (intro r9 o9 tl9 m9 h9 tk9 F9 N9 up9 t9 c9 st9 kr9; (try simp only [List.cons_append] at N9); (try k_sweep); (try dsimp only); (try k_fold)))) | with_reducible (k_here; (with_reducible show wpAny _ _ (call (Value.ref 277) _) _ _ _); k_dflt ( refine' spec_use (f := 277) (by k_asm) (by k_asm) (by k_asm) (by k_asm) (by k_asm) (by first | exact rfl | with_reducible assumption) (Tells.use (by with_reducible assumption) (by ktd_sub)) (by exact Nat.le_of_ble_eq_true rfl) (by exact Nat.le_of_ble_eq_true rfl) (ret_made ?_); (intro r9 tl9 h9 tk9 F9 N9 up9 td9; (try simp only [List.cons_append] at N9); (try k_sweep); (try dsimp only); (try k_fold)))) | with_reducible (k_here; (with_reducible show wpAny _ _ (call (Value.ref 277) _) _ _ _); k_dflt ( refine' spec_use (f := 277) (by k_asm) (by k_asm) (by k_asm) (by k_asm) (by k_asm) (by first | exact rfl | with_reducible assumption) (Tells.flip (by exact sub_refl _) (by exact tells_node 4 (tri_of' (by with_reducible assumption) (by k_mem) (by with_reducible assumption) (by with_reducible assumption) (by k_mem) (by with_reducible assumption) (by ktd_sub)))) (by exact Nat.le_of_ble_eq_true rfl) (by exact Nat.le_of_ble_eq_true rfl) (ret_made ?_); (intro r9 tl9 h9 tk9 F9 N9 up9 td9; (try simp only [List.cons_append] at N9); (try k_sweep); (try dsimp only); (try k_fold)))) | with_reducible (k_here; (with_reducible show wpAny _ _ (call (Value.ref 412) _) _ _ _); k_dflt (first | (refine' spec_use (f := 412) (by k_asm) (by k_asm) (by k_asm) (Pick.of (by k_asm) (by k_mem)) (by k_asm) (by first | exact rfl | with_reducible assumption) (Trees.use (trees _ _ 2) (by exact rfl) (by with_reducible assumption) (by k_all)) (by exact Nat.le_of_ble_eq_true rfl) (by exact Nat.le_of_ble_eq_true rfl) (ret_tree ?_); (intro r9 vs9 m9 d9 tl9 h9 tk9 F9 N9 up9 pp9 nd9 cn9; (try simp only [List.cons_append] at N9); (try k_sweep); (try dsimp only); (try k_fold))) | (refine' spec_use (f := 412) (by k_asm) (by k_asm) (by k_asm) (Pick.of (by k_asm) (by k_mem)) (by k_asm) (by first | exact rfl | with_reducible assumption) (Trees.use (trees _ _ 3) (by exact rfl) (by with_reducible assumption) (by k_all)) (by exact Nat.le_of_ble_eq_true rfl) (by exact Nat.le_of_ble_eq_true rfl) (ret_tree ?_); (intro r9 vs9 m9 d9 tl9 h9 tk9 F9 N9 up9 pp9 nd9 cn9; (try simp only [List.cons_append] at N9); (try k_sweep); (try dsimp only); (try k_fold)))))) | ((with_reducible show wpAny _ _ (call (Value.builtin "isinstance") _) _ _ _); first | with_reducible (k_here; (with_reducible show wpAny _ _ (call _ [Value.ref _, Value.ref _]) _ _ _); k_dflt (refine' isi_call (by k_in) (by k_types) (by k_is) (by intro e; cases e) ?_; k_whole))) | ((with_reducible show wpAny _ _ (binaryOp Operator.Mult (Value.ref _) (Value.int _ _)) _ _ _); first | with_reducible (k_here; (with_reducible show wpAny _ _ (binaryOp Operator.Mult (Value.ref _) (Value.int 3 _)) _ _ _); k_dflt (refine' mul3 (by k_asm) (by k_asm) (by k_mem) ?_); intro D' h' F' N' l1; (try k_lt l1); (try k_sweep))) | ((with_reducible show wpAny _ _ (exec (Stmt.If _ _ _ _) _) _ _ _); first | with_reducible (k_here; refine wpAny_If ?_)) | ((with_reducible show LCg.CompEnd _ _ _ _ _ _ _ _ _ _ _ _ _ _); first | with_reducible (k_here; k_dflt (refine' compEnd_same (by k_asm) (by k_asm) (by exact (by with_reducible assumption : (_ ≠ _ ∧ _ ≠ _ ∧ _ ≠ _) ∧ _)) (by exact Or.inr ⟨_, by k_mem, rfl, _, rfl⟩) ?_)) | (k_here; k_dflt (refine' compEnd_same (by k_asm) (by k_asm) (by exact (by with_reducible assumption : (_ ≠ _ ∧ _ ≠ _ ∧ _ ≠ _) ∧ _)) (by exact Or.inr ⟨_, by k_mem, rfl, _, rfl⟩) ?_))) | ((with_reducible show LCt.CompSrcT _ _ _ _ _ _ _ _ _ _ _ _ _ _ _); first | with_reducible (k_here; k_dflt (refine' LCt.CompSrcT.ledger rfl (by k_asm) (by k_asm) (by k_mem) (by exact Nat.le_of_ble_eq_true rfl) ?_); intro g9)) | ((with_reducible show wpAny _ _ (eval (Expr.ListComp _ _ _ _) _) _ _ _); first | with_reducible (k_here; k_dflt (refine LCt.ListComp_T (F₀ := by k_asm) (by with_unfolding_all rfl) (by decide) (by rfl) (by decide) (by rfl) ?_))) | ((with_reducible show wpAny _ _ (subscriptTail _ _ _ _) _ _ _); first | with_reducible (k_here; (with_reducible show wpAny _ _ (subscriptTail _ _ (Value.ref _) (Value.int _ _)) _ _ _); (fail_if_success (with_reducible show wpAny _ _ (subscriptTail _ _ (Value.ref _) (Value.int 0 _)) _ _ _)); k_dflt (refine' menu3 (by k_asm) (by k_mem) (by with_reducible assumption) (by with_reducible assumption) ?_); intro v9 pv9) | with_reducible (k_here; (with_reducible show wpAny _ _ (subscriptTail _ _ (Value.ref _) (Value.int 0 _)) _ _ _); k_dflt (refine' item0_N (by k_asm) (by k_mem) ?_)) | with_reducible (k_here; (with_reducible show wpAny _ _ (subscriptTail _ _ (Value.ref _) (Value.str _ _)) _ _ _); k_dflt (refine' kda_item (knd := PySem.strKind _ _) (by k_asm) (by k_mem) (by with_reducible assumption) (strKind_is _ _ _ _) (by exact val_hd) ?_))) | ((with_reducible show wpAny _ _ (call (Value.builtin "len") _) _ _ _); first | with_reducible (k_here; (with_reducible show wpAny _ _ (call (Value.builtin "len") [Value.ref _]) _ _ _); k_dflt (refine' len_N (by k_asm) (by k_mem) (by omega) ?_))) | ((with_reducible show wpAny _ _ (compareOp CmpOp.NotEq _ _) _ _ _); first | with_reducible (k_here; k_dflt (refine' ne_told (by k_asm) (by with_reducible assumption) (by ktd_sub) (by with_reducible assumption) (by ktd_sub) (ok_node 4 _) (by decide) (by exact Nat.le_of_ble_eq_true rfl) ?_))) | ((with_reducible show LawEnd _ _ _); first | with_reducible (k_here; refine Stop.out ?_)) | ((with_reducible show LawCut _ _ _ _ _ _); first | with_reducible (k_here; refine Stop.out ?_)) | walk1 | (dsimp only; walk1))
    unfold Stop
    exact ⟨_, _, rfl, P, _, _, _, LawP.intro (by k_asm) (by k_asm) (by k_mem) (by with_reducible assumption) fun base hk => treeIs_of2 (hk _ (by k_mem) (by dsimp only; omega)) (by with_reducible assumption) (by with_reducible assumption) (hk _ (by k_mem) (by dsimp only; omega)) ((by with_reducible assumption : NodeIs w _ 2 _ _).mono (keep_P hk (by ktd_sub) (off_ap (by with_reducible assumption) ⟨_, by k_mem⟩))) (Nat.le_trans (by with_reducible assumption) (by decide)) ((by with_reducible assumption : NodeIs w _ 3 _ _).mono (keep_P hk (by ktd_sub) (off_ap (by with_reducible assumption) ⟨_, by k_mem⟩))) (Nat.le_trans (by with_reducible assumption) (by decide)) (hk _ (by k_mem) (by dsimp only; omega)) (by with_reducible assumption) (by with_reducible assumption) (hk _ (by k_mem) (by dsimp only; omega)) (hk _ (by k_mem) (by dsimp only; omega)) (by with_reducible assumption) (by with_reducible assumption) (hk _ (by k_mem) (by dsimp only; omega))⟩
  clear F0 N0 hp0
  intro h9 tk9 c9
  obtain ⟨P, t, d, d1, pv, pn, base, F0, N0, hp0, ho0, ht0⟩ := c9
  with_reducible refine cut_lawR ((Law3 w) s₁.heap s₁.heap.objs.size m0) ?_ ?_
  · skip
    clear vG vY vMX vLA vGL vTB vTE vTW vBM vhcd vDf vra vwl vr0 vrw
    have tn := tells_node 4 ht0.1
    repeat' (first | (k_unfold; (try dsimp only)) | ((with_reducible show wpAny _ _ (call (Value.ref _) _) _ _ _); first | with_reducible (k_here; (with_reducible show wpAny _ _ (call (Value.ref 363) []) _ _ _); k_dflt ( refine' spec_use (f := 363) (by k_asm) (by k_asm) (by k_asm) (by k_asm) (by k_asm) (by first | exact rfl | with_reducible assumption) (shelf_new0 _ _) (by exact Nat.le_of_ble_eq_true rfl) (by exact Nat.le_of_ble_eq_true rfl) (ret_shelf0 ?_); (intro x9 d9 a9 c9 m9 t9 o9 q9 u9 h9 tk9 F9 N9 b9 i9 l9 k9 v9 w9 y9 z9 f9 g9 j9; (try k_lt l9); (try k_lt2 k9); (try k_lt2 v9); (try k_lt2 w9); (try k_lt2 z9); (try k_lt2 f9); (try k_lt2 g9); (try k_lt y9); (try k_lt j9); (try k_sweep); (try dsimp only); (try k_fold)))) | with_reducible (k_here; (with_reducible show wpAny _ _ (call (Value.ref 363) [Value.ref _, Value.ref _]) _ _ _); k_dflt ( refine' spec_use (f := 363) (by k_asm) (by k_asm) (by k_asm) (by k_asm) (by k_asm) (by first | exact rfl | with_reducible assumption) (shelf_new _ _ _ _) (by exact Nat.le_of_ble_eq_true rfl) (by exact Nat.le_of_ble_eq_true rfl) (ret_obj ?_); (intro x9 d9 a9 c9 m9 h9 tk9 F9 N9 l9 k9; (try k_lt l9); (try k_lt2 k9); (try k_sweep); (try dsimp only); (try k_fold)))) | with_reducible (k_here; (with_reducible show wpAny _ _ (call (Value.ref 254) [Value.int _ _, Value.int _ _]) _ _ _); k_dflt ( refine' spec_use (f := 254) (by k_asm) (by k_asm) (by k_asm) (by k_asm) (by k_asm) (by first | exact rfl | with_reducible assumption) (ref_new _ _ _ _ _ _) (by exact Nat.le_of_ble_eq_true rfl) (by exact Nat.le_of_ble_eq_true rfl) (ret_obj ?_); (intro x9 d9 a9 c9 m9 h9 tk9 F9 N9 l9 k9; (try k_lt l9); (try k_lt2 k9); (try k_sweep); (try dsimp only); (try k_fold)))) | with_reducible (k_here; (with_reducible show wpAny _ _ (call (Value.ref 429) _) _ _ _); k_dflt ( refine' spec_useT (f := 429) (by k_asm) (by k_asm) (by k_asm) (by k_asm) (by k_asm) (by first | exact rfl | with_reducible assumption) (refused _ _ _ _ _ (Refuse.flip (by k_mem) (by k_mem) (by with_reducible assumption) (by ktd_sub))) (by exact Nat.le_of_ble_eq_true rfl) (by exact Nat.le_of_ble_eq_true rfl) (ret_same ?_); (intro h9 tk9 F9 N9; (try k_sweep); (try dsimp only); (try k_fold)))) | with_reducible (k_here; (with_reducible show wpAny _ _ (call (Value.ref 407) _) _ _ _); k_dflt ( refine' spec_use (f := 407) (by k_asm) (by k_asm) (by k_asm) (Pick.of (by k_asm) (by k_mem)) (by k_asm) (by first | exact rfl | with_reducible assumption) (take_any _ _ _ _ (by with_reducible assumption) _ _ _ (by k_all) (by decide)) (by exact Nat.le_of_ble_eq_true rfl) (by exact Nat.le_of_ble_eq_true rfl) (ret_take ?_); (intro d9 t9 vs9 k9 h9 tk9 F9 N9 lo9 hi9 po9; (try k_sweep); (try dsimp only); (try k_fold)))) | with_reducible (k_here; (with_reducible show wpAny _ _ (call (Value.ref 334) _) _ _ _); k_dflt ( refine' spec_use (f := 334) (by k_asm) (by k_asm) (by k_asm) (by k_asm) (by k_asm) (by first | exact rfl | with_reducible assumption) (add_pick (by with_reducible assumption) (by k_mem) (by k_all) (by with_reducible assumption) (by first | omega | (simp only [List.length_append, List.length_cons, List.length_nil]; omega)) (by k_mem) (by k_mem)) (by exact Nat.le_of_ble_eq_true rfl) (by exact Nat.le_of_ble_eq_true rfl) (ret_add ?_); (intro r9 o9 tl9 t9 tt9 m9 h9 tk9 F9 N9 up9' tb9 mem9 ref9; have up9 := up9'.apart; (try simp only [List.cons_append] at N9); (try k_sweep); (try dsimp only); (try k_fold)))) | with_reducible (k_here; (with_reducible show wpAny _ _ (call (Value.ref 422) _) _ _ _); k_dflt ( refine' spec_use (f := 422) (by k_asm) (by k_asm) (by k_asm) (by k_asm) (by k_asm) (by first | exact rfl | with_reducible assumption) (Hangs.use (by with_reducible assumption) (by ktd_sub) (by with_reducible assumption) (by with_reducible assumption) (by with_reducible assumption) (by (first | omega | (simp only [List.length_nil]; omega)))) (by exact Nat.le_of_ble_eq_true rfl) (by exact Nat.le_of_ble_eq_true rfl) (ret_hung ?_); (intro r9 o9 vs9 m9 tl9 more9 h9 tk9 F9 N9 pp9 up9 tb9 lm9 st9; (try simp only [List.cons_append] at N9); (try k_sweep); (try dsimp only); (try k_fold)))) | with_reducible (k_here; (with_reducible show wpAny _ _ (call (Value.ref 400) _) _ _ _); k_dflt ( refine' spec_use (f := 400) (by k_asm) (by k_asm) (by k_asm) (by k_asm) (by k_asm) (by first | exact rfl | with_reducible assumption) (GathN.use (by with_reducible assumption) (by ktd_sub)) (by exact Nat.le_of_ble_eq_true rfl) (by exact Nat.le_of_ble_eq_true rfl) (ret_made ?_); (intro r9 tl9 h9 tk9 F9 N9 up9 nd9; have tn9 := tells_node 4 nd9; (try simp only [List.cons_append] at nd9 tn9); (try simp only [List.cons_append] at N9); (try k_sweep); (try dsimp only); (try k_fold)))) | with_reducible (k_here; (with_reducible show wpAny _ _ (call (Value.ref 417) _) _ _ _); k_dflt ( refine' spec_use (f := 417) (by k_asm) (by k_asm) (by k_asm) (by k_asm) (by k_asm) (by first | exact rfl | with_reducible assumption) (Counts.use (by with_reducible assumption) (by ktd_sub)) (by exact Nat.le_of_ble_eq_true rfl) (by exact Nat.le_of_ble_eq_true rfl) (ret_int ?_); (intro t9 tl9 h9 tk9 F9 N9 up9; (try simp only [List.cons_append] at N9); (try k_sweep); (try dsimp only); (try k_fold)))) | with_reducible (k_here; (with_reducible show wpAny _ _ (call (Value.ref 348) _) _ _ _); k_dflt ( refine' spec_use (f := 348) (by k_asm) (by k_asm) (by k_asm) (by k_asm) (by k_asm) (by first | exact rfl | with_reducible assumption) (numbers_use (by k_mem) (by k_mem) (by k_mem) (by with_reducible assumption) (by with_reducible assumption) (by omega)) (by exact Nat.le_of_ble_eq_true rfl) (by exact Nat.le_of_ble_eq_true rfl) (ret_nums ?_); (intro b9 vs9 m9 tl9 h9 tk9 F9 N9 up9 mb9 ln9; (try simp only [List.cons_append] at N9); (try k_sweep); (try dsimp only); (try k_fold)))) | with_reducible (k_here; (with_reducible show wpAny _ _ (call (Value.ref 391) _) _ _ _); k_dflt ( refine' spec_use (f := 391) (by k_asm) (by k_asm) (by k_asm) (by k_asm) (by k_asm) (by first | exact rfl | with_reducible assumption) (Lays.use (by with_reducible assumption) (by ktd_sub) (by with_reducible assumption) (by with_reducible assumption) (by (simp only [List.length_nil]; omega))) (by exact Nat.le_of_ble_eq_true rfl) (by exact Nat.le_of_ble_eq_true rfl) (ret_laid ?_); (intro r9 o9 tl9 m9 h9 tk9 F9 N9 up9 t9 c9 st9 kr9; (try simp only [List.cons_append] at N9); (try k_sweep); (try dsimp only); (try k_fold)))) | with_reducible (k_here; (with_reducible show wpAny _ _ (call (Value.ref 277) _) _ _ _); k_dflt ( refine' spec_use (f := 277) (by k_asm) (by k_asm) (by k_asm) (by k_asm) (by k_asm) (by first | exact rfl | with_reducible assumption) (Tells.use (by with_reducible assumption) (by ktd_sub)) (by exact Nat.le_of_ble_eq_true rfl) (by exact Nat.le_of_ble_eq_true rfl) (ret_made ?_); (intro r9 tl9 h9 tk9 F9 N9 up9 td9; (try simp only [List.cons_append] at N9); (try k_sweep); (try dsimp only); (try k_fold)))) | with_reducible (k_here; (with_reducible show wpAny _ _ (call (Value.ref 277) _) _ _ _); k_dflt ( refine' spec_use (f := 277) (by k_asm) (by k_asm) (by k_asm) (by k_asm) (by k_asm) (by first | exact rfl | with_reducible assumption) (Tells.flip (by exact sub_refl _) (by exact tells_node 4 (tri_of' (by with_reducible assumption) (by k_mem) (by with_reducible assumption) (by with_reducible assumption) (by k_mem) (by with_reducible assumption) (by ktd_sub)))) (by exact Nat.le_of_ble_eq_true rfl) (by exact Nat.le_of_ble_eq_true rfl) (ret_made ?_); (intro r9 tl9 h9 tk9 F9 N9 up9 td9; (try simp only [List.cons_append] at N9); (try k_sweep); (try dsimp only); (try k_fold)))) | with_reducible (k_here; (with_reducible show wpAny _ _ (call (Value.ref 412) _) _ _ _); k_dflt (first | (refine' spec_use (f := 412) (by k_asm) (by k_asm) (by k_asm) (Pick.of (by k_asm) (by k_mem)) (by k_asm) (by first | exact rfl | with_reducible assumption) (Trees.use (trees _ _ 2) (by exact rfl) (by with_reducible assumption) (by k_all)) (by exact Nat.le_of_ble_eq_true rfl) (by exact Nat.le_of_ble_eq_true rfl) (ret_tree ?_); (intro r9 vs9 m9 d9 tl9 h9 tk9 F9 N9 up9 pp9 nd9 cn9; (try simp only [List.cons_append] at N9); (try k_sweep); (try dsimp only); (try k_fold))) | (refine' spec_use (f := 412) (by k_asm) (by k_asm) (by k_asm) (Pick.of (by k_asm) (by k_mem)) (by k_asm) (by first | exact rfl | with_reducible assumption) (Trees.use (trees _ _ 3) (by exact rfl) (by with_reducible assumption) (by k_all)) (by exact Nat.le_of_ble_eq_true rfl) (by exact Nat.le_of_ble_eq_true rfl) (ret_tree ?_); (intro r9 vs9 m9 d9 tl9 h9 tk9 F9 N9 up9 pp9 nd9 cn9; (try simp only [List.cons_append] at N9); (try k_sweep); (try dsimp only); (try k_fold)))))) | ((with_reducible show wpAny _ _ (call (Value.builtin "isinstance") _) _ _ _); first | with_reducible (k_here; (with_reducible show wpAny _ _ (call _ [Value.ref _, Value.ref _]) _ _ _); k_dflt (refine' isi_call (by k_in) (by k_types) (by k_is) (by intro e; cases e) ?_; k_whole))) | ((with_reducible show wpAny _ _ (binaryOp Operator.Mult (Value.ref _) (Value.int _ _)) _ _ _); first | with_reducible (k_here; (with_reducible show wpAny _ _ (binaryOp Operator.Mult (Value.ref _) (Value.int 3 _)) _ _ _); k_dflt (refine' mul3 (by k_asm) (by k_asm) (by k_mem) ?_); intro D' h' F' N' l1; (try k_lt l1); (try k_sweep))) | ((with_reducible show wpAny _ _ (exec (Stmt.If _ _ _ _) _) _ _ _); first | with_reducible (k_here; refine wpAny_If ?_)) | ((with_reducible show LCg.CompEnd _ _ _ _ _ _ _ _ _ _ _ _ _ _); first | with_reducible (k_here; k_dflt (refine' compEnd_same (by k_asm) (by k_asm) (by exact (by with_reducible assumption : (_ ≠ _ ∧ _ ≠ _ ∧ _ ≠ _) ∧ _)) (by exact Or.inr ⟨_, by k_mem, rfl, _, rfl⟩) ?_)) | (k_here; k_dflt (refine' compEnd_same (by k_asm) (by k_asm) (by exact (by with_reducible assumption : (_ ≠ _ ∧ _ ≠ _ ∧ _ ≠ _) ∧ _)) (by exact Or.inr ⟨_, by k_mem, rfl, _, rfl⟩) ?_))) | ((with_reducible show LCt.CompSrcT _ _ _ _ _ _ _ _ _ _ _ _ _ _ _); first | with_reducible (k_here; k_dflt (refine' LCt.CompSrcT.ledger rfl (by k_asm) (by k_asm) (by k_mem) (by exact Nat.le_of_ble_eq_true rfl) ?_); intro g9)) | ((with_reducible show wpAny _ _ (eval (Expr.ListComp _ _ _ _) _) _ _ _); first | with_reducible (k_here; k_dflt (refine LCt.ListComp_T (F₀ := by k_asm) (by with_unfolding_all rfl) (by decide) (by rfl) (by decide) (by rfl) ?_))) | ((with_reducible show wpAny _ _ (subscriptTail _ _ _ _) _ _ _); first | with_reducible (k_here; (with_reducible show wpAny _ _ (subscriptTail _ _ (Value.ref _) (Value.int _ _)) _ _ _); (fail_if_success (with_reducible show wpAny _ _ (subscriptTail _ _ (Value.ref _) (Value.int 0 _)) _ _ _)); k_dflt (refine' menu3 (by k_asm) (by k_mem) (by with_reducible assumption) (by with_reducible assumption) ?_); intro v9 pv9) | with_reducible (k_here; (with_reducible show wpAny _ _ (subscriptTail _ _ (Value.ref _) (Value.int 0 _)) _ _ _); k_dflt (refine' item0_N (by k_asm) (by k_mem) ?_)) | with_reducible (k_here; (with_reducible show wpAny _ _ (subscriptTail _ _ (Value.ref _) (Value.str _ _)) _ _ _); k_dflt (refine' kda_item (knd := PySem.strKind _ _) (by k_asm) (by k_mem) (by with_reducible assumption) (strKind_is _ _ _ _) (by exact val_hd) ?_))) | ((with_reducible show wpAny _ _ (call (Value.builtin "len") _) _ _ _); first | with_reducible (k_here; (with_reducible show wpAny _ _ (call (Value.builtin "len") [Value.ref _]) _ _ _); k_dflt (refine' len_N (by k_asm) (by k_mem) (by omega) ?_))) | ((with_reducible show wpAny _ _ (compareOp CmpOp.NotEq _ _) _ _ _); first | with_reducible (k_here; k_dflt (refine' ne_told (by k_asm) (by with_reducible assumption) (by ktd_sub) (by with_reducible assumption) (by ktd_sub) (ok_node 4 _) (by decide) (by exact Nat.le_of_ble_eq_true rfl) ?_))) | ((with_reducible show LawEnd _ _ _); first | with_reducible (k_here; refine Stop.out ?_)) | ((with_reducible show LawCut _ _ _ _ _ _); first | with_reducible (k_here; refine Stop.out ?_)) | walk1 | (dsimp only; walk1))
    unfold Stop
    exact ⟨_, _, rfl, law3_intro (by k_asm) (by k_asm) (by k_mem) (by k_mem) (by k_mem) (by with_reducible assumption) (by with_reducible assumption) (by k_mem) hp0 (by omega) (by omega) (by omega) (by omega) (by omega) ht0 (by with_reducible assumption) (by ktd_sub) (by ktn_ord) ho0 (off_ap (Up.apart (by with_reducible assumption)) ⟨_, by k_mem⟩)⟩
  clear F0 N0 hp0 ho0 ht0
  intro h9 tk9 c9
  obtain ⟨P, t, d, d1, b, S, T, oT, pv, pn, base, F0, N0, hp0, ho0, hTP, ht0, hb0, hS0, hT0⟩ := c9
  with_reducible refine cut_lawR ((Law4 w) s₁.heap s₁.heap.objs.size m0) ?_ ?_
  · skip
    clear vG vY vMX vLA vGL vTB vTE vTW vBM vhcd vDf vra vwl vr0 vrw
    have hc := ht0.2.1
    have C := laid_any hS0 4 (.ref t) d ht0.1
    have ho1 : ∀ p ∈ (P, listOf pv.toArray pn) :: base, p.1 ≠ T := List.forall_mem_cons.mpr ⟨Ne.symm hTP, Off2.fst ho0⟩
    repeat' (first | (k_unfold; (try dsimp only)) | ((with_reducible show wpAny _ _ (call (Value.ref _) _) _ _ _); first | with_reducible (k_here; (with_reducible show wpAny _ _ (call (Value.ref 363) []) _ _ _); k_dflt ( refine' spec_use (f := 363) (by k_asm) (by k_asm) (by k_asm) (by k_asm) (by k_asm) (by first | exact rfl | with_reducible assumption) (shelf_new0 _ _) (by exact Nat.le_of_ble_eq_true rfl) (by exact Nat.le_of_ble_eq_true rfl) (ret_shelf0 ?_); (intro x9 d9 a9 c9 m9 t9 o9 q9 u9 h9 tk9 F9 N9 b9 i9 l9 k9 v9 w9 y9 z9 f9 g9 j9; (try k_lt l9); (try k_lt2 k9); (try k_lt2 v9); (try k_lt2 w9); (try k_lt2 z9); (try k_lt2 f9); (try k_lt2 g9); (try k_lt y9); (try k_lt j9); (try k_sweep); (try dsimp only); (try k_fold)))) | with_reducible (k_here; (with_reducible show wpAny _ _ (call (Value.ref 363) [Value.ref _, Value.ref _]) _ _ _); k_dflt ( refine' spec_use (f := 363) (by k_asm) (by k_asm) (by k_asm) (by k_asm) (by k_asm) (by first | exact rfl | with_reducible assumption) (shelf_new _ _ _ _) (by exact Nat.le_of_ble_eq_true rfl) (by exact Nat.le_of_ble_eq_true rfl) (ret_obj ?_); (intro x9 d9 a9 c9 m9 h9 tk9 F9 N9 l9 k9; (try k_lt l9); (try k_lt2 k9); (try k_sweep); (try dsimp only); (try k_fold)))) | with_reducible (k_here; (with_reducible show wpAny _ _ (call (Value.ref 254) [Value.int _ _, Value.int _ _]) _ _ _); k_dflt ( refine' spec_use (f := 254) (by k_asm) (by k_asm) (by k_asm) (by k_asm) (by k_asm) (by first | exact rfl | with_reducible assumption) (ref_new _ _ _ _ _ _) (by exact Nat.le_of_ble_eq_true rfl) (by exact Nat.le_of_ble_eq_true rfl) (ret_obj ?_); (intro x9 d9 a9 c9 m9 h9 tk9 F9 N9 l9 k9; (try k_lt l9); (try k_lt2 k9); (try k_sweep); (try dsimp only); (try k_fold)))) | with_reducible (k_here; (with_reducible show wpAny _ _ (call (Value.ref 429) _) _ _ _); k_dflt ( refine' spec_useT (f := 429) (by k_asm) (by k_asm) (by k_asm) (by k_asm) (by k_asm) (by first | exact rfl | with_reducible assumption) (refused _ _ _ _ _ (Refuse.flip (by k_mem) (by k_mem) (by with_reducible assumption) (by ktd_sub))) (by exact Nat.le_of_ble_eq_true rfl) (by exact Nat.le_of_ble_eq_true rfl) (ret_same ?_); (intro h9 tk9 F9 N9; (try k_sweep); (try dsimp only); (try k_fold)))) | with_reducible (k_here; (with_reducible show wpAny _ _ (call (Value.ref 407) _) _ _ _); k_dflt ( refine' spec_use (f := 407) (by k_asm) (by k_asm) (by k_asm) (Pick.of (by k_asm) (by k_mem)) (by k_asm) (by first | exact rfl | with_reducible assumption) (take_any _ _ _ _ (by with_reducible assumption) _ _ _ (by k_all) (by decide)) (by exact Nat.le_of_ble_eq_true rfl) (by exact Nat.le_of_ble_eq_true rfl) (ret_take ?_); (intro d9 t9 vs9 k9 h9 tk9 F9 N9 lo9 hi9 po9; (try k_sweep); (try dsimp only); (try k_fold)))) | with_reducible (k_here; (with_reducible show wpAny _ _ (call (Value.ref 334) _) _ _ _); k_dflt ( refine' spec_use (f := 334) (by k_asm) (by k_asm) (by k_asm) (by k_asm) (by k_asm) (by first | exact rfl | with_reducible assumption) (add_pick (by with_reducible assumption) (by k_mem) (by k_all) (by with_reducible assumption) (by first | omega | (simp only [List.length_append, List.length_cons, List.length_nil]; omega)) (by k_mem) (by k_mem)) (by exact Nat.le_of_ble_eq_true rfl) (by exact Nat.le_of_ble_eq_true rfl) (ret_add ?_); (intro r9 o9 tl9 t9 tt9 m9 h9 tk9 F9 N9 up9' tb9 mem9 ref9; have up9 := up9'.apart; (try simp only [List.cons_append] at N9); (try k_sweep); (try dsimp only); (try k_fold)))) | with_reducible (k_here; (with_reducible show wpAny _ _ (call (Value.ref 422) _) _ _ _); k_dflt ( refine' spec_use (f := 422) (by k_asm) (by k_asm) (by k_asm) (by k_asm) (by k_asm) (by first | exact rfl | with_reducible assumption) (Hangs.use (by with_reducible assumption) (by ktd_sub) (by with_reducible assumption) (by with_reducible assumption) (by with_reducible assumption) (by (first | omega | (simp only [List.length_nil]; omega)))) (by exact Nat.le_of_ble_eq_true rfl) (by exact Nat.le_of_ble_eq_true rfl) (ret_hung ?_); (intro r9 o9 vs9 m9 tl9 more9 h9 tk9 F9 N9 pp9 up9 tb9 lm9 st9; (try simp only [List.cons_append] at N9); (try k_sweep); (try dsimp only); (try k_fold)))) | with_reducible (k_here; (with_reducible show wpAny _ _ (call (Value.ref 400) _) _ _ _); k_dflt ( refine' spec_use (f := 400) (by k_asm) (by k_asm) (by k_asm) (by k_asm) (by k_asm) (by first | exact rfl | with_reducible assumption) (GathN.use (by with_reducible assumption) (by ktd_sub)) (by exact Nat.le_of_ble_eq_true rfl) (by exact Nat.le_of_ble_eq_true rfl) (ret_made ?_); (intro r9 tl9 h9 tk9 F9 N9 up9 nd9; have tn9 := tells_node 4 nd9; (try simp only [List.cons_append] at nd9 tn9); (try simp only [List.cons_append] at N9); (try k_sweep); (try dsimp only); (try k_fold)))) | with_reducible (k_here; (with_reducible show wpAny _ _ (call (Value.ref 417) _) _ _ _); k_dflt ( refine' spec_use (f := 417) (by k_asm) (by k_asm) (by k_asm) (by k_asm) (by k_asm) (by first | exact rfl | with_reducible assumption) (Counts.use (by with_reducible assumption) (by ktd_sub)) (by exact Nat.le_of_ble_eq_true rfl) (by exact Nat.le_of_ble_eq_true rfl) (ret_int ?_); (intro t9 tl9 h9 tk9 F9 N9 up9; (try simp only [List.cons_append] at N9); (try k_sweep); (try dsimp only); (try k_fold)))) | with_reducible (k_here; (with_reducible show wpAny _ _ (call (Value.ref 348) _) _ _ _); k_dflt ( refine' spec_use (f := 348) (by k_asm) (by k_asm) (by k_asm) (by k_asm) (by k_asm) (by first | exact rfl | with_reducible assumption) (numbers_use (by k_mem) (by k_mem) (by k_mem) (by with_reducible assumption) (by with_reducible assumption) (by omega)) (by exact Nat.le_of_ble_eq_true rfl) (by exact Nat.le_of_ble_eq_true rfl) (ret_nums ?_); (intro b9 vs9 m9 tl9 h9 tk9 F9 N9 up9 mb9 ln9; (try simp only [List.cons_append] at N9); (try k_sweep); (try dsimp only); (try k_fold)))) | with_reducible (k_here; (with_reducible show wpAny _ _ (call (Value.ref 391) _) _ _ _); k_dflt ( refine' spec_use (f := 391) (by k_asm) (by k_asm) (by k_asm) (by k_asm) (by k_asm) (by first | exact rfl | with_reducible assumption) (Lays.use (by with_reducible assumption) (by ktd_sub) (by with_reducible assumption) (by with_reducible assumption) (by (simp only [List.length_nil]; omega))) (by exact Nat.le_of_ble_eq_true rfl) (by exact Nat.le_of_ble_eq_true rfl) (ret_laid ?_); (intro r9 o9 tl9 m9 h9 tk9 F9 N9 up9 t9 c9 st9 kr9; (try simp only [List.cons_append] at N9); (try k_sweep); (try dsimp only); (try k_fold)))) | with_reducible (k_here; (with_reducible show wpAny _ _ (call (Value.ref 277) _) _ _ _); k_dflt ( refine' spec_use (f := 277) (by k_asm) (by k_asm) (by k_asm) (by k_asm) (by k_asm) (by first | exact rfl | with_reducible assumption) (Tells.use (by with_reducible assumption) (by ktd_sub)) (by exact Nat.le_of_ble_eq_true rfl) (by exact Nat.le_of_ble_eq_true rfl) (ret_made ?_); (intro r9 tl9 h9 tk9 F9 N9 up9 td9; (try simp only [List.cons_append] at N9); (try k_sweep); (try dsimp only); (try k_fold)))) | with_reducible (k_here; (with_reducible show wpAny _ _ (call (Value.ref 277) _) _ _ _); k_dflt ( refine' spec_use (f := 277) (by k_asm) (by k_asm) (by k_asm) (by k_asm) (by k_asm) (by first | exact rfl | with_reducible assumption) (Tells.flip (by exact sub_refl _) (by exact tells_node 4 (tri_of' (by with_reducible assumption) (by k_mem) (by with_reducible assumption) (by with_reducible assumption) (by k_mem) (by with_reducible assumption) (by ktd_sub)))) (by exact Nat.le_of_ble_eq_true rfl) (by exact Nat.le_of_ble_eq_true rfl) (ret_made ?_); (intro r9 tl9 h9 tk9 F9 N9 up9 td9; (try simp only [List.cons_append] at N9); (try k_sweep); (try dsimp only); (try k_fold)))) | with_reducible (k_here; (with_reducible show wpAny _ _ (call (Value.ref 412) _) _ _ _); k_dflt (first | (refine' spec_use (f := 412) (by k_asm) (by k_asm) (by k_asm) (Pick.of (by k_asm) (by k_mem)) (by k_asm) (by first | exact rfl | with_reducible assumption) (Trees.use (trees _ _ 2) (by exact rfl) (by with_reducible assumption) (by k_all)) (by exact Nat.le_of_ble_eq_true rfl) (by exact Nat.le_of_ble_eq_true rfl) (ret_tree ?_); (intro r9 vs9 m9 d9 tl9 h9 tk9 F9 N9 up9 pp9 nd9 cn9; (try simp only [List.cons_append] at N9); (try k_sweep); (try dsimp only); (try k_fold))) | (refine' spec_use (f := 412) (by k_asm) (by k_asm) (by k_asm) (Pick.of (by k_asm) (by k_mem)) (by k_asm) (by first | exact rfl | with_reducible assumption) (Trees.use (trees _ _ 3) (by exact rfl) (by with_reducible assumption) (by k_all)) (by exact Nat.le_of_ble_eq_true rfl) (by exact Nat.le_of_ble_eq_true rfl) (ret_tree ?_); (intro r9 vs9 m9 d9 tl9 h9 tk9 F9 N9 up9 pp9 nd9 cn9; (try simp only [List.cons_append] at N9); (try k_sweep); (try dsimp only); (try k_fold)))))) | ((with_reducible show wpAny _ _ (call (Value.builtin "isinstance") _) _ _ _); first | with_reducible (k_here; (with_reducible show wpAny _ _ (call _ [Value.ref _, Value.ref _]) _ _ _); k_dflt (refine' isi_call (by k_in) (by k_types) (by k_is) (by intro e; cases e) ?_; k_whole))) | ((with_reducible show wpAny _ _ (binaryOp Operator.Mult (Value.ref _) (Value.int _ _)) _ _ _); first | with_reducible (k_here; (with_reducible show wpAny _ _ (binaryOp Operator.Mult (Value.ref _) (Value.int 3 _)) _ _ _); k_dflt (refine' mul3 (by k_asm) (by k_asm) (by k_mem) ?_); intro D' h' F' N' l1; (try k_lt l1); (try k_sweep))) | ((with_reducible show wpAny _ _ (exec (Stmt.If _ _ _ _) _) _ _ _); first | with_reducible (k_here; refine wpAny_If ?_)) | ((with_reducible show LCg.CompEnd _ _ _ _ _ _ _ _ _ _ _ _ _ _); first | with_reducible (k_here; k_dflt (refine' compEnd_same (by k_asm) (by k_asm) (by exact (by with_reducible assumption : (_ ≠ _ ∧ _ ≠ _ ∧ _ ≠ _) ∧ _)) (by exact Or.inr ⟨_, by k_mem, rfl, _, rfl⟩) ?_)) | (k_here; k_dflt (refine' compEnd_same (by k_asm) (by k_asm) (by exact (by with_reducible assumption : (_ ≠ _ ∧ _ ≠ _ ∧ _ ≠ _) ∧ _)) (by exact Or.inr ⟨_, by k_mem, rfl, _, rfl⟩) ?_))) | ((with_reducible show LCt.CompSrcT _ _ _ _ _ _ _ _ _ _ _ _ _ _ _); first | with_reducible (k_here; k_dflt (refine' LCt.CompSrcT.ledger rfl (by k_asm) (by k_asm) (by k_mem) (by exact Nat.le_of_ble_eq_true rfl) ?_); intro g9)) | ((with_reducible show wpAny _ _ (eval (Expr.ListComp _ _ _ _) _) _ _ _); first | with_reducible (k_here; k_dflt (refine LCt.ListComp_T (F₀ := by k_asm) (by with_unfolding_all rfl) (by decide) (by rfl) (by decide) (by rfl) ?_))) | ((with_reducible show wpAny _ _ (subscriptTail _ _ _ _) _ _ _); first | with_reducible (k_here; (with_reducible show wpAny _ _ (subscriptTail _ _ (Value.ref _) (Value.int _ _)) _ _ _); (fail_if_success (with_reducible show wpAny _ _ (subscriptTail _ _ (Value.ref _) (Value.int 0 _)) _ _ _)); k_dflt (refine' menu3 (by k_asm) (by k_mem) (by with_reducible assumption) (by with_reducible assumption) ?_); intro v9 pv9) | with_reducible (k_here; (with_reducible show wpAny _ _ (subscriptTail _ _ (Value.ref _) (Value.int 0 _)) _ _ _); k_dflt (refine' item0_N (by k_asm) (by k_mem) ?_)) | with_reducible (k_here; (with_reducible show wpAny _ _ (subscriptTail _ _ (Value.ref _) (Value.str _ _)) _ _ _); k_dflt (refine' kda_item (knd := PySem.strKind _ _) (by k_asm) (by k_mem) (by with_reducible assumption) (strKind_is _ _ _ _) (by exact val_hd) ?_))) | ((with_reducible show wpAny _ _ (call (Value.builtin "len") _) _ _ _); first | with_reducible (k_here; (with_reducible show wpAny _ _ (call (Value.builtin "len") [Value.ref _]) _ _ _); k_dflt (refine' len_N (by k_asm) (by k_mem) (by omega) ?_))) | ((with_reducible show wpAny _ _ (compareOp CmpOp.NotEq _ _) _ _ _); first | with_reducible (k_here; k_dflt (refine' ne_told (by k_asm) (by with_reducible assumption) (by ktd_sub) (by with_reducible assumption) (by ktd_sub) (ok_node 4 _) (by decide) (by exact Nat.le_of_ble_eq_true rfl) ?_))) | ((with_reducible show LawEnd _ _ _); first | with_reducible (k_here; refine Stop.out ?_)) | ((with_reducible show LawCut _ _ _ _ _ _); first | with_reducible (k_here; refine Stop.out ?_)) | walk1 | (dsimp only; walk1))
    unfold Stop
    exact ⟨_, _, rfl, law4_intro (by k_asm) (by k_asm) (by k_mem) (by k_mem) hp0 hTP ht0 hb0 hS0 ho0 (by with_reducible assumption) ⟨_, by k_mem⟩ ⟨_, by k_mem⟩ (by ktd_sub) (by with_reducible assumption) (by with_reducible assumption) (by with_reducible assumption) (by with_reducible assumption)⟩
  clear F0 N0 hp0 ho0 hTP ht0 hb0 hS0 hT0
  intro h9 tk9 c9
  obtain ⟨P, t, d, d1, b, S, T, r, oT, pv, pn, base, F0, N0, hp0, ho0, hTP, ht0, hb0, hS0, tab, hT0, hl0, hr0, hk0⟩ := c9
  with_reducible refine cut_lawR ((Law4 w) s₁.heap s₁.heap.objs.size m0) ?_ ?_
  · skip
    clear vG vY vMX vLA vGL vTB vTE vTW vBM vhcd vDf vra vwl vr0 vrw
    have hc := ht0.2.1
    have tn := tells_node 4 ht0.1
    have cn := count_any 4 (.ref t) d ht0.1
    obtain ⟨dS, R, k1, k2, n2, s1, s2, lT⟩ := id hS0
    repeat' (first | (k_unfold; (try dsimp only)) | ((with_reducible show wpAny _ _ (call (Value.ref _) _) _ _ _); first | with_reducible (k_here; (with_reducible show wpAny _ _ (call (Value.ref 363) []) _ _ _); k_dflt ( refine' spec_use (f := 363) (by k_asm) (by k_asm) (by k_asm) (by k_asm) (by k_asm) (by first | exact rfl | with_reducible assumption) (shelf_new0 _ _) (by exact Nat.le_of_ble_eq_true rfl) (by exact Nat.le_of_ble_eq_true rfl) (ret_shelf0 ?_); (intro x9 d9 a9 c9 m9 t9 o9 q9 u9 h9 tk9 F9 N9 b9 i9 l9 k9 v9 w9 y9 z9 f9 g9 j9; (try k_lt l9); (try k_lt2 k9); (try k_lt2 v9); (try k_lt2 w9); (try k_lt2 z9); (try k_lt2 f9); (try k_lt2 g9); (try k_lt y9); (try k_lt j9); (try k_sweep); (try dsimp only); (try k_fold)))) | with_reducible (k_here; (with_reducible show wpAny _ _ (call (Value.ref 363) [Value.ref _, Value.ref _]) _ _ _); k_dflt ( refine' spec_use (f := 363) (by k_asm) (by k_asm) (by k_asm) (by k_asm) (by k_asm) (by first | exact rfl | with_reducible assumption) (shelf_new _ _ _ _) (by exact Nat.le_of_ble_eq_true rfl) (by exact Nat.le_of_ble_eq_true rfl) (ret_obj ?_); (intro x9 d9 a9 c9 m9 h9 tk9 F9 N9 l9 k9; (try k_lt l9); (try k_lt2 k9); (try k_sweep); (try dsimp only); (try k_fold)))) | with_reducible (k_here; (with_reducible show wpAny _ _ (call (Value.ref 254) [Value.int _ _, Value.int _ _]) _ _ _); k_dflt ( refine' spec_use (f := 254) (by k_asm) (by k_asm) (by k_asm) (by k_asm) (by k_asm) (by first | exact rfl | with_reducible assumption) (ref_new _ _ _ _ _ _) (by exact Nat.le_of_ble_eq_true rfl) (by exact Nat.le_of_ble_eq_true rfl) (ret_obj ?_); (intro x9 d9 a9 c9 m9 h9 tk9 F9 N9 l9 k9; (try k_lt l9); (try k_lt2 k9); (try k_sweep); (try dsimp only); (try k_fold)))) | with_reducible (k_here; (with_reducible show wpAny _ _ (call (Value.ref 429) _) _ _ _); k_dflt ( refine' spec_useT (f := 429) (by k_asm) (by k_asm) (by k_asm) (by k_asm) (by k_asm) (by first | exact rfl | with_reducible assumption) (refused _ _ _ _ _ (Refuse.flip (by k_mem) (by k_mem) (by with_reducible assumption) (by ktd_sub))) (by exact Nat.le_of_ble_eq_true rfl) (by exact Nat.le_of_ble_eq_true rfl) (ret_same ?_); (intro h9 tk9 F9 N9; (try k_sweep); (try dsimp only); (try k_fold)))) | with_reducible (k_here; (with_reducible show wpAny _ _ (call (Value.ref 407) _) _ _ _); k_dflt ( refine' spec_use (f := 407) (by k_asm) (by k_asm) (by k_asm) (Pick.of (by k_asm) (by k_mem)) (by k_asm) (by first | exact rfl | with_reducible assumption) (take_any _ _ _ _ (by with_reducible assumption) _ _ _ (by k_all) (by decide)) (by exact Nat.le_of_ble_eq_true rfl) (by exact Nat.le_of_ble_eq_true rfl) (ret_take ?_); (intro d9 t9 vs9 k9 h9 tk9 F9 N9 lo9 hi9 po9; (try k_sweep); (try dsimp only); (try k_fold)))) | with_reducible (k_here; (with_reducible show wpAny _ _ (call (Value.ref 334) _) _ _ _); k_dflt ( refine' spec_use (f := 334) (by k_asm) (by k_asm) (by k_asm) (by k_asm) (by k_asm) (by first | exact rfl | with_reducible assumption) (add_pick (by with_reducible assumption) (by k_mem) (by k_all) (by with_reducible assumption) (by first | omega | (simp only [List.length_append, List.length_cons, List.length_nil]; omega)) (by k_mem) (by k_mem)) (by exact Nat.le_of_ble_eq_true rfl) (by exact Nat.le_of_ble_eq_true rfl) (ret_add ?_); (intro r9 o9 tl9 t9 tt9 m9 h9 tk9 F9 N9 up9' tb9 mem9 ref9; have up9 := up9'.apart; (try simp only [List.cons_append] at N9); (try k_sweep); (try dsimp only); (try k_fold)))) | with_reducible (k_here; (with_reducible show wpAny _ _ (call (Value.ref 422) _) _ _ _); k_dflt ( refine' spec_use (f := 422) (by k_asm) (by k_asm) (by k_asm) (by k_asm) (by k_asm) (by first | exact rfl | with_reducible assumption) (Hangs.use (by with_reducible assumption) (by ktd_sub) (by with_reducible assumption) (by with_reducible assumption) (by with_reducible assumption) (by (first | omega | (simp only [List.length_nil]; omega)))) (by exact Nat.le_of_ble_eq_true rfl) (by exact Nat.le_of_ble_eq_true rfl) (ret_hung ?_); (intro r9 o9 vs9 m9 tl9 more9 h9 tk9 F9 N9 pp9 up9 tb9 lm9 st9; (try simp only [List.cons_append] at N9); (try k_sweep); (try dsimp only); (try k_fold)))) | with_reducible (k_here; (with_reducible show wpAny _ _ (call (Value.ref 400) _) _ _ _); k_dflt ( refine' spec_use (f := 400) (by k_asm) (by k_asm) (by k_asm) (by k_asm) (by k_asm) (by first | exact rfl | with_reducible assumption) (GathN.use (by with_reducible assumption) (by ktd_sub)) (by exact Nat.le_of_ble_eq_true rfl) (by exact Nat.le_of_ble_eq_true rfl) (ret_made ?_); (intro r9 tl9 h9 tk9 F9 N9 up9 nd9; have tn9 := tells_node 4 nd9; (try simp only [List.cons_append] at nd9 tn9); (try simp only [List.cons_append] at N9); (try k_sweep); (try dsimp only); (try k_fold)))) | with_reducible (k_here; (with_reducible show wpAny _ _ (call (Value.ref 417) _) _ _ _); k_dflt ( refine' spec_use (f := 417) (by k_asm) (by k_asm) (by k_asm) (by k_asm) (by k_asm) (by first | exact rfl | with_reducible assumption) (Counts.use (by with_reducible assumption) (by ktd_sub)) (by exact Nat.le_of_ble_eq_true rfl) (by exact Nat.le_of_ble_eq_true rfl) (ret_int ?_); (intro t9 tl9 h9 tk9 F9 N9 up9; (try simp only [List.cons_append] at N9); (try k_sweep); (try dsimp only); (try k_fold)))) | with_reducible (k_here; (with_reducible show wpAny _ _ (call (Value.ref 348) _) _ _ _); k_dflt ( refine' spec_use (f := 348) (by k_asm) (by k_asm) (by k_asm) (by k_asm) (by k_asm) (by first | exact rfl | with_reducible assumption) (numbers_use (by k_mem) (by k_mem) (by k_mem) (by with_reducible assumption) (by with_reducible assumption) (by omega)) (by exact Nat.le_of_ble_eq_true rfl) (by exact Nat.le_of_ble_eq_true rfl) (ret_nums ?_); (intro b9 vs9 m9 tl9 h9 tk9 F9 N9 up9 mb9 ln9; (try simp only [List.cons_append] at N9); (try k_sweep); (try dsimp only); (try k_fold)))) | with_reducible (k_here; (with_reducible show wpAny _ _ (call (Value.ref 391) _) _ _ _); k_dflt ( refine' spec_use (f := 391) (by k_asm) (by k_asm) (by k_asm) (by k_asm) (by k_asm) (by first | exact rfl | with_reducible assumption) (Lays.use (by with_reducible assumption) (by ktd_sub) (by with_reducible assumption) (by with_reducible assumption) (by (simp only [List.length_nil]; omega))) (by exact Nat.le_of_ble_eq_true rfl) (by exact Nat.le_of_ble_eq_true rfl) (ret_laid ?_); (intro r9 o9 tl9 m9 h9 tk9 F9 N9 up9 t9 c9 st9 kr9; (try simp only [List.cons_append] at N9); (try k_sweep); (try dsimp only); (try k_fold)))) | with_reducible (k_here; (with_reducible show wpAny _ _ (call (Value.ref 277) _) _ _ _); k_dflt ( refine' spec_use (f := 277) (by k_asm) (by k_asm) (by k_asm) (by k_asm) (by k_asm) (by first | exact rfl | with_reducible assumption) (Tells.use (by with_reducible assumption) (by ktd_sub)) (by exact Nat.le_of_ble_eq_true rfl) (by exact Nat.le_of_ble_eq_true rfl) (ret_made ?_); (intro r9 tl9 h9 tk9 F9 N9 up9 td9; (try simp only [List.cons_append] at N9); (try k_sweep); (try dsimp only); (try k_fold)))) | with_reducible (k_here; (with_reducible show wpAny _ _ (call (Value.ref 277) _) _ _ _); k_dflt ( refine' spec_use (f := 277) (by k_asm) (by k_asm) (by k_asm) (by k_asm) (by k_asm) (by first | exact rfl | with_reducible assumption) (Tells.flip (by exact sub_refl _) (by exact tells_node 4 (tri_of' (by with_reducible assumption) (by k_mem) (by with_reducible assumption) (by with_reducible assumption) (by k_mem) (by with_reducible assumption) (by ktd_sub)))) (by exact Nat.le_of_ble_eq_true rfl) (by exact Nat.le_of_ble_eq_true rfl) (ret_made ?_); (intro r9 tl9 h9 tk9 F9 N9 up9 td9; (try simp only [List.cons_append] at N9); (try k_sweep); (try dsimp only); (try k_fold)))) | with_reducible (k_here; (with_reducible show wpAny _ _ (call (Value.ref 412) _) _ _ _); k_dflt (first | (refine' spec_use (f := 412) (by k_asm) (by k_asm) (by k_asm) (Pick.of (by k_asm) (by k_mem)) (by k_asm) (by first | exact rfl | with_reducible assumption) (Trees.use (trees _ _ 2) (by exact rfl) (by with_reducible assumption) (by k_all)) (by exact Nat.le_of_ble_eq_true rfl) (by exact Nat.le_of_ble_eq_true rfl) (ret_tree ?_); (intro r9 vs9 m9 d9 tl9 h9 tk9 F9 N9 up9 pp9 nd9 cn9; (try simp only [List.cons_append] at N9); (try k_sweep); (try dsimp only); (try k_fold))) | (refine' spec_use (f := 412) (by k_asm) (by k_asm) (by k_asm) (Pick.of (by k_asm) (by k_mem)) (by k_asm) (by first | exact rfl | with_reducible assumption) (Trees.use (trees _ _ 3) (by exact rfl) (by with_reducible assumption) (by k_all)) (by exact Nat.le_of_ble_eq_true rfl) (by exact Nat.le_of_ble_eq_true rfl) (ret_tree ?_); (intro r9 vs9 m9 d9 tl9 h9 tk9 F9 N9 up9 pp9 nd9 cn9; (try simp only [List.cons_append] at N9); (try k_sweep); (try dsimp only); (try k_fold)))))) | ((with_reducible show wpAny _ _ (call (Value.builtin "isinstance") _) _ _ _); first | with_reducible (k_here; (with_reducible show wpAny _ _ (call _ [Value.ref _, Value.ref _]) _ _ _); k_dflt (refine' isi_call (by k_in) (by k_types) (by k_is) (by intro e; cases e) ?_; k_whole))) | ((with_reducible show wpAny _ _ (binaryOp Operator.Mult (Value.ref _) (Value.int _ _)) _ _ _); first | with_reducible (k_here; (with_reducible show wpAny _ _ (binaryOp Operator.Mult (Value.ref _) (Value.int 3 _)) _ _ _); k_dflt (refine' mul3 (by k_asm) (by k_asm) (by k_mem) ?_); intro D' h' F' N' l1; (try k_lt l1); (try k_sweep))) | ((with_reducible show wpAny _ _ (exec (Stmt.If _ _ _ _) _) _ _ _); first | with_reducible (k_here; refine wpAny_If ?_)) | ((with_reducible show LCg.CompEnd _ _ _ _ _ _ _ _ _ _ _ _ _ _); first | with_reducible (k_here; k_dflt (refine' compEnd_same (by k_asm) (by k_asm) (by exact (by with_reducible assumption : (_ ≠ _ ∧ _ ≠ _ ∧ _ ≠ _) ∧ _)) (by exact Or.inr ⟨_, by k_mem, rfl, _, rfl⟩) ?_)) | (k_here; k_dflt (refine' compEnd_same (by k_asm) (by k_asm) (by exact (by with_reducible assumption : (_ ≠ _ ∧ _ ≠ _ ∧ _ ≠ _) ∧ _)) (by exact Or.inr ⟨_, by k_mem, rfl, _, rfl⟩) ?_))) | ((with_reducible show LCt.CompSrcT _ _ _ _ _ _ _ _ _ _ _ _ _ _ _); first | with_reducible (k_here; k_dflt (refine' LCt.CompSrcT.ledger rfl (by k_asm) (by k_asm) (by k_mem) (by exact Nat.le_of_ble_eq_true rfl) ?_); intro g9)) | ((with_reducible show wpAny _ _ (eval (Expr.ListComp _ _ _ _) _) _ _ _); first | with_reducible (k_here; k_dflt (refine LCt.ListComp_T (F₀ := by k_asm) (by with_unfolding_all rfl) (by decide) (by rfl) (by decide) (by rfl) ?_))) | ((with_reducible show wpAny _ _ (subscriptTail _ _ _ _) _ _ _); first | with_reducible (k_here; (with_reducible show wpAny _ _ (subscriptTail _ _ (Value.ref _) (Value.int _ _)) _ _ _); (fail_if_success (with_reducible show wpAny _ _ (subscriptTail _ _ (Value.ref _) (Value.int 0 _)) _ _ _)); k_dflt (refine' menu3 (by k_asm) (by k_mem) (by with_reducible assumption) (by with_reducible assumption) ?_); intro v9 pv9) | with_reducible (k_here; (with_reducible show wpAny _ _ (subscriptTail _ _ (Value.ref _) (Value.int 0 _)) _ _ _); k_dflt (refine' item0_N (by k_asm) (by k_mem) ?_)) | with_reducible (k_here; (with_reducible show wpAny _ _ (subscriptTail _ _ (Value.ref _) (Value.str _ _)) _ _ _); k_dflt (refine' kda_item (knd := PySem.strKind _ _) (by k_asm) (by k_mem) (by with_reducible assumption) (strKind_is _ _ _ _) (by exact val_hd) ?_))) | ((with_reducible show wpAny _ _ (call (Value.builtin "len") _) _ _ _); first | with_reducible (k_here; (with_reducible show wpAny _ _ (call (Value.builtin "len") [Value.ref _]) _ _ _); k_dflt (refine' len_N (by k_asm) (by k_mem) (by omega) ?_))) | ((with_reducible show wpAny _ _ (compareOp CmpOp.NotEq _ _) _ _ _); first | with_reducible (k_here; k_dflt (refine' ne_told (by k_asm) (by with_reducible assumption) (by ktd_sub) (by with_reducible assumption) (by ktd_sub) (ok_node 4 _) (by decide) (by exact Nat.le_of_ble_eq_true rfl) ?_))) | ((with_reducible show LawEnd _ _ _); first | with_reducible (k_here; refine Stop.out ?_)) | ((with_reducible show LawCut _ _ _ _ _ _); first | with_reducible (k_here; refine Stop.out ?_)) | (k_end; kc_close) | walk1 | (dsimp only; walk1) | (leave1; (try dsimp only)))
    unfold Stop
    exact ⟨_, _, rfl, P, t, d, d1, b, S, T, r, oT, pv, pn, base, by k_asm, news_on (by k_asm) (by ktd_sub), hp0, ho0, hTP, ht0, hb0, hS0, tab, hT0, hl0, hr0, hk0⟩
  clear F0 N0 hp0 ho0 hTP ht0 hb0 hS0 hT0 hl0 hr0 hk0
  intro h9 tk9 c9
  obtain ⟨P, t, d, d1, b, S, T, r, oT, pv, pn, base, F0, N0, hp0, ho0, hTP, ht0, hb0, hS0, tab, hT0, hl0, hr0, hk0⟩ := c9
  with_reducible refine cut_lawR ((Law4 w) s₁.heap s₁.heap.objs.size m0) ?_ ?_
  · skip
    clear vG vY vMX vLA vGL vTB vTE vTW vBM vhcd vDf vra vwl vr0 vrw
    obtain ⟨d2, d3, d4, hde⟩ := ht0.2.2.2.1
    have hk1 : KidRefs w base (.ref r) (.inner none [d1, d2, d3, d4]) := hde ▸ hk0
    obtain ⟨u, lv, b', vs, m', eu, ⟨o, ho, lo, hd⟩, hb', hlv, hrf⟩ := hk1
    obtain rfl : r = u := by injection eu
    obtain ⟨x1, x2, x3, x4, rfl⟩ := len4 rfl hlv
    obtain ⟨i1, a1, e1, _, _, _, _, _, rfl, p1, q1⟩ := hrf x1 (by simp)
    obtain ⟨i2, a2, e2, _, _, _, _, _, rfl, p2, q2⟩ := hrf x2 (by simp)
    obtain ⟨i3, a3, e3, _, _, _, _, _, rfl, p3, q3⟩ := hrf x3 (by simp)
    obtain ⟨i4, a4, e4, _, _, _, _, _, rfl, p4, q4⟩ := hrf x4 (by simp)
    clear hrf
    repeat' (first | (k_unfold; (try dsimp only)) | ((with_reducible show wpAny _ _ (call (Value.ref _) _) _ _ _); first | with_reducible (k_here; (with_reducible show wpAny _ _ (call (Value.ref 363) []) _ _ _); k_dflt ( refine' spec_use (f := 363) (by k_asm) (by k_asm) (by k_asm) (by k_asm) (by k_asm) (by first | exact rfl | with_reducible assumption) (shelf_new0 _ _) (by exact Nat.le_of_ble_eq_true rfl) (by exact Nat.le_of_ble_eq_true rfl) (ret_shelf0 ?_); (intro x9 d9 a9 c9 m9 t9 o9 q9 u9 h9 tk9 F9 N9 b9 i9 l9 k9 v9 w9 y9 z9 f9 g9 j9; (try k_lt l9); (try k_lt2 k9); (try k_lt2 v9); (try k_lt2 w9); (try k_lt2 z9); (try k_lt2 f9); (try k_lt2 g9); (try k_lt y9); (try k_lt j9); (try k_sweep); (try dsimp only); (try k_fold)))) | with_reducible (k_here; (with_reducible show wpAny _ _ (call (Value.ref 363) [Value.ref _, Value.ref _]) _ _ _); k_dflt ( refine' spec_use (f := 363) (by k_asm) (by k_asm) (by k_asm) (by k_asm) (by k_asm) (by first | exact rfl | with_reducible assumption) (shelf_new _ _ _ _) (by exact Nat.le_of_ble_eq_true rfl) (by exact Nat.le_of_ble_eq_true rfl) (ret_obj ?_); (intro x9 d9 a9 c9 m9 h9 tk9 F9 N9 l9 k9; (try k_lt l9); (try k_lt2 k9); (try k_sweep); (try dsimp only); (try k_fold)))) | with_reducible (k_here; (with_reducible show wpAny _ _ (call (Value.ref 254) [Value.int _ _, Value.int _ _]) _ _ _); k_dflt ( refine' spec_use (f := 254) (by k_asm) (by k_asm) (by k_asm) (by k_asm) (by k_asm) (by first | exact rfl | with_reducible assumption) (ref_new _ _ _ _ _ _) (by exact Nat.le_of_ble_eq_true rfl) (by exact Nat.le_of_ble_eq_true rfl) (ret_obj ?_); (intro x9 d9 a9 c9 m9 h9 tk9 F9 N9 l9 k9; (try k_lt l9); (try k_lt2 k9); (try k_sweep); (try dsimp only); (try k_fold)))) | with_reducible (k_here; (with_reducible show wpAny _ _ (call (Value.ref 429) _) _ _ _); k_dflt ( refine' spec_useT (f := 429) (by k_asm) (by k_asm) (by k_asm) (by k_asm) (by k_asm) (by first | exact rfl | with_reducible assumption) (refused _ _ _ _ _ (Refuse.flip (by k_mem) (by k_mem) (by with_reducible assumption) (by ktd_sub))) (by exact Nat.le_of_ble_eq_true rfl) (by exact Nat.le_of_ble_eq_true rfl) (ret_same ?_); (intro h9 tk9 F9 N9; (try k_sweep); (try dsimp only); (try k_fold)))) | with_reducible (k_here; (with_reducible show wpAny _ _ (call (Value.ref 407) _) _ _ _); k_dflt ( refine' spec_use (f := 407) (by k_asm) (by k_asm) (by k_asm) (Pick.of (by k_asm) (by k_mem)) (by k_asm) (by first | exact rfl | with_reducible assumption) (take_any _ _ _ _ (by with_reducible assumption) _ _ _ (by k_all) (by decide)) (by exact Nat.le_of_ble_eq_true rfl) (by exact Nat.le_of_ble_eq_true rfl) (ret_take ?_); (intro d9 t9 vs9 k9 h9 tk9 F9 N9 lo9 hi9 po9; (try k_sweep); (try dsimp only); (try k_fold)))) | with_reducible (k_here; (with_reducible show wpAny _ _ (call (Value.ref 334) _) _ _ _); k_dflt ( refine' spec_use (f := 334) (by k_asm) (by k_asm) (by k_asm) (by k_asm) (by k_asm) (by first | exact rfl | with_reducible assumption) (add_pick (by with_reducible assumption) (by k_mem) (by k_all) (by with_reducible assumption) (by first | omega | (simp only [List.length_append, List.length_cons, List.length_nil]; omega)) (by k_mem) (by k_mem)) (by exact Nat.le_of_ble_eq_true rfl) (by exact Nat.le_of_ble_eq_true rfl) (ret_add ?_); (intro r9 o9 tl9 t9 tt9 m9 h9 tk9 F9 N9 up9' tb9 mem9 ref9; have up9 := up9'.apart; (try simp only [List.cons_append] at N9); (try k_sweep); (try dsimp only); (try k_fold)))) | with_reducible (k_here; (with_reducible show wpAny _ _ (call (Value.ref 422) _) _ _ _); k_dflt ( refine' spec_use (f := 422) (by k_asm) (by k_asm) (by k_asm) (by k_asm) (by k_asm) (by first | exact rfl | with_reducible assumption) (Hangs.use (by with_reducible assumption) (by ktd_sub) (by with_reducible assumption) (by with_reducible assumption) (by with_reducible assumption) (by (first | omega | (simp only [List.length_nil]; omega)))) (by exact Nat.le_of_ble_eq_true rfl) (by exact Nat.le_of_ble_eq_true rfl) (ret_hung ?_); (intro r9 o9 vs9 m9 tl9 more9 h9 tk9 F9 N9 pp9 up9 tb9 lm9 st9; (try simp only [List.cons_append] at N9); (try k_sweep); (try dsimp only); (try k_fold)))) | with_reducible (k_here; (with_reducible show wpAny _ _ (call (Value.ref 400) _) _ _ _); k_dflt ( refine' spec_use (f := 400) (by k_asm) (by k_asm) (by k_asm) (by k_asm) (by k_asm) (by first | exact rfl | with_reducible assumption) (GathN.use (by with_reducible assumption) (by ktd_sub)) (by exact Nat.le_of_ble_eq_true rfl) (by exact Nat.le_of_ble_eq_true rfl) (ret_made ?_); (intro r9 tl9 h9 tk9 F9 N9 up9 nd9; have tn9 := tells_node 4 nd9; (try simp only [List.cons_append] at nd9 tn9); (try simp only [List.cons_append] at N9); (try k_sweep); (try dsimp only); (try k_fold)))) | with_reducible (k_here; (with_reducible show wpAny _ _ (call (Value.ref 417) _) _ _ _); k_dflt ( refine' spec_use (f := 417) (by k_asm) (by k_asm) (by k_asm) (by k_asm) (by k_asm) (by first | exact rfl | with_reducible assumption) (Counts.use (by with_reducible assumption) (by ktd_sub)) (by exact Nat.le_of_ble_eq_true rfl) (by exact Nat.le_of_ble_eq_true rfl) (ret_int ?_); (intro t9 tl9 h9 tk9 F9 N9 up9; (try simp only [List.cons_append] at N9); (try k_sweep); (try dsimp only); (try k_fold)))) | with_reducible (k_here; (with_reducible show wpAny _ _ (call (Value.ref 348) _) _ _ _); k_dflt ( refine' spec_use (f := 348) (by k_asm) (by k_asm) (by k_asm) (by k_asm) (by k_asm) (by first | exact rfl | with_reducible assumption) (numbers_use (by k_mem) (by k_mem) (by k_mem) (by with_reducible assumption) (by with_reducible assumption) (by omega)) (by exact Nat.le_of_ble_eq_true rfl) (by exact Nat.le_of_ble_eq_true rfl) (ret_nums ?_); (intro b9 vs9 m9 tl9 h9 tk9 F9 N9 up9 mb9 ln9; (try simp only [List.cons_append] at N9); (try k_sweep); (try dsimp only); (try k_fold)))) | with_reducible (k_here; (with_reducible show wpAny _ _ (call (Value.ref 391) _) _ _ _); k_dflt ( refine' spec_use (f := 391) (by k_asm) (by k_asm) (by k_asm) (by k_asm) (by k_asm) (by first | exact rfl | with_reducible assumption) (Lays.use (by with_reducible assumption) (by ktd_sub) (by with_reducible assumption) (by with_reducible assumption) (by (simp only [List.length_nil]; omega))) (by exact Nat.le_of_ble_eq_true rfl) (by exact Nat.le_of_ble_eq_true rfl) (ret_laid ?_); (intro r9 o9 tl9 m9 h9 tk9 F9 N9 up9 t9 c9 st9 kr9; (try simp only [List.cons_append] at N9); (try k_sweep); (try dsimp only); (try k_fold)))) | with_reducible (k_here; (with_reducible show wpAny _ _ (call (Value.ref 277) _) _ _ _); k_dflt ( refine' spec_use (f := 277) (by k_asm) (by k_asm) (by k_asm) (by k_asm) (by k_asm) (by first | exact rfl | with_reducible assumption) (Tells.use (by with_reducible assumption) (by ktd_sub)) (by exact Nat.le_of_ble_eq_true rfl) (by exact Nat.le_of_ble_eq_true rfl) (ret_made ?_); (intro r9 tl9 h9 tk9 F9 N9 up9 td9; (try simp only [List.cons_append] at N9); (try k_sweep); (try dsimp only); (try k_fold)))) | with_reducible (k_here; (with_reducible show wpAny _ _ (call (Value.ref 277) _) _ _ _); k_dflt ( refine' spec_use (f := 277) (by k_asm) (by k_asm) (by k_asm) (by k_asm) (by k_asm) (by first | exact rfl | with_reducible assumption) (Tells.flip (by exact sub_refl _) (by exact tells_node 4 (tri_of' (by with_reducible assumption) (by k_mem) (by with_reducible assumption) (by with_reducible assumption) (by k_mem) (by with_reducible assumption) (by ktd_sub)))) (by exact Nat.le_of_ble_eq_true rfl) (by exact Nat.le_of_ble_eq_true rfl) (ret_made ?_); (intro r9 tl9 h9 tk9 F9 N9 up9 td9; (try simp only [List.cons_append] at N9); (try k_sweep); (try dsimp only); (try k_fold)))) | with_reducible (k_here; (with_reducible show wpAny _ _ (call (Value.ref 412) _) _ _ _); k_dflt (first | (refine' spec_use (f := 412) (by k_asm) (by k_asm) (by k_asm) (Pick.of (by k_asm) (by k_mem)) (by k_asm) (by first | exact rfl | with_reducible assumption) (Trees.use (trees _ _ 2) (by exact rfl) (by with_reducible assumption) (by k_all)) (by exact Nat.le_of_ble_eq_true rfl) (by exact Nat.le_of_ble_eq_true rfl) (ret_tree ?_); (intro r9 vs9 m9 d9 tl9 h9 tk9 F9 N9 up9 pp9 nd9 cn9; (try simp only [List.cons_append] at N9); (try k_sweep); (try dsimp only); (try k_fold))) | (refine' spec_use (f := 412) (by k_asm) (by k_asm) (by k_asm) (Pick.of (by k_asm) (by k_mem)) (by k_asm) (by first | exact rfl | with_reducible assumption) (Trees.use (trees _ _ 3) (by exact rfl) (by with_reducible assumption) (by k_all)) (by exact Nat.le_of_ble_eq_true rfl) (by exact Nat.le_of_ble_eq_true rfl) (ret_tree ?_); (intro r9 vs9 m9 d9 tl9 h9 tk9 F9 N9 up9 pp9 nd9 cn9; (try simp only [List.cons_append] at N9); (try k_sweep); (try dsimp only); (try k_fold)))))) | ((with_reducible show wpAny _ _ (call (Value.builtin "isinstance") _) _ _ _); first | with_reducible (k_here; (with_reducible show wpAny _ _ (call _ [Value.ref _, Value.ref _]) _ _ _); k_dflt (refine' isi_call (by k_in) (by k_types) (by k_is) (by intro e; cases e) ?_; k_whole))) | ((with_reducible show wpAny _ _ (binaryOp Operator.Mult (Value.ref _) (Value.int _ _)) _ _ _); first | with_reducible (k_here; (with_reducible show wpAny _ _ (binaryOp Operator.Mult (Value.ref _) (Value.int 3 _)) _ _ _); k_dflt (refine' mul3 (by k_asm) (by k_asm) (by k_mem) ?_); intro D' h' F' N' l1; (try k_lt l1); (try k_sweep))) | ((with_reducible show wpAny _ _ (exec (Stmt.If _ _ _ _) _) _ _ _); first | with_reducible (k_here; refine wpAny_If ?_)) | ((with_reducible show LCg.CompEnd _ _ _ _ _ _ _ _ _ _ _ _ _ _); first | with_reducible (k_here; k_dflt (refine' compEnd_same (by k_asm) (by k_asm) (by exact (by with_reducible assumption : (_ ≠ _ ∧ _ ≠ _ ∧ _ ≠ _) ∧ _)) (by exact Or.inr ⟨_, by k_mem, rfl, _, rfl⟩) ?_)) | (k_here; k_dflt (refine' compEnd_same (by k_asm) (by k_asm) (by exact (by with_reducible assumption : (_ ≠ _ ∧ _ ≠ _ ∧ _ ≠ _) ∧ _)) (by exact Or.inr ⟨_, by k_mem, rfl, _, rfl⟩) ?_))) | ((with_reducible show LCt.CompSrcT _ _ _ _ _ _ _ _ _ _ _ _ _ _ _); first | with_reducible (k_here; k_dflt (refine' LCt.CompSrcT.ledger rfl (by k_asm) (by k_asm) (by k_mem) (by exact Nat.le_of_ble_eq_true rfl) ?_); intro g9)) | ((with_reducible show wpAny _ _ (eval (Expr.ListComp _ _ _ _) _) _ _ _); first | with_reducible (k_here; k_dflt (refine LCt.ListComp_T (F₀ := by k_asm) (by with_unfolding_all rfl) (by decide) (by rfl) (by decide) (by rfl) ?_))) | ((with_reducible show wpAny _ _ (subscriptTail _ _ _ _) _ _ _); first | with_reducible (k_here; (with_reducible show wpAny _ _ (subscriptTail _ _ (Value.ref _) (Value.int _ _)) _ _ _); (fail_if_success (with_reducible show wpAny _ _ (subscriptTail _ _ (Value.ref _) (Value.int 0 _)) _ _ _)); k_dflt (refine' menu3 (by k_asm) (by k_mem) (by with_reducible assumption) (by with_reducible assumption) ?_); intro v9 pv9) | with_reducible (k_here; (with_reducible show wpAny _ _ (subscriptTail _ _ (Value.ref _) (Value.int 0 _)) _ _ _); k_dflt (refine' item0_N (by k_asm) (by k_mem) ?_)) | with_reducible (k_here; (with_reducible show wpAny _ _ (subscriptTail _ _ (Value.ref _) (Value.str _ _)) _ _ _); k_dflt (refine' kda_item (knd := PySem.strKind _ _) (by k_asm) (by k_mem) (by with_reducible assumption) (strKind_is _ _ _ _) (by exact val_hd) ?_))) | ((with_reducible show wpAny _ _ (call (Value.builtin "len") _) _ _ _); first | with_reducible (k_here; (with_reducible show wpAny _ _ (call (Value.builtin "len") [Value.ref _]) _ _ _); k_dflt (refine' len_N (by k_asm) (by k_mem) (by omega) ?_))) | ((with_reducible show wpAny _ _ (compareOp CmpOp.NotEq _ _) _ _ _); first | with_reducible (k_here; k_dflt (refine' ne_told (by k_asm) (by with_reducible assumption) (by ktd_sub) (by with_reducible assumption) (by ktd_sub) (ok_node 4 _) (by decide) (by exact Nat.le_of_ble_eq_true rfl) ?_))) | ((with_reducible show LawEnd _ _ _); first | with_reducible (k_here; refine Stop.out ?_)) | ((with_reducible show LawCut _ _ _ _ _ _); first | with_reducible (k_here; refine Stop.out ?_)) | walk1 | (dsimp only; walk1))
    unfold Stop
    exact ⟨_, _, rfl, P, t, d, d1, b, S, T, r, oT, pv, pn, base, by k_asm, news_on (by k_asm) (by ktd_sub), hp0, ho0, hTP, ht0, hb0, hS0, tab, hT0, hl0, hr0, hk0⟩
  clear F0 N0 hp0 ho0 hTP ht0 hb0 hS0 hT0 hl0 hr0 hk0
  intro h9 tk9 c9
  obtain ⟨P, t, d, d1, b, S, T, r, oT, pv, pn, base, F0, N0, hp0, ho0, hTP, ht0, hb0, hS0, tab, hT0, hl0, hr0, hk0⟩ := c9
  with_reducible refine cut_lawR ((Law7 w) s₁.heap s₁.heap.objs.size m0) ?_ ?_
  · skip
    clear vG vY vMX vLA vGL vTB vTE vTW vBM vhcd vDf vra vwl vr0 vrw
    have G := gathN_of (N0 := (T, oT) :: (P, listOf pv.toArray pn) :: base) (by ktd_sub) hS0 (.head _) hT0 ((hr0.stands (by decide)).more (by ktd_sub)) (Int.natCast_nonneg _) ht0.inner
    repeat' (first | (k_unfold; (try dsimp only)) | ((with_reducible show wpAny _ _ (call (Value.ref _) _) _ _ _); first | with_reducible (k_here; (with_reducible show wpAny _ _ (call (Value.ref 363) []) _ _ _); k_dflt ( refine' spec_use (f := 363) (by k_asm) (by k_asm) (by k_asm) (by k_asm) (by k_asm) (by first | exact rfl | with_reducible assumption) (shelf_new0 _ _) (by exact Nat.le_of_ble_eq_true rfl) (by exact Nat.le_of_ble_eq_true rfl) (ret_shelf0 ?_); (intro x9 d9 a9 c9 m9 t9 o9 q9 u9 h9 tk9 F9 N9 b9 i9 l9 k9 v9 w9 y9 z9 f9 g9 j9; (try k_lt l9); (try k_lt2 k9); (try k_lt2 v9); (try k_lt2 w9); (try k_lt2 z9); (try k_lt2 f9); (try k_lt2 g9); (try k_lt y9); (try k_lt j9); (try k_sweep); (try dsimp only); (try k_fold)))) | with_reducible (k_here; (with_reducible show wpAny _ _ (call (Value.ref 363) [Value.ref _, Value.ref _]) _ _ _); k_dflt ( refine' spec_use (f := 363) (by k_asm) (by k_asm) (by k_asm) (by k_asm) (by k_asm) (by first | exact rfl | with_reducible assumption) (shelf_new _ _ _ _) (by exact Nat.le_of_ble_eq_true rfl) (by exact Nat.le_of_ble_eq_true rfl) (ret_obj ?_); (intro x9 d9 a9 c9 m9 h9 tk9 F9 N9 l9 k9; (try k_lt l9); (try k_lt2 k9); (try k_sweep); (try dsimp only); (try k_fold)))) | with_reducible (k_here; (with_reducible show wpAny _ _ (call (Value.ref 254) [Value.int _ _, Value.int _ _]) _ _ _); k_dflt ( refine' spec_use (f := 254) (by k_asm) (by k_asm) (by k_asm) (by k_asm) (by k_asm) (by first | exact rfl | with_reducible assumption) (ref_new _ _ _ _ _ _) (by exact Nat.le_of_ble_eq_true rfl) (by exact Nat.le_of_ble_eq_true rfl) (ret_obj ?_); (intro x9 d9 a9 c9 m9 h9 tk9 F9 N9 l9 k9; (try k_lt l9); (try k_lt2 k9); (try k_sweep); (try dsimp only); (try k_fold)))) | with_reducible (k_here; (with_reducible show wpAny _ _ (call (Value.ref 429) _) _ _ _); k_dflt ( refine' spec_useT (f := 429) (by k_asm) (by k_asm) (by k_asm) (by k_asm) (by k_asm) (by first | exact rfl | with_reducible assumption) (refused _ _ _ _ _ (Refuse.flip (by k_mem) (by k_mem) (by with_reducible assumption) (by ktd_sub))) (by exact Nat.le_of_ble_eq_true rfl) (by exact Nat.le_of_ble_eq_true rfl) (ret_same ?_); (intro h9 tk9 F9 N9; (try k_sweep); (try dsimp only); (try k_fold)))) | with_reducible (k_here; (with_reducible show wpAny _ _ (call (Value.ref 407) _) _ _ _); k_dflt ( refine' spec_use (f := 407) (by k_asm) (by k_asm) (by k_asm) (Pick.of (by k_asm) (by k_mem)) (by k_asm) (by first | exact rfl | with_reducible assumption) (take_any _ _ _ _ (by with_reducible assumption) _ _ _ (by k_all) (by decide)) (by exact Nat.le_of_ble_eq_true rfl) (by exact Nat.le_of_ble_eq_true rfl) (ret_take ?_); (intro d9 t9 vs9 k9 h9 tk9 F9 N9 lo9 hi9 po9; (try k_sweep); (try dsimp only); (try k_fold)))) | with_reducible (k_here; (with_reducible show wpAny _ _ (call (Value.ref 334) _) _ _ _); k_dflt ( refine' spec_use (f := 334) (by k_asm) (by k_asm) (by k_asm) (by k_asm) (by k_asm) (by first | exact rfl | with_reducible assumption) (add_pick (by with_reducible assumption) (by k_mem) (by k_all) (by with_reducible assumption) (by first | omega | (simp only [List.length_append, List.length_cons, List.length_nil]; omega)) (by k_mem) (by k_mem)) (by exact Nat.le_of_ble_eq_true rfl) (by exact Nat.le_of_ble_eq_true rfl) (ret_add ?_); (intro r9 o9 tl9 t9 tt9 m9 h9 tk9 F9 N9 up9' tb9 mem9 ref9; have up9 := up9'.apart; (try simp only [List.cons_append] at N9); (try k_sweep); (try dsimp only); (try k_fold)))) | with_reducible (k_here; (with_reducible show wpAny _ _ (call (Value.ref 422) _) _ _ _); k_dflt ( refine' spec_use (f := 422) (by k_asm) (by k_asm) (by k_asm) (by k_asm) (by k_asm) (by first | exact rfl | with_reducible assumption) (Hangs.use (by with_reducible assumption) (by ktd_sub) (by with_reducible assumption) (by with_reducible assumption) (by with_reducible assumption) (by (first | omega | (simp only [List.length_nil]; omega)))) (by exact Nat.le_of_ble_eq_true rfl) (by exact Nat.le_of_ble_eq_true rfl) (ret_hung ?_); (intro r9 o9 vs9 m9 tl9 more9 h9 tk9 F9 N9 pp9 up9 tb9 lm9 st9; (try simp only [List.cons_append] at N9); (try k_sweep); (try dsimp only); (try k_fold)))) | with_reducible (k_here; (with_reducible show wpAny _ _ (call (Value.ref 400) _) _ _ _); k_dflt ( refine' spec_use (f := 400) (by k_asm) (by k_asm) (by k_asm) (by k_asm) (by k_asm) (by first | exact rfl | with_reducible assumption) (GathN.use (by with_reducible assumption) (by ktd_sub)) (by exact Nat.le_of_ble_eq_true rfl) (by exact Nat.le_of_ble_eq_true rfl) (ret_made ?_); (intro r9 tl9 h9 tk9 F9 N9 up9 nd9; have tn9 := tells_node 4 nd9; (try simp only [List.cons_append] at nd9 tn9); (try simp only [List.cons_append] at N9); (try k_sweep); (try dsimp only); (try k_fold)))) | with_reducible (k_here; (with_reducible show wpAny _ _ (call (Value.ref 417) _) _ _ _); k_dflt ( refine' spec_use (f := 417) (by k_asm) (by k_asm) (by k_asm) (by k_asm) (by k_asm) (by first | exact rfl | with_reducible assumption) (Counts.use (by with_reducible assumption) (by ktd_sub)) (by exact Nat.le_of_ble_eq_true rfl) (by exact Nat.le_of_ble_eq_true rfl) (ret_int ?_); (intro t9 tl9 h9 tk9 F9 N9 up9; (try simp only [List.cons_append] at N9); (try k_sweep); (try dsimp only); (try k_fold)))) | with_reducible (k_here; (with_reducible show wpAny _ _ (call (Value.ref 348) _) _ _ _); k_dflt ( refine' spec_use (f := 348) (by k_asm) (by k_asm) (by k_asm) (by k_asm) (by k_asm) (by first | exact rfl | with_reducible assumption) (numbers_use (by k_mem) (by k_mem) (by k_mem) (by with_reducible assumption) (by with_reducible assumption) (by omega)) (by exact Nat.le_of_ble_eq_true rfl) (by exact Nat.le_of_ble_eq_true rfl) (ret_nums ?_); (intro b9 vs9 m9 tl9 h9 tk9 F9 N9 up9 mb9 ln9; (try simp only [List.cons_append] at N9); (try k_sweep); (try dsimp only); (try k_fold)))) | with_reducible (k_here; (with_reducible show wpAny _ _ (call (Value.ref 391) _) _ _ _); k_dflt ( refine' spec_use (f := 391) (by k_asm) (by k_asm) (by k_asm) (by k_asm) (by k_asm) (by first | exact rfl | with_reducible assumption) (Lays.use (by with_reducible assumption) (by ktd_sub) (by with_reducible assumption) (by with_reducible assumption) (by (simp only [List.length_nil]; omega))) (by exact Nat.le_of_ble_eq_true rfl) (by exact Nat.le_of_ble_eq_true rfl) (ret_laid ?_); (intro r9 o9 tl9 m9 h9 tk9 F9 N9 up9 t9 c9 st9 kr9; (try simp only [List.cons_append] at N9); (try k_sweep); (try dsimp only); (try k_fold)))) | with_reducible (k_here; (with_reducible show wpAny _ _ (call (Value.ref 277) _) _ _ _); k_dflt ( refine' spec_use (f := 277) (by k_asm) (by k_asm) (by k_asm) (by k_asm) (by k_asm) (by first | exact rfl | with_reducible assumption) (Tells.use (by with_reducible assumption) (by ktd_sub)) (by exact Nat.le_of_ble_eq_true rfl) (by exact Nat.le_of_ble_eq_true rfl) (ret_made ?_); (intro r9 tl9 h9 tk9 F9 N9 up9 td9; (try simp only [List.cons_append] at N9); (try k_sweep); (try dsimp only); (try k_fold)))) | with_reducible (k_here; (with_reducible show wpAny _ _ (call (Value.ref 277) _) _ _ _); k_dflt ( refine' spec_use (f := 277) (by k_asm) (by k_asm) (by k_asm) (by k_asm) (by k_asm) (by first | exact rfl | with_reducible assumption) (Tells.flip (by exact sub_refl _) (by exact tells_node 4 (tri_of' (by with_reducible assumption) (by k_mem) (by with_reducible assumption) (by with_reducible assumption) (by k_mem) (by with_reducible assumption) (by ktd_sub)))) (by exact Nat.le_of_ble_eq_true rfl) (by exact Nat.le_of_ble_eq_true rfl) (ret_made ?_); (intro r9 tl9 h9 tk9 F9 N9 up9 td9; (try simp only [List.cons_append] at N9); (try k_sweep); (try dsimp only); (try k_fold)))) | with_reducible (k_here; (with_reducible show wpAny _ _ (call (Value.ref 412) _) _ _ _); k_dflt (first | (refine' spec_use (f := 412) (by k_asm) (by k_asm) (by k_asm) (Pick.of (by k_asm) (by k_mem)) (by k_asm) (by first | exact rfl | with_reducible assumption) (Trees.use (trees _ _ 2) (by exact rfl) (by with_reducible assumption) (by k_all)) (by exact Nat.le_of_ble_eq_true rfl) (by exact Nat.le_of_ble_eq_true rfl) (ret_tree ?_); (intro r9 vs9 m9 d9 tl9 h9 tk9 F9 N9 up9 pp9 nd9 cn9; (try simp only [List.cons_append] at N9); (try k_sweep); (try dsimp only); (try k_fold))) | (refine' spec_use (f := 412) (by k_asm) (by k_asm) (by k_asm) (Pick.of (by k_asm) (by k_mem)) (by k_asm) (by first | exact rfl | with_reducible assumption) (Trees.use (trees _ _ 3) (by exact rfl) (by with_reducible assumption) (by k_all)) (by exact Nat.le_of_ble_eq_true rfl) (by exact Nat.le_of_ble_eq_true rfl) (ret_tree ?_); (intro r9 vs9 m9 d9 tl9 h9 tk9 F9 N9 up9 pp9 nd9 cn9; (try simp only [List.cons_append] at N9); (try k_sweep); (try dsimp only); (try k_fold)))))) | ((with_reducible show wpAny _ _ (call (Value.builtin "isinstance") _) _ _ _); first | with_reducible (k_here; (with_reducible show wpAny _ _ (call _ [Value.ref _, Value.ref _]) _ _ _); k_dflt (refine' isi_call (by k_in) (by k_types) (by k_is) (by intro e; cases e) ?_; k_whole))) | ((with_reducible show wpAny _ _ (binaryOp Operator.Mult (Value.ref _) (Value.int _ _)) _ _ _); first | with_reducible (k_here; (with_reducible show wpAny _ _ (binaryOp Operator.Mult (Value.ref _) (Value.int 3 _)) _ _ _); k_dflt (refine' mul3 (by k_asm) (by k_asm) (by k_mem) ?_); intro D' h' F' N' l1; (try k_lt l1); (try k_sweep))) | ((with_reducible show wpAny _ _ (exec (Stmt.If _ _ _ _) _) _ _ _); first | with_reducible (k_here; refine wpAny_If ?_)) | ((with_reducible show LCg.CompEnd _ _ _ _ _ _ _ _ _ _ _ _ _ _); first | with_reducible (k_here; k_dflt (refine' compEnd_same (by k_asm) (by k_asm) (by exact (by with_reducible assumption : (_ ≠ _ ∧ _ ≠ _ ∧ _ ≠ _) ∧ _)) (by exact Or.inr ⟨_, by k_mem, rfl, _, rfl⟩) ?_)) | (k_here; k_dflt (refine' compEnd_same (by k_asm) (by k_asm) (by exact (by with_reducible assumption : (_ ≠ _ ∧ _ ≠ _ ∧ _ ≠ _) ∧ _)) (by exact Or.inr ⟨_, by k_mem, rfl, _, rfl⟩) ?_))) | ((with_reducible show LCt.CompSrcT _ _ _ _ _ _ _ _ _ _ _ _ _ _ _); first | with_reducible (k_here; k_dflt (refine' LCt.CompSrcT.ledger rfl (by k_asm) (by k_asm) (by k_mem) (by exact Nat.le_of_ble_eq_true rfl) ?_); intro g9)) | ((with_reducible show wpAny _ _ (eval (Expr.ListComp _ _ _ _) _) _ _ _); first | with_reducible (k_here; k_dflt (refine LCt.ListComp_T (F₀ := by k_asm) (by with_unfolding_all rfl) (by decide) (by rfl) (by decide) (by rfl) ?_))) | ((with_reducible show wpAny _ _ (subscriptTail _ _ _ _) _ _ _); first | with_reducible (k_here; (with_reducible show wpAny _ _ (subscriptTail _ _ (Value.ref _) (Value.int _ _)) _ _ _); (fail_if_success (with_reducible show wpAny _ _ (subscriptTail _ _ (Value.ref _) (Value.int 0 _)) _ _ _)); k_dflt (refine' menu3 (by k_asm) (by k_mem) (by with_reducible assumption) (by with_reducible assumption) ?_); intro v9 pv9) | with_reducible (k_here; (with_reducible show wpAny _ _ (subscriptTail _ _ (Value.ref _) (Value.int 0 _)) _ _ _); k_dflt (refine' item0_N (by k_asm) (by k_mem) ?_)) | with_reducible (k_here; (with_reducible show wpAny _ _ (subscriptTail _ _ (Value.ref _) (Value.str _ _)) _ _ _); k_dflt (refine' kda_item (knd := PySem.strKind _ _) (by k_asm) (by k_mem) (by with_reducible assumption) (strKind_is _ _ _ _) (by exact val_hd) ?_))) | ((with_reducible show wpAny _ _ (call (Value.builtin "len") _) _ _ _); first | with_reducible (k_here; (with_reducible show wpAny _ _ (call (Value.builtin "len") [Value.ref _]) _ _ _); k_dflt (refine' len_N (by k_asm) (by k_mem) (by omega) ?_))) | ((with_reducible show wpAny _ _ (compareOp CmpOp.NotEq _ _) _ _ _); first | with_reducible (k_here; k_dflt (refine' ne_told (by k_asm) (by with_reducible assumption) (by ktd_sub) (by with_reducible assumption) (by ktd_sub) (ok_node 4 _) (by decide) (by exact Nat.le_of_ble_eq_true rfl) ?_))) | ((with_reducible show LawEnd _ _ _); first | with_reducible (k_here; refine Stop.out ?_)) | ((with_reducible show LawCut _ _ _ _ _ _); first | with_reducible (k_here; refine Stop.out ?_)) | walk1 | (dsimp only; walk1))
    unfold Stop
    exact ⟨_, _, rfl, P, t, d, d1, b, S, T, r, _, oT, pv, pn, _, by k_asm, by k_asm, hp0, off_more2 ho0 (by with_reducible assumption) ⟨_, .head _⟩ ⟨_, .tail _ (.head _)⟩, hTP, ht0.mono (sub_l _ _), hb0.mono (sub_l _ _), hS0.mono (sub_l _ _), ⟨tab, hT0⟩, (by with_reducible assumption)⟩
  clear F0 N0 hp0 ho0 hTP ht0 hb0 hS0 hT0 hl0 hr0 hk0
  intro h9 tk9 c9
  obtain ⟨P, t, d, d1, b, S, T, r, wh, oT, pv, pn, base, F0, N0, hp0, ho0, hTP, ht0, hb0, hS0, ⟨tab, hT0⟩, hw0⟩ := c9
  with_reducible refine cut_lawR ((Law8 w) s₁.heap s₁.heap.objs.size m0) ?_ ?_
  · skip
    clear vG vY vMX vLA vGL vTB vTE vTW vBM vhcd vDf vra vwl vr0 vrw
    have tn := tells_node 4 hw0
    have G := gathN_of (N0 := (T, oT) :: (P, listOf pv.toArray pn) :: base) (by ktd_sub) hS0 (.head _) hT0 (hw0.stands (B := 0)) (Int.le_refl _) ht0.inner
    repeat' (first | (k_unfold; (try dsimp only)) | ((with_reducible show wpAny _ _ (call (Value.ref _) _) _ _ _); first | with_reducible (k_here; (with_reducible show wpAny _ _ (call (Value.ref 363) []) _ _ _); k_dflt ( refine' spec_use (f := 363) (by k_asm) (by k_asm) (by k_asm) (by k_asm) (by k_asm) (by first | exact rfl | with_reducible assumption) (shelf_new0 _ _) (by exact Nat.le_of_ble_eq_true rfl) (by exact Nat.le_of_ble_eq_true rfl) (ret_shelf0 ?_); (intro x9 d9 a9 c9 m9 t9 o9 q9 u9 h9 tk9 F9 N9 b9 i9 l9 k9 v9 w9 y9 z9 f9 g9 j9; (try k_lt l9); (try k_lt2 k9); (try k_lt2 v9); (try k_lt2 w9); (try k_lt2 z9); (try k_lt2 f9); (try k_lt2 g9); (try k_lt y9); (try k_lt j9); (try k_sweep); (try dsimp only); (try k_fold)))) | with_reducible (k_here; (with_reducible show wpAny _ _ (call (Value.ref 363) [Value.ref _, Value.ref _]) _ _ _); k_dflt ( refine' spec_use (f := 363) (by k_asm) (by k_asm) (by k_asm) (by k_asm) (by k_asm) (by first | exact rfl | with_reducible assumption) (shelf_new _ _ _ _) (by exact Nat.le_of_ble_eq_true rfl) (by exact Nat.le_of_ble_eq_true rfl) (ret_obj ?_); (intro x9 d9 a9 c9 m9 h9 tk9 F9 N9 l9 k9; (try k_lt l9); (try k_lt2 k9); (try k_sweep); (try dsimp only); (try k_fold)))) | with_reducible (k_here; (with_reducible show wpAny _ _ (call (Value.ref 254) [Value.int _ _, Value.int _ _]) _ _ _); k_dflt ( refine' spec_use (f := 254) (by k_asm) (by k_asm) (by k_asm) (by k_asm) (by k_asm) (by first | exact rfl | with_reducible assumption) (ref_new _ _ _ _ _ _) (by exact Nat.le_of_ble_eq_true rfl) (by exact Nat.le_of_ble_eq_true rfl) (ret_obj ?_); (intro x9 d9 a9 c9 m9 h9 tk9 F9 N9 l9 k9; (try k_lt l9); (try k_lt2 k9); (try k_sweep); (try dsimp only); (try k_fold)))) | with_reducible (k_here; (with_reducible show wpAny _ _ (call (Value.ref 429) _) _ _ _); k_dflt ( refine' spec_useT (f := 429) (by k_asm) (by k_asm) (by k_asm) (by k_asm) (by k_asm) (by first | exact rfl | with_reducible assumption) (refused _ _ _ _ _ (Refuse.flip (by k_mem) (by k_mem) (by with_reducible assumption) (by ktd_sub))) (by exact Nat.le_of_ble_eq_true rfl) (by exact Nat.le_of_ble_eq_true rfl) (ret_same ?_); (intro h9 tk9 F9 N9; (try k_sweep); (try dsimp only); (try k_fold)))) | with_reducible (k_here; (with_reducible show wpAny _ _ (call (Value.ref 407) _) _ _ _); k_dflt ( refine' spec_use (f := 407) (by k_asm) (by k_asm) (by k_asm) (Pick.of (by k_asm) (by k_mem)) (by k_asm) (by first | exact rfl | with_reducible assumption) (take_any _ _ _ _ (by with_reducible assumption) _ _ _ (by k_all) (by decide)) (by exact Nat.le_of_ble_eq_true rfl) (by exact Nat.le_of_ble_eq_true rfl) (ret_take ?_); (intro d9 t9 vs9 k9 h9 tk9 F9 N9 lo9 hi9 po9; (try k_sweep); (try dsimp only); (try k_fold)))) | with_reducible (k_here; (with_reducible show wpAny _ _ (call (Value.ref 334) _) _ _ _); k_dflt ( refine' spec_use (f := 334) (by k_asm) (by k_asm) (by k_asm) (by k_asm) (by k_asm) (by first | exact rfl | with_reducible assumption) (add_pick (by with_reducible assumption) (by k_mem) (by k_all) (by with_reducible assumption) (by first | omega | (simp only [List.length_append, List.length_cons, List.length_nil]; omega)) (by k_mem) (by k_mem)) (by exact Nat.le_of_ble_eq_true rfl) (by exact Nat.le_of_ble_eq_true rfl) (ret_add ?_); (intro r9 o9 tl9 t9 tt9 m9 h9 tk9 F9 N9 up9' tb9 mem9 ref9; have up9 := up9'.apart; (try simp only [List.cons_append] at N9); (try k_sweep); (try dsimp only); (try k_fold)))) | with_reducible (k_here; (with_reducible show wpAny _ _ (call (Value.ref 422) _) _ _ _); k_dflt ( refine' spec_use (f := 422) (by k_asm) (by k_asm) (by k_asm) (by k_asm) (by k_asm) (by first | exact rfl | with_reducible assumption) (Hangs.use (by with_reducible assumption) (by ktd_sub) (by with_reducible assumption) (by with_reducible assumption) (by with_reducible assumption) (by (first | omega | (simp only [List.length_nil]; omega)))) (by exact Nat.le_of_ble_eq_true rfl) (by exact Nat.le_of_ble_eq_true rfl) (ret_hung ?_); (intro r9 o9 vs9 m9 tl9 more9 h9 tk9 F9 N9 pp9 up9 tb9 lm9 st9; (try simp only [List.cons_append] at N9); (try k_sweep); (try dsimp only); (try k_fold)))) | with_reducible (k_here; (with_reducible show wpAny _ _ (call (Value.ref 400) _) _ _ _); k_dflt ( refine' spec_use (f := 400) (by k_asm) (by k_asm) (by k_asm) (by k_asm) (by k_asm) (by first | exact rfl | with_reducible assumption) (GathN.use (by with_reducible assumption) (by ktd_sub)) (by exact Nat.le_of_ble_eq_true rfl) (by exact Nat.le_of_ble_eq_true rfl) (ret_made ?_); (intro r9 tl9 h9 tk9 F9 N9 up9 nd9; have tn9 := tells_node 4 nd9; (try simp only [List.cons_append] at nd9 tn9); (try simp only [List.cons_append] at N9); (try k_sweep); (try dsimp only); (try k_fold)))) | with_reducible (k_here; (with_reducible show wpAny _ _ (call (Value.ref 417) _) _ _ _); k_dflt ( refine' spec_use (f := 417) (by k_asm) (by k_asm) (by k_asm) (by k_asm) (by k_asm) (by first | exact rfl | with_reducible assumption) (Counts.use (by with_reducible assumption) (by ktd_sub)) (by exact Nat.le_of_ble_eq_true rfl) (by exact Nat.le_of_ble_eq_true rfl) (ret_int ?_); (intro t9 tl9 h9 tk9 F9 N9 up9; (try simp only [List.cons_append] at N9); (try k_sweep); (try dsimp only); (try k_fold)))) | with_reducible (k_here; (with_reducible show wpAny _ _ (call (Value.ref 348) _) _ _ _); k_dflt ( refine' spec_use (f := 348) (by k_asm) (by k_asm) (by k_asm) (by k_asm) (by k_asm) (by first | exact rfl | with_reducible assumption) (numbers_use (by k_mem) (by k_mem) (by k_mem) (by with_reducible assumption) (by with_reducible assumption) (by omega)) (by exact Nat.le_of_ble_eq_true rfl) (by exact Nat.le_of_ble_eq_true rfl) (ret_nums ?_); (intro b9 vs9 m9 tl9 h9 tk9 F9 N9 up9 mb9 ln9; (try simp only [List.cons_append] at N9); (try k_sweep); (try dsimp only); (try k_fold)))) | with_reducible (k_here; (with_reducible show wpAny _ _ (call (Value.ref 391) _) _ _ _); k_dflt ( refine' spec_use (f := 391) (by k_asm) (by k_asm) (by k_asm) (by k_asm) (by k_asm) (by first | exact rfl | with_reducible assumption) (Lays.use (by with_reducible assumption) (by ktd_sub) (by with_reducible assumption) (by with_reducible assumption) (by (simp only [List.length_nil]; omega))) (by exact Nat.le_of_ble_eq_true rfl) (by exact Nat.le_of_ble_eq_true rfl) (ret_laid ?_); (intro r9 o9 tl9 m9 h9 tk9 F9 N9 up9 t9 c9 st9 kr9; (try simp only [List.cons_append] at N9); (try k_sweep); (try dsimp only); (try k_fold)))) | with_reducible (k_here; (with_reducible show wpAny _ _ (call (Value.ref 277) _) _ _ _); k_dflt ( refine' spec_use (f := 277) (by k_asm) (by k_asm) (by k_asm) (by k_asm) (by k_asm) (by first | exact rfl | with_reducible assumption) (Tells.use (by with_reducible assumption) (by ktd_sub)) (by exact Nat.le_of_ble_eq_true rfl) (by exact Nat.le_of_ble_eq_true rfl) (ret_made ?_); (intro r9 tl9 h9 tk9 F9 N9 up9 td9; (try simp only [List.cons_append] at N9); (try k_sweep); (try dsimp only); (try k_fold)))) | with_reducible (k_here; (with_reducible show wpAny _ _ (call (Value.ref 277) _) _ _ _); k_dflt ( refine' spec_use (f := 277) (by k_asm) (by k_asm) (by k_asm) (by k_asm) (by k_asm) (by first | exact rfl | with_reducible assumption) (Tells.flip (by exact sub_refl _) (by exact tells_node 4 (tri_of' (by with_reducible assumption) (by k_mem) (by with_reducible assumption) (by with_reducible assumption) (by k_mem) (by with_reducible assumption) (by ktd_sub)))) (by exact Nat.le_of_ble_eq_true rfl) (by exact Nat.le_of_ble_eq_true rfl) (ret_made ?_); (intro r9 tl9 h9 tk9 F9 N9 up9 td9; (try simp only [List.cons_append] at N9); (try k_sweep); (try dsimp only); (try k_fold)))) | with_reducible (k_here; (with_reducible show wpAny _ _ (call (Value.ref 412) _) _ _ _); k_dflt (first | (refine' spec_use (f := 412) (by k_asm) (by k_asm) (by k_asm) (Pick.of (by k_asm) (by k_mem)) (by k_asm) (by first | exact rfl | with_reducible assumption) (Trees.use (trees _ _ 2) (by exact rfl) (by with_reducible assumption) (by k_all)) (by exact Nat.le_of_ble_eq_true rfl) (by exact Nat.le_of_ble_eq_true rfl) (ret_tree ?_); (intro r9 vs9 m9 d9 tl9 h9 tk9 F9 N9 up9 pp9 nd9 cn9; (try simp only [List.cons_append] at N9); (try k_sweep); (try dsimp only); (try k_fold))) | (refine' spec_use (f := 412) (by k_asm) (by k_asm) (by k_asm) (Pick.of (by k_asm) (by k_mem)) (by k_asm) (by first | exact rfl | with_reducible assumption) (Trees.use (trees _ _ 3) (by exact rfl) (by with_reducible assumption) (by k_all)) (by exact Nat.le_of_ble_eq_true rfl) (by exact Nat.le_of_ble_eq_true rfl) (ret_tree ?_); (intro r9 vs9 m9 d9 tl9 h9 tk9 F9 N9 up9 pp9 nd9 cn9; (try simp only [List.cons_append] at N9); (try k_sweep); (try dsimp only); (try k_fold)))))) | ((with_reducible show wpAny _ _ (call (Value.builtin "isinstance") _) _ _ _); first | with_reducible (k_here; (with_reducible show wpAny _ _ (call _ [Value.ref _, Value.ref _]) _ _ _); k_dflt (refine' isi_call (by k_in) (by k_types) (by k_is) (by intro e; cases e) ?_; k_whole))) | ((with_reducible show wpAny _ _ (binaryOp Operator.Mult (Value.ref _) (Value.int _ _)) _ _ _); first | with_reducible (k_here; (with_reducible show wpAny _ _ (binaryOp Operator.Mult (Value.ref _) (Value.int 3 _)) _ _ _); k_dflt (refine' mul3 (by k_asm) (by k_asm) (by k_mem) ?_); intro D' h' F' N' l1; (try k_lt l1); (try k_sweep))) | ((with_reducible show wpAny _ _ (exec (Stmt.If _ _ _ _) _) _ _ _); first | with_reducible (k_here; refine wpAny_If ?_)) | ((with_reducible show LCg.CompEnd _ _ _ _ _ _ _ _ _ _ _ _ _ _); first | with_reducible (k_here; k_dflt (refine' compEnd_same (by k_asm) (by k_asm) (by exact (by with_reducible assumption : (_ ≠ _ ∧ _ ≠ _ ∧ _ ≠ _) ∧ _)) (by exact Or.inr ⟨_, by k_mem, rfl, _, rfl⟩) ?_)) | (k_here; k_dflt (refine' compEnd_same (by k_asm) (by k_asm) (by exact (by with_reducible assumption : (_ ≠ _ ∧ _ ≠ _ ∧ _ ≠ _) ∧ _)) (by exact Or.inr ⟨_, by k_mem, rfl, _, rfl⟩) ?_))) | ((with_reducible show LCt.CompSrcT _ _ _ _ _ _ _ _ _ _ _ _ _ _ _); first | with_reducible (k_here; k_dflt (refine' LCt.CompSrcT.ledger rfl (by k_asm) (by k_asm) (by k_mem) (by exact Nat.le_of_ble_eq_true rfl) ?_); intro g9)) | ((with_reducible show wpAny _ _ (eval (Expr.ListComp _ _ _ _) _) _ _ _); first | with_reducible (k_here; k_dflt (refine LCt.ListComp_T (F₀ := by k_asm) (by with_unfolding_all rfl) (by decide) (by rfl) (by decide) (by rfl) ?_))) | ((with_reducible show wpAny _ _ (subscriptTail _ _ _ _) _ _ _); first | with_reducible (k_here; (with_reducible show wpAny _ _ (subscriptTail _ _ (Value.ref _) (Value.int _ _)) _ _ _); (fail_if_success (with_reducible show wpAny _ _ (subscriptTail _ _ (Value.ref _) (Value.int 0 _)) _ _ _)); k_dflt (refine' menu3 (by k_asm) (by k_mem) (by with_reducible assumption) (by with_reducible assumption) ?_); intro v9 pv9) | with_reducible (k_here; (with_reducible show wpAny _ _ (subscriptTail _ _ (Value.ref _) (Value.int 0 _)) _ _ _); k_dflt (refine' item0_N (by k_asm) (by k_mem) ?_)) | with_reducible (k_here; (with_reducible show wpAny _ _ (subscriptTail _ _ (Value.ref _) (Value.str _ _)) _ _ _); k_dflt (refine' kda_item (knd := PySem.strKind _ _) (by k_asm) (by k_mem) (by with_reducible assumption) (strKind_is _ _ _ _) (by exact val_hd) ?_))) | ((with_reducible show wpAny _ _ (call (Value.builtin "len") _) _ _ _); first | with_reducible (k_here; (with_reducible show wpAny _ _ (call (Value.builtin "len") [Value.ref _]) _ _ _); k_dflt (refine' len_N (by k_asm) (by k_mem) (by omega) ?_))) | ((with_reducible show wpAny _ _ (compareOp CmpOp.NotEq _ _) _ _ _); first | with_reducible (k_here; k_dflt (refine' ne_told (by k_asm) (by with_reducible assumption) (by ktd_sub) (by with_reducible assumption) (by ktd_sub) (ok_node 4 _) (by decide) (by exact Nat.le_of_ble_eq_true rfl) ?_))) | ((with_reducible show LawEnd _ _ _); first | with_reducible (k_here; refine Stop.out ?_)) | ((with_reducible show LawCut _ _ _ _ _ _); first | with_reducible (k_here; refine Stop.out ?_)) | walk1 | (dsimp only; walk1))
    unfold Stop
    exact ⟨_, _, rfl, P, t, d, d1, b, _, _, wh, LawP.intro (by k_asm) (by k_asm) (by k_mem) hp0 fun base' hk => have hs := keep_P hk (by ktd_sub) (Off2.snd ho0); ⟨ht0.mono hs, hb0.mono hs⟩⟩
  clear F0 N0 hp0 ho0 hTP ht0 hb0 hS0 hT0 hw0
  intro h9 tk9 c9
  obtain ⟨P, t, d, d1, b, sv, r, wh, pv, pn, base, F0, N0, hp0, ho0, ht0, hb0⟩ := c9
  with_reducible refine cut_lawR ((Law9 w) s₁.heap s₁.heap.objs.size m0) ?_ ?_
  · skip
    clear vG vY vMX vLA vGL vTB vTE vTW vBM vhcd vDf vra vwl vr0 vrw
    repeat' (first | (k_unfold; (try dsimp only)) | ((with_reducible show wpAny _ _ (call (Value.ref _) _) _ _ _); first | with_reducible (k_here; (with_reducible show wpAny _ _ (call (Value.ref 363) []) _ _ _); k_dflt ( refine' spec_use (f := 363) (by k_asm) (by k_asm) (by k_asm) (by k_asm) (by k_asm) (by first | exact rfl | with_reducible assumption) (shelf_new0 _ _) (by exact Nat.le_of_ble_eq_true rfl) (by exact Nat.le_of_ble_eq_true rfl) (ret_shelf0 ?_); (intro x9 d9 a9 c9 m9 t9 o9 q9 u9 h9 tk9 F9 N9 b9 i9 l9 k9 v9 w9 y9 z9 f9 g9 j9; (try k_lt l9); (try k_lt2 k9); (try k_lt2 v9); (try k_lt2 w9); (try k_lt2 z9); (try k_lt2 f9); (try k_lt2 g9); (try k_lt y9); (try k_lt j9); (try k_sweep); (try dsimp only); (try k_fold)))) | with_reducible (k_here; (with_reducible show wpAny _ _ (call (Value.ref 363) [Value.ref _, Value.ref _]) _ _ _); k_dflt ( refine' spec_use (f := 363) (by k_asm) (by k_asm) (by k_asm) (by k_asm) (by k_asm) (by first | exact rfl | with_reducible assumption) (shelf_new _ _ _ _) (by exact Nat.le_of_ble_eq_true rfl) (by exact Nat.le_of_ble_eq_true rfl) (ret_obj ?_); (intro x9 d9 a9 c9 m9 h9 tk9 F9 N9 l9 k9; (try k_lt l9); (try k_lt2 k9); (try k_sweep); (try dsimp only); (try k_fold)))) | with_reducible (k_here; (with_reducible show wpAny _ _ (call (Value.ref 254) [Value.int _ _, Value.int _ _]) _ _ _); k_dflt ( refine' spec_use (f := 254) (by k_asm) (by k_asm) (by k_asm) (by k_asm) (by k_asm) (by first | exact rfl | with_reducible assumption) (ref_new _ _ _ _ _ _) (by exact Nat.le_of_ble_eq_true rfl) (by exact Nat.le_of_ble_eq_true rfl) (ret_obj ?_); (intro x9 d9 a9 c9 m9 h9 tk9 F9 N9 l9 k9; (try k_lt l9); (try k_lt2 k9); (try k_sweep); (try dsimp only); (try k_fold)))) | with_reducible (k_here; (with_reducible show wpAny _ _ (call (Value.ref 429) _) _ _ _); k_dflt ( refine' spec_useT (f := 429) (by k_asm) (by k_asm) (by k_asm) (by k_asm) (by k_asm) (by first | exact rfl | with_reducible assumption) (refused _ _ _ _ _ (Refuse.flip (by k_mem) (by k_mem) (by with_reducible assumption) (by ktd_sub))) (by exact Nat.le_of_ble_eq_true rfl) (by exact Nat.le_of_ble_eq_true rfl) (ret_same ?_); (intro h9 tk9 F9 N9; (try k_sweep); (try dsimp only); (try k_fold)))) | with_reducible (k_here; (with_reducible show wpAny _ _ (call (Value.ref 407) _) _ _ _); k_dflt ( refine' spec_use (f := 407) (by k_asm) (by k_asm) (by k_asm) (Pick.of (by k_asm) (by k_mem)) (by k_asm) (by first | exact rfl | with_reducible assumption) (take_any _ _ _ _ (by with_reducible assumption) _ _ _ (by k_all) (by decide)) (by exact Nat.le_of_ble_eq_true rfl) (by exact Nat.le_of_ble_eq_true rfl) (ret_take ?_); (intro d9 t9 vs9 k9 h9 tk9 F9 N9 lo9 hi9 po9; (try k_sweep); (try dsimp only); (try k_fold)))) | with_reducible (k_here; (with_reducible show wpAny _ _ (call (Value.ref 334) _) _ _ _); k_dflt ( refine' spec_use (f := 334) (by k_asm) (by k_asm) (by k_asm) (by k_asm) (by k_asm) (by first | exact rfl | with_reducible assumption) (add_pick (by with_reducible assumption) (by k_mem) (by k_all) (by with_reducible assumption) (by first | omega | (simp only [List.length_append, List.length_cons, List.length_nil]; omega)) (by k_mem) (by k_mem)) (by exact Nat.le_of_ble_eq_true rfl) (by exact Nat.le_of_ble_eq_true rfl) (ret_add ?_); (intro r9 o9 tl9 t9 tt9 m9 h9 tk9 F9 N9 up9' tb9 mem9 ref9; have up9 := up9'.apart; (try simp only [List.cons_append] at N9); (try k_sweep); (try dsimp only); (try k_fold)))) | with_reducible (k_here; (with_reducible show wpAny _ _ (call (Value.ref 422) _) _ _ _); k_dflt ( refine' spec_use (f := 422) (by k_asm) (by k_asm) (by k_asm) (by k_asm) (by k_asm) (by first | exact rfl | with_reducible assumption) (Hangs.use (by with_reducible assumption) (by ktd_sub) (by with_reducible assumption) (by with_reducible assumption) (by with_reducible assumption) (by (first | omega | (simp only [List.length_nil]; omega)))) (by exact Nat.le_of_ble_eq_true rfl) (by exact Nat.le_of_ble_eq_true rfl) (ret_hung ?_); (intro r9 o9 vs9 m9 tl9 more9 h9 tk9 F9 N9 pp9 up9 tb9 lm9 st9; (try simp only [List.cons_append] at N9); (try k_sweep); (try dsimp only); (try k_fold)))) | with_reducible (k_here; (with_reducible show wpAny _ _ (call (Value.ref 400) _) _ _ _); k_dflt ( refine' spec_use (f := 400) (by k_asm) (by k_asm) (by k_asm) (by k_asm) (by k_asm) (by first | exact rfl | with_reducible assumption) (GathN.use (by with_reducible assumption) (by ktd_sub)) (by exact Nat.le_of_ble_eq_true rfl) (by exact Nat.le_of_ble_eq_true rfl) (ret_made ?_); (intro r9 tl9 h9 tk9 F9 N9 up9 nd9; have tn9 := tells_node 4 nd9; (try simp only [List.cons_append] at nd9 tn9); (try simp only [List.cons_append] at N9); (try k_sweep); (try dsimp only); (try k_fold)))) | with_reducible (k_here; (with_reducible show wpAny _ _ (call (Value.ref 417) _) _ _ _); k_dflt ( refine' spec_use (f := 417) (by k_asm) (by k_asm) (by k_asm) (by k_asm) (by k_asm) (by first | exact rfl | with_reducible assumption) (Counts.use (by with_reducible assumption) (by ktd_sub)) (by exact Nat.le_of_ble_eq_true rfl) (by exact Nat.le_of_ble_eq_true rfl) (ret_int ?_); (intro t9 tl9 h9 tk9 F9 N9 up9; (try simp only [List.cons_append] at N9); (try k_sweep); (try dsimp only); (try k_fold)))) | with_reducible (k_here; (with_reducible show wpAny _ _ (call (Value.ref 348) _) _ _ _); k_dflt ( refine' spec_use (f := 348) (by k_asm) (by k_asm) (by k_asm) (by k_asm) (by k_asm) (by first | exact rfl | with_reducible assumption) (numbers_use (by k_mem) (by k_mem) (by k_mem) (by with_reducible assumption) (by with_reducible assumption) (by omega)) (by exact Nat.le_of_ble_eq_true rfl) (by exact Nat.le_of_ble_eq_true rfl) (ret_nums ?_); (intro b9 vs9 m9 tl9 h9 tk9 F9 N9 up9 mb9 ln9; (try simp only [List.cons_append] at N9); (try k_sweep); (try dsimp only); (try k_fold)))) | with_reducible (k_here; (with_reducible show wpAny _ _ (call (Value.ref 391) _) _ _ _); k_dflt ( refine' spec_use (f := 391) (by k_asm) (by k_asm) (by k_asm) (by k_asm) (by k_asm) (by first | exact rfl | with_reducible assumption) (Lays.use (by with_reducible assumption) (by ktd_sub) (by with_reducible assumption) (by with_reducible assumption) (by (simp only [List.length_nil]; omega))) (by exact Nat.le_of_ble_eq_true rfl) (by exact Nat.le_of_ble_eq_true rfl) (ret_laid ?_); (intro r9 o9 tl9 m9 h9 tk9 F9 N9 up9 t9 c9 st9 kr9; (try simp only [List.cons_append] at N9); (try k_sweep); (try dsimp only); (try k_fold)))) | with_reducible (k_here; (with_reducible show wpAny _ _ (call (Value.ref 277) _) _ _ _); k_dflt ( refine' spec_use (f := 277) (by k_asm) (by k_asm) (by k_asm) (by k_asm) (by k_asm) (by first | exact rfl | with_reducible assumption) (Tells.use (by with_reducible assumption) (by ktd_sub)) (by exact Nat.le_of_ble_eq_true rfl) (by exact Nat.le_of_ble_eq_true rfl) (ret_made ?_); (intro r9 tl9 h9 tk9 F9 N9 up9 td9; (try simp only [List.cons_append] at N9); (try k_sweep); (try dsimp only); (try k_fold)))) | with_reducible (k_here; (with_reducible show wpAny _ _ (call (Value.ref 277) _) _ _ _); k_dflt ( refine' spec_use (f := 277) (by k_asm) (by k_asm) (by k_asm) (by k_asm) (by k_asm) (by first | exact rfl | with_reducible assumption) (Tells.flip (by exact sub_refl _) (by exact tells_node 4 (tri_of' (by with_reducible assumption) (by k_mem) (by with_reducible assumption) (by with_reducible assumption) (by k_mem) (by with_reducible assumption) (by ktd_sub)))) (by exact Nat.le_of_ble_eq_true rfl) (by exact Nat.le_of_ble_eq_true rfl) (ret_made ?_); (intro r9 tl9 h9 tk9 F9 N9 up9 td9; (try simp only [List.cons_append] at N9); (try k_sweep); (try dsimp only); (try k_fold)))) | with_reducible (k_here; (with_reducible show wpAny _ _ (call (Value.ref 412) _) _ _ _); k_dflt (first | (refine' spec_use (f := 412) (by k_asm) (by k_asm) (by k_asm) (Pick.of (by k_asm) (by k_mem)) (by k_asm) (by first | exact rfl | with_reducible assumption) (Trees.use (trees _ _ 2) (by exact rfl) (by with_reducible assumption) (by k_all)) (by exact Nat.le_of_ble_eq_true rfl) (by exact Nat.le_of_ble_eq_true rfl) (ret_tree ?_); (intro r9 vs9 m9 d9 tl9 h9 tk9 F9 N9 up9 pp9 nd9 cn9; (try simp only [List.cons_append] at N9); (try k_sweep); (try dsimp only); (try k_fold))) | (refine' spec_use (f := 412) (by k_asm) (by k_asm) (by k_asm) (Pick.of (by k_asm) (by k_mem)) (by k_asm) (by first | exact rfl | with_reducible assumption) (Trees.use (trees _ _ 3) (by exact rfl) (by with_reducible assumption) (by k_all)) (by exact Nat.le_of_ble_eq_true rfl) (by exact Nat.le_of_ble_eq_true rfl) (ret_tree ?_); (intro r9 vs9 m9 d9 tl9 h9 tk9 F9 N9 up9 pp9 nd9 cn9; (try simp only [List.cons_append] at N9); (try k_sweep); (try dsimp only); (try k_fold)))))) | ((with_reducible show wpAny _ _ (call (Value.builtin "isinstance") _) _ _ _); first | with_reducible (k_here; (with_reducible show wpAny _ _ (call _ [Value.ref _, Value.ref _]) _ _ _); k_dflt (refine' isi_call (by k_in) (by k_types) (by k_is) (by intro e; cases e) ?_; k_whole))) | ((with_reducible show wpAny _ _ (binaryOp Operator.Mult (Value.ref _) (Value.int _ _)) _ _ _); first | with_reducible (k_here; (with_reducible show wpAny _ _ (binaryOp Operator.Mult (Value.ref _) (Value.int 3 _)) _ _ _); k_dflt (refine' mul3 (by k_asm) (by k_asm) (by k_mem) ?_); intro D' h' F' N' l1; (try k_lt l1); (try k_sweep))) | ((with_reducible show wpAny _ _ (exec (Stmt.If _ _ _ _) _) _ _ _); first | with_reducible (k_here; refine wpAny_If ?_)) | ((with_reducible show LCg.CompEnd _ _ _ _ _ _ _ _ _ _ _ _ _ _); first | with_reducible (k_here; k_dflt (refine' compEnd_same (by k_asm) (by k_asm) (by exact (by with_reducible assumption : (_ ≠ _ ∧ _ ≠ _ ∧ _ ≠ _) ∧ _)) (by exact Or.inr ⟨_, by k_mem, rfl, _, rfl⟩) ?_)) | (k_here; k_dflt (refine' compEnd_same (by k_asm) (by k_asm) (by exact (by with_reducible assumption : (_ ≠ _ ∧ _ ≠ _ ∧ _ ≠ _) ∧ _)) (by exact Or.inr ⟨_, by k_mem, rfl, _, rfl⟩) ?_))) | ((with_reducible show LCt.CompSrcT _ _ _ _ _ _ _ _ _ _ _ _ _ _ _); first | with_reducible (k_here; k_dflt (refine' LCt.CompSrcT.ledger rfl (by k_asm) (by k_asm) (by k_mem) (by exact Nat.le_of_ble_eq_true rfl) ?_); intro g9)) | ((with_reducible show wpAny _ _ (eval (Expr.ListComp _ _ _ _) _) _ _ _); first | with_reducible (k_here; k_dflt (refine LCt.ListComp_T (F₀ := by k_asm) (by with_unfolding_all rfl) (by decide) (by rfl) (by decide) (by rfl) ?_))) | ((with_reducible show wpAny _ _ (subscriptTail _ _ _ _) _ _ _); first | with_reducible (k_here; (with_reducible show wpAny _ _ (subscriptTail _ _ (Value.ref _) (Value.int _ _)) _ _ _); (fail_if_success (with_reducible show wpAny _ _ (subscriptTail _ _ (Value.ref _) (Value.int 0 _)) _ _ _)); k_dflt (refine' menu3 (by k_asm) (by k_mem) (by with_reducible assumption) (by with_reducible assumption) ?_); intro v9 pv9) | with_reducible (k_here; (with_reducible show wpAny _ _ (subscriptTail _ _ (Value.ref _) (Value.int 0 _)) _ _ _); k_dflt (refine' item0_N (by k_asm) (by k_mem) ?_)) | with_reducible (k_here; (with_reducible show wpAny _ _ (subscriptTail _ _ (Value.ref _) (Value.str _ _)) _ _ _); k_dflt (refine' kda_item (knd := PySem.strKind _ _) (by k_asm) (by k_mem) (by with_reducible assumption) (strKind_is _ _ _ _) (by exact val_hd) ?_))) | ((with_reducible show wpAny _ _ (call (Value.builtin "len") _) _ _ _); first | with_reducible (k_here; (with_reducible show wpAny _ _ (call (Value.builtin "len") [Value.ref _]) _ _ _); k_dflt (refine' len_N (by k_asm) (by k_mem) (by omega) ?_))) | ((with_reducible show wpAny _ _ (compareOp CmpOp.NotEq _ _) _ _ _); first | with_reducible (k_here; k_dflt (refine' ne_told (by k_asm) (by with_reducible assumption) (by ktd_sub) (by with_reducible assumption) (by ktd_sub) (ok_node 4 _) (by decide) (by exact Nat.le_of_ble_eq_true rfl) ?_))) | ((with_reducible show LawEnd _ _ _); first | with_reducible (k_here; refine Stop.out ?_)) | ((with_reducible show LawCut _ _ _ _ _ _); first | with_reducible (k_here; refine Stop.out ?_)) | walk1 | (dsimp only; walk1))
    unfold Stop
    exact ⟨_, _, rfl, law9_intro (by k_asm) (by k_asm) (by k_mem) (by k_mem) (by k_mem) (by with_reducible assumption) (by with_reducible assumption) (by k_mem) hp0 (by omega) (by omega) (by omega) (by omega) (by omega) ht0 hb0 (by ktd_sub) (by ktn_ord) ho0⟩
  clear F0 N0 hp0 ho0 ht0 hb0
  intro h9 tk9 c9
  obtain ⟨P, t, d, d1, b, S, T, sv, r, wh, oT, pv, pn, base, F0, N0, hp0, ho0, hTP, ht0, hb0, hS0, hT0⟩ := c9
  with_reducible refine cut_lawR ((Law10 w) s₁.heap s₁.heap.objs.size m0) ?_ ?_
  · skip
    clear vG vY vMX vLA vGL vTB vTE vTW vBM vhcd vDf vra vwl vr0 vrw
    have hc := ht0.2.1
    have C := hung_any hS0 hTP 4 (.ref t) d ht0.1
    repeat' (first | (k_unfold; (try dsimp only)) | ((with_reducible show wpAny _ _ (call (Value.ref _) _) _ _ _); first | with_reducible (k_here; (with_reducible show wpAny _ _ (call (Value.ref 363) []) _ _ _); k_dflt ( refine' spec_use (f := 363) (by k_asm) (by k_asm) (by k_asm) (by k_asm) (by k_asm) (by first | exact rfl | with_reducible assumption) (shelf_new0 _ _) (by exact Nat.le_of_ble_eq_true rfl) (by exact Nat.le_of_ble_eq_true rfl) (ret_shelf0 ?_); (intro x9 d9 a9 c9 m9 t9 o9 q9 u9 h9 tk9 F9 N9 b9 i9 l9 k9 v9 w9 y9 z9 f9 g9 j9; (try k_lt l9); (try k_lt2 k9); (try k_lt2 v9); (try k_lt2 w9); (try k_lt2 z9); (try k_lt2 f9); (try k_lt2 g9); (try k_lt y9); (try k_lt j9); (try k_sweep); (try dsimp only); (try k_fold)))) | with_reducible (k_here; (with_reducible show wpAny _ _ (call (Value.ref 363) [Value.ref _, Value.ref _]) _ _ _); k_dflt ( refine' spec_use (f := 363) (by k_asm) (by k_asm) (by k_asm) (by k_asm) (by k_asm) (by first | exact rfl | with_reducible assumption) (shelf_new _ _ _ _) (by exact Nat.le_of_ble_eq_true rfl) (by exact Nat.le_of_ble_eq_true rfl) (ret_obj ?_); (intro x9 d9 a9 c9 m9 h9 tk9 F9 N9 l9 k9; (try k_lt l9); (try k_lt2 k9); (try k_sweep); (try dsimp only); (try k_fold)))) | with_reducible (k_here; (with_reducible show wpAny _ _ (call (Value.ref 254) [Value.int _ _, Value.int _ _]) _ _ _); k_dflt ( refine' spec_use (f := 254) (by k_asm) (by k_asm) (by k_asm) (by k_asm) (by k_asm) (by first | exact rfl | with_reducible assumption) (ref_new _ _ _ _ _ _) (by exact Nat.le_of_ble_eq_true rfl) (by exact Nat.le_of_ble_eq_true rfl) (ret_obj ?_); (intro x9 d9 a9 c9 m9 h9 tk9 F9 N9 l9 k9; (try k_lt l9); (try k_lt2 k9); (try k_sweep); (try dsimp only); (try k_fold)))) | with_reducible (k_here; (with_reducible show wpAny _ _ (call (Value.ref 429) _) _ _ _); k_dflt ( refine' spec_useT (f := 429) (by k_asm) (by k_asm) (by k_asm) (by k_asm) (by k_asm) (by first | exact rfl | with_reducible assumption) (refused _ _ _ _ _ (Refuse.flip (by k_mem) (by k_mem) (by with_reducible assumption) (by ktd_sub))) (by exact Nat.le_of_ble_eq_true rfl) (by exact Nat.le_of_ble_eq_true rfl) (ret_same ?_); (intro h9 tk9 F9 N9; (try k_sweep); (try dsimp only); (try k_fold)))) | with_reducible (k_here; (with_reducible show wpAny _ _ (call (Value.ref 407) _) _ _ _); k_dflt ( refine' spec_use (f := 407) (by k_asm) (by k_asm) (by k_asm) (Pick.of (by k_asm) (by k_mem)) (by k_asm) (by first | exact rfl | with_reducible assumption) (take_any _ _ _ _ (by with_reducible assumption) _ _ _ (by k_all) (by decide)) (by exact Nat.le_of_ble_eq_true rfl) (by exact Nat.le_of_ble_eq_true rfl) (ret_take ?_); (intro d9 t9 vs9 k9 h9 tk9 F9 N9 lo9 hi9 po9; (try k_sweep); (try dsimp only); (try k_fold)))) | with_reducible (k_here; (with_reducible show wpAny _ _ (call (Value.ref 334) _) _ _ _); k_dflt ( refine' spec_use (f := 334) (by k_asm) (by k_asm) (by k_asm) (by k_asm) (by k_asm) (by first | exact rfl | with_reducible assumption) (add_pick (by with_reducible assumption) (by k_mem) (by k_all) (by with_reducible assumption) (by first | omega | (simp only [List.length_append, List.length_cons, List.length_nil]; omega)) (by k_mem) (by k_mem)) (by exact Nat.le_of_ble_eq_true rfl) (by exact Nat.le_of_ble_eq_true rfl) (ret_add ?_); (intro r9 o9 tl9 t9 tt9 m9 h9 tk9 F9 N9 up9' tb9 mem9 ref9; have up9 := up9'.apart; (try simp only [List.cons_append] at N9); (try k_sweep); (try dsimp only); (try k_fold)))) | with_reducible (k_here; (with_reducible show wpAny _ _ (call (Value.ref 422) _) _ _ _); k_dflt ( refine' spec_use (f := 422) (by k_asm) (by k_asm) (by k_asm) (by k_asm) (by k_asm) (by first | exact rfl | with_reducible assumption) (Hangs.use (by with_reducible assumption) (by ktd_sub) (by with_reducible assumption) (by with_reducible assumption) (by with_reducible assumption) (by (first | omega | (simp only [List.length_nil]; omega)))) (by exact Nat.le_of_ble_eq_true rfl) (by exact Nat.le_of_ble_eq_true rfl) (ret_hung ?_); (intro r9 o9 vs9 m9 tl9 more9 h9 tk9 F9 N9 pp9 up9 tb9 lm9 st9; (try simp only [List.cons_append] at N9); (try k_sweep); (try dsimp only); (try k_fold)))) | with_reducible (k_here; (with_reducible show wpAny _ _ (call (Value.ref 400) _) _ _ _); k_dflt ( refine' spec_use (f := 400) (by k_asm) (by k_asm) (by k_asm) (by k_asm) (by k_asm) (by first | exact rfl | with_reducible assumption) (GathN.use (by with_reducible assumption) (by ktd_sub)) (by exact Nat.le_of_ble_eq_true rfl) (by exact Nat.le_of_ble_eq_true rfl) (ret_made ?_); (intro r9 tl9 h9 tk9 F9 N9 up9 nd9; have tn9 := tells_node 4 nd9; (try simp only [List.cons_append] at nd9 tn9); (try simp only [List.cons_append] at N9); (try k_sweep); (try dsimp only); (try k_fold)))) | with_reducible (k_here; (with_reducible show wpAny _ _ (call (Value.ref 417) _) _ _ _); k_dflt ( refine' spec_use (f := 417) (by k_asm) (by k_asm) (by k_asm) (by k_asm) (by k_asm) (by first | exact rfl | with_reducible assumption) (Counts.use (by with_reducible assumption) (by ktd_sub)) (by exact Nat.le_of_ble_eq_true rfl) (by exact Nat.le_of_ble_eq_true rfl) (ret_int ?_); (intro t9 tl9 h9 tk9 F9 N9 up9; (try simp only [List.cons_append] at N9); (try k_sweep); (try dsimp only); (try k_fold)))) | with_reducible (k_here; (with_reducible show wpAny _ _ (call (Value.ref 348) _) _ _ _); k_dflt ( refine' spec_use (f := 348) (by k_asm) (by k_asm) (by k_asm) (by k_asm) (by k_asm) (by first | exact rfl | with_reducible assumption) (numbers_use (by k_mem) (by k_mem) (by k_mem) (by with_reducible assumption) (by with_reducible assumption) (by omega)) (by exact Nat.le_of_ble_eq_true rfl) (by exact Nat.le_of_ble_eq_true rfl) (ret_nums ?_); (intro b9 vs9 m9 tl9 h9 tk9 F9 N9 up9 mb9 ln9; (try simp only [List.cons_append] at N9); (try k_sweep); (try dsimp only); (try k_fold)))) | with_reducible (k_here; (with_reducible show wpAny _ _ (call (Value.ref 391) _) _ _ _); k_dflt ( refine' spec_use (f := 391) (by k_asm) (by k_asm) (by k_asm) (by k_asm) (by k_asm) (by first | exact rfl | with_reducible assumption) (Lays.use (by with_reducible assumption) (by ktd_sub) (by with_reducible assumption) (by with_reducible assumption) (by (simp only [List.length_nil]; omega))) (by exact Nat.le_of_ble_eq_true rfl) (by exact Nat.le_of_ble_eq_true rfl) (ret_laid ?_); (intro r9 o9 tl9 m9 h9 tk9 F9 N9 up9 t9 c9 st9 kr9; (try simp only [List.cons_append] at N9); (try k_sweep); (try dsimp only); (try k_fold)))) | with_reducible (k_here; (with_reducible show wpAny _ _ (call (Value.ref 277) _) _ _ _); k_dflt ( refine' spec_use (f := 277) (by k_asm) (by k_asm) (by k_asm) (by k_asm) (by k_asm) (by first | exact rfl | with_reducible assumption) (Tells.use (by with_reducible assumption) (by ktd_sub)) (by exact Nat.le_of_ble_eq_true rfl) (by exact Nat.le_of_ble_eq_true rfl) (ret_made ?_); (intro r9 tl9 h9 tk9 F9 N9 up9 td9; (try simp only [List.cons_append] at N9); (try k_sweep); (try dsimp only); (try k_fold)))) | with_reducible (k_here; (with_reducible show wpAny _ _ (call (Value.ref 277) _) _ _ _); k_dflt ( refine' spec_use (f := 277) (by k_asm) (by k_asm) (by k_asm) (by k_asm) (by k_asm) (by first | exact rfl | with_reducible assumption) (Tells.flip (by exact sub_refl _) (by exact tells_node 4 (tri_of' (by with_reducible assumption) (by k_mem) (by with_reducible assumption) (by with_reducible assumption) (by k_mem) (by with_reducible assumption) (by ktd_sub)))) (by exact Nat.le_of_ble_eq_true rfl) (by exact Nat.le_of_ble_eq_true rfl) (ret_made ?_); (intro r9 tl9 h9 tk9 F9 N9 up9 td9; (try simp only [List.cons_append] at N9); (try k_sweep); (try dsimp only); (try k_fold)))) | with_reducible (k_here; (with_reducible show wpAny _ _ (call (Value.ref 412) _) _ _ _); k_dflt (first | (refine' spec_use (f := 412) (by k_asm) (by k_asm) (by k_asm) (Pick.of (by k_asm) (by k_mem)) (by k_asm) (by first | exact rfl | with_reducible assumption) (Trees.use (trees _ _ 2) (by exact rfl) (by with_reducible assumption) (by k_all)) (by exact Nat.le_of_ble_eq_true rfl) (by exact Nat.le_of_ble_eq_true rfl) (ret_tree ?_); (intro r9 vs9 m9 d9 tl9 h9 tk9 F9 N9 up9 pp9 nd9 cn9; (try simp only [List.cons_append] at N9); (try k_sweep); (try dsimp only); (try k_fold))) | (refine' spec_use (f := 412) (by k_asm) (by k_asm) (by k_asm) (Pick.of (by k_asm) (by k_mem)) (by k_asm) (by first | exact rfl | with_reducible assumption) (Trees.use (trees _ _ 3) (by exact rfl) (by with_reducible assumption) (by k_all)) (by exact Nat.le_of_ble_eq_true rfl) (by exact Nat.le_of_ble_eq_true rfl) (ret_tree ?_); (intro r9 vs9 m9 d9 tl9 h9 tk9 F9 N9 up9 pp9 nd9 cn9; (try simp only [List.cons_append] at N9); (try k_sweep); (try dsimp only); (try k_fold)))))) | ((with_reducible show wpAny _ _ (call (Value.builtin "isinstance") _) _ _ _); first | with_reducible (k_here; (with_reducible show wpAny _ _ (call _ [Value.ref _, Value.ref _]) _ _ _); k_dflt (refine' isi_call (by k_in) (by k_types) (by k_is) (by intro e; cases e) ?_; k_whole))) | ((with_reducible show wpAny _ _ (binaryOp Operator.Mult (Value.ref _) (Value.int _ _)) _ _ _); first | with_reducible (k_here; (with_reducible show wpAny _ _ (binaryOp Operator.Mult (Value.ref _) (Value.int 3 _)) _ _ _); k_dflt (refine' mul3 (by k_asm) (by k_asm) (by k_mem) ?_); intro D' h' F' N' l1; (try k_lt l1); (try k_sweep))) | ((with_reducible show wpAny _ _ (exec (Stmt.If _ _ _ _) _) _ _ _); first | with_reducible (k_here; refine wpAny_If ?_)) | ((with_reducible show LCg.CompEnd _ _ _ _ _ _ _ _ _ _ _ _ _ _); first | with_reducible (k_here; k_dflt (refine' compEnd_same (by k_asm) (by k_asm) (by exact (by with_reducible assumption : (_ ≠ _ ∧ _ ≠ _ ∧ _ ≠ _) ∧ _)) (by exact Or.inr ⟨_, by k_mem, rfl, _, rfl⟩) ?_)) | (k_here; k_dflt (refine' compEnd_same (by k_asm) (by k_asm) (by exact (by with_reducible assumption : (_ ≠ _ ∧ _ ≠ _ ∧ _ ≠ _) ∧ _)) (by exact Or.inr ⟨_, by k_mem, rfl, _, rfl⟩) ?_))) | ((with_reducible show LCt.CompSrcT _ _ _ _ _ _ _ _ _ _ _ _ _ _ _); first | with_reducible (k_here; k_dflt (refine' LCt.CompSrcT.ledger rfl (by k_asm) (by k_asm) (by k_mem) (by exact Nat.le_of_ble_eq_true rfl) ?_); intro g9)) | ((with_reducible show wpAny _ _ (eval (Expr.ListComp _ _ _ _) _) _ _ _); first | with_reducible (k_here; k_dflt (refine LCt.ListComp_T (F₀ := by k_asm) (by with_unfolding_all rfl) (by decide) (by rfl) (by decide) (by rfl) ?_))) | ((with_reducible show wpAny _ _ (subscriptTail _ _ _ _) _ _ _); first | with_reducible (k_here; (with_reducible show wpAny _ _ (subscriptTail _ _ (Value.ref _) (Value.int _ _)) _ _ _); (fail_if_success (with_reducible show wpAny _ _ (subscriptTail _ _ (Value.ref _) (Value.int 0 _)) _ _ _)); k_dflt (refine' menu3 (by k_asm) (by k_mem) (by with_reducible assumption) (by with_reducible assumption) ?_); intro v9 pv9) | with_reducible (k_here; (with_reducible show wpAny _ _ (subscriptTail _ _ (Value.ref _) (Value.int 0 _)) _ _ _); k_dflt (refine' item0_N (by k_asm) (by k_mem) ?_)) | with_reducible (k_here; (with_reducible show wpAny _ _ (subscriptTail _ _ (Value.ref _) (Value.str _ _)) _ _ _); k_dflt (refine' kda_item (knd := PySem.strKind _ _) (by k_asm) (by k_mem) (by with_reducible assumption) (strKind_is _ _ _ _) (by exact val_hd) ?_))) | ((with_reducible show wpAny _ _ (call (Value.builtin "len") _) _ _ _); first | with_reducible (k_here; (with_reducible show wpAny _ _ (call (Value.builtin "len") [Value.ref _]) _ _ _); k_dflt (refine' len_N (by k_asm) (by k_mem) (by omega) ?_))) | ((with_reducible show wpAny _ _ (compareOp CmpOp.NotEq _ _) _ _ _); first | with_reducible (k_here; k_dflt (refine' ne_told (by k_asm) (by with_reducible assumption) (by ktd_sub) (by with_reducible assumption) (by ktd_sub) (ok_node 4 _) (by decide) (by exact Nat.le_of_ble_eq_true rfl) ?_))) | ((with_reducible show LawEnd _ _ _); first | with_reducible (k_here; refine Stop.out ?_)) | ((with_reducible show LawCut _ _ _ _ _ _); first | with_reducible (k_here; refine Stop.out ?_)) | walk1 | (dsimp only; walk1))
    unfold Stop
    exact ⟨_, _, rfl, law10_intro (by k_asm) (by k_asm) (by k_mem) (by k_mem) (by with_reducible assumption) hTP ht0 hb0 hS0 ho0 (by with_reducible assumption) ⟨_, by k_mem⟩ ⟨_, by k_mem⟩ (by ktd_sub) (by with_reducible assumption) (by with_reducible assumption) (by with_reducible assumption)⟩
  clear F0 N0 hp0 ho0 hTP ht0 hb0 hS0 hT0
  intro h9 tk9 c9
  obtain ⟨P, t, d, d1, b, S, T, sv, r, wh, pl, oT, pv, pn, base, F0, N0, hp0, ho0, hTP, ht0, hb0, hS0, tab, hT0, hl0, hr0⟩ := c9
  with_reducible refine cut_lawR ((Law10 w) s₁.heap s₁.heap.objs.size m0) ?_ ?_
  · skip
    clear vG vY vMX vLA vGL vTB vTE vTW vBM vhcd vDf vra vwl vr0 vrw
    have G := gathN_of (N0 := (T, oT) :: (P, listOf pv.toArray pn) :: base) (by ktd_sub) hS0 (.head _) hT0 ((hr0.stands (by decide)).more (by ktd_sub)) (Int.natCast_nonneg _) ht0.inner
    repeat' (first | (k_unfold; (try dsimp only)) | ((with_reducible show wpAny _ _ (call (Value.ref _) _) _ _ _); first | with_reducible (k_here; (with_reducible show wpAny _ _ (call (Value.ref 363) []) _ _ _); k_dflt ( refine' spec_use (f := 363) (by k_asm) (by k_asm) (by k_asm) (by k_asm) (by k_asm) (by first | exact rfl | with_reducible assumption) (shelf_new0 _ _) (by exact Nat.le_of_ble_eq_true rfl) (by exact Nat.le_of_ble_eq_true rfl) (ret_shelf0 ?_); (intro x9 d9 a9 c9 m9 t9 o9 q9 u9 h9 tk9 F9 N9 b9 i9 l9 k9 v9 w9 y9 z9 f9 g9 j9; (try k_lt l9); (try k_lt2 k9); (try k_lt2 v9); (try k_lt2 w9); (try k_lt2 z9); (try k_lt2 f9); (try k_lt2 g9); (try k_lt y9); (try k_lt j9); (try k_sweep); (try dsimp only); (try k_fold)))) | with_reducible (k_here; (with_reducible show wpAny _ _ (call (Value.ref 363) [Value.ref _, Value.ref _]) _ _ _); k_dflt ( refine' spec_use (f := 363) (by k_asm) (by k_asm) (by k_asm) (by k_asm) (by k_asm) (by first | exact rfl | with_reducible assumption) (shelf_new _ _ _ _) (by exact Nat.le_of_ble_eq_true rfl) (by exact Nat.le_of_ble_eq_true rfl) (ret_obj ?_); (intro x9 d9 a9 c9 m9 h9 tk9 F9 N9 l9 k9; (try k_lt l9); (try k_lt2 k9); (try k_sweep); (try dsimp only); (try k_fold)))) | with_reducible (k_here; (with_reducible show wpAny _ _ (call (Value.ref 254) [Value.int _ _, Value.int _ _]) _ _ _); k_dflt ( refine' spec_use (f := 254) (by k_asm) (by k_asm) (by k_asm) (by k_asm) (by k_asm) (by first | exact rfl | with_reducible assumption) (ref_new _ _ _ _ _ _) (by exact Nat.le_of_ble_eq_true rfl) (by exact Nat.le_of_ble_eq_true rfl) (ret_obj ?_); (intro x9 d9 a9 c9 m9 h9 tk9 F9 N9 l9 k9; (try k_lt l9); (try k_lt2 k9); (try k_sweep); (try dsimp only); (try k_fold)))) | with_reducible (k_here; (with_reducible show wpAny _ _ (call (Value.ref 429) _) _ _ _); k_dflt ( refine' spec_useT (f := 429) (by k_asm) (by k_asm) (by k_asm) (by k_asm) (by k_asm) (by first | exact rfl | with_reducible assumption) (refused _ _ _ _ _ (Refuse.flip (by k_mem) (by k_mem) (by with_reducible assumption) (by ktd_sub))) (by exact Nat.le_of_ble_eq_true rfl) (by exact Nat.le_of_ble_eq_true rfl) (ret_same ?_); (intro h9 tk9 F9 N9; (try k_sweep); (try dsimp only); (try k_fold)))) | with_reducible (k_here; (with_reducible show wpAny _ _ (call (Value.ref 407) _) _ _ _); k_dflt ( refine' spec_use (f := 407) (by k_asm) (by k_asm) (by k_asm) (Pick.of (by k_asm) (by k_mem)) (by k_asm) (by first | exact rfl | with_reducible assumption) (take_any _ _ _ _ (by with_reducible assumption) _ _ _ (by k_all) (by decide)) (by exact Nat.le_of_ble_eq_true rfl) (by exact Nat.le_of_ble_eq_true rfl) (ret_take ?_); (intro d9 t9 vs9 k9 h9 tk9 F9 N9 lo9 hi9 po9; (try k_sweep); (try dsimp only); (try k_fold)))) | with_reducible (k_here; (with_reducible show wpAny _ _ (call (Value.ref 334) _) _ _ _); k_dflt ( refine' spec_use (f := 334) (by k_asm) (by k_asm) (by k_asm) (by k_asm) (by k_asm) (by first | exact rfl | with_reducible assumption) (add_pick (by with_reducible assumption) (by k_mem) (by k_all) (by with_reducible assumption) (by first | omega | (simp only [List.length_append, List.length_cons, List.length_nil]; omega)) (by k_mem) (by k_mem)) (by exact Nat.le_of_ble_eq_true rfl) (by exact Nat.le_of_ble_eq_true rfl) (ret_add ?_); (intro r9 o9 tl9 t9 tt9 m9 h9 tk9 F9 N9 up9' tb9 mem9 ref9; have up9 := up9'.apart; (try simp only [List.cons_append] at N9); (try k_sweep); (try dsimp only); (try k_fold)))) | with_reducible (k_here; (with_reducible show wpAny _ _ (call (Value.ref 422) _) _ _ _); k_dflt ( refine' spec_use (f := 422) (by k_asm) (by k_asm) (by k_asm) (by k_asm) (by k_asm) (by first | exact rfl | with_reducible assumption) (Hangs.use (by with_reducible assumption) (by ktd_sub) (by with_reducible assumption) (by with_reducible assumption) (by with_reducible assumption) (by (first | omega | (simp only [List.length_nil]; omega)))) (by exact Nat.le_of_ble_eq_true rfl) (by exact Nat.le_of_ble_eq_true rfl) (ret_hung ?_); (intro r9 o9 vs9 m9 tl9 more9 h9 tk9 F9 N9 pp9 up9 tb9 lm9 st9; (try simp only [List.cons_append] at N9); (try k_sweep); (try dsimp only); (try k_fold)))) | with_reducible (k_here; (with_reducible show wpAny _ _ (call (Value.ref 400) _) _ _ _); k_dflt ( refine' spec_use (f := 400) (by k_asm) (by k_asm) (by k_asm) (by k_asm) (by k_asm) (by first | exact rfl | with_reducible assumption) (GathN.use (by with_reducible assumption) (by ktd_sub)) (by exact Nat.le_of_ble_eq_true rfl) (by exact Nat.le_of_ble_eq_true rfl) (ret_made ?_); (intro r9 tl9 h9 tk9 F9 N9 up9 nd9; have tn9 := tells_node 4 nd9; (try simp only [List.cons_append] at nd9 tn9); (try simp only [List.cons_append] at N9); (try k_sweep); (try dsimp only); (try k_fold)))) | with_reducible (k_here; (with_reducible show wpAny _ _ (call (Value.ref 417) _) _ _ _); k_dflt ( refine' spec_use (f := 417) (by k_asm) (by k_asm) (by k_asm) (by k_asm) (by k_asm) (by first | exact rfl | with_reducible assumption) (Counts.use (by with_reducible assumption) (by ktd_sub)) (by exact Nat.le_of_ble_eq_true rfl) (by exact Nat.le_of_ble_eq_true rfl) (ret_int ?_); (intro t9 tl9 h9 tk9 F9 N9 up9; (try simp only [List.cons_append] at N9); (try k_sweep); (try dsimp only); (try k_fold)))) | with_reducible (k_here; (with_reducible show wpAny _ _ (call (Value.ref 348) _) _ _ _); k_dflt ( refine' spec_use (f := 348) (by k_asm) (by k_asm) (by k_asm) (by k_asm) (by k_asm) (by first | exact rfl | with_reducible assumption) (numbers_use (by k_mem) (by k_mem) (by k_mem) (by with_reducible assumption) (by with_reducible assumption) (by omega)) (by exact Nat.le_of_ble_eq_true rfl) (by exact Nat.le_of_ble_eq_true rfl) (ret_nums ?_); (intro b9 vs9 m9 tl9 h9 tk9 F9 N9 up9 mb9 ln9; (try simp only [List.cons_append] at N9); (try k_sweep); (try dsimp only); (try k_fold)))) | with_reducible (k_here; (with_reducible show wpAny _ _ (call (Value.ref 391) _) _ _ _); k_dflt ( refine' spec_use (f := 391) (by k_asm) (by k_asm) (by k_asm) (by k_asm) (by k_asm) (by first | exact rfl | with_reducible assumption) (Lays.use (by with_reducible assumption) (by ktd_sub) (by with_reducible assumption) (by with_reducible assumption) (by (simp only [List.length_nil]; omega))) (by exact Nat.le_of_ble_eq_true rfl) (by exact Nat.le_of_ble_eq_true rfl) (ret_laid ?_); (intro r9 o9 tl9 m9 h9 tk9 F9 N9 up9 t9 c9 st9 kr9; (try simp only [List.cons_append] at N9); (try k_sweep); (try dsimp only); (try k_fold)))) | with_reducible (k_here; (with_reducible show wpAny _ _ (call (Value.ref 277) _) _ _ _); k_dflt ( refine' spec_use (f := 277) (by k_asm) (by k_asm) (by k_asm) (by k_asm) (by k_asm) (by first | exact rfl | with_reducible assumption) (Tells.use (by with_reducible assumption) (by ktd_sub)) (by exact Nat.le_of_ble_eq_true rfl) (by exact Nat.le_of_ble_eq_true rfl) (ret_made ?_); (intro r9 tl9 h9 tk9 F9 N9 up9 td9; (try simp only [List.cons_append] at N9); (try k_sweep); (try dsimp only); (try k_fold)))) | with_reducible (k_here; (with_reducible show wpAny _ _ (call (Value.ref 277) _) _ _ _); k_dflt ( refine' spec_use (f := 277) (by k_asm) (by k_asm) (by k_asm) (by k_asm) (by k_asm) (by first | exact rfl | with_reducible assumption) (Tells.flip (by exact sub_refl _) (by exact tells_node 4 (tri_of' (by with_reducible assumption) (by k_mem) (by with_reducible assumption) (by with_reducible assumption) (by k_mem) (by with_reducible assumption) (by ktd_sub)))) (by exact Nat.le_of_ble_eq_true rfl) (by exact Nat.le_of_ble_eq_true rfl) (ret_made ?_); (intro r9 tl9 h9 tk9 F9 N9 up9 td9; (try simp only [List.cons_append] at N9); (try k_sweep); (try dsimp only); (try k_fold)))) | with_reducible (k_here; (with_reducible show wpAny _ _ (call (Value.ref 412) _) _ _ _); k_dflt (first | (refine' spec_use (f := 412) (by k_asm) (by k_asm) (by k_asm) (Pick.of (by k_asm) (by k_mem)) (by k_asm) (by first | exact rfl | with_reducible assumption) (Trees.use (trees _ _ 2) (by exact rfl) (by with_reducible assumption) (by k_all)) (by exact Nat.le_of_ble_eq_true rfl) (by exact Nat.le_of_ble_eq_true rfl) (ret_tree ?_); (intro r9 vs9 m9 d9 tl9 h9 tk9 F9 N9 up9 pp9 nd9 cn9; (try simp only [List.cons_append] at N9); (try k_sweep); (try dsimp only); (try k_fold))) | (refine' spec_use (f := 412) (by k_asm) (by k_asm) (by k_asm) (Pick.of (by k_asm) (by k_mem)) (by k_asm) (by first | exact rfl | with_reducible assumption) (Trees.use (trees _ _ 3) (by exact rfl) (by with_reducible assumption) (by k_all)) (by exact Nat.le_of_ble_eq_true rfl) (by exact Nat.le_of_ble_eq_true rfl) (ret_tree ?_); (intro r9 vs9 m9 d9 tl9 h9 tk9 F9 N9 up9 pp9 nd9 cn9; (try simp only [List.cons_append] at N9); (try k_sweep); (try dsimp only); (try k_fold)))))) | ((with_reducible show wpAny _ _ (call (Value.builtin "isinstance") _) _ _ _); first | with_reducible (k_here; (with_reducible show wpAny _ _ (call _ [Value.ref _, Value.ref _]) _ _ _); k_dflt (refine' isi_call (by k_in) (by k_types) (by k_is) (by intro e; cases e) ?_; k_whole))) | ((with_reducible show wpAny _ _ (binaryOp Operator.Mult (Value.ref _) (Value.int _ _)) _ _ _); first | with_reducible (k_here; (with_reducible show wpAny _ _ (binaryOp Operator.Mult (Value.ref _) (Value.int 3 _)) _ _ _); k_dflt (refine' mul3 (by k_asm) (by k_asm) (by k_mem) ?_); intro D' h' F' N' l1; (try k_lt l1); (try k_sweep))) | ((with_reducible show wpAny _ _ (exec (Stmt.If _ _ _ _) _) _ _ _); first | with_reducible (k_here; refine wpAny_If ?_)) | ((with_reducible show LCg.CompEnd _ _ _ _ _ _ _ _ _ _ _ _ _ _); first | with_reducible (k_here; k_dflt (refine' compEnd_same (by k_asm) (by k_asm) (by exact (by with_reducible assumption : (_ ≠ _ ∧ _ ≠ _ ∧ _ ≠ _) ∧ _)) (by exact Or.inr ⟨_, by k_mem, rfl, _, rfl⟩) ?_)) | (k_here; k_dflt (refine' compEnd_same (by k_asm) (by k_asm) (by exact (by with_reducible assumption : (_ ≠ _ ∧ _ ≠ _ ∧ _ ≠ _) ∧ _)) (by exact Or.inr ⟨_, by k_mem, rfl, _, rfl⟩) ?_))) | ((with_reducible show LCt.CompSrcT _ _ _ _ _ _ _ _ _ _ _ _ _ _ _); first | with_reducible (k_here; k_dflt (refine' LCt.CompSrcT.ledger rfl (by k_asm) (by k_asm) (by k_mem) (by exact Nat.le_of_ble_eq_true rfl) ?_); intro g9)) | ((with_reducible show wpAny _ _ (eval (Expr.ListComp _ _ _ _) _) _ _ _); first | with_reducible (k_here; k_dflt (refine LCt.ListComp_T (F₀ := by k_asm) (by with_unfolding_all rfl) (by decide) (by rfl) (by decide) (by rfl) ?_))) | ((with_reducible show wpAny _ _ (subscriptTail _ _ _ _) _ _ _); first | with_reducible (k_here; (with_reducible show wpAny _ _ (subscriptTail _ _ (Value.ref _) (Value.int _ _)) _ _ _); (fail_if_success (with_reducible show wpAny _ _ (subscriptTail _ _ (Value.ref _) (Value.int 0 _)) _ _ _)); k_dflt (refine' menu3 (by k_asm) (by k_mem) (by with_reducible assumption) (by with_reducible assumption) ?_); intro v9 pv9) | with_reducible (k_here; (with_reducible show wpAny _ _ (subscriptTail _ _ (Value.ref _) (Value.int 0 _)) _ _ _); k_dflt (refine' item0_N (by k_asm) (by k_mem) ?_)) | with_reducible (k_here; (with_reducible show wpAny _ _ (subscriptTail _ _ (Value.ref _) (Value.str _ _)) _ _ _); k_dflt (refine' kda_item (knd := PySem.strKind _ _) (by k_asm) (by k_mem) (by with_reducible assumption) (strKind_is _ _ _ _) (by exact val_hd) ?_))) | ((with_reducible show wpAny _ _ (call (Value.builtin "len") _) _ _ _); first | with_reducible (k_here; (with_reducible show wpAny _ _ (call (Value.builtin "len") [Value.ref _]) _ _ _); k_dflt (refine' len_N (by k_asm) (by k_mem) (by omega) ?_))) | ((with_reducible show wpAny _ _ (compareOp CmpOp.NotEq _ _) _ _ _); first | with_reducible (k_here; k_dflt (refine' ne_told (by k_asm) (by with_reducible assumption) (by ktd_sub) (by with_reducible assumption) (by ktd_sub) (ok_node 4 _) (by decide) (by exact Nat.le_of_ble_eq_true rfl) ?_))) | ((with_reducible show LawEnd _ _ _); first | with_reducible (k_here; refine Stop.out ?_)) | ((with_reducible show LawCut _ _ _ _ _ _); first | with_reducible (k_here; refine Stop.out ?_)) | walk1 | (dsimp only; walk1))
    unfold Stop
    exact ⟨_, _, rfl, P, t, d, d1, b, S, T, sv, r, wh, pl, oT, pv, pn, base, by k_asm, news_on (by k_asm) (by ktd_sub), hp0, ho0, hTP, ht0, hb0, hS0, tab, hT0, hl0, hr0⟩
  clear F0 N0 hp0 ho0 hTP ht0 hb0 hS0 hT0 hl0 hr0
  intro h9 tk9 c9
  obtain ⟨P, t, d, d1, b, S, T, sv, r, wh, pl, oT, pv, pn, base, F0, N0, hp0, ho0, hTP, ht0, hb0, hS0, tab, hT0, hl0, hr0⟩ := c9
  with_reducible refine cut_lawR ((Law12 w) s₁.heap s₁.heap.objs.size m0) ?_ ?_
  · skip
    clear vG vY vMX vLA vGL vTB vTE vTW vBM vhcd vDf vra vwl vr0 vrw
    have hc := ht0.2.2.1
    obtain ⟨-, -, -, -, b', v1, v2, v3, v4, m', ⟨o, ho, lo, hdd⟩, hb', hv1⟩ := id ht0
    have C := hung_any hS0 hTP 3 v1 d1 hv1
    repeat' (first | (k_unfold; (try dsimp only)) | ((with_reducible show wpAny _ _ (call (Value.ref _) _) _ _ _); first | with_reducible (k_here; (with_reducible show wpAny _ _ (call (Value.ref 363) []) _ _ _); k_dflt ( refine' spec_use (f := 363) (by k_asm) (by k_asm) (by k_asm) (by k_asm) (by k_asm) (by first | exact rfl | with_reducible assumption) (shelf_new0 _ _) (by exact Nat.le_of_ble_eq_true rfl) (by exact Nat.le_of_ble_eq_true rfl) (ret_shelf0 ?_); (intro x9 d9 a9 c9 m9 t9 o9 q9 u9 h9 tk9 F9 N9 b9 i9 l9 k9 v9 w9 y9 z9 f9 g9 j9; (try k_lt l9); (try k_lt2 k9); (try k_lt2 v9); (try k_lt2 w9); (try k_lt2 z9); (try k_lt2 f9); (try k_lt2 g9); (try k_lt y9); (try k_lt j9); (try k_sweep); (try dsimp only); (try k_fold)))) | with_reducible (k_here; (with_reducible show wpAny _ _ (call (Value.ref 363) [Value.ref _, Value.ref _]) _ _ _); k_dflt ( refine' spec_use (f := 363) (by k_asm) (by k_asm) (by k_asm) (by k_asm) (by k_asm) (by first | exact rfl | with_reducible assumption) (shelf_new _ _ _ _) (by exact Nat.le_of_ble_eq_true rfl) (by exact Nat.le_of_ble_eq_true rfl) (ret_obj ?_); (intro x9 d9 a9 c9 m9 h9 tk9 F9 N9 l9 k9; (try k_lt l9); (try k_lt2 k9); (try k_sweep); (try dsimp only); (try k_fold)))) | with_reducible (k_here; (with_reducible show wpAny _ _ (call (Value.ref 254) [Value.int _ _, Value.int _ _]) _ _ _); k_dflt ( refine' spec_use (f := 254) (by k_asm) (by k_asm) (by k_asm) (by k_asm) (by k_asm) (by first | exact rfl | with_reducible assumption) (ref_new _ _ _ _ _ _) (by exact Nat.le_of_ble_eq_true rfl) (by exact Nat.le_of_ble_eq_true rfl) (ret_obj ?_); (intro x9 d9 a9 c9 m9 h9 tk9 F9 N9 l9 k9; (try k_lt l9); (try k_lt2 k9); (try k_sweep); (try dsimp only); (try k_fold)))) | with_reducible (k_here; (with_reducible show wpAny _ _ (call (Value.ref 429) _) _ _ _); k_dflt ( refine' spec_useT (f := 429) (by k_asm) (by k_asm) (by k_asm) (by k_asm) (by k_asm) (by first | exact rfl | with_reducible assumption) (refused _ _ _ _ _ (Refuse.flip (by k_mem) (by k_mem) (by with_reducible assumption) (by ktd_sub))) (by exact Nat.le_of_ble_eq_true rfl) (by exact Nat.le_of_ble_eq_true rfl) (ret_same ?_); (intro h9 tk9 F9 N9; (try k_sweep); (try dsimp only); (try k_fold)))) | with_reducible (k_here; (with_reducible show wpAny _ _ (call (Value.ref 407) _) _ _ _); k_dflt ( refine' spec_use (f := 407) (by k_asm) (by k_asm) (by k_asm) (Pick.of (by k_asm) (by k_mem)) (by k_asm) (by first | exact rfl | with_reducible assumption) (take_any _ _ _ _ (by with_reducible assumption) _ _ _ (by k_all) (by decide)) (by exact Nat.le_of_ble_eq_true rfl) (by exact Nat.le_of_ble_eq_true rfl) (ret_take ?_); (intro d9 t9 vs9 k9 h9 tk9 F9 N9 lo9 hi9 po9; (try k_sweep); (try dsimp only); (try k_fold)))) | with_reducible (k_here; (with_reducible show wpAny _ _ (call (Value.ref 334) _) _ _ _); k_dflt ( refine' spec_use (f := 334) (by k_asm) (by k_asm) (by k_asm) (by k_asm) (by k_asm) (by first | exact rfl | with_reducible assumption) (add_pick (by with_reducible assumption) (by k_mem) (by k_all) (by with_reducible assumption) (by first | omega | (simp only [List.length_append, List.length_cons, List.length_nil]; omega)) (by k_mem) (by k_mem)) (by exact Nat.le_of_ble_eq_true rfl) (by exact Nat.le_of_ble_eq_true rfl) (ret_add ?_); (intro r9 o9 tl9 t9 tt9 m9 h9 tk9 F9 N9 up9' tb9 mem9 ref9; have up9 := up9'.apart; (try simp only [List.cons_append] at N9); (try k_sweep); (try dsimp only); (try k_fold)))) | with_reducible (k_here; (with_reducible show wpAny _ _ (call (Value.ref 422) _) _ _ _); k_dflt ( refine' spec_use (f := 422) (by k_asm) (by k_asm) (by k_asm) (by k_asm) (by k_asm) (by first | exact rfl | with_reducible assumption) (Hangs.use (by with_reducible assumption) (by ktd_sub) (by with_reducible assumption) (by with_reducible assumption) (by with_reducible assumption) (by (first | omega | (simp only [List.length_nil]; omega)))) (by exact Nat.le_of_ble_eq_true rfl) (by exact Nat.le_of_ble_eq_true rfl) (ret_hung ?_); (intro r9 o9 vs9 m9 tl9 more9 h9 tk9 F9 N9 pp9 up9 tb9 lm9 st9; (try simp only [List.cons_append] at N9); (try k_sweep); (try dsimp only); (try k_fold)))) | with_reducible (k_here; (with_reducible show wpAny _ _ (call (Value.ref 400) _) _ _ _); k_dflt ( refine' spec_use (f := 400) (by k_asm) (by k_asm) (by k_asm) (by k_asm) (by k_asm) (by first | exact rfl | with_reducible assumption) (GathN.use (by with_reducible assumption) (by ktd_sub)) (by exact Nat.le_of_ble_eq_true rfl) (by exact Nat.le_of_ble_eq_true rfl) (ret_made ?_); (intro r9 tl9 h9 tk9 F9 N9 up9 nd9; have tn9 := tells_node 4 nd9; (try simp only [List.cons_append] at nd9 tn9); (try simp only [List.cons_append] at N9); (try k_sweep); (try dsimp only); (try k_fold)))) | with_reducible (k_here; (with_reducible show wpAny _ _ (call (Value.ref 417) _) _ _ _); k_dflt ( refine' spec_use (f := 417) (by k_asm) (by k_asm) (by k_asm) (by k_asm) (by k_asm) (by first | exact rfl | with_reducible assumption) (Counts.use (by with_reducible assumption) (by ktd_sub)) (by exact Nat.le_of_ble_eq_true rfl) (by exact Nat.le_of_ble_eq_true rfl) (ret_int ?_); (intro t9 tl9 h9 tk9 F9 N9 up9; (try simp only [List.cons_append] at N9); (try k_sweep); (try dsimp only); (try k_fold)))) | with_reducible (k_here; (with_reducible show wpAny _ _ (call (Value.ref 348) _) _ _ _); k_dflt ( refine' spec_use (f := 348) (by k_asm) (by k_asm) (by k_asm) (by k_asm) (by k_asm) (by first | exact rfl | with_reducible assumption) (numbers_use (by k_mem) (by k_mem) (by k_mem) (by with_reducible assumption) (by with_reducible assumption) (by omega)) (by exact Nat.le_of_ble_eq_true rfl) (by exact Nat.le_of_ble_eq_true rfl) (ret_nums ?_); (intro b9 vs9 m9 tl9 h9 tk9 F9 N9 up9 mb9 ln9; (try simp only [List.cons_append] at N9); (try k_sweep); (try dsimp only); (try k_fold)))) | with_reducible (k_here; (with_reducible show wpAny _ _ (call (Value.ref 391) _) _ _ _); k_dflt ( refine' spec_use (f := 391) (by k_asm) (by k_asm) (by k_asm) (by k_asm) (by k_asm) (by first | exact rfl | with_reducible assumption) (Lays.use (by with_reducible assumption) (by ktd_sub) (by with_reducible assumption) (by with_reducible assumption) (by (simp only [List.length_nil]; omega))) (by exact Nat.le_of_ble_eq_true rfl) (by exact Nat.le_of_ble_eq_true rfl) (ret_laid ?_); (intro r9 o9 tl9 m9 h9 tk9 F9 N9 up9 t9 c9 st9 kr9; (try simp only [List.cons_append] at N9); (try k_sweep); (try dsimp only); (try k_fold)))) | with_reducible (k_here; (with_reducible show wpAny _ _ (call (Value.ref 277) _) _ _ _); k_dflt ( refine' spec_use (f := 277) (by k_asm) (by k_asm) (by k_asm) (by k_asm) (by k_asm) (by first | exact rfl | with_reducible assumption) (Tells.use (by with_reducible assumption) (by ktd_sub)) (by exact Nat.le_of_ble_eq_true rfl) (by exact Nat.le_of_ble_eq_true rfl) (ret_made ?_); (intro r9 tl9 h9 tk9 F9 N9 up9 td9; (try simp only [List.cons_append] at N9); (try k_sweep); (try dsimp only); (try k_fold)))) | with_reducible (k_here; (with_reducible show wpAny _ _ (call (Value.ref 277) _) _ _ _); k_dflt ( refine' spec_use (f := 277) (by k_asm) (by k_asm) (by k_asm) (by k_asm) (by k_asm) (by first | exact rfl | with_reducible assumption) (Tells.flip (by exact sub_refl _) (by exact tells_node 4 (tri_of' (by with_reducible assumption) (by k_mem) (by with_reducible assumption) (by with_reducible assumption) (by k_mem) (by with_reducible assumption) (by ktd_sub)))) (by exact Nat.le_of_ble_eq_true rfl) (by exact Nat.le_of_ble_eq_true rfl) (ret_made ?_); (intro r9 tl9 h9 tk9 F9 N9 up9 td9; (try simp only [List.cons_append] at N9); (try k_sweep); (try dsimp only); (try k_fold)))) | with_reducible (k_here; (with_reducible show wpAny _ _ (call (Value.ref 412) _) _ _ _); k_dflt (first | (refine' spec_use (f := 412) (by k_asm) (by k_asm) (by k_asm) (Pick.of (by k_asm) (by k_mem)) (by k_asm) (by first | exact rfl | with_reducible assumption) (Trees.use (trees _ _ 2) (by exact rfl) (by with_reducible assumption) (by k_all)) (by exact Nat.le_of_ble_eq_true rfl) (by exact Nat.le_of_ble_eq_true rfl) (ret_tree ?_); (intro r9 vs9 m9 d9 tl9 h9 tk9 F9 N9 up9 pp9 nd9 cn9; (try simp only [List.cons_append] at N9); (try k_sweep); (try dsimp only); (try k_fold))) | (refine' spec_use (f := 412) (by k_asm) (by k_asm) (by k_asm) (Pick.of (by k_asm) (by k_mem)) (by k_asm) (by first | exact rfl | with_reducible assumption) (Trees.use (trees _ _ 3) (by exact rfl) (by with_reducible assumption) (by k_all)) (by exact Nat.le_of_ble_eq_true rfl) (by exact Nat.le_of_ble_eq_true rfl) (ret_tree ?_); (intro r9 vs9 m9 d9 tl9 h9 tk9 F9 N9 up9 pp9 nd9 cn9; (try simp only [List.cons_append] at N9); (try k_sweep); (try dsimp only); (try k_fold)))))) | ((with_reducible show wpAny _ _ (call (Value.builtin "isinstance") _) _ _ _); first | with_reducible (k_here; (with_reducible show wpAny _ _ (call _ [Value.ref _, Value.ref _]) _ _ _); k_dflt (refine' isi_call (by k_in) (by k_types) (by k_is) (by intro e; cases e) ?_; k_whole))) | ((with_reducible show wpAny _ _ (binaryOp Operator.Mult (Value.ref _) (Value.int _ _)) _ _ _); first | with_reducible (k_here; (with_reducible show wpAny _ _ (binaryOp Operator.Mult (Value.ref _) (Value.int 3 _)) _ _ _); k_dflt (refine' mul3 (by k_asm) (by k_asm) (by k_mem) ?_); intro D' h' F' N' l1; (try k_lt l1); (try k_sweep))) | ((with_reducible show wpAny _ _ (exec (Stmt.If _ _ _ _) _) _ _ _); first | with_reducible (k_here; refine wpAny_If ?_)) | ((with_reducible show LCg.CompEnd _ _ _ _ _ _ _ _ _ _ _ _ _ _); first | with_reducible (k_here; k_dflt (refine' compEnd_same (by k_asm) (by k_asm) (by exact (by with_reducible assumption : (_ ≠ _ ∧ _ ≠ _ ∧ _ ≠ _) ∧ _)) (by exact Or.inr ⟨_, by k_mem, rfl, _, rfl⟩) ?_)) | (k_here; k_dflt (refine' compEnd_same (by k_asm) (by k_asm) (by exact (by with_reducible assumption : (_ ≠ _ ∧ _ ≠ _ ∧ _ ≠ _) ∧ _)) (by exact Or.inr ⟨_, by k_mem, rfl, _, rfl⟩) ?_))) | ((with_reducible show LCt.CompSrcT _ _ _ _ _ _ _ _ _ _ _ _ _ _ _); first | with_reducible (k_here; k_dflt (refine' LCt.CompSrcT.ledger rfl (by k_asm) (by k_asm) (by k_mem) (by exact Nat.le_of_ble_eq_true rfl) ?_); intro g9)) | ((with_reducible show wpAny _ _ (eval (Expr.ListComp _ _ _ _) _) _ _ _); first | with_reducible (k_here; k_dflt (refine LCt.ListComp_T (F₀ := by k_asm) (by with_unfolding_all rfl) (by decide) (by rfl) (by decide) (by rfl) ?_))) | ((with_reducible show wpAny _ _ (subscriptTail _ _ _ _) _ _ _); first | with_reducible (k_here; (with_reducible show wpAny _ _ (subscriptTail _ _ (Value.ref _) (Value.int _ _)) _ _ _); (fail_if_success (with_reducible show wpAny _ _ (subscriptTail _ _ (Value.ref _) (Value.int 0 _)) _ _ _)); k_dflt (refine' menu3 (by k_asm) (by k_mem) (by with_reducible assumption) (by with_reducible assumption) ?_); intro v9 pv9) | with_reducible (k_here; (with_reducible show wpAny _ _ (subscriptTail _ _ (Value.ref _) (Value.int 0 _)) _ _ _); k_dflt (refine' item0_N (by k_asm) (by k_mem) ?_)) | with_reducible (k_here; (with_reducible show wpAny _ _ (subscriptTail _ _ (Value.ref _) (Value.str _ _)) _ _ _); k_dflt (refine' kda_item (knd := PySem.strKind _ _) (by k_asm) (by k_mem) (by with_reducible assumption) (strKind_is _ _ _ _) (by exact val_hd) ?_))) | ((with_reducible show wpAny _ _ (call (Value.builtin "len") _) _ _ _); first | with_reducible (k_here; (with_reducible show wpAny _ _ (call (Value.builtin "len") [Value.ref _]) _ _ _); k_dflt (refine' len_N (by k_asm) (by k_mem) (by omega) ?_))) | ((with_reducible show wpAny _ _ (compareOp CmpOp.NotEq _ _) _ _ _); first | with_reducible (k_here; k_dflt (refine' ne_told (by k_asm) (by with_reducible assumption) (by ktd_sub) (by with_reducible assumption) (by ktd_sub) (ok_node 4 _) (by decide) (by exact Nat.le_of_ble_eq_true rfl) ?_))) | ((with_reducible show LawEnd _ _ _); first | with_reducible (k_here; refine Stop.out ?_)) | ((with_reducible show LawCut _ _ _ _ _ _); first | with_reducible (k_here; refine Stop.out ?_)) | walk1 | (dsimp only; walk1))
    unfold Stop
    exact ⟨_, _, rfl, law12_intro (by k_asm) (by k_asm) (by k_mem) (by k_mem) (by with_reducible assumption) hTP ht0 hS0 ho0 (by with_reducible assumption) ⟨_, by k_mem⟩ ⟨_, by k_mem⟩ (by ktd_sub) (by with_reducible assumption) (by with_reducible assumption) hl0 (by with_reducible assumption)⟩
  clear F0 N0 hp0 ho0 hTP ht0 hb0 hS0 hT0 hl0 hr0
  intro h9 tk9 c9
  obtain ⟨P, t, d, d1, b, S, T, sv, r, wh, pl, kd, oT, pv, pn, base, F0, N0, hp0, ho0, hTP, ht0, hS0, tab, hT0, hl0, hr0⟩ := c9
  with_reducible refine cut_lawR ((Law13 w) s₁.heap s₁.heap.objs.size m0) ?_ ?_
  · skip
    clear vG vY vMX vLA vGL vTB vTE vTW vBM vhcd vDf vra vwl vr0 vrw
    obtain ⟨dS, R, k1, k2, n2, s1, s2, lT⟩ := id hS0
    repeat' (first | (k_unfold; (try dsimp only)) | ((with_reducible show wpAny _ _ (call (Value.ref _) _) _ _ _); first | with_reducible (k_here; (with_reducible show wpAny _ _ (call (Value.ref 363) []) _ _ _); k_dflt ( refine' spec_use (f := 363) (by k_asm) (by k_asm) (by k_asm) (by k_asm) (by k_asm) (by first | exact rfl | with_reducible assumption) (shelf_new0 _ _) (by exact Nat.le_of_ble_eq_true rfl) (by exact Nat.le_of_ble_eq_true rfl) (ret_shelf0 ?_); (intro x9 d9 a9 c9 m9 t9 o9 q9 u9 h9 tk9 F9 N9 b9 i9 l9 k9 v9 w9 y9 z9 f9 g9 j9; (try k_lt l9); (try k_lt2 k9); (try k_lt2 v9); (try k_lt2 w9); (try k_lt2 z9); (try k_lt2 f9); (try k_lt2 g9); (try k_lt y9); (try k_lt j9); (try k_sweep); (try dsimp only); (try k_fold)))) | with_reducible (k_here; (with_reducible show wpAny _ _ (call (Value.ref 363) [Value.ref _, Value.ref _]) _ _ _); k_dflt ( refine' spec_use (f := 363) (by k_asm) (by k_asm) (by k_asm) (by k_asm) (by k_asm) (by first | exact rfl | with_reducible assumption) (shelf_new _ _ _ _) (by exact Nat.le_of_ble_eq_true rfl) (by exact Nat.le_of_ble_eq_true rfl) (ret_obj ?_); (intro x9 d9 a9 c9 m9 h9 tk9 F9 N9 l9 k9; (try k_lt l9); (try k_lt2 k9); (try k_sweep); (try dsimp only); (try k_fold)))) | with_reducible (k_here; (with_reducible show wpAny _ _ (call (Value.ref 254) [Value.int _ _, Value.int _ _]) _ _ _); k_dflt ( refine' spec_use (f := 254) (by k_asm) (by k_asm) (by k_asm) (by k_asm) (by k_asm) (by first | exact rfl | with_reducible assumption) (ref_new _ _ _ _ _ _) (by exact Nat.le_of_ble_eq_true rfl) (by exact Nat.le_of_ble_eq_true rfl) (ret_obj ?_); (intro x9 d9 a9 c9 m9 h9 tk9 F9 N9 l9 k9; (try k_lt l9); (try k_lt2 k9); (try k_sweep); (try dsimp only); (try k_fold)))) | with_reducible (k_here; (with_reducible show wpAny _ _ (call (Value.ref 429) _) _ _ _); k_dflt ( refine' spec_useT (f := 429) (by k_asm) (by k_asm) (by k_asm) (by k_asm) (by k_asm) (by first | exact rfl | with_reducible assumption) (refused _ _ _ _ _ (Refuse.flip (by k_mem) (by k_mem) (by with_reducible assumption) (by ktd_sub))) (by exact Nat.le_of_ble_eq_true rfl) (by exact Nat.le_of_ble_eq_true rfl) (ret_same ?_); (intro h9 tk9 F9 N9; (try k_sweep); (try dsimp only); (try k_fold)))) | with_reducible (k_here; (with_reducible show wpAny _ _ (call (Value.ref 407) _) _ _ _); k_dflt ( refine' spec_use (f := 407) (by k_asm) (by k_asm) (by k_asm) (Pick.of (by k_asm) (by k_mem)) (by k_asm) (by first | exact rfl | with_reducible assumption) (take_any _ _ _ _ (by with_reducible assumption) _ _ _ (by k_all) (by decide)) (by exact Nat.le_of_ble_eq_true rfl) (by exact Nat.le_of_ble_eq_true rfl) (ret_take ?_); (intro d9 t9 vs9 k9 h9 tk9 F9 N9 lo9 hi9 po9; (try k_sweep); (try dsimp only); (try k_fold)))) | with_reducible (k_here; (with_reducible show wpAny _ _ (call (Value.ref 334) _) _ _ _); k_dflt ( refine' spec_use (f := 334) (by k_asm) (by k_asm) (by k_asm) (by k_asm) (by k_asm) (by first | exact rfl | with_reducible assumption) (add_pick (by with_reducible assumption) (by k_mem) (by k_all) (by with_reducible assumption) (by first | omega | (simp only [List.length_append, List.length_cons, List.length_nil]; omega)) (by k_mem) (by k_mem)) (by exact Nat.le_of_ble_eq_true rfl) (by exact Nat.le_of_ble_eq_true rfl) (ret_add ?_); (intro r9 o9 tl9 t9 tt9 m9 h9 tk9 F9 N9 up9' tb9 mem9 ref9; have up9 := up9'.apart; (try simp only [List.cons_append] at N9); (try k_sweep); (try dsimp only); (try k_fold)))) | with_reducible (k_here; (with_reducible show wpAny _ _ (call (Value.ref 422) _) _ _ _); k_dflt ( refine' spec_use (f := 422) (by k_asm) (by k_asm) (by k_asm) (by k_asm) (by k_asm) (by first | exact rfl | with_reducible assumption) (Hangs.use (by with_reducible assumption) (by ktd_sub) (by with_reducible assumption) (by with_reducible assumption) (by with_reducible assumption) (by (first | omega | (simp only [List.length_nil]; omega)))) (by exact Nat.le_of_ble_eq_true rfl) (by exact Nat.le_of_ble_eq_true rfl) (ret_hung ?_); (intro r9 o9 vs9 m9 tl9 more9 h9 tk9 F9 N9 pp9 up9 tb9 lm9 st9; (try simp only [List.cons_append] at N9); (try k_sweep); (try dsimp only); (try k_fold)))) | with_reducible (k_here; (with_reducible show wpAny _ _ (call (Value.ref 400) _) _ _ _); k_dflt ( refine' spec_use (f := 400) (by k_asm) (by k_asm) (by k_asm) (by k_asm) (by k_asm) (by first | exact rfl | with_reducible assumption) (GathN.use (by with_reducible assumption) (by ktd_sub)) (by exact Nat.le_of_ble_eq_true rfl) (by exact Nat.le_of_ble_eq_true rfl) (ret_made ?_); (intro r9 tl9 h9 tk9 F9 N9 up9 nd9; have tn9 := tells_node 4 nd9; (try simp only [List.cons_append] at nd9 tn9); (try simp only [List.cons_append] at N9); (try k_sweep); (try dsimp only); (try k_fold)))) | with_reducible (k_here; (with_reducible show wpAny _ _ (call (Value.ref 417) _) _ _ _); k_dflt ( refine' spec_use (f := 417) (by k_asm) (by k_asm) (by k_asm) (by k_asm) (by k_asm) (by first | exact rfl | with_reducible assumption) (Counts.use (by with_reducible assumption) (by ktd_sub)) (by exact Nat.le_of_ble_eq_true rfl) (by exact Nat.le_of_ble_eq_true rfl) (ret_int ?_); (intro t9 tl9 h9 tk9 F9 N9 up9; (try simp only [List.cons_append] at N9); (try k_sweep); (try dsimp only); (try k_fold)))) | with_reducible (k_here; (with_reducible show wpAny _ _ (call (Value.ref 348) _) _ _ _); k_dflt ( refine' spec_use (f := 348) (by k_asm) (by k_asm) (by k_asm) (by k_asm) (by k_asm) (by first | exact rfl | with_reducible assumption) (numbers_use (by k_mem) (by k_mem) (by k_mem) (by with_reducible assumption) (by with_reducible assumption) (by omega)) (by exact Nat.le_of_ble_eq_true rfl) (by exact Nat.le_of_ble_eq_true rfl) (ret_nums ?_); (intro b9 vs9 m9 tl9 h9 tk9 F9 N9 up9 mb9 ln9; (try simp only [List.cons_append] at N9); (try k_sweep); (try dsimp only); (try k_fold)))) | with_reducible (k_here; (with_reducible show wpAny _ _ (call (Value.ref 391) _) _ _ _); k_dflt ( refine' spec_use (f := 391) (by k_asm) (by k_asm) (by k_asm) (by k_asm) (by k_asm) (by first | exact rfl | with_reducible assumption) (Lays.use (by with_reducible assumption) (by ktd_sub) (by with_reducible assumption) (by with_reducible assumption) (by (simp only [List.length_nil]; omega))) (by exact Nat.le_of_ble_eq_true rfl) (by exact Nat.le_of_ble_eq_true rfl) (ret_laid ?_); (intro r9 o9 tl9 m9 h9 tk9 F9 N9 up9 t9 c9 st9 kr9; (try simp only [List.cons_append] at N9); (try k_sweep); (try dsimp only); (try k_fold)))) | with_reducible (k_here; (with_reducible show wpAny _ _ (call (Value.ref 277) _) _ _ _); k_dflt ( refine' spec_use (f := 277) (by k_asm) (by k_asm) (by k_asm) (by k_asm) (by k_asm) (by first | exact rfl | with_reducible assumption) (Tells.use (by with_reducible assumption) (by ktd_sub)) (by exact Nat.le_of_ble_eq_true rfl) (by exact Nat.le_of_ble_eq_true rfl) (ret_made ?_); (intro r9 tl9 h9 tk9 F9 N9 up9 td9; (try simp only [List.cons_append] at N9); (try k_sweep); (try dsimp only); (try k_fold)))) | with_reducible (k_here; (with_reducible show wpAny _ _ (call (Value.ref 277) _) _ _ _); k_dflt ( refine' spec_use (f := 277) (by k_asm) (by k_asm) (by k_asm) (by k_asm) (by k_asm) (by first | exact rfl | with_reducible assumption) (Tells.flip (by exact sub_refl _) (by exact tells_node 4 (tri_of' (by with_reducible assumption) (by k_mem) (by with_reducible assumption) (by with_reducible assumption) (by k_mem) (by with_reducible assumption) (by ktd_sub)))) (by exact Nat.le_of_ble_eq_true rfl) (by exact Nat.le_of_ble_eq_true rfl) (ret_made ?_); (intro r9 tl9 h9 tk9 F9 N9 up9 td9; (try simp only [List.cons_append] at N9); (try k_sweep); (try dsimp only); (try k_fold)))) | with_reducible (k_here; (with_reducible show wpAny _ _ (call (Value.ref 412) _) _ _ _); k_dflt (first | (refine' spec_use (f := 412) (by k_asm) (by k_asm) (by k_asm) (Pick.of (by k_asm) (by k_mem)) (by k_asm) (by first | exact rfl | with_reducible assumption) (Trees.use (trees _ _ 2) (by exact rfl) (by with_reducible assumption) (by k_all)) (by exact Nat.le_of_ble_eq_true rfl) (by exact Nat.le_of_ble_eq_true rfl) (ret_tree ?_); (intro r9 vs9 m9 d9 tl9 h9 tk9 F9 N9 up9 pp9 nd9 cn9; (try simp only [List.cons_append] at N9); (try k_sweep); (try dsimp only); (try k_fold))) | (refine' spec_use (f := 412) (by k_asm) (by k_asm) (by k_asm) (Pick.of (by k_asm) (by k_mem)) (by k_asm) (by first | exact rfl | with_reducible assumption) (Trees.use (trees _ _ 3) (by exact rfl) (by with_reducible assumption) (by k_all)) (by exact Nat.le_of_ble_eq_true rfl) (by exact Nat.le_of_ble_eq_true rfl) (ret_tree ?_); (intro r9 vs9 m9 d9 tl9 h9 tk9 F9 N9 up9 pp9 nd9 cn9; (try simp only [List.cons_append] at N9); (try k_sweep); (try dsimp only); (try k_fold)))))) | ((with_reducible show wpAny _ _ (call (Value.builtin "isinstance") _) _ _ _); first | with_reducible (k_here; (with_reducible show wpAny _ _ (call _ [Value.ref _, Value.ref _]) _ _ _); k_dflt (refine' isi_call (by k_in) (by k_types) (by k_is) (by intro e; cases e) ?_; k_whole))) | ((with_reducible show wpAny _ _ (binaryOp Operator.Mult (Value.ref _) (Value.int _ _)) _ _ _); first | with_reducible (k_here; (with_reducible show wpAny _ _ (binaryOp Operator.Mult (Value.ref _) (Value.int 3 _)) _ _ _); k_dflt (refine' mul3 (by k_asm) (by k_asm) (by k_mem) ?_); intro D' h' F' N' l1; (try k_lt l1); (try k_sweep))) | ((with_reducible show wpAny _ _ (exec (Stmt.If _ _ _ _) _) _ _ _); first | with_reducible (k_here; refine wpAny_If ?_)) | ((with_reducible show LCg.CompEnd _ _ _ _ _ _ _ _ _ _ _ _ _ _); first | with_reducible (k_here; k_dflt (refine' compEnd_same (by k_asm) (by k_asm) (by exact (by with_reducible assumption : (_ ≠ _ ∧ _ ≠ _ ∧ _ ≠ _) ∧ _)) (by exact Or.inr ⟨_, by k_mem, rfl, _, rfl⟩) ?_)) | (k_here; k_dflt (refine' compEnd_same (by k_asm) (by k_asm) (by exact (by with_reducible assumption : (_ ≠ _ ∧ _ ≠ _ ∧ _ ≠ _) ∧ _)) (by exact Or.inr ⟨_, by k_mem, rfl, _, rfl⟩) ?_))) | ((with_reducible show LCt.CompSrcT _ _ _ _ _ _ _ _ _ _ _ _ _ _ _); first | with_reducible (k_here; k_dflt (refine' LCt.CompSrcT.ledger rfl (by k_asm) (by k_asm) (by k_mem) (by exact Nat.le_of_ble_eq_true rfl) ?_); intro g9)) | ((with_reducible show wpAny _ _ (eval (Expr.ListComp _ _ _ _) _) _ _ _); first | with_reducible (k_here; k_dflt (refine LCt.ListComp_T (F₀ := by k_asm) (by with_unfolding_all rfl) (by decide) (by rfl) (by decide) (by rfl) ?_))) | ((with_reducible show wpAny _ _ (subscriptTail _ _ _ _) _ _ _); first | with_reducible (k_here; (with_reducible show wpAny _ _ (subscriptTail _ _ (Value.ref _) (Value.int _ _)) _ _ _); (fail_if_success (with_reducible show wpAny _ _ (subscriptTail _ _ (Value.ref _) (Value.int 0 _)) _ _ _)); k_dflt (refine' menu3 (by k_asm) (by k_mem) (by with_reducible assumption) (by with_reducible assumption) ?_); intro v9 pv9) | with_reducible (k_here; (with_reducible show wpAny _ _ (subscriptTail _ _ (Value.ref _) (Value.int 0 _)) _ _ _); k_dflt (refine' item0_N (by k_asm) (by k_mem) ?_)) | with_reducible (k_here; (with_reducible show wpAny _ _ (subscriptTail _ _ (Value.ref _) (Value.str _ _)) _ _ _); k_dflt (refine' kda_item (knd := PySem.strKind _ _) (by k_asm) (by k_mem) (by with_reducible assumption) (strKind_is _ _ _ _) (by exact val_hd) ?_))) | ((with_reducible show wpAny _ _ (call (Value.builtin "len") _) _ _ _); first | with_reducible (k_here; (with_reducible show wpAny _ _ (call (Value.builtin "len") [Value.ref _]) _ _ _); k_dflt (refine' len_N (by k_asm) (by k_mem) (by omega) ?_))) | ((with_reducible show wpAny _ _ (compareOp CmpOp.NotEq _ _) _ _ _); first | with_reducible (k_here; k_dflt (refine' ne_told (by k_asm) (by with_reducible assumption) (by ktd_sub) (by with_reducible assumption) (by ktd_sub) (ok_node 4 _) (by decide) (by exact Nat.le_of_ble_eq_true rfl) ?_))) | ((with_reducible show LawEnd _ _ _); first | with_reducible (k_here; refine Stop.out ?_)) | ((with_reducible show LawCut _ _ _ _ _ _); first | with_reducible (k_here; refine Stop.out ?_)) | walk1 | (dsimp only; walk1))
    unfold Stop
    exact ⟨_, _, rfl, law13_intro (by k_asm) (by k_asm) (by with_reducible assumption) (by k_mem) (by k_mem) hp0 hTP ht0 hS0 hr0 (by with_reducible assumption) (by with_reducible assumption) (by k_mem) (by with_reducible assumption) (by with_reducible assumption) (by k_mem) (by with_reducible assumption) (by with_reducible assumption) (by ktd_sub) (by ktd_sub) (by ktd_sub) ho0 (off_ap (by with_reducible assumption) ⟨_, by k_mem⟩) (off_ap (by with_reducible assumption) ⟨_, by k_mem⟩) (off_ap (by with_reducible assumption) ⟨_, by k_mem⟩) (off_ap (by with_reducible assumption) ⟨_, by k_mem⟩) (by omega) (by omega) (by omega) (by omega)⟩
  clear F0 N0 hp0 ho0 hTP ht0 hS0 hT0 hl0 hr0
  intro h9 tk9 c9
  obtain ⟨P, t, d, d1, b, S, T, sv, r, wh, pl, kd, tw, oT, pv, pn, base, F0, N0, hp0, ho0, hTP, ht0, hS0, tab, hT0, d3, he3, hr0⟩ := c9
  with_reducible refine cut_lawR ((Law14) s₁.heap s₁.heap.objs.size m0) ?_ ?_
  · skip
    clear vG vY vMX vLA vGL vTB vTE vTW vBM vhcd vDf vra vwl vr0 vrw
    have G := gathN_of (N0 := (T, oT) :: (P, listOf pv.toArray pn) :: base) (by ktd_sub) hS0 (.head _) hT0 (hr0.more (by ktd_sub)) (Int.natCast_nonneg _) ⟨_, _, he3⟩
    clear hr0
    obtain ⟨-, -, -, -, b', v1, v2, v3, v4, m', ⟨o, ho, lo, hdd⟩, hb', hv1⟩ := id ht0
    repeat' (first | (k_unfold; (try dsimp only)) | ((with_reducible show wpAny _ _ (call (Value.ref _) _) _ _ _); first | with_reducible (k_here; (with_reducible show wpAny _ _ (call (Value.ref 363) []) _ _ _); k_dflt ( refine' spec_use (f := 363) (by k_asm) (by k_asm) (by k_asm) (by k_asm) (by k_asm) (by first | exact rfl | with_reducible assumption) (shelf_new0 _ _) (by exact Nat.le_of_ble_eq_true rfl) (by exact Nat.le_of_ble_eq_true rfl) (ret_shelf0 ?_); (intro x9 d9 a9 c9 m9 t9 o9 q9 u9 h9 tk9 F9 N9 b9 i9 l9 k9 v9 w9 y9 z9 f9 g9 j9; (try k_lt l9); (try k_lt2 k9); (try k_lt2 v9); (try k_lt2 w9); (try k_lt2 z9); (try k_lt2 f9); (try k_lt2 g9); (try k_lt y9); (try k_lt j9); (try k_sweep); (try dsimp only); (try k_fold)))) | with_reducible (k_here; (with_reducible show wpAny _ _ (call (Value.ref 363) [Value.ref _, Value.ref _]) _ _ _); k_dflt ( refine' spec_use (f := 363) (by k_asm) (by k_asm) (by k_asm) (by k_asm) (by k_asm) (by first | exact rfl | with_reducible assumption) (shelf_new _ _ _ _) (by exact Nat.le_of_ble_eq_true rfl) (by exact Nat.le_of_ble_eq_true rfl) (ret_obj ?_); (intro x9 d9 a9 c9 m9 h9 tk9 F9 N9 l9 k9; (try k_lt l9); (try k_lt2 k9); (try k_sweep); (try dsimp only); (try k_fold)))) | with_reducible (k_here; (with_reducible show wpAny _ _ (call (Value.ref 254) [Value.int _ _, Value.int _ _]) _ _ _); k_dflt ( refine' spec_use (f := 254) (by k_asm) (by k_asm) (by k_asm) (by k_asm) (by k_asm) (by first | exact rfl | with_reducible assumption) (ref_new _ _ _ _ _ _) (by exact Nat.le_of_ble_eq_true rfl) (by exact Nat.le_of_ble_eq_true rfl) (ret_obj ?_); (intro x9 d9 a9 c9 m9 h9 tk9 F9 N9 l9 k9; (try k_lt l9); (try k_lt2 k9); (try k_sweep); (try dsimp only); (try k_fold)))) | with_reducible (k_here; (with_reducible show wpAny _ _ (call (Value.ref 429) _) _ _ _); k_dflt ( refine' spec_useT (f := 429) (by k_asm) (by k_asm) (by k_asm) (by k_asm) (by k_asm) (by first | exact rfl | with_reducible assumption) (refused _ _ _ _ _ (Refuse.flip (by k_mem) (by k_mem) (by with_reducible assumption) (by ktd_sub))) (by exact Nat.le_of_ble_eq_true rfl) (by exact Nat.le_of_ble_eq_true rfl) (ret_same ?_); (intro h9 tk9 F9 N9; (try k_sweep); (try dsimp only); (try k_fold)))) | with_reducible (k_here; (with_reducible show wpAny _ _ (call (Value.ref 407) _) _ _ _); k_dflt ( refine' spec_use (f := 407) (by k_asm) (by k_asm) (by k_asm) (Pick.of (by k_asm) (by k_mem)) (by k_asm) (by first | exact rfl | with_reducible assumption) (take_any _ _ _ _ (by with_reducible assumption) _ _ _ (by k_all) (by decide)) (by exact Nat.le_of_ble_eq_true rfl) (by exact Nat.le_of_ble_eq_true rfl) (ret_take ?_); (intro d9 t9 vs9 k9 h9 tk9 F9 N9 lo9 hi9 po9; (try k_sweep); (try dsimp only); (try k_fold)))) | with_reducible (k_here; (with_reducible show wpAny _ _ (call (Value.ref 334) _) _ _ _); k_dflt ( refine' spec_use (f := 334) (by k_asm) (by k_asm) (by k_asm) (by k_asm) (by k_asm) (by first | exact rfl | with_reducible assumption) (add_pick (by with_reducible assumption) (by k_mem) (by k_all) (by with_reducible assumption) (by first | omega | (simp only [List.length_append, List.length_cons, List.length_nil]; omega)) (by k_mem) (by k_mem)) (by exact Nat.le_of_ble_eq_true rfl) (by exact Nat.le_of_ble_eq_true rfl) (ret_add ?_); (intro r9 o9 tl9 t9 tt9 m9 h9 tk9 F9 N9 up9' tb9 mem9 ref9; have up9 := up9'.apart; (try simp only [List.cons_append] at N9); (try k_sweep); (try dsimp only); (try k_fold)))) | with_reducible (k_here; (with_reducible show wpAny _ _ (call (Value.ref 422) _) _ _ _); k_dflt ( refine' spec_use (f := 422) (by k_asm) (by k_asm) (by k_asm) (by k_asm) (by k_asm) (by first | exact rfl | with_reducible assumption) (Hangs.use (by with_reducible assumption) (by ktd_sub) (by with_reducible assumption) (by with_reducible assumption) (by with_reducible assumption) (by (first | omega | (simp only [List.length_nil]; omega)))) (by exact Nat.le_of_ble_eq_true rfl) (by exact Nat.le_of_ble_eq_true rfl) (ret_hung ?_); (intro r9 o9 vs9 m9 tl9 more9 h9 tk9 F9 N9 pp9 up9 tb9 lm9 st9; (try simp only [List.cons_append] at N9); (try k_sweep); (try dsimp only); (try k_fold)))) | with_reducible (k_here; (with_reducible show wpAny _ _ (call (Value.ref 400) _) _ _ _); k_dflt ( refine' spec_use (f := 400) (by k_asm) (by k_asm) (by k_asm) (by k_asm) (by k_asm) (by first | exact rfl | with_reducible assumption) (GathN.use (by with_reducible assumption) (by ktd_sub)) (by exact Nat.le_of_ble_eq_true rfl) (by exact Nat.le_of_ble_eq_true rfl) (ret_made ?_); (intro r9 tl9 h9 tk9 F9 N9 up9 nd9; have tn9 := tells_node 4 nd9; (try simp only [List.cons_append] at nd9 tn9); (try simp only [List.cons_append] at N9); (try k_sweep); (try dsimp only); (try k_fold)))) | with_reducible (k_here; (with_reducible show wpAny _ _ (call (Value.ref 417) _) _ _ _); k_dflt ( refine' spec_use (f := 417) (by k_asm) (by k_asm) (by k_asm) (by k_asm) (by k_asm) (by first | exact rfl | with_reducible assumption) (Counts.use (by with_reducible assumption) (by ktd_sub)) (by exact Nat.le_of_ble_eq_true rfl) (by exact Nat.le_of_ble_eq_true rfl) (ret_int ?_); (intro t9 tl9 h9 tk9 F9 N9 up9; (try simp only [List.cons_append] at N9); (try k_sweep); (try dsimp only); (try k_fold)))) | with_reducible (k_here; (with_reducible show wpAny _ _ (call (Value.ref 348) _) _ _ _); k_dflt ( refine' spec_use (f := 348) (by k_asm) (by k_asm) (by k_asm) (by k_asm) (by k_asm) (by first | exact rfl | with_reducible assumption) (numbers_use (by k_mem) (by k_mem) (by k_mem) (by with_reducible assumption) (by with_reducible assumption) (by omega)) (by exact Nat.le_of_ble_eq_true rfl) (by exact Nat.le_of_ble_eq_true rfl) (ret_nums ?_); (intro b9 vs9 m9 tl9 h9 tk9 F9 N9 up9 mb9 ln9; (try simp only [List.cons_append] at N9); (try k_sweep); (try dsimp only); (try k_fold)))) | with_reducible (k_here; (with_reducible show wpAny _ _ (call (Value.ref 391) _) _ _ _); k_dflt ( refine' spec_use (f := 391) (by k_asm) (by k_asm) (by k_asm) (by k_asm) (by k_asm) (by first | exact rfl | with_reducible assumption) (Lays.use (by with_reducible assumption) (by ktd_sub) (by with_reducible assumption) (by with_reducible assumption) (by (simp only [List.length_nil]; omega))) (by exact Nat.le_of_ble_eq_true rfl) (by exact Nat.le_of_ble_eq_true rfl) (ret_laid ?_); (intro r9 o9 tl9 m9 h9 tk9 F9 N9 up9 t9 c9 st9 kr9; (try simp only [List.cons_append] at N9); (try k_sweep); (try dsimp only); (try k_fold)))) | with_reducible (k_here; (with_reducible show wpAny _ _ (call (Value.ref 277) _) _ _ _); k_dflt ( refine' spec_use (f := 277) (by k_asm) (by k_asm) (by k_asm) (by k_asm) (by k_asm) (by first | exact rfl | with_reducible assumption) (Tells.use (by with_reducible assumption) (by ktd_sub)) (by exact Nat.le_of_ble_eq_true rfl) (by exact Nat.le_of_ble_eq_true rfl) (ret_made ?_); (intro r9 tl9 h9 tk9 F9 N9 up9 td9; (try simp only [List.cons_append] at N9); (try k_sweep); (try dsimp only); (try k_fold)))) | with_reducible (k_here; (with_reducible show wpAny _ _ (call (Value.ref 277) _) _ _ _); k_dflt ( refine' spec_use (f := 277) (by k_asm) (by k_asm) (by k_asm) (by k_asm) (by k_asm) (by first | exact rfl | with_reducible assumption) (Tells.flip (by exact sub_refl _) (by exact tells_node 4 (tri_of' (by with_reducible assumption) (by k_mem) (by with_reducible assumption) (by with_reducible assumption) (by k_mem) (by with_reducible assumption) (by ktd_sub)))) (by exact Nat.le_of_ble_eq_true rfl) (by exact Nat.le_of_ble_eq_true rfl) (ret_made ?_); (intro r9 tl9 h9 tk9 F9 N9 up9 td9; (try simp only [List.cons_append] at N9); (try k_sweep); (try dsimp only); (try k_fold)))) | with_reducible (k_here; (with_reducible show wpAny _ _ (call (Value.ref 412) _) _ _ _); k_dflt (first | (refine' spec_use (f := 412) (by k_asm) (by k_asm) (by k_asm) (Pick.of (by k_asm) (by k_mem)) (by k_asm) (by first | exact rfl | with_reducible assumption) (Trees.use (trees _ _ 2) (by exact rfl) (by with_reducible assumption) (by k_all)) (by exact Nat.le_of_ble_eq_true rfl) (by exact Nat.le_of_ble_eq_true rfl) (ret_tree ?_); (intro r9 vs9 m9 d9 tl9 h9 tk9 F9 N9 up9 pp9 nd9 cn9; (try simp only [List.cons_append] at N9); (try k_sweep); (try dsimp only); (try k_fold))) | (refine' spec_use (f := 412) (by k_asm) (by k_asm) (by k_asm) (Pick.of (by k_asm) (by k_mem)) (by k_asm) (by first | exact rfl | with_reducible assumption) (Trees.use (trees _ _ 3) (by exact rfl) (by with_reducible assumption) (by k_all)) (by exact Nat.le_of_ble_eq_true rfl) (by exact Nat.le_of_ble_eq_true rfl) (ret_tree ?_); (intro r9 vs9 m9 d9 tl9 h9 tk9 F9 N9 up9 pp9 nd9 cn9; (try simp only [List.cons_append] at N9); (try k_sweep); (try dsimp only); (try k_fold)))))) | ((with_reducible show wpAny _ _ (call (Value.builtin "isinstance") _) _ _ _); first | with_reducible (k_here; (with_reducible show wpAny _ _ (call _ [Value.ref _, Value.ref _]) _ _ _); k_dflt (refine' isi_call (by k_in) (by k_types) (by k_is) (by intro e; cases e) ?_; k_whole))) | ((with_reducible show wpAny _ _ (binaryOp Operator.Mult (Value.ref _) (Value.int _ _)) _ _ _); first | with_reducible (k_here; (with_reducible show wpAny _ _ (binaryOp Operator.Mult (Value.ref _) (Value.int 3 _)) _ _ _); k_dflt (refine' mul3 (by k_asm) (by k_asm) (by k_mem) ?_); intro D' h' F' N' l1; (try k_lt l1); (try k_sweep))) | ((with_reducible show wpAny _ _ (exec (Stmt.If _ _ _ _) _) _ _ _); first | with_reducible (k_here; refine wpAny_If ?_)) | ((with_reducible show LCg.CompEnd _ _ _ _ _ _ _ _ _ _ _ _ _ _); first | with_reducible (k_here; k_dflt (refine' compEnd_same (by k_asm) (by k_asm) (by exact (by with_reducible assumption : (_ ≠ _ ∧ _ ≠ _ ∧ _ ≠ _) ∧ _)) (by exact Or.inr ⟨_, by k_mem, rfl, _, rfl⟩) ?_)) | (k_here; k_dflt (refine' compEnd_same (by k_asm) (by k_asm) (by exact (by with_reducible assumption : (_ ≠ _ ∧ _ ≠ _ ∧ _ ≠ _) ∧ _)) (by exact Or.inr ⟨_, by k_mem, rfl, _, rfl⟩) ?_))) | ((with_reducible show LCt.CompSrcT _ _ _ _ _ _ _ _ _ _ _ _ _ _ _); first | with_reducible (k_here; k_dflt (refine' LCt.CompSrcT.ledger rfl (by k_asm) (by k_asm) (by k_mem) (by exact Nat.le_of_ble_eq_true rfl) ?_); intro g9)) | ((with_reducible show wpAny _ _ (eval (Expr.ListComp _ _ _ _) _) _ _ _); first | with_reducible (k_here; k_dflt (refine LCt.ListComp_T (F₀ := by k_asm) (by with_unfolding_all rfl) (by decide) (by rfl) (by decide) (by rfl) ?_))) | ((with_reducible show wpAny _ _ (subscriptTail _ _ _ _) _ _ _); first | with_reducible (k_here; (with_reducible show wpAny _ _ (subscriptTail _ _ (Value.ref _) (Value.int _ _)) _ _ _); (fail_if_success (with_reducible show wpAny _ _ (subscriptTail _ _ (Value.ref _) (Value.int 0 _)) _ _ _)); k_dflt (refine' menu3 (by k_asm) (by k_mem) (by with_reducible assumption) (by with_reducible assumption) ?_); intro v9 pv9) | with_reducible (k_here; (with_reducible show wpAny _ _ (subscriptTail _ _ (Value.ref _) (Value.int 0 _)) _ _ _); k_dflt (refine' item0_N (by k_asm) (by k_mem) ?_)) | with_reducible (k_here; (with_reducible show wpAny _ _ (subscriptTail _ _ (Value.ref _) (Value.str _ _)) _ _ _); k_dflt (refine' kda_item (knd := PySem.strKind _ _) (by k_asm) (by k_mem) (by with_reducible assumption) (strKind_is _ _ _ _) (by exact val_hd) ?_))) | ((with_reducible show wpAny _ _ (call (Value.builtin "len") _) _ _ _); first | with_reducible (k_here; (with_reducible show wpAny _ _ (call (Value.builtin "len") [Value.ref _]) _ _ _); k_dflt (refine' len_N (by k_asm) (by k_mem) (by omega) ?_))) | ((with_reducible show wpAny _ _ (compareOp CmpOp.NotEq _ _) _ _ _); first | with_reducible (k_here; k_dflt (refine' ne_told (by k_asm) (by with_reducible assumption) (by ktd_sub) (by with_reducible assumption) (by ktd_sub) (ok_node 4 _) (by decide) (by exact Nat.le_of_ble_eq_true rfl) ?_))) | ((with_reducible show LawEnd _ _ _); first | with_reducible (k_here; refine Stop.out ?_)) | ((with_reducible show LawCut _ _ _ _ _ _); first | with_reducible (k_here; refine Stop.out ?_)) | walk1 | (dsimp only; walk1))
    unfold Stop
    exact ⟨_, _, rfl, P, t, b, _, sv, r, wh, pl, kd, tw, LawP.intro (by k_asm) (by k_asm) (by k_mem) hp0 fun _ _ => trivial⟩
  clear F0 N0 hp0 ho0 hTP ht0 hS0 hT0 he3 hr0
  intro h9 tk9 c9
  obtain ⟨P, t, b, hu, sv, r, wh, pl, kd, tw, pv, pn, base, F0, N0, hp0, ho0, _⟩ := c9
  with_reducible refine cut_lawR ((Law15 w) s₁.heap s₁.heap.objs.size m0) ?_ ?_
  · skip
    clear vG vY vMX vLA vGL vTB vTE vTW vBM vhcd vDf vra vwl vr0 vrw
    repeat' (first | (k_unfold; (try dsimp only)) | ((with_reducible show wpAny _ _ (call (Value.ref _) _) _ _ _); first | with_reducible (k_here; (with_reducible show wpAny _ _ (call (Value.ref 363) []) _ _ _); k_dflt ( refine' spec_use (f := 363) (by k_asm) (by k_asm) (by k_asm) (by k_asm) (by k_asm) (by first | exact rfl | with_reducible assumption) (shelf_new0 _ _) (by exact Nat.le_of_ble_eq_true rfl) (by exact Nat.le_of_ble_eq_true rfl) (ret_shelf0 ?_); (intro x9 d9 a9 c9 m9 t9 o9 q9 u9 h9 tk9 F9 N9 b9 i9 l9 k9 v9 w9 y9 z9 f9 g9 j9; (try k_lt l9); (try k_lt2 k9); (try k_lt2 v9); (try k_lt2 w9); (try k_lt2 z9); (try k_lt2 f9); (try k_lt2 g9); (try k_lt y9); (try k_lt j9); (try k_sweep); (try dsimp only); (try k_fold)))) | with_reducible (k_here; (with_reducible show wpAny _ _ (call (Value.ref 363) [Value.ref _, Value.ref _]) _ _ _); k_dflt ( refine' spec_use (f := 363) (by k_asm) (by k_asm) (by k_asm) (by k_asm) (by k_asm) (by first | exact rfl | with_reducible assumption) (shelf_new _ _ _ _) (by exact Nat.le_of_ble_eq_true rfl) (by exact Nat.le_of_ble_eq_true rfl) (ret_obj ?_); (intro x9 d9 a9 c9 m9 h9 tk9 F9 N9 l9 k9; (try k_lt l9); (try k_lt2 k9); (try k_sweep); (try dsimp only); (try k_fold)))) | with_reducible (k_here; (with_reducible show wpAny _ _ (call (Value.ref 254) [Value.int _ _, Value.int _ _]) _ _ _); k_dflt ( refine' spec_use (f := 254) (by k_asm) (by k_asm) (by k_asm) (by k_asm) (by k_asm) (by first | exact rfl | with_reducible assumption) (ref_new _ _ _ _ _ _) (by exact Nat.le_of_ble_eq_true rfl) (by exact Nat.le_of_ble_eq_true rfl) (ret_obj ?_); (intro x9 d9 a9 c9 m9 h9 tk9 F9 N9 l9 k9; (try k_lt l9); (try k_lt2 k9); (try k_sweep); (try dsimp only); (try k_fold)))) | with_reducible (k_here; (with_reducible show wpAny _ _ (call (Value.ref 429) _) _ _ _); k_dflt ( refine' spec_useT (f := 429) (by k_asm) (by k_asm) (by k_asm) (by k_asm) (by k_asm) (by first | exact rfl | with_reducible assumption) (refused _ _ _ _ _ (Refuse.flip (by k_mem) (by k_mem) (by with_reducible assumption) (by ktd_sub))) (by exact Nat.le_of_ble_eq_true rfl) (by exact Nat.le_of_ble_eq_true rfl) (ret_same ?_); (intro h9 tk9 F9 N9; (try k_sweep); (try dsimp only); (try k_fold)))) | with_reducible (k_here; (with_reducible show wpAny _ _ (call (Value.ref 407) _) _ _ _); k_dflt ( refine' spec_use (f := 407) (by k_asm) (by k_asm) (by k_asm) (Pick.of (by k_asm) (by k_mem)) (by k_asm) (by first | exact rfl | with_reducible assumption) (take_any _ _ _ _ (by with_reducible assumption) _ _ _ (by k_all) (by decide)) (by exact Nat.le_of_ble_eq_true rfl) (by exact Nat.le_of_ble_eq_true rfl) (ret_take ?_); (intro d9 t9 vs9 k9 h9 tk9 F9 N9 lo9 hi9 po9; (try k_sweep); (try dsimp only); (try k_fold)))) | with_reducible (k_here; (with_reducible show wpAny _ _ (call (Value.ref 334) _) _ _ _); k_dflt ( refine' spec_use (f := 334) (by k_asm) (by k_asm) (by k_asm) (by k_asm) (by k_asm) (by first | exact rfl | with_reducible assumption) (add_pick (by with_reducible assumption) (by k_mem) (by k_all) (by with_reducible assumption) (by first | omega | (simp only [List.length_append, List.length_cons, List.length_nil]; omega)) (by k_mem) (by k_mem)) (by exact Nat.le_of_ble_eq_true rfl) (by exact Nat.le_of_ble_eq_true rfl) (ret_add ?_); (intro r9 o9 tl9 t9 tt9 m9 h9 tk9 F9 N9 up9' tb9 mem9 ref9; have up9 := up9'.apart; (try simp only [List.cons_append] at N9); (try k_sweep); (try dsimp only); (try k_fold)))) | with_reducible (k_here; (with_reducible show wpAny _ _ (call (Value.ref 422) _) _ _ _); k_dflt ( refine' spec_use (f := 422) (by k_asm) (by k_asm) (by k_asm) (by k_asm) (by k_asm) (by first | exact rfl | with_reducible assumption) (Hangs.use (by with_reducible assumption) (by ktd_sub) (by with_reducible assumption) (by with_reducible assumption) (by with_reducible assumption) (by (first | omega | (simp only [List.length_nil]; omega)))) (by exact Nat.le_of_ble_eq_true rfl) (by exact Nat.le_of_ble_eq_true rfl) (ret_hung ?_); (intro r9 o9 vs9 m9 tl9 more9 h9 tk9 F9 N9 pp9 up9 tb9 lm9 st9; (try simp only [List.cons_append] at N9); (try k_sweep); (try dsimp only); (try k_fold)))) | with_reducible (k_here; (with_reducible show wpAny _ _ (call (Value.ref 400) _) _ _ _); k_dflt ( refine' spec_use (f := 400) (by k_asm) (by k_asm) (by k_asm) (by k_asm) (by k_asm) (by first | exact rfl | with_reducible assumption) (GathN.use (by with_reducible assumption) (by ktd_sub)) (by exact Nat.le_of_ble_eq_true rfl) (by exact Nat.le_of_ble_eq_true rfl) (ret_made ?_); (intro r9 tl9 h9 tk9 F9 N9 up9 nd9; have tn9 := tells_node 4 nd9; (try simp only [List.cons_append] at nd9 tn9); (try simp only [List.cons_append] at N9); (try k_sweep); (try dsimp only); (try k_fold)))) | with_reducible (k_here; (with_reducible show wpAny _ _ (call (Value.ref 417) _) _ _ _); k_dflt ( refine' spec_use (f := 417) (by k_asm) (by k_asm) (by k_asm) (by k_asm) (by k_asm) (by first | exact rfl | with_reducible assumption) (Counts.use (by with_reducible assumption) (by ktd_sub)) (by exact Nat.le_of_ble_eq_true rfl) (by exact Nat.le_of_ble_eq_true rfl) (ret_int ?_); (intro t9 tl9 h9 tk9 F9 N9 up9; (try simp only [List.cons_append] at N9); (try k_sweep); (try dsimp only); (try k_fold)))) | with_reducible (k_here; (with_reducible show wpAny _ _ (call (Value.ref 348) _) _ _ _); k_dflt ( refine' spec_use (f := 348) (by k_asm) (by k_asm) (by k_asm) (by k_asm) (by k_asm) (by first | exact rfl | with_reducible assumption) (numbers_use (by k_mem) (by k_mem) (by k_mem) (by with_reducible assumption) (by with_reducible assumption) (by omega)) (by exact Nat.le_of_ble_eq_true rfl) (by exact Nat.le_of_ble_eq_true rfl) (ret_nums ?_); (intro b9 vs9 m9 tl9 h9 tk9 F9 N9 up9 mb9 ln9; (try simp only [List.cons_append] at N9); (try k_sweep); (try dsimp only); (try k_fold)))) | with_reducible (k_here; (with_reducible show wpAny _ _ (call (Value.ref 391) _) _ _ _); k_dflt ( refine' spec_use (f := 391) (by k_asm) (by k_asm) (by k_asm) (by k_asm) (by k_asm) (by first | exact rfl | with_reducible assumption) (Lays.use (by with_reducible assumption) (by ktd_sub) (by with_reducible assumption) (by with_reducible assumption) (by (simp only [List.length_nil]; omega))) (by exact Nat.le_of_ble_eq_true rfl) (by exact Nat.le_of_ble_eq_true rfl) (ret_laid ?_); (intro r9 o9 tl9 m9 h9 tk9 F9 N9 up9 t9 c9 st9 kr9; (try simp only [List.cons_append] at N9); (try k_sweep); (try dsimp only); (try k_fold)))) | with_reducible (k_here; (with_reducible show wpAny _ _ (call (Value.ref 277) _) _ _ _); k_dflt ( refine' spec_use (f := 277) (by k_asm) (by k_asm) (by k_asm) (by k_asm) (by k_asm) (by first | exact rfl | with_reducible assumption) (Tells.use (by with_reducible assumption) (by ktd_sub)) (by exact Nat.le_of_ble_eq_true rfl) (by exact Nat.le_of_ble_eq_true rfl) (ret_made ?_); (intro r9 tl9 h9 tk9 F9 N9 up9 td9; (try simp only [List.cons_append] at N9); (try k_sweep); (try dsimp only); (try k_fold)))) | with_reducible (k_here; (with_reducible show wpAny _ _ (call (Value.ref 277) _) _ _ _); k_dflt ( refine' spec_use (f := 277) (by k_asm) (by k_asm) (by k_asm) (by k_asm) (by k_asm) (by first | exact rfl | with_reducible assumption) (Tells.flip (by exact sub_refl _) (by exact tells_node 4 (tri_of' (by with_reducible assumption) (by k_mem) (by with_reducible assumption) (by with_reducible assumption) (by k_mem) (by with_reducible assumption) (by ktd_sub)))) (by exact Nat.le_of_ble_eq_true rfl) (by exact Nat.le_of_ble_eq_true rfl) (ret_made ?_); (intro r9 tl9 h9 tk9 F9 N9 up9 td9; (try simp only [List.cons_append] at N9); (try k_sweep); (try dsimp only); (try k_fold)))) | with_reducible (k_here; (with_reducible show wpAny _ _ (call (Value.ref 412) _) _ _ _); k_dflt (first | (refine' spec_use (f := 412) (by k_asm) (by k_asm) (by k_asm) (Pick.of (by k_asm) (by k_mem)) (by k_asm) (by first | exact rfl | with_reducible assumption) (Trees.use (trees _ _ 2) (by exact rfl) (by with_reducible assumption) (by k_all)) (by exact Nat.le_of_ble_eq_true rfl) (by exact Nat.le_of_ble_eq_true rfl) (ret_tree ?_); (intro r9 vs9 m9 d9 tl9 h9 tk9 F9 N9 up9 pp9 nd9 cn9; (try simp only [List.cons_append] at N9); (try k_sweep); (try dsimp only); (try k_fold))) | (refine' spec_use (f := 412) (by k_asm) (by k_asm) (by k_asm) (Pick.of (by k_asm) (by k_mem)) (by k_asm) (by first | exact rfl | with_reducible assumption) (Trees.use (trees _ _ 3) (by exact rfl) (by with_reducible assumption) (by k_all)) (by exact Nat.le_of_ble_eq_true rfl) (by exact Nat.le_of_ble_eq_true rfl) (ret_tree ?_); (intro r9 vs9 m9 d9 tl9 h9 tk9 F9 N9 up9 pp9 nd9 cn9; (try simp only [List.cons_append] at N9); (try k_sweep); (try dsimp only); (try k_fold)))))) | ((with_reducible show wpAny _ _ (call (Value.builtin "isinstance") _) _ _ _); first | with_reducible (k_here; (with_reducible show wpAny _ _ (call _ [Value.ref _, Value.ref _]) _ _ _); k_dflt (refine' isi_call (by k_in) (by k_types) (by k_is) (by intro e; cases e) ?_; k_whole))) | ((with_reducible show wpAny _ _ (binaryOp Operator.Mult (Value.ref _) (Value.int _ _)) _ _ _); first | with_reducible (k_here; (with_reducible show wpAny _ _ (binaryOp Operator.Mult (Value.ref _) (Value.int 3 _)) _ _ _); k_dflt (refine' mul3 (by k_asm) (by k_asm) (by k_mem) ?_); intro D' h' F' N' l1; (try k_lt l1); (try k_sweep))) | ((with_reducible show wpAny _ _ (exec (Stmt.If _ _ _ _) _) _ _ _); first | with_reducible (k_here; refine wpAny_If ?_)) | ((with_reducible show LCg.CompEnd _ _ _ _ _ _ _ _ _ _ _ _ _ _); first | with_reducible (k_here; k_dflt (refine' compEnd_same (by k_asm) (by k_asm) (by exact (by with_reducible assumption : (_ ≠ _ ∧ _ ≠ _ ∧ _ ≠ _) ∧ _)) (by exact Or.inr ⟨_, by k_mem, rfl, _, rfl⟩) ?_)) | (k_here; k_dflt (refine' compEnd_same (by k_asm) (by k_asm) (by exact (by with_reducible assumption : (_ ≠ _ ∧ _ ≠ _ ∧ _ ≠ _) ∧ _)) (by exact Or.inr ⟨_, by k_mem, rfl, _, rfl⟩) ?_))) | ((with_reducible show LCt.CompSrcT _ _ _ _ _ _ _ _ _ _ _ _ _ _ _); first | with_reducible (k_here; k_dflt (refine' LCt.CompSrcT.ledger rfl (by k_asm) (by k_asm) (by k_mem) (by exact Nat.le_of_ble_eq_true rfl) ?_); intro g9)) | ((with_reducible show wpAny _ _ (eval (Expr.ListComp _ _ _ _) _) _ _ _); first | with_reducible (k_here; k_dflt (refine LCt.ListComp_T (F₀ := by k_asm) (by with_unfolding_all rfl) (by decide) (by rfl) (by decide) (by rfl) ?_))) | ((with_reducible show wpAny _ _ (subscriptTail _ _ _ _) _ _ _); first | with_reducible (k_here; (with_reducible show wpAny _ _ (subscriptTail _ _ (Value.ref _) (Value.int _ _)) _ _ _); (fail_if_success (with_reducible show wpAny _ _ (subscriptTail _ _ (Value.ref _) (Value.int 0 _)) _ _ _)); k_dflt (refine' menu3 (by k_asm) (by k_mem) (by with_reducible assumption) (by with_reducible assumption) ?_); intro v9 pv9) | with_reducible (k_here; (with_reducible show wpAny _ _ (subscriptTail _ _ (Value.ref _) (Value.int 0 _)) _ _ _); k_dflt (refine' item0_N (by k_asm) (by k_mem) ?_)) | with_reducible (k_here; (with_reducible show wpAny _ _ (subscriptTail _ _ (Value.ref _) (Value.str _ _)) _ _ _); k_dflt (refine' kda_item (knd := PySem.strKind _ _) (by k_asm) (by k_mem) (by with_reducible assumption) (strKind_is _ _ _ _) (by exact val_hd) ?_))) | ((with_reducible show wpAny _ _ (call (Value.builtin "len") _) _ _ _); first | with_reducible (k_here; (with_reducible show wpAny _ _ (call (Value.builtin "len") [Value.ref _]) _ _ _); k_dflt (refine' len_N (by k_asm) (by k_mem) (by omega) ?_))) | ((with_reducible show wpAny _ _ (compareOp CmpOp.NotEq _ _) _ _ _); first | with_reducible (k_here; k_dflt (refine' ne_told (by k_asm) (by with_reducible assumption) (by ktd_sub) (by with_reducible assumption) (by ktd_sub) (ok_node 4 _) (by decide) (by exact Nat.le_of_ble_eq_true rfl) ?_))) | ((with_reducible show LawEnd _ _ _); first | with_reducible (k_here; refine Stop.out ?_)) | ((with_reducible show LawCut _ _ _ _ _ _); first | with_reducible (k_here; refine Stop.out ?_)) | walk1 | (dsimp only; walk1))
    unfold Stop
    exact ⟨_, _, rfl, P, t, b, hu, sv, r, wh, pl, kd, tw, _, LawP.intro (by k_asm) (by k_asm) (by k_mem) hp0 fun base' hk => ring_of (hk _ (by k_mem) (by dsimp only; omega)) (hk _ (by k_mem) (by dsimp only; omega)) (hk _ (by k_mem) (by dsimp only; omega)) (by with_reducible assumption) (by with_reducible assumption) (rowAt_of (by decide) rfl (hk _ (by k_mem) (by dsimp only; omega)) (hk _ (by k_mem) (by dsimp only; omega)) (by with_reducible assumption) (by with_reducible assumption) (hk _ (by k_mem) (by dsimp only; omega))) (rowAt_of (by decide) rfl (hk _ (by k_mem) (by dsimp only; omega)) (hk _ (by k_mem) (by dsimp only; omega)) (by with_reducible assumption) (by with_reducible assumption) (hk _ (by k_mem) (by dsimp only; omega))) (rowAt_of (by decide) rfl (hk _ (by k_mem) (by dsimp only; omega)) (hk _ (by k_mem) (by dsimp only; omega)) (by with_reducible assumption) (by with_reducible assumption) (hk _ (by k_mem) (by dsimp only; omega))) (refI (hk _ (by k_mem) (by dsimp only; omega)) (hk _ (by k_mem) (by dsimp only; omega))) (refI (hk _ (by k_mem) (by dsimp only; omega)) (hk _ (by k_mem) (by dsimp only; omega))) (refI (hk _ (by k_mem) (by dsimp only; omega)) (hk _ (by k_mem) (by dsimp only; omega)))⟩
  clear F0 N0 hp0 ho0
  intro h9 tk9 c9
  obtain ⟨P, t, b, hu, sv, r, wh, pl, kd, tw, S, pv, pn, base, F0, N0, hp0, ho0, hE1⟩ := c9
  with_reducible refine cut_lawR ((Law16 w) s₁.heap s₁.heap.objs.size m0) ?_ ?_
  · skip
    clear vG vY vMX vLA vGL vTB vTE vTW vBM vhcd vDf vra vwl vr0 vrw
    repeat' (first | (k_unfold; (try dsimp only)) | ((with_reducible show wpAny _ _ (call (Value.ref _) _) _ _ _); first | with_reducible (k_here; (with_reducible show wpAny _ _ (call (Value.ref 363) []) _ _ _); k_dflt ( refine' spec_use (f := 363) (by k_asm) (by k_asm) (by k_asm) (by k_asm) (by k_asm) (by first | exact rfl | with_reducible assumption) (shelf_new0 _ _) (by exact Nat.le_of_ble_eq_true rfl) (by exact Nat.le_of_ble_eq_true rfl) (ret_shelf0 ?_); (intro x9 d9 a9 c9 m9 t9 o9 q9 u9 h9 tk9 F9 N9 b9 i9 l9 k9 v9 w9 y9 z9 f9 g9 j9; (try k_lt l9); (try k_lt2 k9); (try k_lt2 v9); (try k_lt2 w9); (try k_lt2 z9); (try k_lt2 f9); (try k_lt2 g9); (try k_lt y9); (try k_lt j9); (try k_sweep); (try dsimp only); (try k_fold)))) | with_reducible (k_here; (with_reducible show wpAny _ _ (call (Value.ref 363) [Value.ref _, Value.ref _]) _ _ _); k_dflt ( refine' spec_use (f := 363) (by k_asm) (by k_asm) (by k_asm) (by k_asm) (by k_asm) (by first | exact rfl | with_reducible assumption) (shelf_new _ _ _ _) (by exact Nat.le_of_ble_eq_true rfl) (by exact Nat.le_of_ble_eq_true rfl) (ret_obj ?_); (intro x9 d9 a9 c9 m9 h9 tk9 F9 N9 l9 k9; (try k_lt l9); (try k_lt2 k9); (try k_sweep); (try dsimp only); (try k_fold)))) | with_reducible (k_here; (with_reducible show wpAny _ _ (call (Value.ref 254) [Value.int _ _, Value.int _ _]) _ _ _); k_dflt ( refine' spec_use (f := 254) (by k_asm) (by k_asm) (by k_asm) (by k_asm) (by k_asm) (by first | exact rfl | with_reducible assumption) (ref_new _ _ _ _ _ _) (by exact Nat.le_of_ble_eq_true rfl) (by exact Nat.le_of_ble_eq_true rfl) (ret_obj ?_); (intro x9 d9 a9 c9 m9 h9 tk9 F9 N9 l9 k9; (try k_lt l9); (try k_lt2 k9); (try k_sweep); (try dsimp only); (try k_fold)))) | with_reducible (k_here; (with_reducible show wpAny _ _ (call (Value.ref 429) _) _ _ _); k_dflt ( refine' spec_useT (f := 429) (by k_asm) (by k_asm) (by k_asm) (by k_asm) (by k_asm) (by first | exact rfl | with_reducible assumption) (refused _ _ _ _ _ (Refuse.flip (by k_mem) (by k_mem) (by with_reducible assumption) (by ktd_sub))) (by exact Nat.le_of_ble_eq_true rfl) (by exact Nat.le_of_ble_eq_true rfl) (ret_same ?_); (intro h9 tk9 F9 N9; (try k_sweep); (try dsimp only); (try k_fold)))) | with_reducible (k_here; (with_reducible show wpAny _ _ (call (Value.ref 407) _) _ _ _); k_dflt ( refine' spec_use (f := 407) (by k_asm) (by k_asm) (by k_asm) (Pick.of (by k_asm) (by k_mem)) (by k_asm) (by first | exact rfl | with_reducible assumption) (take_any _ _ _ _ (by with_reducible assumption) _ _ _ (by k_all) (by decide)) (by exact Nat.le_of_ble_eq_true rfl) (by exact Nat.le_of_ble_eq_true rfl) (ret_take ?_); (intro d9 t9 vs9 k9 h9 tk9 F9 N9 lo9 hi9 po9; (try k_sweep); (try dsimp only); (try k_fold)))) | with_reducible (k_here; (with_reducible show wpAny _ _ (call (Value.ref 334) _) _ _ _); k_dflt ( refine' spec_use (f := 334) (by k_asm) (by k_asm) (by k_asm) (by k_asm) (by k_asm) (by first | exact rfl | with_reducible assumption) (add_pick (by with_reducible assumption) (by k_mem) (by k_all) (by with_reducible assumption) (by first | omega | (simp only [List.length_append, List.length_cons, List.length_nil]; omega)) (by k_mem) (by k_mem)) (by exact Nat.le_of_ble_eq_true rfl) (by exact Nat.le_of_ble_eq_true rfl) (ret_add ?_); (intro r9 o9 tl9 t9 tt9 m9 h9 tk9 F9 N9 up9' tb9 mem9 ref9; have up9 := up9'.apart; (try simp only [List.cons_append] at N9); (try k_sweep); (try dsimp only); (try k_fold)))) | with_reducible (k_here; (with_reducible show wpAny _ _ (call (Value.ref 422) _) _ _ _); k_dflt ( refine' spec_use (f := 422) (by k_asm) (by k_asm) (by k_asm) (by k_asm) (by k_asm) (by first | exact rfl | with_reducible assumption) (Hangs.use (by with_reducible assumption) (by ktd_sub) (by with_reducible assumption) (by with_reducible assumption) (by with_reducible assumption) (by (first | omega | (simp only [List.length_nil]; omega)))) (by exact Nat.le_of_ble_eq_true rfl) (by exact Nat.le_of_ble_eq_true rfl) (ret_hung ?_); (intro r9 o9 vs9 m9 tl9 more9 h9 tk9 F9 N9 pp9 up9 tb9 lm9 st9; (try simp only [List.cons_append] at N9); (try k_sweep); (try dsimp only); (try k_fold)))) | with_reducible (k_here; (with_reducible show wpAny _ _ (call (Value.ref 400) _) _ _ _); k_dflt ( refine' spec_use (f := 400) (by k_asm) (by k_asm) (by k_asm) (by k_asm) (by k_asm) (by first | exact rfl | with_reducible assumption) (GathN.use (by with_reducible assumption) (by ktd_sub)) (by exact Nat.le_of_ble_eq_true rfl) (by exact Nat.le_of_ble_eq_true rfl) (ret_made ?_); (intro r9 tl9 h9 tk9 F9 N9 up9 nd9; have tn9 := tells_node 4 nd9; (try simp only [List.cons_append] at nd9 tn9); (try simp only [List.cons_append] at N9); (try k_sweep); (try dsimp only); (try k_fold)))) | with_reducible (k_here; (with_reducible show wpAny _ _ (call (Value.ref 417) _) _ _ _); k_dflt ( refine' spec_use (f := 417) (by k_asm) (by k_asm) (by k_asm) (by k_asm) (by k_asm) (by first | exact rfl | with_reducible assumption) (Counts.use (by with_reducible assumption) (by ktd_sub)) (by exact Nat.le_of_ble_eq_true rfl) (by exact Nat.le_of_ble_eq_true rfl) (ret_int ?_); (intro t9 tl9 h9 tk9 F9 N9 up9; (try simp only [List.cons_append] at N9); (try k_sweep); (try dsimp only); (try k_fold)))) | with_reducible (k_here; (with_reducible show wpAny _ _ (call (Value.ref 348) _) _ _ _); k_dflt ( refine' spec_use (f := 348) (by k_asm) (by k_asm) (by k_asm) (by k_asm) (by k_asm) (by first | exact rfl | with_reducible assumption) (numbers_use (by k_mem) (by k_mem) (by k_mem) (by with_reducible assumption) (by with_reducible assumption) (by omega)) (by exact Nat.le_of_ble_eq_true rfl) (by exact Nat.le_of_ble_eq_true rfl) (ret_nums ?_); (intro b9 vs9 m9 tl9 h9 tk9 F9 N9 up9 mb9 ln9; (try simp only [List.cons_append] at N9); (try k_sweep); (try dsimp only); (try k_fold)))) | with_reducible (k_here; (with_reducible show wpAny _ _ (call (Value.ref 391) _) _ _ _); k_dflt ( refine' spec_use (f := 391) (by k_asm) (by k_asm) (by k_asm) (by k_asm) (by k_asm) (by first | exact rfl | with_reducible assumption) (Lays.use (by with_reducible assumption) (by ktd_sub) (by with_reducible assumption) (by with_reducible assumption) (by (simp only [List.length_nil]; omega))) (by exact Nat.le_of_ble_eq_true rfl) (by exact Nat.le_of_ble_eq_true rfl) (ret_laid ?_); (intro r9 o9 tl9 m9 h9 tk9 F9 N9 up9 t9 c9 st9 kr9; (try simp only [List.cons_append] at N9); (try k_sweep); (try dsimp only); (try k_fold)))) | with_reducible (k_here; (with_reducible show wpAny _ _ (call (Value.ref 277) _) _ _ _); k_dflt ( refine' spec_use (f := 277) (by k_asm) (by k_asm) (by k_asm) (by k_asm) (by k_asm) (by first | exact rfl | with_reducible assumption) (Tells.use (by with_reducible assumption) (by ktd_sub)) (by exact Nat.le_of_ble_eq_true rfl) (by exact Nat.le_of_ble_eq_true rfl) (ret_made ?_); (intro r9 tl9 h9 tk9 F9 N9 up9 td9; (try simp only [List.cons_append] at N9); (try k_sweep); (try dsimp only); (try k_fold)))) | with_reducible (k_here; (with_reducible show wpAny _ _ (call (Value.ref 277) _) _ _ _); k_dflt ( refine' spec_use (f := 277) (by k_asm) (by k_asm) (by k_asm) (by k_asm) (by k_asm) (by first | exact rfl | with_reducible assumption) (Tells.flip (by exact sub_refl _) (by exact tells_node 4 (tri_of' (by with_reducible assumption) (by k_mem) (by with_reducible assumption) (by with_reducible assumption) (by k_mem) (by with_reducible assumption) (by ktd_sub)))) (by exact Nat.le_of_ble_eq_true rfl) (by exact Nat.le_of_ble_eq_true rfl) (ret_made ?_); (intro r9 tl9 h9 tk9 F9 N9 up9 td9; (try simp only [List.cons_append] at N9); (try k_sweep); (try dsimp only); (try k_fold)))) | with_reducible (k_here; (with_reducible show wpAny _ _ (call (Value.ref 412) _) _ _ _); k_dflt (first | (refine' spec_use (f := 412) (by k_asm) (by k_asm) (by k_asm) (Pick.of (by k_asm) (by k_mem)) (by k_asm) (by first | exact rfl | with_reducible assumption) (Trees.use (trees _ _ 2) (by exact rfl) (by with_reducible assumption) (by k_all)) (by exact Nat.le_of_ble_eq_true rfl) (by exact Nat.le_of_ble_eq_true rfl) (ret_tree ?_); (intro r9 vs9 m9 d9 tl9 h9 tk9 F9 N9 up9 pp9 nd9 cn9; (try simp only [List.cons_append] at N9); (try k_sweep); (try dsimp only); (try k_fold))) | (refine' spec_use (f := 412) (by k_asm) (by k_asm) (by k_asm) (Pick.of (by k_asm) (by k_mem)) (by k_asm) (by first | exact rfl | with_reducible assumption) (Trees.use (trees _ _ 3) (by exact rfl) (by with_reducible assumption) (by k_all)) (by exact Nat.le_of_ble_eq_true rfl) (by exact Nat.le_of_ble_eq_true rfl) (ret_tree ?_); (intro r9 vs9 m9 d9 tl9 h9 tk9 F9 N9 up9 pp9 nd9 cn9; (try simp only [List.cons_append] at N9); (try k_sweep); (try dsimp only); (try k_fold)))))) | ((with_reducible show wpAny _ _ (call (Value.builtin "isinstance") _) _ _ _); first | with_reducible (k_here; (with_reducible show wpAny _ _ (call _ [Value.ref _, Value.ref _]) _ _ _); k_dflt (refine' isi_call (by k_in) (by k_types) (by k_is) (by intro e; cases e) ?_; k_whole))) | ((with_reducible show wpAny _ _ (binaryOp Operator.Mult (Value.ref _) (Value.int _ _)) _ _ _); first | with_reducible (k_here; (with_reducible show wpAny _ _ (binaryOp Operator.Mult (Value.ref _) (Value.int 3 _)) _ _ _); k_dflt (refine' mul3 (by k_asm) (by k_asm) (by k_mem) ?_); intro D' h' F' N' l1; (try k_lt l1); (try k_sweep))) | ((with_reducible show wpAny _ _ (exec (Stmt.If _ _ _ _) _) _ _ _); first | with_reducible (k_here; refine wpAny_If ?_)) | ((with_reducible show LCg.CompEnd _ _ _ _ _ _ _ _ _ _ _ _ _ _); first | with_reducible (k_here; k_dflt (refine' compEnd_same (by k_asm) (by k_asm) (by exact (by with_reducible assumption : (_ ≠ _ ∧ _ ≠ _ ∧ _ ≠ _) ∧ _)) (by exact Or.inr ⟨_, by k_mem, rfl, _, rfl⟩) ?_)) | (k_here; k_dflt (refine' compEnd_same (by k_asm) (by k_asm) (by exact (by with_reducible assumption : (_ ≠ _ ∧ _ ≠ _ ∧ _ ≠ _) ∧ _)) (by exact Or.inr ⟨_, by k_mem, rfl, _, rfl⟩) ?_))) | ((with_reducible show LCt.CompSrcT _ _ _ _ _ _ _ _ _ _ _ _ _ _ _); first | with_reducible (k_here; k_dflt (refine' LCt.CompSrcT.ledger rfl (by k_asm) (by k_asm) (by k_mem) (by exact Nat.le_of_ble_eq_true rfl) ?_); intro g9)) | ((with_reducible show wpAny _ _ (eval (Expr.ListComp _ _ _ _) _) _ _ _); first | with_reducible (k_here; k_dflt (refine LCt.ListComp_T (F₀ := by k_asm) (by with_unfolding_all rfl) (by decide) (by rfl) (by decide) (by rfl) ?_))) | ((with_reducible show wpAny _ _ (subscriptTail _ _ _ _) _ _ _); first | with_reducible (k_here; (with_reducible show wpAny _ _ (subscriptTail _ _ (Value.ref _) (Value.int _ _)) _ _ _); (fail_if_success (with_reducible show wpAny _ _ (subscriptTail _ _ (Value.ref _) (Value.int 0 _)) _ _ _)); k_dflt (refine' menu3 (by k_asm) (by k_mem) (by with_reducible assumption) (by with_reducible assumption) ?_); intro v9 pv9) | with_reducible (k_here; (with_reducible show wpAny _ _ (subscriptTail _ _ (Value.ref _) (Value.int 0 _)) _ _ _); k_dflt (refine' item0_N (by k_asm) (by k_mem) ?_)) | with_reducible (k_here; (with_reducible show wpAny _ _ (subscriptTail _ _ (Value.ref _) (Value.str _ _)) _ _ _); k_dflt (refine' kda_item (knd := PySem.strKind _ _) (by k_asm) (by k_mem) (by with_reducible assumption) (strKind_is _ _ _ _) (by exact val_hd) ?_))) | ((with_reducible show wpAny _ _ (call (Value.builtin "len") _) _ _ _); first | with_reducible (k_here; (with_reducible show wpAny _ _ (call (Value.builtin "len") [Value.ref _]) _ _ _); k_dflt (refine' len_N (by k_asm) (by k_mem) (by omega) ?_))) | ((with_reducible show wpAny _ _ (compareOp CmpOp.NotEq _ _) _ _ _); first | with_reducible (k_here; k_dflt (refine' ne_told (by k_asm) (by with_reducible assumption) (by ktd_sub) (by with_reducible assumption) (by ktd_sub) (ok_node 4 _) (by decide) (by exact Nat.le_of_ble_eq_true rfl) ?_))) | ((with_reducible show LawEnd _ _ _); first | with_reducible (k_here; refine Stop.out ?_)) | ((with_reducible show LawCut _ _ _ _ _ _); first | with_reducible (k_here; refine Stop.out ?_)) | walk1 | (dsimp only; walk1))
    unfold Stop
    exact ⟨_, _, rfl, P, t, b, hu, sv, r, wh, pl, kd, tw, S, _, LawP.intro (by k_asm) (by k_asm) (by k_mem) (by with_reducible assumption) fun base' hk => ⟨hE1.mono (keep_P hk (by ktd_sub) ho0), odd_of (hk _ (by k_mem) (by dsimp only; omega)) (hk _ (by k_mem) (by dsimp only; omega)) (hk _ (by k_mem) (by dsimp only; omega)) (by with_reducible assumption) (by with_reducible assumption) (rowAt_of (by decide) rfl (hk _ (by k_mem) (by dsimp only; omega)) (hk _ (by k_mem) (by dsimp only; omega)) (by with_reducible assumption) (by with_reducible assumption) (hk _ (by k_mem) (by dsimp only; omega))) (refI (hk _ (by k_mem) (by dsimp only; omega)) (hk _ (by k_mem) (by dsimp only; omega))) (hk _ (by k_mem) (by dsimp only; omega)) (by with_reducible assumption)⟩⟩
  clear F0 N0 hp0 ho0 hE1
  intro h9 tk9 c9
  obtain ⟨P, t, b, hu, sv, r, wh, pl, kd, tw, S, S', pv, pn, base, F0, N0, hp0, ho0, hE1, hE2, hE3⟩ := c9
  repeat' (first | (k_unfold; (try dsimp only)) | ((with_reducible show wpAny _ _ (call (Value.ref _) _) _ _ _); first | with_reducible (k_here; (with_reducible show wpAny _ _ (call (Value.ref 363) []) _ _ _); k_dflt ( refine' spec_use (f := 363) (by k_asm) (by k_asm) (by k_asm) (by k_asm) (by k_asm) (by first | exact rfl | with_reducible assumption) (shelf_new0 _ _) (by exact Nat.le_of_ble_eq_true rfl) (by exact Nat.le_of_ble_eq_true rfl) (ret_shelf0 ?_); (intro x9 d9 a9 c9 m9 t9 o9 q9 u9 h9 tk9 F9 N9 b9 i9 l9 k9 v9 w9 y9 z9 f9 g9 j9; (try k_lt l9); (try k_lt2 k9); (try k_lt2 v9); (try k_lt2 w9); (try k_lt2 z9); (try k_lt2 f9); (try k_lt2 g9); (try k_lt y9); (try k_lt j9); (try k_sweep); (try dsimp only); (try k_fold)))) | with_reducible (k_here; (with_reducible show wpAny _ _ (call (Value.ref 363) [Value.ref _, Value.ref _]) _ _ _); k_dflt ( refine' spec_use (f := 363) (by k_asm) (by k_asm) (by k_asm) (by k_asm) (by k_asm) (by first | exact rfl | with_reducible assumption) (shelf_new _ _ _ _) (by exact Nat.le_of_ble_eq_true rfl) (by exact Nat.le_of_ble_eq_true rfl) (ret_obj ?_); (intro x9 d9 a9 c9 m9 h9 tk9 F9 N9 l9 k9; (try k_lt l9); (try k_lt2 k9); (try k_sweep); (try dsimp only); (try k_fold)))) | with_reducible (k_here; (with_reducible show wpAny _ _ (call (Value.ref 254) [Value.int _ _, Value.int _ _]) _ _ _); k_dflt ( refine' spec_use (f := 254) (by k_asm) (by k_asm) (by k_asm) (by k_asm) (by k_asm) (by first | exact rfl | with_reducible assumption) (ref_new _ _ _ _ _ _) (by exact Nat.le_of_ble_eq_true rfl) (by exact Nat.le_of_ble_eq_true rfl) (ret_obj ?_); (intro x9 d9 a9 c9 m9 h9 tk9 F9 N9 l9 k9; (try k_lt l9); (try k_lt2 k9); (try k_sweep); (try dsimp only); (try k_fold)))) | with_reducible (k_here; (with_reducible show wpAny _ _ (call (Value.ref 429) _) _ _ _); k_dflt ( refine' spec_useT (f := 429) (by k_asm) (by k_asm) (by k_asm) (by k_asm) (by k_asm) (by first | exact rfl | with_reducible assumption) (refused _ _ _ _ _ (Refuse.flip (by k_mem) (by k_mem) (by with_reducible assumption) (by ktd_sub))) (by exact Nat.le_of_ble_eq_true rfl) (by exact Nat.le_of_ble_eq_true rfl) (ret_same ?_); (intro h9 tk9 F9 N9; (try k_sweep); (try dsimp only); (try k_fold)))) | with_reducible (k_here; (with_reducible show wpAny _ _ (call (Value.ref 407) _) _ _ _); k_dflt ( refine' spec_use (f := 407) (by k_asm) (by k_asm) (by k_asm) (Pick.of (by k_asm) (by k_mem)) (by k_asm) (by first | exact rfl | with_reducible assumption) (take_any _ _ _ _ (by with_reducible assumption) _ _ _ (by k_all) (by decide)) (by exact Nat.le_of_ble_eq_true rfl) (by exact Nat.le_of_ble_eq_true rfl) (ret_take ?_); (intro d9 t9 vs9 k9 h9 tk9 F9 N9 lo9 hi9 po9; (try k_sweep); (try dsimp only); (try k_fold)))) | with_reducible (k_here; (with_reducible show wpAny _ _ (call (Value.ref 334) _) _ _ _); k_dflt ( refine' spec_use (f := 334) (by k_asm) (by k_asm) (by k_asm) (by k_asm) (by k_asm) (by first | exact rfl | with_reducible assumption) (add_pick (by with_reducible assumption) (by k_mem) (by k_all) (by with_reducible assumption) (by first | omega | (simp only [List.length_append, List.length_cons, List.length_nil]; omega)) (by k_mem) (by k_mem)) (by exact Nat.le_of_ble_eq_true rfl) (by exact Nat.le_of_ble_eq_true rfl) (ret_add ?_); (intro r9 o9 tl9 t9 tt9 m9 h9 tk9 F9 N9 up9' tb9 mem9 ref9; have up9 := up9'.apart; (try simp only [List.cons_append] at N9); (try k_sweep); (try dsimp only); (try k_fold)))) | with_reducible (k_here; (with_reducible show wpAny _ _ (call (Value.ref 422) _) _ _ _); k_dflt ( refine' spec_use (f := 422) (by k_asm) (by k_asm) (by k_asm) (by k_asm) (by k_asm) (by first | exact rfl | with_reducible assumption) (Hangs.use (by with_reducible assumption) (by ktd_sub) (by with_reducible assumption) (by with_reducible assumption) (by with_reducible assumption) (by (first | omega | (simp only [List.length_nil]; omega)))) (by exact Nat.le_of_ble_eq_true rfl) (by exact Nat.le_of_ble_eq_true rfl) (ret_hung ?_); (intro r9 o9 vs9 m9 tl9 more9 h9 tk9 F9 N9 pp9 up9 tb9 lm9 st9; (try simp only [List.cons_append] at N9); (try k_sweep); (try dsimp only); (try k_fold)))) | with_reducible (k_here; (with_reducible show wpAny _ _ (call (Value.ref 400) _) _ _ _); k_dflt ( refine' spec_use (f := 400) (by k_asm) (by k_asm) (by k_asm) (by k_asm) (by k_asm) (by first | exact rfl | with_reducible assumption) (GathN.use (by with_reducible assumption) (by ktd_sub)) (by exact Nat.le_of_ble_eq_true rfl) (by exact Nat.le_of_ble_eq_true rfl) (ret_made ?_); (intro r9 tl9 h9 tk9 F9 N9 up9 nd9; have tn9 := tells_node 4 nd9; (try simp only [List.cons_append] at nd9 tn9); (try simp only [List.cons_append] at N9); (try k_sweep); (try dsimp only); (try k_fold)))) | with_reducible (k_here; (with_reducible show wpAny _ _ (call (Value.ref 417) _) _ _ _); k_dflt ( refine' spec_use (f := 417) (by k_asm) (by k_asm) (by k_asm) (by k_asm) (by k_asm) (by first | exact rfl | with_reducible assumption) (Counts.use (by with_reducible assumption) (by ktd_sub)) (by exact Nat.le_of_ble_eq_true rfl) (by exact Nat.le_of_ble_eq_true rfl) (ret_int ?_); (intro t9 tl9 h9 tk9 F9 N9 up9; (try simp only [List.cons_append] at N9); (try k_sweep); (try dsimp only); (try k_fold)))) | with_reducible (k_here; (with_reducible show wpAny _ _ (call (Value.ref 348) _) _ _ _); k_dflt ( refine' spec_use (f := 348) (by k_asm) (by k_asm) (by k_asm) (by k_asm) (by k_asm) (by first | exact rfl | with_reducible assumption) (numbers_use (by k_mem) (by k_mem) (by k_mem) (by with_reducible assumption) (by with_reducible assumption) (by omega)) (by exact Nat.le_of_ble_eq_true rfl) (by exact Nat.le_of_ble_eq_true rfl) (ret_nums ?_); (intro b9 vs9 m9 tl9 h9 tk9 F9 N9 up9 mb9 ln9; (try simp only [List.cons_append] at N9); (try k_sweep); (try dsimp only); (try k_fold)))) | with_reducible (k_here; (with_reducible show wpAny _ _ (call (Value.ref 391) _) _ _ _); k_dflt ( refine' spec_use (f := 391) (by k_asm) (by k_asm) (by k_asm) (by k_asm) (by k_asm) (by first | exact rfl | with_reducible assumption) (Lays.use (by with_reducible assumption) (by ktd_sub) (by with_reducible assumption) (by with_reducible assumption) (by (simp only [List.length_nil]; omega))) (by exact Nat.le_of_ble_eq_true rfl) (by exact Nat.le_of_ble_eq_true rfl) (ret_laid ?_); (intro r9 o9 tl9 m9 h9 tk9 F9 N9 up9 t9 c9 st9 kr9; (try simp only [List.cons_append] at N9); (try k_sweep); (try dsimp only); (try k_fold)))) | with_reducible (k_here; (with_reducible show wpAny _ _ (call (Value.ref 277) _) _ _ _); k_dflt ( refine' spec_use (f := 277) (by k_asm) (by k_asm) (by k_asm) (by k_asm) (by k_asm) (by first | exact rfl | with_reducible assumption) (Tells.use (by with_reducible assumption) (by ktd_sub)) (by exact Nat.le_of_ble_eq_true rfl) (by exact Nat.le_of_ble_eq_true rfl) (ret_made ?_); (intro r9 tl9 h9 tk9 F9 N9 up9 td9; (try simp only [List.cons_append] at N9); (try k_sweep); (try dsimp only); (try k_fold)))) | with_reducible (k_here; (with_reducible show wpAny _ _ (call (Value.ref 277) _) _ _ _); k_dflt ( refine' spec_use (f := 277) (by k_asm) (by k_asm) (by k_asm) (by k_asm) (by k_asm) (by first | exact rfl | with_reducible assumption) (Tells.flip (by exact sub_refl _) (by exact tells_node 4 (tri_of' (by with_reducible assumption) (by k_mem) (by with_reducible assumption) (by with_reducible assumption) (by k_mem) (by with_reducible assumption) (by ktd_sub)))) (by exact Nat.le_of_ble_eq_true rfl) (by exact Nat.le_of_ble_eq_true rfl) (ret_made ?_); (intro r9 tl9 h9 tk9 F9 N9 up9 td9; (try simp only [List.cons_append] at N9); (try k_sweep); (try dsimp only); (try k_fold)))) | with_reducible (k_here; (with_reducible show wpAny _ _ (call (Value.ref 412) _) _ _ _); k_dflt (first | (refine' spec_use (f := 412) (by k_asm) (by k_asm) (by k_asm) (Pick.of (by k_asm) (by k_mem)) (by k_asm) (by first | exact rfl | with_reducible assumption) (Trees.use (trees _ _ 2) (by exact rfl) (by with_reducible assumption) (by k_all)) (by exact Nat.le_of_ble_eq_true rfl) (by exact Nat.le_of_ble_eq_true rfl) (ret_tree ?_); (intro r9 vs9 m9 d9 tl9 h9 tk9 F9 N9 up9 pp9 nd9 cn9; (try simp only [List.cons_append] at N9); (try k_sweep); (try dsimp only); (try k_fold))) | (refine' spec_use (f := 412) (by k_asm) (by k_asm) (by k_asm) (Pick.of (by k_asm) (by k_mem)) (by k_asm) (by first | exact rfl | with_reducible assumption) (Trees.use (trees _ _ 3) (by exact rfl) (by with_reducible assumption) (by k_all)) (by exact Nat.le_of_ble_eq_true rfl) (by exact Nat.le_of_ble_eq_true rfl) (ret_tree ?_); (intro r9 vs9 m9 d9 tl9 h9 tk9 F9 N9 up9 pp9 nd9 cn9; (try simp only [List.cons_append] at N9); (try k_sweep); (try dsimp only); (try k_fold)))))) | ((with_reducible show wpAny _ _ (call (Value.builtin "isinstance") _) _ _ _); first | with_reducible (k_here; (with_reducible show wpAny _ _ (call _ [Value.ref _, Value.ref _]) _ _ _); k_dflt (refine' isi_call (by k_in) (by k_types) (by k_is) (by intro e; cases e) ?_; k_whole))) | ((with_reducible show wpAny _ _ (binaryOp Operator.Mult (Value.ref _) (Value.int _ _)) _ _ _); first | with_reducible (k_here; (with_reducible show wpAny _ _ (binaryOp Operator.Mult (Value.ref _) (Value.int 3 _)) _ _ _); k_dflt (refine' mul3 (by k_asm) (by k_asm) (by k_mem) ?_); intro D' h' F' N' l1; (try k_lt l1); (try k_sweep))) | ((with_reducible show wpAny _ _ (exec (Stmt.If _ _ _ _) _) _ _ _); first | with_reducible (k_here; refine wpAny_If ?_)) | ((with_reducible show LCg.CompEnd _ _ _ _ _ _ _ _ _ _ _ _ _ _); first | with_reducible (k_here; k_dflt (refine' compEnd_same (by k_asm) (by k_asm) (by exact (by with_reducible assumption : (_ ≠ _ ∧ _ ≠ _ ∧ _ ≠ _) ∧ _)) (by exact Or.inr ⟨_, by k_mem, rfl, _, rfl⟩) ?_)) | (k_here; k_dflt (refine' compEnd_same (by k_asm) (by k_asm) (by exact (by with_reducible assumption : (_ ≠ _ ∧ _ ≠ _ ∧ _ ≠ _) ∧ _)) (by exact Or.inr ⟨_, by k_mem, rfl, _, rfl⟩) ?_))) | ((with_reducible show LCt.CompSrcT _ _ _ _ _ _ _ _ _ _ _ _ _ _ _); first | with_reducible (k_here; k_dflt (refine' LCt.CompSrcT.ledger rfl (by k_asm) (by k_asm) (by k_mem) (by exact Nat.le_of_ble_eq_true rfl) ?_); intro g9)) | ((with_reducible show wpAny _ _ (eval (Expr.ListComp _ _ _ _) _) _ _ _); first | with_reducible (k_here; k_dflt (refine LCt.ListComp_T (F₀ := by k_asm) (by with_unfolding_all rfl) (by decide) (by rfl) (by decide) (by rfl) ?_))) | ((with_reducible show wpAny _ _ (subscriptTail _ _ _ _) _ _ _); first | with_reducible (k_here; (with_reducible show wpAny _ _ (subscriptTail _ _ (Value.ref _) (Value.int _ _)) _ _ _); (fail_if_success (with_reducible show wpAny _ _ (subscriptTail _ _ (Value.ref _) (Value.int 0 _)) _ _ _)); k_dflt (refine' menu3 (by k_asm) (by k_mem) (by with_reducible assumption) (by with_reducible assumption) ?_); intro v9 pv9) | with_reducible (k_here; (with_reducible show wpAny _ _ (subscriptTail _ _ (Value.ref _) (Value.int 0 _)) _ _ _); k_dflt (refine' item0_N (by k_asm) (by k_mem) ?_)) | with_reducible (k_here; (with_reducible show wpAny _ _ (subscriptTail _ _ (Value.ref _) (Value.str _ _)) _ _ _); k_dflt (refine' kda_item (knd := PySem.strKind _ _) (by k_asm) (by k_mem) (by with_reducible assumption) (strKind_is _ _ _ _) (by exact val_hd) ?_))) | ((with_reducible show wpAny _ _ (call (Value.builtin "len") _) _ _ _); first | with_reducible (k_here; (with_reducible show wpAny _ _ (call (Value.builtin "len") [Value.ref _]) _ _ _); k_dflt (refine' len_N (by k_asm) (by k_mem) (by omega) ?_))) | ((with_reducible show wpAny _ _ (compareOp CmpOp.NotEq _ _) _ _ _); first | with_reducible (k_here; k_dflt (refine' ne_told (by k_asm) (by with_reducible assumption) (by ktd_sub) (by with_reducible assumption) (by ktd_sub) (ok_node 4 _) (by decide) (by exact Nat.le_of_ble_eq_true rfl) ?_))) | ((with_reducible show LawEnd _ _ _); first | with_reducible (k_here; refine Stop.out ?_)) | ((with_reducible show LawCut _ _ _ _ _ _); first | with_reducible (k_here; refine Stop.out ?_)) | (k_end; kc_close) | walk1 | (dsimp only; walk1) | (leave1; (try dsimp only)))
end
end Mine
set_option maxHeartbeats 4000000 in
theorem PySem.Challenge.cw_og0169_01_holds : PySem.Challenge.rw_og0169_01.Holds :=
  Mine.fin
