import PyProof.Rows.All
import Wide.All
import OpenK.AllK
import Wide.FinOn
import PySem.Challenge.RW_sa0566_01
open PySem PySem.W PyProof.Rows
set_option Elab.async false
namespace Mine
set_option maxRecDepth 100000 in
set_option maxHeartbeats 8000000 in
open_top hd for PySem.Challenge.rw_sa0566_01

theorem with_claim {q : Program} {loose : List Str} {XP : (Str → Option Value) → Heap → Prop} {K : Params → Frag} {as : List Addr} {e : ∀ P, as = (K P).map (·.1)} {r : RowW} {d : DefRec} {kwd : List (Str × Expr)} {run : Value → List Value → Sem Value}
    (C : (Params → Frag) → Program → Prop) (c : C K q) (h : C K q → WalkO q loose XP (kHook K as e).says r d kwd run) : WalkO q loose XP (kHook K as e).says r d kwd run := h c

def TakeC (prog : Program) (w : World) (f : Addr) (K : Frag) (p : Program) (loose : List Str) (mean : ExcName → Option Value) (mg mb : Str → Option Value) : Prop :=
  ∀ (b l : Addr) (vs : List Value) (ns : List Int) (c n : Nat) (k : Int) (tk : Tok) (many : Int) (tm : Tok) (rest : List (Addr × Obj))
    (dp un : Nat) (gd : Option (List Code)) (cn : Str) (cs : Scope) (a : Addr) (ccd : Value) (cl : List (Str × Addr)) (outer : List Env) (A₀ : Around) (base h₀ : Heap) (L : Addr) (m : Str → Option Value) (s : Shared) (Q E : Value → Shared → Prop),
    Below A₀ base outer h₀ → Fr h₀ L s.heap m → K.In h₀ → News h₀ L s.heap ((b, listOf #[.ref l, .int k tk] n) :: rest) → Top p loose mean mg mb h₀ → cs.kind = .function →
    (∀ p ∈ rest, p.1 ≠ b) → (l, listOf vs.toArray c) ∈ rest → IntsAre vs ns → ns.length ≤ 63 → 0 ≤ k → k ≤ 1000 → 0 < many → many ≤ 100 → dp + 1 < recursionLimit → un + 8 < cLine →
    (∀ (r : Int) (t t' : Tok) (h' : Heap) (tk' : Nat), 0 ≤ r → r < many → Fr h₀ L h' m → News h₀ L h' ((b, listOf #[.ref l, .int (k + 1) t'] n) :: rest) → Q (.int r t) { s with heap := h', toks := tk' }) →
    wpAny (model prog w) (ktrTop dp un gd cn cs L a ccd cl outer) (call (.ref f) [.ref b, .int many tm]) Q E s

theorem upd_mem {d : Addr} {o o' : Obj} {news news' : List (Addr × Obj)} (U : Upd d o o' news news') : ∀ p ∈ news', p = (d, o') ∨ (p ∈ news ∧ p.1 ≠ d) := by
  obtain ⟨pre, post, rfl, rfl, h1, h2⟩ := U.split
  intro p hp
  rcases List.mem_append.mp hp with q | q
  · exact .inr ⟨List.mem_append_left _ q, h1 p q⟩
  · rcases List.mem_cons.mp q with rfl | q
    · exact .inl rfl
    · exact .inr ⟨List.mem_append_right _ (.tail _ q), h2 p q⟩
def restOf (d : Addr) (news : List (Addr × Obj)) : List (Addr × Obj) := news.filter fun p => decide ((p.1 : Nat) ≠ d)
theorem restOf_ne {d : Addr} {news : List (Addr × Obj)} : ∀ p ∈ restOf d news, p.1 ≠ d := fun p hp => by
  have := (List.mem_filter.mp hp).2
  exact of_decide_eq_true this
theorem restOf_mem {d : Addr} {news : List (Addr × Obj)} {p : Addr × Obj} (h : p ∈ news) (hn : p.1 ≠ d) : p ∈ restOf d news := List.mem_filter.mpr ⟨h, decide_eq_true hn⟩
theorem restOf_news {d : Addr} {o : Obj} {news : List (Addr × Obj)} {h₀ h : Heap} {L : Addr} (N : News h₀ L h news) (hm : (d, o) ∈ news) : News h₀ L h ((d, o) :: restOf d news) := fun p hp => by
  rcases List.mem_cons.mp hp with rfl | hp
  · exact N _ hm
  · exact N _ (List.mem_filter.mp hp).1
theorem restOf_back {d : Addr} {o o' : Obj} {news news' : List (Addr × Obj)} {h₀ h : Heap} {L : Addr} (N : News h₀ L h ((d, o') :: restOf d news)) (U : Upd d o o' news news') : News h₀ L h news' := fun p hp => by
  rcases upd_mem U p hp with rfl | ⟨hq, hn⟩
  · exact N _ (.head _)
  · exact N _ (.tail _ (restOf_mem hq hn))

section
variable {prog : Program} {w : World} {f : Addr} {K : Frag} {p : Program} {loose : List Str} {mean : ExcName → Option Value} {mg mb : Str → Option Value}
  {dp un : Nat} {gd : Option (List Code)} {cn : Str} {cs : Scope} {a : Addr} {ccd : Value} {cl : List (Str × Addr)} {outer : List Env} {A₀ : Around} {base h₀ : Heap} {L : Addr} {m : Str → Option Value} {s : Shared} {Q E : Value → Shared → Prop} {news : List (Addr × Obj)}
theorem take_use {b l : Addr} {vs : List Value} {ns : List Int} {c n : Nat} {k : Int} {tk : Tok} {many : Int} {tm : Tok}
    (F : Fr h₀ L s.heap m) (C : TakeC prog w f K p loose mean mg mb) (B : Below A₀ base outer h₀) (X : K.In h₀) (N : News h₀ L s.heap news) (T : Top p loose mean mg mb h₀) (hk : cs.kind = .function)
    (hb : (b, listOf #[.ref l, .int k tk] n) ∈ news) (hl : (l, listOf vs.toArray c) ∈ news) (hne : l ≠ b) (hI : IntsAre vs ns) (hlen : ns.length ≤ 63) (hk0 : 0 ≤ k) (hk1 : k ≤ 1000) (hm0 : 0 < many) (hm1 : many ≤ 100) (hd : dp + 1 < recursionLimit) (hu : un + 8 < cLine)
    (hret : ∀ (r : Int) (t t' : Tok) (h' : Heap) (tk' : Nat), 0 ≤ r → r < many → Fr h₀ L h' m → (∀ news', Upd b (listOf #[.ref l, .int k tk] n) (listOf #[.ref l, .int (k + 1) t'] n) news news' → News h₀ L h' news') → Q (.int r t) { s with heap := h', toks := tk' }) :
    wpAny (model prog w) (ktrTop dp un gd cn cs L a ccd cl outer) (call (.ref f) [.ref b, .int many tm]) Q E s :=
  C b l vs ns c n k tk many tm (restOf b news) dp un gd cn cs a ccd cl outer A₀ base h₀ L m s Q E B F X (restOf_news N hb) T hk restOf_ne (restOf_mem hl hne) hI hlen hk0 hk1 hm0 hm1 hd hu
    (fun r t t' h' tk' h1 h2 F' N' => hret r t t' h' tk' h1 h2 F' (fun _ U => restOf_back N' U))
end
theorem claim_top {p : Program} {loose : List Str} {mean : ExcName → Option Value} {mg mb : Str → Option Value} {h : Heap} {C : List Str → (ExcName → Option Value) → (Str → Option Value) → (Str → Option Value) → Prop}
    (_ : Top p loose mean mg mb h) (c : ∀ loose mean mg mb, C loose mean mg mb) : C loose mean mg mb := c _ _ _ _
def BoundV (v : Value) : Prop := v = .none ∨ ∃ j t, v = .int j t ∧ 0 ≤ j ∧ j ≤ 25000
theorem menu3 {prog : Program} {w : World} {A : Around} {E : Value → Shared → Prop} {s : Shared} {h₀ : Heap} {L l : Addr} {news : List (Addr × Obj)} {t1 t2 u : Tok} {c : Nat} {i : Int} {value slice : PySem.Expr} {Q : Value → Shared → Prop}
    (N : News h₀ L s.heap news) (hm : (l, listOf #[.none, .int 500 t1, .int 25000 t2] c) ∈ news) (h0 : 0 ≤ i) (h1 : i < 3) (h : ∀ v, BoundV v → handedIn v = true → Q v s)
    (hs : subscripted slice false (.ref l) (.int i u) = operate [.ref l, .int i u] (getItem (.ref l) (.int i u)) := by with_unfolding_all rfl) :
    wpAny (model prog w) A (subscriptTail value slice (.ref l) (.int i u)) Q E s := by
  have hl : s.heap.IsList l [Value.none, .int 500 t1, .int 25000 t2].toArray := ⟨_, (N _ hm).1, rfl, c, rfl⟩
  have key : ∀ v, [Value.none, .int 500 t1, .int 25000 t2][i.toNat]? = some v → BoundV v → handedIn v = true → wpAny (model prog w) A (subscriptTail value slice (.ref l) (.int i u)) Q E s := fun v hx hb hh =>
    tail_any hl.typeIs slot_list_getitem.lookup (wpAny_getItem_list hl h0 (by omega) (by simpa using hx) (h v hb hh)) hs
  have hi : i = 0 ∨ i = 1 ∨ i = 2 := by omega
  rcases hi with rfl | rfl | rfl
  · exact key _ rfl (.inl rfl) rfl
  · exact key _ rfl (.inr ⟨_, _, rfl, by omega, by omega⟩) rfl
  · exact key _ rfl (.inr ⟨_, _, rfl, by omega, by omega⟩) rfl

def mn (a b : Int) : Int := if b < a then b else a
def mx (a b : Int) : Int := if b > a then b else a
theorem mn_spec (a b : Int) : mn a b ≤ a ∧ mn a b ≤ b ∧ (mn a b = a ∨ mn a b = b) := by unfold mn; split <;> omega
theorem mx_spec (a b : Int) : a ≤ mx a b ∧ b ≤ mx a b ∧ (mx a b = a ∨ mx a b = b) := by unfold mx; split <;> omega
abbrev rttD (P : Params) (k1 k2 k3 k4 k5 k6 : Tok) (v2 v3 v4 v5 v6 : Value) : Obj :=
  dictOf [⟨PyData.keyHash P (Str.ofString "since"), .str (Str.ofString "since") k1, .none⟩, ⟨PyData.keyHash P (Str.ofString "latest"), .str (Str.ofString "latest") k2, v2⟩, ⟨PyData.keyHash P (Str.ofString "least"), .str (Str.ofString "least") k3, v3⟩,
    ⟨PyData.keyHash P (Str.ofString "smoothed8"), .str (Str.ofString "smoothed8") k4, v4⟩, ⟨PyData.keyHash P (Str.ofString "variance4"), .str (Str.ofString "variance4") k5, v5⟩, ⟨PyData.keyHash P (Str.ofString "first_at"), .str (Str.ofString "first_at") k6, v6⟩] 6

def NewC (prog : Program) (w : World) (C : Addr) (K : Frag) (p : Program) (loose : List Str) (mean : ExcName → Option Value) (mg mb : Str → Option Value) : Prop :=
  ∀ (news : List (Addr × Obj)) (dp un : Nat) (gd : Option (List Code)) (cn : Str) (cs : Scope) (a : Addr) (ccd : Value) (cl : List (Str × Addr)) (outer : List Env) (A₀ : Around) (base h₀ : Heap) (L : Addr) (m : Str → Option Value) (s : Shared) (Q E : Value → Shared → Prop),
    Below A₀ base outer h₀ → Fr h₀ L s.heap m → K.In h₀ → News h₀ L s.heap news → Top p loose mean mg mb h₀ → cs.kind = .function → dp + 4 < recursionLimit → un + 32 < cLine →
    (∀ (x d : Addr) (k1 k2 k3 k4 k5 k6 t2 t3 t4 t5 : Tok) (h' : Heap) (tk' : Nat), (∀ p ∈ news, p.1 < d) → d < x → Fr h₀ L h' m →
      News h₀ L h' ((x, instObj C d) :: (d, rttD w.params k1 k2 k3 k4 k5 k6 (.int 0 t2) (.int 0 t3) (.int 2664000 t4) (.int 666000 t5) .none) :: news) → Q (.ref x) { s with heap := h', toks := tk' }) →
    wpAny (model prog w) (ktrTop dp un gd cn cs L a ccd cl outer) (call (.ref C) [] []) Q E s

def FirstC (prog : Program) (w : World) (f C : Addr) (K : Frag) (p : Program) (loose : List Str) (mean : ExcName → Option Value) (mg mb : Str → Option Value) : Prop :=
  ∀ (x d : Addr) (k1 k2 k3 k4 k5 k6 t2 t3 t4 t5 : Tok) (a2 a3 a4 a5 : Int) (latest delay now : Int) (u1 u2 u3 : Tok) (bv : Value) (rest : List (Addr × Obj))
    (dp un : Nat) (gd : Option (List Code)) (cn : Str) (cs : Scope) (a : Addr) (ccd : Value) (cl : List (Str × Addr)) (outer : List Env) (A₀ : Around) (base h₀ : Heap) (L : Addr) (m : Str → Option Value) (s : Shared) (Q E : Value → Shared → Prop),
    Below A₀ base outer h₀ → Fr h₀ L s.heap m → K.In h₀ → News h₀ L s.heap ((d, rttD w.params k1 k2 k3 k4 k5 k6 (.int a2 t2) (.int a3 t3) (.int a4 t4) (.int a5 t5) .none) :: rest) → Top p loose mean mg mb h₀ → cs.kind = .function →
    (∀ p ∈ rest, p.1 ≠ d) → (x, instObj C d) ∈ rest → dp + 4 < recursionLimit → un + 32 < cLine →
    (∀ (t2 t3 t4 t5 t6 : Tok) (h' : Heap) (tk' : Nat), Fr h₀ L h' m →
      News h₀ L h' ((d, rttD w.params k1 k2 k3 k4 k5 k6 (.int latest t2) (.int latest t3) (.int (8 * latest) t4) (.int (2 * latest) t5) (.int now t6)) :: rest) → Q .none { s with heap := h', toks := tk' }) →
    wpAny (model prog w) (ktrTop dp un gd cn cs L a ccd cl outer) (call (.ref f) [.ref x, .int latest u1, .int delay u2, bv, .int now u3]) Q E s

def LaterC (prog : Program) (w : World) (f C : Addr) (K : Frag) (p : Program) (loose : List Str) (mean : ExcName → Option Value) (mg mb : Str → Option Value) : Prop :=
  ∀ (x d : Addr) (k1 k2 k3 k4 k5 k6 t2 t3 t4 t5 t6 : Tok) (a2 a3 a4 a5 a6 : Int) (latest delay now : Int) (u1 u2 u3 : Tok) (bv : Value) (rest : List (Addr × Obj))
    (dp un : Nat) (gd : Option (List Code)) (cn : Str) (cs : Scope) (a : Addr) (ccd : Value) (cl : List (Str × Addr)) (outer : List Env) (A₀ : Around) (base h₀ : Heap) (L : Addr) (m : Str → Option Value) (s : Shared) (Q E : Value → Shared → Prop),
    Below A₀ base outer h₀ → Fr h₀ L s.heap m → K.In h₀ → News h₀ L s.heap ((d, rttD w.params k1 k2 k3 k4 k5 k6 (.int a2 t2) (.int a3 t3) (.int a4 t4) (.int a5 t5) (.int a6 t6)) :: rest) → Top p loose mean mg mb h₀ → cs.kind = .function →
    (∀ p ∈ rest, p.1 ≠ d) → (x, instObj C d) ∈ rest → BoundV bv → 0 ≤ delay → dp + 4 < recursionLimit → un + 32 < cLine →
    (∀ (adj ap : Int) (t2 t3 t4 t5 : Tok) (h' : Heap) (tk' : Nat), mn a3 latest ≤ adj → adj ≤ latest → (delay = 0 → adj = latest) → 0 ≤ ap → (ap = a4 / 8 - adj ∨ ap = adj - a4 / 8) → Fr h₀ L h' m →
      News h₀ L h' ((d, rttD w.params k1 k2 k3 k4 k5 k6 (.int latest t2) (.int (mn a3 latest) t3) (.int (a4 - a4 / 8 + adj) t4) (.int (a5 - a5 / 4 + ap) t5) (.int a6 t6)) :: rest) → Q .none { s with heap := h', toks := tk' }) →
    wpAny (model prog w) (ktrTop dp un gd cn cs L a ccd cl outer) (call (.ref f) [.ref x, .int latest u1, .int delay u2, bv, .int now u3]) Q E s

def ProbeC (prog : Program) (w : World) (f C : Addr) (K : Frag) (p : Program) (loose : List Str) (mean : ExcName → Option Value) (mg mb : Str → Option Value) : Prop :=
  ∀ (x d : Addr) (k1 k2 k3 k4 k5 k6 t4 t5 : Tok) (v2 v3 v6 : Value) (a4 a5 : Int) (first least greatest wait count now : Int) (u1 u2 u3 u4 u5 u6 : Tok) (news : List (Addr × Obj))
    (dp un : Nat) (gd : Option (List Code)) (cn : Str) (cs : Scope) (a : Addr) (ccd : Value) (cl : List (Str × Addr)) (outer : List Env) (A₀ : Around) (base h₀ : Heap) (L : Addr) (m : Str → Option Value) (s : Shared) (Q E : Value → Shared → Prop),
    Below A₀ base outer h₀ → Fr h₀ L s.heap m → K.In h₀ → News h₀ L s.heap news → Top p loose mean mg mb h₀ → cs.kind = .function →
    (x, instObj C d) ∈ news → (d, rttD w.params k1 k2 k3 k4 k5 k6 v2 v3 (.int a4 t4) (.int a5 t5) v6) ∈ news →
    (a5 ≤ 2 * first ∨ a5 ≤ 4 * (greatest - least) + 3) → 8 * least ≤ a4 → a4 ≤ 8 * greatest → 0 ≤ a5 → 0 ≤ least → 0 ≤ first → first ≤ 60000 → greatest ≤ 60000 → 0 ≤ wait → wait ≤ 25000 → 0 ≤ count → count ≤ 2 → 0 ≤ now → now ≤ 1000000 → dp + 6 < recursionLimit → un + 48 < cLine →
    (∀ (h' : Heap) (tk' : Nat), Fr h₀ L h' m → News h₀ L h' news → Q (.bool true) { s with heap := h', toks := tk' }) →
    wpAny (model prog w) (ktrTop dp un gd cn cs L a ccd cl outer) (call (.ref f) [.ref x, .int first u1, .int least u2, .int greatest u3, .int wait u4, .int count u5, .int now u6]) Q E s

theorem itMin (a b : Int) : (if a < b then a else b) = min a b := by split <;> omega
theorem itAbs (a : Int) : (if a < 0 then -a else a) = (a.natAbs : Int) := by split <;> omega
theorem fdiv8 (a : Int) : a.fdiv 8 = a / 8 := Int.fdiv_eq_ediv_of_nonneg a (by decide)
theorem fdiv4 (a : Int) : a.fdiv 4 = a / 4 := Int.fdiv_eq_ediv_of_nonneg a (by decide)
theorem fmod_lo {a b : Int} (h : 0 < b) : 0 ≤ a.fmod b := by rw [Int.fmod_eq_emod_of_nonneg a (Int.le_of_lt h)]; exact Int.emod_nonneg a (Int.ne_of_gt h)
theorem fmod_hi {a b : Int} (h : 0 < b) : a.fmod b < b := by rw [Int.fmod_eq_emod_of_nonneg a (Int.le_of_lt h)]; exact Int.emod_lt_of_pos a h
theorem itMax (a b : Int) : (if a > b then a else b) = max b a := by split <;> omega
theorem mul_pow_le {a b c : Int} {n : Nat} (h : a ≤ b) : c + a * 2 ^ n ≤ c + b * 2 ^ n :=
  Int.add_le_add_left (Int.mul_le_mul_of_nonneg_right h (Int.le_of_lt (Int.pow_pos (by decide)))) c

section
variable {prog : Program} {w : World} {f C : Addr} {K : Frag} {p : Program} {loose : List Str} {mean : ExcName → Option Value} {mg mb : Str → Option Value}
  {dp un : Nat} {gd : Option (List Code)} {cn : Str} {cs : Scope} {a : Addr} {ccd : Value} {cl : List (Str × Addr)} {outer : List Env} {A₀ : Around} {base h₀ : Heap} {L : Addr} {m : Str → Option Value} {s : Shared} {Q E : Value → Shared → Prop} {news : List (Addr × Obj)}
theorem new_use (F : Fr h₀ L s.heap m) (c : NewC prog w C K p loose mean mg mb) (B : Below A₀ base outer h₀) (X : K.In h₀) (N : News h₀ L s.heap news) (T : Top p loose mean mg mb h₀) (hk : cs.kind = .function) (hd : dp + 4 < recursionLimit) (hu : un + 32 < cLine)
    (hret : ∀ (x d : Addr) (k1 k2 k3 k4 k5 k6 t2 t3 t4 t5 : Tok) (h' : Heap) (tk' : Nat), (∀ p ∈ news, p.1 < d) → d < x → Fr h₀ L h' m →
      News h₀ L h' ((x, instObj C d) :: (d, rttD w.params k1 k2 k3 k4 k5 k6 (.int 0 t2) (.int 0 t3) (.int 2664000 t4) (.int 666000 t5) .none) :: news) → Q (.ref x) { s with heap := h', toks := tk' }) :
    wpAny (model prog w) (ktrTop dp un gd cn cs L a ccd cl outer) (call (.ref C) [] []) Q E s :=
  c news dp un gd cn cs a ccd cl outer A₀ base h₀ L m s Q E B F X N T hk hd hu hret

theorem first_use {x d : Addr} {k1 k2 k3 k4 k5 k6 t2 t3 t4 t5 : Tok} {a2 a3 a4 a5 : Int} {latest delay now : Int} {u1 u2 u3 : Tok} {bv : Value}
    (F : Fr h₀ L s.heap m) (c : FirstC prog w f C K p loose mean mg mb) (B : Below A₀ base outer h₀) (X : K.In h₀) (N : News h₀ L s.heap news) (T : Top p loose mean mg mb h₀) (hk : cs.kind = .function)
    (hx : (x, instObj C d) ∈ news) (hdd : (d, rttD w.params k1 k2 k3 k4 k5 k6 (.int a2 t2) (.int a3 t3) (.int a4 t4) (.int a5 t5) .none) ∈ news) (hne : x ≠ d) (hd : dp + 4 < recursionLimit) (hu : un + 32 < cLine)
    (hret : ∀ (t2' t3' t4' t5' t6' : Tok) (h' : Heap) (tk' : Nat), Fr h₀ L h' m →
      (∀ news', Upd d (rttD w.params k1 k2 k3 k4 k5 k6 (.int a2 t2) (.int a3 t3) (.int a4 t4) (.int a5 t5) .none) (rttD w.params k1 k2 k3 k4 k5 k6 (.int latest t2') (.int latest t3') (.int (8 * latest) t4') (.int (2 * latest) t5') (.int now t6')) news news' → News h₀ L h' news') →
      Q .none { s with heap := h', toks := tk' }) :
    wpAny (model prog w) (ktrTop dp un gd cn cs L a ccd cl outer) (call (.ref f) [.ref x, .int latest u1, .int delay u2, bv, .int now u3]) Q E s :=
  c x d k1 k2 k3 k4 k5 k6 t2 t3 t4 t5 a2 a3 a4 a5 latest delay now u1 u2 u3 bv (restOf d news) dp un gd cn cs a ccd cl outer A₀ base h₀ L m s Q E B F X (restOf_news N hdd) T hk restOf_ne (restOf_mem hx hne) hd hu
    (fun t2' t3' t4' t5' t6' h' tk' F' N' => hret t2' t3' t4' t5' t6' h' tk' F' (fun _ U => restOf_back N' U))

structure VarOk (v f D : Int) : Prop where
  or : v ≤ 2 * f ∨ v ≤ 4 * D + 3
theorem later_one {x d : Addr} {k1 k2 k3 k4 k5 k6 t2 t3 t4 t5 t6 : Tok} {a2 a3 a4 a5 a6 g f0 : Int} {latest delay now : Int} {u1 u2 u3 : Tok} {bv : Value}
    (F : Fr h₀ L s.heap m) (c : LaterC prog w f C K p loose mean mg mb) (B : Below A₀ base outer h₀) (X : K.In h₀) (N : News h₀ L s.heap news) (T : Top p loose mean mg mb h₀) (hk : cs.kind = .function)
    (hx : (x, instObj C d) ∈ news) (hdd : (d, rttD w.params k1 k2 k3 k4 k5 k6 (.int a2 t2) (.int a3 t3) (.int a4 t4) (.int a5 t5) (.int a6 t6)) ∈ news) (hne : x ≠ d) (hbv : BoundV bv)
    (hg : 8 * a3 ≤ a4) (hg2 : a4 ≤ 8 * g) (h5 : 0 ≤ a5) (hv : VarOk a5 f0 (g - a3)) (hde : 0 ≤ delay ∧ 1 ≤ a3 ∧ a3 ≤ g ∧ g ≤ 60000 ∧ 1 ≤ latest ∧ latest ≤ 60000) (hd : dp + 4 < recursionLimit) (hu : un + 32 < cLine)
    (hret : ∀ (s' v' : Int) (t2' t3' t4' t5' : Tok) (h' : Heap) (tk' : Nat), 8 * mn a3 latest ≤ s' → s' ≤ 8 * mx g latest → 0 ≤ v' → VarOk v' f0 (mx g latest - mn a3 latest) → 1 ≤ mn a3 latest → mn a3 latest ≤ mx g latest → mx g latest ≤ 60000 → Fr h₀ L h' m →
      (∀ news', Upd d (rttD w.params k1 k2 k3 k4 k5 k6 (.int a2 t2) (.int a3 t3) (.int a4 t4) (.int a5 t5) (.int a6 t6)) (rttD w.params k1 k2 k3 k4 k5 k6 (.int latest t2') (.int (mn a3 latest) t3') (.int s' t4') (.int v' t5') (.int a6 t6)) news news' → News h₀ L h' news') →
      Q .none { s with heap := h', toks := tk' }) :
    wpAny (model prog w) (ktrTop dp un gd cn cs L a ccd cl outer) (call (.ref f) [.ref x, .int latest u1, .int delay u2, bv, .int now u3]) Q E s :=
  c x d k1 k2 k3 k4 k5 k6 t2 t3 t4 t5 t6 a2 a3 a4 a5 a6 latest delay now u1 u2 u3 bv (restOf d news) dp un gd cn cs a ccd cl outer A₀ base h₀ L m s Q E B F X (restOf_news N hdd) T hk restOf_ne (restOf_mem hx hne) hbv hde.1 hd hu
    (fun adj ap t2' t3' t4' t5' h' tk' e4 e5 _ e7 e8 F' N' => by
      have m1 := mn_spec a3 latest
      have m2 := mx_spec g latest
      obtain ⟨_, q1, q2, q3, q4, q5⟩ := hde
      have b1 : a3 ≤ a4 / 8 := by omega
      have b2 : a4 / 8 ≤ g := by omega
      have r1 : mn a3 latest ≤ a4 / 8 := by omega
      have r2 : a4 / 8 ≤ mx g latest := by omega
      have r3 : adj ≤ mx g latest := by omega
      have r4 : ap ≤ mx g latest - mn a3 latest := by omega
      have r5 : 1 ≤ mn a3 latest := by omega
      have r6 : mx g latest ≤ 60000 := by omega
      have w1 : 8 * mn a3 latest ≤ a4 - a4 / 8 + adj := by omega
      have w2 : a4 - a4 / 8 + adj ≤ 8 * mx g latest := by omega
      have w3 : 0 ≤ a5 - a5 / 4 + ap := by omega
      have w4 : a5 - a5 / 4 + ap ≤ 2 * f0 ∨ a5 - a5 / 4 + ap ≤ 4 * (mx g latest - mn a3 latest) + 3 := by
        rcases hv.or with hv | hv
        · omega
        · right; omega
      exact hret _ _ t2' t3' t4' t5' h' tk' w1 w2 w3 ⟨w4⟩ r5 (by omega) r6 F' (fun _ U => restOf_back N' U))

structure IsSp (sp p latest : Int) : Prop where
  eq : sp = p - p / 8 + latest
theorem fdiv8_mul (a : Int) : (8 * a).fdiv 8 = a := by rw [fdiv8]; omega
theorem later_plain {x d : Addr} {k1 k2 k3 k4 k5 k6 t2 t3 t4 t5 t6 : Tok} {a2 a3 a4 a5 a6 l g : Int} {latest now : Int} {u1 u2 u3 : Tok}
    (F : Fr h₀ L s.heap m) (c : LaterC prog w f C K p loose mean mg mb) (B : Below A₀ base outer h₀) (X : K.In h₀) (N : News h₀ L s.heap news) (T : Top p loose mean mg mb h₀) (hk : cs.kind = .function)
    (hx : (x, instObj C d) ∈ news) (hdd : (d, rttD w.params k1 k2 k3 k4 k5 k6 (.int a2 t2) (.int a3 t3) (.int a4 t4) (.int a5 t5) (.int a6 t6)) ∈ news) (hne : x ≠ d) (hl : 8 * l ≤ a4) (hg : a4 ≤ 8 * g) (hd : dp + 4 < recursionLimit) (hu : un + 32 < cLine)
    (hret : ∀ (sp v' : Int) (t2' t3' t4' t5' : Tok) (h' : Heap) (tk' : Nat), 8 * mn l latest ≤ sp → sp ≤ 8 * mx g latest → IsSp sp a4 latest → Fr h₀ L h' m →
      (∀ news', Upd d (rttD w.params k1 k2 k3 k4 k5 k6 (.int a2 t2) (.int a3 t3) (.int a4 t4) (.int a5 t5) (.int a6 t6)) (rttD w.params k1 k2 k3 k4 k5 k6 (.int latest t2') (.int (mn a3 latest) t3') (.int sp t4') (.int v' t5') (.int a6 t6)) news news' → News h₀ L h' news') →
      Q .none { s with heap := h', toks := tk' }) :
    wpAny (model prog w) (ktrTop dp un gd cn cs L a ccd cl outer) (call (.ref f) [.ref x, .int latest u1, .int 0 u2, .none, .int now u3]) Q E s :=
  c x d k1 k2 k3 k4 k5 k6 t2 t3 t4 t5 t6 a2 a3 a4 a5 a6 latest 0 now u1 u2 u3 .none (restOf d news) dp un gd cn cs a ccd cl outer A₀ base h₀ L m s Q E B F X (restOf_news N hdd) T hk restOf_ne (restOf_mem hx hne) (.inl rfl) (Int.le_refl _) hd hu
    (fun adj ap t2' t3' t4' t5' h' tk' _ _ e6 _ _ F' N' => by
      have e := e6 rfl
      subst e
      have m1 := mn_spec l adj
      have m2 := mx_spec g adj
      have b1 : l ≤ a4 / 8 := by omega
      have b2 : a4 / 8 ≤ g := by omega
      exact hret _ _ t2' t3' t4' t5' h' tk' (by omega) (by omega) ⟨rfl⟩ F' (fun _ U => restOf_back N' U))

theorem later_other {x d : Addr} {k1 k2 k3 k4 k5 k6 t2 t3 t4 t5 t6 : Tok} {a2 a3 a4 a5 a6 sp p4 lat : Int} {latest now : Int} {u1 u2 u3 : Tok}
    (F : Fr h₀ L s.heap m) (c : LaterC prog w f C K p loose mean mg mb) (B : Below A₀ base outer h₀) (X : K.In h₀) (N : News h₀ L s.heap news) (T : Top p loose mean mg mb h₀) (hk : cs.kind = .function)
    (hx : (x, instObj C d) ∈ news) (hdd : (d, rttD w.params k1 k2 k3 k4 k5 k6 (.int a2 t2) (.int a3 t3) (.int a4 t4) (.int a5 t5) (.int a6 t6)) ∈ news) (hne : x ≠ d) (hpq : p4 ≤ a4) (hsp : IsSp sp p4 lat) (hla : lat ≤ latest) (hd : dp + 4 < recursionLimit) (hu : un + 32 < cLine)
    (hret : ∀ (sq v' : Int) (t2' t3' t4' t5' : Tok) (h' : Heap) (tk' : Nat), sp ≤ sq → sp.fdiv 8 ≤ sq.fdiv 8 → Fr h₀ L h' m →
      (∀ news', Upd d (rttD w.params k1 k2 k3 k4 k5 k6 (.int a2 t2) (.int a3 t3) (.int a4 t4) (.int a5 t5) (.int a6 t6)) (rttD w.params k1 k2 k3 k4 k5 k6 (.int latest t2') (.int (mn a3 latest) t3') (.int sq t4') (.int v' t5') (.int a6 t6)) news news' → News h₀ L h' news') →
      Q .none { s with heap := h', toks := tk' }) :
    wpAny (model prog w) (ktrTop dp un gd cn cs L a ccd cl outer) (call (.ref f) [.ref x, .int latest u1, .int 0 u2, .none, .int now u3]) Q E s :=
  c x d k1 k2 k3 k4 k5 k6 t2 t3 t4 t5 t6 a2 a3 a4 a5 a6 latest 0 now u1 u2 u3 .none (restOf d news) dp un gd cn cs a ccd cl outer A₀ base h₀ L m s Q E B F X (restOf_news N hdd) T hk restOf_ne (restOf_mem hx hne) (.inl rfl) (Int.le_refl _) hd hu
    (fun adj ap t2' t3' t4' t5' h' tk' _ _ e6 _ _ F' N' => by
      have e := e6 rfl
      subst e
      have e := hsp.eq
      have h1 : sp ≤ a4 - a4 / 8 + adj := by omega
      have h2 : sp.fdiv 8 ≤ (a4 - a4 / 8 + adj).fdiv 8 := by rw [fdiv8, fdiv8]; omega
      exact hret _ _ t2' t3' t4' t5' h' tk' h1 h2 F' (fun _ U => restOf_back N' U))

theorem later_alike {x d : Addr} {k1 k2 k3 k4 k5 k6 t2 t3 t4 t5 t6 : Tok} {a2 a5 a6 : Int} {latest now : Int} {u1 u2 u3 : Tok}
    (F : Fr h₀ L s.heap m) (c : LaterC prog w f C K p loose mean mg mb) (B : Below A₀ base outer h₀) (X : K.In h₀) (N : News h₀ L s.heap news) (T : Top p loose mean mg mb h₀) (hk : cs.kind = .function)
    (hx : (x, instObj C d) ∈ news) (hdd : (d, rttD w.params k1 k2 k3 k4 k5 k6 (.int a2 t2) (.int latest t3) (.int (8 * latest) t4) (.int a5 t5) (.int a6 t6)) ∈ news) (hne : x ≠ d) (hd : dp + 4 < recursionLimit) (hu : un + 32 < cLine)
    (hret : ∀ (v' : Int) (t2' t3' t4' t5' : Tok) (h' : Heap) (tk' : Nat), Fr h₀ L h' m →
      (∀ news', Upd d (rttD w.params k1 k2 k3 k4 k5 k6 (.int a2 t2) (.int latest t3) (.int (8 * latest) t4) (.int a5 t5) (.int a6 t6)) (rttD w.params k1 k2 k3 k4 k5 k6 (.int latest t2') (.int latest t3') (.int (8 * latest) t4') (.int v' t5') (.int a6 t6)) news news' → News h₀ L h' news') →
      Q .none { s with heap := h', toks := tk' }) :
    wpAny (model prog w) (ktrTop dp un gd cn cs L a ccd cl outer) (call (.ref f) [.ref x, .int latest u1, .int 0 u2, .none, .int now u3]) Q E s :=
  c x d k1 k2 k3 k4 k5 k6 t2 t3 t4 t5 t6 a2 latest (8 * latest) a5 a6 latest 0 now u1 u2 u3 .none (restOf d news) dp un gd cn cs a ccd cl outer A₀ base h₀ L m s Q E B F X (restOf_news N hdd) T hk restOf_ne (restOf_mem hx hne) (.inl rfl) (Int.le_refl _) hd hu
    (fun adj ap t2' t3' t4' t5' h' tk' _ _ e6 _ _ F' N' => by
      have e := e6 rfl
      subst e
      have e1 : mn adj adj = adj := by unfold mn; split <;> rfl
      have e2 : 8 * adj - 8 * adj / 8 + adj = 8 * adj := by omega
      rw [e1, e2] at N'
      exact hret _ t2' t3' t4' t5' h' tk' F' (fun _ U => restOf_back N' U))

theorem probe_use {x d : Addr} {k1 k2 k3 k4 k5 k6 t4 t5 : Tok} {v2 v3 v6 : Value} {a4 a5 : Int} {first least greatest wait count now : Int} {u1 u2 u3 u4 u5 u6 : Tok}
    (F : Fr h₀ L s.heap m) (c : ProbeC prog w f C K p loose mean mg mb) (B : Below A₀ base outer h₀) (X : K.In h₀) (N : News h₀ L s.heap news) (T : Top p loose mean mg mb h₀) (hk : cs.kind = .function)
    (hx : (x, instObj C d) ∈ news) (hdd : (d, rttD w.params k1 k2 k3 k4 k5 k6 v2 v3 (.int a4 t4) (.int a5 t5) v6) ∈ news)
    (hvo : VarOk a5 first (greatest - least)) (hv : 8 * least ≤ a4 ∧ a4 ≤ 8 * greatest ∧ 0 ≤ a5 ∧ 0 ≤ least ∧ 0 ≤ first ∧ first ≤ 60000 ∧ greatest ≤ 60000 ∧ 0 ≤ wait ∧ wait ≤ 25000 ∧ 0 ≤ count ∧ count ≤ 2 ∧ 0 ≤ now ∧ now ≤ 1000000) (hd : dp + 6 < recursionLimit) (hu : un + 48 < cLine)
    (hret : ∀ (h' : Heap) (tk' : Nat), Fr h₀ L h' m → News h₀ L h' news → Q (.bool true) { s with heap := h', toks := tk' }) :
    wpAny (model prog w) (ktrTop dp un gd cn cs L a ccd cl outer) (call (.ref f) [.ref x, .int first u1, .int least u2, .int greatest u3, .int wait u4, .int count u5, .int now u6]) Q E s := by
  obtain ⟨e2, e3, e4, e5, e6, e7, e8, e9, e10, e11, e12, e13, e14⟩ := hv
  exact c x d k1 k2 k3 k4 k5 k6 t4 t5 v2 v3 v6 a4 a5 first least greatest wait count now u1 u2 u3 u4 u5 u6 news dp un gd cn cs a ccd cl outer A₀ base h₀ L m s Q E B F X N T hk hx hdd hvo.or e2 e3 e4 e5 e6 e7 e8 e9 e10 e11 e12 e13 e14 hd hu hret
end
section
variable {prog : Program} {w : World} {A : Around} {E : Value → Shared → Prop} {s : Shared} {h₀ : Heap} {L : Addr} {m : Str → Option Value} {news : List (Addr × Obj)}
theorem max_let {a b : Int} {t u : Tok} {Q : Value → Shared → Prop} (hh : A.handled = none) (F : Fr h₀ L s.heap m) (N : News h₀ L s.heap news)
    (h : ∀ v h' tk, a ≤ mx a b → b ≤ mx a b → Fr h₀ L h' m → News h₀ L h' news → Q (.int (mx a b) v) { s with heap := h', toks := tk }) :
    wpAny (model prog w) A (call (.builtin "max") [.int a t, .int b u]) Q E s := max_two_N hh F N fun h' tk F' N' => h _ h' tk (mx_spec a b).1 (mx_spec a b).2.1 F' N'
theorem min_let {a b : Int} {t u : Tok} {Q : Value → Shared → Prop} (hh : A.handled = none) (F : Fr h₀ L s.heap m) (N : News h₀ L s.heap news)
    (h : ∀ v h' tk, mn a b ≤ a → mn a b ≤ b → Fr h₀ L h' m → News h₀ L h' news → Q (.int (mn a b) v) { s with heap := h', toks := tk }) :
    wpAny (model prog w) A (call (.builtin "min") [.int a t, .int b u]) Q E s := min_two_N hh F N fun h' tk F' N' => h _ h' tk (mn_spec a b).1 (mn_spec a b).2.1 F' N'
end
def WaitPost (s : Shared) (v : Value) (s₂ : Shared) : Prop := ∃ wt t tk, v = .int wt t ∧ (0 ≤ wt ∧ wt ≤ 25000) ∧ s₂ = { s with toks := tk }
theorem WaitPost.intro {s : Shared} {wt : Int} {t tk : Tok} (h0 : 0 ≤ wt) (h1 : wt ≤ 25000) : WaitPost s (.int wt t) { s with toks := tk } := ⟨wt, t, tk, rfl, ⟨h0, h1⟩, rfl⟩
theorem join_int {M : Model} {A : Around} {E : Value → Shared → Prop} {s : Shared} {Q : Value → Shared → Prop} {c : Sem Value}
    (hc : wpAny M A c (WaitPost s) E s)
    (hk : ∀ wt t tk, 0 ≤ wt → wt ≤ 25000 → Q (.int wt t) { s with toks := tk }) : wpAny M A c Q E s :=
  wpAny_mono hc (fun v s₂ h => by obtain ⟨wt, t, tk, rfl, h1, rfl⟩ := h; exact hk wt t tk h1.1 h1.2) fun _ _ h => h
structure MainMark : Prop where

section
open PyProof.Rows PySem.Spec PySem.Calls
variable {prog : Program} {w : World} {A : Around} {E : Value → Shared → Prop} {s : Shared} {h₀ : Heap} {L : Addr} {m : Str → Option Value} {env : Env}
def CSrcT (prog : Program) (w : World) (A : Around) (h₀ : Heap) (L : Addr) (m : Str → Option Value) (env : Env) (elt : Expr) (x : Str) (scope : Scope) (cl : List (Str × Addr)) (Fin : Shared → List Value → List (Addr × Obj) → Prop) (xv : Value) (s₁ : Shared) : Prop :=
  ∃ ax its news, xv = .ref ax ∧ A.handled = none ∧ Fr h₀ L s₁.heap m ∧ News h₀ L s₁.heap news ∧ h₀.IsTuple ax its ∧ its.size ≤ sizeLine ∧
    ∀ s₂ : Shared, (∃ h, s₂ = { s₁ with heap := h }) → LCg.CompRest prog w A h₀ L m env elt x scope cl s₂ (fun _ => True) (fun i v => its[i]? = some v) (Fin s₂) its.size 0 [] news
theorem CSrcT.intro {K : Frag} {elt : Expr} {x : Str} {scope : Scope} {cl : List (Str × Addr)} {Fin : Shared → List Value → List (Addr × Obj) → Prop} {ax : Addr} {its : Array Value} {news : List (Addr × Obj)} {s₁ : Shared} {od : Option Addr} {n : Nat} {sl : Array (Option Value)}
    (hh : A.handled = none) (F : Fr h₀ L s₁.heap m) (N : News h₀ L s₁.heap news) (X : K.In h₀) (ho : K.lookup ax = some ⟨.type "tuple", od, .seq its n, sl⟩) (hsz : its.size ≤ sizeLine)
    (h : ∀ g, LCg.CompRest prog w A h₀ L m env elt x scope cl { s₁ with heap := g } (fun _ => True) (fun i v => its[i]? = some v) (Fin { s₁ with heap := g }) its.size 0 [] news) :
    CSrcT prog w A h₀ L m env elt x scope cl Fin (.ref ax) s₁ := ⟨ax, its, news, rfl, hh, F, N, ⟨_, X _ _ ho, rfl, n, rfl⟩, hsz, fun _ ⟨g, e⟩ => e ▸ h g⟩
theorem tup_st {ax I : Addr} {its : Array Value} (hT : h₀.IsTuple ax its) : ∀ i (h h' : Heap) (o : Obj) (nw : List (Addr × Obj)), (h.IsTupleIter I ax i ∧ h.IsTuple ax its) → h.get? I = some o → h'.get? I = some o → (∀ b o, h₀.get? b = some o → h'.get? b = some o) → News h₀ L h' nw → True → (h'.IsTupleIter I ax i ∧ h'.IsTuple ax its) :=
  fun i h h' o nw st e e' k _ _ => ⟨by obtain ⟨o', q, r⟩ := st.1; rw [e] at q; cases q; exact ⟨o, e', r⟩, by obtain ⟨o', q, r⟩ := hT; exact ⟨o', k _ _ q, r⟩⟩
theorem ListComp_Tup {elt iter : Expr} {x : Str} {px : Pos} {scope : Scope} {cl : List (Str × Addr)} {pos : Pos} {Q : Value → Shared → Prop} (_F₀ : Fr h₀ L s.heap m)
    (hclos : closureFor scope env = pure cl) (hcell : ∀ y ∈ scope.names, y.2 ≠ .cell) (hkind : scope.kind = .function)
    (hnames : ∀ y ∈ scope.names, y.2 = .local → scope.names.lookup y.1 = some .local) (hx : scope.names.lookup x = some .local)
    (h : wpAny (model prog w) A (eval iter env) (CSrcT prog w A h₀ L m env elt x scope cl (fun s₂ => LCg.FinE h₀ L m s₂ Q)) E s)
    (hs : ∀ x, foldedSetIterable iter env x = pure x := by intro _; rfl) :
    wpAny (model prog w) A (eval (.ListComp elt [⟨.Name x px, iter, [], 0⟩] scope pos) env) Q E s := by
  rw [eval_ListComp]
  refine wpAny_comprehension_free (use := none) rfl hs hclos hkind hnames (wpAny_mono h (fun xv s₁ h₁ => ?_) fun _ _ e => e)
  obtain ⟨ax, its, news, rfl, hh, F, N, T, hsz, R⟩ := h₁
  have hl : s₁.heap.IsTuple ax its := by obtain ⟨o', q, r⟩ := T; exact ⟨o', F.keep _ _ q, r⟩
  have hlt : ax < s₁.heap.objs.size := by obtain ⟨_, e, _⟩ := hl; exact Heap.lt_size e
  refine wpAny_pyIter_tuple hl ?_
  have up : ∀ b o, s₁.heap.get? b = some o → (s₁.heap.push { cls := .type "tuple_iterator", data := .fields #[.ref ax, .int 0 0] }).get? b = some o := fun b o e => Heap.get?_push_of_some _ e
  refine LCg.block_U (Walks.tuple hh s₁.heap.objs.size ax (Nat.ne_of_lt hlt) its) hsz (fun i h st => by obtain ⟨o, e, _⟩ := st.1; exact ⟨o, e⟩) (tup_st T) hcell hkind hx ⟨⟨_, Heap.get?_push_size _ rfl, rfl, rfl⟩, hl.push _⟩ (fun b hb => ?_)
    (F.keeps up) (N.grown up) (Nat.ne_of_lt F.ns.lt) (next_is_new F) (fun p hp => Nat.ne_of_lt (Heap.lt_size (N p hp).1)) trivial (R _ ⟨_, rfl⟩) ?_
  · show b < (s₁.heap.push _).objs.size
    rw [Heap.size_push]
    rcases List.mem_cons.mp hb with rfl | hb
    · exact Nat.lt_succ_self _
    · rw [List.mem_singleton.mp hb]; exact Nat.lt_succ_of_lt hlt
  · intro D C h tk m' ys news' F' N' o1 hn hC₀ hD₀ hCL hDL hCD offC fin
    refine ⟨m', hn, fun h'' hs'' => fin D h'' tk (F'.change hs'' hCL hC₀) (fun p hp => ?_) o1⟩
    refine ⟨hs''.extBut _ _ ?_ (N' p hp).1, (N' p hp).2⟩
    rcases List.mem_cons.mp hp with rfl | hp
    · exact Ne.symm hCD
    · exact offC p hp
end

section
open PyProof.Rows PySem.Spec PySem.Calls
variable {prog : Program} {w : World} {A : Around} {E : Value → Shared → Prop} {s : Shared} {env : Env} {h₀ : Heap} {x : Str} {body : List Stmt} {Q : Flow → Shared → Prop}
def TupRest (prog : Program) (w : World) (A : Around) (E : Value → Shared → Prop) (h₀ : Heap) (env : Env) (x : Str) (body : List Stmt) (Q : Flow → Shared → Prop) (s : Shared) (I : Addr) : List Value → (Str → Option Value) → List (Addr × Obj) → Prop
  | [], m, news => ∀ h tk, Fr h₀ env.locals h m → News h₀ env.locals h news → Q .next { s with heap := h, toks := tk }
  | v :: r, m, news => ∀ (it : Obj) h tk, it.cls = .type "tuple_iterator" → Fr h₀ env.locals h (fun y => if y = x then some v else m y) → News h₀ env.locals h ((I, it) :: news) →
      wpAny (model prog w) A (execs body env) (UnrPost h₀ env.locals { s with heap := h, toks := tk } I it (fun m' n' => TupRest prog w A E h₀ env x body Q s I r m' n') Q) E { s with heap := h, toks := tk }
theorem TupRest.zero {I : Addr} {m : Str → Option Value} {news : List (Addr × Obj)} (h : ∀ h tk, Fr h₀ env.locals h m → News h₀ env.locals h news → Q .next { s with heap := h, toks := tk }) :
    TupRest prog w A E h₀ env x body Q s I [] m news := h
theorem TupRest.succ {I : Addr} {v : Value} {r : List Value} {m : Str → Option Value} {news : List (Addr × Obj)}
    (h : ∀ (it : Obj) h tk, it.cls = .type "tuple_iterator" → Fr h₀ env.locals h (fun y => if y = x then some v else m y) → News h₀ env.locals h ((I, it) :: news) →
      wpAny (model prog w) A (execs body env) (UnrPost h₀ env.locals { s with heap := h, toks := tk } I it (fun m' n' => TupRest prog w A E h₀ env x body Q s I r m' n') Q) E { s with heap := h, toks := tk }) :
    TupRest prog w A E h₀ env x body Q s I (v :: r) m news := h
theorem iter_tupUnr {K : Frag} {ax : Addr} {od : Option Addr} {sl : Array (Option Value)} {vs : List Value} {n : Nat} {m₀ : Str → Option Value} {news : List (Addr × Obj)}
    (hh : A.handled = none) (F : Fr h₀ env.locals s.heap m₀) (N : News h₀ env.locals s.heap news) (X : K.In h₀) (hk : K.lookup ax = some ⟨.type "tuple", od, .seq vs.toArray n, sl⟩)
    (rest₀ : ∀ I : Addr, (∀ p ∈ news, p.1 < I) → TupRest prog w A E h₀ env x body Q s I vs m₀ news) :
    wpAny (model prog w) A (pyIter (.ref ax)) (fun it s₂ => LoopAtV prog w A h₀ env x body Q E it s₂) E s := by
  have hax₀ := X _ _ hk
  have hax := F.keep _ _ hax₀
  have hl : s.heap.IsTuple ax vs.toArray := ⟨_, hax, rfl, n, rfl⟩
  have hlt : ax < s.heap.objs.size := Heap.lt_size hax
  have hne : ax ≠ s.heap.objs.size := Nat.ne_of_lt hlt
  refine wpAny_pyIter_tuple hl ?_
  have rest := rest₀ s.heap.objs.size fun p hp => Heap.lt_size (N p hp).1
  have W := Walks.tuple (prog := prog) (w := w) hh s.heap.objs.size ax hne vs.toArray
  have hnew := next_is_new F
  have hlen : vs.toArray.size = vs.length := by simp
  rw [hlen] at W
  let J : Nat → (Str → Option Value) → List (Addr × Obj) → Prop := fun i m₁ news₁ => TupRest prog w A E h₀ env x body Q s s.heap.objs.size (vs.drop i) m₁ news₁
  refine ⟨_, _, _, vs.length, _, _, m₀, news, J, rfl, W, ?_, ?_, ?_, ⟨⟨_, Heap.get?_push_size _ rfl, rfl, rfl⟩, hl.push _⟩, F.push _, (fun p hp => ⟨Heap.get?_push_of_some _ (N p hp).1, (N p hp).2⟩), (by show TupRest _ _ _ _ _ _ _ _ _ _ _ _ _ _; rw [List.drop_zero]; exact rest), ?_, ?_⟩
  · intro hmm
    rcases List.mem_cons.mp hmm with e | hmm
    · exact absurd F.ns.lt (e ▸ Nat.lt_irrefl _)
    · have e := List.mem_singleton.mp hmm
      have := Heap.lt_size hax₀
      rw [← e] at this
      exact absurd (Nat.lt_of_lt_of_le this F.above) (Nat.lt_irrefl _)
  · intro b hb
    rw [List.mem_singleton.mp hb]
    exact hnew
  · intro p hp hI
    exact absurd (Heap.lt_size (N p hp).1) ((List.mem_singleton.mp hI) ▸ Nat.lt_irrefl _)
  · rintro i v m₁ news₁ s₁ own ⟨hh', tk', rfl⟩ hin hP hJ hoff hown hget hall hst F₁ N₁
    obtain ⟨it, hit, hic, hid⟩ := hst.1
    have hmemI := hall s.heap.objs.size (List.mem_cons_self ..) hnew _ hit
    have hdrop : vs.drop i = v :: vs.drop (i + 1) := by
      have hlt' : i < vs.length := hin
      have hv : vs[i]? = some v := by simpa using hP
      rw [List.drop_eq_getElem_cons hlt']
      congr 1
      exact Option.some.inj ((List.getElem?_eq_getElem hlt').symm.trans hv)
    have hJ' : TupRest prog w A E h₀ env x body Q s s.heap.objs.size (v :: vs.drop (i + 1)) m₁ news₁ := by rw [← hdrop]; exact hJ
    have N₂ : News h₀ env.locals hh' ((s.heap.objs.size, it) :: news₁) := fun p hp => by
      rcases List.mem_cons.mp hp with rfl | hp
      · exact N₁ _ (List.mem_append_left _ hmemI)
      · exact N₁ _ (List.mem_append_right _ hp)
    refine wpAny_mono (hJ' it hh' tk' hic F₁ N₂) (fun f s₂ p => ?_) fun _ _ e => e
    have fin : UnrEnd h₀ env.locals { s with heap := hh', toks := tk' } s.heap.objs.size it (fun m' n' => TupRest prog w A E h₀ env x body Q s s.heap.objs.size (vs.drop (i + 1)) m' n') s₂ →
        LoopStepU h₀ env.locals [s.heap.objs.size] own (J (i + 1)) { s with heap := hh', toks := tk' } .next s₂ := by
      rintro ⟨h', tk, m', news', e, F', N', ho, r⟩
      refine ⟨rfl, h', tk, m', news', e, F', fun p hp => ?_, fun p hp hI => ho p hp (List.mem_singleton.mp hI), r⟩
      rcases List.mem_append.mp hp with hp | hp
      · have h2 : hh'.get? p.1 = some p.2 := hget p hp
        rcases List.mem_cons.mp (hown p hp) with h1 | h1
        · have h3 : p = (s.heap.objs.size, it) := by
            rw [h1, hit] at h2
            exact Prod.ext h1 (Option.some.inj h2).symm
          rw [h3]; exact N' _ (List.mem_cons_self ..)
        · have h1' : p.1 = ax := List.mem_singleton.mp h1
          have h3 := (N₁ p (List.mem_append_left _ hp)).2.2
          rw [h1', hax₀] at h3
          cases h3
      · exact N' _ (List.mem_cons_of_mem _ hp)
    cases f with
    | ret v => exact .ret p
    | brk => exact .brk p
    | next => exact .next (fin p)
    | cont => exact .cont (fin p)
  · rintro h' tk m' news' F' N' _ hJ
    have z : vs.drop vs.length = [] := List.drop_length
    have hJ' : TupRest prog w A E h₀ env x body Q s s.heap.objs.size [] m' news' := by rw [← z]; exact hJ
    exact hJ' h' tk F' N'
end
theorem off_map {I : Addr} {l l' : List (Addr × Obj)} (h : ∀ p ∈ l, p.1 ≠ I) (e : l'.map (·.1) = l.map (·.1)) : ∀ p ∈ l', p.1 ≠ I := fun p hp => by
  have : p.1 ∈ l.map (·.1) := e ▸ List.mem_map.mpr ⟨p, hp, rfl⟩
  obtain ⟨q, hq, r⟩ := List.mem_map.mp this
  exact r ▸ h q hq
theorem off_cons {I T : Addr} {o : Obj} {l : List (Addr × Obj)} (hn : T ≠ I) (h : ∀ p ∈ l, p.1 ≠ I) : ∀ p ∈ (T, o) :: l, p.1 ≠ I := List.forall_mem_cons.mpr ⟨hn, h⟩
theorem mem_swap {a b : Addr × Obj} {l : List (Addr × Obj)} : ∀ p ∈ a :: b :: l, p ∈ b :: a :: l := fun p hp => by
  rcases List.mem_cons.mp hp with rfl | hp
  · exact .tail _ (.head _)
  · rcases List.mem_cons.mp hp with rfl | hp
    · exact .head _
    · exact .tail _ (.tail _ hp)
theorem lt_ne {I : Addr} {l : List (Addr × Obj)} (h : ∀ p ∈ l, p.1 < I) : ∀ p ∈ l, p.1 ≠ I := fun p hp => Nat.ne_of_lt (h p hp)

def Stp (P : Prop) : Prop := P
structure R where
  a2 : Int
  t2 : Tok
  a3 : Int
  t3 : Tok
  a4 : Int
  t4 : Tok
  a5 : Int
  t5 : Tok
  v6 : Value
structure LSt where
  k : Int
  tk : Tok
  fst : Int
  tfst : Tok
  now : Int
  tnow : Tok
  lv : Value
  gv : Value
  o : R
  p : R
  q : R
  e : R

abbrev ledOf (P : Params) (b l x1 d1 x2 d2 x3 d3 x4 d4 : Addr) (ws : List Value) (nb nl : Nat) (k11 k12 k13 k14 k15 k16 k21 k22 k23 k24 k25 k26 k31 k32 k33 k34 k35 k36 k41 k42 k43 k44 k45 k46 : Tok) (c : LSt) : List (Addr × Obj) :=
  [(b, listOf #[.ref l, .int c.k c.tk] nb), (l, listOf ws.toArray nl), (x1, instObj 81 d1), (d1, rttD P k11 k12 k13 k14 k15 k16 (.int c.o.a2 c.o.t2) (.int c.o.a3 c.o.t3) (.int c.o.a4 c.o.t4) (.int c.o.a5 c.o.t5) c.o.v6), (x2, instObj 81 d2), (d2, rttD P k21 k22 k23 k24 k25 k26 (.int c.p.a2 c.p.t2) (.int c.p.a3 c.p.t3) (.int c.p.a4 c.p.t4) (.int c.p.a5 c.p.t5) c.p.v6), (x3, instObj 81 d3), (d3, rttD P k31 k32 k33 k34 k35 k36 (.int c.q.a2 c.q.t2) (.int c.q.a3 c.q.t3) (.int c.q.a4 c.q.t4) (.int c.q.a5 c.q.t5) c.q.v6), (x4, instObj 81 d4), (d4, rttD P k41 k42 k43 k44 k45 k46 (.int c.e.a2 c.e.t2) (.int c.e.a3 c.e.t3) (.int c.e.a4 c.e.t4) (.int c.e.a5 c.e.t5) c.e.v6)]
abbrev psOf (c : LSt) : List (Str × Value) := [(Str.ofString "now", .int c.now c.tnow), (Str.ofString "first", .int c.fst c.tfst), (Str.ofString "least", c.lv), (Str.ofString "greatest", c.gv)]
abbrev stOf : List Str := [Str.ofString "latest", Str.ofString "more", Str.ofString "delay"]
def Inv (many : Int) (n : Nat) (c : LSt) : Prop :=
  (0 ≤ c.k ∧ c.k ≤ 3 + 4 * (n : Int) ∧ 0 ≤ c.now ∧ c.now ≤ 60000 * (n : Int)) ∧
  ((c.lv = .none ∧ c.gv = .none ∧ c.o.v6 = .none ∧ c.p.v6 = .none ∧ c.q.v6 = .none ∧ c.e.v6 = .none) ∨
   (∃ (l : Int) (tl : Tok) (g : Int) (tg : Tok) (f1 : Int) (s1 : Tok) (f2 : Int) (s2 : Tok) (f3 : Int) (s3 : Tok) (f4 : Int) (s4 : Tok), c.lv = .int l tl ∧ c.gv = .int g tg ∧ c.o.v6 = .int f1 s1 ∧ c.p.v6 = .int f2 s2 ∧ c.q.v6 = .int f3 s3 ∧ c.e.v6 = .int f4 s4 ∧
     (0 ≤ c.fst ∧ c.fst ≤ 60000 ∧ 1 ≤ l ∧ l ≤ g ∧ g ≤ 60000 ∧ c.o.a3 = l ∧ 8 * l ≤ c.o.a4 ∧ c.o.a4 ≤ 8 * g ∧ 0 ≤ c.o.a5 ∧ VarOk c.o.a5 c.fst (g - l) ∧ 8 * l ≤ c.p.a4 ∧ c.p.a4 ≤ 8 * g ∧ c.p.a4 ≤ c.q.a4 ∧ c.e.a4 = 8 * (50001 + many) ∧ c.e.a3 = 50001 + many)))

section
open PyProof.Rows PySem.Spec PySem.Calls
theorem loop_use {prog : Program} {w : World} {A : Around} {E : Value → Shared → Prop} {s : Shared} {env : Env} {h₀ : Heap} {x : Str} {body : List Stmt} {Q : Flow → Shared → Prop}
    {P : Params} {r : Addr} {many : Int} {t₀ u₀ v₀ tf tn tk₀ t12 t13 t14 t15 t22 t23 t24 t25 t32 t33 t34 t35 t42 t43 t44 t45 k11 k12 k13 k14 k15 k16 k21 k22 k23 k24 k25 k26 k31 k32 k33 k34 k35 k36 k41 k42 k43 k44 k45 k46 : Tok} {k₀ a12 a13 a14 a15 a22 a23 a24 a25 a32 a33 a34 a35 a42 a43 a44 a45 : Int} {m₀ : Str → Option Value} {news : List (Addr × Obj)} {b l x1 d1 x2 d2 x3 d3 x4 d4 : Addr} {ws : List Value} {nb nl : Nat}
    (hh : A.handled = none) (F : Fr h₀ env.locals s.heap m₀) (N : News h₀ env.locals s.heap news) (hr : IsRange s.heap r 0 many 1 t₀ u₀ v₀) (h0 : 0 ≤ many) (h8 : many ≤ 8)
    (e1 : m₀ (Str.ofString "one") = some (.ref x1)) (e2 : m₀ (Str.ofString "plain") = some (.ref x2)) (e3 : m₀ (Str.ofString "other") = some (.ref x3)) (e4 : m₀ (Str.ofString "alike") = some (.ref x4)) (e5 : m₀ (Str.ofString "box") = some (.ref b))
    (e6 : m₀ (Str.ofString "first") = some (.int 0 tf)) (e7 : m₀ (Str.ofString "now") = some (.int 0 tn)) (e8 : m₀ (Str.ofString "least") = some .none) (e9 : m₀ (Str.ofString "greatest") = some .none)
    (hb : (b, listOf #[.ref l, .int k₀ tk₀] nb) ∈ news) (hl : (l, listOf ws.toArray nl) ∈ news)
    (hx1 : (x1, instObj 81 d1) ∈ news) (hd1 : (d1, rttD P k11 k12 k13 k14 k15 k16 (.int a12 t12) (.int a13 t13) (.int a14 t14) (.int a15 t15) .none) ∈ news)
    (hx2 : (x2, instObj 81 d2) ∈ news) (hd2 : (d2, rttD P k21 k22 k23 k24 k25 k26 (.int a22 t22) (.int a23 t23) (.int a24 t24) (.int a25 t25) .none) ∈ news)
    (hx3 : (x3, instObj 81 d3) ∈ news) (hd3 : (d3, rttD P k31 k32 k33 k34 k35 k36 (.int a32 t32) (.int a33 t33) (.int a34 t34) (.int a35 t35) .none) ∈ news)
    (hx4 : (x4, instObj 81 d4) ∈ news) (hd4 : (d4, rttD P k41 k42 k43 k44 k45 k46 (.int a42 t42) (.int a43 t43) (.int a44 t44) (.int a45 t45) .none) ∈ news)
    (hk0 : 0 ≤ k₀ ∧ k₀ ≤ 3)
    (turn : Stp (∀ (c : LSt) (pre : List Int) (k : Int) t (u : Str → Option Value) h tk own, (pre.length : Int) < many → OwnOff own [b, l, x1, d1, x2, d2, x3, d3, x4, d4] → Inv many pre.length c →
      Fr h₀ env.locals h (fun y => if y = x then some (.int k t) else kstB (fun z => if stOf.contains z then u z else m₀ z) (psOf c) y) → News h₀ env.locals h ((ledOf P b l x1 d1 x2 d2 x3 d3 x4 d4 ws nb nl k11 k12 k13 k14 k15 k16 k21 k22 k23 k24 k25 k26 k31 k32 k33 k34 k35 k36 k41 k42 k43 k44 k45 k46) c ++ own) →
      wpAny (model prog w) A (execs body env) (InvPostN h₀ env.locals (KstS (ledOf P b l x1 d1 x2 d2 x3 d3 x4 d4 ws nb nl k11 k12 k13 k14 k15 k16 k21 k22 k23 k24 k25 k26 k31 k32 k33 k34 k35 k36 k41 k42 k43 k44 k45 k46) psOf (fun _ => True) x stOf m₀ (fun pre c => Inv many pre.length c) (pre ++ [k])) own [b, l, x1, d1, x2, d2, x3, d3, x4, d4] { s with heap := h, toks := tk } Q) E { s with heap := h, toks := tk }))
    (done : Stp (∀ (c : LSt) (u : Str → Option Value) h tk, Fr h₀ env.locals h (fun y => if y = x then u y else kstB (fun z => if stOf.contains z then u z else m₀ z) (psOf c) y) → News h₀ env.locals h ((ledOf P b l x1 d1 x2 d2 x3 d3 x4 d4 ws nb nl k11 k12 k13 k14 k15 k16 k21 k22 k23 k24 k25 k26 k31 k32 k33 k34 k35 k36 k41 k42 k43 k44 k45 k46) c) → Q .next { s with heap := h, toks := tk })) :
    wpAny (model prog w) A (pyIter (.ref r)) (fun it s₂ => LoopAtV prog w A h₀ env x body Q E it s₂) E s := by
  have hsub : ∀ p ∈ (ledOf P b l x1 d1 x2 d2 x3 d3 x4 d4 ws nb nl k11 k12 k13 k14 k15 k16 k21 k22 k23 k24 k25 k26 k31 k32 k33 k34 k35 k36 k41 k42 k43 k44 k45 k46) ⟨k₀, tk₀, 0, tf, 0, tn, .none, .none, ⟨a12, t12, a13, t13, a14, t14, a15, t15, .none⟩, ⟨a22, t22, a23, t23, a24, t24, a25, t25, .none⟩, ⟨a32, t32, a33, t33, a34, t34, a35, t35, .none⟩, ⟨a42, t42, a43, t43, a44, t44, a45, t45, .none⟩⟩, p ∈ news := by
    intro p hp
    simp only [List.mem_cons, List.not_mem_nil, or_false] at hp
    rcases hp with rfl | rfl | rfl | rfl | rfl | rfl | rfl | rfl | rfl | rfl <;> assumption
  refine kst_range (n := many.toNat) (ledOf P b l x1 d1 x2 d2 x3 d3 x4 d4 ws nb nl k11 k12 k13 k14 k15 k16 k21 k22 k23 k24 k25 k26 k31 k32 k33 k34 k35 k36 k41 k42 k43 k44 k45 k46) psOf (fun _ => True) stOf (fun pre c => Inv many pre.length c) ⟨k₀, tk₀, 0, tf, 0, tn, .none, .none, ⟨a12, t12, a13, t13, a14, t14, a15, t15, .none⟩, ⟨a22, t22, a23, t23, a24, t24, a25, t25, .none⟩, ⟨a32, t32, a33, t33, a34, t34, a35, t35, .none⟩, ⟨a42, t42, a43, t43, a44, t44, a45, t45, .none⟩⟩ hh hr (small_one (by omega) (by omega) (by omega) (by omega)) (by rw [rangeSize_nat]; simp) F (fun p hp => N p (hsub p hp)) trivial ?_ ?_ ?_ ?_
  · intro p hp
    simp only [List.mem_cons, List.not_mem_nil, or_false] at hp
    rcases hp with rfl | rfl | rfl | rfl <;> assumption
  · refine ⟨⟨hk0.1, ?_, Int.le_refl _, ?_⟩, Or.inl ⟨rfl, rfl, rfl, rfl, rfl, rfl⟩⟩
    · have := hk0.2; simp only [List.length_nil]; omega
    · simp only [List.length_nil]; omega
  · intro c pre k t u h tk own _ hlt hoff _ hp F' N'
    exact turn c pre k t u h tk own (by omega) hoff hp F' N'
  · intro c u h tk _ _ F' N'
    exact done c u h tk F' N'
end

end Mine
open Mine

local macro_rules | `(tactic| k_all) => `(tactic| assumption)
local macro_rules | `(tactic| k_mem) => `(tactic| assumption)
local macro_rules | `(tactic| k_room) => `(tactic| ktr_room)
local macro_rules | `(tactic| k_enter) => `(tactic| (refine' code_def ?k1 ?k2 ?k3 ?k4 ?k5 ?kA ?kF ?kK ?k6 ?k7 ?k8 ?k9 ?kB ?_ ?c2 ?c3 ?c4 ?c5; (case kA => exact rfl); (case kF => exact rfl); (case kK => assumption); (case k1 => k_asm); (case k2 => k_asm); (case k3 => k_asm); (case k4 => k_asm); (case k5 => k_asm); (case k6 => k_is); (case k7 => k_is); (case k8 => ktr_room); (case k9 => first | exact BindsTo.of_eq rfl | exact binds_K (by k_in) rfl (by k_is) rfl rfl rfl); (case c5 => decide); (case kB => exact locs rfl); (case c2 => exact rfl); (case c3 => exact rfl); (case c4 => exact rfl); k_whole; intro g' L' h' FG' F' N' B' X' T'; (try dsimp only); (try k_lift B'); (try k_fold)))

local macro_rules | `(tactic| walk_at "call builtin:len") => `(tactic| (k_here; (with_reducible show wpAny _ _ (call (Value.builtin "len") [Value.ref _]) _ _ _); k_dflt (refine' kst_len ?k1 ?k2 ?k3 ?k4 ?_; (case k1 => k_asm); (case k2 => k_mem); (case k3 => exact IntsAre.length (by assumption)); (case k4 => omega); k_whole)))

local macro_rules | `(tactic| walk_at "eval ListComp") => `(tactic| (k_here; k_dflt (refine' ListComp_Tup ?k1 ?k2 ?k3 ?k4 ?k5 ?k6 ?_ ?k7; (case k1 => k_asm); (case k2 => with_unfolding_all rfl); (case k3 => decide); (case k4 => rfl); (case k5 => decide); (case k6 => rfl); (case k7 => intro _; rfl))))
local macro_rules | `(tactic| walk_at "CSrcT") => `(tactic| (k_here; k_dflt (refine' CSrcT.intro ?k1 ?k2 ?k3 ?k4 ?k5 ?k6 ?_; (case k1 => rfl); (case k2 => k_asm); (case k3 => k_asm); (case k4 => k_asm); (case k5 => k_is); (case k6 => exact Nat.le_of_ble_eq_true rfl); intro g'; lcg_lit)))
local macro_rules | `(tactic| walk_at "CompEnd") => `(tactic| (refine LCg.CompEnd.intro (by assumption) (by assumption) _ (fun p hp => hp) (by assumption) trivial ?_))
local macro_rules | `(tactic| walk_at "CompRest") => `(tactic| (with_unfolding_all first
  | (refine LCg.CompRest.succ ?_; intro v' I' oI' C' oC' D' m' h' tk' E' hv' hC' hx' F' N' off' ne'; lcg_open hv')
  | refine LCg.CompRest.zero ?_))

local macro_rules | `(tactic| walk_at "exec For Name Name cons nil") => `(tactic| (k_here; (rename Fr _ _ _ _ => lF'); (with_unfolding_all refine' For_invVF lF' ?k1 ?k2 ?_; (case k1 => exact rfl); (case k2 => exact rfl); k_whole)))
local macro_rules | `(tactic| walk_at "pyIter ref") => `(tactic| (k_here; (with_reducible show wpAny _ _ (pyIter (Value.ref _)) (fun it s₂ => LoopAtV _ _ _ _ _ _ _ _ _ it s₂) _ _); k_dflt (refine' iter_tupUnr ?k1 ?k2 ?k3 ?k4 ?k5 ?_; (case k1 => rfl); (case k2 => k_asm); (case k3 => k_asm); (case k4 => k_asm); (case k5 => k_is); intro i' l1; (have l2 := lt_ne l1); (try k_lt l1))))
local macro_rules | `(tactic| walk_at "TupRest") => `(tactic| (with_unfolding_all first | (refine TupRest.succ ?_; intro it' h' tk' hc' F' N') | (refine TupRest.zero ?_; intro h' tk' F' N')))
local macro_rules | `(tactic| walk_at "UnrEnd") => `(tactic| first
  | (refine UnrEnd.intro (by assumption) (by assumption) _ (fun p hp => hp) (off_map (by assumption) (by rfl)) ?_)
  | (refine UnrEnd.intro (by assumption) (by assumption) _ mem_swap (off_cons (by k_ne) (off_map (by assumption) (by rfl))) ?_))

local macro_rules | `(tactic| walk_at "call ref") => `(tactic| (k_here; (with_reducible show wpAny _ _ (call (Value.ref _) [Value.ref _, Value.int _ _]) _ _ _); k_dflt (refine' take_use ?k2 ?kC ?k1 ?k3 ?k4 ?k5 ?kK ?kb ?kl ?kn ?ki ?kt ?p1 ?p2 ?p3 ?p4 ?kd ?ku ?_; (case k2 => k_asm); (case kC => assumption); (case k1 => k_asm); (case k3 => k_asm); (case k4 => k_asm); (case k5 => k_asm); (case kK => exact rfl); (case kb => k_mem); (case kl => k_mem); (case kn => k_ne); (case ki => assumption); (case kt => omega); (case p1 => omega); (case p2 => omega); (case p3 => omega); (case p4 => omega); (case kd => ktr_room); (case ku => ktr_units); k_whole; intro r' t' u' h' tk' hr0' hr1' F' hN'; (have N' := hN' _ (by k_upd)); (try clear hN'); (try k_sweep); walk_say "DREW")))
local macro_rules | `(tactic| walk_at "subscriptTail") => `(tactic| (k_here; (with_reducible show wpAny _ _ (subscriptTail (Expr.List _ _) _ (Value.ref _) (Value.int _ _)) _ _ _); k_dflt (refine' menu3 ?k1 ?k2 ?k3 ?k4 ?_ ?k6; (case k1 => k_asm); (case k2 => k_mem); (case k3 => omega); (case k4 => omega); (case k6 => with_unfolding_all rfl); k_whole; intro bv' hbv' hbh')))

local macro_rules | `(tactic| walk_at "call ref") => `(tactic| (k_here; (first | (with_reducible show wpAny _ _ (call (Value.ref _) []) _ _ _) | (with_reducible show wpAny _ _ (call (Value.ref _) ([] ++ [])) _ _ _)); k_dflt (refine' new_use ?k1 ?kC ?k2 ?k3 ?k4 ?k5 ?kK ?kd ?ku ?_; (case k1 => k_asm); (case kC => assumption); (case k2 => k_asm); (case k3 => k_asm); (case k4 => k_asm); (case k5 => k_asm); (case kK => exact rfl); (case kd => ktr_room); (case ku => ktr_units); k_whole; intro x' d' k1' k2' k3' k4' k5' k6' t2' t3' t4' t5' h' tk' l1 l2 F' N'; (try k_lt l1); (try k_lt2 l2); (try k_sweep); walk_say "MADE")))
local macro_rules | `(tactic| walk_at "call ref") => `(tactic| (k_here; (with_reducible show wpAny _ _ (call (Value.ref _) [Value.ref _, Value.int _ _, Value.int _ _, _, Value.int _ _]) _ _ _); k_dflt (first
  | (refine' first_use ?k1 ?kC ?k2 ?k3 ?k4 ?k5 ?kK ?kx ?ky ?kn ?kd ?ku ?_; (case k1 => k_asm); (case kC => assumption); (case k2 => k_asm); (case k3 => k_asm); (case k4 => k_asm); (case k5 => k_asm); (case kK => exact rfl); (case kx => k_mem); (case ky => k_mem); (case kn => k_ne); (case kd => ktr_room); (case ku => ktr_units); k_whole; intro t2' t3' t4' t5' t6' h' tk' F' hN'; (have N' := hN' _ (by k_upd)); (try clear hN'); (try k_sweep); walk_say "FIRST")
  | (refine' later_alike ?k1 ?kC ?k2 ?k3 ?k4 ?k5 ?kK ?kx ?ky ?kn ?kd ?ku ?_; (case k1 => k_asm); (case kC => assumption); (case k2 => k_asm); (case k3 => k_asm); (case k4 => k_asm); (case k5 => k_asm); (case kK => exact rfl); (case kx => k_mem); (case ky => k_mem); (case kn => k_ne); (case kd => ktr_room); (case ku => ktr_units); k_whole; intro v' t2' t3' t4' t5' h' tk' F' hN'; (have N' := hN' _ (by k_upd)); (try clear hN'); (try k_sweep); walk_say "ALIKE")
  | (refine' later_other ?k1 ?kC ?k2 ?k3 ?k4 ?k5 ?kK ?kx ?ky ?kn ?kl ?kg ?ko ?kd ?ku ?_; (case k1 => k_asm); (case kC => assumption); (case k2 => k_asm); (case k3 => k_asm); (case k4 => k_asm); (case k5 => k_asm); (case kK => exact rfl); (case kx => k_mem); (case ky => k_mem); (case kn => k_ne); (case kl => with_reducible assumption); (case kg => with_reducible assumption); (case ko => ((repeat ((rename @LT.lt Nat _ _ _ ∧ _ => hz9); clear hz9)); (repeat ((rename @LT.lt Nat _ _ _ => hz9); clear hz9)); omega)); (case kd => ktr_room); (case ku => ktr_units); k_whole; intro sq' v' t2' t3' t4' t5' h' tk' c1' c2' F' hN'; (have N' := hN' _ (by k_upd)); (try clear hN'); (try k_sweep); walk_say "OTHER")
  | (refine' later_plain ?k1 ?kC ?k2 ?k3 ?k4 ?k5 ?kK ?kx ?ky ?kn ?kl ?kg ?kd ?ku ?_; (case k1 => k_asm); (case kC => assumption); (case k2 => k_asm); (case k3 => k_asm); (case k4 => k_asm); (case k5 => k_asm); (case kK => exact rfl); (case kx => k_mem); (case ky => k_mem); (case kn => k_ne); (case kl => with_reducible assumption); (case kg => with_reducible assumption); (case kd => ktr_room); (case ku => ktr_units); k_whole; intro sp' v' t2' t3' t4' t5' h' tk' c1' c2' c3' F' hN'; (have N' := hN' _ (by k_upd)); (try clear hN'); (try k_sweep); walk_say "PLAIN")
  | (refine' later_one ?k1 ?kC ?k2 ?k3 ?k4 ?k5 ?kK ?kx ?ky ?kn ?kb ?kg ?kh ?ki ?kj ?ke ?kd ?ku ?_; (case k1 => k_asm); (case kC => assumption); (case k2 => k_asm); (case k3 => k_asm); (case k4 => k_asm); (case k5 => k_asm); (case kK => exact rfl); (case kx => k_mem); (case ky => k_mem); (case kn => k_ne); (case kb => assumption); (case kg => with_reducible assumption); (case kh => with_reducible assumption); (case ki => with_reducible assumption); (case kj => with_reducible assumption); (case ke => ((repeat ((rename @LT.lt Nat _ _ _ ∧ _ => hz9); clear hz9)); (repeat ((rename @LT.lt Nat _ _ _ => hz9); clear hz9)); omega)); (case kd => ktr_room); (case ku => ktr_units); k_whole; intro s' v' t2' t3' t4' t5' h' tk' g1' g2' g3' g4' g5' g6' g7' F' hN'; (have N' := hN' _ (by k_upd)); (try clear hN'); (try k_sweep); walk_say "LATER1"))))
local macro_rules | `(tactic| walk_at "call ref") => `(tactic| (k_here; (with_reducible show wpAny _ _ (call (Value.ref _) [Value.ref _, Value.int _ _, Value.int _ _, Value.int _ _, Value.int _ _, Value.int _ _, Value.int _ _]) _ _ _); k_dflt (refine' probe_use ?k1 ?kC ?k2 ?k3 ?k4 ?k5 ?kK ?kx ?ky ?kw ?kv ?kd ?ku ?_; (case k1 => k_asm); (case kC => assumption); (case k2 => k_asm); (case k3 => k_asm); (case k4 => k_asm); (case k5 => k_asm); (case kK => exact rfl); (case kx => k_mem); (case ky => k_mem); (case kw => first | assumption | exact ⟨Or.inl (Int.le_refl _)⟩); (case kv => ((repeat ((rename @LT.lt Nat _ _ _ ∧ _ => hz9); clear hz9)); (repeat ((rename @LT.lt Nat _ _ _ => hz9); clear hz9)); refine ⟨?_, ?_, ?_, ?_, ?_, ?_, ?_, ?_, ?_, ?_, ?_, ?_, ?_⟩ <;> omega)); (case kd => ktr_room); (case ku => ktr_units); k_whole; intro h' tk' F' N'; (try k_sweep); walk_say "PROBED")))

local macro_rules | `(tactic| walk_at "exec For Name Call cons nil") => `(tactic| (k_here; (rename Fr _ _ _ _ => lF'); (with_unfolding_all refine' For_invVF lF' ?k1 ?k2 ?_; (case k1 => exact rfl); (case k2 => exact rfl); k_whole)))
local macro_rules | `(tactic| walk_at "pyIter ref") => `(tactic| (k_here; (with_reducible show wpAny _ _ (pyIter (Value.ref _)) (fun it s₂ => LoopAtV _ _ _ _ _ _ _ _ _ it s₂) _ _); (rename Fr _ _ _ _ => lF'); (rename News _ _ _ _ => lN'); (rename IsRange _ _ _ _ _ _ _ _ => rgX); k_dflt (refine' loop_use ?hhq ?Fq ?Nq ?hrq ?h0q ?h8q ?e1q ?e2q ?e3q ?e4q ?e5q ?e6q ?e7q ?e8q ?e9q ?hbq ?hlq ?hx1q ?hd1q ?hx2q ?hd2q ?hx3q ?hd3q ?hx4q ?hd4q ?hk0q ?_ ?_; (case hhq => rfl); (case Fq => exact lF'); (case Nq => exact lN'); (case hrq => first | exact rgX | assumption); (case h0q => omega); (case h8q => omega); (case e1q => with_unfolding_all rfl); (case e2q => with_unfolding_all rfl); (case e3q => with_unfolding_all rfl); (case e4q => with_unfolding_all rfl); (case e5q => with_unfolding_all rfl); (case e6q => with_unfolding_all rfl); (case e7q => with_unfolding_all rfl); (case e8q => with_unfolding_all rfl); (case e9q => with_unfolding_all rfl); (case hbq => k_mem); (case hlq => k_mem); (case hx1q => k_mem); (case hd1q => k_mem); (case hx2q => k_mem); (case hd2q => k_mem); (case hx3q => k_mem); (case hd3q => k_mem); (case hx4q => k_mem); (case hd4q => k_mem); (case hk0q => omega); (all_goals (try clear lF' lN')))))
local macro_rules | `(tactic| walk_at "InvEndN") => `(tactic| (k_dflt ((rename News _ _ _ _ => nE'); (refine kst_end ⟨_, _, _, _, _, _, _, _, ⟨_, _, _, _, _, _, _, _, _⟩, ⟨_, _, _, _, _, _, _, _, _⟩, ⟨_, _, _, _, _, _, _, _, _⟩, ⟨_, _, _, _, _, _, _, _, _⟩⟩ (by assumption) nE' (by kst_in) (by first | (intro p hp; kst_mem) | kst_anyIn) (by rfl) True.intro (by kst_all) (by kst_same) ?_); (try dsimp only); (refine ⟨⟨?_, ?_, ?_, ?_⟩, Or.inr ⟨_, _, _, _, _, _, _, _, _, _, _, _, rfl, rfl, rfl, rfl, rfl, rfl, ?_, ?_, ?_, ?_, ?_, ?_, ?_, ?_, ?_, ?_, ?_, ?_, ?_, ?_, ?_⟩⟩); (all_goals (try dsimp only)); (all_goals first | with_reducible assumption | with_reducible rfl | with_reducible exact Int.le_refl _ | exact ⟨Or.inl (Int.le_refl _)⟩ | exact rfl | ((repeat ((rename @LT.lt Nat _ _ _ ∧ _ => hz9); clear hz9)); (repeat ((rename @LT.lt Nat _ _ _ => hz9); clear hz9)); (try simp only [List.length_append, List.length_cons, List.length_nil]); omega)))))
local macro_rules | `(tactic| walk_at "call builtin:max") => `(tactic| ((rename MainMark => hMm); k_here; (with_reducible show wpAny _ _ (call (Value.builtin _) [Value.int _ _, Value.int _ _]) _ _ _); k_dflt (refine' max_let ?k1 ?k2 ?k3 ?_; (case k1 => rfl); (case k2 => k_asm); (case k3 => k_asm); intro v' h' tk' b1' b2' F' N'; (try k_sweep))))
local macro_rules | `(tactic| walk_at "call builtin:min") => `(tactic| ((rename MainMark => hMm); k_here; (with_reducible show wpAny _ _ (call (Value.builtin _) [Value.int _ _, Value.int _ _]) _ _ _); k_dflt (refine' min_let ?k1 ?k2 ?k3 ?_; (case k1 => rfl); (case k2 => k_asm); (case k3 => k_asm); intro v' h' tk' b1' b2' F' N'; (try k_sweep))))
local macro_rules | `(tactic| walk_at "ite") => `(tactic| ((rename MainMark => hMm); k_openite; k_dflt (first
  | (refine ite_pos (by first | (simp only [decide_eq_true_eq, decide_eq_false_iff_not, Bool.not_eq_true', Bool.not_eq_true, Bool.not_eq_false, bne_iff_ne, ne_eq, gt_iff_lt, ge_iff_le, Int.not_lt, Int.not_le, Decidable.not_not, not_true_eq_false, not_false_eq_true, fdiv8_mul]; done) | ((try simp only [decide_eq_true_eq, decide_eq_false_iff_not, Bool.not_eq_true', Bool.not_eq_true, Bool.not_eq_false, bne_iff_ne, ne_eq, gt_iff_lt, ge_iff_le, Int.not_lt, Int.not_le, Decidable.not_not, not_true_eq_false, not_false_eq_true, fdiv8_mul]); first | with_reducible assumption | with_reducible exact Int.le_refl _ | with_reducible exact Int.add_le_add_left (by with_reducible assumption) _)) ?_; (try dsimp only); walk_say "DECIDED")
  | (refine ite_neg (by first | (simp only [decide_eq_true_eq, decide_eq_false_iff_not, Bool.not_eq_true', Bool.not_eq_true, Bool.not_eq_false, bne_iff_ne, ne_eq, gt_iff_lt, ge_iff_le, Int.not_lt, Int.not_le, Decidable.not_not, not_true_eq_false, not_false_eq_true, fdiv8_mul]; done) | ((try simp only [decide_eq_true_eq, decide_eq_false_iff_not, Bool.not_eq_true', Bool.not_eq_true, Bool.not_eq_false, bne_iff_ne, ne_eq, gt_iff_lt, ge_iff_le, Int.not_lt, Int.not_le, Decidable.not_not, not_true_eq_false, not_false_eq_true, fdiv8_mul]); first | with_reducible assumption | with_reducible exact Int.le_refl _ | with_reducible exact Int.add_le_add_left (by with_reducible assumption) _)) ?_; (try dsimp only); walk_say "DECIDED NOT")
  | (refine ite_pos (by ((repeat ((rename @LT.lt Nat _ _ _ ∧ _ => hz9); clear hz9)); (repeat ((rename @LT.lt Nat _ _ _ => hz9); clear hz9)); (try simp only [decide_eq_true_eq, decide_eq_false_iff_not, Bool.not_eq_true', Bool.not_eq_true, Bool.not_eq_false, bne_iff_ne, ne_eq, gt_iff_lt, ge_iff_le, Int.not_lt, Int.not_le, Decidable.not_not, not_true_eq_false, not_false_eq_true, fdiv8_mul]); law_purse 4000 => omega)) ?_; (try dsimp only); walk_say "DECIDED by omega")
  | (refine ite_neg (by ((repeat ((rename @LT.lt Nat _ _ _ ∧ _ => hz9); clear hz9)); (repeat ((rename @LT.lt Nat _ _ _ => hz9); clear hz9)); (try simp only [decide_eq_true_eq, decide_eq_false_iff_not, Bool.not_eq_true', Bool.not_eq_true, Bool.not_eq_false, bne_iff_ne, ne_eq, gt_iff_lt, ge_iff_le, Int.not_lt, Int.not_le, Decidable.not_not, not_true_eq_false, not_false_eq_true, fdiv8_mul]); law_purse 4000 => omega)) ?_; (try dsimp only); walk_say "DECIDED NOT by omega"))))
local macro_rules | `(tactic| walk_at "callWith ref") => `(tactic| ((rename MainMark => hMm); k_here; (with_reducible show wpAny _ _ (callWith _ (Value.ref _) _ (backTo _ (starEach [] _)) []) _ _ _); (try dsimp only); k_dflt (refine' callWith_K0 ?k1 ?k2 ?_; (case k1 => exact Frag.In.keeps (by with_reducible assumption) (Fr.keep (by with_reducible assumption))); (case k2 => k_is); k_whole); walk_say "K0"))
local macro_rules | `(tactic| walk_at "eval IfExp") => `(tactic| ((rename MainMark => hMm); k_here; (with_reducible show wpAny _ _ (eval (Expr.IfExp (Expr.Compare (Expr.Name (PySem.Str.ofString "bound") _) _ _ _) _ _ _) _) _ _ _); (rename BoundV _ => hb9); k_dflt (refine' join_int ?hc9 ?_; (case hc9 => (rcases hb9 with h9 | ⟨j9, t9, h9, hj0, hj1⟩ <;> subst h9 <;> (repeat' (first | walk1 | (dsimp only; walk1))) <;> exact WaitPost.intro (by first | with_reducible assumption | decide) (by first | with_reducible assumption | decide))); intro wt9 t9 tk9 hw0 hw1; (try dsimp only); walk_say "WAIT")))

set_option maxRecDepth 100000 in
set_option maxHeartbeats 40000000 in
theorem PySem.Challenge.cw_sa0566_01_holds : PySem.Challenge.rw_sa0566_01.Holds := by
  refine Mine.hd ?_
  k_fill
  refine with_claim (fun K p => ∀ w loose mean mg mb, TakeC PySem.Challenge.rw_sa0566_01.row.prog w 126 (K w.params) p loose mean mg mb) ?_ (fun hTake => ?_)
  · intro w loose mean mg mb
    unfold TakeC
    intro b l vs ns c n k tk many tm rest dp un gd cn cs a ccd cl outer A₀ base h₀ L m s Q E B F X N T hk hne hl hI hlen hk0 hk1 hm0 hm1 hd hu hret
    have kMark := kstMark
    have kLen := hI.length
    refine wpAny_call ?_
    k_dflt k_enter
    k_steps
    all_goals exact hret _ _ _ _ _ (fmod_lo hm0) (fmod_hi hm0) (by assumption) (by assumption)
  refine with_claim (fun K p => ∀ w loose mean mg mb, NewC PySem.Challenge.rw_sa0566_01.row.prog w 81 (K w.params) p loose mean mg mb) ?_ (fun hNew => ?_)
  · clear hTake
    intro w loose mean mg mb
    unfold NewC
    intro news dp un gd cn cs a ccd cl outer A₀ base h₀ L m s Q E B F X N T hk hd hu hret
    k_here
    k_dflt refine' call_cls ?k1 ?k2 ?k3 ?k4 ?k5 ?k6 ?_
    (case k1 => k_asm); (case k2 => k_asm); (case k3 => k_asm); (case k4 => k_is); (case k5 => k_is); (case k6 => k_is)
    intro x' d' h' F' N' l1 l2
    have l3 : ∀ p ∈ news, p.1 ≠ d' := fun p hp => Nat.ne_of_lt (l1 p hp)
    (k_lt2 l2)
    k_dflt k_enter
    k_steps
    all_goals exact hret _ _ _ _ _ _ _ _ _ _ _ _ _ _ l1 l2 (by assumption) (by assumption)
  refine with_claim (fun K p => ∀ w loose mean mg mb, FirstC PySem.Challenge.rw_sa0566_01.row.prog w 64 81 (K w.params) p loose mean mg mb) ?_ (fun hFirst => ?_)
  · clear hTake hNew
    intro w loose mean mg mb
    unfold FirstC
    intro x d k1 k2 k3 k4 k5 k6 t2 t3 t4 t5 a2 a3 a4 a5 latest delay now u1 u2 u3 bv rest dp un gd cn cs a ccd cl outer A₀ base h₀ L m s Q E B F X N T hk hne hx hd hu hret
    k_steps
    all_goals exact hret _ _ _ _ _ _ _ (by assumption) (by assumption)
  refine with_claim (fun K p => ∀ w loose mean mg mb, LaterC PySem.Challenge.rw_sa0566_01.row.prog w 64 81 (K w.params) p loose mean mg mb) ?_ (fun hLater => ?_)
  · clear hTake hNew hFirst
    intro w loose mean mg mb
    unfold LaterC
    intro x d k1 k2 k3 k4 k5 k6 t2 t3 t4 t5 t6 a2 a3 a4 a5 a6 latest delay now u1 u2 u3 bv rest dp un gd cn cs a ccd cl outer A₀ base h₀ L m s Q E B F X N T hk hne hx hbv hde hd hu hret
    replace hret : ∀ (x4 x5 : Int) (t2 t3 t4 t5 : Tok) (h' : Heap) (tk' : Nat), Fr h₀ L h' m → News h₀ L h' ((d, rttD w.params k1 k2 k3 k4 k5 k6 (.int latest t2) (.int (if latest < a3 then latest else a3) t3) (.int x4 t4) (.int x5 t5) (.int a6 t6)) :: rest) →
        ((if latest < a3 then latest else a3) ≤ x4 - (a4 - a4 / 8) ∧ x4 - (a4 - a4 / 8) ≤ latest ∧ (delay = 0 → x4 - (a4 - a4 / 8) = latest) ∧ 0 ≤ x5 - (a5 - a5 / 4) ∧ (x5 - (a5 - a5 / 4) = a4 / 8 - (x4 - (a4 - a4 / 8)) ∨ x5 - (a5 - a5 / 4) = (x4 - (a4 - a4 / 8)) - a4 / 8)) → Q .none { s with heap := h', toks := tk' } := by
      intro x4 x5 t2 t3 t4 t5 h' tk' F' N' ⟨e4, e5, e6, e7, e8⟩
      refine hret _ _ t2 t3 t4 t5 h' tk' e4 e5 e6 e7 e8 F' ?_
      rw [show a4 - a4 / 8 + (x4 - (a4 - a4 / 8)) = x4 by omega, show a5 - a5 / 4 + (x5 - (a5 - a5 / 4)) = x5 by omega]
      exact N'
    rcases hbv with rfl | ⟨j9, t9, rfl, hj0, hj1⟩
    all_goals k_steps
    all_goals (refine hret _ _ _ _ _ _ _ _ (by assumption) (by assumption) ?_)
    all_goals (clear hret; simp only [itMin, itAbs, fdiv8, fdiv4] at *; omega)
  refine with_claim (fun K p => ∀ w loose mean mg mb, ProbeC PySem.Challenge.rw_sa0566_01.row.prog w 133 81 (K w.params) p loose mean mg mb) ?_ (fun hProbe => ?_)
  · clear hTake hNew hFirst hLater
    intro w loose mean mg mb

    unfold ProbeC
    intro x d k1 k2 k3 k4 k5 k6 t4 t5 v2 v3 v6 a4 a5 first least greatest wait count now u1 u2 u3 u4 u5 u6 news dp un gd cn cs a ccd cl outer A₀ base h₀ L m s Q E B F X N T hk hx hdd hv hl hg hv0 hl0 hf0 hf1 hg1 hw0 hw1 hc0 hc1 hn0 hn1 hd hu hret
    replace hret : ∀ (b : Bool) (all : List (Addr × Obj)) (h' : Heap) (tk' : Nat), Fr h₀ L h' m → News h₀ L h' all → (∀ p ∈ news, p ∈ all) → b = true → Q (.bool b) { s with heap := h', toks := tk' } := by
      intro b all h' tk' F' N' hs hb
      subst hb
      exact hret h' tk' F' fun p hp => N' p (hs p hp)
    have kMark := kstMark
    k_steps
    all_goals (refine hret _ _ _ _ (by assumption) (by assumption) (fun p hp => by repeat (first | exact hp | refine List.Mem.tail _ ?_)) ?_)
    all_goals (clear hret)
    · exfalso
      simp only [itMax] at *
      omega
    · refine decide_eq_true (mul_pow_le ?_)
      simp only [itMax, fdiv8] at *
      omega
    · refine decide_eq_true (mul_pow_le ?_)
      simp only [itMax, fdiv8] at *
      omega

  k_go0
  (rename Top _ _ _ _ _ _ => T9)
  (rename World => w9)
  have hT1 := claim_top T9 (hTake w9)
  have hT2 := claim_top T9 (hNew w9)
  have hT3 := claim_top T9 (hFirst w9)
  have hT4 := claim_top T9 (hLater w9)
  have hT5 := claim_top T9 (hProbe w9)
  clear hTake hNew hFirst hLater hProbe
  have kMark := kstMark
  have hMain := MainMark.mk
  (all_goals try k_fold)
  repeat' (first | (k_unfold; (try dsimp only)) | walk1 | (dsimp only; walk1))
  rotate_left
  · unfold Stp
    intro c u h tk hF hN
    obtain ⟨ck, ctk, cf, ctf, cn, ctn, clv, cgv, ⟨o2, ot2, o3, ot3, o4, ot4, o5, ot5, o6⟩, ⟨p2, pt2, p3, pt3, p4, pt4, p5, pt5, p6⟩, ⟨q2, qt2, q3, qt3, q4, qt4, q5, qt5, q6⟩, ⟨e2, et2, e3, et3, e4, et4, e5, et5, e6⟩⟩ := c
    (dsimp only [psOf, kstB] at hF)
    (dsimp only [ledOf] at hN)
    (try dsimp only)
    k_steps
  unfold Stp
  intro c pre k t u h tk own hLt hOff hInv hF hN
  obtain ⟨ck, ctk, cf, ctf, cn, ctn, clv, cgv, ⟨o2, ot2, o3, ot3, o4, ot4, o5, ot5, o6⟩, ⟨p2, pt2, p3, pt3, p4, pt4, p5, pt5, p6⟩, ⟨q2, qt2, q3, qt3, q4, qt4, q5, qt5, q6⟩, ⟨e2, et2, e3, et3, e4, et4, e5, et5, e6⟩⟩ := c
  obtain ⟨⟨i1, i2, i3, i4⟩, hph⟩ := hInv
  (dsimp only [psOf, kstB] at hF)
  (dsimp only [ledOf] at hN)
  (dsimp only at i1 i2 i3 i4 hph)
  (simp only [List.cons_append, List.nil_append] at hN)
  (rcases hph with ⟨z1, z2, z3, z4, z5, z6⟩ | ⟨l, tl, g, tg, f1, s1, f2, s2, f3, s3, f4, s4, z1, z2, z3, z4, z5, z6, j1, j2, j3, j4, j5, j6, j7, j8, j9, j10, j11, j12, j13, j14, j15⟩)
  · subst z1; subst z2; subst z3; subst z4; subst z5; subst z6
    (try k_fold)
    repeat' (first | (k_unfold; (try dsimp only)) | walk1 | (dsimp only; walk1))
  · subst z1; subst z2; subst z3; subst z4; subst z5; subst z6
    subst j6; subst j14; subst j15
    (try k_fold)
    repeat' (first | (k_unfold; (try dsimp only)) | walk1 | (dsimp only; walk1))
