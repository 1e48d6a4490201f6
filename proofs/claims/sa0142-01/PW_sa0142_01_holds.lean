import PyProof.Rows.All
import Wide.All
import OpenK.AllK
import Wide.FinOn
import Lean
import PySem.Challenge.RW_sa0142_01
open PySem PySem.W PyProof.Rows
set_option Elab.async false
set_option rowWalk.seconds 0
namespace Mine
/-- the head's premise, named anew: so it is closed at once, by one run of the whole top -/
abbrev LeftAll (p q : Program) (loose : List Str) (Xt : Shared → Bool) {α : Type} (Yf : Shared → α) (Ya : World → α) (N : Nat) : Prop := LeftO p q loose Xt Yf Ya N
theorem PySem.W.holds_open {r : OpenRow} {q : Program} {loose : List Str} {Xt : Shared → Bool} {XP : (Str → Option Value) → Heap → Prop} {α : Type} {Yf : Shared → α} {Ya : World → α} {YP : World → Heap → Prop} {d : DefRec} {kwd : List (Str × Expr)} {N : Nat}
    (left : LeftAll r.prog q loose Xt Yf Ya N) (hY : ∀ w s, Yf s = Ya w → YP w s.heap) (hYk : ∀ w h h', YP w h → (∀ b o, h.get? b = some o → h'.get? b = some o) → YP w h')
    (hX : ∀ s, Xt s = true → XP (s.heap.nsMap mainGlobals) s.heap) (hXk : ∀ mg h h', XP mg h → (∀ b o, h.get? b = some o → h'.get? b = some o) → XP mg h')
    (hdef : defOf q r.name = some (d, kwd)) (hp : r.prog.theDef r.name = some (d.params, d.body, d.scope)) (hk : kwWritten? d.params.kwonlyargs d.params.kw_defaults = some kwd) (hRf : ∀ s, Xt s = true → RecFacts r.records s.heap) (hwr : (!r.writes || r.records.isEmpty) = true)
    (k1 : r.wellSaid = true) (ok : (chainsOk q && opensWell r.prog && (frees r.toRowW && r.within.isEmpty)) = true) (hb : r.prog.bare) (hw : r.toRowW.promised)
    (call : WalkO q loose XP YP r.toRowW d kwd fun f vs => PySem.call f vs) : r.Holds :=
  _root_.PySem.W.holds_open left hY hYk hX hXk hdef hp hk hRf hwr k1 ok hb hw call
local macro_rules | `(tactic| o_law) => `(tactic| refine PySem.W.holds_law (by decide +kernel) fun said => ?_)
set_option maxRecDepth 100000 in
set_option maxHeartbeats 8000000 in
open_top hd for PySem.Challenge.rw_sa0142_01
end Mine
namespace Mine
theorem walk_off : True := by
  w_top off
  trivial
end Mine
namespace Mine
open PySem PySem.W PySem.Spec PySem.Calls PyProof.Rows
set_option maxRecDepth 100000
set_option linter.unusedSimpArgs false
theorem j0 {a b  : Prop} (h : a ∧ b) : a := h.1
theorem j1 {a b p0 : Prop} (h : p0 ∧ a ∧ b) : a := h.2.1
theorem j2 {a b p0 p1 : Prop} (h : p0 ∧ p1 ∧ a ∧ b) : a := h.2.2.1
theorem j3 {a b p0 p1 p2 : Prop} (h : p0 ∧ p1 ∧ p2 ∧ a ∧ b) : a := h.2.2.2.1
theorem j4 {a b p0 p1 p2 p3 : Prop} (h : p0 ∧ p1 ∧ p2 ∧ p3 ∧ a ∧ b) : a := h.2.2.2.2.1
theorem j5 {a b p0 p1 p2 p3 p4 : Prop} (h : p0 ∧ p1 ∧ p2 ∧ p3 ∧ p4 ∧ a ∧ b) : a := h.2.2.2.2.2.1
theorem j6 {a b p0 p1 p2 p3 p4 p5 : Prop} (h : p0 ∧ p1 ∧ p2 ∧ p3 ∧ p4 ∧ p5 ∧ a ∧ b) : a := h.2.2.2.2.2.2.1
theorem j7 {a b p0 p1 p2 p3 p4 p5 p6 : Prop} (h : p0 ∧ p1 ∧ p2 ∧ p3 ∧ p4 ∧ p5 ∧ p6 ∧ a ∧ b) : a := h.2.2.2.2.2.2.2.1
theorem j8 {a b p0 p1 p2 p3 p4 p5 p6 p7 : Prop} (h : p0 ∧ p1 ∧ p2 ∧ p3 ∧ p4 ∧ p5 ∧ p6 ∧ p7 ∧ a ∧ b) : a := h.2.2.2.2.2.2.2.2.1
theorem j9 {a b p0 p1 p2 p3 p4 p5 p6 p7 p8 : Prop} (h : p0 ∧ p1 ∧ p2 ∧ p3 ∧ p4 ∧ p5 ∧ p6 ∧ p7 ∧ p8 ∧ a ∧ b) : a := h.2.2.2.2.2.2.2.2.2.1
theorem j10 {a b p0 p1 p2 p3 p4 p5 p6 p7 p8 p9 : Prop} (h : p0 ∧ p1 ∧ p2 ∧ p3 ∧ p4 ∧ p5 ∧ p6 ∧ p7 ∧ p8 ∧ p9 ∧ a ∧ b) : a := h.2.2.2.2.2.2.2.2.2.2.1
theorem t0 {a b c : Prop} (h : a ∧ b ∧ c) : a := h.1
theorem t1 {a b c : Prop} (h : a ∧ b ∧ c) : b := h.2.1
theorem t2 {a b c : Prop} (h : a ∧ b ∧ c) : c := h.2.2
theorem room0 {dp b R : Nat} (h : dp + (b + 1) < R) : dp < R := Nat.lt_of_le_of_lt (Nat.le_add_right dp (b + 1)) h
theorem room1 {dp a b R : Nat} (h : dp + (b + 1) < R) (l : a ≤ b) : dp + 1 + a < R := by omega
theorem units1 {un a b R : Nat} (h : un + 8 * (b + 1) + 64 < R) (l : a ≤ b) : un + 3 + 8 * a + 64 < R := by omega
theorem room2 {dp a b R : Nat} (h : dp + (b + 2) < R) (l : a ≤ b) : dp + 1 + 1 + a < R := by omega
theorem units2 {un a b R : Nat} (h : un + 8 * (b + 1) + 64 < R) (l : a ≤ b) : un + 1 + 3 + 8 * a + 64 < R := by omega

/-- a call's triple over the ledger -/
def Tri (K : Frag) (w : World) (f : Addr) (fr : Nat) (vs : List Value) (news : List (Addr × Obj)) (R : Value → List (Addr × Obj) → Prop) : Prop :=
  ∀ (loose : List Str) (mean : ExcName → Option Value) (mg mb : Str → Option Value) (dp un : Nat) (gd : Option (List Code)) (cn : Str) (cs : Scope) (a : Addr) (ccd : Value) (cl : List (Str × Addr)) (outer : List Env) (A₀ : Around) (base h₀ : Heap) (L : Addr) (m : Str → Option Value) (s : Shared) (Q E : Value → Shared → Prop),
    Below A₀ base outer h₀ → Fr h₀ L s.heap m → K.In h₀ → News h₀ L s.heap news → Top Mine.hd.view_1 loose mean mg mb h₀ → cs.kind = .function → dp + fr < recursionLimit → un + 8 * fr + 64 < cLine →
    (∀ r news' h' tk', Fr h₀ L h' m → News h₀ L h' news' → R r news' → Q r { s with heap := h', toks := tk' }) →
    wpAny (model PySem.Challenge.rw_sa0142_01.row.prog w) (ktrTop dp un gd cn cs L a ccd cl outer) (call (.ref f) vs) Q E s

section
variable {K : Frag} {w : World} {f : Addr} {fr : Nat} {vs : List Value} {news news0 : List (Addr × Obj)} {R : Value → List (Addr × Obj) → Prop}
theorem tri_use {loose : List Str} {mean : ExcName → Option Value} {mg mb : Str → Option Value} {dp un : Nat} {gd : Option (List Code)} {cn : Str} {cs : Scope} {a : Addr} {ccd : Value} {cl : List (Str × Addr)} {outer : List Env} {A₀ : Around} {base h₀ : Heap} {L : Addr} {m : Str → Option Value} {s : Shared} {Q E : Value → Shared → Prop}
    (B : Below A₀ base outer h₀) (F : Fr h₀ L s.heap m) (X : K.In h₀) (N : News h₀ L s.heap news0) (T : Top Mine.hd.view_1 loose mean mg mb h₀) (hk : cs.kind = .function)
    (C : Tri K w f fr vs news R) (sub : ∀ p ∈ news, p ∈ news0) (hd : dp + fr < recursionLimit) (hu : un + 8 * fr + 64 < cLine)
    (ret : ∀ r news' h' tk', Fr h₀ L h' m → News h₀ L h' news' → R r news' → Q r { s with heap := h', toks := tk' }) :
    wpAny (model PySem.Challenge.rw_sa0142_01.row.prog w) (ktrTop dp un gd cn cs L a ccd cl outer) (call (.ref f) vs) Q E s :=
  C loose mean mg mb dp un gd cn cs a ccd cl outer A₀ base h₀ L m s Q E B F X (fun p hp => N p (sub p hp)) T hk hd hu ret
end

def Sub (l l' : List (Addr × Obj)) : Prop := ∀ p ∈ l, p ∈ l'
theorem said1 : True := by
  k_with_none
  trivial
theorem Sub.of {l l' : List (Addr × Obj)} (h : Sub l l') : ∀ p ∈ l, p ∈ l' := h
theorem Sub.rfl {l : List (Addr × Obj)} : Sub l l := fun _ h => h
/-- no entry at X -/
def Off (X : Addr) (l : List (Addr × Obj)) : Prop := ∀ p ∈ l, p.1 ≠ X
theorem Off.all {X : Addr} {l : List (Addr × Obj)} (h : Off X l) : ∀ p ∈ l, p.1 ≠ X := h
/-- tuples alone -/
def Tups (l : List (Addr × Obj)) : Prop := ∀ p ∈ l, p.2.cls = .type "tuple" ∧ ∃ (its : Array Value) (n : Nat), p.2.data = .seq its n
theorem Tups.nil : Tups [] := fun _ h => nomatch h
theorem Tups.cons {a : Addr} {its : Array Value} {n : Nat} {l : List (Addr × Obj)} (h : Tups l) : Tups ((a, ({ cls := .type "tuple", data := .seq its n } : Obj)) :: l) := fun p hp => by
  rcases List.mem_cons.mp hp with rfl | hp
  · exact ⟨rfl, _, _, rfl⟩
  · exact h p hp
theorem Tups.app {l l' : List (Addr × Obj)} (h : Tups l) (h' : Tups l') : Tups (l ++ l') := fun p hp => (List.mem_append.mp hp).elim (h p) (h' p)
theorem off_tups {h₀ h : Heap} {L D : Addr} {o : Obj} {tl l : List (Addr × Obj)} (H : Tups tl) (N : News h₀ L h l) (m : (D, o) ∈ l) (hc : (o.cls == .type "tuple") = false) (sub : ∀ p ∈ tl, p ∈ l) : ∀ p ∈ tl, p.1 ≠ D := by
  intro p hp e
  have h1 := (N p (sub p hp)).1
  have h2 := (N _ m).1
  rw [e] at h1
  rw [h1] at h2
  have h3 := (H p hp).1
  cases h2
  rw [h3] at hc
  exact absurd hc (by decide)

theorem off_cell {h₀ h : Heap} {L D : Addr} {o : Obj} {v : Option Value} {tl l : List (Addr × Obj)} (H : Tups tl) (N : News h₀ L h l) (m : (D, o) ∈ l) (hc : o.data = .cell v) (sub : ∀ p ∈ tl, p ∈ l) : ∀ p ∈ tl, p.1 ≠ D := by
  intro p hp e
  have h1 := (N p (sub p hp)).1
  have h2 := (N _ m).1
  rw [e] at h1
  rw [h1] at h2
  obtain ⟨its, n, h3⟩ := (H p hp).2
  cases h2
  rw [h3] at hc
  cases hc
/-- an entry taken out -/
inductive Pick (a : Addr) (o : Obj) : List (Addr × Obj) → List (Addr × Obj) → Prop
  | head {r} : Pick a o ((a, o) :: r) r
  | tail {q l r} : Pick a o l r → Pick a o (q :: l) (q :: r)
theorem Pick.sub {a : Addr} {o : Obj} : ∀ {l r : List (Addr × Obj)}, Pick a o l r → ∀ p ∈ (a, o) :: r, p ∈ l
  | _, _, .head, p, hp => hp
  | _, _, .tail (q := q) h, p, hp => by
    rcases List.mem_cons.mp hp with rfl | hp
    · exact .tail _ (h.sub _ (.head _))
    · rcases List.mem_cons.mp hp with rfl | hp
      · exact .head _
      · exact .tail _ (h.sub _ (.tail _ hp))
theorem Pick.sub2 {a b : Addr} {o o' : Obj} {l l1 l2 : List (Addr × Obj)} (h : Pick a o l l1) (k : Pick b o' l1 l2) : ∀ p ∈ (a, o) :: (b, o') :: l2, p ∈ l := fun p hp => by
  rcases List.mem_cons.mp hp with rfl | hp
  · exact h.sub _ (.head _)
  · exact h.sub _ (.tail _ (k.sub _ hp))

/-! cheap lines -/
local macro_rules | `(tactic| walk_at $s:str) => do let z := Lean.Syntax.mkStrLit ("my " ++ s.getString); `(tactic| k_extra $z)
local macro_rules | `(tactic| k_mem) => `(tactic| k_extra "my k_mem9")
local macro_rules | `(tactic| k_all) => `(tactic| k_extra "my k_all9")
local macro_rules | `(tactic| k_ne) => `(tactic| k_extra "my k_ne9")
local macro_rules | `(tactic| ktr_room) => `(tactic| k_extra "my ktr_room9")
local macro_rules | `(tactic| ktr_units) => `(tactic| k_extra "my ktr_units9")
/-! end of the cheap lines -/
section

/-- the pot's two objects -/
def PotObj (Nn : Addr) (o1 o2 : Obj) : Prop :=
  ∃ (c : Int) (t : Tok) (vs : List Value) (ns : List Int) (e1 e2 : Nat), o1 = listOf #[.int c t, .ref Nn] e1 ∧ o2 = listOf vs.toArray e2 ∧ IntsAre vs ns ∧ 0 < ns.length ∧ ns.length ≤ 20
theorem said2 : True := by
  k_with "my ltc" => first | exact j0 (by assumption) | exact j1 (by assumption) | exact j2 (by assumption) | exact j3 (by assumption) | exact j4 (by assumption) | exact j5 (by assumption) | exact j6 (by assumption) | exact j7 (by assumption) | exact j8 (by assumption) | exact j9 (by assumption) | exact j10 (by assumption) | fail "9"
  k_with "my trc0" => first | assumption | k_extra "my ltc" | fail "9"
  k_with "my trc" => first | exact t0 (by k_extra "my trc0") | exact t1 (by k_extra "my trc0") | exact t2 (by k_extra "my trc0") | fail "9"
  k_with "my k_ne9" => (refine neN ?_; (try dsimp only); first | assumption | exact Ne.symm (by assumption) | (refine Nat.ne_of_lt ?_; k_extra "my ltc") | (refine Nat.ne_of_gt ?_; k_extra "my ltc") | k_extra "my trc" | (refine Ne.symm ?_; k_extra "my trc") | fail "9")
  k_with "my le9" => first | exact Nat.le_refl _ | exact Nat.le_of_ble_eq_true rfl | exact Nat.succ_le_succ (Nat.zero_le _) | assumption | exact Nat.succ_le_succ (Nat.le_max_left _ _) | exact Nat.succ_le_succ (Nat.le_max_right _ _) | exact Nat.succ_le_succ (Nat.succ_le_succ (Nat.zero_le _)) | exact Nat.succ_le_succ (Nat.succ_le_succ (Nat.le_max_left _ _)) | exact Nat.succ_le_succ (Nat.succ_le_succ (Nat.le_max_right _ _)) | exact Nat.succ_le_succ (Nat.succ_le_succ (Nat.succ_le_succ (Nat.le_max_left _ _))) | exact Nat.succ_le_succ (Nat.succ_le_succ (Nat.succ_le_succ (Nat.le_max_right _ _))) | fail "9"
  k_with "my ktr_room9" => first | exact room0 (by assumption) | exact room1 (by assumption) (by k_extra "my le9") | exact room2 (by assumption) (by k_extra "my le9") | fail "9"
  k_with "my ktr_units9" => first | exact units1 (by assumption) (by k_extra "my le9") | exact units2 (by assumption) (by k_extra "my le9") | fail "9"
  k_with "my pick9" => (repeat (first | exact Pick.head | apply Pick.tail))
  k_with "my sb9" => (intro p hp; simp only [List.mem_append, List.mem_cons, hp, true_or, or_true])
  k_with "my hk9" => first | exact rfl | assumption | fail "9"
  k_with "my hd9" => first | exact Nat.le_of_ble_eq_true rfl | ktr_room | ((try simp only [depth_deeper, depth_under_make]); (try dsimp only [ktrTop]); first | ktr_room | omega) | fail "9"
  k_with "my hu9" => first | exact Nat.le_of_ble_eq_true rfl | ktr_units | ((try simp only [units_deeper, units_under_make]); (try dsimp only [ktrTop]); first | ktr_units | omega) | fail "9"
  k_with "my norm9" => ((rename News _ _ _ _ => nN9); (try simp only [List.nil_append, List.cons_append, List.append_nil] at nN9))
  k_with "my norm8" => ((rename News _ _ _ _ => nN9); (try simp only [List.nil_append, List.cons_append, List.append_nil, List.append_assoc] at nN9))
  k_with "my end9" => ((try k_sweep); (try dsimp only); (try k_fold))
  k_with "my k_all9" => first | exact Off.all (by assumption) | (refine List.forall_mem_append.mpr ⟨?a9, ?b9⟩; (case a9 => k_all); (case b9 => k_all))
  k_with "my binaryOp FloorDiv int int" => (with_reducible refine floordiv_int (by omega) ?_ (Or.inl (PyProof.noPylong_of_log2 (by assumption))))
  k_with "my binaryOp Mod int int" => (with_reducible refine mod_int' (by omega) ?_)
  trivial
theorem lt_ne : (Value.type "list" == Value.type "tuple") = false := by decide
theorem PotObj.cls1 {Nn : Addr} {o1 o2 : Obj} (h : PotObj Nn o1 o2) : (o1.cls == .type "tuple") = false := by
  obtain ⟨c, t, vs, ns, e1, e2, rfl, rfl, _⟩ := h; exact lt_ne
theorem PotObj.cls2 {Nn : Addr} {o1 o2 : Obj} (h : PotObj Nn o1 o2) : (o2.cls == .type "tuple") = false := by
  obtain ⟨c, t, vs, ns, e1, e2, rfl, rfl, _⟩ := h; exact lt_ne

theorem digit_tri {w : World} {P Nn : Addr} {lim : Int} {tl : Tok} {o1 o2 : Obj} {news : List (Addr × Obj)}
    (hp : PotObj Nn o1 o2) (hne : @Ne Nat P Nn) (oP : Off P news) (oN : Off Nn news) (hlim : 0 < lim) (hlog : lim.natAbs.log2 < 9000) :
    Tri (Mine.hd.heap_1 w.params) w 168 1 [.ref P, .int lim tl] ((P, o1) :: (Nn, o2) :: news)
      (fun r news' => ∃ d t o1' o2', r = .int d t ∧ 0 ≤ d ∧ d < lim ∧ PotObj Nn o1' o2' ∧ news' = (P, o1') :: (Nn, o2') :: news) := by
  obtain ⟨c, t, vs, ns, e1, e2, rfl, rfl, hI, h0, h20⟩ := hp
  unfold Tri
  k_fill
  intro loose mean mg mb dp un gd cn cs a ccd cl outer A₀ base h₀ L m s Q E B F X N T hk hd hu hret
  refine wpAny_call ?_
  k_dflt ktr_enter
  k_steps
  all_goals (refine hret _ _ _ _ (by k_asm) (by k_asm) ⟨_, _, _, _, rfl, ?_, ?_, ⟨_, _, _, _, _, _, rfl, rfl, by assumption, ?_, ?_⟩, rfl⟩)
  · exact Int.fmod_nonneg_of_pos _ hlim
  · exact Int.fmod_lt_of_pos _ hlim
  · rw [List.length_set]; exact h0
  · rw [List.length_set]; exact h20

theorem digit_use {w : World} {loose : List Str} {mean : ExcName → Option Value} {mg mb : Str → Option Value} {dp un : Nat} {gd : Option (List Code)} {cn : Str} {cs : Scope} {a : Addr} {ccd : Value} {cl : List (Str × Addr)} {outer : List Env} {A₀ : Around} {base h₀ : Heap} {L : Addr} {m : Str → Option Value} {s : Shared} {Q E : Value → Shared → Prop}
    {P Nn : Addr} {lim : Int} {tl : Tok} {o1 o2 : Obj} {news0 l1 l2 : List (Addr × Obj)}
    (B : Below A₀ base outer h₀) (F : Fr h₀ L s.heap m) (X : (Mine.hd.heap_1 w.params).In h₀) (N : News h₀ L s.heap news0) (T : Top Mine.hd.view_1 loose mean mg mb h₀) (hk : cs.kind = .function)
    (p1 : Pick P o1 news0 l1) (hp : PotObj Nn o1 o2) (p2 : Pick Nn o2 l1 l2) (hne : @Ne Nat P Nn) (oP : ∀ p ∈ l2, p.1 ≠ P) (oN : ∀ p ∈ l2, p.1 ≠ Nn) (hlim : 0 < lim) (hlog : lim.natAbs.log2 < 9000)
    (hd : dp + 1 < recursionLimit) (hu : un + 8 * 1 + 64 < cLine)
    (ret : ∀ d t o1' o2' h' tk', 0 ≤ d → d < lim → PotObj Nn o1' o2' → Fr h₀ L h' m → News h₀ L h' ((P, o1') :: (Nn, o2') :: l2) → Q (.int d t) { s with heap := h', toks := tk' }) :
    wpAny (model PySem.Challenge.rw_sa0142_01.row.prog w) (ktrTop dp un gd cn cs L a ccd cl outer) (call (.ref 168) [.ref P, .int lim tl]) Q E s :=
  tri_use B F X N T hk (digit_tri hp hne oP oN hlim hlog) (p1.sub2 p2) hd hu (fun r news' h' tk' F' N' h => by
    obtain ⟨d, t, o1', o2', rfl, h1, h2, h3, rfl⟩ := h
    exact ret d t o1' o2' h' tk' h1 h2 h3 F' N')

/-- the six texts -/
inductive Txt where
  | tE | tA | tBB | tAB | tB | tN
  deriving DecidableEq
def Txt.str : Txt → Str
  | .tE => Str.ofString ""
  | .tA => Str.ofString "a"
  | .tBB => Str.ofString "B"
  | .tAB => Str.ofString "ab"
  | .tB => Str.ofString "b"
  | .tN => Str.ofString "[]"

/-- a plan -/
inductive Plan where
  | pv (i : Int)
  | pi (i : Int)
  | pa (t : Txt)
  | ps1 (f : Txt) (p : Plan)
  | ps2 (f : Txt) (p q : Plan)
def Plan.deep : Plan → Nat
  | .pv _ => 0
  | .pi _ => 0
  | .pa _ => 0
  | .ps1 _ p => p.deep + 1
  | .ps2 _ p q => max p.deep q.deep + 1

/-- the ledger bears the plan at v -/
inductive PlanIn (l : List (Addr × Obj)) : Value → Plan → Prop
  | pv {a : Addr} {n : Nat} {i : Int} {t1 t2 : Tok} : (a, ({ cls := .type "tuple", data := .seq #[.str (Str.ofString "v") t1, .int i t2] n } : Obj)) ∈ l → PlanIn l (.ref a) (.pv i)
  | pi {a : Addr} {n : Nat} {i : Int} {t1 t2 : Tok} : (a, ({ cls := .type "tuple", data := .seq #[.str (Str.ofString "i") t1, .int i t2] n } : Obj)) ∈ l → PlanIn l (.ref a) (.pi i)
  | pa {a : Addr} {n : Nat} {x : Txt} {t1 t2 : Tok} : (a, ({ cls := .type "tuple", data := .seq #[.str (Str.ofString "a") t1, .str x.str t2] n } : Obj)) ∈ l → PlanIn l (.ref a) (.pa x)
  | ps1 {a b : Addr} {n n' : Nat} {f : Txt} {t1 t2 : Tok} {v : Value} {p : Plan} : (a, ({ cls := .type "tuple", data := .seq #[.str (Str.ofString "s") t1, .str f.str t2, .ref b] n } : Obj)) ∈ l → (b, ({ cls := .type "tuple", data := .seq #[v] n' } : Obj)) ∈ l → PlanIn l v p → PlanIn l (.ref a) (.ps1 f p)
  | ps2 {a b : Addr} {n n' : Nat} {f : Txt} {t1 t2 : Tok} {v u : Value} {p q : Plan} : (a, ({ cls := .type "tuple", data := .seq #[.str (Str.ofString "s") t1, .str f.str t2, .ref b] n } : Obj)) ∈ l → (b, ({ cls := .type "tuple", data := .seq #[v, u] n' } : Obj)) ∈ l → PlanIn l v p → PlanIn l u q → PlanIn l (.ref a) (.ps2 f p q)
theorem PlanIn.mono {l l' : List (Addr × Obj)} (hs : ∀ p ∈ l, p ∈ l') {v : Value} {p : Plan} (h : PlanIn l v p) : PlanIn l' v p := by
  induction h with
  | pv h => exact .pv (hs _ h)
  | pi h => exact .pi (hs _ h)
  | pa h => exact .pa (hs _ h)
  | ps1 h h' _ ih => exact .ps1 (hs _ h) (hs _ h') ih
  | ps2 h h' _ _ ih ih' => exact .ps2 (hs _ h) (hs _ h') ih ih'
theorem PlanIn.to {l l' : List (Addr × Obj)} {v : Value} {p : Plan} (h : PlanIn l v p) (hs : ∀ p ∈ l, p ∈ l') : PlanIn l' v p := h.mono hs
end
section
theorem said3 : True := by
  k_with_none
  k_with "my ltc" => first | exact j0 (by assumption) | exact j1 (by assumption) | exact j2 (by assumption) | exact j3 (by assumption) | exact j4 (by assumption) | exact j5 (by assumption) | exact j6 (by assumption) | exact j7 (by assumption) | exact j8 (by assumption) | exact j9 (by assumption) | exact j10 (by assumption) | fail "9"
  k_with "my trc0" => first | assumption | k_extra "my ltc" | fail "9"
  k_with "my trc" => first | exact t0 (by k_extra "my trc0") | exact t1 (by k_extra "my trc0") | exact t2 (by k_extra "my trc0") | fail "9"
  k_with "my k_ne9" => (refine neN ?_; (try dsimp only); first | assumption | exact Ne.symm (by assumption) | (refine Nat.ne_of_lt ?_; k_extra "my ltc") | (refine Nat.ne_of_gt ?_; k_extra "my ltc") | k_extra "my trc" | (refine Ne.symm ?_; k_extra "my trc") | fail "9")
  k_with "my le9" => first | exact Nat.le_refl _ | exact Nat.le_of_ble_eq_true rfl | exact Nat.succ_le_succ (Nat.zero_le _) | assumption | exact Nat.succ_le_succ (Nat.le_max_left _ _) | exact Nat.succ_le_succ (Nat.le_max_right _ _) | exact Nat.succ_le_succ (Nat.succ_le_succ (Nat.zero_le _)) | exact Nat.succ_le_succ (Nat.succ_le_succ (Nat.le_max_left _ _)) | exact Nat.succ_le_succ (Nat.succ_le_succ (Nat.le_max_right _ _)) | exact Nat.succ_le_succ (Nat.succ_le_succ (Nat.succ_le_succ (Nat.le_max_left _ _))) | exact Nat.succ_le_succ (Nat.succ_le_succ (Nat.succ_le_succ (Nat.le_max_right _ _))) | fail "9"
  k_with "my ktr_room9" => first | exact room0 (by assumption) | exact room1 (by assumption) (by k_extra "my le9") | exact room2 (by assumption) (by k_extra "my le9") | fail "9"
  k_with "my ktr_units9" => first | exact units1 (by assumption) (by k_extra "my le9") | exact units2 (by assumption) (by k_extra "my le9") | fail "9"
  k_with "my pick9" => (repeat (first | exact Pick.head | apply Pick.tail))
  k_with "my sb9" => (intro p hp; simp only [List.mem_append, List.mem_cons, hp, true_or, or_true])
  k_with "my hk9" => first | exact rfl | assumption | fail "9"
  k_with "my hd9" => first | exact Nat.le_of_ble_eq_true rfl | ktr_room | ((try simp only [depth_deeper, depth_under_make]); (try dsimp only [ktrTop]); first | ktr_room | omega) | fail "9"
  k_with "my hu9" => first | exact Nat.le_of_ble_eq_true rfl | ktr_units | ((try simp only [units_deeper, units_under_make]); (try dsimp only [ktrTop]); first | ktr_units | omega) | fail "9"
  k_with "my norm9" => ((rename News _ _ _ _ => nN9); (try simp only [List.nil_append, List.cons_append, List.append_nil] at nN9))
  k_with "my norm8" => ((rename News _ _ _ _ => nN9); (try simp only [List.nil_append, List.cons_append, List.append_nil, List.append_assoc] at nN9))
  k_with "my end9" => ((try k_sweep); (try dsimp only); (try k_fold))
  trivial
theorem txt_item {prog : Program} {w : World} {A : Around} {E : Value → Shared → Prop} {s : Shared} {h₀ : Heap} {L D : Addr} {l : List (Addr × Obj)} {vs : List Value} {n : Nat} {d : Int} {u : Tok} {value slice : PySem.Expr} {Q : Value → Shared → Prop}
    (N : News h₀ L s.heap l) (m : (D, listOf vs.toArray n) ∈ l) (hv : ∀ v ∈ vs, ∃ (x : Txt) (t : Tok), v = .str x.str t) (h0 : 0 ≤ d) (h1 : d < vs.length) (hz : d < 2 ^ 63)
    (h : ∀ (x : Txt) t, Q (.str x.str t) s)
    (hs : subscripted slice false (.ref D) (.int d u) = operate [.ref D, .int d u] (getItem (.ref D) (.int d u)) := by with_unfolding_all rfl) :
    wpAny (model prog w) A (subscriptTail value slice (.ref D) (.int d u)) Q E s := by
  have hL : s.heap.IsList D vs.toArray := PySem.IsL.isList (n := n) (N _ m).1
  have hlt : d.toNat < vs.length := by omega
  obtain ⟨x, t, e⟩ := hv _ (List.getElem_mem hlt)
  refine tail_any hL.typeIs slot_list_getitem.lookup (wpAny_getItem_list hL h0 hz ?_ (h x t)) hs
  rw [List.getElem?_toArray, List.getElem?_eq_getElem hlt, e]

theorem plan_fin {h₀ h : Heap} {L P Nn : Addr} {m : Str → Option Value} {news lf tl : List (Addr × Obj)} {n : Nat} {s : Shared} {Q : Value → Shared → Prop} {o1 o2 : Obj} {r : Value} {p : Plan} {tk : Nat}
    (hret : ∀ r news' h' tk', Fr h₀ L h' m → News h₀ L h' news' → (∃ p o1' o2' tl, PotObj Nn o1' o2' ∧ Tups tl ∧ news' = (P, o1') :: (Nn, o2') :: (news ++ tl) ∧ PlanIn tl r p ∧ p.deep ≤ n) → Q r { s with heap := h', toks := tk' })
    (F : Fr h₀ L h m) (N : News h₀ L h lf) (hp : PotObj Nn o1 o2) (m1 : (P, o1) ∈ lf) (m2 : (Nn, o2) ∈ lf) (m3 : ∀ p ∈ news, p ∈ lf) (m4 : ∀ p ∈ tl, p ∈ lf) (ht : Tups tl) (hP : PlanIn tl r p) (hd : p.deep ≤ n) :
    Q r { s with heap := h, toks := tk } :=
  hret r ((P, o1) :: (Nn, o2) :: (news ++ tl)) h tk F (fun q hq => N q (by
    rcases List.mem_cons.mp hq with rfl | hq
    · exact m1
    · rcases List.mem_cons.mp hq with rfl | hq
      · exact m2
      · exact (List.mem_append.mp hq).elim (m3 q) (m4 q))) ⟨p, o1, o2, tl, hp, ht, rfl, hP, hd⟩

theorem plan_fin1 {h₀ h : Heap} {L P Nn : Addr} {m : Str → Option Value} {news lf tl : List (Addr × Obj)} {n : Nat} {s : Shared} {Q : Value → Shared → Prop} {o1 o2 : Obj} {p : Plan} {tk : Nat}
    {D b : Addr} {t1 t2 : Tok} {f : Txt} {k k' : Nat} {v : Value}
    (hret : ∀ r news' h' tk', Fr h₀ L h' m → News h₀ L h' news' → (∃ p o1' o2' tl, PotObj Nn o1' o2' ∧ Tups tl ∧ news' = (P, o1') :: (Nn, o2') :: (news ++ tl) ∧ PlanIn tl r p ∧ p.deep ≤ n + 1) → Q r { s with heap := h', toks := tk' })
    (F : Fr h₀ L h m) (N : News h₀ L h lf) (hp : PotObj Nn o1 o2) (m1 : (P, o1) ∈ lf) (m2 : (Nn, o2) ∈ lf) (m3 : ∀ p ∈ news, p ∈ lf)
    (mD : (D, ({ cls := .type "tuple", data := .seq #[.str (Str.ofString "s") t1, .str f.str t2, .ref b] k } : Obj)) ∈ lf) (mB : (b, ({ cls := .type "tuple", data := .seq #[v] k' } : Obj)) ∈ lf)
    (hP : PlanIn tl v p) (ht : Tups tl) (m4 : ∀ p ∈ tl, p ∈ lf) (hd : p.deep ≤ n) : Q (.ref D) { s with heap := h, toks := tk } :=
  plan_fin hret F N hp m1 m2 m3 (List.forall_mem_cons.mpr ⟨mD, List.forall_mem_cons.mpr ⟨mB, m4⟩⟩) (Tups.cons (Tups.cons ht))
    (PlanIn.ps1 (List.Mem.head _) (List.Mem.tail _ (List.Mem.head _)) (hP.mono fun p hp => List.Mem.tail _ (List.Mem.tail _ hp))) (Nat.succ_le_succ hd)
theorem plan_fin2 {h₀ h : Heap} {L P Nn : Addr} {m : Str → Option Value} {news lf tl tl' : List (Addr × Obj)} {n : Nat} {s : Shared} {Q : Value → Shared → Prop} {o1 o2 : Obj} {p q : Plan} {tk : Nat}
    {D b : Addr} {t1 t2 : Tok} {f : Txt} {k k' : Nat} {v u : Value}
    (hret : ∀ r news' h' tk', Fr h₀ L h' m → News h₀ L h' news' → (∃ p o1' o2' tl, PotObj Nn o1' o2' ∧ Tups tl ∧ news' = (P, o1') :: (Nn, o2') :: (news ++ tl) ∧ PlanIn tl r p ∧ p.deep ≤ n + 1) → Q r { s with heap := h', toks := tk' })
    (F : Fr h₀ L h m) (N : News h₀ L h lf) (hp : PotObj Nn o1 o2) (m1 : (P, o1) ∈ lf) (m2 : (Nn, o2) ∈ lf) (m3 : ∀ p ∈ news, p ∈ lf)
    (mD : (D, ({ cls := .type "tuple", data := .seq #[.str (Str.ofString "s") t1, .str f.str t2, .ref b] k } : Obj)) ∈ lf) (mB : (b, ({ cls := .type "tuple", data := .seq #[v, u] k' } : Obj)) ∈ lf)
    (hP : PlanIn tl v p) (hP' : PlanIn tl' u q) (ht : Tups tl) (ht' : Tups tl') (m4 : ∀ p ∈ tl, p ∈ lf) (m4' : ∀ p ∈ tl', p ∈ lf) (hd : p.deep ≤ n) (hd' : q.deep ≤ n) : Q (.ref D) { s with heap := h, toks := tk } :=
  plan_fin hret F N hp m1 m2 m3 (List.forall_mem_cons.mpr ⟨mD, List.forall_mem_cons.mpr ⟨mB, List.forall_mem_append.mpr ⟨m4, m4'⟩⟩⟩) (Tups.cons (Tups.cons (Tups.app ht ht')))
    (PlanIn.ps2 (List.Mem.head _) (List.Mem.tail _ (List.Mem.head _)) (hP.mono fun p hp => List.Mem.tail _ (List.Mem.tail _ (List.mem_append.mpr (.inl hp)))) (hP'.mono fun p hp => List.Mem.tail _ (List.Mem.tail _ (List.mem_append.mpr (.inr hp))))) (Nat.succ_le_succ (Nat.max_le.mpr ⟨hd, hd'⟩))

theorem ri_ne : (Value.type "range_iterator" == Value.type "tuple") = false := by decide
theorem unr_end {h₀ : Heap} {L I : Addr} {it : Obj} {rest : (Str → Option Value) → List (Addr × Obj) → Prop} {s₁ : Shared} {h' : Heap} {tk : Nat} {m' : Str → Option Value} {all news' : List (Addr × Obj)} (F : Fr h₀ L h' m') (N : News h₀ L h' all)
    (pk : Pick I it all news') (off : ∀ p ∈ news', p.1 ≠ I) (r : rest m' news') : UnrEnd h₀ L s₁ I it rest { s₁ with heap := h', toks := tk } := UnrEnd.intro F N news' pk.sub off r

/-- what a plan's call gives -/
def PlanSpec (n : Nat) : Prop := ∀ {w : World} {P Nn : Addr} {tk : Tok} {o1 o2 : Obj} {news : List (Addr × Obj)}
    (_ : PotObj Nn o1 o2) (_ : @Ne Nat P Nn) (_ : Off P news) (_ : Off Nn news),
    Tri (Mine.hd.heap_1 w.params) w 175 (n + 2) [.ref P, .int (n : Int) tk] ((P, o1) :: (Nn, o2) :: news)
      (fun r news' => ∃ p o1' o2' tl, PotObj Nn o1' o2' ∧ Tups tl ∧ news' = (P, o1') :: (Nn, o2') :: (news ++ tl) ∧ PlanIn tl r p ∧ p.deep ≤ n)

theorem plan_use {w : World} {loose : List Str} {mean : ExcName → Option Value} {mg mb : Str → Option Value} {dp un : Nat} {gd : Option (List Code)} {cn : Str} {cs : Scope} {a : Addr} {ccd : Value} {cl : List (Str × Addr)} {outer : List Env} {A₀ : Around} {base h₀ : Heap} {L : Addr} {m : Str → Option Value} {s : Shared} {Q E : Value → Shared → Prop}
    {P Nn : Addr} {n : Nat} {dv : Int} {tk : Tok} {o1 o2 : Obj} {news0 l1 l2 : List (Addr × Obj)} (C : PlanSpec n)
    (B : Below A₀ base outer h₀) (F : Fr h₀ L s.heap m) (X : (Mine.hd.heap_1 w.params).In h₀) (N : News h₀ L s.heap news0) (T : Top Mine.hd.view_1 loose mean mg mb h₀) (hk : cs.kind = .function) (hdv : dv = (n : Int))
    (p1 : Pick P o1 news0 l1) (hp : PotObj Nn o1 o2) (p2 : Pick Nn o2 l1 l2) (hne : @Ne Nat P Nn) (oP : ∀ p ∈ l2, p.1 ≠ P) (oN : ∀ p ∈ l2, p.1 ≠ Nn)
    (hd : dp + (n + 2) < recursionLimit) (hu : un + 8 * (n + 2) + 64 < cLine)
    (ret : ∀ r p o1' o2' tl h' tk', PotObj Nn o1' o2' → Tups tl → PlanIn tl r p → p.deep ≤ n → Fr h₀ L h' m → News h₀ L h' ((P, o1') :: (Nn, o2') :: (l2 ++ tl)) → Q r { s with heap := h', toks := tk' }) :
    wpAny (model PySem.Challenge.rw_sa0142_01.row.prog w) (ktrTop dp un gd cn cs L a ccd cl outer) (call (.ref 175) [.ref P, .int dv tk]) Q E s := by
  subst hdv
  exact tri_use B F X N T hk (C hp hne oP oN) (p1.sub2 p2) hd hu (fun r news' h' tk' F' N' h => by
    obtain ⟨p, o1', o2', tl, h1, h2, rfl, h4, h5⟩ := h
    exact ret r p o1' o2' tl h' tk' h1 h2 h4 h5 F' N')


theorem said4 : True := by
  k_with "my k_all9" => first | exact Off.all (by assumption) | (refine List.forall_mem_append.mpr ⟨?a9, ?b9⟩; (case a9 => k_all); (case b9 => k_all)) | exact off_tups (by assumption) (by k_asm) (List.Mem.head _) (PotObj.cls1 (by assumption)) (by k_extra "my sb9") | exact off_tups (by assumption) (by k_asm) (List.Mem.tail _ (List.Mem.head _)) (PotObj.cls2 (by assumption)) (by k_extra "my sb9") | exact off_tups (by assumption) (by k_asm) (by k_mem) (by first | exact lt_ne | exact ri_ne) (by k_extra "my sb9") | fail "9"
  k_with "my call ref" => (k_here; (with_reducible show wpAny _ _ (call (Value.ref 168) _) _ _ _); k_dflt (refine' digit_use (by k_asm) (by k_asm) (by k_asm) (by k_asm) (by k_asm) (by k_extra "my hk9") (by k_extra "my pick9") (by assumption) (by k_extra "my pick9") (by assumption) (by k_all) (by k_all) (by first | decide | omega) (by first | decide +kernel | assumption) (by k_extra "my hd9") (by k_extra "my hu9") ?_; k_whole; intros; k_extra "my end9"))
  k_with "my call ref" => (k_here; (with_reducible show wpAny _ _ (call (Value.ref 175) _) _ _ _); k_dflt (refine' plan_use (by assumption) (by k_asm) (by k_asm) (by k_asm) (by k_asm) (by k_asm) (by k_extra "my hk9") (by omega) (by k_extra "my pick9") (by assumption) (by k_extra "my pick9") (by assumption) (by k_all) (by k_all) (by k_extra "my hd9") (by k_extra "my hu9") ?_; k_whole; intros; k_extra "my norm8"; k_extra "my end9"))
  k_with "my UnrEnd" => (k_here; refine' unr_end (by k_asm) (by k_asm) (by k_extra "my pick9") (by k_all) ?_; k_whole)
  k_with "my subscriptTail Name Call ref int" => (k_here; k_dflt (refine' txt_item (by k_asm) (by k_mem) (by (repeat (refine List.forall_mem_cons.mpr ⟨by first | exact ⟨Txt.tE, _, rfl⟩ | exact ⟨Txt.tA, _, rfl⟩ | exact ⟨Txt.tBB, _, rfl⟩ | exact ⟨Txt.tAB, _, rfl⟩ | exact ⟨Txt.tB, _, rfl⟩ | exact ⟨Txt.tN, _, rfl⟩, ?_⟩)); exact List.forall_mem_nil _) (by assumption) (by (simp only [List.length_cons, List.length_nil]; omega)) (by omega) ?_ (by with_unfolding_all rfl); k_whole; intros))
  k_with "my subscriptTail" => (k_here; k_dflt (refine' txt_item (by k_asm) (by k_mem) (by (repeat (refine List.forall_mem_cons.mpr ⟨by first | exact ⟨Txt.tE, _, rfl⟩ | exact ⟨Txt.tA, _, rfl⟩ | exact ⟨Txt.tBB, _, rfl⟩ | exact ⟨Txt.tAB, _, rfl⟩ | exact ⟨Txt.tB, _, rfl⟩ | exact ⟨Txt.tN, _, rfl⟩, ?_⟩)); exact List.forall_mem_nil _) (by assumption) (by (simp only [List.length_cons, List.length_nil]; omega)) (by omega) ?_ (by with_unfolding_all rfl); k_whole; intros))
  k_with "my call type:range" => k_rangeSizes
  trivial
set_option maxHeartbeats 8000000 in
theorem plan_spec (n : Nat) : PlanSpec n := by
  induction n with
  | zero =>
    intro w P Nn tk o1 o2 news hp hne oP oN
    unfold Tri
    k_fill
    intro loose mean mg mb dp un gd cn cs a ccd cl outer A₀ base h₀ L m s Q E B F X N T hk hd hu hret
    refine wpAny_call ?_
    k_dflt ktr_enter
    k_steps
    all_goals (try (exact plan_fin hret (by k_asm) (by k_asm) (by assumption) (by k_mem) (by k_mem) (by k_extra "my sb9") (List.forall_mem_cons.mpr ⟨by k_mem, List.forall_mem_nil _⟩) (Tups.cons Tups.nil) (PlanIn.pv (List.Mem.head _)) (Nat.zero_le _)))
    all_goals (try (exact plan_fin hret (by k_asm) (by k_asm) (by assumption) (by k_mem) (by k_mem) (by k_extra "my sb9") (List.forall_mem_cons.mpr ⟨by k_mem, List.forall_mem_nil _⟩) (Tups.cons Tups.nil) (PlanIn.pi (List.Mem.head _)) (Nat.zero_le _)))
    all_goals (try (exact plan_fin hret (by k_asm) (by k_asm) (by assumption) (by k_mem) (by k_mem) (by k_extra "my sb9") (List.forall_mem_cons.mpr ⟨by k_mem, List.forall_mem_nil _⟩) (Tups.cons Tups.nil) (PlanIn.pa (List.Mem.head _)) (Nat.zero_le _)))
    all_goals (exfalso; omega)
  | succ n ih =>
    intro w P Nn tk o1 o2 news hp hne oP oN
    unfold Tri
    k_fill
    intro loose mean mg mb dp un gd cn cs a ccd cl outer A₀ base h₀ L m s Q E B F X N T hk hd hu hret
    refine wpAny_call ?_
    k_dflt ktr_enter
    k_steps
    all_goals (try (exact plan_fin hret (by k_asm) (by k_asm) (by assumption) (by k_mem) (by k_mem) (by k_extra "my sb9") (List.forall_mem_cons.mpr ⟨by k_mem, List.forall_mem_nil _⟩) (Tups.cons Tups.nil) (PlanIn.pv (List.Mem.head _)) (Nat.zero_le _)))
    all_goals (try (exact plan_fin hret (by k_asm) (by k_asm) (by assumption) (by k_mem) (by k_mem) (by k_extra "my sb9") (List.forall_mem_cons.mpr ⟨by k_mem, List.forall_mem_nil _⟩) (Tups.cons Tups.nil) (PlanIn.pi (List.Mem.head _)) (Nat.zero_le _)))
    all_goals (try (exact plan_fin hret (by k_asm) (by k_asm) (by assumption) (by k_mem) (by k_mem) (by k_extra "my sb9") (List.forall_mem_cons.mpr ⟨by k_mem, List.forall_mem_nil _⟩) (Tups.cons Tups.nil) (PlanIn.pa (List.Mem.head _)) (Nat.zero_le _)))
    all_goals (try (exact plan_fin1 hret (by k_asm) (by k_asm) (by assumption) (by k_mem) (by k_mem) (by k_extra "my sb9") (by k_mem) (by k_mem) (by assumption) (by assumption) (by k_extra "my sb9") (by assumption)))
    all_goals (try (exact plan_fin2 hret (by k_asm) (by k_asm) (by assumption) (by k_mem) (by k_mem) (by k_extra "my sb9") (by k_mem) (by k_mem) (by assumption) (by assumption) (by assumption) (by assumption) (by k_extra "my sb9") (by k_extra "my sb9") (by assumption) (by assumption)))
    all_goals (try (exfalso; omega))
end
section
theorem said5 : True := by
  k_with_none
  k_with "my ltc" => first | exact j0 (by assumption) | exact j1 (by assumption) | exact j2 (by assumption) | exact j3 (by assumption) | exact j4 (by assumption) | exact j5 (by assumption) | exact j6 (by assumption) | exact j7 (by assumption) | exact j8 (by assumption) | exact j9 (by assumption) | exact j10 (by assumption) | fail "9"
  k_with "my trc0" => first | assumption | k_extra "my ltc" | fail "9"
  k_with "my trc" => first | exact t0 (by k_extra "my trc0") | exact t1 (by k_extra "my trc0") | exact t2 (by k_extra "my trc0") | fail "9"
  k_with "my k_ne9" => (refine neN ?_; (try dsimp only); first | assumption | exact Ne.symm (by assumption) | (refine Nat.ne_of_lt ?_; k_extra "my ltc") | (refine Nat.ne_of_gt ?_; k_extra "my ltc") | k_extra "my trc" | (refine Ne.symm ?_; k_extra "my trc") | fail "9")
  k_with "my le9" => first | exact Nat.le_refl _ | exact Nat.le_of_ble_eq_true rfl | exact Nat.succ_le_succ (Nat.zero_le _) | assumption | exact Nat.succ_le_succ (Nat.le_max_left _ _) | exact Nat.succ_le_succ (Nat.le_max_right _ _) | exact Nat.succ_le_succ (Nat.succ_le_succ (Nat.zero_le _)) | exact Nat.succ_le_succ (Nat.succ_le_succ (Nat.le_max_left _ _)) | exact Nat.succ_le_succ (Nat.succ_le_succ (Nat.le_max_right _ _)) | exact Nat.succ_le_succ (Nat.succ_le_succ (Nat.succ_le_succ (Nat.le_max_left _ _))) | exact Nat.succ_le_succ (Nat.succ_le_succ (Nat.succ_le_succ (Nat.le_max_right _ _))) | fail "9"
  k_with "my ktr_room9" => first | exact room0 (by assumption) | exact room1 (by assumption) (by k_extra "my le9") | exact room2 (by assumption) (by k_extra "my le9") | fail "9"
  k_with "my ktr_units9" => first | exact units1 (by assumption) (by k_extra "my le9") | exact units2 (by assumption) (by k_extra "my le9") | fail "9"
  k_with "my pick9" => (repeat (first | exact Pick.head | apply Pick.tail))
  k_with "my sb9" => (intro p hp; simp only [List.mem_append, List.mem_cons, hp, true_or, or_true])
  k_with "my hk9" => first | exact rfl | assumption | fail "9"
  k_with "my hd9" => first | exact Nat.le_of_ble_eq_true rfl | ktr_room | ((try simp only [depth_deeper, depth_under_make]); (try dsimp only [ktrTop]); first | ktr_room | omega) | fail "9"
  k_with "my hu9" => first | exact Nat.le_of_ble_eq_true rfl | ktr_units | ((try simp only [units_deeper, units_under_make]); (try dsimp only [ktrTop]); first | ktr_units | omega) | fail "9"
  k_with "my norm9" => ((rename News _ _ _ _ => nN9); (try simp only [List.nil_append, List.cons_append, List.append_nil] at nN9))
  k_with "my norm8" => ((rename News _ _ _ _ => nN9); (try simp only [List.nil_append, List.cons_append, List.append_nil, List.append_assoc] at nN9))
  k_with "my end9" => ((try k_sweep); (try dsimp only); (try k_fold))
  trivial
theorem adjust_upto (b n : Nat) (hb : b ≤ n) : Builtin.Slice.sliceAdjust none (some (b : Int)) 1 (n : Int) = (0, (b : Int)) := by
  unfold Builtin.Slice.sliceAdjust
  have h1 : ¬ ((1 : Int) < 0) := by omega
  have h2 : ¬ ((b : Int) < 0) := by omega
  simp only [h1, h2, if_false]
  congr 1
  omega
theorem places_upto (b : Nat) : Builtin.Slice.slicePlaces 0 (b : Int) 1 = b := by
  unfold Builtin.Slice.slicePlaces
  have h1 : (1 : Int) > 0 := by omega
  simp only [h1, if_true, Int.ediv_one]
  split <;> omega
section
variable {prog : Program} {w : World} {A : Around} {E : Value → Shared → Prop} {s : Shared}
theorem sliceApplied_upto {sl : Addr} {b n : Nat} {u : Tok} {Q : Int × Int × Nat → Shared → Prop} (hs : s.heap.IsSliceOf sl .none (.int b u) .none) (hb : b ≤ n) (h : Q (0, 1, b) s) :
    wpAny (model prog w) A (Builtin.Slice.sliceApplied (.ref sl) (pure (n : Int))) Q E s := by
  obtain ⟨os, hos, hcs, hds⟩ := id hs
  unfold Builtin.Slice.sliceApplied Builtin.Slice.sliceFields
  refine wpAny_bind (wpAny_bind (wpAny_field hos hds (x := .none) rfl (wpAny_bind (wpAny_field hos hds (x := .int b u) rfl (wpAny_bind (wpAny_field hos hds (x := .none) rfl (wpAny_pure ?_)))))))
  refine wpAny_bind (slicePart_none ?_)
  show wpAny _ _ (if ((1 : Int) == 0) = true then _ else _) _ _ s
  rw [if_neg (by decide)]
  refine wpAny_bind (slicePart_none (wpAny_bind (slicePart_int (wpAny_bind (wpAny_pure ?_)))))
  show wpAny _ _ (match Builtin.Slice.sliceAdjust none (some (b : Int)) 1 (n : Int) with | (lo, hi) => pure (lo, (1 : Int), Builtin.Slice.slicePlaces lo hi 1)) _ _ s
  rw [adjust_upto b n hb]
  show wpAny _ _ (pure ((0 : Int), (1 : Int), Builtin.Slice.slicePlaces (0 : Int) (b : Int) 1)) _ _ s
  rw [places_upto b]
  exact wpAny_pure h
theorem pick_upto (xs : Array Value) (b : Nat) : ((List.range b).filterMap fun (k : Nat) => xs[((0 : Int) + (k : Int) * 1).toNat]?).toArray = (xs.toList.take b).toArray := by
  have e : (fun (k : Nat) => xs[((0 : Int) + (k : Int) * 1).toNat]?) = fun k => xs[0 + k]? := by
    funext k
    have : ((0 : Int) + (k : Int) * 1).toNat = 0 + k := by omega
    rw [this]
  rw [e]
  have := pick_run xs 0 b
  rw [List.filterMap_map] at this
  have e2 : ((fun x => xs[x]?) ∘ fun x => 0 + x) = fun k => xs[0 + k]? := rfl
  rw [e2] at this
  rw [this, List.drop_zero]
theorem getItem_tuple_upto {t sl : Addr} {items : Array Value} {b : Nat} {u : Tok} {Q : Value → Shared → Prop} (ht : IsTup s.heap t items) (hs : s.heap.IsSliceOf sl .none (.int b u) .none) (hb : b < items.size)
    (h : Q (.ref s.heap.objs.size) { s with heap := s.heap.push { cls := .type "tuple", data := .seq (items.toList.take b).toArray } })
    (hsz : items.size ≤ sizeLine) : wpAny (model prog w) A (getItem (.ref t) (.ref sl)) Q E s := by
  have hdrop : sizeOk (.seq (items.toList.take b).toArray) := by
    show (items.toList.take b).toArray.size ≤ sizeLine
    rw [List.size_toArray, List.length_take, Array.length_toList]
    omega
  obtain ⟨os, hos, hcs, hds⟩ := id hs
  have hTs : s.TypeIs (.ref sl) "slice" := ⟨os, hos, hcs⟩
  unfold getItem
  try with_reducible refine wpAny_holding ?_
  first | refine wpAny_bind (wpAny_pure ?_) | skip
  refine wpAny_bind (wpAny_sequenceKey ht.typeIs (by decide) ?_)
  refine wpAny_bind (wpAny_callSpecial?_slot (name := Str.ofString "__getitem__") ht.typeIs slot_tuple_getitem
    (wpAny_call_entry slot_tuple_getitem ht.typeIs entry_tuple_getitem ?_ (args_tuple_getitem _ _)))
  show wpAny _ _ (Builtin.Tuple.tupleItemsOf (.ref t) >>= _) _ _ s
  refine wpAny_bind (tupleItemsOf_ ht ?_)
  refine wpAny_bind (wpAny_typeOf hTs ?_)
  rw [if_pos (by decide)]
  refine wpAny_bind (sliceApplied_upto hs (Nat.le_of_lt hb) ?_)
  have hno : ¬ (((0 : Int) == 0 && (1 : Int) == 1 && b == items.size) = true) := by
    have : (b == items.size) = false := by rw [beq_eq_false_iff_ne]; omega
    rw [this]; simp
  show wpAny _ _ (if ((0 : Int) == 0 && (1 : Int) == 1 && b == items.size) = true then _ else _) _ _ s
  rw [if_neg hno, pick_upto items b]
  first
    | exact wpAny_bind (m := Builtin.Tuple.tupleExact _) (wpAny_newObj_type (wpAny_pure ⟨_, rfl, wpAny_pure h⟩) hdrop)
    | exact wpAny_bind (m := Builtin.Tuple.tupleExact _) (wpAny_newObj_type (wpAny_bind (wpAny_pure (wpAny_pure ⟨_, rfl, wpAny_pure h⟩))) hdrop)
    | exact wpAny_bind (wpAny_bind (m := Builtin.Tuple.tupleExact _) (wpAny_newObj_type (wpAny_pure (wpAny_pure ⟨_, rfl, wpAny_pure h⟩)) hdrop))
    | exact wpAny_bind (wpAny_bind (m := Builtin.Tuple.tupleExact _) (wpAny_newObj_type (wpAny_pure ⟨_, rfl, wpAny_pure h⟩) hdrop))
variable {h₀ : Heap} {L : Addr} {m : Str → Option Value} {news : List (Addr × Obj)}
/-- t[:b] -/
theorem slice_tuple_upto {value slice : PySem.Expr} {t : Addr} {vs vs' : List Value} {k : Nat} {bi : Int} {u : Tok} {Q : Value → Shared → Prop}
    (F : Fr h₀ L s.heap m) (N : News h₀ L s.heap news) (hm : (t, ({ cls := .type "tuple", data := .seq vs.toArray k } : Obj)) ∈ news) (h0 : 0 ≤ bi) (hb : bi < vs.length) (e : vs.take bi.toNat = vs') (hsz : vs.length ≤ sizeLine)
    (h : ∀ D h', Fr h₀ L h' m → News h₀ L h' ((D, ({ cls := .type "tuple", data := .seq vs'.toArray } : Obj)) :: news) → (∀ p ∈ news, p.1 < D) → Q (.ref D) { s with heap := h' })
    (hs : subscripted slice false (.ref t) (.ref s.heap.objs.size) = operate [.ref s.heap.objs.size, .ref t] (getItem (.ref t) (.ref s.heap.objs.size)) := by with_unfolding_all rfl)
    (hg : ∀ r, letTemporaryGo value (.ref t) r = pure () := by intro _; with_unfolding_all rfl) :
    wpAny (model prog w) A (subscriptTail value slice (.ref t) (.ref s.heap.objs.size)) Q E { s with heap := s.heap.push { cls := .type "slice", data := .fields #[.none, .int bi u, .none] } } := by
  obtain ⟨b, rfl⟩ := Int.eq_ofNat_of_zero_le h0
  subst e
  have ht : IsTup s.heap t vs.toArray := N.isTup hm
  have ht' : IsTup (s.heap.push { cls := .type "slice", data := .fields #[.none, .int b u, .none] }) t vs.toArray := ht.keeps fun _ _ e => Heap.get?_push_of_some _ e
  refine subscriptTail_ops (s := { s with heap := s.heap.push { cls := .type "slice", data := .fields #[.none, .int b u, .none] } }) ht'.typeIs slot_tuple_getitem.lookup
    (getItem_tuple_upto ht' (Heap.IsSliceOf.new ..) (by rw [List.size_toArray]; omega) ?_ (by rw [List.size_toArray]; exact hsz)) hs hg
  have N1 := News.push (F.push { cls := .type "slice", data := .fields #[.none, .int b u, .none] }) (N.grown fun _ _ e => Heap.get?_push_of_some _ e) { cls := .type "tuple", data := .seq (vs.take b).toArray }
  rw [Heap.size_push] at N1
  show Q (.ref (s.heap.push _).objs.size) _
  rw [Heap.size_push]
  exact h _ _ ((F.push _).push _) N1 fun p hp => Nat.lt_succ_of_lt (Heap.lt_size (N p hp).1)
/-- t[a:] -/
theorem slice_tuple_tail {value slice : PySem.Expr} {t : Addr} {vs vs' : List Value} {k : Nat} {ai : Int} {u : Tok} {Q : Value → Shared → Prop}
    (F : Fr h₀ L s.heap m) (N : News h₀ L s.heap news) (hm : (t, ({ cls := .type "tuple", data := .seq vs.toArray k } : Obj)) ∈ news) (h0 : 1 ≤ ai) (ha : ai ≤ vs.length) (e : vs.drop ai.toNat = vs') (hsz : vs.length ≤ sizeLine)
    (h : ∀ D h', Fr h₀ L h' m → News h₀ L h' ((D, ({ cls := .type "tuple", data := .seq vs'.toArray } : Obj)) :: news) → (∀ p ∈ news, p.1 < D) → Q (.ref D) { s with heap := h' })
    (hs : subscripted slice false (.ref t) (.ref s.heap.objs.size) = operate [.ref s.heap.objs.size, .ref t] (getItem (.ref t) (.ref s.heap.objs.size)) := by with_unfolding_all rfl)
    (hg : ∀ r, letTemporaryGo value (.ref t) r = pure () := by intro _; with_unfolding_all rfl) :
    wpAny (model prog w) A (subscriptTail value slice (.ref t) (.ref s.heap.objs.size)) Q E { s with heap := s.heap.push { cls := .type "slice", data := .fields #[.int ai u, .none, .none] } } := by
  obtain ⟨a, rfl⟩ := Int.eq_ofNat_of_zero_le (by omega : 0 ≤ ai)
  subst e
  have ht : IsTup s.heap t vs.toArray := N.isTup hm
  exact slice_tuple_from F N ht (by omega) (by rw [List.size_toArray]; omega) (fun h' F' N' => h _ h' F' N' fun p hp => Nat.lt_succ_of_lt (Heap.lt_size (N p hp).1)) hs hg (by rw [List.size_toArray]; exact hsz)
end
end
section
section
variable {h₀ h : Heap} {L P Nn : Addr} {m : Str → Option Value} {core news lf tl : List (Addr × Obj)} {s : Shared} {Q : Value → Shared → Prop} {o1 o2 : Obj} {tk : Nat}
abbrev NearRet (h₀ : Heap) (L P Nn : Addr) (m : Str → Option Value) (core news : List (Addr × Obj)) (s : Shared) (Q : Value → Shared → Prop) : Prop :=
  ∀ r news' h' tk', Fr h₀ L h' m → News h₀ L h' news' → (∃ p o1' o2' tl, PotObj Nn o1' o2' ∧ Tups tl ∧ news' = (P, o1') :: (Nn, o2') :: (news ++ tl) ∧ PlanIn (core ++ tl) r p ∧ p.deep ≤ 2) → Q r { s with heap := h', toks := tk' }
theorem near_fin {r : Value} {p : Plan} (hret : NearRet h₀ L P Nn m core news s Q)
    (F : Fr h₀ L h m) (N : News h₀ L h lf) (hp : PotObj Nn o1 o2) (m1 : (P, o1) ∈ lf) (m2 : (Nn, o2) ∈ lf) (m3 : ∀ p ∈ news, p ∈ lf) (m4 : ∀ p ∈ tl, p ∈ lf) (ht : Tups tl) (hP : PlanIn (core ++ tl) r p) (hd : p.deep ≤ 2) :
    Q r { s with heap := h, toks := tk } :=
  hret r ((P, o1) :: (Nn, o2) :: (news ++ tl)) h tk F (fun q hq => N q (by
    rcases List.mem_cons.mp hq with rfl | hq
    · exact m1
    · rcases List.mem_cons.mp hq with rfl | hq
      · exact m2
      · exact (List.mem_append.mp hq).elim (m3 q) (m4 q))) ⟨p, o1, o2, tl, hp, ht, rfl, hP, hd⟩
theorem near_fin0 {r : Value} {p : Plan} (hret : NearRet h₀ L P Nn m core news s Q)
    (F : Fr h₀ L h m) (N : News h₀ L h lf) (hp : PotObj Nn o1 o2) (m1 : (P, o1) ∈ lf) (m2 : (Nn, o2) ∈ lf) (m3 : ∀ p ∈ news, p ∈ lf) (hP : PlanIn tl r p) (ht : Tups tl) (m4 : ∀ p ∈ tl, p ∈ lf) (hd : p.deep ≤ 2) :
    Q r { s with heap := h, toks := tk } := near_fin hret F N hp m1 m2 m3 m4 ht (hP.mono fun p hp => List.mem_append.mpr (.inr hp)) hd
theorem near_fin1 {D b : Addr} {t1 t2 : Tok} {f : Txt} {k k' : Nat} {v : Value} {p p' : Plan} (hret : NearRet h₀ L P Nn m core news s Q)
    (F : Fr h₀ L h m) (N : News h₀ L h lf) (hp : PotObj Nn o1 o2) (m1 : (P, o1) ∈ lf) (m2 : (Nn, o2) ∈ lf) (m3 : ∀ p ∈ news, p ∈ lf) (_ : (Plan.ps1 f p').deep ≤ 2)
    (mD : (D, ({ cls := .type "tuple", data := .seq #[.str (Str.ofString "s") t1, .str f.str t2, .ref b] k } : Obj)) ∈ lf) (mB : (b, ({ cls := .type "tuple", data := .seq #[v] k' } : Obj)) ∈ lf)
    (hP : PlanIn tl v p) (ht : Tups tl) (m4 : ∀ p ∈ tl, p ∈ lf) (hd : p.deep ≤ 1) : Q (.ref D) { s with heap := h, toks := tk } :=
  near_fin hret F N hp m1 m2 m3 (List.forall_mem_cons.mpr ⟨mD, List.forall_mem_cons.mpr ⟨mB, m4⟩⟩) (Tups.cons (Tups.cons ht))
    (PlanIn.ps1 (List.mem_append.mpr (.inr (List.Mem.head _))) (List.mem_append.mpr (.inr (List.Mem.tail _ (List.Mem.head _)))) (hP.mono fun p hp => List.mem_append.mpr (.inr (List.Mem.tail _ (List.Mem.tail _ hp))))) (Nat.succ_le_succ hd)
theorem near_fin2a {D b : Addr} {t1 t2 : Tok} {f : Txt} {k k' : Nat} {v u : Value} {p q p' : Plan} (hret : NearRet h₀ L P Nn m core news s Q)
    (F : Fr h₀ L h m) (N : News h₀ L h lf) (hp : PotObj Nn o1 o2) (m1 : (P, o1) ∈ lf) (m2 : (Nn, o2) ∈ lf) (m3 : ∀ p ∈ news, p ∈ lf) (ho : (Plan.ps2 f p' q).deep ≤ 2)
    (mD : (D, ({ cls := .type "tuple", data := .seq #[.str (Str.ofString "s") t1, .str f.str t2, .ref b] k } : Obj)) ∈ lf) (mB : (b, ({ cls := .type "tuple", data := .seq #[v, u] k' } : Obj)) ∈ lf)
    (hP : PlanIn tl v p) (hO : PlanIn core u q) (ht : Tups tl) (m4 : ∀ p ∈ tl, p ∈ lf) (hd : p.deep ≤ 1) : Q (.ref D) { s with heap := h, toks := tk } :=
  near_fin hret F N hp m1 m2 m3 (List.forall_mem_cons.mpr ⟨mD, List.forall_mem_cons.mpr ⟨mB, m4⟩⟩) (Tups.cons (Tups.cons ht))
    (PlanIn.ps2 (List.mem_append.mpr (.inr (List.Mem.head _))) (List.mem_append.mpr (.inr (List.Mem.tail _ (List.Mem.head _)))) (hP.mono fun p hp => List.mem_append.mpr (.inr (List.Mem.tail _ (List.Mem.tail _ hp)))) (hO.mono fun p hp => List.mem_append.mpr (.inl hp))) (by simp only [Plan.deep] at ho ⊢; omega)
theorem near_fin2b {D b : Addr} {t1 t2 : Tok} {f : Txt} {k k' : Nat} {v u : Value} {p q p' : Plan} (hret : NearRet h₀ L P Nn m core news s Q)
    (F : Fr h₀ L h m) (N : News h₀ L h lf) (hp : PotObj Nn o1 o2) (m1 : (P, o1) ∈ lf) (m2 : (Nn, o2) ∈ lf) (m3 : ∀ p ∈ news, p ∈ lf) (ho : (Plan.ps2 f q p').deep ≤ 2)
    (mD : (D, ({ cls := .type "tuple", data := .seq #[.str (Str.ofString "s") t1, .str f.str t2, .ref b] k } : Obj)) ∈ lf) (mB : (b, ({ cls := .type "tuple", data := .seq #[u, v] k' } : Obj)) ∈ lf)
    (hP : PlanIn tl v p) (hO : PlanIn core u q) (ht : Tups tl) (m4 : ∀ p ∈ tl, p ∈ lf) (hd : p.deep ≤ 1) : Q (.ref D) { s with heap := h, toks := tk } :=
  near_fin hret F N hp m1 m2 m3 (List.forall_mem_cons.mpr ⟨mD, List.forall_mem_cons.mpr ⟨mB, m4⟩⟩) (Tups.cons (Tups.cons ht))
    (PlanIn.ps2 (List.mem_append.mpr (.inr (List.Mem.head _))) (List.mem_append.mpr (.inr (List.Mem.tail _ (List.Mem.head _)))) (hO.mono fun p hp => List.mem_append.mpr (.inl hp)) (hP.mono fun p hp => List.mem_append.mpr (.inr (List.Mem.tail _ (List.Mem.tail _ hp))))) (by simp only [Plan.deep] at ho ⊢; omega)
end



theorem said6 : True := by
  k_with "my k_mem9" => first | exact List.Mem.head _ | assumption | (refine' List.Mem.tail _ ?_; k_mem) | (refine' List.mem_append.mpr (Or.inl ?_); k_mem) | (refine' List.mem_append.mpr (Or.inr ?_); k_mem) | exact Sub.of (by assumption) _ (by assumption) | fail "9"
  k_with "my k_all9" => first | exact Off.all (by assumption) | (refine List.forall_mem_append.mpr ⟨?a9, ?b9⟩; (case a9 => k_all); (case b9 => k_all)) | exact off_tups (by assumption) (by k_asm) (List.Mem.head _) (PotObj.cls1 (by assumption)) (by k_extra "my sb9") | exact off_tups (by assumption) (by k_asm) (List.Mem.tail _ (List.Mem.head _)) (PotObj.cls2 (by assumption)) (by k_extra "my sb9") | exact off_tups (by assumption) (by k_asm) (by k_mem) (by first | exact lt_ne | exact ri_ne) (by k_extra "my sb9") | fail "9"
  k_with "my call ref" => (k_here; (with_reducible show wpAny _ _ (call (Value.ref 168) _) _ _ _); k_dflt (refine' digit_use (by k_asm) (by k_asm) (by k_asm) (by k_asm) (by k_asm) (by k_extra "my hk9") (by k_extra "my pick9") (by assumption) (by k_extra "my pick9") (by assumption) (by k_all) (by k_all) (by first | decide | omega) (by first | decide +kernel | assumption) (by k_extra "my hd9") (by k_extra "my hu9") ?_; k_whole; intro d9; intros; (first | (have e9 : d9 = 0 := (by omega); subst e9) | (rcases (show d9 = 0 ∨ d9 = 1 by omega) with e9 | e9 <;> subst e9) | skip) <;> (k_extra "my end9")))
  k_with "my subscriptTail Name Slice ref ref" => (k_here; (with_reducible show wpAny _ _ (subscriptTail _ _ (Value.ref _) (Value.ref _)) _ _ _); k_dflt (first | (with_unfolding_all refine' slice_tuple_upto (by k_asm) (by k_asm) (by k_mem) (by first | decide | omega) (by first | decide | (simp only [List.length_cons, List.length_nil]; omega)) (by exact rfl) (by kmk_size) ?_ (by with_unfolding_all rfl) (by (intro _; with_unfolding_all rfl)); k_whole) | (with_unfolding_all refine' slice_tuple_tail (by k_asm) (by k_asm) (by k_mem) (by first | decide | omega) (by first | decide | (simp only [List.length_cons, List.length_nil]; omega)) (by exact rfl) (by kmk_size) ?_ (by with_unfolding_all rfl) (by (intro _; with_unfolding_all rfl)); k_whole)); intro _ _ _ _ l1; (try k_lt l1); (try k_sweep))
  k_with "my subscriptTail" => (k_here; (with_reducible show wpAny _ _ (subscriptTail _ _ (Value.ref _) (Value.ref _)) _ _ _); k_dflt (first | (with_unfolding_all refine' slice_tuple_upto (by k_asm) (by k_asm) (by k_mem) (by first | decide | omega) (by first | decide | (simp only [List.length_cons, List.length_nil]; omega)) (by exact rfl) (by kmk_size) ?_ (by with_unfolding_all rfl) (by (intro _; with_unfolding_all rfl)); k_whole) | (with_unfolding_all refine' slice_tuple_tail (by k_asm) (by k_asm) (by k_mem) (by first | decide | omega) (by first | decide | (simp only [List.length_cons, List.length_nil]; omega)) (by exact rfl) (by kmk_size) ?_ (by with_unfolding_all rfl) (by (intro _; with_unfolding_all rfl)); k_whole)); intro _ _ _ _ l1; (try k_lt l1); (try k_sweep))
  k_with "my call ref" => (k_here; (with_reducible show wpAny _ _ (call (Value.ref 175) [_, Value.int 1 _]) _ _ _); k_dflt (refine' plan_use (plan_spec 1) (by k_asm) (by k_asm) (by k_asm) (by k_asm) (by k_asm) (by k_extra "my hk9") (rfl : (1 : Int) = ((1 : Nat) : Int)) (by k_extra "my pick9") (by assumption) (by k_extra "my pick9") (by assumption) (by k_all) (by k_all) (by k_extra "my hd9") (by k_extra "my hu9") ?_; k_whole; intros; k_extra "my norm8"; k_extra "my end9"))
  k_with "my call ref" => (k_here; (with_reducible show wpAny _ _ (call (Value.ref 175) [_, Value.int 2 _]) _ _ _); k_dflt (refine' plan_use (plan_spec 2) (by k_asm) (by k_asm) (by k_asm) (by k_asm) (by k_asm) (by k_extra "my hk9") (rfl : (2 : Int) = ((2 : Nat) : Int)) (by k_extra "my pick9") (by assumption) (by k_extra "my pick9") (by assumption) (by k_all) (by k_all) (by k_extra "my hd9") (by k_extra "my hu9") ?_; k_whole; intros; k_extra "my norm8"; k_extra "my end9"))
  trivial
set_option maxHeartbeats 8000000 in
theorem near_tri {w : World} {P Nn : Addr} {v : Value} {p : Plan} {o1 o2 : Obj} {core news : List (Addr × Obj)} (hc : Sub core news)
    (hp : PotObj Nn o1 o2) (hne : @Ne Nat P Nn) (oP : Off P news) (oN : Off Nn news) (hv : PlanIn core v p) (hdp : p.deep ≤ 2) :
    Tri (Mine.hd.heap_1 w.params) w 182 5 [.ref P, v] ((P, o1) :: (Nn, o2) :: news)
      (fun r news' => ∃ p o1' o2' tl, PotObj Nn o1' o2' ∧ Tups tl ∧ news' = (P, o1') :: (Nn, o2') :: (news ++ tl) ∧ PlanIn (core ++ tl) r p ∧ p.deep ≤ 2) := by
  cases hv
  all_goals (
  unfold Tri
  k_fill
  intro loose mean mg mb dp un gd cn cs a ccd cl outer A₀ base h₀ L m s Q E B F X N T hk hd hu hret
  refine wpAny_call ?_
  k_dflt ktr_enter
  k_steps)
  all_goals (first
    | exact near_fin0 hret (by k_asm) (by k_asm) (by assumption) (by k_mem) (by k_mem) (by k_extra "my sb9") (by assumption) (by assumption) (by k_extra "my sb9") (by assumption)
    | exact near_fin1 hret (by k_asm) (by k_asm) (by assumption) (by k_mem) (by k_mem) (by k_extra "my sb9") hdp (by k_mem) (by k_mem) (by assumption) (by assumption) (by k_extra "my sb9") (by assumption)
    | exact near_fin2a hret (by k_asm) (by k_asm) (by assumption) (by k_mem) (by k_mem) (by k_extra "my sb9") hdp (by k_mem) (by k_mem) (by assumption) (by assumption) (by assumption) (by k_extra "my sb9") (by assumption)
    | exact near_fin2b hret (by k_asm) (by k_asm) (by assumption) (by k_mem) (by k_mem) (by k_extra "my sb9") hdp (by k_mem) (by k_mem) (by assumption) (by assumption) (by assumption) (by k_extra "my sb9") (by assumption))
theorem near_use {w : World} {loose : List Str} {mean : ExcName → Option Value} {mg mb : Str → Option Value} {dp un : Nat} {gd : Option (List Code)} {cn : Str} {cs : Scope} {a : Addr} {ccd : Value} {cl : List (Str × Addr)} {outer : List Env} {A₀ : Around} {base h₀ : Heap} {L : Addr} {m : Str → Option Value} {s : Shared} {Q E : Value → Shared → Prop} {P Nn : Addr} {v : Value} {p : Plan} {o1 o2 : Obj} {core news0 l1 l2 : List (Addr × Obj)}
    (B : Below A₀ base outer h₀) (F : Fr h₀ L s.heap m) (X : (Mine.hd.heap_1 w.params).In h₀) (N : News h₀ L s.heap news0) (T : Top Mine.hd.view_1 loose mean mg mb h₀) (hk : cs.kind = .function) (p1 : Pick P o1 news0 l1) (hp : PotObj Nn o1 o2) (p2 : Pick Nn o2 l1 l2) (hne : @Ne Nat P Nn) (oP : ∀ p ∈ l2, p.1 ≠ P) (oN : ∀ p ∈ l2, p.1 ≠ Nn) (hv : PlanIn core v p) (sv : ∀ p ∈ core, p ∈ l2) (hdp : p.deep ≤ 2)
    (hd : dp + 5 < recursionLimit) (hu : un + 8 * 5 + 64 < cLine)
    (ret : ∀ r p' o1' o2' tl h' tk', PotObj Nn o1' o2' → Tups tl → PlanIn (core ++ tl) r p' → p'.deep ≤ 2 → Fr h₀ L h' m → News h₀ L h' ((P, o1') :: (Nn, o2') :: (l2 ++ tl)) → Q r { s with heap := h', toks := tk' }) :
    wpAny (model PySem.Challenge.rw_sa0142_01.row.prog w) (ktrTop dp un gd cn cs L a ccd cl outer) (call (.ref 182) [.ref P, v]) Q E s :=
  tri_use B F X N T hk (near_tri sv hp hne oP oN hv hdp) (p1.sub2 p2) hd hu (fun r news' h' tk' F' N' h => by
    obtain ⟨p, o1', o2', tl, h1, h2, rfl, h4, h5⟩ := h
    exact ret r p o1' o2' tl h' tk' h1 h2 h4 h5 F' N')
end
section
/-- tl lies above -/
def Fresh (news tl : List (Addr × Obj)) : Prop := ∀ p ∈ tl, ∀ q ∈ news, @LT.lt Nat _ q.1 p.1
theorem said7 : True := by
  k_with_none
  k_with "my ltc" => first | exact j0 (by assumption) | exact j1 (by assumption) | exact j2 (by assumption) | exact j3 (by assumption) | exact j4 (by assumption) | exact j5 (by assumption) | exact j6 (by assumption) | exact j7 (by assumption) | exact j8 (by assumption) | exact j9 (by assumption) | exact j10 (by assumption) | fail "9"
  k_with "my trc0" => first | assumption | k_extra "my ltc" | fail "9"
  k_with "my trc" => first | exact t0 (by k_extra "my trc0") | exact t1 (by k_extra "my trc0") | exact t2 (by k_extra "my trc0") | fail "9"
  k_with "my k_ne9" => (refine neN ?_; (try dsimp only); first | assumption | exact Ne.symm (by assumption) | (refine Nat.ne_of_lt ?_; k_extra "my ltc") | (refine Nat.ne_of_gt ?_; k_extra "my ltc") | k_extra "my trc" | (refine Ne.symm ?_; k_extra "my trc") | fail "9")
  k_with "my le9" => first | exact Nat.le_refl _ | exact Nat.le_of_ble_eq_true rfl | exact Nat.succ_le_succ (Nat.zero_le _) | assumption | exact Nat.succ_le_succ (Nat.le_max_left _ _) | exact Nat.succ_le_succ (Nat.le_max_right _ _) | exact Nat.succ_le_succ (Nat.succ_le_succ (Nat.zero_le _)) | exact Nat.succ_le_succ (Nat.succ_le_succ (Nat.le_max_left _ _)) | exact Nat.succ_le_succ (Nat.succ_le_succ (Nat.le_max_right _ _)) | exact Nat.succ_le_succ (Nat.succ_le_succ (Nat.succ_le_succ (Nat.le_max_left _ _))) | exact Nat.succ_le_succ (Nat.succ_le_succ (Nat.succ_le_succ (Nat.le_max_right _ _))) | fail "9"
  k_with "my ktr_room9" => first | exact room0 (by assumption) | exact room1 (by assumption) (by k_extra "my le9") | exact room2 (by assumption) (by k_extra "my le9") | fail "9"
  k_with "my ktr_units9" => first | exact units1 (by assumption) (by k_extra "my le9") | exact units2 (by assumption) (by k_extra "my le9") | fail "9"
  k_with "my pick9" => (repeat (first | exact Pick.head | apply Pick.tail))
  k_with "my sb9" => (intro p hp; simp only [List.mem_append, List.mem_cons, hp, true_or, or_true])
  k_with "my hk9" => first | exact rfl | assumption | fail "9"
  k_with "my hd9" => first | exact Nat.le_of_ble_eq_true rfl | ktr_room | ((try simp only [depth_deeper, depth_under_make]); (try dsimp only [ktrTop]); first | ktr_room | omega) | fail "9"
  k_with "my hu9" => first | exact Nat.le_of_ble_eq_true rfl | ktr_units | ((try simp only [units_deeper, units_under_make]); (try dsimp only [ktrTop]); first | ktr_units | omega) | fail "9"
  k_with "my norm9" => ((rename News _ _ _ _ => nN9); (try simp only [List.nil_append, List.cons_append, List.append_nil] at nN9))
  k_with "my norm8" => ((rename News _ _ _ _ => nN9); (try simp only [List.nil_append, List.cons_append, List.append_nil, List.append_assoc] at nN9))
  k_with "my end9" => ((try k_sweep); (try dsimp only); (try k_fold))
  trivial
theorem Fresh.nil {news : List (Addr × Obj)} : Fresh news [] := fun _ h => nomatch h
theorem Fresh.cons {news tl : List (Addr × Obj)} {a : Addr} {o : Obj} (h : ∀ q ∈ news, @LT.lt Nat _ q.1 a) (r : Fresh news tl) : Fresh news ((a, o) :: tl) := fun p hp => by
  rcases List.mem_cons.mp hp with rfl | hp
  · exact h
  · exact r p hp
theorem Fresh.app {news tl tl' : List (Addr × Obj)} (h : Fresh news tl) (r : Fresh news tl') : Fresh news (tl ++ tl') := fun p hp => (List.mem_append.mp hp).elim (h p) (r p)
theorem Fresh.sub {news news' tl : List (Addr × Obj)} (h : Fresh news tl) (s : ∀ p ∈ news', p ∈ news) : Fresh news' tl := fun p hp q hq => h p hp q (s q hq)
theorem lt_sub {news news' : List (Addr × Obj)} {a : Addr} (h : ∀ q ∈ news, @LT.lt Nat _ q.1 a) (s : ∀ p ∈ news', p ∈ news) : ∀ q ∈ news', @LT.lt Nat _ q.1 a := fun q hq => h q (s q hq)

theorem off3_app {I C D : Addr} {l l' : List (Addr × Obj)} (h : LCg.Off3 I C D l) (h' : LCg.Off3 I C D l') : LCg.Off3 I C D (l ++ l') :=
  LCg.Off3.of fun p hp => (List.mem_append.mp hp).elim (h.mem p) (h'.mem p)
theorem off3_fresh {I C D : Addr} {oI oC oD : Obj} {led tl : List (Addr × Obj)} (h : Fresh led tl) (mI : (I, oI) ∈ led) (mC : (C, oC) ∈ led) (mD : (D, oD) ∈ led) : LCg.Off3 I C D tl :=
  LCg.Off3.of fun p hp => ⟨Nat.ne_of_gt (h p hp _ mI), Nat.ne_of_gt (h p hp _ mC), Nat.ne_of_gt (h p hp _ mD)⟩
theorem off3_cons {I C D a : Addr} {o oI oC oD : Obj} {led tl : List (Addr × Obj)} (h : ∀ q ∈ led, @LT.lt Nat _ q.1 a) (mI : (I, oI) ∈ led) (mC : (C, oC) ∈ led) (mD : (D, oD) ∈ led) (r : LCg.Off3 I C D tl) : LCg.Off3 I C D ((a, o) :: tl) :=
  ⟨⟨Nat.ne_of_gt (h _ mI), Nat.ne_of_gt (h _ mC), Nat.ne_of_gt (h _ mD)⟩, r⟩

section
variable {prog : Program} {w : World} {A : Around} {E : Value → Shared → Prop} {s : Shared} {h₀ : Heap} {L : Addr} {m : Str → Option Value} {env : Env}
theorem comp_end {I C D : Addr} {oI oC oD : Obj} {s₁ : Shared} {S : List (Addr × Obj) → Prop} {rest : Value → List (Addr × Obj) → Prop} {y : Value} {h' : Heap} {tk : Nat} {all l1 l2 news' : List (Addr × Obj)}
    (F : Fr h₀ L h' m) (N : News h₀ L h' all) (p1 : Pick I oI all l1) (p2 : Pick C oC l1 l2) (p3 : Pick D oD l2 news') (off : LCg.Off3 I C D news') (hS : S news') (r : rest y news') :
    LCg.CompEnd h₀ L m s₁ I oI C oC D oD S rest y { s₁ with heap := h', toks := tk } :=
  LCg.CompEnd.intro F N news' (fun p hp => by
    rcases List.mem_cons.mp hp with rfl | hp
    · exact p1.sub _ (.head _)
    · rcases List.mem_cons.mp hp with rfl | hp
      · exact p1.sub _ (.tail _ (p2.sub _ (.head _)))
      · rcases List.mem_cons.mp hp with rfl | hp
        · exact p1.sub _ (.tail _ (p2.sub _ (.tail _ (p3.sub _ (.head _)))))
        · exact p1.sub _ (.tail _ (p2.sub _ (.tail _ (p3.sub _ (.tail _ hp)))))) off hS r

def TupAt (ax : Addr) (its : Array Value) (n : Nat) (news : List (Addr × Obj)) : Prop := (ax, ({ cls := .type "tuple", data := .seq its n } : Obj)) ∈ news
def SrcT (prog : Program) (w : World) (A : Around) (h₀ : Heap) (L : Addr) (m : Str → Option Value) (env : Env) (elt : PySem.Expr) (x : Str) (scope : Scope) (cl : List (Str × Addr)) (Q : Value → Shared → Prop) (xv : Value) (s₁ : Shared) : Prop :=
  ∃ ax its n news, xv = .ref ax ∧ A.handled = none ∧ Fr h₀ L s₁.heap m ∧ News h₀ L s₁.heap news ∧ TupAt ax its n news ∧ its.size ≤ sizeLine ∧
      ∀ s₂ : Shared, (∃ h, s₂ = { s₁ with heap := h }) → LCg.CompRest prog w A h₀ L m env elt x scope cl s₂ (TupAt ax its n) (fun i v => its[i]? = some v) (LCg.FinE h₀ L m s₂ Q) its.size 0 [] news
def SrcS (prog : Program) (w : World) (A : Around) (h₀ : Heap) (L : Addr) (m : Str → Option Value) (env : Env) (elt : PySem.Expr) (x : Str) (scope : Scope) (cl : List (Str × Addr)) (Q : Value → Shared → Prop) (xv : Value) (s₁ : Shared) : Prop :=
  ∃ tx t news, xv = .str tx t ∧ A.handled = none ∧ Fr h₀ L s₁.heap m ∧ News h₀ L s₁.heap news ∧ tx.cps.all (· < 128) = true ∧ tx.cps.size ≤ sizeLine ∧
      ∀ s₂ : Shared, (∃ h, s₂ = { s₁ with heap := h }) → LCg.CompRest prog w A h₀ L m env elt x scope cl s₂ (fun _ => True) (SignAt tx) (LCg.FinE h₀ L m s₂ Q) tx.cps.size 0 [] news
/-- a comprehension over a tuple of the ledger -/
theorem ListComp_T {elt iter : PySem.Expr} {x : Str} {px : Pos} {scope : Scope} {cl : List (Str × Addr)} {pos : Pos} {Q : Value → Shared → Prop} (_F₀ : Fr h₀ L s.heap m)
    (hclos : closureFor scope env = pure cl) (hcell : ∀ y ∈ scope.names, y.2 ≠ .cell) (hkind : scope.kind = .function)
    (hnames : ∀ y ∈ scope.names, y.2 = .local → scope.names.lookup y.1 = some .local) (hx : scope.names.lookup x = some .local)
    (h : wpAny (model prog w) A (eval iter env) (SrcT prog w A h₀ L m env elt x scope cl Q) E s)
    (hs : ∀ x, foldedSetIterable iter env x = pure x := by intro _; rfl) :
    wpAny (model prog w) A (eval (.ListComp elt [⟨.Name x px, iter, [], 0⟩] scope pos) env) Q E s := by
  rw [eval_ListComp]
  refine wpAny_comprehension_free (use := none) rfl hs hclos hkind hnames (wpAny_mono h (fun xv s₁ h₁ => ?_) fun _ _ e => e)
  obtain ⟨ax, its, n, news, rfl, hh, F, N, S, hsz, R⟩ := h₁
  have ht : ∀ {g : Heap} {nw : List (Addr × Obj)}, News h₀ L g nw → TupAt ax its n nw → g.IsTuple ax its := fun N S => ⟨_, (N _ S).1, rfl, _, rfl⟩
  have hlt : ax < s₁.heap.objs.size := Heap.lt_size (N _ S).1
  refine wpAny_pyIter_tuple (ht N S) ?_
  have up : ∀ b o, s₁.heap.get? b = some o → (s₁.heap.push { cls := .type "tuple_iterator", data := .fields #[.ref ax, .int 0 0] }).get? b = some o := fun b o e => Heap.get?_push_of_some _ e
  refine LCg.block_U (Walks.tuple hh s₁.heap.objs.size ax (Nat.ne_of_lt hlt) its) hsz (fun i h st => by obtain ⟨o, e, _⟩ := st.1; exact ⟨o, e⟩)
    (fun i g g' o nw st e e' k N' S' => ⟨by obtain ⟨o', q, r⟩ := st.1; rw [e] at q; cases q; exact ⟨o, e', r⟩, ht N' S'⟩) hcell hkind hx ⟨⟨_, Heap.get?_push_size _ rfl, rfl, rfl⟩, (ht N S).at fun o e => up _ _ e⟩ (fun b hb => ?_)
    (F.keeps up) (N.grown up) (Nat.ne_of_lt F.ns.lt) (next_is_new F) (fun p hp => Nat.ne_of_lt (Heap.lt_size (N p hp).1)) S (R _ ⟨_, rfl⟩) ?_
  · show b < (s₁.heap.push _).objs.size
    rw [Heap.size_push]
    rcases List.mem_cons.mp hb with rfl | hb
    · exact Nat.lt_succ_self _
    · rw [List.mem_singleton.mp hb]; exact Nat.lt_succ_of_lt hlt
  · intro D C h tk m' ys news' F' N' o1 hn hC₀ hD₀ hCL hDL hCD offC fin
    refine ⟨m', hn, fun h'' hs'' => fin D h'' tk (F'.change hs'' hCL hC₀) (fun p hp => ?_) o1⟩
    refine ⟨hs''.extBut _ _ ?_ (N' p hp).1, (N' p hp).2⟩
    rcases List.mem_cons.mp hp with rfl | hp
    · exact Ne.symm hCD
    · exact offC p hp
theorem src_tup {elt : PySem.Expr} {x : Str} {scope : Scope} {cl : List (Str × Addr)} {ax : Addr} {its : Array Value} {n : Nat} {news : List (Addr × Obj)} {s₁ : Shared} {Q : Value → Shared → Prop}
    (hh : A.handled = none) (F : Fr h₀ L s₁.heap m) (N : News h₀ L s₁.heap news) (hm : (ax, ({ cls := .type "tuple", data := .seq its n } : Obj)) ∈ news) (hsz : its.size ≤ sizeLine)
    (h : ∀ g, LCg.CompRest prog w A h₀ L m env elt x scope cl { s₁ with heap := g } (TupAt ax its n) (fun i v => its[i]? = some v) (LCg.FinE h₀ L m { s₁ with heap := g } Q) its.size 0 [] news) :
    SrcT prog w A h₀ L m env elt x scope cl Q (.ref ax) s₁ :=
  ⟨ax, its, n, news, rfl, hh, F, N, hm, hsz, fun _ ⟨g, e⟩ => e ▸ h g⟩

/-- a comprehension over a text -/
theorem ListComp_S {elt iter : PySem.Expr} {x : Str} {px : Pos} {scope : Scope} {cl : List (Str × Addr)} {pos : Pos} {Q : Value → Shared → Prop} (_F₀ : Fr h₀ L s.heap m)
    (hclos : closureFor scope env = pure cl) (hcell : ∀ y ∈ scope.names, y.2 ≠ .cell) (hkind : scope.kind = .function)
    (hnames : ∀ y ∈ scope.names, y.2 = .local → scope.names.lookup y.1 = some .local) (hx : scope.names.lookup x = some .local)
    (h : wpAny (model prog w) A (eval iter env) (SrcS prog w A h₀ L m env elt x scope cl Q) E s)
    (hs : ∀ x, foldedSetIterable iter env x = pure x := by intro _; rfl) :
    wpAny (model prog w) A (eval (.ListComp elt [⟨.Name x px, iter, [], 0⟩] scope pos) env) Q E s := by
  rw [eval_ListComp]
  refine wpAny_comprehension_free (use := none) rfl hs hclos hkind hnames (wpAny_mono h (fun xv s₁ h₁ => ?_) fun _ _ e => e)
  obtain ⟨tx, t, news, rfl, hh, F, N, ha, hsz, R⟩ := h₁
  refine wpAny_pyIter_ascii ha ?_
  have up : ∀ b o, s₁.heap.get? b = some o → (s₁.heap.push { cls := .type "str_ascii_iterator", data := .fields #[.str tx t, .int 0 0] }).get? b = some o := fun b o e => Heap.get?_push_of_some _ e
  refine LCg.block_U (Walks.strAscii hh s₁.heap.objs.size tx t) hsz (fun i h st => by obtain ⟨o, e, _⟩ := st; exact ⟨o, e⟩)
    (fun i g g' o nw st e e' k N' S' => by obtain ⟨o', q, r⟩ := st; rw [e] at q; cases q; exact ⟨o, e', r⟩) hcell hkind hx ⟨_, Heap.get?_push_size _ rfl, rfl, rfl⟩ (fun b hb => ?_)
    (F.keeps up) (N.grown up) (Nat.ne_of_lt F.ns.lt) (next_is_new F) (fun p hp => Nat.ne_of_lt (Heap.lt_size (N p hp).1)) trivial (R _ ⟨_, rfl⟩) ?_
  · show b < (s₁.heap.push _).objs.size
    rw [Heap.size_push]
    rw [List.mem_singleton.mp hb]; exact Nat.lt_succ_self _
  · intro D C h tk m' ys news' F' N' o1 hn hC₀ hD₀ hCL hDL hCD offC fin
    refine ⟨m', hn, fun h'' hs'' => fin D h'' tk (F'.change hs'' hCL hC₀) (fun p hp => ?_) o1⟩
    refine ⟨hs''.extBut _ _ ?_ (N' p hp).1, (N' p hp).2⟩
    rcases List.mem_cons.mp hp with rfl | hp
    · exact Ne.symm hCD
    · exact offC p hp
def CodeEnd (s : Shared) (h : Heap) (c : Nat) (y : Value) (s' : Shared) : Prop := ∃ tk' t, y = .int (c : Int) t ∧ s' = { s with heap := h, toks := tk' }
theorem CodeEnd.intro {s : Shared} {h : Heap} {c : Nat} {t : Tok} {tk' : Nat} : CodeEnd s h c (.int (c : Int) t) { s with heap := h, toks := tk' } := ⟨tk', t, rfl, rfl⟩
/-- the turns over a text, each giving its code -/
theorem codes_rest {elt : PySem.Expr} {x : Str} {scope : Scope} {cl : List (Str × Addr)} {tx : Str} {Fin : List Value → List (Addr × Obj) → Prop} {news : List (Addr × Obj)} 
    (turn : ∀ (c : Nat) u I oI C oC D m₂ ys h tk (E' : Value → Shared → Prop), LCg.NsObj oC m₂ → m₂ x = some (.str ⟨#[c]⟩ u) → Fr h₀ L h m → News h₀ L h ((I, oI) :: (C, oC) :: (D, LCg.lst ys) :: news) → 
      wpAny (model prog w) A (eval elt (compEnvC scope cl C env)) (CodeEnd s h c) E' { s with heap := h, toks := tk })
    (fin : ∀ ys, IntsAre ys (tx.cps.toList.map fun (c : Nat) => (c : Int)) → Fin ys news) : LCg.CompRest prog w A h₀ L m env elt x scope cl s (fun _ => True) (SignAt tx) Fin tx.cps.size 0 [] news := by
  have key : ∀ (j i : Nat) (ys : List Value), i + j = tx.cps.size → IntsAre ys ((tx.cps.toList.take i).map fun (c : Nat) => (c : Int)) → LCg.CompRest prog w A h₀ L m env elt x scope cl s (fun _ => True) (SignAt tx) Fin j i ys news := by
    intro j
    induction j with
    | zero =>
      intro i ys hi hy
      have e : tx.cps.toList.take i = tx.cps.toList := List.take_of_length_le (by rw [Array.length_toList]; omega)
      rw [e] at hy
      exact LCg.CompRest.zero (fin ys hy)
    | succ j ih =>
      intro i ys hi hy
      refine LCg.CompRest.succ ?_
      rintro v I oI C oC D m₂ h tk E' ⟨c, u, hc, rfl⟩ hC hx F N off ne
      refine wpAny_mono (turn c u I oI C oC D m₂ ys h tk E' hC hx F N) (fun y s' hq => ?_) fun _ _ e => e
      obtain ⟨tk', t, rfl, rfl⟩ := hq
      refine LCg.CompEnd.intro F N news (fun p hp => hp) off trivial ?_
      refine ih (i + 1) _ (by omega) ?_
      have hc' : tx.cps.toList[i]? = some c := by rw [Array.getElem?_toList]; exact hc
      rw [List.take_add_one, hc']
      simp only [Option.toList_some, List.map_append, List.map_cons, List.map_nil]
      exact ksk_snoc hy
  exact key _ 0 [] (by omega) (by simp only [List.take_zero, List.map_nil]; exact .nil)
def TurnS (prog : Program) (w : World) (A : Around) (h₀ : Heap) (L : Addr) (m : Str → Option Value) (env : Env) (elt : PySem.Expr) (x : Str) (scope : Scope) (cl : List (Str × Addr)) (news : List (Addr × Obj)) (s₁ : Shared) : Prop :=
  ∀ g (c : Nat) u I oI C oC D m₂ ys h tk (E' : Value → Shared → Prop), LCg.NsObj oC m₂ → m₂ x = some (.str ⟨#[c]⟩ u) → Fr h₀ L h m → News h₀ L h ((I, oI) :: (C, oC) :: (D, LCg.lst ys) :: news) → 
      wpAny (model prog w) A (eval elt (compEnvC scope cl C env)) (CodeEnd { s₁ with heap := g } h c) E' { s₁ with heap := h, toks := tk }
def FinS (h₀ : Heap) (L : Addr) (m : Str → Option Value) (news : List (Addr × Obj)) (tx : Str) (s₁ : Shared) (Q : Value → Shared → Prop) : Prop :=
  ∀ D h tk ys, IntsAre ys (tx.cps.toList.map fun (c : Nat) => (c : Int)) → Fr h₀ L h m → News h₀ L h ((D, LCg.lst ys) :: news) → LCg.Off1 D news → ys.length ≤ 16384 → Q (.ref D) { s₁ with heap := h, toks := tk }
theorem src_str {elt : PySem.Expr} {x : Str} {scope : Scope} {cl : List (Str × Addr)} {tx : Str} {t : Tok} {news : List (Addr × Obj)} {s₁ : Shared} {Q : Value → Shared → Prop}
    (hh : A.handled = none) (F : Fr h₀ L s₁.heap m) (N : News h₀ L s₁.heap news) (ha : tx.cps.all (· < 128) = true) (hsz : tx.cps.size ≤ sizeLine)
    (turn : TurnS prog w A h₀ L m env elt x scope cl news s₁) (fin : FinS h₀ L m news tx s₁ Q)
    (hz : tx.cps.size ≤ 16384) :
    SrcS prog w A h₀ L m env elt x scope cl Q (.str tx t) s₁ :=
  ⟨tx, t, news, rfl, hh, F, N, ha, hsz, fun _ ⟨g, e⟩ => e ▸ codes_rest (s := { s₁ with heap := g }) (turn g) (fun ys hi D h tk F' N' o1 => fin D h tk ys hi F' N' o1 (by
    rw [hi.length, List.length_map, Array.length_toList]; exact hz))⟩
end
end
section
def Txt.codes (x : Txt) : List Int := x.str.cps.toList.map fun (c : Nat) => (c : Int)
def Txt.cds (x : Txt) : Dat := .tuple (x.codes.map Dat.int)
def Plan.key : Plan → Dat
  | .pv i => .tuple [.int 0, .int i]
  | .pi i => .tuple [.int 1, .int i]
  | .pa x => .tuple [.int 2, x.cds]
  | .ps1 f p => .tuple [.int 3, .int 1, f.cds, .tuple [p.key]]
  | .ps2 f p q => .tuple [.int 3, .int 2, f.cds, .tuple [p.key, q.key]]
theorem Txt.ascii (x : Txt) : x.str.cps.all (· < 128) = true := by cases x <;> decide +kernel
theorem Txt.small (x : Txt) : x.str.cps.size ≤ 16384 := by cases x <;> decide +kernel
theorem Txt.small' (x : Txt) : x.str.cps.size ≤ sizeLine := Nat.le_trans x.small (by decide)
theorem dat_ints {news : List (Addr × Obj)} : ∀ {ys : List Value} {ns : List Int}, IntsAre ys ns → DatAll news ys (ns.map Dat.int)
  | _, _, .nil => .nil
  | _, _, .cons n t r => .cons (.int n t) (dat_ints r)

theorem key_fin {h₀ h : Heap} {L : Addr} {m : Str → Option Value} {news lf tl : List (Addr × Obj)} {s : Shared} {Q : Value → Shared → Prop} {r : Value} {d : Dat} {tk : Nat}
    (hret : ∀ r news' h' tk', Fr h₀ L h' m → News h₀ L h' news' → (∃ tl, Tups tl ∧ Fresh news tl ∧ news' = news ++ tl ∧ DatIn tl r d) → Q r { s with heap := h', toks := tk' })
    (F : Fr h₀ L h m) (N : News h₀ L h lf) (m3 : ∀ p ∈ news, p ∈ lf) (m4 : ∀ p ∈ tl, p ∈ lf) (ht : Tups tl) (hf : Fresh news tl) (hP : DatIn tl r d) :
    Q r { s with heap := h, toks := tk } :=
  hret r (news ++ tl) h tk F (fun q hq => N q ((List.mem_append.mp hq).elim (m3 q) (m4 q))) ⟨tl, ht, hf, rfl, hP⟩

section
variable {h₀ h : Heap} {L : Addr} {m : Str → Option Value} {news lf tl : List (Addr × Obj)} {s : Shared} {Q : Value → Shared → Prop} {tk : Nat}
abbrev KeyRet (h₀ : Heap) (L : Addr) (m : Str → Option Value) (news : List (Addr × Obj)) (s : Shared) (Q : Value → Shared → Prop) (d : Dat) : Prop :=
  ∀ r news' h' tk', Fr h₀ L h' m → News h₀ L h' news' → (∃ tl, Tups tl ∧ Fresh news tl ∧ news' = news ++ tl ∧ DatIn tl r d) → Q r { s with heap := h', toks := tk' }
theorem key_finI {D : Addr} {k i : Int} {t t2 : Tok} {n : Nat} (hret : KeyRet h₀ L m news s Q (.tuple [.int k, .int i])) (F : Fr h₀ L h m) (N : News h₀ L h lf) (m3 : ∀ p ∈ news, p ∈ lf)
    (mD : (D, ({ cls := .type "tuple", data := .seq #[.int k t, .int i t2] n } : Obj)) ∈ lf) (fD : ∀ q ∈ news, @LT.lt Nat _ q.1 D) : Q (.ref D) { s with heap := h, toks := tk } :=
  key_fin hret F N m3 (List.forall_mem_cons.mpr ⟨mD, List.forall_mem_nil _⟩) (Tups.cons Tups.nil) (Fresh.cons fD Fresh.nil) (DatIn.tuple (vs := [.int k t, .int i t2]) (List.Mem.head _) (.cons (.int _ _) (.cons (.int _ _) .nil)))
theorem key_finA {D c : Addr} {k : Int} {t : Tok} {n n' : Nat} {ys : List Value} {ns : List Int} (hret : KeyRet h₀ L m news s Q (.tuple [.int k, .tuple (ns.map Dat.int)])) (F : Fr h₀ L h m) (N : News h₀ L h lf) (m3 : ∀ p ∈ news, p ∈ lf) (hi : IntsAre ys ns)
    (mD : (D, ({ cls := .type "tuple", data := .seq #[.int k t, .ref c] n } : Obj)) ∈ lf) (mc : (c, ({ cls := .type "tuple", data := .seq ys.toArray n' } : Obj)) ∈ lf) (fD : ∀ q ∈ news, @LT.lt Nat _ q.1 D) (fc : ∀ q ∈ news, @LT.lt Nat _ q.1 c) : Q (.ref D) { s with heap := h, toks := tk } :=
  key_fin hret F N m3 (List.forall_mem_cons.mpr ⟨mD, List.forall_mem_cons.mpr ⟨mc, List.forall_mem_nil _⟩⟩) (Tups.cons (Tups.cons Tups.nil)) (Fresh.cons fD (Fresh.cons fc Fresh.nil))
    (DatIn.tuple (vs := [.int k t, .ref c]) (List.Mem.head _) (.cons (.int _ _) (.cons (.tuple (.tail _ (.head _)) (dat_ints hi)) .nil)))
theorem key_finS {D c e : Addr} {k j : Int} {t t' : Tok} {n n' n'' : Nat} {ys zs : List Value} {ns : List Int} {ds : List Dat} (hret : KeyRet h₀ L m news s Q (.tuple [.int k, .int j, .tuple (ns.map Dat.int), .tuple ds])) (F : Fr h₀ L h m) (N : News h₀ L h lf) (m3 : ∀ p ∈ news, p ∈ lf) (hi : IntsAre ys ns)
    (mD : (D, ({ cls := .type "tuple", data := .seq #[.int k t, .int j t', .ref c, .ref e] n } : Obj)) ∈ lf) (mc : (c, ({ cls := .type "tuple", data := .seq ys.toArray n' } : Obj)) ∈ lf) (me : (e, ({ cls := .type "tuple", data := .seq zs.toArray n'' } : Obj)) ∈ lf)
    (hz : DatAll tl zs ds) (ht : Tups tl) (hf : Fresh news tl) (m4 : ∀ p ∈ tl, p ∈ lf) (fD : ∀ q ∈ news, @LT.lt Nat _ q.1 D) (fc : ∀ q ∈ news, @LT.lt Nat _ q.1 c) (fe : ∀ q ∈ news, @LT.lt Nat _ q.1 e) : Q (.ref D) { s with heap := h, toks := tk } :=
  key_fin hret F N m3 (List.forall_mem_cons.mpr ⟨mD, List.forall_mem_cons.mpr ⟨mc, List.forall_mem_cons.mpr ⟨me, m4⟩⟩⟩) (Tups.cons (Tups.cons (Tups.cons ht))) (Fresh.cons fD (Fresh.cons fc (Fresh.cons fe hf)))
    (DatIn.tuple (vs := [.int k t, .int j t', .ref c, .ref e]) (List.Mem.head _) (.cons (.int _ _) (.cons (.int _ _) (.cons (.tuple (.tail _ (.head _)) (dat_ints hi)) (.cons (.tuple (.tail _ (.tail _ (.head _))) (hz.mono fun p hp => .tail _ (.tail _ (.tail _ hp)))) .nil)))))
end
def KeySpec (p : Plan) : Prop := ∀ {w : World} {v : Value} {news : List (Addr × Obj)}, PlanIn news v p →
    Tri (Mine.hd.heap_1 w.params) w 187 (p.deep + 1) [v] news (fun r news' => ∃ tl, Tups tl ∧ Fresh news tl ∧ news' = news ++ tl ∧ DatIn tl r p.key)
theorem key_use {w : World} {loose : List Str} {mean : ExcName → Option Value} {mg mb : Str → Option Value} {dp un : Nat} {gd : Option (List Code)} {cn : Str} {cs : Scope} {a : Addr} {ccd : Value} {cl : List (Str × Addr)} {outer : List Env} {A₀ : Around} {base h₀ : Heap} {L : Addr} {m : Str → Option Value} {s : Shared} {Q E : Value → Shared → Prop} {p : Plan} {v : Value} {news0 : List (Addr × Obj)} (B : Below A₀ base outer h₀) (F : Fr h₀ L s.heap m) (X : (Mine.hd.heap_1 w.params).In h₀) (N : News h₀ L s.heap news0) (T : Top Mine.hd.view_1 loose mean mg mb h₀) (hk : cs.kind = .function) (hv : PlanIn news0 v p) (C : KeySpec p) (hd : dp + (p.deep + 1) < recursionLimit) (hu : un + 8 * (p.deep + 1) + 64 < cLine) (ret : ∀ r tl h' tk', Tups tl → Fresh news0 tl → DatIn tl r p.key → Fr h₀ L h' m → News h₀ L h' (news0 ++ tl) → Q r { s with heap := h', toks := tk' }) :
    wpAny (model PySem.Challenge.rw_sa0142_01.row.prog w) (ktrTop dp un gd cn cs L a ccd cl outer) (call (.ref 187) [v]) Q E s := by
  exact tri_use B F X N T hk (C hv) (fun _ h => h) hd hu (fun r news' h' tk' F' N' h => by
    obtain ⟨tl, h1, h2, rfl, h4⟩ := h
    exact ret r tl h' tk' h1 h2 h4 F' N')


theorem said8 : True := by
  k_with "my k_mem9" => first | exact List.Mem.head _ | assumption | (refine' List.Mem.tail _ ?_; k_mem) | (refine' List.mem_append.mpr (Or.inl ?_); k_mem) | (refine' List.mem_append.mpr (Or.inr ?_); k_mem) | fail "9"
  k_with "my eval ListComp" => (k_here; (with_reducible show wpAny _ _ (eval (Expr.ListComp _ [Comprehension.mk (Expr.Name (Str.ofString "sign") _) _ _ _] _ _) _) _ _ _); k_dflt (refine ListComp_S (by k_asm) (by with_unfolding_all rfl) (by decide) (by rfl) (by decide) (by rfl) ?_))
  k_with "my eval ListComp" => (k_here; (with_reducible show wpAny _ _ (eval (Expr.ListComp _ [Comprehension.mk (Expr.Name (Str.ofString "part") _) _ _ _] _ _) _) _ _ _); k_dflt (refine ListComp_T (by k_asm) (by with_unfolding_all rfl) (by decide) (by rfl) (by decide) (by rfl) ?_))
  k_with "my SrcS" => (k_here; k_dflt (refine' src_str (by rfl) (by k_asm) (by k_asm) (by exact Txt.ascii _) (by exact Txt.small' _) ?_ ?_ (by exact Txt.small _)))
  k_with "my TurnS" => (unfold TurnS; intros)
  k_with "my FinS" => (unfold FinS; intros)
  k_with "my CodeEnd" => exact CodeEnd.intro
  k_with "my SrcT" => (k_here; k_dflt (refine src_tup (by rfl) (by k_asm) (by k_asm) (by k_mem) (by first | size_fits | exact Nat.le_of_ble_eq_true rfl) ?_; intros; lcg_lit))
  k_with "my myfresh" => first | exact Fresh.nil | (refine Fresh.cons ?_ ?_ <;> k_extra "my myfresh") | (refine Fresh.app ?_ ?_ <;> k_extra "my myfresh") | exact Fresh.sub (by assumption) (by k_extra "my sb9") | exact lt_sub (by assumption) (by k_extra "my sb9") | exact tb_ltOf (by tbn_find) | exact lt_sub (tb_ltOf (by tbn_find)) (fun _ h => List.mem_append.mpr (.inl h)) | exact lt_sub (tb_ltOf (by tbn_find)) (fun _ h => List.mem_append.mpr (.inl (List.mem_append.mpr (.inl h)))) | fail "9"
  k_with "my myoff" => first | assumption | exact True.intro | (refine off3_app ?_ ?_ <;> k_extra "my myoff") | exact off3_fresh (by assumption) (by k_mem) (by k_mem) (by k_mem) | exact (And.right (by assumption)) | exact (And.right (And.right (by assumption))) | exact (And.right (And.right (And.right (by assumption)))) | exact (And.right (And.right (And.right (And.right (by assumption))))) | exact (And.right (And.right (And.right (And.right (And.right (by assumption)))))) | exact (And.right (And.right (And.right (And.right (And.right (And.right (by assumption))))))) | (refine And.intro ⟨by k_ne, by k_ne, by k_ne⟩ ?_; k_extra "my myoff") | fail "9"
  k_with "my CompEnd" => (k_here; refine' comp_end (by assumption) (by assumption) (by k_extra "my pick9") (by k_extra "my pick9") (by k_extra "my pick9") (by k_extra "my myoff") (by first | exact True.intro | (unfold TupAt; k_mem)) ?_; k_whole)
  k_with "my call type:tuple" => (k_here; (with_reducible show wpAny _ _ (call (Value.type "tuple") [Value.ref _]) _ _ _); k_dflt (refine' kde_tupleOf (by k_asm) (by k_asm) (by exact News.isList (by k_asm) (by k_mem)) (by first | assumption | exact Nat.le_of_ble_eq_true rfl) (by first | exact List.toList_toArray | exact List.toList_toArray _ | exact rfl) ?_; k_whole; intros))
  k_with "my call ref" => (k_here; (with_reducible show wpAny _ _ (call (Value.ref 187) _) _ _ _); k_dflt (refine' key_use (by k_asm) (by k_asm) (by k_asm) (by k_asm) (by k_asm) (by k_extra "my hk9") (by (refine' PlanIn.mono ?s9 ?h9; (case h9 => assumption); (case s9 => k_extra "my sb9"))) (by first | assumption | exact key_spec _) (by k_extra "my hd9") (by k_extra "my hu9") ?_; k_whole; intro _ _ h9; intros; k_extra "my norm9"; k_extra "my end9"))
  trivial
set_option maxHeartbeats 8000000 in
theorem key_spec (p : Plan) : KeySpec p := by
  induction p with
  | pv i =>
    intro w v news hv
    cases hv
    unfold Tri
    k_fill
    intro loose mean mg mb dp un gd cn cs a ccd cl outer A₀ base h₀ L m s Q E B F X N T hk hd hu hret
    (try simp only [Plan.deep] at hd hu)
    refine wpAny_call ?_
    k_dflt ktr_enter
    k_steps
    all_goals (exact key_finI hret (by k_asm) (by k_asm) (by k_extra "my sb9") (by k_mem) (by k_extra "my myfresh"))
  | pi i =>
    intro w v news hv
    cases hv
    unfold Tri
    k_fill
    intro loose mean mg mb dp un gd cn cs a ccd cl outer A₀ base h₀ L m s Q E B F X N T hk hd hu hret
    (try simp only [Plan.deep] at hd hu)
    refine wpAny_call ?_
    k_dflt ktr_enter
    k_steps
    all_goals (exact key_finI hret (by k_asm) (by k_asm) (by k_extra "my sb9") (by k_mem) (by k_extra "my myfresh"))
  | pa x =>
    intro w v news hv
    cases hv
    unfold Tri
    k_fill
    intro loose mean mg mb dp un gd cn cs a ccd cl outer A₀ base h₀ L m s Q E B F X N T hk hd hu hret
    (try simp only [Plan.deep] at hd hu)
    refine wpAny_call ?_
    k_dflt ktr_enter
    k_steps
    all_goals (exact key_finA hret (by k_asm) (by k_asm) (by k_extra "my sb9") (by assumption) (by k_mem) (by k_mem) (by k_extra "my myfresh") (by k_extra "my myfresh"))
  | ps1 f p ih =>
    intro w v news hv
    cases hv
    unfold Tri
    k_fill
    intro loose mean mg mb dp un gd cn cs a ccd cl outer A₀ base h₀ L m s Q E B F X N T hk hd hu hret
    (try simp only [Plan.deep] at hd hu)
    refine wpAny_call ?_
    k_dflt ktr_enter
    k_steps
    skip
    all_goals (exact key_finS hret (by k_asm) (by k_asm) (by k_extra "my sb9") (by assumption) (by k_mem) (by k_mem) (List.Mem.tail _ (List.Mem.head _)) (.cons (by assumption) .nil) (by assumption) (by k_extra "my myfresh") (by k_extra "my sb9") (by k_extra "my myfresh") (by k_extra "my myfresh") (by k_extra "my myfresh"))
  | ps2 f p q ihp ihq =>
    intro w v news hv
    cases hv
    unfold Tri
    k_fill
    intro loose mean mg mb dp un gd cn cs a ccd cl outer A₀ base h₀ L m s Q E B F X N T hk hd hu hret
    (try simp only [Plan.deep] at hd hu)
    refine wpAny_call ?_
    k_dflt ktr_enter
    k_steps
    skip
    all_goals (exact key_finS hret (by k_asm) (by k_asm) (by k_extra "my sb9") (by assumption) (by k_mem) (by k_mem) (List.Mem.tail _ (List.Mem.head _)) (.cons (DatIn.mono (fun _ h => List.mem_append.mpr (.inl h)) (by assumption)) (.cons (DatIn.mono (fun _ h => List.mem_append.mpr (.inr h)) (by assumption)) .nil)) (Tups.app (by assumption) (by assumption)) (by k_extra "my myfresh") (List.forall_mem_append.mpr ⟨(by k_extra "my sb9"), (by k_extra "my sb9")⟩) (by k_extra "my myfresh") (by k_extra "my myfresh") (by k_extra "my myfresh"))
end
section
def deq (x y : Dat) : Bool := PyData.eqv (kqdP x) (kqdP y)
mutual
def dless : Dat → Dat → Bool
  | .int a, .int b => decide (a < b)
  | .tuple xs, .tuple ys => dlessAll xs ys
  | _, _ => false
def dlessAll : List Dat → List Dat → Bool
  | [], [] => false
  | [], _ :: _ => true
  | _ :: _, [] => false
  | x :: xs, y :: ys => if deq x y = true then dlessAll xs ys else dless x y
end
mutual
def cmpOk : Dat → Dat → Prop
  | .int _, .int _ => True
  | .tuple xs, .tuple ys => cmpOkAll xs ys
  | _, _ => False
def cmpOkAll : List Dat → List Dat → Prop
  | x :: xs, y :: ys => (deq x y = true → cmpOkAll xs ys) ∧ (deq x y = false → cmpOk x y)
  | _, _ => True
end
theorem said9 : True := by
  k_with_none
  k_with "my ltc" => first | exact j0 (by assumption) | exact j1 (by assumption) | exact j2 (by assumption) | exact j3 (by assumption) | exact j4 (by assumption) | exact j5 (by assumption) | exact j6 (by assumption) | exact j7 (by assumption) | exact j8 (by assumption) | exact j9 (by assumption) | exact j10 (by assumption) | fail "9"
  k_with "my trc0" => first | assumption | k_extra "my ltc" | fail "9"
  k_with "my trc" => first | exact t0 (by k_extra "my trc0") | exact t1 (by k_extra "my trc0") | exact t2 (by k_extra "my trc0") | fail "9"
  k_with "my k_ne9" => (refine neN ?_; (try dsimp only); first | assumption | exact Ne.symm (by assumption) | (refine Nat.ne_of_lt ?_; k_extra "my ltc") | (refine Nat.ne_of_gt ?_; k_extra "my ltc") | k_extra "my trc" | (refine Ne.symm ?_; k_extra "my trc") | fail "9")
  k_with "my le9" => first | exact Nat.le_refl _ | exact Nat.le_of_ble_eq_true rfl | exact Nat.succ_le_succ (Nat.zero_le _) | assumption | exact Nat.succ_le_succ (Nat.le_max_left _ _) | exact Nat.succ_le_succ (Nat.le_max_right _ _) | exact Nat.succ_le_succ (Nat.succ_le_succ (Nat.zero_le _)) | exact Nat.succ_le_succ (Nat.succ_le_succ (Nat.le_max_left _ _)) | exact Nat.succ_le_succ (Nat.succ_le_succ (Nat.le_max_right _ _)) | exact Nat.succ_le_succ (Nat.succ_le_succ (Nat.succ_le_succ (Nat.le_max_left _ _))) | exact Nat.succ_le_succ (Nat.succ_le_succ (Nat.succ_le_succ (Nat.le_max_right _ _))) | fail "9"
  k_with "my ktr_room9" => first | exact room0 (by assumption) | exact room1 (by assumption) (by k_extra "my le9") | exact room2 (by assumption) (by k_extra "my le9") | fail "9"
  k_with "my ktr_units9" => first | exact units1 (by assumption) (by k_extra "my le9") | exact units2 (by assumption) (by k_extra "my le9") | fail "9"
  k_with "my pick9" => (repeat (first | exact Pick.head | apply Pick.tail))
  k_with "my sb9" => (intro p hp; simp only [List.mem_append, List.mem_cons, hp, true_or, or_true])
  k_with "my hk9" => first | exact rfl | assumption | fail "9"
  k_with "my hd9" => first | exact Nat.le_of_ble_eq_true rfl | ktr_room | ((try simp only [depth_deeper, depth_under_make]); (try dsimp only [ktrTop]); first | ktr_room | omega) | fail "9"
  k_with "my hu9" => first | exact Nat.le_of_ble_eq_true rfl | ktr_units | ((try simp only [units_deeper, units_under_make]); (try dsimp only [ktrTop]); first | ktr_units | omega) | fail "9"
  k_with "my norm9" => ((rename News _ _ _ _ => nN9); (try simp only [List.nil_append, List.cons_append, List.append_nil] at nN9))
  k_with "my norm8" => ((rename News _ _ _ _ => nN9); (try simp only [List.nil_append, List.cons_append, List.append_nil, List.append_assoc] at nN9))
  k_with "my end9" => ((try k_sweep); (try dsimp only); (try k_fold))
  trivial
theorem dless_tuple (xs ys : List Dat) : dless (.tuple xs) (.tuple ys) = dlessAll xs ys := by rw [dless]
theorem cmpOk_tuple (xs ys : List Dat) : cmpOk (.tuple xs) (.tuple ys) = cmpOkAll xs ys := by rw [cmpOk]
theorem dlessAll_cons (x y : Dat) (xs ys : List Dat) : dlessAll (x :: xs) (y :: ys) = if deq x y = true then dlessAll xs ys else dless x y := by rw [dlessAll]
theorem cmpOkAll_cons (x y : Dat) (xs ys : List Dat) : cmpOkAll (x :: xs) (y :: ys) = ((deq x y = true → cmpOkAll xs ys) ∧ (deq x y = false → cmpOk x y)) := by rw [cmpOkAll]
theorem dlessAll_nil : dlessAll [] [] = false := by rw [dlessAll]
theorem dlessAll_nil_cons (y : Dat) (ys : List Dat) : dlessAll [] (y :: ys) = true := by rw [dlessAll]
theorem dlessAll_cons_nil (x : Dat) (xs : List Dat) : dlessAll (x :: xs) [] = false := by rw [dlessAll]

theorem datAll_len {news : List (Addr × Obj)} : ∀ {vs : List Value} {ds : List Dat}, DatAll news vs ds → vs.length = ds.length
  | _, _, .nil => rfl
  | _, _, .cons _ r => congrArg (· + 1) (datAll_len r)

section
variable {prog : Program} {w : World} {h₀ : Heap} {L : Addr} {news : List (Addr × Obj)}
theorem rc_lt : ∀ (n : Nat) {A : Around} {E : Value → Shared → Prop} {s : Shared} {a b : Value} {d e : Dat} {Q : Value → Shared → Prop}, News h₀ L s.heap news → DatIn news a d → DatIn news b e → kqdOk n d = true → kqdOk n e = true → cmpOk d e → A.units + 2 * n + 2 < cLine →
    Q (.bool (dless d e)) s → wpAny (model prog w) A (richCompare .Lt a b) Q E s := by
  intro n
  induction n with
  | zero =>
    intro A E s a b d e Q N Da Db kd ke hc hu h
    cases Da <;> cases Db <;> simp only [cmpOk] at hc
    · rw [dless] at h
      exact wpAny_lt_int h
    · simp [kqdOk] at kd
  | succ n ih =>
    intro A E s a b d e Q N Da Db kd ke hc hu h
    cases Da with
    | int i t =>
      cases Db with
      | int j u => rw [dless] at h; exact wpAny_lt_int h
      | _ => simp only [cmpOk] at hc
    | @tuple aa xs na ds ma da =>
      cases Db with
      | @tuple ab ys nb es mb db =>
        rw [cmpOk_tuple] at hc
        rw [dless_tuple] at h
        have ta : s.TypeIs (.ref aa) "tuple" := ⟨_, (N _ ma).1, rfl⟩
        have tb : s.TypeIs (.ref ab) "tuple" := ⟨_, (N _ mb).1, rfl⟩
        have ka : ∀ x ∈ ds, kqdOk n x = true := by simpa [kqdOk] using kd
        have kb : ∀ x ∈ es, kqdOk n x = true := by simpa [kqdOk] using ke
        refine wpAny_richCompare_same_room (op := .Lt) ta tb PySem.F.slot_tuple_lt (wpAny_call_entry PySem.F.slot_tuple_lt ta PySem.F.entry_tuple_lt ?_ (PySem.F.args_tuple_lt_2 _ _)) (by omega)
        show wpAny _ _ (isInstance (.ref ab) (.type "tuple") >>= _) _ _ s
        refine wpAny_bind (wpAny_isInstance tb isSubtype_tuple_tuple ?_)
        simp only [Bool.not_true, Bool.false_eq_true, if_false]
        refine wpAny_bind (wpAny_tupleItemsOf (N _ ma).1 rfl ?_)
        refine wpAny_bind (wpAny_tupleItemsOf (N _ mb).1 rfl ?_)
        refine wpAny_bind ?_
        have hu1 : A.in1.units + 2 * n + 2 < cLine := by rw [units_in1]; omega
        refine wpAny_forIn_list _
          (fun rest r s' => r.1 = none ∧ s' = s ∧ ∃ xs' ys' ds' es', rest = List.zip xs' ys' ∧ DatAll news xs' ds' ∧ DatAll news ys' es' ∧ (∀ x ∈ ds', kqdOk n x = true) ∧ (∀ x ∈ es', kqdOk n x = true) ∧ cmpOkAll ds' es' ∧ dlessAll ds' es' = dlessAll ds es ∧
            decide (xs'.length < ys'.length) = decide (xs.length < ys.length))
          _ ?_ ?_ _ _ ⟨rfl, rfl, xs, ys, ds, es, rfl, da, db, ka, kb, hc, rfl, rfl⟩
        · rintro ⟨u, v⟩ rest r s' ⟨hr, rfl, xs', ys', ds', es', hz, hx', hy', k1, k2, hc', hdec, hlen⟩
          cases hx' with
          | nil => simp at hz
          | @cons u' xs'' d' ds'' h1 hx'' =>
            cases hy' with
            | nil => simp at hz
            | @cons v' ys'' e' es'' h2 hy'' =>
              simp only [List.zip_cons_cons, List.cons.injEq, Prod.mk.injEq] at hz
              obtain ⟨⟨rfl, rfl⟩, rfl⟩ := hz
              obtain ⟨as, ra⟩ := kqd_in N n h1 (k1 _ (.head _))
              obtain ⟨bs, rb⟩ := kqd_in N n h2 (k2 _ (.head _))
              have la := kqd_lay n d' (k1 _ (.head _))
              have lb := kqd_lay n e' (k2 _ (.head _))
              rw [cmpOkAll_cons] at hc'
              rw [dlessAll_cons] at hdec
              refine wpAny_bind (SeqAt.eqBoolOverData prog w A.in1 _ s' _ _ _ _ _ _ _ ra rb la.1 lb.1 (by
                have := Nat.min_le_left (kqdP d').depth (kqdP e').depth
                have := la.2
                omega) ?_)
              show wpAny _ _ (if (!deq d' e') = true then _ else _) _ _ s'
              cases hq : deq d' e' with
              | true =>
                simp only [Bool.not_true, Bool.false_eq_true, if_false]
                rw [hq, if_pos rfl] at hdec
                exact wpAny_pure ⟨rfl, rfl, xs'', ys'', ds'', es'', rfl, hx'', hy'', (fun x hx => k1 x (.tail _ hx)), (fun x hx => k2 x (.tail _ hx)), hc'.1 hq, hdec, by simpa using hlen⟩
              | false =>
                simp only [Bool.not_false, if_true]
                rw [hq, if_neg (by simp)] at hdec
                refine wpAny_bind (wpAny_rule ?_)
                refine wpAny_bind (ih N h1 h2 (k1 _ (.head _)) (k2 _ (.head _)) (hc'.2 hq) hu1 ?_)
                rw [hdec]
                refine wpAny_bind (wpAny_pure (wpAny_pure ?_))
                exact wpAny_pure ⟨_, rfl, (fun e => nomatch e), h⟩
        · rintro ⟨r1, r2⟩ s' ⟨hr, rfl, xs', ys', ds', es', hz, hx', hy', k1, k2, hc', hdec, hlen⟩
          simp only at hr
          subst hr
          refine wpAny_pure ⟨_, rfl, (fun e => nomatch e), ?_⟩
          have hfin : decide (xs.length < ys.length) = dlessAll ds es := by
            rw [← hdec, ← hlen]
            cases hx' with
            | nil =>
              cases hy' with
              | nil => rw [dlessAll_nil]; simp
              | cons _ _ => rw [dlessAll_nil_cons]; simp
            | cons _ _ =>
              cases hy' with
              | nil => rw [dlessAll_cons_nil]; simp
              | cons _ _ => simp at hz
          show Q (.bool (decide (xs.toArray.size < ys.toArray.size))) s'
          rw [List.size_toArray, List.size_toArray, hfin]; exact h
      | _ => simp only [cmpOk] at hc
    | _ => cases Db <;> simp only [cmpOk] at hc
theorem dat_lt {A : Around} {E : Value → Shared → Prop} {s : Shared} {a b : Value} {d e : Dat} {Q : Value → Shared → Prop} (N : News h₀ L s.heap news) (Da : DatIn news a d) (Db : DatIn news b e) (kd : kqdOk 8 d = true) (ke : kqdOk 8 e = true) (hc : cmpOk d e) (hu : A.units + 64 < cLine)
    (h : Q (.bool (dless d e)) s) : wpAny (model prog w) A (compareOp .Lt a b) Q E s := rc_lt 8 N Da Db kd ke hc (by omega) h
theorem dat_eq {A : Around} {E : Value → Shared → Prop} {s : Shared} {a b : Value} {d e : Dat} {Q : Value → Shared → Prop} (N : News h₀ L s.heap news) (Da : DatIn news a d) (Db : DatIn news b e) (kd : kqdOk 8 d = true) (ke : kqdOk 8 e = true) (hu : A.units + 64 < cLine)
    (h : Q (.bool (deq d e)) s) : wpAny (model prog w) A (compareOp .Eq a b) Q E s := by
  obtain ⟨as, ra⟩ := kqd_in N 8 Da kd
  obtain ⟨bs, rb⟩ := kqd_in N 8 Db ke
  have la := kqd_lay 8 d kd
  have lb := kqd_lay 8 e ke
  refine eq_dataH ra rb ?_ ?_ hu h
  · unfold SeqAt.shaped; rw [la.1, Bool.true_and]; exact decide_eq_true (Nat.le_trans la.2 (by decide))
  · unfold SeqAt.shaped; rw [lb.1, Bool.true_and]; exact decide_eq_true (Nat.le_trans lb.2 (by decide))
end
end
section
def dsign (d e : Dat) : Int := if deq d e = true then 0 else if dless d e = true then -1 else 1
theorem sign_val {d e : Dat} {i : Int} {t : Tok} (h : dsign d e = i) : ∃ t', Value.int i t = .int (dsign d e) t' := ⟨t, by rw [h]⟩
def SignSpec : Prop := ∀ {w : World} {a b : Addr} {d e : Dat} {news : List (Addr × Obj)} (_ : DatIn news (.ref a) d) (_ : DatIn news (.ref b) e) (_ : kqdOk 8 d = true) (_ : kqdOk 8 e = true) (_ : cmpOk d e),
    Tri (Mine.hd.heap_1 w.params) w 199 1 [.ref a, .ref b] news (fun r news' => news' = news ∧ ∃ t, r = .int (dsign d e) t)
def isign (a b : Int) : Int := if a = b then 0 else if a < b then -1 else 1
theorem isign_val {a b i : Int} {t : Tok} (h : isign a b = i) : ∃ t', Value.int i t = .int (isign a b) t' := ⟨t, by rw [h]⟩
def WholesSpec : Prop := ∀ {w : World} {a b : Int} {t u : Tok} {news : List (Addr × Obj)},
    Tri (Mine.hd.heap_1 w.params) w 42 1 [.int a t, .int b u] news (fun r news' => news' = news ∧ ∃ t, r = .int (isign a b) t)
def ssign (x y : Str) : Int := if (x == y) = true then 0 else if x.cps.toList < y.cps.toList then -1 else 1
theorem ssign_val {x y : Str} {i : Int} {t : Tok} (h : ssign x y = i) : ∃ t', Value.int i t = .int (ssign x y) t' := ⟨t, by rw [h]⟩
def TextsSpec : Prop := ∀ {w : World} {x y : Str} {t u : Tok} {news : List (Addr × Obj)},
    Tri (Mine.hd.heap_1 w.params) w 35 1 [.str x t, .str y u] news (fun r news' => news' = news ∧ ∃ t, r = .int (ssign x y) t)


theorem said10 : True := by
  k_with "my compareOp Eq ref ref" => (k_here; (with_reducible show wpAny _ _ (compareOp CmpOp.Eq (Value.ref _) (Value.ref _)) _ _ _); k_dflt (refine' dat_eq (by k_asm) (by assumption) (by assumption) (by assumption) (by assumption) (by ktr_units) ?_; k_whole))
  k_with "my compareOp Lt ref ref" => (k_here; (with_reducible show wpAny _ _ (compareOp CmpOp.Lt (Value.ref _) (Value.ref _)) _ _ _); k_dflt (refine' dat_lt (by k_asm) (by assumption) (by assumption) (by assumption) (by assumption) (by assumption) (by ktr_units) ?_; k_whole))
  trivial
set_option maxHeartbeats 8000000 in
theorem sign_spec : SignSpec := by
  intro w a b d e news ha hb ka kb hc
  unfold Tri
  k_fill
  intro loose mean mg mb dp un gd cn cs a ccd cl outer A₀ base h₀ L m s Q E B F X N T hk hd hu hret
  refine wpAny_call ?_
  k_dflt ktr_enter
  k_steps
  all_goals (exact hret _ news _ _ (by k_asm) (by k_asm) ⟨rfl, sign_val (by simp [dsign, *])⟩)
set_option maxHeartbeats 8000000 in
theorem wholes_spec : WholesSpec := by
  intro w x y t u news
  unfold Tri
  k_fill
  intro loose mean mg mb dp un gd cn cs a ccd cl outer A₀ base h₀ L m s Q E B F X N T hk hd hu hret
  refine wpAny_call ?_
  k_dflt ktr_enter
  k_steps
  skip
  all_goals (exact hret _ news _ _ (by k_asm) (by k_asm) ⟨rfl, isign_val (by unfold isign; first | (simp [*]; done) | (simp_all; done) | omega)⟩)
set_option maxHeartbeats 8000000 in
theorem texts_spec : TextsSpec := by
  intro w x y t u news
  unfold Tri
  k_fill
  intro loose mean mg mb dp un gd cn cs a ccd cl outer A₀ base h₀ L m s Q E B F X N T hk hd hu hret
  refine wpAny_call ?_
  k_dflt ktr_enter
  k_steps
  skip
  all_goals (exact hret _ news _ _ (by k_asm) (by k_asm) ⟨rfl, ssign_val (by unfold ssign; first | rw [if_pos (by assumption)] | rw [if_neg (Bool.eq_false_iff.mp (by assumption)), if_pos (by assumption)] | rw [if_neg (Bool.eq_false_iff.mp (by assumption)), if_neg (by assumption)])⟩)
end
section
def nums : Nat → List Str → List (Str × Int)
  | _, [] => []
  | i, x :: r => (x, (i : Int)) :: nums (i + 1) r
theorem said11 : True := by
  k_with_none
  k_with "my ltc" => first | exact j0 (by assumption) | exact j1 (by assumption) | exact j2 (by assumption) | exact j3 (by assumption) | exact j4 (by assumption) | exact j5 (by assumption) | exact j6 (by assumption) | exact j7 (by assumption) | exact j8 (by assumption) | exact j9 (by assumption) | exact j10 (by assumption) | fail "9"
  k_with "my trc0" => first | assumption | k_extra "my ltc" | fail "9"
  k_with "my trc" => first | exact t0 (by k_extra "my trc0") | exact t1 (by k_extra "my trc0") | exact t2 (by k_extra "my trc0") | fail "9"
  k_with "my k_ne9" => (refine neN ?_; (try dsimp only); first | assumption | exact Ne.symm (by assumption) | (refine Nat.ne_of_lt ?_; k_extra "my ltc") | (refine Nat.ne_of_gt ?_; k_extra "my ltc") | k_extra "my trc" | (refine Ne.symm ?_; k_extra "my trc") | fail "9")
  k_with "my le9" => first | exact Nat.le_refl _ | exact Nat.le_of_ble_eq_true rfl | exact Nat.succ_le_succ (Nat.zero_le _) | assumption | exact Nat.succ_le_succ (Nat.le_max_left _ _) | exact Nat.succ_le_succ (Nat.le_max_right _ _) | exact Nat.succ_le_succ (Nat.succ_le_succ (Nat.zero_le _)) | exact Nat.succ_le_succ (Nat.succ_le_succ (Nat.le_max_left _ _)) | exact Nat.succ_le_succ (Nat.succ_le_succ (Nat.le_max_right _ _)) | exact Nat.succ_le_succ (Nat.succ_le_succ (Nat.succ_le_succ (Nat.le_max_left _ _))) | exact Nat.succ_le_succ (Nat.succ_le_succ (Nat.succ_le_succ (Nat.le_max_right _ _))) | fail "9"
  k_with "my ktr_room9" => first | exact room0 (by assumption) | exact room1 (by assumption) (by k_extra "my le9") | exact room2 (by assumption) (by k_extra "my le9") | fail "9"
  k_with "my ktr_units9" => first | exact units1 (by assumption) (by k_extra "my le9") | exact units2 (by assumption) (by k_extra "my le9") | fail "9"
  k_with "my pick9" => (repeat (first | exact Pick.head | apply Pick.tail))
  k_with "my sb9" => (intro p hp; simp only [List.mem_append, List.mem_cons, hp, true_or, or_true])
  k_with "my hk9" => first | exact rfl | assumption | fail "9"
  k_with "my hd9" => first | exact Nat.le_of_ble_eq_true rfl | ktr_room | ((try simp only [depth_deeper, depth_under_make]); (try dsimp only [ktrTop]); first | ktr_room | omega) | fail "9"
  k_with "my hu9" => first | exact Nat.le_of_ble_eq_true rfl | ktr_units | ((try simp only [units_deeper, units_under_make]); (try dsimp only [ktrTop]); first | ktr_units | omega) | fail "9"
  k_with "my norm9" => ((rename News _ _ _ _ => nN9); (try simp only [List.nil_append, List.cons_append, List.append_nil] at nN9))
  k_with "my norm8" => ((rename News _ _ _ _ => nN9); (try simp only [List.nil_append, List.cons_append, List.append_nil, List.append_assoc] at nN9))
  k_with "my end9" => ((try k_sweep); (try dsimp only); (try k_fold))
  trivial
theorem nums_snoc (x : Str) : ∀ (i : Nat) (ts : List Str), nums i (ts ++ [x]) = nums i ts ++ [(x, ((i + ts.length : Nat) : Int))]
  | i, [] => by simp [nums]
  | i, y :: r => by
    rw [List.cons_append, nums, nums, nums_snoc x (i + 1) r, List.cons_append, List.length_cons]
    congr 4
    omega
theorem nums_len : ∀ (i : Nat) (ts : List Str), (nums i ts).length = ts.length
  | _, [] => rfl
  | i, _ :: r => by rw [nums, List.length_cons, nums_len (i + 1) r, List.length_cons]
theorem look_nil (k : Str) (d : Int) : kdpLook [] k d = d := rfl
theorem look_cons (x k : Str) (v d : Int) (c : List (Str × Int)) : kdpLook ((x, v) :: c) k d = if x = k then v else kdpLook c k d := by
  unfold kdpLook
  rw [List.find?_cons]
  by_cases h : x = k
  · simp [h]
  · simp [h]
theorem nums_look_neg (k : Str) : ∀ (i : Nat) (ts : List Str), kdpLook (nums i ts) k (-1) < 0 → (nums i ts).any (fun p => decide (p.1 = k)) = false
  | _, [], _ => rfl
  | i, x :: r, h => by
    rw [nums, look_cons] at h
    rw [nums, List.any_cons]
    by_cases e : x = k
    · rw [if_pos e] at h; omega
    · rw [if_neg e] at h
      rw [nums_look_neg k (i + 1) r h]
      simp [e]
theorem nums_look_new (k : Str) : ∀ (i : Nat) (ts : List Str), kdpLook (nums i ts) k (-1) < 0 → kdpLook (nums i (ts ++ [k])) k (-1) = ((i + ts.length : Nat) : Int)
  | i, [], _ => by rw [List.nil_append, nums, look_cons, if_pos rfl]; rfl
  | i, x :: r, h => by
    rw [nums, look_cons] at h
    by_cases e : x = k
    · rw [if_pos e] at h; omega
    · rw [if_neg e] at h
      rw [List.cons_append, nums, look_cons, if_neg e, nums_look_new k (i + 1) r h, List.length_cons]
      congr 1
      omega
/-- the text's number, -1: none -/
def tno (ts : List Str) (x : Str) : Int := kdpLook (nums 0 ts) x (-1)
def sput (ts : List Str) (x : Str) : List Str := if 0 ≤ tno ts x then ts else ts ++ [x]
theorem nums_put {ts : List Str} {x : Str} (h : tno ts x < 0) : kdpPut (nums 0 ts) x (ts.length : Int) = nums 0 (ts ++ [x]) := by
  unfold kdpPut
  rw [nums_look_neg x 0 ts h, if_neg (by simp), nums_snoc, Nat.zero_add]
theorem strs_snoc {x : Str} {t : Tok} : ∀ {vs : List Value} {ts : List Str}, StrsAre vs ts → StrsAre (vs ++ [.str x t]) (ts ++ [x])
  | _, _, .nil => .cons x t .nil
  | _, _, .cons z u r => .cons z u (strs_snoc r)
theorem strs_len : ∀ {vs : List Value} {ts : List Str}, StrsAre vs ts → vs.length = ts.length
  | _, _, .nil => rfl
  | _, _, .cons _ _ r => congrArg (· + 1) (strs_len r)

/-- the texts and their numbers -/
def AtomObj (w : World) (oT oA : Obj) (ts : List Str) : Prop :=
  ∃ (vs : List Value) (e : Nat) (kvs : List (Str × Value)), oT = listOf vs.toArray e ∧ StrsAre vs ts ∧ oA.IsDictOf (strKind PySem.Challenge.rw_sa0142_01.row.prog w) kvs ∧ PyProof.V.FlatPairs PyData.str kvs (kdpD (nums 0 ts))
abbrev bookDict (w : World) (t1 t2 t3 t4 : Tok) (T AN Fs FN : Addr) : Obj :=
  dictOf [⟨PyData.keyHash w.params (Str.ofString "texts"), .str (Str.ofString "texts") t1, .ref T⟩, ⟨PyData.keyHash w.params (Str.ofString "atom_numbers"), .str (Str.ofString "atom_numbers") t2, .ref AN⟩,
    ⟨PyData.keyHash w.params (Str.ofString "functors"), .str (Str.ofString "functors") t3, .ref Fs⟩, ⟨PyData.keyHash w.params (Str.ofString "functor_numbers"), .str (Str.ofString "functor_numbers") t4, .ref FN⟩] 4

section
variable {w : World} {vs : List Value} {e : Nat} {kvs : List (Str × Value)} {oA : Obj} {ts : List Str} {tx : Str} {t : Tok}
theorem atom_old (hs : StrsAre vs ts) (hd : oA.IsDictOf (strKind PySem.Challenge.rw_sa0142_01.row.prog w) kvs) (hf : PyProof.V.FlatPairs PyData.str kvs (kdpD (nums 0 ts))) (h : 0 ≤ kdpLook (nums 0 ts) tx (-1)) : AtomObj w (listOf vs.toArray e) oA (sput ts tx) := by
  unfold sput tno; rw [if_pos h]; exact ⟨vs, e, kvs, rfl, hs, hd, hf⟩
theorem val_old (h : 0 ≤ kdpLook (nums 0 ts) tx (-1)) : ∃ t', Value.int (kdpLook (nums 0 ts) tx (-1)) t = .int (tno (sput ts tx) tx) t' := by
  unfold sput tno; rw [if_pos h]; exact ⟨t, rfl⟩
theorem atom_new (hs : StrsAre vs ts) (hd : oA.IsDictOf (strKind PySem.Challenge.rw_sa0142_01.row.prog w) kvs) (hf : PyProof.V.FlatPairs PyData.str kvs (kdpD (kdpPut (nums 0 ts) tx (ts.length : Int)))) (h : ¬ 0 ≤ kdpLook (nums 0 ts) tx (-1)) : AtomObj w (listOf (vs.toArray.push (.str tx t)) e) oA (sput ts tx) := by
  have hn : tno ts tx < 0 := Int.not_le.mp h
  unfold sput
  rw [if_neg (by unfold tno; exact h)]
  rw [nums_put hn] at hf
  refine ⟨vs ++ [.str tx t], e, kvs, ?_, strs_snoc hs, hd, hf⟩
  rw [List.push_toArray]
theorem val_new (h : ¬ 0 ≤ kdpLook (nums 0 ts) tx (-1)) : ∃ t', Value.int (ts.length : Int) t = .int (tno (sput ts tx) tx) t' := by
  have hn : kdpLook (nums 0 ts) tx (-1) < 0 := Int.not_le.mp h
  unfold sput
  rw [if_neg (by unfold tno; exact h)]
  unfold tno
  rw [nums_look_new tx 0 ts hn, Nat.zero_add]
  exact ⟨t, rfl⟩
end
def AtomSpec : Prop := ∀ {w : World} {x dx T AN Fs FN : Addr} {t1 t2 t3 t4 : Tok} {tx : Str} {t : Tok} {oT oA : Obj} {ts : List Str} {news : List (Addr × Obj)}
    (_ : (x, instObj 157 dx) ∈ news) (_ : (dx, bookDict w t1 t2 t3 t4 T AN Fs FN) ∈ news) (_ : AtomObj w oT oA ts) (_ : ts.length ≤ 100) (_ : (AN == sysModules) = false) (_ : @Ne Nat T AN) (_ : Off T news) (_ : Off AN news),
    Tri (Mine.hd.heap_1 w.params) w 91 1 [.ref x, .str tx t] ((T, oT) :: (AN, oA) :: news)
      (fun r news' => (∃ oT' oA', AtomObj w oT' oA' (sput ts tx) ∧ news' = (T, oT') :: (AN, oA') :: news) ∧ ∃ t', r = .int (tno (sput ts tx) tx) t')


theorem said12 : True := by
  k_with "my k_mem9" => first | exact List.Mem.head _ | assumption | (refine' List.Mem.tail _ ?_; k_mem) | (refine' List.mem_append.mpr (Or.inl ?_); k_mem) | (refine' List.mem_append.mpr (Or.inr ?_); k_mem) | fail "9"
  k_with "my k_all9" => exact Off.all (by assumption)
  trivial
set_option maxHeartbeats 8000000 in
theorem atom_spec : AtomSpec := by
  intro w x dx T AN Fs FN t1 t2 t3 t4 tx t oT oA ts news mx md ho hl lo hne oT1 oA1
  obtain ⟨vs, e, kvs, rfl, hs, hdd, hff⟩ := ho
  have hnl : (nums 0 ts).length ≤ 100 := by rw [nums_len]; exact hl
  unfold Tri
  k_fill
  intro loose mean mg mb dp un gd cn cs a ccd cl outer A₀ base h₀ L m s Q E B F X N T hk hd hu hret
  refine wpAny_call ?_
  k_dflt ktr_enter
  k_steps
  skip
  all_goals (first | exact hret _ _ _ _ (by k_asm) (by k_asm) ⟨⟨_, _, atom_old (by assumption) (by assumption) (by assumption) (by assumption), rfl⟩, val_old (by assumption)⟩ | exact hret _ _ _ _ (by k_asm) (by k_asm) ⟨⟨_, _, atom_new (by assumption) (by assumption) (by assumption) (by assumption), rfl⟩, val_new (by assumption)⟩)
end
section
abbrev thePr : Program := PySem.Challenge.rw_sa0142_01.row.prog
abbrev kI (w : World) : KeyKind thePr w Int := intKind thePr w
abbrev enc2 (k : Int × Int) : PyData := encTuple PyData.int [k.1, k.2]
def gD : Nat → List (Int × Int) → List (PyData × PyData)
  | _, [] => []
  | i, k :: r => (enc2 k, .int (i : Int)) :: gD (i + 1) r
def gno : Nat → List (Int × Int) → Int × Int → Int
  | _, [], _ => -1
  | i, g :: r, k => if g = k then (i : Int) else gno (i + 1) r k
def gput (gs : List (Int × Int)) (k : Int × Int) : List (Int × Int) := if 0 ≤ gno 0 gs k then gs else gs ++ [k]
theorem said13 : True := by
  k_with_none
  k_with "my ltc" => first | exact j0 (by assumption) | exact j1 (by assumption) | exact j2 (by assumption) | exact j3 (by assumption) | exact j4 (by assumption) | exact j5 (by assumption) | exact j6 (by assumption) | exact j7 (by assumption) | exact j8 (by assumption) | exact j9 (by assumption) | exact j10 (by assumption) | fail "9"
  k_with "my trc0" => first | assumption | k_extra "my ltc" | fail "9"
  k_with "my trc" => first | exact t0 (by k_extra "my trc0") | exact t1 (by k_extra "my trc0") | exact t2 (by k_extra "my trc0") | fail "9"
  k_with "my k_ne9" => (refine neN ?_; (try dsimp only); first | assumption | exact Ne.symm (by assumption) | (refine Nat.ne_of_lt ?_; k_extra "my ltc") | (refine Nat.ne_of_gt ?_; k_extra "my ltc") | k_extra "my trc" | (refine Ne.symm ?_; k_extra "my trc") | fail "9")
  k_with "my le9" => first | exact Nat.le_refl _ | exact Nat.le_of_ble_eq_true rfl | exact Nat.succ_le_succ (Nat.zero_le _) | assumption | exact Nat.succ_le_succ (Nat.le_max_left _ _) | exact Nat.succ_le_succ (Nat.le_max_right _ _) | exact Nat.succ_le_succ (Nat.succ_le_succ (Nat.zero_le _)) | exact Nat.succ_le_succ (Nat.succ_le_succ (Nat.le_max_left _ _)) | exact Nat.succ_le_succ (Nat.succ_le_succ (Nat.le_max_right _ _)) | exact Nat.succ_le_succ (Nat.succ_le_succ (Nat.succ_le_succ (Nat.le_max_left _ _))) | exact Nat.succ_le_succ (Nat.succ_le_succ (Nat.succ_le_succ (Nat.le_max_right _ _))) | fail "9"
  k_with "my ktr_room9" => first | exact room0 (by assumption) | exact room1 (by assumption) (by k_extra "my le9") | exact room2 (by assumption) (by k_extra "my le9") | fail "9"
  k_with "my ktr_units9" => first | exact units1 (by assumption) (by k_extra "my le9") | exact units2 (by assumption) (by k_extra "my le9") | fail "9"
  k_with "my pick9" => (repeat (first | exact Pick.head | apply Pick.tail))
  k_with "my sb9" => (intro p hp; simp only [List.mem_append, List.mem_cons, hp, true_or, or_true])
  k_with "my hk9" => first | exact rfl | assumption | fail "9"
  k_with "my hd9" => first | exact Nat.le_of_ble_eq_true rfl | ktr_room | ((try simp only [depth_deeper, depth_under_make]); (try dsimp only [ktrTop]); first | ktr_room | omega) | fail "9"
  k_with "my hu9" => first | exact Nat.le_of_ble_eq_true rfl | ktr_units | ((try simp only [units_deeper, units_under_make]); (try dsimp only [ktrTop]); first | ktr_units | omega) | fail "9"
  k_with "my norm9" => ((rename News _ _ _ _ => nN9); (try simp only [List.nil_append, List.cons_append, List.append_nil] at nN9))
  k_with "my norm8" => ((rename News _ _ _ _ => nN9); (try simp only [List.nil_append, List.cons_append, List.append_nil, List.append_assoc] at nN9))
  k_with "my end9" => ((try k_sweep); (try dsimp only); (try k_fold))
  trivial
theorem gD_len : ∀ (i : Nat) (gs : List (Int × Int)), (gD i gs).length = gs.length
  | _, [] => rfl
  | i, _ :: r => by rw [gD, List.length_cons, gD_len (i + 1) r, List.length_cons]
theorem same_enc2 (k j : Int × Int) : same (enc2 k) (enc2 j) = decide (k = j) := by
  rw [same_encTuple PyProof.V.same_int]
  by_cases h : k = j
  · subst h; simp
  · have : ¬ [k.1, k.2] = [j.1, j.2] := by
      intro e
      simp only [List.cons.injEq, and_true] at e
      exact h (Prod.ext e.1 e.2)
    simp [h, this]
theorem gD_look (k : Int × Int) : ∀ (i : Nat) (gs : List (Int × Int)), (lookup (enc2 k) (gD i gs)).getD (.int (-1)) = .int (gno i gs k)
  | _, [] => rfl
  | i, g :: r => by
    show (if same (enc2 g) (enc2 k) = true then some (PyData.int (i : Int)) else lookup (enc2 k) (gD (i + 1) r)).getD _ = _
    rw [same_enc2, gno]
    by_cases h : g = k
    · simp [h]
    · rw [if_neg (by simp [h]), if_neg h, gD_look k (i + 1) r]
theorem gD_any (k : Int × Int) : ∀ (i : Nat) (gs : List (Int × Int)), gno i gs k < 0 → ((gD i gs).any fun p => same p.1 (enc2 k)) = false
  | _, [], _ => rfl
  | i, g :: r, h => by
    rw [gno] at h
    rw [gD, List.any_cons]
    show (same (enc2 g) (enc2 k) || _) = false
    rw [same_enc2]
    by_cases e : g = k
    · rw [if_pos e] at h; omega
    · rw [if_neg e] at h
      rw [gD_any k (i + 1) r h]; simp [e]
theorem gD_snoc (k : Int × Int) : ∀ (i : Nat) (gs : List (Int × Int)), gD i (gs ++ [k]) = gD i gs ++ [(enc2 k, .int ((i + gs.length : Nat) : Int))]
  | i, [] => by simp [gD]
  | i, g :: r => by
    rw [List.cons_append, gD, gD, gD_snoc k (i + 1) r, List.cons_append, List.length_cons]
    congr 5
    omega
theorem gno_new (k : Int × Int) : ∀ (i : Nat) (gs : List (Int × Int)), gno i gs k < 0 → gno i (gs ++ [k]) k = ((i + gs.length : Nat) : Int)
  | i, [], _ => by rw [List.nil_append, gno, if_pos rfl]; rfl
  | i, g :: r, h => by
    rw [gno] at h
    by_cases e : g = k
    · rw [if_pos e] at h; omega
    · rw [if_neg e] at h
      rw [List.cons_append, gno, if_neg e, gno_new k (i + 1) r h, List.length_cons]
      congr 1
      omega
theorem gD_put {gs : List (Int × Int)} {k : Int × Int} (h : gno 0 gs k < 0) : PyProof.V.putD (enc2 k) (.int (gs.length : Int)) (gD 0 gs) = gD 0 (gs ++ [k]) := by
  unfold PyProof.V.putD
  rw [gD_any k 0 gs h, if_neg (by simp), gD_snoc, Nat.zero_add]

/-- the functors' rows on the ledger -/
inductive Rows (l : List (Addr × Obj)) : List Addr → List (Int × Int) → Prop
  | nil : Rows l [] []
  | cons {b : Addr} {a n : Int} {t u : Tok} {k : Nat} {bs : List Addr} {gs : List (Int × Int)} : (b, ({ cls := .type "tuple", data := .seq #[.int a t, .int n u] k } : Obj)) ∈ l → Rows l bs gs → Rows l (b :: bs) ((a, n) :: gs)
theorem Rows.mono {l l' : List (Addr × Obj)} (hs : ∀ p ∈ l, p ∈ l') : ∀ {bs : List Addr} {gs : List (Int × Int)}, Rows l bs gs → Rows l' bs gs
  | _, _, .nil => .nil
  | _, _, .cons h r => .cons (hs _ h) (r.mono hs)
theorem Rows.len {l : List (Addr × Obj)} : ∀ {bs : List Addr} {gs : List (Int × Int)}, Rows l bs gs → bs.length = gs.length
  | _, _, .nil => rfl
  | _, _, .cons _ r => congrArg (· + 1) r.len
theorem Rows.snoc {l : List (Addr × Obj)} {b : Addr} {a n : Int} {t u : Tok} {k : Nat} (h : (b, ({ cls := .type "tuple", data := .seq #[.int a t, .int n u] k } : Obj)) ∈ l) : ∀ {bs : List Addr} {gs : List (Int × Int)}, Rows l bs gs → Rows l (bs ++ [b]) (gs ++ [(a, n)])
  | _, _, .nil => .cons h .nil
  | _, _, .cons h' r => .cons h' (r.snoc h)
theorem Rows.at {l : List (Addr × Obj)} : ∀ {bs : List Addr} {gs : List (Int × Int)}, Rows l bs gs → ∀ {i : Nat} {a n : Int}, gs[i]? = some (a, n) → ∃ b t u k, bs[i]? = some b ∧ (b, ({ cls := .type "tuple", data := .seq #[.int a t, .int n u] k } : Obj)) ∈ l
  | _, _, .nil, i, _, _, e => by simp at e
  | _, _, .cons (b := b) (t := t) (u := u) (k := k) h r, i, a, n, e => by
    cases i with
    | zero =>
      simp only [List.getElem?_cons_zero, Option.some.injEq, Prod.mk.injEq] at e
      obtain ⟨rfl, rfl⟩ := e
      exact ⟨b, t, u, k, rfl, h⟩
    | succ i =>
      simp only [List.getElem?_cons_succ] at e
      obtain ⟨b', t', u', k', e', m⟩ := r.at e
      exact ⟨b', t', u', k', by simpa using e', m⟩

def FunD (w : World) (l : List (Addr × Obj)) (oN : Obj) (D : List (PyData × PyData)) : Prop :=
  ∃ es ep xs, oN.ExactDict ∧ oN.data = .dict es ep ∧ es.toList = xs.map (entryOfKey (tupleKind (kI w))) ∧ (xs.map (·.1)).Nodup ∧
    (∀ x ∈ xs, ∃ ok, (x.2.1, ok) ∈ l ∧ TupKeyObj (kI w) x.1 ok) ∧ PyProof.V.FlatPairs (encTuple PyData.int) (kvsOf xs) D
theorem FunD.mono {w : World} {l l' : List (Addr × Obj)} {oN : Obj} {D : List (PyData × PyData)} (h : FunD w l oN D) (hs : ∀ p ∈ l, p ∈ l') : FunD w l' oN D := by
  obtain ⟨es, ep, xs, h1, h2, h3, h4, h5, h6⟩ := h
  exact ⟨es, ep, xs, h1, h2, h3, h4, (fun x hx => let ⟨ok, m, t⟩ := h5 x hx; ⟨ok, hs _ m, t⟩), h6⟩
theorem FunD.tab {w : World} {l news : List (Addr × Obj)} {FN : Addr} {oN : Obj} {D : List (PyData × PyData)} (h : FunD w l oN D) (hs : ∀ p ∈ l, p ∈ news) (hm : (FN, oN) ∈ news) (lo : (FN == sysModules) = false) : TupTab (kI w) PyData.int news FN D := by
  obtain ⟨es, ep, xs, h1, h2, h3, h4, h5, h6⟩ := h
  exact ⟨lo, oN, es, ep, xs, hm, h1, h2, h3, h4, (fun x hx => let ⟨ok, m, t⟩ := h5 x hx; ⟨ok, hs _ m, t⟩), h6⟩
theorem key2 {w : World} {a n : Int} {t u : Tok} {k : Nat} : TupKeyObj (kI w) [a, n] ({ cls := .type "tuple", data := .seq #[.int a t, .int n u] k } : Obj) :=
  ⟨rfl, _, _, rfl, .cons (by simp [intKind, Value.isInt]) (.cons (by simp [intKind, Value.isInt]) .nil)⟩

section
variable {w : World} {A : Around} {E : Value → Shared → Prop} {s : Shared} {h₀ : Heap} {L FN b : Addr} {m : Str → Option Value} {news l : List (Addr × Obj)} {oN : Obj} {gs : List (Int × Int)} {a n v : Int} {t u tv : Tok} {k : Nat}
theorem fun_meth {pl : Sem Bool} {Q : Value × List Value → Shared → Prop} (N : News h₀ L s.heap news) (hd : FunD w l oN (gD 0 gs)) (hs : ∀ p ∈ l, p ∈ news) (hm : (FN, oN) ∈ news) (lo : (FN == sysModules) = false) (h : Q (.builtin "dict.get", [.ref FN]) s) :
    wpAny (model thePr w) A (getMethod (.ref FN) (Str.ofString "get") pl) Q E s := getMethod_tupTab_get N (hd.tab hs hm lo) h
theorem fun_get {Q : Value → Shared → Prop} (hu : A.units + 1 < cLine) (N : News h₀ L s.heap news) (hd : FunD w l oN (gD 0 gs)) (hs : ∀ p ∈ l, p ∈ news) (hm : (FN, oN) ∈ news) (lo : (FN == sysModules) = false)
    (hk : (b, ({ cls := .type "tuple", data := .seq #[.int a t, .int n u] k } : Obj)) ∈ news) (h : ∀ t' tk, Q (.int (gno 0 gs (a, n)) t') { s with toks := tk }) :
    wpAny (model thePr w) A (call (.builtin "dict.get") [.ref FN, .ref b, .int (-1) tv]) Q E s :=
  call_get2_tupTab PyProof.V.same_int hu N (hd.tab hs hm lo) hk key2 (PyProof.V.Flat.int _ _) fun v hv => by
    have e : (lookup (encTuple PyData.int [a, n]) (gD 0 gs)).getD (.int (-1)) = .int (gno 0 gs (a, n)) := gD_look (a, n) 0 gs
    rw [e] at hv
    obtain ⟨t', rfl⟩ := PyProof.V.Flat.int_inv hv
    exact h t' _
theorem fun_set {g : Obj → List (Addr × Obj)} {Q : Unit → Shared → Prop} (hu : A.units + 1 < cLine) (F : Fr h₀ L s.heap m) (N : News h₀ L s.heap news) (U : UpdF FN oN news g) (hd : FunD w l oN (gD 0 gs)) (hs : ∀ p ∈ l, p ∈ news)
    (hk : (b, ({ cls := .type "tuple", data := .seq #[.int a t, .int n u] k } : Obj)) ∈ news) (hz : gs.length ≤ 1000)
    (h : ∀ h' o' l' tk, Fr h₀ L h' m → News h₀ L h' (g o') → l' = (b, ({ cls := .type "tuple", data := .seq #[.int a t, .int n u] k } : Obj)) :: l → FunD w l' o' (PyProof.V.putD (enc2 (a, n)) (.int v) (gD 0 gs)) → Q () { s with heap := h', toks := tk }) :
    wpAny (model thePr w) A (setItem (.ref FN) (.ref b) (.int v tv)) Q E s := by
  obtain ⟨pre, post, e0, hg, x1, x2⟩ := U.split
  obtain ⟨es, ep, xs, h1, h2, h3, h4, h5, h6⟩ := hd
  have hm : (FN, oN) ∈ news := by rw [e0]; exact List.mem_append.mpr (.inr (.head _))
  have hD : s.heap.DictOfH (tupleKind (kI w)) FN xs := ⟨oN, es, ep, N.get hm, h1, h2, h3, fun x hx => let ⟨_, hmk, t⟩ := h5 x hx; t.key (N.get (hs _ hmk)), h4⟩
  have hxs : xs.length ≤ sizeLine := by
    have e := h6.length
    rw [gD_len] at e
    simp only [kvsOf, List.length_map] at e
    rw [sizeLine_eq]
    omega
  refine wpAny_setItem_heap (hsz := hxs) (knd := tupleKind (kI w)) (tupleKind_room_in1 hu) ((key2 (w := w)).key (N.get hk)) hD fun h' hm' hsb => ?_
  obtain ⟨o', es', ep', ho', hc', hd', he', _, hn'⟩ := hm'
  have N2 : News h₀ L h' (g o') := by
    rw [hg]
    rw [e0] at N
    exact news_set N x1 x2 hsb ho'
  refine h h' o' _ _ (F.change hsb (N _ hm).2.1 (N _ hm).2.2) N2 rfl ⟨es', ep', storedH xs [a, n] b (.int v tv), hc', hd', he', hn', fun x hx => ?_, ?_⟩
  · rcases mem_storedH hx with ⟨y, hy, e1, e2⟩ | ⟨e1, e2⟩
    · obtain ⟨oky, hmk, ty⟩ := h5 y hy
      exact ⟨oky, by rw [e2]; exact .tail _ hmk, by rw [e1]; exact ty⟩
    · exact ⟨_, by rw [e2]; exact .head _, by rw [e1]; exact key2⟩
  · rw [kvsOf_storedH]; exact h6.stored (same_encTuple PyProof.V.same_int) [a, n] (PyProof.V.Flat.int v tv)
end

theorem len_refs {w : World} {A : Around} {E : Value → Shared → Prop} {s : Shared} {h₀ : Heap} {L D : Addr} {news : List (Addr × Obj)} {bs : List Addr} {gs : List (Int × Int)} {e : Nat} {Q : Value → Shared → Prop} (N : News h₀ L s.heap news) (hm : (D, listOf (bs.map Value.ref).toArray e) ∈ news) (hb : bs.length = gs.length) (hz : gs.length ≤ 1000)
    (h : ∀ t tk, Q (.int (gs.length : Int) t) { s with toks := tk }) : wpAny (model thePr w) A (call (.builtin "len") [.ref D]) Q E s :=
  len_list (News.isList N hm) (by rw [List.size_toArray, List.length_map, hb]; omega) (by rw [List.size_toArray, List.length_map, hb]; exact h _ _)

def FunObj (w : World) (l : List (Addr × Obj)) (oF oN : Obj) (gs : List (Int × Int)) : Prop :=
  ∃ (bs : List Addr) (e : Nat), oF = listOf (bs.map Value.ref).toArray e ∧ Rows l bs gs ∧ FunD w l oN (gD 0 gs)
theorem FunObj.mono {w : World} {l l' : List (Addr × Obj)} {oF oN : Obj} {gs : List (Int × Int)} (h : FunObj w l oF oN gs) (hs : ∀ p ∈ l, p ∈ l') : FunObj w l' oF oN gs := by
  obtain ⟨bs, e, h1, h2, h3⟩ := h
  exact ⟨bs, e, h1, h2.mono hs, h3.mono hs⟩

section
variable {w : World} {h₀ h : Heap} {L Fs FN D : Addr} {m : Str → Option Value} {core news lf : List (Addr × Obj)} {s : Shared} {Q : Value → Shared → Prop} {tk : Nat} {bs : List Addr} {e : Nat} {oN : Obj} {gs : List (Int × Int)} {a n : Int} {t ta tn : Tok} {k : Nat}
abbrev FunRet (w : World) (h₀ : Heap) (L : Addr) (m : Str → Option Value) (Fs FN : Addr) (core news : List (Addr × Obj)) (s : Shared) (Q : Value → Shared → Prop) (gs' : List (Int × Int)) (r : Int) : Prop :=
  ∀ v news' h' tk', Fr h₀ L h' m → News h₀ L h' news' → ((∃ oF' oN' tl, FunObj w (core ++ tl) oF' oN' gs' ∧ Tups tl ∧ Fresh news tl ∧ news' = (Fs, oF') :: (FN, oN') :: (news ++ tl)) ∧ ∃ t', v = .int r t') → Q v { s with heap := h', toks := tk' }
theorem news_sub {oF : Obj} {tl : List (Addr × Obj)} (N : News h₀ L h lf) (m1 : (Fs, oF) ∈ lf) (m2 : (FN, oN) ∈ lf) (m3 : ∀ p ∈ news, p ∈ lf) (m4 : ∀ p ∈ tl, p ∈ lf) : News h₀ L h ((Fs, oF) :: (FN, oN) :: (news ++ tl)) := fun q hq => N q (by
    rcases List.mem_cons.mp hq with rfl | hq
    · exact m1
    · rcases List.mem_cons.mp hq with rfl | hq
      · exact m2
      · exact (List.mem_append.mp hq).elim (m3 q) (m4 q))
theorem fun_fin1 (hret : FunRet w h₀ L m Fs FN core news s Q (gput gs (a, n)) (gno 0 (gput gs (a, n)) (a, n))) (F : Fr h₀ L h m) (N : News h₀ L h lf) (m1 : (Fs, listOf (bs.map Value.ref).toArray e) ∈ lf) (m2 : (FN, oN) ∈ lf) (m3 : ∀ p ∈ news, p ∈ lf)
    (hr : Rows core bs gs) (hd : FunD w core oN (gD 0 gs)) (h0 : 0 ≤ gno 0 gs (a, n)) : Q (.int (gno 0 gs (a, n)) t) { s with heap := h, toks := tk } := by
  have e0 : gput gs (a, n) = gs := by unfold gput; rw [if_pos h0]
  rw [e0] at hret
  exact hret _ _ h tk F (news_sub (tl := []) N m1 m2 m3 (fun _ h => nomatch h)) ⟨⟨_, _, [], ⟨bs, e, rfl, hr.mono (fun _ h => List.mem_append.mpr (.inl h)), hd.mono (fun _ h => List.mem_append.mpr (.inl h))⟩, Tups.nil, Fresh.nil, rfl⟩, t, rfl⟩
theorem fun_fin2 {l9 : List (Addr × Obj)} (hret : FunRet w h₀ L m Fs FN core news s Q (gput gs (a, n)) (gno 0 (gput gs (a, n)) (a, n))) (F : Fr h₀ L h m) (N : News h₀ L h lf) (m1 : (Fs, listOf ((bs.map Value.ref).toArray.push (.ref D)) e) ∈ lf) (m2 : (FN, oN) ∈ lf) (m3 : ∀ p ∈ news, p ∈ lf)
    (hr : Rows core bs gs) (mD : (D, ({ cls := .type "tuple", data := .seq #[.int a ta, .int n tn] k } : Obj)) ∈ lf) (fD : ∀ q ∈ news, @LT.lt Nat _ q.1 D) (e9 : l9 = (D, ({ cls := .type "tuple", data := .seq #[.int a ta, .int n tn] k } : Obj)) :: core) (hd : FunD w l9 oN (PyProof.V.putD (enc2 (a, n)) (.int (gs.length : Int)) (gD 0 gs)))
    (h0 : ¬ 0 ≤ gno 0 gs (a, n)) : Q (.int (gs.length : Int) t) { s with heap := h, toks := tk } := by
  have hn : gno 0 gs (a, n) < 0 := Int.not_le.mp h0
  have e0 : gput gs (a, n) = gs ++ [(a, n)] := by unfold gput; rw [if_neg h0]
  rw [e0, gno_new (a, n) 0 gs hn, Nat.zero_add] at hret
  rw [gD_put hn] at hd
  have sub : ∀ p ∈ l9, p ∈ core ++ [(D, ({ cls := .type "tuple", data := .seq #[.int a ta, .int n tn] k } : Obj))] := fun p hp => by
    rw [e9] at hp
    rcases List.mem_cons.mp hp with rfl | hp
    · exact List.mem_append.mpr (.inr (.head _))
    · exact List.mem_append.mpr (.inl hp)
  refine hret _ _ h tk F (news_sub (tl := [_]) N m1 m2 m3 (List.forall_mem_cons.mpr ⟨mD, List.forall_mem_nil _⟩)) ⟨⟨_, _, [_], ⟨bs ++ [D], e, ?_, (hr.mono (fun _ h => List.mem_append.mpr (.inl h))).snoc (List.mem_append.mpr (.inr (.head _))), hd.mono sub⟩, Tups.cons Tups.nil, Fresh.cons fD Fresh.nil, rfl⟩, t, rfl⟩
  rw [List.push_toArray, List.map_append]; rfl
end
def FunctorSpec : Prop := ∀ {w : World} {x dx T AN Fs FN : Addr} {t1 t2 t3 t4 : Tok} {a n : Int} {ta tn : Tok} {oF oN : Obj} {gs : List (Int × Int)} {core news : List (Addr × Obj)} (_ : Sub core news)
    (_ : (x, instObj 157 dx) ∈ news) (_ : (dx, bookDict w t1 t2 t3 t4 T AN Fs FN) ∈ news) (_ : FunObj w core oF oN gs) (_ : gs.length ≤ 100) (_ : (FN == sysModules) = false) (_ : @Ne Nat Fs FN) (_ : Off Fs news) (_ : Off FN news),
    Tri (Mine.hd.heap_1 w.params) w 105 1 [.ref x, .int a ta, .int n tn] ((Fs, oF) :: (FN, oN) :: news)
      (fun r news' => (∃ oF' oN' tl, FunObj w (core ++ tl) oF' oN' (gput gs (a, n)) ∧ Tups tl ∧ Fresh news tl ∧ news' = (Fs, oF') :: (FN, oN') :: (news ++ tl)) ∧ ∃ t', r = .int (gno 0 (gput gs (a, n)) (a, n)) t')


theorem said14 : True := by
  k_with "my k_mem9" => first | exact List.Mem.head _ | assumption | (refine' List.Mem.tail _ ?_; k_mem) | (refine' List.mem_append.mpr (Or.inl ?_); k_mem) | (refine' List.mem_append.mpr (Or.inr ?_); k_mem) | fail "9"
  k_with "my myfresh" => first | exact Fresh.nil | (refine Fresh.cons ?_ ?_ <;> k_extra "my myfresh") | (refine Fresh.app ?_ ?_ <;> k_extra "my myfresh") | exact Fresh.sub (by assumption) (by k_extra "my sb9") | exact lt_sub (by assumption) (by k_extra "my sb9") | exact tb_ltOf (by tbn_find) | exact lt_sub (tb_ltOf (by tbn_find)) (fun _ h => List.mem_append.mpr (.inl h)) | exact lt_sub (tb_ltOf (by tbn_find)) (fun _ h => List.mem_append.mpr (.inl (List.mem_append.mpr (.inl h)))) | fail "9"
  k_with "my k_all9" => exact Off.all (by assumption)
  k_with "my getMethod ref" => (k_here; (with_reducible show wpAny _ _ (getMethod (Value.ref _) (PySem.Str.ofString "get") _) _ _ _); k_dflt (refine' fun_meth (by k_asm) (by assumption) (by exact (fun p hp => by have hp := Sub.of (by assumption) p hp; simp only [List.mem_append, List.mem_cons, hp, true_or, or_true])) (by k_mem) (by assumption) ?_; k_whole))
  k_with "my call builtin:dict.get" => (k_here; (with_reducible show wpAny _ _ (call (Value.builtin "dict.get") [Value.ref _, Value.ref _, Value.int _ _]) _ _ _); k_dflt (refine' fun_get (by ktr_units) (by k_asm) (by assumption) (by exact (fun p hp => by have hp := Sub.of (by assumption) p hp; simp only [List.mem_append, List.mem_cons, hp, true_or, or_true])) (by k_mem) (by assumption) (by k_mem) ?_; k_whole; intros))
  k_with "my setItem ref ref" => (k_here; (with_reducible show wpAny _ _ (setItem (Value.ref _) (Value.ref _) (Value.int _ _)) _ _ _); k_dflt (refine' fun_set (by ktr_units) (by k_asm) (by k_asm) (by k_updF) (by assumption) (by exact (fun p hp => by have hp := Sub.of (by assumption) p hp; simp only [List.mem_append, List.mem_cons, hp, true_or, or_true])) (by k_mem) (by omega) ?_; k_whole; intro _ _ _ _ _ N'; intros; (try dsimp only at N'); (try k_sweep)))
  k_with "my call builtin:len" => (k_here; (with_reducible show wpAny _ _ (call (Value.builtin "len") [Value.ref _]) _ _ _); k_dflt (refine' len_refs (by k_asm) (by k_mem) (by assumption) (by omega) ?_; k_whole; intros))
  trivial
set_option maxHeartbeats 8000000 in
theorem functor_spec : FunctorSpec := by
  intro w x dx T AN Fs FN t1 t2 t3 t4 a0 n0 ta tn oF oN gs core news hcore mx md ho hl lo hne oF1 oN1
  obtain ⟨bs, e, rfl, hr, hdd⟩ := ho
  have hbl : bs.length = gs.length := hr.len
  unfold Tri
  k_fill
  intro loose mean mg mb dp un gd cn cs a ccd cl outer A₀ base h₀ L m s Q E B F X N T hk hd hu hret
  refine wpAny_call ?_
  k_dflt ktr_enter
  k_steps
  skip
  all_goals (first
    | exact fun_fin1 hret (by k_asm) (by k_asm) (by k_mem) (by k_mem) (by k_extra "my sb9") (by assumption) (by assumption) (by assumption)
    | exact fun_fin2 hret (by k_asm) (by k_asm) (by k_mem) (by k_mem) (by k_extra "my sb9") (by assumption) (by k_mem) (by k_extra "my myfresh") (by assumption) (by assumption) (by assumption))
end
section
theorem said15 : True := by
  k_with_none
  k_with "my ltc" => first | exact j0 (by assumption) | exact j1 (by assumption) | exact j2 (by assumption) | exact j3 (by assumption) | exact j4 (by assumption) | exact j5 (by assumption) | exact j6 (by assumption) | exact j7 (by assumption) | exact j8 (by assumption) | exact j9 (by assumption) | exact j10 (by assumption) | fail "9"
  k_with "my trc0" => first | assumption | k_extra "my ltc" | fail "9"
  k_with "my trc" => first | exact t0 (by k_extra "my trc0") | exact t1 (by k_extra "my trc0") | exact t2 (by k_extra "my trc0") | fail "9"
  k_with "my k_ne9" => (refine neN ?_; (try dsimp only); first | assumption | exact Ne.symm (by assumption) | (refine Nat.ne_of_lt ?_; k_extra "my ltc") | (refine Nat.ne_of_gt ?_; k_extra "my ltc") | k_extra "my trc" | (refine Ne.symm ?_; k_extra "my trc") | fail "9")
  k_with "my le9" => first | exact Nat.le_refl _ | exact Nat.le_of_ble_eq_true rfl | exact Nat.succ_le_succ (Nat.zero_le _) | assumption | exact Nat.succ_le_succ (Nat.le_max_left _ _) | exact Nat.succ_le_succ (Nat.le_max_right _ _) | exact Nat.succ_le_succ (Nat.succ_le_succ (Nat.zero_le _)) | exact Nat.succ_le_succ (Nat.succ_le_succ (Nat.le_max_left _ _)) | exact Nat.succ_le_succ (Nat.succ_le_succ (Nat.le_max_right _ _)) | exact Nat.succ_le_succ (Nat.succ_le_succ (Nat.succ_le_succ (Nat.le_max_left _ _))) | exact Nat.succ_le_succ (Nat.succ_le_succ (Nat.succ_le_succ (Nat.le_max_right _ _))) | fail "9"
  k_with "my ktr_room9" => first | exact room0 (by assumption) | exact room1 (by assumption) (by k_extra "my le9") | exact room2 (by assumption) (by k_extra "my le9") | fail "9"
  k_with "my ktr_units9" => first | exact units1 (by assumption) (by k_extra "my le9") | exact units2 (by assumption) (by k_extra "my le9") | fail "9"
  k_with "my pick9" => (repeat (first | exact Pick.head | apply Pick.tail))
  k_with "my sb9" => (intro p hp; simp only [List.mem_append, List.mem_cons, hp, true_or, or_true])
  k_with "my hk9" => first | exact rfl | assumption | fail "9"
  k_with "my hd9" => first | exact Nat.le_of_ble_eq_true rfl | ktr_room | ((try simp only [depth_deeper, depth_under_make]); (try dsimp only [ktrTop]); first | ktr_room | omega) | fail "9"
  k_with "my hu9" => first | exact Nat.le_of_ble_eq_true rfl | ktr_units | ((try simp only [units_deeper, units_under_make]); (try dsimp only [ktrTop]); first | ktr_units | omega) | fail "9"
  k_with "my norm9" => ((rename News _ _ _ _ => nN9); (try simp only [List.nil_append, List.cons_append, List.append_nil] at nN9))
  k_with "my norm8" => ((rename News _ _ _ _ => nN9); (try simp only [List.nil_append, List.cons_append, List.append_nil, List.append_assoc] at nN9))
  k_with "my end9" => ((try k_sweep); (try dsimp only); (try k_fold))
  trivial
theorem atom_use {w : World} {loose : List Str} {mean : ExcName → Option Value} {mg mb : Str → Option Value} {dp un : Nat} {gd : Option (List Code)} {cn : Str} {cs : Scope} {a : Addr} {ccd : Value} {cl : List (Str × Addr)} {outer : List Env} {A₀ : Around} {base h₀ : Heap} {L : Addr} {m : Str → Option Value} {s : Shared} {Q E : Value → Shared → Prop}
    {x dx Tt AN Fs FN : Addr} {t1 t2 t3 t4 : Tok} {tx : Str} {t : Tok} {oT oA : Obj} {ts : List Str} {news0 l1 l2 : List (Addr × Obj)}
    (B : Below A₀ base outer h₀) (F : Fr h₀ L s.heap m) (X : (Mine.hd.heap_1 w.params).In h₀) (N : News h₀ L s.heap news0) (T : Top Mine.hd.view_1 loose mean mg mb h₀) (hk : cs.kind = .function) (_ : (x, instObj 157 dx) ∈ news0) (_ : (dx, bookDict w t1 t2 t3 t4 Tt AN Fs FN) ∈ news0) (p1 : Pick Tt oT news0 l1) (p2 : Pick AN oA l1 l2) (mx : (x, instObj 157 dx) ∈ l2) (md : (dx, bookDict w t1 t2 t3 t4 Tt AN Fs FN) ∈ l2) (ho : AtomObj w oT oA ts) (hl : ts.length ≤ 100) (lo : (AN == sysModules) = false) (hne : @Ne Nat Tt AN)
    (oT1 : ∀ p ∈ l2, p.1 ≠ Tt) (oA1 : ∀ p ∈ l2, p.1 ≠ AN) (hd : dp + 1 < recursionLimit) (hu : un + 8 * 1 + 64 < cLine)
    (ret : ∀ oT' oA' h' tk' t', AtomObj w oT' oA' (sput ts tx) → Fr h₀ L h' m → News h₀ L h' ((Tt, oT') :: (AN, oA') :: l2) → Q (.int (tno (sput ts tx) tx) t') { s with heap := h', toks := tk' }) :
    wpAny (model PySem.Challenge.rw_sa0142_01.row.prog w) (ktrTop dp un gd cn cs L a ccd cl outer) (call (.ref 91) [.ref x, .str tx t]) Q E s :=
  tri_use B F X N T hk (atom_spec mx md ho hl lo hne oT1 oA1) (p1.sub2 p2) hd hu (fun r news' h' tk' F' N' h => by
    obtain ⟨⟨oT', oA', h1, rfl⟩, t', rfl⟩ := h
    exact ret oT' oA' h' tk' t' h1 F' N')
theorem functor_use {w : World} {loose : List Str} {mean : ExcName → Option Value} {mg mb : Str → Option Value} {dp un : Nat} {gd : Option (List Code)} {cn : Str} {cs : Scope} {a : Addr} {ccd : Value} {cl : List (Str × Addr)} {outer : List Env} {A₀ : Around} {base h₀ : Heap} {L : Addr} {m : Str → Option Value} {s : Shared} {Q E : Value → Shared → Prop}
    {x dx Tt AN Fs FN : Addr} {t1 t2 t3 t4 : Tok} {a0 n0 : Int} {ta tn : Tok} {oF oN : Obj} {gs : List (Int × Int)} {core news0 l1 l2 : List (Addr × Obj)}
    (B : Below A₀ base outer h₀) (F : Fr h₀ L s.heap m) (X : (Mine.hd.heap_1 w.params).In h₀) (N : News h₀ L s.heap news0) (T : Top Mine.hd.view_1 loose mean mg mb h₀) (hk : cs.kind = .function) (_ : (x, instObj 157 dx) ∈ news0) (_ : (dx, bookDict w t1 t2 t3 t4 Tt AN Fs FN) ∈ news0) (p1 : Pick Fs oF news0 l1) (p2 : Pick FN oN l1 l2) (mx : (x, instObj 157 dx) ∈ l2) (md : (dx, bookDict w t1 t2 t3 t4 Tt AN Fs FN) ∈ l2) (ho : FunObj w core oF oN gs) (hc : Sub core l2) (hl : gs.length ≤ 100) (lo : (FN == sysModules) = false) (hne : @Ne Nat Fs FN)
    (oF1 : ∀ p ∈ l2, p.1 ≠ Fs) (oN1 : ∀ p ∈ l2, p.1 ≠ FN) (hd : dp + 1 < recursionLimit) (hu : un + 8 * 1 + 64 < cLine)
    (ret : ∀ oF' oN' tl h' tk' t', FunObj w (core ++ tl) oF' oN' (gput gs (a0, n0)) → Tups tl → Fresh l2 tl → Fr h₀ L h' m → News h₀ L h' ((Fs, oF') :: (FN, oN') :: (l2 ++ tl)) → Q (.int (gno 0 (gput gs (a0, n0)) (a0, n0)) t') { s with heap := h', toks := tk' }) :
    wpAny (model PySem.Challenge.rw_sa0142_01.row.prog w) (ktrTop dp un gd cn cs L a ccd cl outer) (call (.ref 105) [.ref x, .int a0 ta, .int n0 tn]) Q E s :=
  tri_use B F X N T hk (functor_spec hc mx md ho hl lo hne oF1 oN1) (p1.sub2 p2) hd hu (fun r news' h' tk' F' N' h => by
    obtain ⟨⟨oF', oN', tl, h1, h2, h3, rfl⟩, t', rfl⟩ := h
    exact ret oF' oN' tl h' tk' t' h1 h2 h3 F' N')
/-- the four are apart -/
def Four (T AN Fs FN : Addr) : Prop := @Ne Nat T AN ∧ @Ne Nat T Fs ∧ @Ne Nat T FN ∧ @Ne Nat AN Fs ∧ @Ne Nat AN FN ∧ @Ne Nat Fs FN
theorem sput_len {ts : List Str} {x : Str} : (sput ts x).length ≤ ts.length + 1 := by
  unfold sput; split
  · omega
  · rw [List.length_append]; exact Nat.le_refl _
theorem gput_len {gs : List (Int × Int)} {k : Int × Int} : (gput gs k).length ≤ gs.length + 1 := by
  unfold gput; split
  · omega
  · rw [List.length_append]; exact Nat.le_refl _
def FuncSpec : Prop := ∀ {w : World} {x dx Tt AN Fs FN : Addr} {t1 t2 t3 t4 : Tok} {tx : Str} {t : Tok} {n : Int} {tn : Tok} {oT oA oF oN : Obj} {ts : List Str} {gs : List (Int × Int)} {core news : List (Addr × Obj)} (_ : Sub core news)
    (_ : (x, instObj 157 dx) ∈ news) (_ : (dx, bookDict w t1 t2 t3 t4 Tt AN Fs FN) ∈ news) (_ : AtomObj w oT oA ts) (_ : ts.length ≤ 100) (_ : (AN == sysModules) = false) (_ : FunObj w core oF oN gs) (_ : gs.length ≤ 100) (_ : (FN == sysModules) = false) (_ : Four Tt AN Fs FN)
    (_ : Off Tt news) (_ : Off AN news) (_ : Off Fs news) (_ : Off FN news),
    Tri (Mine.hd.heap_1 w.params) w 112 2 [.ref x, .str tx t, .int n tn] ((Tt, oT) :: (AN, oA) :: (Fs, oF) :: (FN, oN) :: news)
      (fun r news' => (∃ oT' oA' oF' oN' tl, AtomObj w oT' oA' (sput ts tx) ∧ FunObj w (core ++ tl) oF' oN' (gput gs (tno (sput ts tx) tx, n)) ∧ Tups tl ∧ Fresh news tl ∧ news' = (Tt, oT') :: (AN, oA') :: (Fs, oF') :: (FN, oN') :: (news ++ tl)) ∧
        ∃ t', r = .int (gno 0 (gput gs (tno (sput ts tx) tx, n)) (tno (sput ts tx) tx, n)) t')
theorem Rows.mono2 {l l' : List (Addr × Obj)} (hs : ∀ p ∈ l, p.2.cls = .type "tuple" → p ∈ l') : ∀ {bs : List Addr} {gs : List (Int × Int)}, Rows l bs gs → Rows l' bs gs
  | _, _, .nil => .nil
  | _, _, .cons h r => .cons (hs _ h rfl) (r.mono2 hs)
theorem func_fin {w : World} {h₀ h : Heap} {L Tt AN Fs FN : Addr} {m : Str → Option Value} {core news lf tl : List (Addr × Obj)} {s : Shared} {Q : Value → Shared → Prop} {tk : Nat} {oT' oA' oF' oN' : Obj} {ts' : List Str} {gs' : List (Int × Int)} {r : Int} {t : Tok}
    (hret : ∀ v news' h' tk', Fr h₀ L h' m → News h₀ L h' news' → ((∃ oT' oA' oF' oN' tl, AtomObj w oT' oA' ts' ∧ FunObj w (core ++ tl) oF' oN' gs' ∧ Tups tl ∧ Fresh news tl ∧ news' = (Tt, oT') :: (AN, oA') :: (Fs, oF') :: (FN, oN') :: (news ++ tl)) ∧ ∃ t', v = .int r t') → Q v { s with heap := h', toks := tk' })
    (F : Fr h₀ L h m) (N : News h₀ L h lf) (m1 : (Tt, oT') ∈ lf) (m2 : (AN, oA') ∈ lf) (m3 : (Fs, oF') ∈ lf) (m4 : (FN, oN') ∈ lf) (m5 : ∀ p ∈ news, p ∈ lf) (m6 : ∀ p ∈ tl, p ∈ lf) (hA : AtomObj w oT' oA' ts') (hF : FunObj w (core ++ tl) oF' oN' gs') (ht : Tups tl) (hf : Fresh news tl) :
    Q (.int r t) { s with heap := h, toks := tk } := by
  refine hret _ _ h tk F (fun q hq => N q ?_) ⟨⟨oT', oA', oF', oN', tl, hA, hF, ht, hf, rfl⟩, t, rfl⟩
  rcases List.mem_cons.mp hq with rfl | hq
  · exact m1
  rcases List.mem_cons.mp hq with rfl | hq
  · exact m2
  rcases List.mem_cons.mp hq with rfl | hq
  · exact m3
  rcases List.mem_cons.mp hq with rfl | hq
  · exact m4
  exact (List.mem_append.mp hq).elim (m5 q) (m6 q)
theorem atom_cls {w : World} {oT oA : Obj} {ts : List Str} (h : AtomObj w oT oA ts) : (oT.cls == .type "tuple") = false ∧ (oA.cls == .type "tuple") = false := by
  obtain ⟨vs, e, kvs, rfl, _, ⟨_, _, h1, _⟩, _⟩ := h
  exact ⟨lt_ne, by rw [h1.1]; decide⟩
theorem cls_no {o : Obj} (h : (o.cls == .type "tuple") = false) {P : Prop} (e : o.cls = .type "tuple") : P := by rw [e] at h; exact absurd h (by decide)


theorem said16 : True := by
  k_with "my k_mem9" => first | exact List.Mem.head _ | assumption | (refine' List.Mem.tail _ ?_; k_mem) | (refine' List.mem_append.mpr (Or.inl ?_); k_mem) | (refine' List.mem_append.mpr (Or.inr ?_); k_mem) | fail "9"
  k_with "my myfresh" => first | exact Fresh.nil | (refine Fresh.cons ?_ ?_ <;> k_extra "my myfresh") | (refine Fresh.app ?_ ?_ <;> k_extra "my myfresh") | exact Fresh.sub (by assumption) (by k_extra "my sb9") | exact lt_sub (by assumption) (by k_extra "my sb9") | exact tb_ltOf (by tbn_find) | exact lt_sub (tb_ltOf (by tbn_find)) (fun _ h => List.mem_append.mpr (.inl h)) | exact lt_sub (tb_ltOf (by tbn_find)) (fun _ h => List.mem_append.mpr (.inl (List.mem_append.mpr (.inl h)))) | fail "9"
  k_with "my k_all9" => first | exact Off.all (by assumption) | exact List.forall_mem_nil _ | (refine' List.forall_mem_cons.mpr ⟨?a, ?b⟩; (case a => first | assumption | exact Ne.symm (by assumption)); (case b => k_all)) | fail "9"
  k_with "my call ref" => (k_here; (with_reducible show wpAny _ _ (call (Value.ref 91) _) _ _ _); k_dflt (refine' atom_use (by k_asm) (by k_asm) (by k_asm) (by k_asm) (by k_asm) (by k_extra "my hk9") (by k_mem) (by k_mem) (by k_extra "my pick9") (by k_extra "my pick9") (by k_mem) (by k_mem) (by assumption) (by first | assumption | omega) (by assumption) (by assumption) (by k_all) (by k_all) (by k_extra "my hd9") (by k_extra "my hu9") ?_; k_whole; intros; k_extra "my end9"))
  k_with "my call ref" => (k_here; (with_reducible show wpAny _ _ (call (Value.ref 105) _) _ _ _); k_dflt (refine' functor_use (by k_asm) (by k_asm) (by k_asm) (by k_asm) (by k_asm) (by k_extra "my hk9") (by k_mem) (by k_mem) (by k_extra "my pick9") (by k_extra "my pick9") (by k_mem) (by k_mem) (by assumption) (by exact (fun p hp => by have hp := Sub.of (by assumption) p hp; simp only [List.mem_append, List.mem_cons, hp, true_or, or_true])) (by first | assumption | omega) (by assumption) (by assumption) (by k_all) (by k_all) (by k_extra "my hd9") (by k_extra "my hu9") ?_; k_whole; intros; k_extra "my norm9"; k_extra "my end9"))
  trivial
set_option maxHeartbeats 8000000 in
theorem func_spec : FuncSpec := by
  intro w x dx Tt AN Fs FN t1 t2 t3 t4 tx t n tn oT oA oF oN ts gs core news hcore mx md hA hlA loA hF hlF loF h4 oT1 oA1 oF1 oN1
  obtain ⟨n1, n2, n3, n4, n5, n6⟩ := h4
  unfold Tri
  k_fill
  intro loose mean mg mb dp un gd cn cs a ccd cl outer A₀ base h₀ L m s Q E B F X N T hk hd hu hret
  refine wpAny_call ?_
  k_dflt ktr_enter
  k_steps
  skip
  all_goals (
    refine' func_fin hret ?F ?N ?m1 ?m2 ?m3 ?m4 ?m5 ?m6 ?hA ?hF ?ht ?hf
    case F => k_asm
    case N => k_asm
    case hA => assumption
    case hF => assumption
    case ht => assumption
    case m1 => k_mem
    case m2 => k_mem
    case m3 => k_mem
    case m4 => k_mem
    case m5 => k_extra "my sb9"
    case m6 => k_extra "my sb9"
    case hf => k_extra "my myfresh")
end
section
section
variable {prog : Program} {w : World} {A : Around} {E : Value → Shared → Prop} {s : Shared} {env : Env} {h₀ : Heap} {x : Str} {body : List Stmt} {Q : Flow → Shared → Prop}
def TurnEnd (h₀ : Heap) (L I : Addr) (oI : Obj) (J : (Str → Option Value) → List (Addr × Obj) → Prop) (s₁ s₂ : Shared) : Prop :=
  ∃ h' tk m' news', s₂ = { s₁ with heap := h', toks := tk } ∧ Fr h₀ L h' m' ∧ News h₀ L h' ((I, oI) :: news') ∧ Off I news' ∧ J m' news'
def TurnPost (h₀ : Heap) (L I : Addr) (oI : Obj) (J : (Str → Option Value) → List (Addr × Obj) → Prop) (s₁ : Shared) (Q : Flow → Shared → Prop) (f : Flow) (s₂ : Shared) : Prop :=
  match f with
  | .ret v => Q (.ret v) s₂
  | .brk => Q .next s₂
  | _ => TurnEnd h₀ L I oI J s₁ s₂
theorem said17 : True := by
  k_with_none
  k_with "my ltc" => first | exact j0 (by assumption) | exact j1 (by assumption) | exact j2 (by assumption) | exact j3 (by assumption) | exact j4 (by assumption) | exact j5 (by assumption) | exact j6 (by assumption) | exact j7 (by assumption) | exact j8 (by assumption) | exact j9 (by assumption) | exact j10 (by assumption) | fail "9"
  k_with "my trc0" => first | assumption | k_extra "my ltc" | fail "9"
  k_with "my trc" => first | exact t0 (by k_extra "my trc0") | exact t1 (by k_extra "my trc0") | exact t2 (by k_extra "my trc0") | fail "9"
  k_with "my k_ne9" => (refine neN ?_; (try dsimp only); first | assumption | exact Ne.symm (by assumption) | (refine Nat.ne_of_lt ?_; k_extra "my ltc") | (refine Nat.ne_of_gt ?_; k_extra "my ltc") | k_extra "my trc" | (refine Ne.symm ?_; k_extra "my trc") | fail "9")
  k_with "my le9" => first | exact Nat.le_refl _ | exact Nat.le_of_ble_eq_true rfl | exact Nat.succ_le_succ (Nat.zero_le _) | assumption | exact Nat.succ_le_succ (Nat.le_max_left _ _) | exact Nat.succ_le_succ (Nat.le_max_right _ _) | exact Nat.succ_le_succ (Nat.succ_le_succ (Nat.zero_le _)) | exact Nat.succ_le_succ (Nat.succ_le_succ (Nat.le_max_left _ _)) | exact Nat.succ_le_succ (Nat.succ_le_succ (Nat.le_max_right _ _)) | exact Nat.succ_le_succ (Nat.succ_le_succ (Nat.succ_le_succ (Nat.le_max_left _ _))) | exact Nat.succ_le_succ (Nat.succ_le_succ (Nat.succ_le_succ (Nat.le_max_right _ _))) | fail "9"
  k_with "my ktr_room9" => first | exact room0 (by assumption) | exact room1 (by assumption) (by k_extra "my le9") | exact room2 (by assumption) (by k_extra "my le9") | fail "9"
  k_with "my ktr_units9" => first | exact units1 (by assumption) (by k_extra "my le9") | exact units2 (by assumption) (by k_extra "my le9") | fail "9"
  k_with "my pick9" => (repeat (first | exact Pick.head | apply Pick.tail))
  k_with "my sb9" => (intro p hp; simp only [List.mem_append, List.mem_cons, hp, true_or, or_true])
  k_with "my hk9" => first | exact rfl | assumption | fail "9"
  k_with "my hd9" => first | exact Nat.le_of_ble_eq_true rfl | ktr_room | ((try simp only [depth_deeper, depth_under_make]); (try dsimp only [ktrTop]); first | ktr_room | omega) | fail "9"
  k_with "my hu9" => first | exact Nat.le_of_ble_eq_true rfl | ktr_units | ((try simp only [units_deeper, units_under_make]); (try dsimp only [ktrTop]); first | ktr_units | omega) | fail "9"
  k_with "my norm9" => ((rename News _ _ _ _ => nN9); (try simp only [List.nil_append, List.cons_append, List.append_nil] at nN9))
  k_with "my norm8" => ((rename News _ _ _ _ => nN9); (try simp only [List.nil_append, List.cons_append, List.append_nil, List.append_assoc] at nN9))
  k_with "my end9" => ((try k_sweep); (try dsimp only); (try k_fold))
  trivial
theorem TurnEnd.intro {L I : Addr} {oI : Obj} {J : (Str → Option Value) → List (Addr × Obj) → Prop} {s₁ : Shared} {h' : Heap} {tk : Nat} {m' : Str → Option Value} {all news' : List (Addr × Obj)} (F : Fr h₀ L h' m') (N : News h₀ L h' all) (pk : Pick I oI all news') (off : Off I news') (j : J m' news') :
    TurnEnd h₀ L I oI J s₁ { s₁ with heap := h', toks := tk } := ⟨h', tk, m', news', rfl, F, fun p hp => N p (pk.sub p hp), off, j⟩
/-- a for over a tuple of the ledger, by an invariant -/
theorem iter_tup {ax : Addr} {its : Array Value} {k : Nat} {m₀ : Str → Option Value} {news : List (Addr × Obj)} (J : Nat → (Str → Option Value) → List (Addr × Obj) → Prop)
    (hh : A.handled = none) (F : Fr h₀ env.locals s.heap m₀) (N : News h₀ env.locals s.heap news) (hm : (ax, ({ cls := .type "tuple", data := .seq its k } : Obj)) ∈ news)
    (hS : ∀ i m nw, J i m nw → (ax, ({ cls := .type "tuple", data := .seq its k } : Obj)) ∈ nw) (hj : J 0 m₀ news)
    (turn : ∀ i v m₁ news₁ h tk I oI, its[i]? = some v → J i m₁ news₁ → oI.cls = .type "tuple_iterator" → Off I news₁ → Fr h₀ env.locals h (fun y => if y = x then some v else m₁ y) → News h₀ env.locals h ((I, oI) :: news₁) →
      wpAny (model prog w) A (execs body env) (TurnPost h₀ env.locals I oI (J (i + 1)) { s with heap := h, toks := tk } Q) E { s with heap := h, toks := tk })
    (done : ∀ m₁ news₁ h tk, J its.size m₁ news₁ → Fr h₀ env.locals h m₁ → News h₀ env.locals h news₁ → Q .next { s with heap := h, toks := tk }) :
    wpAny (model prog w) A (pyIter (.ref ax)) (fun it s₂ => LoopAtV prog w A h₀ env x body Q E it s₂) E s := by
  have ht : s.heap.IsTuple ax its := ⟨_, (N _ hm).1, rfl, _, rfl⟩
  have hlt : ax < s.heap.objs.size := Heap.lt_size (N _ hm).1
  have hne : ax ≠ s.heap.objs.size := Nat.ne_of_lt hlt
  refine wpAny_pyIter_tuple ht ?_
  have W := Walks.tuple (prog := prog) (w := w) hh s.heap.objs.size ax hne its
  refine ⟨_, _, _, its.size, _, _, m₀, news, J, rfl, W, ?_, ?_, ?_, ⟨⟨_, Heap.get?_push_size _ rfl, rfl, rfl⟩, ht.at fun o e => Heap.get?_push_of_some _ e⟩, F.push _, (fun p hp => ⟨Heap.get?_push_of_some _ (N p hp).1, (N p hp).2⟩), hj, ?_, ?_⟩
  · intro hmm
    rcases List.mem_cons.mp hmm with e | hmm
    · exact absurd F.ns.lt (e ▸ Nat.lt_irrefl _)
    · exact (N _ hm).2.1 (List.mem_singleton.mp hmm).symm
  · intro b hb
    rw [List.mem_singleton.mp hb]
    exact next_is_new F
  · intro p hp hI
    exact absurd (Heap.lt_size (N p hp).1) ((List.mem_singleton.mp hI) ▸ Nat.lt_irrefl _)
  · rintro i v m₁ news₁ s₁ own ⟨hh', tk', rfl⟩ hin hP hJ hoff hsub hget hall hst' F₁ N₁
    obtain ⟨oI, hoI, hcI, _⟩ := hst'.1
    have hI : (s.heap.objs.size, oI) ∈ own := hall _ (.head _) (next_is_new F) oI hoI
    have N₂ : News h₀ env.locals hh' ((s.heap.objs.size, oI) :: news₁) := fun p hp => by
      rcases List.mem_cons.mp hp with rfl | hp
      · exact N₁ _ (List.mem_append.mpr (.inl hI))
      · exact N₁ _ (List.mem_append.mpr (.inr hp))
    refine wpAny_mono (turn i v m₁ news₁ hh' tk' _ oI hP hJ hcI (fun p hp e => hoff p hp (by rw [e]; exact .head _)) F₁ N₂) (fun f s₂ p => ?_) fun _ _ e => e
    have fin : TurnEnd h₀ env.locals s.heap.objs.size oI (J (i + 1)) { s with heap := hh', toks := tk' } s₂ → LoopStepU h₀ env.locals [s.heap.objs.size] own (J (i + 1)) { s with heap := hh', toks := tk' } .next s₂ := by
      rintro ⟨h', tk, m', news', e, F', N', ho, hj'⟩
      refine ⟨rfl, h', tk, m', news', e, F', fun p hp => ?_, fun p hp hq => ho p hp (List.mem_singleton.mp hq), hj'⟩
      rcases List.mem_append.mp hp with hp | hp
      · have h1 := hget p hp
        rcases List.mem_cons.mp (hsub p hp) with e1 | e1
        · have h2 : p = (s.heap.objs.size, oI) := by
            rw [e1] at h1
            exact Prod.ext e1 (Option.some.inj (h1.symm.trans hoI))
          rw [h2]; exact N' _ (.head _)
        · have e2 := List.mem_singleton.mp e1
          have h3 := (N₁ _ (List.mem_append.mpr (.inr (hS i m₁ news₁ hJ)))).1
          have h2 : p = (ax, ({ cls := .type "tuple", data := .seq its k } : Obj)) := by
            rw [e2] at h1
            exact Prod.ext e2 (Option.some.inj (h1.symm.trans h3))
          rw [h2]; exact N' _ (.tail _ (hS _ _ _ hj'))
      · exact N' _ (.tail _ hp)
    cases f with
    | ret v => exact .ret p
    | brk => exact .brk p
    | next => exact .next (fin p)
    | cont => exact .cont (fin p)
  · rintro h' tk m' news' F' N' _ hJ
    exact done m' news' h' tk hJ F' N'
/-- a for over a range by ones, by an invariant -/
theorem iter_rng {r : Addr} {a b : Int} {t u v9 : Tok} {n : Nat} {m₀ : Str → Option Value} {news : List (Addr × Obj)} (J : Nat → (Str → Option Value) → List (Addr × Obj) → Prop)
    (hh : A.handled = none) (F : Fr h₀ env.locals s.heap m₀) (N : News h₀ env.locals s.heap news) (hr : IsRange s.heap r a b 1 t u v9) (hsm : Builtin.Range.small a b 1 = true) (hn : Builtin.Range.rangeSize a b 1 = ((n : Nat) : Int)) (hj : J 0 m₀ news)
    (turn : ∀ i t m₁ news₁ h tk I oI, i < n → J i m₁ news₁ → oI.cls = .type "range_iterator" → Off I news₁ → Fr h₀ env.locals h (fun y => if y = x then some (.int (a + (i : Int)) t) else m₁ y) → News h₀ env.locals h ((I, oI) :: news₁) →
      wpAny (model prog w) A (execs body env) (TurnPost h₀ env.locals I oI (J (i + 1)) { s with heap := h, toks := tk } Q) E { s with heap := h, toks := tk })
    (done : ∀ m₁ news₁ h tk, J n m₁ news₁ → Fr h₀ env.locals h m₁ → News h₀ env.locals h news₁ → Q .next { s with heap := h, toks := tk }) :
    wpAny (model prog w) A (pyIter (.ref r)) (fun it s₂ => LoopAtV prog w A h₀ env x body Q E it s₂) E s := by
  refine wpAny_pyIter_range hr hsm ?_
  have W := LCg.range_walks (prog := prog) (w := w) (I := s.heap.objs.size) hh a n
  refine ⟨_, _, _, n, _, _, m₀, news, J, rfl, W, ?_, ?_, ?_, (by show IsRangeIter _ _ _ _ _; rw [hn]; simpa using Heap.get?_push_size _ rfl), F.push _, (fun p hp => ⟨Heap.get?_push_of_some _ (N p hp).1, (N p hp).2⟩), hj, ?_, ?_⟩
  · intro hmm
    exact absurd F.ns.lt ((List.mem_singleton.mp hmm) ▸ Nat.lt_irrefl _)
  · intro b hb
    rw [List.mem_singleton.mp hb]
    exact next_is_new F
  · intro p hp hI
    exact absurd (Heap.lt_size (N p hp).1) ((List.mem_singleton.mp hI) ▸ Nat.lt_irrefl _)
  · rintro i v m₁ news₁ s₁ own ⟨hh', tk', rfl⟩ hin hP hJ hoff hsub hget hall hst' F₁ N₁
    obtain ⟨t', rfl⟩ := hP
    obtain ⟨oI, hoI, hcI⟩ : ∃ oI, hh'.get? s.heap.objs.size = some oI ∧ oI.cls = .type "range_iterator" := ⟨_, hst', rfl⟩
    have hI : (s.heap.objs.size, oI) ∈ own := hall _ (.head _) (next_is_new F) _ hoI
    have N₂ : News h₀ env.locals hh' ((s.heap.objs.size, oI) :: news₁) := fun p hp => by
      rcases List.mem_cons.mp hp with rfl | hp
      · exact N₁ _ (List.mem_append.mpr (.inl hI))
      · exact N₁ _ (List.mem_append.mpr (.inr hp))
    refine wpAny_mono (turn i t' m₁ news₁ hh' tk' _ oI hin hJ hcI (fun p hp e => hoff p hp (by rw [e]; exact .head _)) F₁ N₂) (fun f s₂ p => ?_) fun _ _ e => e
    have fin : TurnEnd h₀ env.locals s.heap.objs.size oI (J (i + 1)) { s with heap := hh', toks := tk' } s₂ → LoopStepU h₀ env.locals [s.heap.objs.size] own (J (i + 1)) { s with heap := hh', toks := tk' } .next s₂ := by
      rintro ⟨h', tk, m', news', e, F', N', ho, hj'⟩
      refine ⟨rfl, h', tk, m', news', e, F', fun p hp => ?_, fun p hp hq => ho p hp (List.mem_singleton.mp hq), hj'⟩
      rcases List.mem_append.mp hp with hp | hp
      · have h1 := hget p hp
        have e1 := List.mem_singleton.mp (hsub p hp)
        have h2 : p = (s.heap.objs.size, oI) := by
          rw [e1] at h1
          exact Prod.ext e1 (Option.some.inj (h1.symm.trans hoI))
        rw [h2]; exact N' _ (.head _)
      · exact N' _ (.tail _ hp)
    cases f with
    | ret v => exact .ret p
    | brk => exact .brk p
    | next => exact .next (fin p)
    | cont => exact .cont (fin p)
  · rintro h' tk m' news' F' N' _ hJ
    exact done m' news' h' tk hJ F' N'
end
end
section
def atoms29 : List Str := [(Str.ofString "[]"), (Str.ofString "."), (Str.ofString "{}"), (Str.ofString "-"), (Str.ofString "+"), (Str.ofString "*"), (Str.ofString "/"), (Str.ofString ","), (Str.ofString "|"), (Str.ofString ";"), (Str.ofString "->"), (Str.ofString "\\+"), (Str.ofString ":-"), (Str.ofString "?-"), (Str.ofString "-->"), (Str.ofString "!"), (Str.ofString "true"), (Str.ofString "fail"), (Str.ofString "false"), (Str.ofString "call"), (Str.ofString "="), (Str.ofString "^"), (Str.ofString "error"), (Str.ofString ""), (Str.ofString "end_of_file"), (Str.ofString "system"), (Str.ofString "$VAR"), (Str.ofString "catch"), (Str.ofString "throw")]
def funs32 : List (Str × Int) := [((Str.ofString "."), 2), ((Str.ofString ","), 2), ((Str.ofString ";"), 2), ((Str.ofString "->"), 2), ((Str.ofString "\\+"), 1), ((Str.ofString ":-"), 2), ((Str.ofString ":-"), 1), ((Str.ofString "?-"), 1), ((Str.ofString "-->"), 2), ((Str.ofString "{}"), 1), ((Str.ofString "="), 2), ((Str.ofString "^"), 2), ((Str.ofString "-"), 1), ((Str.ofString "-"), 2), ((Str.ofString "+"), 2), ((Str.ofString "/"), 2), ((Str.ofString "error"), 2), ((Str.ofString "$VAR"), 1), ((Str.ofString "catch"), 3), ((Str.ofString "throw"), 1), ((Str.ofString "!"), 0), ((Str.ofString "true"), 0), ((Str.ofString "fail"), 0), ((Str.ofString "false"), 0), ((Str.ofString "call"), 1), ((Str.ofString "call"), 2), ((Str.ofString "call"), 3), ((Str.ofString "call"), 4), ((Str.ofString "call"), 5), ((Str.ofString "call"), 6), ((Str.ofString "call"), 7), ((Str.ofString "call"), 8)]
inductive FRows (l : List (Addr × Obj)) : List Value → List (Str × Int) → Prop
  | nil : FRows l [] []
  | cons {b : Addr} {x : Str} {n : Int} {t u : Tok} {k : Nat} {vs : List Value} {fs : List (Str × Int)} : (b, ({ cls := .type "tuple", data := .seq #[.str x t, .int n u] k } : Obj)) ∈ l → FRows l vs fs → FRows l (.ref b :: vs) ((x, n) :: fs)
def AtomsSpec : Prop := ∀ {w : World} {news : List (Addr × Obj)},
    Tri (Mine.hd.heap_1 w.params) w 63 1 [] news (fun r news' => ∃ a its k, r = .ref a ∧ StrsAre its atoms29 ∧ (∀ q ∈ news, @LT.lt Nat _ q.1 a) ∧ news' = (a, ({ cls := .type "tuple", data := .seq its.toArray k } : Obj)) :: news)
def FunsSpec : Prop := ∀ {w : World} {news : List (Addr × Obj)},
    Tri (Mine.hd.heap_1 w.params) w 70 1 [] news (fun r news' => ∃ a its k tl, r = .ref a ∧ FRows tl its funs32 ∧ Tups tl ∧ Fresh news tl ∧ (∀ q ∈ news, @LT.lt Nat _ q.1 a) ∧ news' = (a, ({ cls := .type "tuple", data := .seq its.toArray k } : Obj)) :: (news ++ tl))


inductive App : List (Addr × Obj) → List (Addr × Obj) → List (Addr × Obj) → Prop
  | nil {l} : App [] l l
  | cons {p tl l lf} : App tl l lf → App (p :: tl) l (p :: lf)
theorem App.eq : ∀ {tl l lf : List (Addr × Obj)}, App tl l lf → lf = tl ++ l
  | _, _, _, .nil => rfl
  | _, _, _, .cons h => congrArg (_ :: ·) h.eq
section
variable {h₀ h : Heap} {L : Addr} {m : Str → Option Value} {news lf tl : List (Addr × Obj)} {s : Shared} {Q : Value → Shared → Prop} {tk : Nat} {D : Addr} {its : List Value} {k : Nat}
theorem atoms_fin (hret : ∀ r news' h' tk', Fr h₀ L h' m → News h₀ L h' news' → (∃ a its k, r = .ref a ∧ StrsAre its atoms29 ∧ (∀ q ∈ news, @LT.lt Nat _ q.1 a) ∧ news' = (a, ({ cls := .type "tuple", data := .seq its.toArray k } : Obj)) :: news) → Q r { s with heap := h', toks := tk' })
    (F : Fr h₀ L h m) (N : News h₀ L h ((D, ({ cls := .type "tuple", data := .seq its.toArray k } : Obj)) :: news)) (hs : StrsAre its atoms29) (f : ∀ q ∈ news, @LT.lt Nat _ q.1 D) : Q (.ref D) { s with heap := h, toks := tk } :=
  hret _ _ h tk F N ⟨D, its, k, rfl, hs, f, rfl⟩
theorem funs_fin (hret : ∀ r news' h' tk', Fr h₀ L h' m → News h₀ L h' news' → (∃ a its k tl, r = .ref a ∧ FRows tl its funs32 ∧ Tups tl ∧ Fresh news tl ∧ (∀ q ∈ news, @LT.lt Nat _ q.1 a) ∧ news' = (a, ({ cls := .type "tuple", data := .seq its.toArray k } : Obj)) :: (news ++ tl)) → Q r { s with heap := h', toks := tk' })
    (F : Fr h₀ L h m) (N : News h₀ L h ((D, ({ cls := .type "tuple", data := .seq its.toArray k } : Obj)) :: lf)) (ap : App tl news lf) (hs : FRows tl its funs32) (ht : Tups tl) (hf : Fresh news tl) (f : ∀ q ∈ news, @LT.lt Nat _ q.1 D) : Q (.ref D) { s with heap := h, toks := tk } :=
  hret _ ((D, ({ cls := .type "tuple", data := .seq its.toArray k } : Obj)) :: (news ++ tl)) h tk F (fun p hp => N p (by
    rw [ap.eq]
    rcases List.mem_cons.mp hp with rfl | hp
    · exact .head _
    · exact .tail _ (List.mem_append.mpr ((List.mem_append.mp hp).symm)))) ⟨D, its, k, tl, rfl, hs, ht, hf, f, rfl⟩
end


theorem said18 : True := by
  k_with "my k_mem9" => first | exact List.Mem.head _ | assumption | (refine' List.Mem.tail _ ?_; k_mem) | (refine' List.mem_append.mpr (Or.inl ?_); k_mem) | (refine' List.mem_append.mpr (Or.inr ?_); k_mem) | fail "9"
  k_with "my myfresh" => first | exact Fresh.nil | (refine Fresh.cons ?_ ?_ <;> k_extra "my myfresh") | (refine Fresh.app ?_ ?_ <;> k_extra "my myfresh") | exact Fresh.sub (by assumption) (by k_extra "my sb9") | exact lt_sub (by assumption) (by k_extra "my sb9") | exact tb_ltOf (by tbn_find) | exact lt_sub (tb_ltOf (by tbn_find)) (fun _ h => List.mem_append.mpr (.inl h)) | exact lt_sub (tb_ltOf (by tbn_find)) (fun _ h => List.mem_append.mpr (.inl (List.mem_append.mpr (.inl h)))) | fail "9"
  trivial
set_option maxHeartbeats 8000000 in
theorem atoms_spec : AtomsSpec := by
  intro w news
  unfold Tri
  k_fill
  intro loose mean mg mb dp un gd cn cs a ccd cl outer A₀ base h₀ L m s Q E B F X N T hk hd hu hret
  refine wpAny_call ?_
  k_dflt ktr_enter
  k_steps
  all_goals (refine' atoms_fin hret ?F ?N ?s ?f; (case F => k_asm); (case N => k_asm); (case s => (unfold atoms29; (repeat (first | exact StrsAre.nil | refine StrsAre.cons _ _ ?_)))); (case f => k_extra "my myfresh"))
set_option maxHeartbeats 8000000 in
theorem funs_spec : FunsSpec := by
  intro w news
  unfold Tri
  k_fill
  intro loose mean mg mb dp un gd cn cs a ccd cl outer A₀ base h₀ L m s Q E B F X N T hk hd hu hret
  refine wpAny_call ?_
  k_dflt ktr_enter
  k_steps
  all_goals (refine' funs_fin hret ?F ?N ?a ?s ?t ?g ?f; (case F => k_asm); (case N => k_asm); (case a => (repeat (first | exact App.nil | apply App.cons))); (case s => (unfold funs32; (repeat (first | exact FRows.nil | refine FRows.cons (by k_mem) ?_)))); (case t => (repeat (first | exact Tups.nil | apply Tups.cons))); (case g => k_extra "my myfresh"); (case f => k_extra "my myfresh"))
end
section
theorem said19 : True := by
  k_with_none
  k_with "my ltc" => first | exact j0 (by assumption) | exact j1 (by assumption) | exact j2 (by assumption) | exact j3 (by assumption) | exact j4 (by assumption) | exact j5 (by assumption) | exact j6 (by assumption) | exact j7 (by assumption) | exact j8 (by assumption) | exact j9 (by assumption) | exact j10 (by assumption) | fail "9"
  k_with "my trc0" => first | assumption | k_extra "my ltc" | fail "9"
  k_with "my trc" => first | exact t0 (by k_extra "my trc0") | exact t1 (by k_extra "my trc0") | exact t2 (by k_extra "my trc0") | fail "9"
  k_with "my k_ne9" => (refine neN ?_; (try dsimp only); first | assumption | exact Ne.symm (by assumption) | (refine Nat.ne_of_lt ?_; k_extra "my ltc") | (refine Nat.ne_of_gt ?_; k_extra "my ltc") | k_extra "my trc" | (refine Ne.symm ?_; k_extra "my trc") | fail "9")
  k_with "my le9" => first | exact Nat.le_refl _ | exact Nat.le_of_ble_eq_true rfl | exact Nat.succ_le_succ (Nat.zero_le _) | assumption | exact Nat.succ_le_succ (Nat.le_max_left _ _) | exact Nat.succ_le_succ (Nat.le_max_right _ _) | exact Nat.succ_le_succ (Nat.succ_le_succ (Nat.zero_le _)) | exact Nat.succ_le_succ (Nat.succ_le_succ (Nat.le_max_left _ _)) | exact Nat.succ_le_succ (Nat.succ_le_succ (Nat.le_max_right _ _)) | exact Nat.succ_le_succ (Nat.succ_le_succ (Nat.succ_le_succ (Nat.le_max_left _ _))) | exact Nat.succ_le_succ (Nat.succ_le_succ (Nat.succ_le_succ (Nat.le_max_right _ _))) | fail "9"
  k_with "my ktr_room9" => first | exact room0 (by assumption) | exact room1 (by assumption) (by k_extra "my le9") | exact room2 (by assumption) (by k_extra "my le9") | fail "9"
  k_with "my ktr_units9" => first | exact units1 (by assumption) (by k_extra "my le9") | exact units2 (by assumption) (by k_extra "my le9") | fail "9"
  k_with "my pick9" => (repeat (first | exact Pick.head | apply Pick.tail))
  k_with "my sb9" => (intro p hp; simp only [List.mem_append, List.mem_cons, hp, true_or, or_true])
  k_with "my hk9" => first | exact rfl | assumption | fail "9"
  k_with "my hd9" => first | exact Nat.le_of_ble_eq_true rfl | ktr_room | ((try simp only [depth_deeper, depth_under_make]); (try dsimp only [ktrTop]); first | ktr_room | omega) | fail "9"
  k_with "my hu9" => first | exact Nat.le_of_ble_eq_true rfl | ktr_units | ((try simp only [units_deeper, units_under_make]); (try dsimp only [ktrTop]); first | ktr_units | omega) | fail "9"
  k_with "my norm9" => ((rename News _ _ _ _ => nN9); (try simp only [List.nil_append, List.cons_append, List.append_nil] at nN9))
  k_with "my norm8" => ((rename News _ _ _ _ => nN9); (try simp only [List.nil_append, List.cons_append, List.append_nil, List.append_assoc] at nN9))
  k_with "my end9" => ((try k_sweep); (try dsimp only); (try k_fold))
  trivial
theorem atoms_use {w : World} {loose : List Str} {mean : ExcName → Option Value} {mg mb : Str → Option Value} {dp un : Nat} {gd : Option (List Code)} {cn : Str} {cs : Scope} {a : Addr} {ccd : Value} {cl : List (Str × Addr)} {outer : List Env} {A₀ : Around} {base h₀ : Heap} {L : Addr} {m : Str → Option Value} {s : Shared} {Q E : Value → Shared → Prop} {news0 : List (Addr × Obj)}
    (B : Below A₀ base outer h₀) (F : Fr h₀ L s.heap m) (X : (Mine.hd.heap_1 w.params).In h₀) (N : News h₀ L s.heap news0) (T : Top Mine.hd.view_1 loose mean mg mb h₀) (hk : cs.kind = .function) (hd : dp + 1 < recursionLimit) (hu : un + 8 * 1 + 64 < cLine)
    (ret : ∀ a its k h' tk', StrsAre its atoms29 → (∀ q ∈ news0, @LT.lt Nat _ q.1 a) → Fr h₀ L h' m → News h₀ L h' ((a, ({ cls := .type "tuple", data := .seq its.toArray k } : Obj)) :: news0) → Q (.ref a) { s with heap := h', toks := tk' }) :
    wpAny (model PySem.Challenge.rw_sa0142_01.row.prog w) (ktrTop dp un gd cn cs L a ccd cl outer) (call (.ref 63) []) Q E s :=
  tri_use B F X N T hk atoms_spec (fun _ h => h) hd hu (fun r news' h' tk' F' N' h => by
    obtain ⟨a, its, k, rfl, h1, h2, rfl⟩ := h
    exact ret a its k h' tk' h1 h2 F' N')
theorem funs_use {w : World} {loose : List Str} {mean : ExcName → Option Value} {mg mb : Str → Option Value} {dp un : Nat} {gd : Option (List Code)} {cn : Str} {cs : Scope} {a : Addr} {ccd : Value} {cl : List (Str × Addr)} {outer : List Env} {A₀ : Around} {base h₀ : Heap} {L : Addr} {m : Str → Option Value} {s : Shared} {Q E : Value → Shared → Prop} {news0 : List (Addr × Obj)}
    (B : Below A₀ base outer h₀) (F : Fr h₀ L s.heap m) (X : (Mine.hd.heap_1 w.params).In h₀) (N : News h₀ L s.heap news0) (T : Top Mine.hd.view_1 loose mean mg mb h₀) (hk : cs.kind = .function) (hd : dp + 1 < recursionLimit) (hu : un + 8 * 1 + 64 < cLine)
    (ret : ∀ a its k tl h' tk', FRows tl its funs32 → Tups tl → Fresh news0 tl → (∀ q ∈ news0, @LT.lt Nat _ q.1 a) → Fr h₀ L h' m → News h₀ L h' ((a, ({ cls := .type "tuple", data := .seq its.toArray k } : Obj)) :: (news0 ++ tl)) → Q (.ref a) { s with heap := h', toks := tk' }) :
    wpAny (model PySem.Challenge.rw_sa0142_01.row.prog w) (ktrTop dp un gd cn cs L a ccd cl outer) (call (.ref 70) []) Q E s :=
  tri_use B F X N T hk funs_spec (fun _ h => h) hd hu (fun r news' h' tk' F' N' h => by
    obtain ⟨a, its, k, tl, rfl, h1, h2, h3, h4, rfl⟩ := h
    exact ret a its k tl h' tk' h1 h2 h3 h4 F' N')
theorem func_useC {w : World} {loose : List Str} {mean : ExcName → Option Value} {mg mb : Str → Option Value} {dp un : Nat} {gd : Option (List Code)} {cn : Str} {cs : Scope} {a : Addr} {ccd : Value} {cl : List (Str × Addr)} {outer : List Env} {A₀ : Around} {base h₀ : Heap} {L : Addr} {m : Str → Option Value} {s : Shared} {Q E : Value → Shared → Prop}
    {x dx Tt AN Fs FN : Addr} {t1 t2 t3 t4 : Tok} {tx : Str} {t : Tok} {n : Int} {tn : Tok} {oT oA oF oN : Obj} {ts : List Str} {gs : List (Int × Int)} {core news0 l1 l2 l3 l4 : List (Addr × Obj)}
    (B : Below A₀ base outer h₀) (F : Fr h₀ L s.heap m) (X : (Mine.hd.heap_1 w.params).In h₀) (N : News h₀ L s.heap news0) (T : Top Mine.hd.view_1 loose mean mg mb h₀) (hk : cs.kind = .function) (_ : (x, instObj 157 dx) ∈ news0) (_ : (dx, bookDict w t1 t2 t3 t4 Tt AN Fs FN) ∈ news0) (p1 : Pick Tt oT news0 l1) (p2 : Pick AN oA l1 l2) (p3 : Pick Fs oF l2 l3) (p4 : Pick FN oN l3 l4)
    (mx : (x, instObj 157 dx) ∈ l4) (md : (dx, bookDict w t1 t2 t3 t4 Tt AN Fs FN) ∈ l4) (hA : AtomObj w oT oA ts) (hlA : ts.length ≤ 100) (loA : (AN == sysModules) = false) (hF : FunObj w core oF oN gs) (hc : Sub core l4) (hlF : gs.length ≤ 100) (loF : (FN == sysModules) = false) (h4 : Four Tt AN Fs FN)
    (oT1 : ∀ p ∈ l4, p.1 ≠ Tt) (oA1 : ∀ p ∈ l4, p.1 ≠ AN) (oF1 : ∀ p ∈ l4, p.1 ≠ Fs) (oN1 : ∀ p ∈ l4, p.1 ≠ FN) (hd : dp + 2 < recursionLimit) (hu : un + 8 * 2 + 64 < cLine)
    (ret : ∀ oT' oA' oF' oN' tl h' tk' t', AtomObj w oT' oA' (sput ts tx) → FunObj w (core ++ tl) oF' oN' (gput gs (tno (sput ts tx) tx, n)) → Tups tl → Fresh l4 tl → Fr h₀ L h' m → News h₀ L h' ((Tt, oT') :: (AN, oA') :: (Fs, oF') :: (FN, oN') :: (l4 ++ tl)) →
      Q (.int (gno 0 (gput gs (tno (sput ts tx) tx, n)) (tno (sput ts tx) tx, n)) t') { s with heap := h', toks := tk' }) :
    wpAny (model PySem.Challenge.rw_sa0142_01.row.prog w) (ktrTop dp un gd cn cs L a ccd cl outer) (call (.ref 112) [.ref x, .str tx t, .int n tn]) Q E s :=
  tri_use B F X N T hk (func_spec hc mx md hA hlA loA hF hlF loF h4 oT1 oA1 oF1 oN1) (fun p hp => p1.sub _ (by
    rcases List.mem_cons.mp hp with rfl | hp
    · exact .head _
    refine .tail _ (p2.sub _ ?_)
    rcases List.mem_cons.mp hp with rfl | hp
    · exact .head _
    refine .tail _ (p3.sub _ ?_)
    rcases List.mem_cons.mp hp with rfl | hp
    · exact .head _
    exact .tail _ (p4.sub _ hp))) hd hu (fun r news' h' tk' F' N' h => by
    obtain ⟨⟨oT', oA', oF', oN', tl, h1, h2, h3, h5, rfl⟩, t', rfl⟩ := h
    exact ret oT' oA' oF' oN' tl h' tk' t' h1 h2 h3 h5 F' N')

theorem func_use {w : World} {loose : List Str} {mean : ExcName → Option Value} {mg mb : Str → Option Value} {dp un : Nat} {gd : Option (List Code)} {cn : Str} {cs : Scope} {a : Addr} {ccd : Value} {cl : List (Str × Addr)} {outer : List Env} {A₀ : Around} {base h₀ : Heap} {L : Addr} {m : Str → Option Value} {s : Shared} {Q E : Value → Shared → Prop}
    {x dx Tt AN Fs FN : Addr} {t1 t2 t3 t4 : Tok} {tx : Str} {t : Tok} {n : Int} {tn : Tok} {oT oA oF oN : Obj} {ts : List Str} {gs : List (Int × Int)} {news0 l1 l2 l3 l4 : List (Addr × Obj)}
    (B : Below A₀ base outer h₀) (F : Fr h₀ L s.heap m) (X : (Mine.hd.heap_1 w.params).In h₀) (N : News h₀ L s.heap news0) (T : Top Mine.hd.view_1 loose mean mg mb h₀) (hk : cs.kind = .function) (hx0 : (x, instObj 157 dx) ∈ news0) (hd0 : (dx, bookDict w t1 t2 t3 t4 Tt AN Fs FN) ∈ news0) (p1 : Pick Tt oT news0 l1) (p2 : Pick AN oA l1 l2) (p3 : Pick Fs oF l2 l3) (p4 : Pick FN oN l3 l4)
    (mx : (x, instObj 157 dx) ∈ l4) (md : (dx, bookDict w t1 t2 t3 t4 Tt AN Fs FN) ∈ l4) (hA : AtomObj w oT oA ts) (hlA : ts.length ≤ 100) (loA : (AN == sysModules) = false) (hF : FunObj w l4 oF oN gs) (hlF : gs.length ≤ 100) (loF : (FN == sysModules) = false) (h4 : Four Tt AN Fs FN)
    (oT1 : ∀ p ∈ l4, p.1 ≠ Tt) (oA1 : ∀ p ∈ l4, p.1 ≠ AN) (oF1 : ∀ p ∈ l4, p.1 ≠ Fs) (oN1 : ∀ p ∈ l4, p.1 ≠ FN) (hd : dp + 2 < recursionLimit) (hu : un + 8 * 2 + 64 < cLine)
    (ret : ∀ oT' oA' oF' oN' tl h' tk' t', AtomObj w oT' oA' (sput ts tx) → FunObj w (l4 ++ tl) oF' oN' (gput gs (tno (sput ts tx) tx, n)) → Tups tl → Fresh l4 tl → Fr h₀ L h' m → News h₀ L h' ((Tt, oT') :: (AN, oA') :: (Fs, oF') :: (FN, oN') :: (l4 ++ tl)) →
      Q (.int (gno 0 (gput gs (tno (sput ts tx) tx, n)) (tno (sput ts tx) tx, n)) t') { s with heap := h', toks := tk' }) :
    wpAny (model PySem.Challenge.rw_sa0142_01.row.prog w) (ktrTop dp un gd cn cs L a ccd cl outer) (call (.ref 112) [.ref x, .str tx t, .int n tn]) Q E s :=
  func_useC (core := l4) B F X N T hk hx0 hd0 p1 p2 p3 p4 mx md hA hlA loA hF Sub.rfl hlF loF h4 oT1 oA1 oF1 oN1 hd hu ret

def funsNo : List (Int × Int) := funs32.map fun p => (tno atoms29 p.1, p.2)
theorem atoms_step : ∀ i : Fin 29, sput (atoms29.take i.1) (atoms29[i.1]'(Nat.lt_of_lt_of_le i.2 (by decide))) = atoms29.take (i.1 + 1) := by decide +kernel
theorem funs_step1 : ∀ i : Fin 32, sput atoms29 (funs32[i.1]'(Nat.lt_of_lt_of_le i.2 (by decide))).1 = atoms29 := by decide +kernel
theorem funs_step2 : ∀ i : Fin 32, gput (funsNo.take i.1) (tno atoms29 (funs32[i.1]'(Nat.lt_of_lt_of_le i.2 (by decide))).1, (funs32[i.1]'(Nat.lt_of_lt_of_le i.2 (by decide))).2) = funsNo.take (i.1 + 1) := by decide +kernel
theorem take_small {α : Type} {l : List α} {i n : Nat} (h : l.length ≤ n) : (l.take i).length ≤ n := Nat.le_trans (by rw [List.length_take]; exact Nat.min_le_right _ _) h
theorem FRows.at {l : List (Addr × Obj)} : ∀ {vs : List Value} {fs : List (Str × Int)}, FRows l vs fs → ∀ {i : Nat} {v : Value}, vs[i]? = some v → ∃ b y n t u k, fs[i]? = some (y, n) ∧ v = .ref b ∧ (b, ({ cls := .type "tuple", data := .seq #[.str y t, .int n u] k } : Obj)) ∈ l
  | _, _, .nil, i, _, e => by simp at e
  | _, _, .cons (b := b) (x := y) (n := n) (t := t) (u := u) (k := k) h r, i, v, e => by
    cases i with
    | zero => simp only [List.getElem?_cons_zero, Option.some.injEq] at e; exact ⟨b, y, n, t, u, k, rfl, e.symm, h⟩
    | succ i => simp only [List.getElem?_cons_succ] at e ⊢; exact r.at e
theorem FRows.len {l : List (Addr × Obj)} : ∀ {vs : List Value} {fs : List (Str × Int)}, FRows l vs fs → vs.length = fs.length
  | _, _, .nil => rfl
  | _, _, .cons _ r => congrArg (· + 1) r.len
theorem off_set2 {I a b : Addr} {o1 o2 o1' o2' : Obj} {l : List (Addr × Obj)} (h : Off I ((a, o1) :: (b, o2) :: l)) : Off I ((a, o1') :: (b, o2') :: l) := by
  intro p hp
  rcases List.mem_cons.mp hp with rfl | hp
  · exact h (a, o1) (.head _)
  rcases List.mem_cons.mp hp with rfl | hp
  · exact h (b, o2) (.tail _ (.head _))
  exact h p (.tail _ (.tail _ hp))
section
variable {w : World} {A : Around} {E : Value → Shared → Prop} {s : Shared} {env : Env} {h₀ : Heap} {x : Str} {body : List Stmt} {Q : Flow → Shared → Prop} {Tt AN Fs FN : Addr} {m₀ : Str → Option Value} {oT oA oF oN : Obj} {news l1 l2 l3 l4 : List (Addr × Obj)} {ax : Addr} {its : List Value} {k : Nat}
def AJ (w : World) (Tt AN : Addr) (l2 : List (Addr × Obj)) (m₀ : Str → Option Value) (x : Str) (i : Nat) (m : Str → Option Value) (nw : List (Addr × Obj)) : Prop :=
  (∃ u : Str → Option Value, m = fun z => if z = x then u z else m₀ z) ∧ ∃ oT oA, nw = (Tt, oT) :: (AN, oA) :: l2 ∧ AtomObj w oT oA (atoms29.take i)
def ATurn (w : World) (A : Around) (E : Value → Shared → Prop) (h₀ : Heap) (env : Env) (x : Str) (body : List Stmt) (Q : Flow → Shared → Prop) (Tt AN Fs FN x0 dx0 : Addr) (t1 t2 t3 t4 : Tok) (m₀ : Str → Option Value) (s : Shared) : Prop :=
  ∀ l2, (x0, instObj 157 dx0) ∈ l2 → (dx0, bookDict w t1 t2 t3 t4 Tt AN Fs FN) ∈ l2 → ∀ i y t oT oA h tk I oI, AtomObj w oT oA (atoms29.take i) → (atoms29.take i).length ≤ 100 → sput (atoms29.take i) y = atoms29.take (i + 1) → Off I ((Tt, oT) :: (AN, oA) :: l2) → @Ne Nat I Tt → @Ne Nat I AN → Off Tt l2 → Off AN l2 →
    Fr h₀ env.locals h (fun z => if z = x then some (.str y t) else m₀ z) → News h₀ env.locals h ((I, oI) :: (Tt, oT) :: (AN, oA) :: l2) →
    wpAny (model thePr w) A (execs body env) (TurnPost h₀ env.locals I oI (AJ w Tt AN l2 m₀ x (i + 1)) { s with heap := h, toks := tk } Q) E { s with heap := h, toks := tk }
def ADone (w : World) (h₀ : Heap) (env : Env) (x : Str) (Q : Flow → Shared → Prop) (Tt AN : Addr) (l2 : List (Addr × Obj)) (m₀ : Str → Option Value) (s : Shared) : Prop :=
  ∀ oT oA h tk (u : Str → Option Value), AtomObj w oT oA atoms29 → Fr h₀ env.locals h (fun z => if z = x then u z else m₀ z) → News h₀ env.locals h ((Tt, oT) :: (AN, oA) :: l2) → Q .next { s with heap := h, toks := tk }
theorem map_over {m₀ : Str → Option Value} {x : Str} {u : Str → Option Value} {v : Option Value} : (fun y => if y = x then v else (fun z => if z = x then u z else m₀ z) y) = fun z => if z = x then v else m₀ z := by
  funext z; by_cases h : z = x <;> simp [h]
theorem atoms_iter {x0 dx0 : Addr} {t1 t2 t3 t4 : Tok} (hh : A.handled = none) (F : Fr h₀ env.locals s.heap m₀) (N : News h₀ env.locals s.heap news) (_ : (dx0, bookDict w t1 t2 t3 t4 Tt AN Fs FN) ∈ news) (pT : Pick Tt oT news l1) (pA : Pick AN oA l1 l2) (hs : StrsAre its atoms29) (hA : AtomObj w oT oA []) (mx : (x0, instObj 157 dx0) ∈ l2) (md : (dx0, bookDict w t1 t2 t3 t4 Tt AN Fs FN) ∈ l2) (hm : (ax, ({ cls := .type "tuple", data := .seq its.toArray k } : Obj)) ∈ l2) (oT1 : Off Tt l2) (oA1 : Off AN l2) (turn : ATurn w A E h₀ env x body Q Tt AN Fs FN x0 dx0 t1 t2 t3 t4 m₀ s) (done : ADone w h₀ env x Q Tt AN l2 m₀ s) :
    wpAny (model thePr w) A (pyIter (.ref ax)) (fun it s₂ => LoopAtV thePr w A h₀ env x body Q E it s₂) E s := by
  refine iter_tup (its := its.toArray) (k := k) (AJ w Tt AN l2 m₀ x) hh F (fun p hp => N p (pT.sub2 pA p hp)) (.tail _ (.tail _ hm)) (fun i m nw hJ => by obtain ⟨_, _, _, rfl, _⟩ := hJ; exact .tail _ (.tail _ hm)) ⟨⟨m₀, by funext z; simp⟩, oT, oA, rfl, hA⟩ ?_ ?_
  · rintro i v m₁ news₁ h tk I oI hv ⟨⟨u, rfl⟩, oT', oA', rfl, hA'⟩ _ hO F₁ N₁
    have hv' : its[i]? = some v := by simpa using hv
    obtain ⟨y, t, rfl, hy⟩ := hs.item i v hv'
    rw [map_over] at F₁
    have hi : i < 29 := by
      have := (List.getElem?_eq_some_iff.mp hy).1
      exact this
    refine turn l2 mx md i y t oT' oA' h tk I oI hA' (take_small (by decide)) ?_ hO (fun e => hO _ (.head _) e.symm) (fun e => hO _ (.tail _ (.head _)) e.symm) oT1 oA1 F₁ N₁
    have e := atoms_step ⟨i, hi⟩
    have e2 : atoms29[i]'(Nat.lt_of_lt_of_le hi (by decide)) = y := Option.some.inj ((List.getElem?_eq_getElem _).symm.trans hy)
    rw [← e2]; exact e
  · rintro m₁ news₁ h tk ⟨⟨u, rfl⟩, oT', oA', rfl, hA'⟩ F₁ N₁
    have e : atoms29.take its.toArray.size = atoms29 := List.take_of_length_le (by rw [List.size_toArray, strs_len hs]; exact Nat.le_refl _)
    rw [e] at hA'
    exact done oT' oA' h tk u hA' F₁ N₁

def FJ (w : World) (Tt AN Fs FN : Addr) (l4 : List (Addr × Obj)) (m₀ : Str → Option Value) (x : Str) (i : Nat) (m : Str → Option Value) (nw : List (Addr × Obj)) : Prop :=
  (∃ u : Str → Option Value, m = fun z => if z = x then u z else m₀ z) ∧ ∃ oT oA oF oN tl, nw = (Tt, oT) :: (AN, oA) :: (Fs, oF) :: (FN, oN) :: (l4 ++ tl) ∧ AtomObj w oT oA atoms29 ∧ FunObj w (l4 ++ tl) oF oN (funsNo.take i) ∧ Tups tl
def FTurn (w : World) (A : Around) (E : Value → Shared → Prop) (h₀ : Heap) (env : Env) (x : Str) (body : List Stmt) (Q : Flow → Shared → Prop) (Tt AN Fs FN x0 dx0 : Addr) (t1 t2 t3 t4 : Tok) (m₀ : Str → Option Value) (s : Shared) : Prop :=
  ∀ l4, (x0, instObj 157 dx0) ∈ l4 → (dx0, bookDict w t1 t2 t3 t4 Tt AN Fs FN) ∈ l4 → ∀ i y n b t u k oT oA oF oN tl h tk I oI, (b, ({ cls := .type "tuple", data := .seq #[.str y t, .int n u] k } : Obj)) ∈ l4 → AtomObj w oT oA atoms29 → FunObj w (l4 ++ tl) oF oN (funsNo.take i) → (funsNo.take i).length ≤ 100 → sput atoms29 y = atoms29 → gput (funsNo.take i) (tno atoms29 y, n) = funsNo.take (i + 1) → Tups tl →
    (oI.cls == .type "tuple") = false → Off I ((Tt, oT) :: (AN, oA) :: (Fs, oF) :: (FN, oN) :: (l4 ++ tl)) → @Ne Nat I Tt → @Ne Nat I AN → @Ne Nat I Fs → @Ne Nat I FN → Off Tt (l4 ++ tl) → Off AN (l4 ++ tl) → Off Fs (l4 ++ tl) → Off FN (l4 ++ tl) →
    Fr h₀ env.locals h (fun z => if z = x then some (.ref b) else m₀ z) → News h₀ env.locals h ((I, oI) :: (Tt, oT) :: (AN, oA) :: (Fs, oF) :: (FN, oN) :: (l4 ++ tl)) →
    wpAny (model thePr w) A (execs body env) (TurnPost h₀ env.locals I oI (FJ w Tt AN Fs FN l4 m₀ x (i + 1)) { s with heap := h, toks := tk } Q) E { s with heap := h, toks := tk }
def FDone (w : World) (h₀ : Heap) (env : Env) (x : Str) (Q : Flow → Shared → Prop) (Tt AN Fs FN : Addr) (l4 : List (Addr × Obj)) (m₀ : Str → Option Value) (s : Shared) : Prop :=
  ∀ oT oA oF oN tl h tk (u : Str → Option Value), AtomObj w oT oA atoms29 → FunObj w (l4 ++ tl) oF oN funsNo → Tups tl → Fr h₀ env.locals h (fun z => if z = x then u z else m₀ z) → News h₀ env.locals h ((Tt, oT) :: (AN, oA) :: (Fs, oF) :: (FN, oN) :: (l4 ++ tl)) → Q .next { s with heap := h, toks := tk }
theorem fun_cls {w : World} {l : List (Addr × Obj)} {oF oN : Obj} {gs : List (Int × Int)} (h : FunObj w l oF oN gs) : (oF.cls == .type "tuple") = false ∧ (oN.cls == .type "tuple") = false := by
  obtain ⟨bs, e, rfl, _, _, _, _, h1, _⟩ := h
  exact ⟨lt_ne, by rw [h1.1]; decide⟩
theorem funs_iter {x0 dx0 : Addr} {t1 t2 t3 t4 : Tok} {tl0 : List (Addr × Obj)} (hh : A.handled = none) (F : Fr h₀ env.locals s.heap m₀) (N : News h₀ env.locals s.heap news) (_ : (dx0, bookDict w t1 t2 t3 t4 Tt AN Fs FN) ∈ news) (p1 : Pick Tt oT news l1) (p2 : Pick AN oA l1 l2) (p3 : Pick Fs oF l2 l3) (p4 : Pick FN oN l3 l4) (hm : (ax, ({ cls := .type "tuple", data := .seq its.toArray k } : Obj)) ∈ l4) (hs : FRows tl0 its funs32) (h0 : ∀ p ∈ tl0, p ∈ l4) (hA : AtomObj w oT oA atoms29) (hF : FunObj w l4 oF oN []) (mx : (x0, instObj 157 dx0) ∈ l4) (md : (dx0, bookDict w t1 t2 t3 t4 Tt AN Fs FN) ∈ l4) (oT1 : Off Tt l4) (oA1 : Off AN l4) (oF1 : Off Fs l4) (oN1 : Off FN l4) (turn : FTurn w A E h₀ env x body Q Tt AN Fs FN x0 dx0 t1 t2 t3 t4 m₀ s) (done : FDone w h₀ env x Q Tt AN Fs FN l4 m₀ s) :
    wpAny (model thePr w) A (pyIter (.ref ax)) (fun it s₂ => LoopAtV thePr w A h₀ env x body Q E it s₂) E s := by
  refine iter_tup (its := its.toArray) (k := k) (FJ w Tt AN Fs FN l4 m₀ x) hh F (news := (Tt, oT) :: (AN, oA) :: (Fs, oF) :: (FN, oN) :: (l4 ++ [])) (fun p hp => N p (p1.sub _ ?_)) (.tail _ (.tail _ (.tail _ (.tail _ (List.mem_append.mpr (.inl hm)))))) (fun i m nw hJ => by obtain ⟨_, _, _, _, _, _, rfl, _⟩ := hJ; exact .tail _ (.tail _ (.tail _ (.tail _ (List.mem_append.mpr (.inl hm)))))) ⟨⟨m₀, by funext z; simp⟩, oT, oA, oF, oN, [], rfl, hA, by rw [List.append_nil]; exact hF, Tups.nil⟩ ?_ ?_
  · rcases List.mem_cons.mp hp with rfl | hp
    · exact .head _
    refine .tail _ (p2.sub _ ?_)
    rcases List.mem_cons.mp hp with rfl | hp
    · exact .head _
    refine .tail _ (p3.sub _ ?_)
    rcases List.mem_cons.mp hp with rfl | hp
    · exact .head _
    refine .tail _ (p4.sub _ ?_)
    rcases List.mem_cons.mp hp with rfl | hp
    · exact .head _
    rw [List.append_nil] at hp
    exact .tail _ hp
  · rintro i v m₁ news₁ h tk I oI hv ⟨⟨u, rfl⟩, oT', oA', oF', oN', tl, rfl, hA', hF', ht⟩ hc hO F₁ N₁
    have hv' : its[i]? = some v := by simpa using hv
    obtain ⟨b, y, n, t, u', k', hy, rfl, hb⟩ := hs.at hv'
    rw [map_over] at F₁
    have hi : i < 32 := (List.getElem?_eq_some_iff.mp hy).1
    have e2 : funs32[i]'(Nat.lt_of_lt_of_le hi (by decide)) = (y, n) := Option.some.inj ((List.getElem?_eq_getElem _).symm.trans hy)
    have e3 := funs_step1 ⟨i, hi⟩
    have e4 := funs_step2 ⟨i, hi⟩
    simp only [e2] at e3 e4
    have off : ∀ {D : Addr} {o : Obj}, (D, o) ∈ (I, oI) :: (Tt, oT') :: (AN, oA') :: (Fs, oF') :: (FN, oN') :: (l4 ++ tl) → (o.cls == .type "tuple") = false → Off D l4 → Off D (l4 ++ tl) := fun hD hc' h1 p hp => by
      rcases List.mem_append.mp hp with hp | hp
      · exact h1 p hp
      · exact off_tups ht N₁ hD hc' (fun q hq => .tail _ (.tail _ (.tail _ (.tail _ (.tail _ (List.mem_append.mpr (.inr hq))))))) p hp
    refine turn l4 mx md i y n b t u' k' oT' oA' oF' oN' tl h tk I oI (h0 _ hb) hA' hF' (take_small (by decide)) e3 e4 ht (by rw [hc]; decide) hO (fun e => hO _ (.head _) e.symm) (fun e => hO _ (.tail _ (.head _)) e.symm) (fun e => hO _ (.tail _ (.tail _ (.head _))) e.symm) (fun e => hO _ (.tail _ (.tail _ (.tail _ (.head _)))) e.symm)
      (off (.tail _ (.head _)) (atom_cls hA').1 oT1) (off (.tail _ (.tail _ (.head _))) (atom_cls hA').2 oA1) (off (.tail _ (.tail _ (.tail _ (.head _)))) (fun_cls hF').1 oF1) (off (.tail _ (.tail _ (.tail _ (.tail _ (.head _))))) (fun_cls hF').2 oN1) F₁ N₁
  · rintro m₁ news₁ h tk ⟨⟨u, rfl⟩, oT', oA', oF', oN', tl, rfl, hA', hF', ht⟩ F₁ N₁
    have e : funsNo.take its.toArray.size = funsNo := List.take_of_length_le (by rw [List.size_toArray, hs.len]; exact Nat.le_refl _)
    rw [e] at hF'
    exact done oT' oA' oF' oN' tl h tk u hA' hF' ht F₁ N₁
theorem TurnEnd.intro2 {h₀ : Heap} {L I : Addr} {oI : Obj} {J : (Str → Option Value) → List (Addr × Obj) → Prop} {s₁ : Shared} {h' : Heap} {tk : Nat} {m' : Str → Option Value} {all news' : List (Addr × Obj)} (F : Fr h₀ L h' m') (j : J m' news') (N : News h₀ L h' all) (pk : Pick I oI all news') (off : Off I news') :
    TurnEnd h₀ L I oI J s₁ { s₁ with heap := h', toks := tk } := TurnEnd.intro F N pk off j
theorem AJ.intro {l2 : List (Addr × Obj)} {v : Option Value} {i : Nat} {y : Str} (he : sput (atoms29.take i) y = atoms29.take (i + 1)) (hA : AtomObj w oT oA (sput (atoms29.take i) y)) : AJ w Tt AN l2 m₀ x (i + 1) (fun z => if z = x then v else m₀ z) ((Tt, oT) :: (AN, oA) :: l2) :=
  ⟨⟨fun _ => v, rfl⟩, oT, oA, rfl, he ▸ hA⟩
theorem FJ.intro {I : Addr} {oI : Obj} {tl tl' : List (Addr × Obj)} {v : Option Value} {i : Nat} {y : Str} {n : Int} (he : sput atoms29 y = atoms29) (hg : gput (funsNo.take i) (tno atoms29 y, n) = funsNo.take (i + 1)) (hA : AtomObj w oT oA (sput atoms29 y)) (hc : (oI.cls == .type "tuple") = false)
    (hF : FunObj w ((I, oI) :: (l4 ++ tl) ++ tl') oF oN (gput (funsNo.take i) (tno (sput atoms29 y) y, n))) (ht : Tups tl) (ht' : Tups tl') : FJ w Tt AN Fs FN l4 m₀ x (i + 1) (fun z => if z = x then v else m₀ z) ((Tt, oT) :: (AN, oA) :: (Fs, oF) :: (FN, oN) :: (l4 ++ (tl ++ tl'))) := by
  rw [he] at hA hF
  rw [hg] at hF
  refine ⟨⟨fun _ => v, rfl⟩, oT, oA, oF, oN, tl ++ tl', rfl, hA, ?_, Tups.app ht ht'⟩
  obtain ⟨bs, e, h1, h2, es, ep, xs, g1, g2, g3, g4, g5, g6⟩ := hF
  have sub : ∀ p ∈ (I, oI) :: (l4 ++ tl) ++ tl', p.2.cls = .type "tuple" → p ∈ l4 ++ (tl ++ tl') := fun p hp hc' => by
    rcases List.mem_append.mp hp with hp | hp
    · rcases List.mem_cons.mp hp with rfl | hp
      · exact cls_no hc hc'
      · rcases List.mem_append.mp hp with hp | hp
        · exact List.mem_append.mpr (.inl hp)
        · exact List.mem_append.mpr (.inr (List.mem_append.mpr (.inl hp)))
    · exact List.mem_append.mpr (.inr (List.mem_append.mpr (.inr hp)))
  refine ⟨bs, e, h1, h2.mono2 sub, es, ep, xs, g1, g2, g3, g4, fun x hx => ?_, g6⟩
  obtain ⟨ok, mo, t⟩ := g5 x hx
  exact ⟨ok, sub _ mo t.1, t⟩
theorem off_set4 {I a b c d : Addr} {o1 o2 o3 o4 o1' o2' o3' o4' oI : Obj} {l tl tl' lf : List (Addr × Obj)} {h₀ h : Heap} {L : Addr} (hO : Off I ((a, o1) :: (b, o2) :: (c, o3) :: (d, o4) :: (l ++ tl))) (N : News h₀ L h lf) (mI : (I, oI) ∈ lf) (hc : (oI.cls == .type "tuple") = false) (ht : Tups tl') (hs : ∀ p ∈ tl', p ∈ lf) :
    Off I ((a, o1') :: (b, o2') :: (c, o3') :: (d, o4') :: (l ++ (tl ++ tl'))) := by
  intro p hp
  rcases List.mem_cons.mp hp with rfl | hp
  · exact hO (a, o1) (.head _)
  rcases List.mem_cons.mp hp with rfl | hp
  · exact hO (b, o2) (.tail _ (.head _))
  rcases List.mem_cons.mp hp with rfl | hp
  · exact hO (c, o3) (.tail _ (.tail _ (.head _)))
  rcases List.mem_cons.mp hp with rfl | hp
  · exact hO (d, o4) (.tail _ (.tail _ (.tail _ (.head _))))
  rw [← List.append_assoc] at hp
  rcases List.mem_append.mp hp with hp | hp
  · exact hO p (.tail _ (.tail _ (.tail _ (.tail _ hp))))
  · exact off_tups ht N mI hc hs p hp
end
theorem atom_empty {w : World} {e : Nat} {o : Obj} (hd : o.IsDictOf (strKind thePr w) []) (hf : PyProof.V.FlatPairs PyData.str ([] : List (Str × Value)) []) : AtomObj w (listOf #[] e) o [] := ⟨[], e, [], rfl, .nil, hd, hf⟩
theorem fun_empty {w : World} {l : List (Addr × Obj)} {e : Nat} {o : Obj} (hd : o.IsDictOf (strKind thePr w) []) : FunObj w l (listOf #[] e) o [] := by
  obtain ⟨es, ep, hc, hdat, _, hp, _⟩ := hd
  exact ⟨[], e, rfl, .nil, es, ep, [], hc, hdat, List.length_eq_zero_iff.mp hp.length, List.nodup_nil, fun _ hx => by simp at hx, .nil⟩
def BookRes (w : World) (news : List (Addr × Obj)) (r : Value) (news' : List (Addr × Obj)) : Prop :=
  ∃ x dx Tt AN Fs FN t1 t2 t3 t4 oT oA oF oN tl, r = .ref x ∧ AtomObj w oT oA atoms29 ∧ FunObj w (news ++ tl) oF oN funsNo ∧ (AN == sysModules) = false ∧ (FN == sysModules) = false ∧ Four Tt AN Fs FN ∧ Tups tl ∧       Fresh news [(Tt, oT), (AN, oA), (Fs, oF), (FN, oN), (x, instObj 157 dx), (dx, bookDict w t1 t2 t3 t4 Tt AN Fs FN)] ∧ Off Tt ((x, instObj 157 dx) :: (dx, bookDict w t1 t2 t3 t4 Tt AN Fs FN) :: (news ++ tl)) ∧ Off AN ((x, instObj 157 dx) :: (dx, bookDict w t1 t2 t3 t4 Tt AN Fs FN) :: (news ++ tl)) ∧ Off Fs ((x, instObj 157 dx) :: (dx, bookDict w t1 t2 t3 t4 Tt AN Fs FN) :: (news ++ tl)) ∧ Off FN ((x, instObj 157 dx) :: (dx, bookDict w t1 t2 t3 t4 Tt AN Fs FN) :: (news ++ tl)) ∧        news' = (Tt, oT) :: (AN, oA) :: (Fs, oF) :: (FN, oN) :: (x, instObj 157 dx) :: (dx, bookDict w t1 t2 t3 t4 Tt AN Fs FN) :: (news ++ tl)
theorem off_two {D x dx : Addr} {o o' : Obj} {l : List (Addr × Obj)} (h1 : @LT.lt Nat _ x D) (h2 : @LT.lt Nat _ dx D) (r : Off D l) : Off D ((x, o) :: (dx, o') :: l) := fun p hp => by
  rcases List.mem_cons.mp hp with rfl | hp
  · exact Nat.ne_of_lt h1
  rcases List.mem_cons.mp hp with rfl | hp
  · exact Nat.ne_of_lt h2
  exact r p hp
theorem book_fin {w : World} {h₀ h : Heap} {L x dx Tt AN Fs FN a1 a2 : Addr} {m : Str → Option Value} {news tl0 tl : List (Addr × Obj)} {s : Shared} {Q : Value → Shared → Prop} {tk : Nat} {oT oA oF oN : Obj} {its1 its2 : Array Value} {k1 k2 : Nat} {t1 t2 t3 t4 : Tok}
    (hret : ∀ r news' h' tk', Fr h₀ L h' m → News h₀ L h' news' → BookRes w news r news' → Q r { s with heap := h', toks := tk' }) (F : Fr h₀ L h m)
    (N : News h₀ L h ((Tt, oT) :: (AN, oA) :: (Fs, oF) :: (FN, oN) :: ((a2, ({ cls := .type "tuple", data := .seq its2 k2 } : Obj)) :: (a1, ({ cls := .type "tuple", data := .seq its1 k1 } : Obj)) :: (x, instObj 157 dx) :: (dx, bookDict w t1 t2 t3 t4 Tt AN Fs FN) :: (news ++ tl0) ++ tl)))
    (hA : AtomObj w oT oA atoms29) (hF : FunObj w ((a2, ({ cls := .type "tuple", data := .seq its2 k2 } : Obj)) :: (a1, ({ cls := .type "tuple", data := .seq its1 k1 } : Obj)) :: (x, instObj 157 dx) :: (dx, bookDict w t1 t2 t3 t4 Tt AN Fs FN) :: (news ++ tl0) ++ tl) oF oN funsNo)
    (lo1 : (AN == sysModules) = false) (lo2 : (FN == sysModules) = false) (ht0 : Tups tl0) (ht : Tups tl) (f : ∀ q ∈ news, @LT.lt Nat _ q.1 dx) (n0 : @LT.lt Nat _ dx x) (n1 : @LT.lt Nat _ x Tt) (n2 : @LT.lt Nat _ Tt AN) (n3 : @LT.lt Nat _ AN Fs) (n4 : @LT.lt Nat _ Fs FN) :
    Q (.ref x) { s with heap := h, toks := tk } := by
  have hT : Tups ((a2, ({ cls := .type "tuple", data := .seq its2 k2 } : Obj)) :: (a1, ({ cls := .type "tuple", data := .seq its1 k1 } : Obj)) :: (tl0 ++ tl)) := Tups.cons (Tups.cons (Tups.app ht0 ht))
  have sub : ∀ p, p ∈ (a2, ({ cls := .type "tuple", data := .seq its2 k2 } : Obj)) :: (a1, ({ cls := .type "tuple", data := .seq its1 k1 } : Obj)) :: (x, instObj 157 dx) :: (dx, bookDict w t1 t2 t3 t4 Tt AN Fs FN) :: (news ++ tl0) ++ tl ↔ p ∈ (x, instObj 157 dx) :: (dx, bookDict w t1 t2 t3 t4 Tt AN Fs FN) :: (news ++ ((a2, ({ cls := .type "tuple", data := .seq its2 k2 } : Obj)) :: (a1, ({ cls := .type "tuple", data := .seq its1 k1 } : Obj)) :: (tl0 ++ tl))) := fun p => by
    simp only [List.mem_cons, List.mem_append, List.cons_append]
    constructor
    · rintro (hp | hp | hp | hp | (hp | hp) | hp)
      all_goals (simp only [hp, true_or, or_true])
    · rintro (hp | hp | hp | hp | hp | hp | hp)
      all_goals (simp only [hp, true_or, or_true])
  have N2 : News h₀ L h ((Tt, oT) :: (AN, oA) :: (Fs, oF) :: (FN, oN) :: (x, instObj 157 dx) :: (dx, bookDict w t1 t2 t3 t4 Tt AN Fs FN) :: (news ++ ((a2, ({ cls := .type "tuple", data := .seq its2 k2 } : Obj)) :: (a1, ({ cls := .type "tuple", data := .seq its1 k1 } : Obj)) :: (tl0 ++ tl)))) := fun p hp => N p (by
    rcases List.mem_cons.mp hp with rfl | hp
    · exact .head _
    rcases List.mem_cons.mp hp with rfl | hp
    · exact .tail _ (.head _)
    rcases List.mem_cons.mp hp with rfl | hp
    · exact .tail _ (.tail _ (.head _))
    rcases List.mem_cons.mp hp with rfl | hp
    · exact .tail _ (.tail _ (.tail _ (.head _)))
    exact .tail _ (.tail _ (.tail _ (.tail _ ((sub p).mpr hp)))))
  have off : ∀ {D : Addr} {o : Obj}, (D, o) ∈ (Tt, oT) :: (AN, oA) :: (Fs, oF) :: (FN, oN) :: (x, instObj 157 dx) :: (dx, bookDict w t1 t2 t3 t4 Tt AN Fs FN) :: (news ++ ((a2, ({ cls := .type "tuple", data := .seq its2 k2 } : Obj)) :: (a1, ({ cls := .type "tuple", data := .seq its1 k1 } : Obj)) :: (tl0 ++ tl))) → (o.cls == .type "tuple") = false → @LT.lt Nat _ dx D → Off D (news ++ ((a2, ({ cls := .type "tuple", data := .seq its2 k2 } : Obj)) :: (a1, ({ cls := .type "tuple", data := .seq its1 k1 } : Obj)) :: (tl0 ++ tl))) := fun hD hc hlt p hp => by
    rcases List.mem_append.mp hp with hp | hp
    · exact Nat.ne_of_lt (Nat.lt_trans (f p hp) hlt)
    · exact off_tups hT N2 hD hc (fun q hq => .tail _ (.tail _ (.tail _ (.tail _ (.tail _ (.tail _ (List.mem_append.mpr (.inr hq)))))))) p hp
  have hF' : FunObj w (news ++ ((a2, ({ cls := .type "tuple", data := .seq its2 k2 } : Obj)) :: (a1, ({ cls := .type "tuple", data := .seq its1 k1 } : Obj)) :: (tl0 ++ tl))) oF oN funsNo := by
    obtain ⟨bs, e, h1, h2, es, ep, xs, g1, g2, g3, g4, g5, g6⟩ := hF
    have sub2 : ∀ p ∈ (a2, ({ cls := .type "tuple", data := .seq its2 k2 } : Obj)) :: (a1, ({ cls := .type "tuple", data := .seq its1 k1 } : Obj)) :: (x, instObj 157 dx) :: (dx, bookDict w t1 t2 t3 t4 Tt AN Fs FN) :: (news ++ tl0) ++ tl, p.2.cls = .type "tuple" → p ∈ news ++ ((a2, ({ cls := .type "tuple", data := .seq its2 k2 } : Obj)) :: (a1, ({ cls := .type "tuple", data := .seq its1 k1 } : Obj)) :: (tl0 ++ tl)) := fun p hp hc' => by
      rcases List.mem_cons.mp ((sub p).mp hp) with rfl | hp
      · cases hc'
      rcases List.mem_cons.mp hp with rfl | hp
      · exact absurd (show Value.type "dict" = Value.type "tuple" from hc') (by decide)
      exact hp
    refine ⟨bs, e, h1, h2.mono2 sub2, es, ep, xs, g1, g2, g3, g4, fun x hx => ?_, g6⟩
    obtain ⟨ok, mo, t⟩ := g5 x hx
    exact ⟨ok, sub2 _ mo t.1, t⟩
  have c1 := atom_cls hA
  have c2 := fun_cls hF
  refine hret _ _ h tk F N2 ⟨x, dx, Tt, AN, Fs, FN, t1, t2, t3, t4, oT, oA, oF, oN, _, rfl, hA, hF', lo1, lo2, ⟨Nat.ne_of_lt n2, Nat.ne_of_lt (by omega), Nat.ne_of_lt (by omega), Nat.ne_of_lt n3, Nat.ne_of_lt (by omega), Nat.ne_of_lt n4⟩, hT,
    Fresh.cons (fun q hq => by have := f q hq; omega) (Fresh.cons (fun q hq => by have := f q hq; omega) (Fresh.cons (fun q hq => by have := f q hq; omega) (Fresh.cons (fun q hq => by have := f q hq; omega) (Fresh.cons (fun q hq => by have := f q hq; omega) (Fresh.cons f Fresh.nil))))),
    off_two (by omega) (by omega) (off (.head _) c1.1 (by omega)), off_two (by omega) (by omega) (off (.tail _ (.head _)) c1.2 (by omega)), off_two (by omega) (by omega) (off (.tail _ (.tail _ (.head _))) c2.1 (by omega)), off_two (by omega) (by omega) (off (.tail _ (.tail _ (.tail _ (.head _)))) c2.2 (by omega)), rfl⟩
def BookSpec : Prop := ∀ {w : World} {news : List (Addr × Obj)},
    Tri (Mine.hd.heap_1 w.params) w 157 5 [] news (fun r news' => BookRes w news r news')


theorem said20 : True := by
  k_with "my k_mem9" => first | exact List.Mem.head _ | assumption | (refine' List.Mem.tail _ ?_; k_mem) | (refine' List.mem_append.mpr (Or.inl ?_); k_mem) | (refine' List.mem_append.mpr (Or.inr ?_); k_mem) | fail "9"
  k_with "my myfresh" => first | exact Fresh.nil | (refine Fresh.cons ?_ ?_ <;> k_extra "my myfresh") | (refine Fresh.app ?_ ?_ <;> k_extra "my myfresh") | exact Fresh.sub (by assumption) (by k_extra "my sb9") | exact lt_sub (by assumption) (by k_extra "my sb9") | exact tb_ltOf (by tbn_find) | exact lt_sub (tb_ltOf (by tbn_find)) (fun _ h => List.mem_append.mpr (.inl h)) | exact lt_sub (tb_ltOf (by tbn_find)) (fun _ h => List.mem_append.mpr (.inl (List.mem_append.mpr (.inl h)))) | fail "9"
  k_with "my k_all9" => first | exact Off.all (by assumption) | (refine' List.forall_mem_cons.mpr ⟨?a, ?b⟩; (case a => first | assumption | exact Ne.symm (by assumption)); (case b => k_all)) | fail "9"
  k_with "my call ref" => (k_here; (with_reducible show wpAny _ _ (call (Value.ref 63) _) _ _ _); k_dflt (refine' atoms_use (by k_asm) (by k_asm) (by k_asm) (by k_asm) (by k_asm) (by k_extra "my hk9") (by k_extra "my hd9") (by k_extra "my hu9") ?_; k_whole; intro _ _ _ _ _ _ l1; intros; (try k_lt l1); k_extra "my end9"))
  k_with "my call ref" => (k_here; (with_reducible show wpAny _ _ (call (Value.ref 70) _) _ _ _); k_dflt (refine' funs_use (by k_asm) (by k_asm) (by k_asm) (by k_asm) (by k_asm) (by k_extra "my hk9") (by k_extra "my hd9") (by k_extra "my hu9") ?_; k_whole; intro _ _ _ _ _ _ _ _ _ l1; intros; (try k_lt l1); k_extra "my norm9"; k_extra "my end9"))
  k_with "my call ref" => (k_here; (with_reducible show wpAny _ _ (call (Value.ref 91) _) _ _ _); k_dflt (refine' atom_use (by k_asm) (by k_asm) (by k_asm) (by k_asm) (by k_asm) (by k_extra "my hk9") (by k_mem) (by k_mem) (by k_extra "my pick9") (by k_extra "my pick9") (by k_mem) (by k_mem) (by assumption) (by first | assumption | omega) (by assumption) (by first | assumption | k_ne) (by k_all) (by k_all) (by k_extra "my hd9") (by k_extra "my hu9") ?_; k_whole; intros; k_extra "my end9"))
  k_with "my call ref" => (k_here; (with_reducible show wpAny _ _ (call (Value.ref 112) _) _ _ _); k_dflt (refine' func_use (by k_asm) (by k_asm) (by k_asm) (by k_asm) (by k_asm) (by k_extra "my hk9") (by k_mem) (by k_mem) (by k_extra "my pick9") (by k_extra "my pick9") (by k_extra "my pick9") (by k_extra "my pick9") (by k_mem) (by k_mem) (by assumption) (by first | assumption | decide) (by assumption) (by (refine' FunObj.mono ?h9 ?s9; (case h9 => assumption); (case s9 => k_extra "my sb9"))) (by assumption) (by assumption) (by first | assumption | exact ⟨by k_ne, by k_ne, by k_ne, by k_ne, by k_ne, by k_ne⟩) (by k_all) (by k_all) (by k_all) (by k_all) (by k_extra "my hd9") (by k_extra "my hu9") ?_; k_whole; intro _ _ _ _ _ h9; intros; k_extra "my norm9"; k_extra "my end9"))
  k_with "my pyIter ref" => (k_here; (with_reducible show wpAny _ _ (pyIter (Value.ref _)) (fun it s₂ => LoopAtV _ _ _ _ _ (Str.ofString "text") _ _ _ it s₂) _ _); k_dflt (refine' atoms_iter (by rfl) (by k_asm) (by k_asm) (by k_mem) (by k_extra "my pick9") (by k_extra "my pick9") (by assumption) (by exact atom_empty (by assumption) (by assumption)) (by k_mem) (by k_mem) (by k_mem) (by k_all) (by k_all) ?_ ?_))
  k_with "my ATurn" => (unfold ATurn; intros)
  k_with "my ADone" => (unfold ADone; intros)
  k_with "my pyIter ref" => (k_here; (with_reducible show wpAny _ _ (pyIter (Value.ref _)) (fun it s₂ => LoopAtV _ _ _ _ _ (Str.ofString "row") _ _ _ it s₂) _ _); k_dflt (refine' funs_iter (by rfl) (by k_asm) (by k_asm) (by k_mem) (by k_extra "my pick9") (by k_extra "my pick9") (by k_extra "my pick9") (by k_extra "my pick9") (by exact List.Mem.head _) (by assumption) (by k_extra "my sb9") (by assumption) (by exact fun_empty (by assumption)) (by k_mem) (by k_mem) (by k_extra "my myoffs") (by k_extra "my myoffs") (by k_extra "my myoffs") (by k_extra "my myoffs") ?_ ?_))
  k_with "my FTurn" => (unfold FTurn; intros)
  k_with "my FDone" => (unfold FDone; intros)
  k_with "my TurnPost" => dsimp only [TurnPost]
  k_with "my TurnEnd" => k_dflt (first | (refine' TurnEnd.intro (by assumption) (by assumption) (by k_extra "my pick9") (by exact off_set2 (by assumption)) (by exact AJ.intro (by assumption) (by assumption))) | (refine' TurnEnd.intro2 (news' := _ :: _ :: _ :: _ :: (_ ++ (_ ++ _))) (by assumption) (by exact FJ.intro (by assumption) (by assumption) (by assumption) (by assumption) (by assumption) (by assumption) (by assumption)) (by assumption) (by (rw [← List.append_assoc]; k_extra "my pick9")) (by exact off_set4 (by assumption) (by assumption) (by k_mem) (by assumption) (by assumption) (by k_extra "my sb9"))))
  k_with "my myoffs" => first | k_all | (refine List.forall_mem_cons.mpr ⟨?a9, ?b9⟩; (case a9 => k_ne); (case b9 => k_extra "my myoffs")) | (refine List.forall_mem_append.mpr ⟨?a9, ?b9⟩; (case a9 => k_extra "my myoffs"); (case b9 => k_extra "my myoffs")) | exact off_tups (by assumption) (by k_asm) (by k_mem) (atom_cls (by assumption)).1 (by k_extra "my sb9") | exact off_tups (by assumption) (by k_asm) (by k_mem) (atom_cls (by assumption)).2 (by k_extra "my sb9") | exact off_tups (by assumption) (by k_asm) (by k_mem) lt_ne (by k_extra "my sb9") | exact off_tups (by assumption) (by k_asm) (by k_mem) (fun_cls (fun_empty (w := _) (l := []) (e := 0) (by assumption))).2 (by k_extra "my sb9") | fail "9"
  trivial
set_option maxHeartbeats 8000000 in
theorem book_spec : BookSpec := by
  intro w news
  unfold Tri
  k_fill
  intro loose mean mg mb dp un gd cn cs a ccd cl outer A₀ base h₀ L m s Q E B F X N T hk hd hu hret
  k_dflt (refine' call_cls ?k1 ?k2 ?k3 ?k4 ?k5 ?k6 ?_; (case k1 => k_asm); (case k2 => k_asm); (case k3 => k_asm); (case k4 => k_is); (case k5 => k_is); (case k6 => k_is))
  intro x dx h' F' N' l1 l2
  (try k_lt l1); (try k_lt2 l2)
  k_dflt ktr_enter
  k_steps
  all_goals (refine' book_fin hret ?F ?N ?A ?G ?l1 ?l2 ?t0 ?t ?f ?n0 ?n1 ?n2 ?n3 ?n4; (case F => k_asm); (case N => k_asm); (case A => assumption); (case G => assumption); (case l1 => assumption); (case l2 => assumption); (case t0 => assumption); (case t => assumption); (case f => assumption); (case n0 => assumption); (case n1 => ((try dsimp only); omega)); (case n2 => ((try dsimp only); omega)); (case n3 => ((try dsimp only); omega)); (case n4 => ((try dsimp only); omega)))
end
section
def BookR (w : World) (l : List (Addr × Obj)) (x : Addr) (ts : List Str) (gs : List (Int × Int)) : Prop :=
  ∃ dx Tt AN Fs FN t1 t2 t3 t4 oT oA oF oN, (x, instObj 157 dx) ∈ l ∧ (dx, bookDict w t1 t2 t3 t4 Tt AN Fs FN) ∈ l ∧ (Tt, oT) ∈ l ∧ (Fs, oF) ∈ l ∧ AtomObj w oT oA ts ∧ FunObj w l oF oN gs
theorem said21 : True := by
  k_with_none
  k_with "my ltc" => first | exact j0 (by assumption) | exact j1 (by assumption) | exact j2 (by assumption) | exact j3 (by assumption) | exact j4 (by assumption) | exact j5 (by assumption) | exact j6 (by assumption) | exact j7 (by assumption) | exact j8 (by assumption) | exact j9 (by assumption) | exact j10 (by assumption) | fail "9"
  k_with "my trc0" => first | assumption | k_extra "my ltc" | fail "9"
  k_with "my trc" => first | exact t0 (by k_extra "my trc0") | exact t1 (by k_extra "my trc0") | exact t2 (by k_extra "my trc0") | fail "9"
  k_with "my k_ne9" => (refine neN ?_; (try dsimp only); first | assumption | exact Ne.symm (by assumption) | (refine Nat.ne_of_lt ?_; k_extra "my ltc") | (refine Nat.ne_of_gt ?_; k_extra "my ltc") | k_extra "my trc" | (refine Ne.symm ?_; k_extra "my trc") | fail "9")
  k_with "my le9" => first | exact Nat.le_refl _ | exact Nat.le_of_ble_eq_true rfl | exact Nat.succ_le_succ (Nat.zero_le _) | assumption | exact Nat.succ_le_succ (Nat.le_max_left _ _) | exact Nat.succ_le_succ (Nat.le_max_right _ _) | exact Nat.succ_le_succ (Nat.succ_le_succ (Nat.zero_le _)) | exact Nat.succ_le_succ (Nat.succ_le_succ (Nat.le_max_left _ _)) | exact Nat.succ_le_succ (Nat.succ_le_succ (Nat.le_max_right _ _)) | exact Nat.succ_le_succ (Nat.succ_le_succ (Nat.succ_le_succ (Nat.le_max_left _ _))) | exact Nat.succ_le_succ (Nat.succ_le_succ (Nat.succ_le_succ (Nat.le_max_right _ _))) | fail "9"
  k_with "my ktr_room9" => first | exact room0 (by assumption) | exact room1 (by assumption) (by k_extra "my le9") | exact room2 (by assumption) (by k_extra "my le9") | fail "9"
  k_with "my ktr_units9" => first | exact units1 (by assumption) (by k_extra "my le9") | exact units2 (by assumption) (by k_extra "my le9") | fail "9"
  k_with "my pick9" => (repeat (first | exact Pick.head | apply Pick.tail))
  k_with "my sb9" => (intro p hp; simp only [List.mem_append, List.mem_cons, hp, true_or, or_true])
  k_with "my hk9" => first | exact rfl | assumption | fail "9"
  k_with "my hd9" => first | exact Nat.le_of_ble_eq_true rfl | ktr_room | ((try simp only [depth_deeper, depth_under_make]); (try dsimp only [ktrTop]); first | ktr_room | omega) | fail "9"
  k_with "my hu9" => first | exact Nat.le_of_ble_eq_true rfl | ktr_units | ((try simp only [units_deeper, units_under_make]); (try dsimp only [ktrTop]); first | ktr_units | omega) | fail "9"
  k_with "my norm9" => ((rename News _ _ _ _ => nN9); (try simp only [List.nil_append, List.cons_append, List.append_nil] at nN9))
  k_with "my norm8" => ((rename News _ _ _ _ => nN9); (try simp only [List.nil_append, List.cons_append, List.append_nil, List.append_assoc] at nN9))
  k_with "my end9" => ((try k_sweep); (try dsimp only); (try k_fold))
  trivial
theorem BookR.mono {w : World} {l l' : List (Addr × Obj)} {x : Addr} {ts : List Str} {gs : List (Int × Int)} (h : BookR w l x ts gs) (hs : ∀ p ∈ l, p ∈ l') : BookR w l' x ts gs := by
  obtain ⟨dx, Tt, AN, Fs, FN, t1, t2, t3, t4, oT, oA, oF, oN, h1, h2, h3, h4, h5, h6⟩ := h
  exact ⟨dx, Tt, AN, Fs, FN, t1, t2, t3, t4, oT, oA, oF, oN, hs _ h1, hs _ h2, hs _ h3, hs _ h4, h5, h6.mono hs⟩
theorem item_at {prog : Program} {w : World} {A : Around} {E : Value → Shared → Prop} {s : Shared} {h₀ : Heap} {L D : Addr} {l : List (Addr × Obj)} {vs : List Value} {n : Nat} {d : Int} {u : Tok} {v : Value} {value slice : PySem.Expr} {Q : Value → Shared → Prop}
    (N : News h₀ L s.heap l) (m : (D, listOf vs.toArray n) ∈ l) (h0 : 0 ≤ d) (hz : d < 2 ^ 63) (hx : vs[d.toNat]? = some v) (h : Q v s)
    (hs : subscripted slice false (.ref D) (.int d u) = operate [.ref D, .int d u] (getItem (.ref D) (.int d u)) := by with_unfolding_all rfl) :
    wpAny (model prog w) A (subscriptTail value slice (.ref D) (.int d u)) Q E s :=
  have hL : s.heap.IsList D vs.toArray := PySem.IsL.isList (n := n) (N _ m).1
  tail_any hL.typeIs slot_list_getitem.lookup (wpAny_getItem_list hL h0 hz (by rw [List.getElem?_toArray]; exact hx) h) hs
def TextSpec : Prop := ∀ {w : World} {x : Addr} {ts : List Str} {gs : List (Int × Int)} {k : Int} {t : Tok} {y : Str} {news : List (Addr × Obj)} (_ : BookR w news x ts gs) (_ : 0 ≤ k) (_ : k < 2 ^ 63) (_ : ts[k.toNat]? = some y),
    Tri (Mine.hd.heap_1 w.params) w 98 1 [.ref x, .int k t] news (fun r news' => news' = news ∧ ∃ t, r = .str y t)
def NameSpec : Prop := ∀ {w : World} {x : Addr} {ts : List Str} {gs : List (Int × Int)} {k : Int} {t : Tok} {a n : Int} {news : List (Addr × Obj)} (_ : BookR w news x ts gs) (_ : 0 ≤ k) (_ : k < 2 ^ 63) (_ : gs[k.toNat]? = some (a, n)),
    Tri (Mine.hd.heap_1 w.params) w 119 1 [.ref x, .int k t] news (fun r news' => news' = news ∧ ∃ t, r = .int a t)
def AritySpec : Prop := ∀ {w : World} {x : Addr} {ts : List Str} {gs : List (Int × Int)} {k : Int} {t : Tok} {a n : Int} {news : List (Addr × Obj)} (_ : BookR w news x ts gs) (_ : 0 ≤ k) (_ : k < 2 ^ 63) (_ : gs[k.toNat]? = some (a, n)),
    Tri (Mine.hd.heap_1 w.params) w 126 1 [.ref x, .int k t] news (fun r news' => news' = news ∧ ∃ t, r = .int n t)
/-- a functor's arity and text, by its number -/
def FunAt (ts : List Str) (gs : List (Int × Int)) (k : Int) (n : Int) (y : Str) : Prop := 0 ≤ k ∧ k < 2 ^ 63 ∧ ∃ a, 0 ≤ a ∧ a < 2 ^ 63 ∧ gs[k.toNat]? = some (a, n) ∧ ts[a.toNat]? = some y
def fsign (n n' : Int) (y y' : Str) : Int := if isign n n' = 0 then ssign y y' else isign n n'
def FunctorsSpec : Prop := ∀ {w : World} {x : Addr} {ts : List Str} {gs : List (Int × Int)} {k k' : Int} {t t' : Tok} {n n' : Int} {y y' : Str} {news : List (Addr × Obj)} (_ : BookR w news x ts gs) (_ : FunAt ts gs k n y) (_ : FunAt ts gs k' n' y'),
    Tri (Mine.hd.heap_1 w.params) w 56 2 [.ref x, .int k t, .int k' t'] news (fun r news' => news' = news ∧ ∃ t, r = .int (fsign n n' y y') t)

theorem wholes_use {w : World} {loose : List Str} {mean : ExcName → Option Value} {mg mb : Str → Option Value} {dp un : Nat} {gd : Option (List Code)} {cn : Str} {cs : Scope} {a : Addr} {ccd : Value} {cl : List (Str × Addr)} {outer : List Env} {A₀ : Around} {base h₀ : Heap} {L : Addr} {m : Str → Option Value} {s : Shared} {Q E : Value → Shared → Prop} {news0 : List (Addr × Obj)} {x y : Int} {t u : Tok} 
    (B : Below A₀ base outer h₀) (F : Fr h₀ L s.heap m) (X : (Mine.hd.heap_1 w.params).In h₀) (N : News h₀ L s.heap news0) (T : Top Mine.hd.view_1 loose mean mg mb h₀) (hk : cs.kind = .function) (hd : dp + 1 < recursionLimit) (hu : un + 8 * 1 + 64 < cLine) (ret : ∀ t h' tk', Fr h₀ L h' m → News h₀ L h' news0 → Q (.int (isign x y) t) { s with heap := h', toks := tk' }) :
    wpAny (model PySem.Challenge.rw_sa0142_01.row.prog w) (ktrTop dp un gd cn cs L a ccd cl outer) (call (.ref 42) [.int x t, .int y u]) Q E s :=
  tri_use B F X N T hk (wholes_spec) (fun _ h => h) hd hu (fun r news' h' tk' F' N' h => by
    obtain ⟨rfl, t, rfl⟩ := h
    exact ret t h' tk' F' N')
theorem texts_use {w : World} {loose : List Str} {mean : ExcName → Option Value} {mg mb : Str → Option Value} {dp un : Nat} {gd : Option (List Code)} {cn : Str} {cs : Scope} {a : Addr} {ccd : Value} {cl : List (Str × Addr)} {outer : List Env} {A₀ : Around} {base h₀ : Heap} {L : Addr} {m : Str → Option Value} {s : Shared} {Q E : Value → Shared → Prop} {news0 : List (Addr × Obj)} {x y : Str} {t u : Tok} 
    (B : Below A₀ base outer h₀) (F : Fr h₀ L s.heap m) (X : (Mine.hd.heap_1 w.params).In h₀) (N : News h₀ L s.heap news0) (T : Top Mine.hd.view_1 loose mean mg mb h₀) (hk : cs.kind = .function) (hd : dp + 1 < recursionLimit) (hu : un + 8 * 1 + 64 < cLine) (ret : ∀ t h' tk', Fr h₀ L h' m → News h₀ L h' news0 → Q (.int (ssign x y) t) { s with heap := h', toks := tk' }) :
    wpAny (model PySem.Challenge.rw_sa0142_01.row.prog w) (ktrTop dp un gd cn cs L a ccd cl outer) (call (.ref 35) [.str x t, .str y u]) Q E s :=
  tri_use B F X N T hk (texts_spec) (fun _ h => h) hd hu (fun r news' h' tk' F' N' h => by
    obtain ⟨rfl, t, rfl⟩ := h
    exact ret t h' tk' F' N')
section

theorem said22 : True := by
  k_with "my k_mem9" => first | exact List.Mem.head _ | assumption | (refine' List.Mem.tail _ ?_; k_mem) | (refine' List.mem_append.mpr (Or.inl ?_); k_mem) | (refine' List.mem_append.mpr (Or.inr ?_); k_mem) | fail "9"
  k_with "my subscriptTail Attribute Name Name ref int" => (k_here; (with_reducible show wpAny _ _ (subscriptTail _ _ (Value.ref _) (Value.int _ _)) _ _ _); k_dflt (refine' item_at (by k_asm) (by k_mem) (by assumption) (by assumption) (by assumption) ?_ (by with_unfolding_all rfl); k_whole))
  k_with "my subscriptTail" => (k_here; (with_reducible show wpAny _ _ (subscriptTail _ _ (Value.ref _) (Value.int _ _)) _ _ _); k_dflt (refine' item_at (by k_asm) (by k_mem) (by assumption) (by assumption) (by assumption) ?_ (by with_unfolding_all rfl); k_whole))
  trivial
set_option maxHeartbeats 8000000 in
theorem text_spec : TextSpec := by
  intro w x ts gs k t y news hb h0 hz hy
  obtain ⟨dx, Tt, AN, Fs, FN, t1, t2, t3, t4, oT, oA, oF, oN, h1, h2, h3, h4, ⟨vs, e, kvs, rfl, hs, _, _⟩, h6⟩ := hb
  obtain ⟨tv, hv⟩ := StrsAre.get hs _ _ hy
  unfold Tri
  k_fill
  intro loose mean mg mb dp un gd cn cs a ccd cl outer A₀ base h₀ L m s Q E B F X N T hk hd hu hret
  refine wpAny_call ?_
  k_dflt ktr_enter
  k_steps
  skip
  all_goals (exact hret _ news _ _ (by k_asm) (by k_asm) ⟨rfl, _, rfl⟩)
set_option maxHeartbeats 8000000 in
theorem name_spec : NameSpec := by
  intro w x ts gs k t a0 n0 news hb h0 hz hy
  obtain ⟨dx, Tt, AN, Fs, FN, t1, t2, t3, t4, oT, oA, oF, oN, h1, h2, h3, h4, h5, ⟨bs, e, rfl, hr, _⟩⟩ := hb
  obtain ⟨b, tb, ub, kb, hb, mb⟩ := hr.at hy
  have hv : (bs.map Value.ref)[k.toNat]? = some (.ref b) := by rw [List.getElem?_map, hb]; rfl
  unfold Tri
  k_fill
  intro loose mean mg mb dp un gd cn cs a ccd cl outer A₀ base h₀ L m s Q E B F X N T hk hd hu hret
  refine wpAny_call ?_
  k_dflt ktr_enter
  k_steps
  skip
  all_goals (exact hret _ news _ _ (by k_asm) (by k_asm) ⟨rfl, _, rfl⟩)
set_option maxHeartbeats 8000000 in
theorem arity_spec : AritySpec := by
  intro w x ts gs k t a0 n0 news hb h0 hz hy
  obtain ⟨dx, Tt, AN, Fs, FN, t1, t2, t3, t4, oT, oA, oF, oN, h1, h2, h3, h4, h5, ⟨bs, e, rfl, hr, _⟩⟩ := hb
  obtain ⟨b, tb, ub, kb, hb, mb⟩ := hr.at hy
  have hv : (bs.map Value.ref)[k.toNat]? = some (.ref b) := by rw [List.getElem?_map, hb]; rfl
  unfold Tri
  k_fill
  intro loose mean mg mb dp un gd cn cs a ccd cl outer A₀ base h₀ L m s Q E B F X N T hk hd hu hret
  refine wpAny_call ?_
  k_dflt ktr_enter
  k_steps
  skip
  all_goals (exact hret _ news _ _ (by k_asm) (by k_asm) ⟨rfl, _, rfl⟩)
end
theorem said23 : True := by
  k_with_none
  k_with "my ltc" => first | exact j0 (by assumption) | exact j1 (by assumption) | exact j2 (by assumption) | exact j3 (by assumption) | exact j4 (by assumption) | exact j5 (by assumption) | exact j6 (by assumption) | exact j7 (by assumption) | exact j8 (by assumption) | exact j9 (by assumption) | exact j10 (by assumption) | fail "9"
  k_with "my trc0" => first | assumption | k_extra "my ltc" | fail "9"
  k_with "my trc" => first | exact t0 (by k_extra "my trc0") | exact t1 (by k_extra "my trc0") | exact t2 (by k_extra "my trc0") | fail "9"
  k_with "my k_ne9" => (refine neN ?_; (try dsimp only); first | assumption | exact Ne.symm (by assumption) | (refine Nat.ne_of_lt ?_; k_extra "my ltc") | (refine Nat.ne_of_gt ?_; k_extra "my ltc") | k_extra "my trc" | (refine Ne.symm ?_; k_extra "my trc") | fail "9")
  k_with "my le9" => first | exact Nat.le_refl _ | exact Nat.le_of_ble_eq_true rfl | exact Nat.succ_le_succ (Nat.zero_le _) | assumption | exact Nat.succ_le_succ (Nat.le_max_left _ _) | exact Nat.succ_le_succ (Nat.le_max_right _ _) | exact Nat.succ_le_succ (Nat.succ_le_succ (Nat.zero_le _)) | exact Nat.succ_le_succ (Nat.succ_le_succ (Nat.le_max_left _ _)) | exact Nat.succ_le_succ (Nat.succ_le_succ (Nat.le_max_right _ _)) | exact Nat.succ_le_succ (Nat.succ_le_succ (Nat.succ_le_succ (Nat.le_max_left _ _))) | exact Nat.succ_le_succ (Nat.succ_le_succ (Nat.succ_le_succ (Nat.le_max_right _ _))) | fail "9"
  k_with "my ktr_room9" => first | exact room0 (by assumption) | exact room1 (by assumption) (by k_extra "my le9") | exact room2 (by assumption) (by k_extra "my le9") | fail "9"
  k_with "my ktr_units9" => first | exact units1 (by assumption) (by k_extra "my le9") | exact units2 (by assumption) (by k_extra "my le9") | fail "9"
  k_with "my pick9" => (repeat (first | exact Pick.head | apply Pick.tail))
  k_with "my sb9" => (intro p hp; simp only [List.mem_append, List.mem_cons, hp, true_or, or_true])
  k_with "my hk9" => first | exact rfl | assumption | fail "9"
  k_with "my hd9" => first | exact Nat.le_of_ble_eq_true rfl | ktr_room | ((try simp only [depth_deeper, depth_under_make]); (try dsimp only [ktrTop]); first | ktr_room | omega) | fail "9"
  k_with "my hu9" => first | exact Nat.le_of_ble_eq_true rfl | ktr_units | ((try simp only [units_deeper, units_under_make]); (try dsimp only [ktrTop]); first | ktr_units | omega) | fail "9"
  k_with "my norm9" => ((rename News _ _ _ _ => nN9); (try simp only [List.nil_append, List.cons_append, List.append_nil] at nN9))
  k_with "my norm8" => ((rename News _ _ _ _ => nN9); (try simp only [List.nil_append, List.cons_append, List.append_nil, List.append_assoc] at nN9))
  k_with "my end9" => ((try k_sweep); (try dsimp only); (try k_fold))
  trivial
theorem text_use {w : World} {loose : List Str} {mean : ExcName → Option Value} {mg mb : Str → Option Value} {dp un : Nat} {gd : Option (List Code)} {cn : Str} {cs : Scope} {a : Addr} {ccd : Value} {cl : List (Str × Addr)} {outer : List Env} {A₀ : Around} {base h₀ : Heap} {L : Addr} {m : Str → Option Value} {s : Shared} {Q E : Value → Shared → Prop} {news0 : List (Addr × Obj)} {x : Addr} {ts : List Str} {gs : List (Int × Int)} {k : Int} {t : Tok} {y : Str} (B : Below A₀ base outer h₀) (F : Fr h₀ L s.heap m) (X : (Mine.hd.heap_1 w.params).In h₀) (N : News h₀ L s.heap news0) (T : Top Mine.hd.view_1 loose mean mg mb h₀) (hk : cs.kind = .function) (hb : BookR w news0 x ts gs) (h0 : 0 ≤ k) (hz : k < 2 ^ 63) (hy : ts[k.toNat]? = some y) (hd : dp + 1 < recursionLimit) (hu : un + 8 * 1 + 64 < cLine) (ret : ∀ t h' tk', Fr h₀ L h' m → News h₀ L h' news0 → Q (.str y t) { s with heap := h', toks := tk' }) :
    wpAny (model PySem.Challenge.rw_sa0142_01.row.prog w) (ktrTop dp un gd cn cs L a ccd cl outer) (call (.ref 98) [.ref x, .int k t]) Q E s :=
  tri_use B F X N T hk (text_spec hb h0 hz hy) (fun _ h => h) hd hu (fun r news' h' tk' F' N' h => by
    obtain ⟨rfl, t, rfl⟩ := h
    exact ret t h' tk' F' N')
theorem name_use {w : World} {loose : List Str} {mean : ExcName → Option Value} {mg mb : Str → Option Value} {dp un : Nat} {gd : Option (List Code)} {cn : Str} {cs : Scope} {a : Addr} {ccd : Value} {cl : List (Str × Addr)} {outer : List Env} {A₀ : Around} {base h₀ : Heap} {L : Addr} {m : Str → Option Value} {s : Shared} {Q E : Value → Shared → Prop} {news0 : List (Addr × Obj)} {x : Addr} {ts : List Str} {gs : List (Int × Int)} {k : Int} {t : Tok} {a0 n0 : Int} (B : Below A₀ base outer h₀) (F : Fr h₀ L s.heap m) (X : (Mine.hd.heap_1 w.params).In h₀) (N : News h₀ L s.heap news0) (T : Top Mine.hd.view_1 loose mean mg mb h₀) (hk : cs.kind = .function) (hb : BookR w news0 x ts gs) (h0 : 0 ≤ k) (hz : k < 2 ^ 63) (hy : gs[k.toNat]? = some (a0, n0)) (hd : dp + 1 < recursionLimit) (hu : un + 8 * 1 + 64 < cLine) (ret : ∀ t h' tk', Fr h₀ L h' m → News h₀ L h' news0 → Q (.int a0 t) { s with heap := h', toks := tk' }) :
    wpAny (model PySem.Challenge.rw_sa0142_01.row.prog w) (ktrTop dp un gd cn cs L a ccd cl outer) (call (.ref 119) [.ref x, .int k t]) Q E s :=
  tri_use B F X N T hk (name_spec hb h0 hz hy) (fun _ h => h) hd hu (fun r news' h' tk' F' N' h => by
    obtain ⟨rfl, t, rfl⟩ := h
    exact ret t h' tk' F' N')
theorem arity_use {w : World} {loose : List Str} {mean : ExcName → Option Value} {mg mb : Str → Option Value} {dp un : Nat} {gd : Option (List Code)} {cn : Str} {cs : Scope} {a : Addr} {ccd : Value} {cl : List (Str × Addr)} {outer : List Env} {A₀ : Around} {base h₀ : Heap} {L : Addr} {m : Str → Option Value} {s : Shared} {Q E : Value → Shared → Prop} {news0 : List (Addr × Obj)} {x : Addr} {ts : List Str} {gs : List (Int × Int)} {k : Int} {t : Tok} {a0 n0 : Int} (B : Below A₀ base outer h₀) (F : Fr h₀ L s.heap m) (X : (Mine.hd.heap_1 w.params).In h₀) (N : News h₀ L s.heap news0) (T : Top Mine.hd.view_1 loose mean mg mb h₀) (hk : cs.kind = .function) (hb : BookR w news0 x ts gs) (h0 : 0 ≤ k) (hz : k < 2 ^ 63) (hy : gs[k.toNat]? = some (a0, n0)) (hd : dp + 1 < recursionLimit) (hu : un + 8 * 1 + 64 < cLine) (ret : ∀ t h' tk', Fr h₀ L h' m → News h₀ L h' news0 → Q (.int n0 t) { s with heap := h', toks := tk' }) :
    wpAny (model PySem.Challenge.rw_sa0142_01.row.prog w) (ktrTop dp un gd cn cs L a ccd cl outer) (call (.ref 126) [.ref x, .int k t]) Q E s :=
  tri_use B F X N T hk (arity_spec hb h0 hz hy) (fun _ h => h) hd hu (fun r news' h' tk' F' N' h => by
    obtain ⟨rfl, t, rfl⟩ := h
    exact ret t h' tk' F' N')

theorem said24 : True := by
  k_with "my k_mem9" => first | exact List.Mem.head _ | assumption | (refine' List.Mem.tail _ ?_; k_mem) | (refine' List.mem_append.mpr (Or.inl ?_); k_mem) | (refine' List.mem_append.mpr (Or.inr ?_); k_mem) | fail "9"
  k_with "my call ref" => (k_here; (with_reducible show wpAny _ _ (call (Value.ref 42) _) _ _ _); k_dflt (refine' wholes_use  (by k_asm) (by k_asm) (by k_asm) (by k_asm) (by k_asm) (by k_extra "my hk9") (by k_extra "my hd9") (by k_extra "my hu9") ?_; k_whole; intros; k_extra "my end9"))
  k_with "my call ref" => (k_here; (with_reducible show wpAny _ _ (call (Value.ref 35) _) _ _ _); k_dflt (refine' texts_use  (by k_asm) (by k_asm) (by k_asm) (by k_asm) (by k_asm) (by k_extra "my hk9") (by k_extra "my hd9") (by k_extra "my hu9") ?_; k_whole; intros; k_extra "my end9"))
  k_with "my call ref" => (k_here; (with_reducible show wpAny _ _ (call (Value.ref 98) _) _ _ _); k_dflt (refine' text_use (by k_asm) (by k_asm) (by k_asm) (by k_asm) (by k_asm) (by k_extra "my hk9") (by (refine' BookR.mono ?h9 ?s9; (case h9 => assumption); (case s9 => first | exact fun _ h => h | k_extra "my sb9"))) (by assumption) (by assumption) (by assumption) (by k_extra "my hd9") (by k_extra "my hu9") ?_; k_whole; intro _ h9; intros; k_extra "my end9"))
  k_with "my call ref" => (k_here; (with_reducible show wpAny _ _ (call (Value.ref 119) _) _ _ _); k_dflt (refine' name_use (by k_asm) (by k_asm) (by k_asm) (by k_asm) (by k_asm) (by k_extra "my hk9") (by (refine' BookR.mono ?h9 ?s9; (case h9 => assumption); (case s9 => first | exact fun _ h => h | k_extra "my sb9"))) (by assumption) (by assumption) (by assumption) (by k_extra "my hd9") (by k_extra "my hu9") ?_; k_whole; intro _ h9; intros; k_extra "my end9"))
  k_with "my call ref" => (k_here; (with_reducible show wpAny _ _ (call (Value.ref 126) _) _ _ _); k_dflt (refine' arity_use (by k_asm) (by k_asm) (by k_asm) (by k_asm) (by k_asm) (by k_extra "my hk9") (by (refine' BookR.mono ?h9 ?s9; (case h9 => assumption); (case s9 => first | exact fun _ h => h | k_extra "my sb9"))) (by assumption) (by assumption) (by assumption) (by k_extra "my hd9") (by k_extra "my hu9") ?_; k_whole; intro _ h9; intros; k_extra "my end9"))
  trivial
set_option maxHeartbeats 8000000 in
theorem functors_spec : FunctorsSpec := by
  intro w x ts gs k k' t t' n n' y y' news hb hk1 hk2
  have hb' := hb
  obtain ⟨dx, Tt, AN, Fs, FN, t1, t2, t3, t4, oT, oA, oF, oN, h1, h2, _⟩ := hb'
  obtain ⟨k0, kz, a1, a0, az, ga, ya⟩ := hk1
  obtain ⟨k0', kz', a1', a0', az', ga', ya'⟩ := hk2
  unfold Tri
  k_fill
  intro loose mean mg mb dp un gd cn cs a ccd cl outer A₀ base h₀ L m s Q E B F X N T hk hd hu hret
  refine wpAny_call ?_
  k_dflt ktr_enter
  k_steps
  skip
  all_goals (exact hret _ news _ _ (by k_asm) (by k_asm) ⟨rfl, _, by unfold fsign; simp only [*, if_true, if_false]; rfl⟩)

theorem functors_use {w : World} {loose : List Str} {mean : ExcName → Option Value} {mg mb : Str → Option Value} {dp un : Nat} {gd : Option (List Code)} {cn : Str} {cs : Scope} {a : Addr} {ccd : Value} {cl : List (Str × Addr)} {outer : List Env} {A₀ : Around} {base h₀ : Heap} {L : Addr} {m : Str → Option Value} {s : Shared} {Q E : Value → Shared → Prop} {news0 : List (Addr × Obj)} {x : Addr} {ts : List Str} {gs : List (Int × Int)} {k k1 : Int} {t u : Tok} {n n' : Int} {y y' : Str} (B : Below A₀ base outer h₀) (F : Fr h₀ L s.heap m) (X : (Mine.hd.heap_1 w.params).In h₀) (N : News h₀ L s.heap news0) (T : Top Mine.hd.view_1 loose mean mg mb h₀) (hk : cs.kind = .function) (hb : BookR w news0 x ts gs) (h1 : FunAt ts gs k n y) (h2 : FunAt ts gs k1 n' y') (hd : dp + 2 < recursionLimit) (hu : un + 8 * 2 + 64 < cLine) (ret : ∀ t h' tk', Fr h₀ L h' m → News h₀ L h' news0 → Q (.int (fsign n n' y y') t) { s with heap := h', toks := tk' }) :
    wpAny (model PySem.Challenge.rw_sa0142_01.row.prog w) (ktrTop dp un gd cn cs L a ccd cl outer) (call (.ref 56) [.ref x, .int k t, .int k1 u]) Q E s :=
  tri_use B F X N T hk (functors_spec hb h1 h2) (fun _ h => h) hd hu (fun r news' h' tk' F' N' h => by
    obtain ⟨rfl, t, rfl⟩ := h
    exact ret t h' tk' F' N')
end
section
def Plan.rk : Plan → Int
  | .pv _ => 0
  | .pi _ => 1
  | .pa _ => 2
  | .ps1 _ _ => 3
  | .ps2 _ _ _ => 3
def Plan.sz : Plan → Nat
  | .pv _ => 1
  | .pi _ => 1
  | .pa _ => 1
  | .ps1 _ p => p.sz + 1
  | .ps2 _ p q => p.sz + q.sz + 1
/-- the sign of the heads -/
def hsign : Plan → Plan → Int
  | .pv i, .pv j => isign i j
  | .pi i, .pi j => isign i j
  | .pa x, .pa y => ssign x.str y.str
  | .ps1 f _, .ps1 g _ => fsign 1 1 f.str g.str
  | .ps1 f _, .ps2 g _ _ => fsign 1 2 f.str g.str
  | .ps2 f _ _, .ps1 g _ => fsign 2 1 f.str g.str
  | .ps2 f _ _, .ps2 g _ _ => fsign 2 2 f.str g.str
  | p, q => isign p.rk q.rk
def kids : Plan → Plan → List (Plan × Plan)
  | .ps1 _ p, .ps1 _ q => [(p, q)]
  | .ps2 _ p p', .ps2 _ q q' => [(p, q), (p', q')]
  | _, _ => []
def pcmp : Plan → Plan → Int
  | .ps1 f p, .ps1 g q => if fsign 1 1 f.str g.str = 0 then pcmp p q else fsign 1 1 f.str g.str
  | .ps2 f p p', .ps2 g q q' => if fsign 2 2 f.str g.str = 0 then (if pcmp p q = 0 then pcmp p' q' else pcmp p q) else fsign 2 2 f.str g.str
  | p, q => hsign p q
def lex : List (Plan × Plan) → Int
  | [] => 0
  | (p, q) :: r => if pcmp p q = 0 then lex r else pcmp p q
theorem said25 : True := by
  k_with_none
  k_with "my ltc" => first | exact j0 (by assumption) | exact j1 (by assumption) | exact j2 (by assumption) | exact j3 (by assumption) | exact j4 (by assumption) | exact j5 (by assumption) | exact j6 (by assumption) | exact j7 (by assumption) | exact j8 (by assumption) | exact j9 (by assumption) | exact j10 (by assumption) | fail "9"
  k_with "my trc0" => first | assumption | k_extra "my ltc" | fail "9"
  k_with "my trc" => first | exact t0 (by k_extra "my trc0") | exact t1 (by k_extra "my trc0") | exact t2 (by k_extra "my trc0") | fail "9"
  k_with "my k_ne9" => (refine neN ?_; (try dsimp only); first | assumption | exact Ne.symm (by assumption) | (refine Nat.ne_of_lt ?_; k_extra "my ltc") | (refine Nat.ne_of_gt ?_; k_extra "my ltc") | k_extra "my trc" | (refine Ne.symm ?_; k_extra "my trc") | fail "9")
  k_with "my le9" => first | exact Nat.le_refl _ | exact Nat.le_of_ble_eq_true rfl | exact Nat.succ_le_succ (Nat.zero_le _) | assumption | exact Nat.succ_le_succ (Nat.le_max_left _ _) | exact Nat.succ_le_succ (Nat.le_max_right _ _) | exact Nat.succ_le_succ (Nat.succ_le_succ (Nat.zero_le _)) | exact Nat.succ_le_succ (Nat.succ_le_succ (Nat.le_max_left _ _)) | exact Nat.succ_le_succ (Nat.succ_le_succ (Nat.le_max_right _ _)) | exact Nat.succ_le_succ (Nat.succ_le_succ (Nat.succ_le_succ (Nat.le_max_left _ _))) | exact Nat.succ_le_succ (Nat.succ_le_succ (Nat.succ_le_succ (Nat.le_max_right _ _))) | fail "9"
  k_with "my ktr_room9" => first | exact room0 (by assumption) | exact room1 (by assumption) (by k_extra "my le9") | exact room2 (by assumption) (by k_extra "my le9") | fail "9"
  k_with "my ktr_units9" => first | exact units1 (by assumption) (by k_extra "my le9") | exact units2 (by assumption) (by k_extra "my le9") | fail "9"
  k_with "my pick9" => (repeat (first | exact Pick.head | apply Pick.tail))
  k_with "my sb9" => (intro p hp; simp only [List.mem_append, List.mem_cons, hp, true_or, or_true])
  k_with "my hk9" => first | exact rfl | assumption | fail "9"
  k_with "my hd9" => first | exact Nat.le_of_ble_eq_true rfl | ktr_room | ((try simp only [depth_deeper, depth_under_make]); (try dsimp only [ktrTop]); first | ktr_room | omega) | fail "9"
  k_with "my hu9" => first | exact Nat.le_of_ble_eq_true rfl | ktr_units | ((try simp only [units_deeper, units_under_make]); (try dsimp only [ktrTop]); first | ktr_units | omega) | fail "9"
  k_with "my norm9" => ((rename News _ _ _ _ => nN9); (try simp only [List.nil_append, List.cons_append, List.append_nil] at nN9))
  k_with "my norm8" => ((rename News _ _ _ _ => nN9); (try simp only [List.nil_append, List.cons_append, List.append_nil, List.append_assoc] at nN9))
  k_with "my end9" => ((try k_sweep); (try dsimp only); (try k_fold))
  trivial
theorem lex_one (p q : Plan) : lex [(p, q)] = pcmp p q := by
  unfold lex lex; split <;> simp_all
theorem isign_same (a : Int) : isign a a = 0 := by unfold isign; rw [if_pos rfl]
theorem isign_ne {a b : Int} (h : ¬ a = b) : ¬ isign a b = 0 := by unfold isign; rw [if_neg h]; split <;> decide
theorem fsign12 (x y : Str) : fsign 1 2 x y = -1 := rfl
theorem fsign21 (x y : Str) : fsign 2 1 x y = 1 := rfl
theorem lex_step (p q : Plan) (S : List (Plan × Plan)) : lex ((p, q) :: S) = if hsign p q = 0 then lex (kids p q ++ S) else hsign p q := by
  cases p <;> cases q <;> simp only [lex, pcmp, hsign, kids, List.nil_append, List.cons_append] <;> first
    | rfl
    | (split <;> first | rfl | (simp_all; done) | (split <;> first | rfl | (simp_all; done)))
def szs : List (Plan × Plan) → Nat
  | [] => 0
  | (p, _) :: r => p.sz + szs r
theorem szs_kids (p q : Plan) (S : List (Plan × Plan)) : szs (kids p q ++ S) < szs ((p, q) :: S) := by
  cases p <;> cases q <;> simp only [kids, szs, Plan.sz, List.nil_append, List.cons_append] <;> omega
theorem hsign_rk {p q : Plan} (h : ¬ p.rk = q.rk) : hsign p q = isign p.rk q.rk := by
  cases p <;> cases q <;> first | rfl | exact absurd rfl h

/-- the ledger bears the built term -/
inductive TermIn (ts : List Str) (gs : List (Int × Int)) (l : List (Addr × Obj)) : Value → Plan → Prop
  | pv {a : Addr} {n : Nat} {i : Int} {t1 t2 : Tok} : (a, ({ cls := .type "tuple", data := .seq #[.str (Str.ofString "v") t1, .int i t2] n } : Obj)) ∈ l → TermIn ts gs l (.ref a) (.pv i)
  | pi {a : Addr} {n : Nat} {i : Int} {t1 t2 : Tok} : (a, ({ cls := .type "tuple", data := .seq #[.str (Str.ofString "i") t1, .int i t2] n } : Obj)) ∈ l → TermIn ts gs l (.ref a) (.pi i)
  | pa {a : Addr} {n : Nat} {x : Txt} {k : Int} {t1 t2 : Tok} : (a, ({ cls := .type "tuple", data := .seq #[.str (Str.ofString "a") t1, .int k t2] n } : Obj)) ∈ l → 0 ≤ k → k < 2 ^ 63 → ts[k.toNat]? = some x.str → TermIn ts gs l (.ref a) (.pa x)
  | ps1 {a b : Addr} {n n' : Nat} {f : Txt} {k : Int} {t1 t2 : Tok} {v : Value} {p : Plan} : (a, ({ cls := .type "tuple", data := .seq #[.str (Str.ofString "s") t1, .int k t2, .ref b] n } : Obj)) ∈ l → (b, ({ cls := .type "tuple", data := .seq #[v] n' } : Obj)) ∈ l → FunAt ts gs k 1 f.str → TermIn ts gs l v p → TermIn ts gs l (.ref a) (.ps1 f p)
  | ps2 {a b : Addr} {n n' : Nat} {f : Txt} {k : Int} {t1 t2 : Tok} {v u : Value} {p q : Plan} : (a, ({ cls := .type "tuple", data := .seq #[.str (Str.ofString "s") t1, .int k t2, .ref b] n } : Obj)) ∈ l → (b, ({ cls := .type "tuple", data := .seq #[v, u] n' } : Obj)) ∈ l → FunAt ts gs k 2 f.str → TermIn ts gs l v p → TermIn ts gs l u q → TermIn ts gs l (.ref a) (.ps2 f p q)
theorem TermIn.mono {ts : List Str} {gs : List (Int × Int)} {l l' : List (Addr × Obj)} (hs : ∀ p ∈ l, p ∈ l') {v : Value} {p : Plan} (h : TermIn ts gs l v p) : TermIn ts gs l' v p := by
  induction h with
  | pv h => exact .pv (hs _ h)
  | pi h => exact .pi (hs _ h)
  | pa h a b c => exact .pa (hs _ h) a b c
  | ps1 h h' f _ ih => exact .ps1 (hs _ h) (hs _ h') f ih
  | ps2 h h' f _ _ ih ih' => exact .ps2 (hs _ h) (hs _ h') f ih ih'
theorem TermIn.to {ts : List Str} {gs : List (Int × Int)} {l l' : List (Addr × Obj)} {v : Value} {p : Plan} (h : TermIn ts gs l v p) (hs : ∀ p ∈ l, p ∈ l') : TermIn ts gs l' v p := h.mono hs
theorem TermIn.isRef {ts : List Str} {gs : List (Int × Int)} {l : List (Addr × Obj)} {v : Value} {p : Plan} (h : TermIn ts gs l v p) : ∃ a, v = .ref a := by cases h <;> exact ⟨_, rfl⟩
def RankSpec : Prop := ∀ {w : World} {a : Addr} {ts : List Str} {gs : List (Int × Int)} {p : Plan} {news : List (Addr × Obj)} (_ : TermIn ts gs news (.ref a) p),
    Tri (Mine.hd.heap_1 w.params) w 28 1 [.ref a] news (fun r news' => news' = news ∧ ∃ t, r = .int p.rk t)

section

theorem said26 : True := by
  k_with "my k_mem9" => first | exact List.Mem.head _ | assumption | (refine' List.Mem.tail _ ?_; k_mem) | (refine' List.mem_append.mpr (Or.inl ?_); k_mem) | (refine' List.mem_append.mpr (Or.inr ?_); k_mem) | fail "9"
  trivial
set_option maxHeartbeats 8000000 in
theorem rank_spec : RankSpec := by
  intro w a0 ts gs p news hT
  cases hT
  all_goals (
  unfold Tri
  k_fill
  intro loose mean mg mb dp un gd cn cs a ccd cl outer A₀ base h₀ L m s Q E B F X N T hk hd hu hret
  refine wpAny_call ?_
  k_dflt ktr_enter
  k_steps)
  all_goals (exact hret _ news _ _ (by k_asm) (by k_asm) ⟨rfl, _, rfl⟩)
end
theorem said27 : True := by
  k_with_none
  k_with "my ltc" => first | exact j0 (by assumption) | exact j1 (by assumption) | exact j2 (by assumption) | exact j3 (by assumption) | exact j4 (by assumption) | exact j5 (by assumption) | exact j6 (by assumption) | exact j7 (by assumption) | exact j8 (by assumption) | exact j9 (by assumption) | exact j10 (by assumption) | fail "9"
  k_with "my trc0" => first | assumption | k_extra "my ltc" | fail "9"
  k_with "my trc" => first | exact t0 (by k_extra "my trc0") | exact t1 (by k_extra "my trc0") | exact t2 (by k_extra "my trc0") | fail "9"
  k_with "my k_ne9" => (refine neN ?_; (try dsimp only); first | assumption | exact Ne.symm (by assumption) | (refine Nat.ne_of_lt ?_; k_extra "my ltc") | (refine Nat.ne_of_gt ?_; k_extra "my ltc") | k_extra "my trc" | (refine Ne.symm ?_; k_extra "my trc") | fail "9")
  k_with "my le9" => first | exact Nat.le_refl _ | exact Nat.le_of_ble_eq_true rfl | exact Nat.succ_le_succ (Nat.zero_le _) | assumption | exact Nat.succ_le_succ (Nat.le_max_left _ _) | exact Nat.succ_le_succ (Nat.le_max_right _ _) | exact Nat.succ_le_succ (Nat.succ_le_succ (Nat.zero_le _)) | exact Nat.succ_le_succ (Nat.succ_le_succ (Nat.le_max_left _ _)) | exact Nat.succ_le_succ (Nat.succ_le_succ (Nat.le_max_right _ _)) | exact Nat.succ_le_succ (Nat.succ_le_succ (Nat.succ_le_succ (Nat.le_max_left _ _))) | exact Nat.succ_le_succ (Nat.succ_le_succ (Nat.succ_le_succ (Nat.le_max_right _ _))) | fail "9"
  k_with "my ktr_room9" => first | exact room0 (by assumption) | exact room1 (by assumption) (by k_extra "my le9") | exact room2 (by assumption) (by k_extra "my le9") | fail "9"
  k_with "my ktr_units9" => first | exact units1 (by assumption) (by k_extra "my le9") | exact units2 (by assumption) (by k_extra "my le9") | fail "9"
  k_with "my pick9" => (repeat (first | exact Pick.head | apply Pick.tail))
  k_with "my sb9" => (intro p hp; simp only [List.mem_append, List.mem_cons, hp, true_or, or_true])
  k_with "my hk9" => first | exact rfl | assumption | fail "9"
  k_with "my hd9" => first | exact Nat.le_of_ble_eq_true rfl | ktr_room | ((try simp only [depth_deeper, depth_under_make]); (try dsimp only [ktrTop]); first | ktr_room | omega) | fail "9"
  k_with "my hu9" => first | exact Nat.le_of_ble_eq_true rfl | ktr_units | ((try simp only [units_deeper, units_under_make]); (try dsimp only [ktrTop]); first | ktr_units | omega) | fail "9"
  k_with "my norm9" => ((rename News _ _ _ _ => nN9); (try simp only [List.nil_append, List.cons_append, List.append_nil] at nN9))
  k_with "my norm8" => ((rename News _ _ _ _ => nN9); (try simp only [List.nil_append, List.cons_append, List.append_nil, List.append_assoc] at nN9))
  k_with "my end9" => ((try k_sweep); (try dsimp only); (try k_fold))
  trivial
theorem rank_use {w : World} {loose : List Str} {mean : ExcName → Option Value} {mg mb : Str → Option Value} {dp un : Nat} {gd : Option (List Code)} {cn : Str} {cs : Scope} {a : Addr} {ccd : Value} {cl : List (Str × Addr)} {outer : List Env} {A₀ : Around} {base h₀ : Heap} {L : Addr} {m : Str → Option Value} {s : Shared} {Q E : Value → Shared → Prop} {news0 : List (Addr × Obj)} {a0 : Addr} {ts : List Str} {gs : List (Int × Int)} {p : Plan} (B : Below A₀ base outer h₀) (F : Fr h₀ L s.heap m) (X : (Mine.hd.heap_1 w.params).In h₀) (N : News h₀ L s.heap news0) (T : Top Mine.hd.view_1 loose mean mg mb h₀) (hk : cs.kind = .function) (hT : TermIn ts gs news0 (.ref a0) p) (hd : dp + 1 < recursionLimit) (hu : un + 8 * 1 + 64 < cLine) (ret : ∀ t h' tk', Fr h₀ L h' m → News h₀ L h' news0 → Q (.int p.rk t) { s with heap := h', toks := tk' }) :
    wpAny (model PySem.Challenge.rw_sa0142_01.row.prog w) (ktrTop dp un gd cn cs L a ccd cl outer) (call (.ref 28) [.ref a0]) Q E s :=
  tri_use B F X N T hk (rank_spec hT) (fun _ h => h) hd hu (fun r news' h' tk' F' N' h => by
    obtain ⟨rfl, t, rfl⟩ := h
    exact ret t h' tk' F' N')
end
section
theorem rk_pv (i : Int) : (Plan.pv i).rk = 0 := rfl
theorem rk_pi (i : Int) : (Plan.pi i).rk = 1 := rfl
theorem rk_pa (x : Txt) : (Plan.pa x).rk = 2 := rfl
theorem rk_ps1 (f : Txt) (p : Plan) : (Plan.ps1 f p).rk = 3 := rfl
theorem rk_ps2 (f : Txt) (p q : Plan) : (Plan.ps2 f p q).rk = 3 := rfl
/-- a pair on the stack -/
inductive PairIn (ts : List Str) (gs : List (Int × Int)) (l : List (Addr × Obj)) : Value → Plan × Plan → Prop
  | mk {c : Addr} {k : Nat} {u v : Value} {p q : Plan} : (c, ({ cls := .type "tuple", data := .seq #[u, v] k } : Obj)) ∈ l → TermIn ts gs l u p → TermIn ts gs l v q → PairIn ts gs l (.ref c) (p, q)
theorem PairIn.mono {ts : List Str} {gs : List (Int × Int)} {l l' : List (Addr × Obj)} (hs : ∀ p ∈ l, p ∈ l') {v : Value} {pq : Plan × Plan} (h : PairIn ts gs l v pq) : PairIn ts gs l' v pq := by
  cases h with
  | mk h a b => exact .mk (hs _ h) (a.mono hs) (b.mono hs)
inductive StackIn (ts : List Str) (gs : List (Int × Int)) (l : List (Addr × Obj)) : List Value → List (Plan × Plan) → Prop
  | nil : StackIn ts gs l [] []
  | cons {v : Value} {pq : Plan × Plan} {rs : List Value} {S : List (Plan × Plan)} : PairIn ts gs l v pq → StackIn ts gs l rs S → StackIn ts gs l (v :: rs) (pq :: S)
theorem StackIn.mono {ts : List Str} {gs : List (Int × Int)} {l l' : List (Addr × Obj)} (hs : ∀ p ∈ l, p ∈ l') : ∀ {rs : List Value} {S : List (Plan × Plan)}, StackIn ts gs l rs S → StackIn ts gs l' rs S
  | _, _, .nil => .nil
  | _, _, .cons h r => .cons (h.mono hs) (r.mono hs)
theorem StackIn.len {ts : List Str} {gs : List (Int × Int)} {l : List (Addr × Obj)} : ∀ {rs : List Value} {S : List (Plan × Plan)}, StackIn ts gs l rs S → rs.length = S.length
  | _, _, .nil => rfl
  | _, _, .cons _ r => congrArg (· + 1) r.len
theorem szs_len : ∀ S : List (Plan × Plan), S.length ≤ szs S
  | [] => Nat.le_refl _
  | (p, _) :: r => by
    have := szs_len r
    have h : 0 < p.sz := by cases p <;> simp only [Plan.sz] <;> omega
    simp only [List.length_cons, szs]; omega
abbrev cmpStored : List Str := [Str.ofString "one", Str.ofString "other", Str.ofString "sign", Str.ofString "place"]
def CJ (ts : List Str) (gs : List (Int × Int)) (D : Addr) (news : List (Addr × Obj)) (m₀ : Str → Option Value) (r : Int) (z : Nat) (n : Nat) (m : Str → Option Value) (nw : List (Addr × Obj)) : Prop :=
  (∃ u : Str → Option Value, m = fun x => if cmpStored.contains x then u x else m₀ x) ∧ ∃ S rs e tl, nw = (D, listOf rs.reverse.toArray e) :: (news ++ tl) ∧ StackIn ts gs (news ++ tl) rs S ∧ Tups tl ∧ lex S = r ∧ szs S = n ∧ n ≤ z
section
variable {w : World} {A : Around} {E : Value → Shared → Prop} {s : Shared} {env : Env} {h₀ : Heap} {L D : Addr} {ts : List Str} {gs : List (Int × Int)} {news : List (Addr × Obj)} {m₀ : Str → Option Value} {Q : Flow → Shared → Prop} {test : PySem.Expr} {body : List Stmt} {r : Int} {z : Nat}
def CEnd (h₀ : Heap) (L : Addr) (s : Shared) (ts : List Str) (gs : List (Int × Int)) (D : Addr) (news : List (Addr × Obj)) (m₀ : Str → Option Value) (r : Int) (z : Nat) (n : Nat) (s₃ : Shared) : Prop :=
  ∃ h' tk m₂ news₂ n', s₃ = { s with heap := h', toks := tk } ∧ Fr h₀ L h' m₂ ∧ News h₀ L h' news₂ ∧ n' < n ∧ CJ ts gs D news m₀ r z n' m₂ news₂
def CPost (h₀ : Heap) (L : Addr) (s : Shared) (ts : List Str) (gs : List (Int × Int)) (D : Addr) (news : List (Addr × Obj)) (m₀ : Str → Option Value) (r : Int) (z : Nat) (Q : Flow → Shared → Prop) (n : Nat) (f : Flow) (s₃ : Shared) : Prop :=
  match f with
  | .ret v => Q (.ret v) s₃
  | .brk => Q .next s₃
  | _ => CEnd h₀ L s ts gs D news m₀ r z n s₃
def CIf (b : Bool) (T F : Prop) : Prop := if b = true then T else F
def CNil (w : World) (A : Around) (E : Value → Shared → Prop) (h₀ : Heap) (L : Addr) (env : Env) (test : PySem.Expr) (D : Addr) (news : List (Addr × Obj)) (m₀ : Str → Option Value) (r : Int) (Q : Flow → Shared → Prop) (s : Shared) : Prop :=
  ∀ e tl h tk (u : Str → Option Value), r = 0 → Tups tl → Fr h₀ L h (fun x => if cmpStored.contains x then u x else m₀ x) → News h₀ L h ((D, listOf #[] e) :: (news ++ tl)) →
    wpAny (model thePr w) A (isTrue test env (eval test env)) (fun b s₂ => b = false ∧ Q .next s₂) E { s with heap := h, toks := tk }
def CTest (w : World) (A : Around) (E : Value → Shared → Prop) (h₀ : Heap) (L : Addr) (env : Env) (test : PySem.Expr) (D : Addr) (news : List (Addr × Obj)) (m₀ : Str → Option Value) (s : Shared) : Prop :=
  ∀ (vs : List Value) e tl h tk (u : Str → Option Value), 0 < vs.length → vs.length ≤ 1000 → Fr h₀ L h (fun x => if cmpStored.contains x then u x else m₀ x) → News h₀ L h ((D, listOf vs.toArray e) :: (news ++ tl)) →
    wpAny (model thePr w) A (isTrue test env (eval test env)) (fun b s₂ => b = true ∧ ∃ tk', s₂ = { s with heap := h, toks := tk' }) E { s with heap := h, toks := tk }
def CTurnA (w : World) (A : Around) (E : Value → Shared → Prop) (h₀ : Heap) (L : Addr) (env : Env) (body : List Stmt) (ts : List Str) (gs : List (Int × Int)) (D : Addr) (news : List (Addr × Obj)) (m₀ : Str → Option Value) (r : Int) (z : Nat) (Q : Flow → Shared → Prop) (s : Shared) : Prop :=
  ∀ c k a1 b1 p q rs S e tl h tk (u : Str → Option Value), (c, ({ cls := .type "tuple", data := .seq #[.ref a1, .ref b1] k } : Obj)) ∈ news ++ tl → TermIn ts gs (news ++ tl) (.ref a1) p → TermIn ts gs (news ++ tl) (.ref b1) q → StackIn ts gs (news ++ tl) rs S → rs.length ≤ 1000 → Tups tl → Off D (news ++ tl) →
    lex ((p, q) :: S) = r → szs ((p, q) :: S) ≤ z → ¬ p.rk = q.rk → Fr h₀ L h (fun x => if cmpStored.contains x then u x else m₀ x) → News h₀ L h ((D, listOf (rs.reverse ++ [Value.ref c]).toArray e) :: (news ++ tl)) →
    wpAny (model thePr w) A (execs body env) (CPost h₀ L s ts gs D news m₀ r z Q (szs ((p, q) :: S))) E { s with heap := h, toks := tk }
def CTurnB (w : World) (A : Around) (E : Value → Shared → Prop) (h₀ : Heap) (L : Addr) (env : Env) (body : List Stmt) (ts : List Str) (gs : List (Int × Int)) (D : Addr) (news : List (Addr × Obj)) (m₀ : Str → Option Value) (r : Int) (z : Nat) (Q : Flow → Shared → Prop) (s : Shared) : Prop :=
  ∀ c k a1 b1 p q rs S e tl h tk (u : Str → Option Value), (c, ({ cls := .type "tuple", data := .seq #[.ref a1, .ref b1] k } : Obj)) ∈ news ++ tl → TermIn ts gs (news ++ tl) (.ref a1) p → TermIn ts gs (news ++ tl) (.ref b1) q → StackIn ts gs (news ++ tl) rs S → rs.length ≤ 1000 → Tups tl → Off D (news ++ tl) →
    lex ((p, q) :: S) = r → szs ((p, q) :: S) ≤ z → p.rk = q.rk → Fr h₀ L h (fun x => if cmpStored.contains x then u x else m₀ x) → News h₀ L h ((D, listOf (rs.reverse ++ [Value.ref c]).toArray e) :: (news ++ tl)) →
    wpAny (model thePr w) A (execs body env) (CPost h₀ L s ts gs D news m₀ r z Q (szs ((p, q) :: S))) E { s with heap := h, toks := tk }
theorem cmp_while {pos : Pos} {c : Addr} {k : Nat} {u v : Value} {p q : Plan} {e : Nat} (F : Fr h₀ L s.heap m₀) (N : News h₀ L s.heap ((D, listOf #[.ref c] e) :: (c, ({ cls := .type "tuple", data := .seq #[u, v] k } : Obj)) :: news)) (hu : TermIn ts gs news u p) (hv : TermIn ts gs news v q) (hD : Off D news) (hz : p.sz ≤ 900)
    (nil : CNil w A E h₀ L env test D news m₀ (pcmp p q) Q s) (tst : CTest w A E h₀ L env test D news m₀ s) (turnA : CTurnA w A E h₀ L env body ts gs D news m₀ (pcmp p q) p.sz Q s) (turnB : CTurnB w A E h₀ L env body ts gs D news m₀ (pcmp p q) p.sz Q s)
    (hE : PassesOwn (model thePr w) A env E := by passes_own) :
    wpAny (model thePr w) A (exec (.While test body [] pos) env) Q E s := by
  have hT0 : Tups [(c, ({ cls := .type "tuple", data := .seq #[u, v] k } : Obj))] := Tups.cons Tups.nil
  have m1 : ∀ p ∈ news, p ∈ news ++ [(c, ({ cls := .type "tuple", data := .seq #[u, v] k } : Obj))] := fun p hp => List.mem_append.mpr (.inl hp)
  refine While_inv2 (n₀ := szs [(p, q)]) (CJ ts gs D news m₀ (pcmp p q) p.sz) F (news := (D, listOf #[.ref c] e) :: (news ++ [(c, ({ cls := .type "tuple", data := .seq #[u, v] k } : Obj))])) (fun x hx => N x (by
    rcases List.mem_cons.mp hx with rfl | hx
    · exact .head _
    rcases List.mem_append.mp hx with hx | hx
    · exact .tail _ (.tail _ hx)
    · rw [List.mem_singleton.mp hx]; exact .tail _ (.head _)))
    ⟨⟨m₀, by funext x; simp⟩, [(p, q)], [.ref c], e, _, rfl, .cons (.mk (List.mem_append.mpr (.inr (.head _))) (hu.mono m1) (hv.mono m1)) .nil, hT0, lex_one p q, rfl, by simp [szs]⟩ ?_ hE
  rintro n m₁ news₁ h tk F₁ N₁ ⟨⟨u', rfl⟩, S, rs, e', tl, rfl, hS, ht, hr, rfl, hz'⟩
  have hDl : Off D (news ++ tl) := fun x hx => by
    rcases List.mem_append.mp hx with hx | hx
    · exact hD x hx
    · exact off_tups ht N₁ (.head _) lt_ne (fun y hy => .tail _ (List.mem_append.mpr (.inr hy))) x hx
  have hlen := hS.len
  have hsz : S.length ≤ 900 := Nat.le_trans (Nat.le_trans (szs_len S) hz') hz
  cases hS with
  | nil =>
    refine wpAny_mono (nil e' tl h tk u' hr.symm ht F₁ N₁) (fun b s₂ hb => ?_) fun _ _ x => x
    rw [hb.1]; simpa using hb.2
  | @cons v' pq rs' S' hp hS' =>
    obtain ⟨p', q'⟩ := pq
    cases hp with
    | @mk c' k' uu vv _ _ hm hu' hv' =>
      obtain ⟨a1, rfl⟩ := hu'.isRef
      obtain ⟨b1, rfl⟩ := hv'.isRef
      have hl2 : rs'.length ≤ 900 := by simp only [List.length_cons] at hlen hsz; omega
      have hl2 : rs'.length ≤ 1000 := by omega
      rw [List.reverse_cons] at N₁
      refine wpAny_mono (tst (rs'.reverse ++ [Value.ref c']) e' tl h tk u' (by simp) (by simp only [List.length_append, List.length_reverse, List.length_cons, List.length_nil]; omega) F₁ N₁) (fun b s₂ hb => ?_) fun _ _ x => x
      obtain ⟨rfl, tk', rfl⟩ := hb
      simp only [if_true]
      refine wpAny_mono ((Classical.em (p'.rk = q'.rk)).elim (fun hk => turnB c' k' a1 b1 p' q' rs' S' e' tl h tk' u' hm hu' hv' hS' hl2 ht hDl hr hz' hk F₁ N₁) fun hk => turnA c' k' a1 b1 p' q' rs' S' e' tl h tk' u' hm hu' hv' hS' hl2 ht hDl hr hz' hk F₁ N₁) (fun f s₃ hf => ?_) fun _ _ x => x
      cases f <;> exact hf
theorem ne_empty {vs : List Value} (h : 0 < vs.length) : (!vs.isEmpty) = true := by cases vs with | nil => exact absurd h (Nat.lt_irrefl 0) | cons _ _ => rfl
/-- the list's end taken -/
theorem pop_last {m : Str → Option Value} {vs : List Value} {v : Value} {e : Nat} {all all' : List (Addr × Obj)} {Q : Value → Shared → Prop} (F : Fr h₀ L s.heap m) (N : News h₀ L s.heap all) (U : Upd D (listOf (vs ++ [v]).toArray e) (listOf vs.toArray (e + 1)) all all') (hz : vs.length ≤ 1000)
    (h : ∀ h', Fr h₀ L h' m → News h₀ L h' all' → Q v { s with heap := h' }) : wpAny (model thePr w) A (call (.builtin "list.pop") [.ref D]) Q E s :=
  kl_pop F N (p := vs) (y := v) (by simpa using kpa_last v vs) U (by rw [sizeLine_eq]; simp; omega) fun h' F' N' => h h' F' N'
theorem push_k {m : Str → Option Value} {rs : List Value} {v : Value} {e : Nat} {all all' : List (Addr × Obj)} {Q : Value → Shared → Prop} (F : Fr h₀ L s.heap m) (N : News h₀ L s.heap all) (U : Upd D (listOf rs.reverse.toArray e) (listOf (v :: rs).reverse.toArray (e + 1)) all all') (hz : rs.length ≤ 2000)
    (h : ∀ h', Fr h₀ L h' m → News h₀ L h' all' → Q .none { s with heap := h' }) : wpAny (model thePr w) A (call (.builtin "list.append") [.ref D, v]) Q E s :=
  append_K F N (by rw [show rs.reverse.toArray.push v = (v :: rs).reverse.toArray by simp]; exact U) h (by rw [sizeLine_eq]; simp; omega)
theorem push1 (rs : List Value) (a : Value) : rs.reverse.toArray.push a = (a :: rs).reverse.toArray := by simp
theorem CEnd.intro {p q : Plan} {S : List (Plan × Plan)} {h' : Heap} {tk : Nat} {u : Str → Option Value} {rs' : List Value} {e' : Nat} {tl' : List (Addr × Obj)} (F : Fr h₀ L h' (fun x => if cmpStored.contains x then u x else m₀ x)) (N : News h₀ L h' ((D, listOf rs'.reverse.toArray e') :: (news ++ tl')))
    (hr : lex ((p, q) :: S) = r) (hs : hsign p q = 0) (hS : StackIn ts gs (news ++ tl') rs' (kids p q ++ S)) (ht : Tups tl') (hz : szs ((p, q) :: S) ≤ z) : CEnd h₀ L s ts gs D news m₀ r z (szs ((p, q) :: S)) { s with heap := h', toks := tk } := by
  refine ⟨h', tk, _, _, _, rfl, F, N, szs_kids p q S, ⟨u, rfl⟩, kids p q ++ S, rs', e', tl', rfl, hS, ht, ?_, rfl, Nat.le_trans (Nat.le_of_lt (szs_kids p q S)) hz⟩
  rw [lex_step, if_pos hs] at hr
  exact hr
theorem CEnd.intro2 {p q : Plan} {S : List (Plan × Plan)} {h' : Heap} {tk : Nat} {m' : Str → Option Value} {rs' : List Value} {e' : Nat} {tl' all : List (Addr × Obj)} (F : Fr h₀ L h' m') (hm : ∀ x, cmpStored.contains x = false → m' x = m₀ x) (N : News h₀ L h' all) (hN : ∀ x ∈ (D, listOf rs'.reverse.toArray e') :: (news ++ tl'), x ∈ all)
    (hr : lex ((p, q) :: S) = r) {d : Int} (hd : hsign p q = d) (hs : d = 0) (hS : StackIn ts gs (news ++ tl') rs' (kids p q ++ S)) (ht : Tups tl') (hz : szs ((p, q) :: S) ≤ z) : CEnd h₀ L s ts gs D news m₀ r z (szs ((p, q) :: S)) { s with heap := h', toks := tk } := by
  have e : m' = fun x => if cmpStored.contains x then m' x else m₀ x := by
    funext x
    cases hc : cmpStored.contains x with
    | true => simp only [if_true]
    | false => rw [if_neg (by decide)]; exact hm x hc
  exact CEnd.intro (u := m') (e ▸ F) (fun x hx => N x (hN x hx)) hr (hd.trans hs) hS ht hz
theorem CEnd.zero {p q : Plan} {S : List (Plan × Plan)} {h' : Heap} {tk : Nat} {m' : Str → Option Value} {rs' : List Value} {e' : Nat} {tl' : List (Addr × Obj)} (F : Fr h₀ L h' m') (N : News h₀ L h' ((D, listOf rs'.reverse.toArray e') :: (news ++ tl'))) (hr : lex ((p, q) :: S) = r) (hz : szs ((p, q) :: S) ≤ z) (hS : StackIn ts gs (news ++ tl') rs' S) (ht : Tups tl')
    (hk : kids p q = []) {d : Int} (hs : d = 0) (hd : hsign p q = d) (hm : ∀ x, cmpStored.contains x = false → m' x = m₀ x) : CEnd h₀ L s ts gs D news m₀ r z (szs ((p, q) :: S)) { s with heap := h', toks := tk } :=
  CEnd.intro2 F hm N (fun _ h => h) hr hd hs (by rw [hk]; exact hS) ht hz
theorem CEnd.one {p q p1 q1 : Plan} {S : List (Plan × Plan)} {h' : Heap} {tk : Nat} {m' : Str → Option Value} {rs' : List Value} {e' k1 : Nat} {D1 : Addr} {u1 v1 : Value} {tl' all : List (Addr × Obj)} (F : Fr h₀ L h' m') (N : News h₀ L h' all) (hr : lex ((p, q) :: S) = r) (hz : szs ((p, q) :: S) ≤ z) (hS : StackIn ts gs (news ++ tl') rs' S) (ht : Tups tl') (hk : kids p q = [(p1, q1)])
    (hu : TermIn ts gs (news ++ tl') u1 p1) (hv : TermIn ts gs (news ++ tl') v1 q1)
    (hN : ∀ x ∈ (D, listOf (Value.ref D1 :: rs').reverse.toArray e') :: (news ++ ((D1, ({ cls := .type "tuple", data := .seq #[u1, v1] k1 } : Obj)) :: tl')), x ∈ all)
    {d : Int} (hs : d = 0) (hd : hsign p q = d) (hm : ∀ x, cmpStored.contains x = false → m' x = m₀ x) : CEnd h₀ L s ts gs D news m₀ r z (szs ((p, q) :: S)) { s with heap := h', toks := tk } := by
  have m1 : ∀ p ∈ news ++ tl', p ∈ news ++ ((D1, ({ cls := .type "tuple", data := .seq #[u1, v1] k1 } : Obj)) :: tl') := fun p hp => by
    rcases List.mem_append.mp hp with hp | hp
    · exact List.mem_append.mpr (.inl hp)
    · exact List.mem_append.mpr (.inr (.tail _ hp))
  exact CEnd.intro2 F hm N hN hr hd hs (by rw [hk]; exact .cons (.mk (List.mem_append.mpr (.inr (.head _))) (hu.mono m1) (hv.mono m1)) (hS.mono m1)) (Tups.cons ht) hz
theorem CEnd.two {p q p1 q1 p2 q2 : Plan} {S : List (Plan × Plan)} {h' : Heap} {tk : Nat} {m' : Str → Option Value} {rs' : List Value} {e' k1 k2 : Nat} {D1 D2 : Addr} {u1 v1 u2 v2 : Value} {tl' all : List (Addr × Obj)} (F : Fr h₀ L h' m') (N : News h₀ L h' all) (hr : lex ((p, q) :: S) = r) (hz : szs ((p, q) :: S) ≤ z) (hS : StackIn ts gs (news ++ tl') rs' S) (ht : Tups tl') (hk : kids p q = [(p1, q1), (p2, q2)])
    (hu : TermIn ts gs (news ++ tl') u1 p1) (hv : TermIn ts gs (news ++ tl') v1 q1) (hu2 : TermIn ts gs (news ++ tl') u2 p2) (hv2 : TermIn ts gs (news ++ tl') v2 q2)
    (hN : ∀ x ∈ (D, listOf (Value.ref D2 :: Value.ref D1 :: rs').reverse.toArray e') :: (news ++ ((D2, ({ cls := .type "tuple", data := .seq #[u1, v1] k2 } : Obj)) :: (D1, ({ cls := .type "tuple", data := .seq #[u2, v2] k1 } : Obj)) :: tl')), x ∈ all)
    {d : Int} (hs : d = 0) (hd : hsign p q = d) (hm : ∀ x, cmpStored.contains x = false → m' x = m₀ x) : CEnd h₀ L s ts gs D news m₀ r z (szs ((p, q) :: S)) { s with heap := h', toks := tk } := by
  have m1 : ∀ p ∈ news ++ tl', p ∈ news ++ ((D2, ({ cls := .type "tuple", data := .seq #[u1, v1] k2 } : Obj)) :: (D1, ({ cls := .type "tuple", data := .seq #[u2, v2] k1 } : Obj)) :: tl') := fun p hp => by
    rcases List.mem_append.mp hp with hp | hp
    · exact List.mem_append.mpr (.inl hp)
    · exact List.mem_append.mpr (.inr (.tail _ (.tail _ hp)))
  exact CEnd.intro2 F hm N hN hr hd hs (by rw [hk]; exact .cons (.mk (List.mem_append.mpr (.inr (.head _))) (hu.mono m1) (hv.mono m1)) (.cons (.mk (List.mem_append.mpr (.inr (.tail _ (.head _)))) (hu2.mono m1) (hv2.mono m1)) (hS.mono m1))) (Tups.cons (Tups.cons ht)) hz
theorem stored_base {u : Str → Option Value} {x : Str} (h : cmpStored.contains x = false) : (if cmpStored.contains x then u x else m₀ x) = m₀ x := by rw [h]; rfl
theorem stored_step {y x : Str} {v : Option Value} {b c : Option Value} (h : cmpStored.contains x = false) (hy : cmpStored.contains y = true) (hb : b = c) : (if x = y then v else b) = c := by
  rw [if_neg (fun e => by rw [e, hy] at h; cases h)]; exact hb
theorem ret_lex {p q : Plan} {S : List (Plan × Plan)} {r : Int} (hr : lex ((p, q) :: S) = r) {d : Int} (hd : hsign p q = d) (hn : ¬ d = 0) {t : Tok} : ∃ t', Value.int d t = .int r t' := ⟨t, by rw [← hr, lex_step, if_neg (hd ▸ hn), hd]⟩
theorem ret_nil {r : Int} (hr : r = 0) {t : Tok} : ∃ t', Value.int 0 t = .int r t' := ⟨t, by rw [hr]⟩
theorem ite_beq_ne {x y : Int} {P Q : Prop} (h : ¬ x = y) (q : Q) : if (x == y) = true then P else Q := by rw [if_neg (by simp [h])]; exact q
theorem ite_beq_eq {x y : Int} {P Q : Prop} (h : x = y) (q : P) : if (x == y) = true then P else Q := by rw [if_pos (by simp [h])]; exact q
theorem ite_bne_ne {x y : Int} {P Q : Prop} (h : ¬ x = y) (q : P) : if (x != y) = true then P else Q := by rw [if_pos (by simp [h])]; exact q
theorem ite_bne_eq {x y : Int} {P Q : Prop} (h : x = y) (q : Q) : if (x != y) = true then P else Q := by rw [if_neg (by simp [h])]; exact q
end

theorem wholes_use0 {w : World} {loose : List Str} {mean : ExcName → Option Value} {mg mb : Str → Option Value} {dp un : Nat} {gd : Option (List Code)} {cn : Str} {cs : Scope} {a : Addr} {ccd : Value} {cl : List (Str × Addr)} {outer : List Env} {A₀ : Around} {base h₀ : Heap} {L : Addr} {m : Str → Option Value} {s : Shared} {Q E : Value → Shared → Prop} {news0 : List (Addr × Obj)} {x y : Int} {t u : Tok} (B : Below A₀ base outer h₀) (F : Fr h₀ L s.heap m) (X : (Mine.hd.heap_1 w.params).In h₀) (N : News h₀ L s.heap news0) (T : Top Mine.hd.view_1 loose mean mg mb h₀) (hk : cs.kind = .function) (he : x = y) (hd : dp + 1 < recursionLimit) (hu : un + 8 * 1 + 64 < cLine) (ret : ∀ t h' tk', Fr h₀ L h' m → News h₀ L h' news0 → Q (.int 0 t) { s with heap := h', toks := tk' }) :
    wpAny (model PySem.Challenge.rw_sa0142_01.row.prog w) (ktrTop dp un gd cn cs L a ccd cl outer) (call (.ref 42) [.int x t, .int y u]) Q E s := by
  subst he
  exact wholes_use B F X N T hk hd hu (by rw [isign_same]; exact ret)

def CompareSpec : Prop := ∀ {w : World} {x a b : Addr} {ts : List Str} {gs : List (Int × Int)} {p q : Plan} {news : List (Addr × Obj)} (_ : BookR w news x ts gs) (_ : TermIn ts gs news (.ref a) p) (_ : TermIn ts gs news (.ref b) q) (_ : p.sz ≤ 900),
    Tri (Mine.hd.heap_1 w.params) w 49 3 [.ref x, .ref a, .ref b] news (fun r news' => news' = news ∧ ∃ t, r = .int (pcmp p q) t)


theorem said28 : True := by
  k_with "my k_mem9" => first | exact List.Mem.head _ | assumption | (refine' List.Mem.tail _ ?_; k_mem) | (refine' List.mem_append.mpr (Or.inl ?_); k_mem) | (refine' List.mem_append.mpr (Or.inr ?_); k_mem) | fail "9"
  k_with "my call ref" => (k_here; (with_reducible show wpAny _ _ (call (Value.ref 42) _) _ _ _); k_dflt (refine' wholes_use  (by k_asm) (by k_asm) (by k_asm) (by k_asm) (by k_asm) (by k_extra "my hk9") (by k_extra "my hd9") (by k_extra "my hu9") ?_; k_whole; intros; (try simp only [isign_same]); k_extra "my end9"))
  k_with "my call ref" => (k_here; (with_reducible show wpAny _ _ (call (Value.ref 42) _) _ _ _); k_dflt (refine' wholes_use0 (by k_asm) (by k_asm) (by k_asm) (by k_asm) (by k_asm) (by k_extra "my hk9") (by assumption) (by k_extra "my hd9") (by k_extra "my hu9") ?_; k_whole; intros; k_extra "my end9"))
  k_with "my call ref" => (k_here; (with_reducible show wpAny _ _ (call (Value.ref 35) _) _ _ _); k_dflt (refine' texts_use  (by k_asm) (by k_asm) (by k_asm) (by k_asm) (by k_asm) (by k_extra "my hk9") (by k_extra "my hd9") (by k_extra "my hu9") ?_; k_whole; intros; k_extra "my end9"))
  k_with "my call ref" => (k_here; (with_reducible show wpAny _ _ (call (Value.ref 98) _) _ _ _); k_dflt (refine' text_use (by k_asm) (by k_asm) (by k_asm) (by k_asm) (by k_asm) (by k_extra "my hk9") (by (refine' BookR.mono ?h9 ?s9; (case h9 => assumption); (case s9 => first | exact fun _ h => h | k_extra "my sb9"))) (by assumption) (by assumption) (by assumption) (by k_extra "my hd9") (by k_extra "my hu9") ?_; k_whole; intro _ h9; intros; k_extra "my end9"))
  k_with "my call ref" => (k_here; (with_reducible show wpAny _ _ (call (Value.ref 28) _) _ _ _); k_dflt (refine' rank_use (by k_asm) (by k_asm) (by k_asm) (by k_asm) (by k_asm) (by k_extra "my hk9") (by (refine' TermIn.mono ?s9 ?h9; (case h9 => assumption); (case s9 => k_extra "my sb9"))) (by k_extra "my hd9") (by k_extra "my hu9") ?_; k_whole; intro _ h9; intros; (try simp only [rk_pv, rk_pi, rk_pa, rk_ps1, rk_ps2]); k_extra "my end9"))
  k_with "my call ref" => (k_here; (with_reducible show wpAny _ _ (call (Value.ref 56) _) _ _ _); k_dflt (refine' functors_use (by k_asm) (by k_asm) (by k_asm) (by k_asm) (by k_asm) (by k_extra "my hk9") (by (refine' BookR.mono ?h9 ?s9; (case h9 => assumption); (case s9 => first | exact fun _ h => h | k_extra "my sb9"))) (by assumption) (by assumption) (by k_extra "my hd9") (by k_extra "my hu9") ?_; k_whole; intro _ h9; intros; (try simp only [fsign12, fsign21]); k_extra "my end9"))
  k_with "my exec While" => (k_here; k_dflt (refine' cmp_while (by k_asm) (by k_asm) (by assumption) (by assumption) (by k_extra "my offD") (by assumption) ?_ ?_ ?_ ?_))
  k_with "my offD" => first | exact Off.all (by assumption) | (intro p9 h9; exact Nat.ne_of_lt (tb_ltOf (by tbn_find) p9 h9)) | fail "9"
  k_with "my k_all9" => exact Off.all (by assumption)
  k_with "my CNil" => (unfold CNil; intros)
  k_with "my CTest" => (unfold CTest; intros)
  k_with "my CTurnA" => (unfold CTurnA; intro _ _ _ _ _ _ _ _ _ _ _ _ _ _ _ _ _ _ _ _ _ _ hk9; intros; have hs9 := isign_ne hk9)
  k_with "my CTurnB" => (unfold CTurnB; intro _ _ _ _ _ _ _ _ _ _ _ _ _ _ hp9 hq9; intros; have hpq9 := And.intro hp9 hq9)
  k_with "my eval Subscript" => (k_here; rename (TermIn _ _ _ _ _ ∧ TermIn _ _ _ _ _) => hpq9; rename (Plan.rk _ = Plan.rk _) => hk9; obtain ⟨hp7, hq7⟩ := hpq9; cases hp7 <;> cases hq7 <;> first | (exact absurd hk9 (by simp only [Plan.rk]; decide)) | skip)
  k_with "my call builtin:list.pop" => (k_here; (with_reducible show wpAny _ _ (call (Value.builtin _) [Value.ref _]) _ _ _); k_dflt (refine' pop_last (by k_asm) (by k_asm) (by k_upd) (by (simp only [List.length_reverse]; assumption)) ?_; k_whole; intros; (try k_sweep)))
  k_with "my call builtin:list.append" => (k_here; (with_reducible show wpAny _ _ (call (Value.builtin _) [Value.ref _, _]) _ _ _); k_dflt (refine' push_k (by k_asm) (by k_asm) (by k_upd) (by first | exact Nat.le_trans (by assumption) (by decide) | exact Nat.le_trans (show _ + 1 ≤ 1001 from Nat.succ_le_succ (by assumption)) (by decide)) ?_; k_whole; intros; (try k_sweep)))
  k_with "my UnrEnd" => (k_here; refine' unr_end (by k_asm) (by k_asm) (by k_extra "my pick9") (by k_all) ?_; k_whole)
  k_with "my Eq" => exact ne_empty (by assumption)
  k_with "my CPost" => dsimp only [CPost]
  k_with "my ite" => first | with_reducible refine ite_beq_ne (by assumption) ?_ | with_reducible refine ite_beq_eq (by assumption) ?_ | with_reducible refine ite_bne_ne (by assumption) ?_ | with_reducible refine ite_bne_eq (by assumption) ?_ | fail "9"
  trivial
set_option maxHeartbeats 8000000 in
theorem compare_spec : CompareSpec := by
  intro w x a0 b0 ts gs p q news hb hp hq hsz
  have hb' := hb
  obtain ⟨dx, Tt, AN, Fs, FN, t1, t2, t3, t4, oT, oA, oF, oN, h1, h2, _⟩ := hb'
  unfold Tri
  k_fill
  intro loose mean mg mb dp un gd cn cs a ccd cl outer A₀ base h₀ L m s Q E B F X N T hk hd hu hret
  refine wpAny_call ?_
  k_dflt ktr_enter
  k_steps
  skip
  all_goals first
    | exact hret _ news _ _ (by k_asm) (fun x hx => (by k_asm : News _ _ _ (_ :: (_ ++ _))) x (.tail _ (List.mem_append.mpr (.inl hx)))) ⟨rfl, ret_nil (by assumption)⟩
    | exact hret _ news _ _ (by k_asm) (fun x hx => (by k_asm : News _ _ _ (_ :: (_ ++ _))) x (.tail _ (List.mem_append.mpr (.inl hx)))) ⟨rfl, ret_lex (by assumption) (hsign_rk (by assumption)) (by assumption)⟩
    | exact hret _ news _ _ (by k_asm) (fun x hx => (by k_asm : News _ _ _ (_ :: (_ ++ _))) x (.tail _ (List.mem_append.mpr (.inl hx)))) ⟨rfl, ret_lex (by assumption) (by rfl) (by first | assumption | decide)⟩
    | exact absurd (by assumption : (2 : Int) - 1 = 0) (by decide)
    | exact absurd (by assumption : (2 : Nat) - 1 = 0) (by decide)
    | (refine' CEnd.zero ?F ?N ?hr ?hz ?hS ?ht ?hk ?hs ?hd ?hm; (case F => k_asm); (case N => k_asm); (case hr => assumption); (case hz => assumption); (case hS => assumption); (case ht => assumption); (case hk => rfl); (case hd => rfl); (case hs => assumption); (case hm => (intro x9 hx9; dsimp only; (repeat (refine stored_step hx9 (by with_unfolding_all rfl) ?_)); exact if_neg (show ¬ (cmpStored.contains x9 = true) by rw [hx9]; decide))))
    | (refine' CEnd.one ?F ?N ?hr ?hz ?hS ?ht ?hk ?hu ?hv ?hN ?hs ?hd ?hm; (case F => k_asm); (case N => k_asm); (case hr => assumption); (case hz => assumption); (case hS => assumption); (case ht => assumption); (case hk => rfl); (case hu => assumption); (case hv => assumption); (case hN => (intro x9 hx9; rcases List.mem_cons.mp hx9 with rfl | hx9; (k_mem); rcases List.mem_append.mp hx9 with hx9 | hx9; (k_mem); (repeat (rcases List.mem_cons.mp hx9 with rfl | hx9; (k_mem))); k_mem)); (case hd => rfl); (case hs => assumption); (case hm => (intro x9 hx9; dsimp only; (repeat (refine stored_step hx9 (by with_unfolding_all rfl) ?_)); exact if_neg (show ¬ (cmpStored.contains x9 = true) by rw [hx9]; decide))))
    | (refine' CEnd.two ?F ?N ?hr ?hz ?hS ?ht ?hk ?hu ?hv ?hu2 ?hv2 ?hN ?hs ?hd ?hm; (case F => k_asm); (case N => k_asm); (case hr => assumption); (case hz => assumption); (case hS => assumption); (case ht => assumption); (case hk => rfl); (case hu => assumption); (case hv => assumption); (case hu2 => assumption); (case hv2 => assumption); (case hN => (intro x9 hx9; rcases List.mem_cons.mp hx9 with rfl | hx9; (k_mem); rcases List.mem_append.mp hx9 with hx9 | hx9; (k_mem); (repeat (rcases List.mem_cons.mp hx9 with rfl | hx9; (k_mem))); k_mem)); (case hd => rfl); (case hs => assumption); (case hm => (intro x9 hx9; dsimp only; (repeat (refine stored_step hx9 (by with_unfolding_all rfl) ?_)); exact if_neg (show ¬ (cmpStored.contains x9 = true) by rw [hx9]; decide))))

theorem compare_use {w : World} {loose : List Str} {mean : ExcName → Option Value} {mg mb : Str → Option Value} {dp un : Nat} {gd : Option (List Code)} {cn : Str} {cs : Scope} {a : Addr} {ccd : Value} {cl : List (Str × Addr)} {outer : List Env} {A₀ : Around} {base h₀ : Heap} {L : Addr} {m : Str → Option Value} {s : Shared} {Q E : Value → Shared → Prop} {news0 : List (Addr × Obj)} {x a0 b0 : Addr} {ts : List Str} {gs : List (Int × Int)} {p q : Plan} (B : Below A₀ base outer h₀) (F : Fr h₀ L s.heap m) (X : (Mine.hd.heap_1 w.params).In h₀) (N : News h₀ L s.heap news0) (T : Top Mine.hd.view_1 loose mean mg mb h₀) (hk : cs.kind = .function) (hb : BookR w news0 x ts gs) (hp : TermIn ts gs news0 (.ref a0) p) (hq : TermIn ts gs news0 (.ref b0) q) (hz : p.sz ≤ 900) (hd : dp + 3 < recursionLimit) (hu : un + 8 * 3 + 64 < cLine) (ret : ∀ t h' tk', Fr h₀ L h' m → News h₀ L h' news0 → Q (.int (pcmp p q) t) { s with heap := h', toks := tk' }) :
    wpAny (model PySem.Challenge.rw_sa0142_01.row.prog w) (ktrTop dp un gd cn cs L a ccd cl outer) (call (.ref 49) [.ref x, .ref a0, .ref b0]) Q E s :=
  tri_use B F X N T hk (compare_spec hb hp hq hz) (fun _ h => h) hd hu (fun r news' h' tk' F' N' h => by
    obtain ⟨rfl, t, rfl⟩ := h
    exact ret t h' tk' F' N')
end
section
theorem said29 : True := by
  k_with_none
  k_with "my ltc" => first | exact j0 (by assumption) | exact j1 (by assumption) | exact j2 (by assumption) | exact j3 (by assumption) | exact j4 (by assumption) | exact j5 (by assumption) | exact j6 (by assumption) | exact j7 (by assumption) | exact j8 (by assumption) | exact j9 (by assumption) | exact j10 (by assumption) | fail "9"
  k_with "my trc0" => first | assumption | k_extra "my ltc" | fail "9"
  k_with "my trc" => first | exact t0 (by k_extra "my trc0") | exact t1 (by k_extra "my trc0") | exact t2 (by k_extra "my trc0") | fail "9"
  k_with "my k_ne9" => (refine neN ?_; (try dsimp only); first | assumption | exact Ne.symm (by assumption) | (refine Nat.ne_of_lt ?_; k_extra "my ltc") | (refine Nat.ne_of_gt ?_; k_extra "my ltc") | k_extra "my trc" | (refine Ne.symm ?_; k_extra "my trc") | fail "9")
  k_with "my le9" => first | exact Nat.le_refl _ | exact Nat.le_of_ble_eq_true rfl | exact Nat.succ_le_succ (Nat.zero_le _) | assumption | exact Nat.succ_le_succ (Nat.le_max_left _ _) | exact Nat.succ_le_succ (Nat.le_max_right _ _) | exact Nat.succ_le_succ (Nat.succ_le_succ (Nat.zero_le _)) | exact Nat.succ_le_succ (Nat.succ_le_succ (Nat.le_max_left _ _)) | exact Nat.succ_le_succ (Nat.succ_le_succ (Nat.le_max_right _ _)) | exact Nat.succ_le_succ (Nat.succ_le_succ (Nat.succ_le_succ (Nat.le_max_left _ _))) | exact Nat.succ_le_succ (Nat.succ_le_succ (Nat.succ_le_succ (Nat.le_max_right _ _))) | fail "9"
  k_with "my ktr_room9" => first | exact room0 (by assumption) | exact room1 (by assumption) (by k_extra "my le9") | exact room2 (by assumption) (by k_extra "my le9") | fail "9"
  k_with "my ktr_units9" => first | exact units1 (by assumption) (by k_extra "my le9") | exact units2 (by assumption) (by k_extra "my le9") | fail "9"
  k_with "my pick9" => (repeat (first | exact Pick.head | apply Pick.tail))
  k_with "my sb9" => (intro p hp; simp only [List.mem_append, List.mem_cons, hp, true_or, or_true])
  k_with "my hk9" => first | exact rfl | assumption | fail "9"
  k_with "my hd9" => first | exact Nat.le_of_ble_eq_true rfl | ktr_room | ((try simp only [depth_deeper, depth_under_make]); (try dsimp only [ktrTop]); first | ktr_room | omega) | fail "9"
  k_with "my hu9" => first | exact Nat.le_of_ble_eq_true rfl | ktr_units | ((try simp only [units_deeper, units_under_make]); (try dsimp only [ktrTop]); first | ktr_units | omega) | fail "9"
  k_with "my norm9" => ((rename News _ _ _ _ => nN9); (try simp only [List.nil_append, List.cons_append, List.append_nil] at nN9))
  k_with "my norm8" => ((rename News _ _ _ _ => nN9); (try simp only [List.nil_append, List.cons_append, List.append_nil, List.append_assoc] at nN9))
  k_with "my end9" => ((try k_sweep); (try dsimp only); (try k_fold))
  trivial
theorem deq_int (a b : Int) : deq (.int a) (.int b) = decide (a = b) := by
  unfold deq
  simp only [kqdP, PyData.eqv]
  by_cases h : a = b <;> simp [h]
theorem deq_nil : deq (.tuple []) (.tuple []) = true := by
  unfold deq
  simp [kqdP, kqdPs, PyData.eqv, PyData.eqvAll]
theorem deq_cons (x y : Dat) (xs ys : List Dat) : deq (.tuple (x :: xs)) (.tuple (y :: ys)) = (deq x y && deq (.tuple xs) (.tuple ys)) := by
  unfold deq
  simp [kqdP, kqdPs, PyData.eqv, PyData.eqvAll]
theorem dsign_zero {d e : Dat} : dsign d e = 0 ↔ deq d e = true := by
  unfold dsign
  constructor
  · intro h
    by_cases h1 : deq d e = true
    · exact h1
    · rw [if_neg h1] at h
      split at h <;> exact absurd h (by decide)
  · intro h; rw [if_pos h]
theorem dsign_int (a b : Int) : dsign (.int a) (.int b) = isign a b := by
  unfold dsign isign
  rw [deq_int, dless]
  simp only [decide_eq_true_eq]
theorem dsign_nil : dsign (.tuple []) (.tuple []) = 0 := dsign_zero.mpr deq_nil
theorem dsign_cons (x y : Dat) (xs ys : List Dat) : dsign (.tuple (x :: xs)) (.tuple (y :: ys)) = if dsign x y = 0 then dsign (.tuple xs) (.tuple ys) else dsign x y := by
  by_cases h : deq x y = true
  · rw [if_pos (dsign_zero.mpr h)]
    unfold dsign
    rw [deq_cons, h, Bool.true_and, dless_tuple, dless_tuple, dlessAll_cons, if_pos h]
  · rw [if_neg (fun e => h (dsign_zero.mp e))]
    unfold dsign
    rw [deq_cons, if_neg h, dless_tuple, dlessAll_cons, if_neg h]
    have : deq x y = false := by cases hq : deq x y with | true => exact absurd hq h | false => rfl
    rw [this, Bool.false_and, if_neg (by decide)]
theorem cds_sign (x y : Txt) : dsign x.cds y.cds = ssign x.str y.str := by
  cases x <;> cases y <;> simp only [Txt.cds, Txt.codes, Txt.str] <;> decide +kernel
theorem cds_refl_zero (n : Int) : isign n n = 0 := isign_same n
theorem key_sign : ∀ p q : Plan, pcmp p q = dsign p.key q.key
  | .pv i, q => by
    cases q <;> simp only [pcmp, hsign, Plan.key, Plan.rk, dsign_cons, dsign_int, dsign_nil, isign_same, if_true] <;> first
      | (split <;> simp_all; done)
      | rfl
  | .pi i, q => by
    cases q <;> simp only [pcmp, hsign, Plan.key, Plan.rk, dsign_cons, dsign_int, dsign_nil, isign_same, if_true] <;> first
      | (split <;> simp_all; done)
      | rfl
  | .pa x, q => by
    cases q <;> simp only [pcmp, hsign, Plan.key, Plan.rk, dsign_cons, dsign_int, dsign_nil, cds_sign, isign_same, if_true] <;> first
      | (split <;> simp_all; done)
      | rfl
  | .ps1 f p, q => by
    cases q with
    | ps1 g q =>
      have ih := key_sign p q
      simp only [pcmp, Plan.key, dsign_cons, dsign_int, dsign_nil, cds_sign, isign_same, if_true, fsign, ih]
      split <;> first | (split <;> simp_all; done) | simp_all
    | _ => simp only [pcmp, hsign, Plan.key, Plan.rk, dsign_cons, dsign_int, dsign_nil, cds_sign, isign_same, if_true] <;> first | rfl | (split <;> simp_all; done)
  | .ps2 f p p', q => by
    cases q with
    | ps2 g q q' =>
      have ih := key_sign p q
      have ih' := key_sign p' q'
      simp only [pcmp, Plan.key, dsign_cons, dsign_int, dsign_nil, cds_sign, isign_same, if_true, fsign, ih, ih']
      (repeat' split) <;> simp_all
    | _ => simp only [pcmp, hsign, Plan.key, Plan.rk, dsign_cons, dsign_int, dsign_nil, cds_sign, isign_same, if_true] <;> first | rfl | (split <;> simp_all; done)
theorem cmpOk_int (a b : Int) : cmpOk (.int a) (.int b) := by rw [cmpOk]; trivial
theorem cmpOk_cons {x y : Dat} {xs ys : List Dat} (h1 : deq x y = true → cmpOkAll xs ys) (h2 : deq x y = false → cmpOk x y) : cmpOkAll (x :: xs) (y :: ys) := by rw [cmpOkAll_cons]; exact ⟨h1, h2⟩
theorem cmpOk_nil : cmpOkAll [] [] := by rw [cmpOkAll] <;> simp
theorem cmpOk_ints : ∀ xs ys : List Int, cmpOkAll (xs.map Dat.int) (ys.map Dat.int)
  | [], ys => by cases ys <;> simp [cmpOkAll]
  | _ :: _, [] => by simp [cmpOkAll]
  | x :: xs, y :: ys => cmpOk_cons (fun _ => cmpOk_ints xs ys) (fun _ => cmpOk_int x y)
theorem cmpOk_cds (x y : Txt) : cmpOk x.cds y.cds := by unfold Txt.cds; rw [cmpOk_tuple]; exact cmpOk_ints _ _
theorem cmpOk_int_ne {a b : Int} {xs ys : List Dat} (h : ¬ a = b) : cmpOkAll (.int a :: xs) (.int b :: ys) := cmpOk_cons (fun e => by rw [deq_int, decide_eq_true_eq] at e; exact absurd e h) (fun _ => cmpOk_int a b)
theorem cmpOk_int_cons {a b : Int} {xs ys : List Dat} (h : cmpOkAll xs ys) : cmpOkAll (.int a :: xs) (.int b :: ys) := cmpOk_cons (fun _ => h) (fun _ => cmpOk_int a b)
theorem key_ok : ∀ p q : Plan, cmpOk p.key q.key
  | .pv i, q => by
    cases q <;> simp only [Plan.key] <;> rw [cmpOk_tuple] <;> first | exact cmpOk_int_ne (by decide) | exact cmpOk_int_cons (cmpOk_int_cons cmpOk_nil)
  | .pi i, q => by
    cases q <;> simp only [Plan.key] <;> rw [cmpOk_tuple] <;> first | exact cmpOk_int_ne (by decide) | exact cmpOk_int_cons (cmpOk_int_cons cmpOk_nil)
  | .pa x, q => by
    cases q <;> simp only [Plan.key] <;> rw [cmpOk_tuple] <;> first | exact cmpOk_int_ne (by decide) | exact cmpOk_int_cons (cmpOk_cons (fun _ => cmpOk_nil) (fun _ => cmpOk_cds _ _))
  | .ps1 f p, q => by
    cases q with
    | ps1 g q =>
      have ih := key_ok p q
      simp only [Plan.key]; rw [cmpOk_tuple]
      exact cmpOk_int_cons (cmpOk_int_cons (cmpOk_cons (fun _ => cmpOk_cons (fun _ => cmpOk_nil) (fun _ => by rw [cmpOk_tuple]; exact cmpOk_cons (fun _ => cmpOk_nil) (fun _ => ih))) (fun _ => cmpOk_cds _ _)))
    | ps2 g q q' => simp only [Plan.key]; rw [cmpOk_tuple]; exact cmpOk_int_cons (cmpOk_int_ne (by decide))
    | _ => simp only [Plan.key]; rw [cmpOk_tuple]; exact cmpOk_int_ne (by decide)
  | .ps2 f p p', q => by
    cases q with
    | ps2 g q q' =>
      have ih := key_ok p q
      have ih' := key_ok p' q'
      simp only [Plan.key]; rw [cmpOk_tuple]
      exact cmpOk_int_cons (cmpOk_int_cons (cmpOk_cons (fun _ => cmpOk_cons (fun _ => cmpOk_nil) (fun _ => by rw [cmpOk_tuple]; exact cmpOk_cons (fun _ => cmpOk_cons (fun _ => cmpOk_nil) (fun _ => ih')) (fun _ => ih))) (fun _ => cmpOk_cds _ _)))
    | ps1 g q => simp only [Plan.key]; rw [cmpOk_tuple]; exact cmpOk_int_cons (cmpOk_int_ne (by decide))
    | _ => simp only [Plan.key]; rw [cmpOk_tuple]; exact cmpOk_int_ne (by decide)
theorem kqd_ints (n : Nat) (xs : List Int) : (xs.map Dat.int).all (kqdOk n) = true := by
  rw [List.all_eq_true]
  intro d hd
  obtain ⟨i, _, rfl⟩ := List.mem_map.mp hd
  cases n <;> rfl
theorem kqd_int (n : Nat) (i : Int) : kqdOk n (.int i) = true := by cases n <;> rfl
theorem kqd_cds (n : Nat) (x : Txt) : kqdOk (n + 1) x.cds = true := kqd_ints n _
theorem kqd_key : ∀ (n : Nat) (p : Plan), 2 * p.deep + 2 ≤ n → kqdOk n p.key = true
  | n + 2, .pv i, _ => by simp [Plan.key, kqdOk, kqd_int]
  | n + 2, .pi i, _ => by simp [Plan.key, kqdOk, kqd_int]
  | n + 2, .pa x, _ => by
    have := kqd_cds n x
    simp [Plan.key, kqdOk, kqd_int, this]
  | n + 2, .ps1 f p, h => by
    have h1 := kqd_cds n f
    have h2 := kqd_key n p (by simp only [Plan.deep] at h; omega)
    simp [Plan.key, kqdOk, kqd_int, h1, h2]
  | n + 2, .ps2 f p q, h => by
    have h1 := kqd_cds n f
    have h2 := kqd_key n p (by simp only [Plan.deep] at h; omega)
    have h3 := kqd_key n q (by simp only [Plan.deep] at h; omega)
    simp [Plan.key, kqdOk, kqd_int, h1, h2, h3]
  | 0, p, h => by omega
  | 1, p, h => by omega
theorem sz_deep : ∀ p : Plan, p.sz + 1 ≤ 2 ^ (p.deep + 1)
  | .pv _ => by simp [Plan.sz, Plan.deep]
  | .pi _ => by simp [Plan.sz, Plan.deep]
  | .pa _ => by simp [Plan.sz, Plan.deep]
  | .ps1 f p => by
    have := sz_deep p
    simp only [Plan.sz, Plan.deep, Nat.pow_succ] at *; omega
  | .ps2 f p q => by
    have h1 := sz_deep p
    have h2 := sz_deep q
    have m1 : 2 ^ (p.deep + 1) ≤ 2 ^ (max p.deep q.deep + 1) := Nat.pow_le_pow_right (by decide) (by omega)
    have m2 : 2 ^ (q.deep + 1) ≤ 2 ^ (max p.deep q.deep + 1) := Nat.pow_le_pow_right (by decide) (by omega)
    simp only [Plan.sz, Plan.deep, Nat.pow_succ] at *; omega
theorem sz_two {p : Plan} (h : p.deep ≤ 2) : p.sz ≤ 7 := by
  have h1 := sz_deep p
  have h2 : 2 ^ (p.deep + 1) ≤ 2 ^ 3 := Nat.pow_le_pow_right (by decide) (by omega)
  omega
theorem kqd_two {p : Plan} (h : p.deep ≤ 2) : kqdOk 8 p.key = true := kqd_key 8 p (by omega)
theorem fun_sign (n m : Int) (f g : Txt) : fsign n m f.str g.str = dsign (.tuple [.int n, f.cds]) (.tuple [.int m, g.cds]) := by
  simp only [fsign, dsign_cons, dsign_int, dsign_nil, cds_sign]
  (repeat' split) <;> simp_all
theorem fun_ok (n m : Int) (f g : Txt) : cmpOk (.tuple [.int n, f.cds]) (.tuple [.int m, g.cds]) := by
  rw [cmpOk_tuple]; exact cmpOk_int_cons (cmpOk_cons (fun _ => cmpOk_nil) (fun _ => cmpOk_cds _ _))
theorem fun_kqd (n : Int) (f : Txt) : kqdOk 8 (.tuple [.int n, f.cds]) = true := by
  have := kqd_cds 6 f
  simp [kqdOk, kqd_int, this]
theorem key_head (p : Plan) : ∃ r, p.key = .tuple (.int p.rk :: r) := by cases p <;> exact ⟨_, rfl⟩
end
section
/-- the book knows the six texts -/
def Known (ts : List Str) : Prop := ts.length ≤ 100 ∧ ∀ y : Txt, sput ts y.str = ts ∧ 0 ≤ tno ts y.str ∧ tno ts y.str < 2 ^ 63 ∧ ts[(tno ts y.str).toNat]? = some y.str
theorem gno_at (k : Int × Int) : ∀ (i : Nat) (gs : List (Int × Int)), 0 ≤ gno i gs k → ∃ j : Nat, gno i gs k = ((i + j : Nat) : Int) ∧ j < gs.length ∧ gs[j]? = some k
  | i, [], h => by simp [gno] at h
  | i, g :: r, h => by
    unfold gno at h ⊢
    by_cases e : g = k
    · rw [if_pos e]; exact ⟨0, rfl, Nat.succ_pos _, by rw [e]; rfl⟩
    · rw [if_neg e] at h ⊢
      obtain ⟨j, h1, h2, h3⟩ := gno_at k (i + 1) r h
      exact ⟨j + 1, by rw [h1]; congr 1; omega, Nat.succ_lt_succ h2, by simpa using h3⟩
theorem gno_snoc (k : Int × Int) : ∀ (i : Nat) (gs : List (Int × Int)), gno i gs k < 0 → gno i (gs ++ [k]) k = ((i + gs.length : Nat) : Int)
  | i, [], _ => by simp [gno]
  | i, g :: r, h => by
    unfold gno at h
    by_cases e : g = k
    · rw [if_pos e] at h; omega
    · rw [if_neg e] at h
      show gno i (g :: (r ++ [k])) k = _
      unfold gno
      rw [if_neg e, gno_snoc k (i + 1) r h]
      congr 1; simp only [List.length_cons]; omega
theorem gput_at (gs : List (Int × Int)) (k : Int × Int) (hl : gs.length ≤ 100) : 0 ≤ gno 0 (gput gs k) k ∧ gno 0 (gput gs k) k < 2 ^ 63 ∧ (gput gs k)[(gno 0 (gput gs k) k).toNat]? = some k ∧ ∃ ex, gput gs k = gs ++ ex := by
  unfold gput
  by_cases h : 0 ≤ gno 0 gs k
  · rw [if_pos h]
    obtain ⟨j, h1, h2, h3⟩ := gno_at k 0 gs h
    rw [h1]
    refine ⟨by omega, by omega, by simpa using h3, [], (List.append_nil _).symm⟩
  · rw [if_neg h, gno_snoc k 0 gs (by omega)]
    refine ⟨by omega, by omega, by simp, [k], rfl⟩
theorem FunAt.grow {ts : List Str} {gs ex : List (Int × Int)} {k n : Int} {y : Str} (h : FunAt ts gs k n y) : FunAt ts (gs ++ ex) k n y := by
  obtain ⟨h0, h1, a, a0, a1, g, t⟩ := h
  have hlt : k.toNat < gs.length := (List.getElem?_eq_some_iff.mp g).1
  exact ⟨h0, h1, a, a0, a1, by rw [List.getElem?_append_left hlt]; exact g, t⟩
theorem TermIn.grow {ts : List Str} {gs ex : List (Int × Int)} {l : List (Addr × Obj)} {v : Value} {p : Plan} (h : TermIn ts gs l v p) : TermIn ts (gs ++ ex) l v p := by
  induction h with
  | pv h => exact .pv h
  | pi h => exact .pi h
  | pa h a b c => exact .pa h a b c
  | ps1 h h' f _ ih => exact .ps1 h h' f.grow ih
  | ps2 h h' f _ _ ih ih' => exact .ps2 h h' f.grow ih ih'
theorem fun_at {ts : List Str} {gs : List (Int × Int)} (hk : Known ts) (f : Txt) (n : Int) (hl : gs.length ≤ 100) : FunAt ts (gput gs (tno ts f.str, n)) (gno 0 (gput gs (tno ts f.str, n)) (tno ts f.str, n)) n f.str := by
  obtain ⟨_, a0, a1, t⟩ := hk.2 f
  obtain ⟨h0, h1, g, _⟩ := gput_at gs (tno ts f.str, n) hl
  exact ⟨h0, h1, _, a0, a1, g, t⟩
/-- what a book's ledger must show -/
def Bk (w : World) (x dx Tt AN Fs FN : Addr) (t1 t2 t3 t4 : Tok) (oT oA oF oN : Obj) (ts : List Str) (gs : List (Int × Int)) (core l : List (Addr × Obj)) : Prop :=
  (x, instObj 157 dx) ∈ l ∧ (dx, bookDict w t1 t2 t3 t4 Tt AN Fs FN) ∈ l ∧ AtomObj w oT oA ts ∧ FunObj w core oF oN gs ∧ (AN == sysModules) = false ∧ (FN == sysModules) = false ∧ Four Tt AN Fs FN
def BkOff (Tt AN Fs FN : Addr) (l : List (Addr × Obj)) : Prop := ∀ p ∈ l, p.1 ≠ Tt ∧ p.1 ≠ AN ∧ p.1 ≠ Fs ∧ p.1 ≠ FN
theorem BkOff.of {Tt AN Fs FN : Addr} {l : List (Addr × Obj)} (h : BkOff Tt AN Fs FN l) : ∀ p ∈ l, p.1 ≠ Tt ∧ p.1 ≠ AN ∧ p.1 ≠ Fs ∧ p.1 ≠ FN := h
theorem sub_cons {x : Addr × Obj} {l l4 : List (Addr × Obj)} (m : x ∈ l4) (r : ∀ p ∈ l, p ∈ l4) : ∀ p ∈ x :: l, p ∈ l4 := fun p hp => (List.mem_cons.mp hp).elim (fun e => e ▸ m) (r p)
theorem sub_app {l l' l4 : List (Addr × Obj)} (m : ∀ p ∈ l, p ∈ l4) (r : ∀ p ∈ l', p ∈ l4) : ∀ p ∈ l ++ l', p ∈ l4 := fun p hp => (List.mem_append.mp hp).elim (m p) (r p)
theorem sub_tail {x : Addr × Obj} {l l4 : List (Addr × Obj)} (r : ∀ p ∈ l, p ∈ l4) : ∀ p ∈ l, p ∈ x :: l4 := fun p hp => .tail _ (r p hp)
theorem sub_l {l l4 l5 : List (Addr × Obj)} (r : ∀ p ∈ l, p ∈ l4) : ∀ p ∈ l, p ∈ l4 ++ l5 := fun p hp => List.mem_append.mpr (.inl (r p hp))
theorem sub_r {l l4 l5 : List (Addr × Obj)} (r : ∀ p ∈ l, p ∈ l5) : ∀ p ∈ l, p ∈ l4 ++ l5 := fun p hp => List.mem_append.mpr (.inr (r p hp))
theorem sub_nil {l4 : List (Addr × Obj)} : ∀ p ∈ ([] : List (Addr × Obj)), p ∈ l4 := fun _ h => nomatch h
theorem sub_id {l : List (Addr × Obj)} : ∀ p ∈ l, p ∈ l := fun _ h => h
theorem bz0 {a s : Nat} (h : a + s ≤ 100) : a ≤ 100 := by omega
theorem bz1 {a b p : Nat} (z : b ≤ a + 1) (h : a + (p + 1) ≤ 100) : b + p ≤ 100 := by omega
theorem bz2 {a b p q : Nat} (z : b ≤ a + 1) (h : a + (p + q + 1) ≤ 100) : b + p ≤ 100 := by omega
theorem bz3 {a b c p q : Nat} (z : b ≤ a + 1) (z' : c ≤ b + p) (h : a + (p + q + 1) ≤ 100) : c + q ≤ 100 := by omega
theorem aoff_of {Tt AN Fs FN : Addr} {l : List (Addr × Obj)} (h : BkOff Tt AN Fs FN l) : ∀ p ∈ l, p.1 ≠ Tt ∧ p.1 ≠ AN := fun p hp => ⟨(h p hp).1, (h p hp).2.1⟩
theorem aoff_cons {Tt AN a : Addr} {o : Obj} {l : List (Addr × Obj)} (n1 : @Ne Nat a Tt) (n2 : @Ne Nat a AN) (r : ∀ p ∈ l, p.1 ≠ Tt ∧ p.1 ≠ AN) : ∀ p ∈ (a, o) :: l, p.1 ≠ Tt ∧ p.1 ≠ AN := fun p hp => by
  rcases List.mem_cons.mp hp with rfl | hp
  · exact ⟨n1, n2⟩
  · exact r p hp
theorem bkoff_cons {Tt AN Fs FN a : Addr} {o : Obj} {l : List (Addr × Obj)} (n1 : @Ne Nat a Tt) (n2 : @Ne Nat a AN) (n3 : @Ne Nat a Fs) (n4 : @Ne Nat a FN) (r : BkOff Tt AN Fs FN l) : BkOff Tt AN Fs FN ((a, o) :: l) := fun p hp => by
  rcases List.mem_cons.mp hp with rfl | hp
  · exact ⟨n1, n2, n3, n4⟩
  · exact r p hp
theorem bkoff_comp {Tt AN Fs FN I C D : Addr} {oI oC oD : Obj} {l : List (Addr × Obj)} {Y : Prop} (h : (@Ne Nat Tt I ∧ @Ne Nat Tt C ∧ @Ne Nat Tt D) ∧ (@Ne Nat AN I ∧ @Ne Nat AN C ∧ @Ne Nat AN D) ∧ (@Ne Nat Fs I ∧ @Ne Nat Fs C ∧ @Ne Nat Fs D) ∧ (@Ne Nat FN I ∧ @Ne Nat FN C ∧ @Ne Nat FN D) ∧ Y) (r : BkOff Tt AN Fs FN l) : BkOff Tt AN Fs FN ((I, oI) :: (C, oC) :: (D, oD) :: l) := by
  obtain ⟨⟨a1, a2, a3⟩, ⟨b1, b2, b3⟩, ⟨c1, c2, c3⟩, ⟨d1, d2, d3⟩, _⟩ := h
  exact bkoff_cons a1.symm b1.symm c1.symm d1.symm (bkoff_cons a2.symm b2.symm c2.symm d2.symm (bkoff_cons a3.symm b3.symm c3.symm d3.symm r))
theorem bkoff_cell {Tt AN Fs FN L : Addr} {o : Obj} {l : List (Addr × Obj)} {Y : Prop} (h : @LT.lt Nat _ Tt L ∧ @LT.lt Nat _ AN L ∧ @LT.lt Nat _ Fs L ∧ @LT.lt Nat _ FN L ∧ Y) (r : BkOff Tt AN Fs FN l) : BkOff Tt AN Fs FN ((L + 1, o) :: l) :=
  bkoff_cons (Nat.ne_of_gt (Nat.lt_succ_of_lt h.1)) (Nat.ne_of_gt (Nat.lt_succ_of_lt h.2.1)) (Nat.ne_of_gt (Nat.lt_succ_of_lt h.2.2.1)) (Nat.ne_of_gt (Nat.lt_succ_of_lt h.2.2.2.1)) r
theorem bkoff_app {Tt AN Fs FN : Addr} {l l' : List (Addr × Obj)} (h : BkOff Tt AN Fs FN l) (h' : BkOff Tt AN Fs FN l') : BkOff Tt AN Fs FN (l ++ l') := fun p hp => (List.mem_append.mp hp).elim (h p) (h' p)
theorem bkoff_fresh {Tt AN Fs FN : Addr} {o1 o2 o3 o4 : Obj} {led tl : List (Addr × Obj)} (h : Fresh led tl) (m1 : (Tt, o1) ∈ led) (m2 : (AN, o2) ∈ led) (m3 : (Fs, o3) ∈ led) (m4 : (FN, o4) ∈ led) : BkOff Tt AN Fs FN tl := fun p hp =>
  ⟨Nat.ne_of_gt (h p hp _ m1), Nat.ne_of_gt (h p hp _ m2), Nat.ne_of_gt (h p hp _ m3), Nat.ne_of_gt (h p hp _ m4)⟩
theorem bkoff_tups {w : World} {h₀ h : Heap} {L Tt AN Fs FN : Addr} {oT oA oF oN : Obj} {ts : List Str} {gs : List (Int × Int)} {l lf tl : List (Addr × Obj)} (ht : Tups tl) (N : News h₀ L h l) (m1 : (Tt, oT) ∈ l) (m2 : (AN, oA) ∈ l) (m3 : (Fs, oF) ∈ l) (m4 : (FN, oN) ∈ l) (hA : AtomObj w oT oA ts) (hF : FunObj w lf oF oN gs) (sub : ∀ p ∈ tl, p ∈ l) : BkOff Tt AN Fs FN tl := fun p hp =>
  ⟨off_tups ht N m1 (atom_cls hA).1 sub p hp, off_tups ht N m2 (atom_cls hA).2 sub p hp, off_tups ht N m3 (fun_cls hF).1 sub p hp, off_tups ht N m4 (fun_cls hF).2 sub p hp⟩
def BuiltRes (w : World) (Tt AN Fs FN : Addr) (ts : List Str) (gs : List (Int × Int)) (p : Plan) (core news : List (Addr × Obj)) (r : Value) (news' : List (Addr × Obj)) : Prop :=
  ∃ oT oA oF oN tl ex, AtomObj w oT oA ts ∧ FunObj w (core ++ tl) oF oN (gs ++ ex) ∧ (gs ++ ex).length ≤ gs.length + p.sz ∧ Tups tl ∧ Fresh news tl ∧ TermIn ts (gs ++ ex) (core ++ tl) r p ∧
    news' = (Tt, oT) :: (AN, oA) :: (Fs, oF) :: (FN, oN) :: (news ++ tl)
def BuiltSpec (p : Plan) : Prop := ∀ {w : World} {x dx Tt AN Fs FN : Addr} {t1 t2 t3 t4 : Tok} {oT oA oF oN : Obj} {ts : List Str} {gs : List (Int × Int)} {v : Value} {core news : List (Addr × Obj)} (_ : Sub core news)
    (_ : PlanIn core v p) (_ : Bk w x dx Tt AN Fs FN t1 t2 t3 t4 oT oA oF oN ts gs core news) (_ : BkOff Tt AN Fs FN news) (_ : Known ts) (_ : gs.length + p.sz ≤ 100),
    Tri (Mine.hd.heap_1 w.params) w 192 (p.deep + 2) [.ref x, v] ((Tt, oT) :: (AN, oA) :: (Fs, oF) :: (FN, oN) :: news) (BuiltRes w Tt AN Fs FN ts gs p core news)


theorem TermIn.mono2 {ts : List Str} {gs : List (Int × Int)} {l l' : List (Addr × Obj)} (hs : ∀ p ∈ l, p.2.cls = .type "tuple" → p ∈ l') {v : Value} {p : Plan} (h : TermIn ts gs l v p) : TermIn ts gs l' v p := by
  induction h with
  | pv h => exact .pv (hs _ h rfl)
  | pi h => exact .pi (hs _ h rfl)
  | pa h a b c => exact .pa (hs _ h rfl) a b c
  | ps1 h h' f _ ih => exact .ps1 (hs _ h rfl) (hs _ h' rfl) f ih
  | ps2 h h' f _ _ ih ih' => exact .ps2 (hs _ h rfl) (hs _ h' rfl) f ih ih'
abbrev BuiltRet (w : World) (Tt AN Fs FN : Addr) (ts : List Str) (gs : List (Int × Int)) (p : Plan) (core news : List (Addr × Obj)) (h₀ : Heap) (L : Addr) (m : Str → Option Value) (s : Shared) (Q : Value → Shared → Prop) : Prop :=
  ∀ r news' h' tk', Fr h₀ L h' m → News h₀ L h' news' → BuiltRes w Tt AN Fs FN ts gs p core news r news' → Q r { s with heap := h', toks := tk' }
theorem built_fin {w : World} {h₀ h : Heap} {L Tt AN Fs FN : Addr} {m : Str → Option Value} {core news lf tl : List (Addr × Obj)} {s : Shared} {Q : Value → Shared → Prop} {tk : Nat} {oT oA oF oN : Obj} {ts : List Str} {gs ex : List (Int × Int)} {p : Plan} {r : Value}
    (hret : BuiltRet w Tt AN Fs FN ts gs p core news h₀ L m s Q) (F : Fr h₀ L h m) (N : News h₀ L h lf) (m1 : (Tt, oT) ∈ lf) (m2 : (AN, oA) ∈ lf) (m3 : (Fs, oF) ∈ lf) (m4 : (FN, oN) ∈ lf) (m5 : ∀ p ∈ news, p ∈ lf) (hA : AtomObj w oT oA ts) (m6 : ∀ p ∈ tl, p ∈ lf)
    (hF : FunObj w (core ++ tl) oF oN (gs ++ ex)) (hz : (gs ++ ex).length ≤ gs.length + p.sz) (ht : Tups tl) (hf : Fresh news tl) (hT : TermIn ts (gs ++ ex) (core ++ tl) r p) :
    Q r { s with heap := h, toks := tk } := by
  refine hret _ _ h tk F (fun q hq => N q ?_) ⟨oT, oA, oF, oN, tl, ex, hA, hF, hz, ht, hf, hT, rfl⟩
  rcases List.mem_cons.mp hq with rfl | hq
  · exact m1
  rcases List.mem_cons.mp hq with rfl | hq
  · exact m2
  rcases List.mem_cons.mp hq with rfl | hq
  · exact m3
  rcases List.mem_cons.mp hq with rfl | hq
  · exact m4
  exact (List.mem_append.mp hq).elim (m5 q) (m6 q)
/-- nothing new: a variable or a whole number -/
theorem built_same {w : World} {h₀ h : Heap} {L Tt AN Fs FN : Addr} {m : Str → Option Value} {core news lf : List (Addr × Obj)} {s : Shared} {Q : Value → Shared → Prop} {tk : Nat} {oT oA oF oN : Obj} {ts : List Str} {gs : List (Int × Int)} {p : Plan} {r : Value}
    (hret : BuiltRet w Tt AN Fs FN ts gs p core news h₀ L m s Q) (F : Fr h₀ L h m) (N : News h₀ L h lf) (m1 : (Tt, oT) ∈ lf) (m2 : (AN, oA) ∈ lf) (m3 : (Fs, oF) ∈ lf) (m4 : (FN, oN) ∈ lf) (m5 : ∀ p ∈ news, p ∈ lf) (hA : AtomObj w oT oA ts)
    (hF : FunObj w core oF oN gs) (hT : TermIn ts gs core r p) : Q r { s with heap := h, toks := tk } :=
  built_fin (tl := []) (ex := []) hret F N m1 m2 m3 m4 m5 hA (fun _ h => nomatch h) (by rw [List.append_nil, List.append_nil]; exact hF) (by rw [List.append_nil]; exact Nat.le_add_right _ _) Tups.nil Fresh.nil (by rw [List.append_nil, List.append_nil]; exact hT)
theorem built_atom {w : World} {h₀ h : Heap} {L D Tt AN Fs FN : Addr} {m : Str → Option Value} {core news lf : List (Addr × Obj)} {s : Shared} {Q : Value → Shared → Prop} {tk n : Nat} {oT oA oF oN : Obj} {ts : List Str} {gs : List (Int × Int)} {y : Txt} {t1 t2 : Tok}
    (hret : BuiltRet w Tt AN Fs FN ts gs (.pa y) core news h₀ L m s Q) (F : Fr h₀ L h m) (N : News h₀ L h lf) (m1 : (Tt, oT) ∈ lf) (m2 : (AN, oA) ∈ lf) (m3 : (Fs, oF) ∈ lf) (m4 : (FN, oN) ∈ lf) (m5 : ∀ p ∈ news, p ∈ lf) (hA : AtomObj w oT oA ts)
    (hF : FunObj w core oF oN gs) (hK : Known ts) (mD : (D, ({ cls := .type "tuple", data := .seq #[.str (Str.ofString "a") t1, .int (tno ts y.str) t2] n } : Obj)) ∈ lf) (fD : ∀ q ∈ news, @LT.lt Nat _ q.1 D) : Q (.ref D) { s with heap := h, toks := tk } :=
  built_fin (tl := [(D, ({ cls := .type "tuple", data := .seq #[.str (Str.ofString "a") t1, .int (tno ts y.str) t2] n } : Obj))]) (ex := []) hret F N m1 m2 m3 m4 m5 hA (List.forall_mem_cons.mpr ⟨mD, List.forall_mem_nil _⟩) (by rw [List.append_nil]; exact hF.mono (fun _ h => List.mem_append.mpr (.inl h))) (by rw [List.append_nil]; exact Nat.le_add_right _ _) (Tups.cons Tups.nil) (Fresh.cons fD Fresh.nil)
    (.pa (List.mem_append.mpr (.inr (.head _))) (hK.2 y).2.1 (hK.2 y).2.2.1 (hK.2 y).2.2.2)
theorem built_str1 {w : World} {h₀ h : Heap} {L D c Tt AN Fs FN : Addr} {m : Str → Option Value} {core news lf ta tb : List (Addr × Obj)} {s : Shared} {Q : Value → Shared → Prop} {tk n n' : Nat} {oT oA oF oN : Obj} {ts : List Str} {gs ex ex' : List (Int × Int)} {f : Txt} {p : Plan} {k : Int} {r : Value} {t1 t2 : Tok}
    (hret : BuiltRet w Tt AN Fs FN ts gs (.ps1 f p) core news h₀ L m s Q) (F : Fr h₀ L h m) (N : News h₀ L h lf) (m1 : (Tt, oT) ∈ lf) (m2 : (AN, oA) ∈ lf) (m3 : (Fs, oF) ∈ lf) (m4 : (FN, oN) ∈ lf) (m5 : ∀ p ∈ news, p ∈ lf) (hA : AtomObj w oT oA ts)
    (hF : FunObj w (core ++ ta ++ tb) oF oN (gs ++ ex ++ ex')) (hT : TermIn ts (gs ++ ex ++ ex') (core ++ ta ++ tb) r p) (hfa : FunAt ts (gs ++ ex) k 1 f.str) (z1 : (gs ++ ex).length ≤ gs.length + 1) (z2 : (gs ++ ex ++ ex').length ≤ (gs ++ ex).length + p.sz)
    (mD : (D, ({ cls := .type "tuple", data := .seq #[.str (Str.ofString "s") t1, .int k t2, .ref c] n } : Obj)) ∈ lf) (mc : (c, ({ cls := .type "tuple", data := .seq #[r] n' } : Obj)) ∈ lf)
    (ma : ∀ p ∈ ta, p ∈ lf) (mb : ∀ p ∈ tb, p ∈ lf) (hta : Tups ta) (htb : Tups tb) (fD : ∀ q ∈ news, @LT.lt Nat _ q.1 D) (fc : ∀ q ∈ news, @LT.lt Nat _ q.1 c) (fa : Fresh news ta) (fb : Fresh news tb) : Q (.ref D) { s with heap := h, toks := tk } := by
  have m9 : ∀ p ∈ core ++ ta ++ tb, p ∈ core ++ ((D, ({ cls := .type "tuple", data := .seq #[.str (Str.ofString "s") t1, .int k t2, .ref c] n } : Obj)) :: (c, ({ cls := .type "tuple", data := .seq #[r] n' } : Obj)) :: (ta ++ tb)) := fun p hp => by
    rw [List.append_assoc] at hp
    rcases List.mem_append.mp hp with hp | hp
    · exact List.mem_append.mpr (.inl hp)
    · exact List.mem_append.mpr (.inr (.tail _ (.tail _ hp)))
  refine built_fin (tl := (D, _) :: (c, _) :: (ta ++ tb)) (ex := ex ++ ex') hret F N m1 m2 m3 m4 m5 hA (List.forall_mem_cons.mpr ⟨mD, List.forall_mem_cons.mpr ⟨mc, List.forall_mem_append.mpr ⟨ma, mb⟩⟩⟩) ?_ ?_ (Tups.cons (Tups.cons (Tups.app hta htb))) (Fresh.cons fD (Fresh.cons fc (Fresh.app fa fb))) ?_
  · rw [← List.append_assoc]; exact hF.mono m9
  · rw [← List.append_assoc]; simp only [Plan.sz]; omega
  · rw [← List.append_assoc]
    exact .ps1 (List.mem_append.mpr (.inr (.head _))) (List.mem_append.mpr (.inr (.tail _ (.head _)))) hfa.grow (hT.mono m9)
theorem built_str2 {w : World} {h₀ h : Heap} {L D c Tt AN Fs FN : Addr} {m : Str → Option Value} {core news lf ta tb td : List (Addr × Obj)} {s : Shared} {Q : Value → Shared → Prop} {tk n n' : Nat} {oT oA oF oN : Obj} {ts : List Str} {gs ex ex' ex3 : List (Int × Int)} {f : Txt} {p q : Plan} {k : Int} {r r' : Value} {t1 t2 : Tok}
    (hret : BuiltRet w Tt AN Fs FN ts gs (.ps2 f p q) core news h₀ L m s Q) (F : Fr h₀ L h m) (N : News h₀ L h lf) (m1 : (Tt, oT) ∈ lf) (m2 : (AN, oA) ∈ lf) (m3 : (Fs, oF) ∈ lf) (m4 : (FN, oN) ∈ lf) (m5 : ∀ p ∈ news, p ∈ lf) (hA : AtomObj w oT oA ts)
    (hF : FunObj w (core ++ ta ++ tb ++ td) oF oN (gs ++ ex ++ ex' ++ ex3)) (hT : TermIn ts (gs ++ ex ++ ex') (core ++ ta ++ tb) r p) (hT' : TermIn ts (gs ++ ex ++ ex' ++ ex3) (core ++ ta ++ tb ++ td) r' q) (hfa : FunAt ts (gs ++ ex) k 2 f.str) (z1 : (gs ++ ex).length ≤ gs.length + 1) (z2 : (gs ++ ex ++ ex').length ≤ (gs ++ ex).length + p.sz) (z3 : (gs ++ ex ++ ex' ++ ex3).length ≤ (gs ++ ex ++ ex').length + q.sz)
    (mD : (D, ({ cls := .type "tuple", data := .seq #[.str (Str.ofString "s") t1, .int k t2, .ref c] n } : Obj)) ∈ lf) (mc : (c, ({ cls := .type "tuple", data := .seq #[r, r'] n' } : Obj)) ∈ lf)
    (ma : ∀ p ∈ ta, p ∈ lf) (mb : ∀ p ∈ tb, p ∈ lf) (md : ∀ p ∈ td, p ∈ lf) (hta : Tups ta) (htb : Tups tb) (htd : Tups td) (fD : ∀ q ∈ news, @LT.lt Nat _ q.1 D) (fc : ∀ q ∈ news, @LT.lt Nat _ q.1 c) (fa : Fresh news ta) (fb : Fresh news tb) (fd : Fresh news td) : Q (.ref D) { s with heap := h, toks := tk } := by
  have m9 : ∀ p ∈ core ++ ta ++ tb ++ td, p ∈ core ++ ((D, ({ cls := .type "tuple", data := .seq #[.str (Str.ofString "s") t1, .int k t2, .ref c] n } : Obj)) :: (c, ({ cls := .type "tuple", data := .seq #[r, r'] n' } : Obj)) :: (ta ++ (tb ++ td))) := fun p hp => by
    rw [List.append_assoc, List.append_assoc] at hp
    rcases List.mem_append.mp hp with hp | hp
    · exact List.mem_append.mpr (.inl hp)
    · exact List.mem_append.mpr (.inr (.tail _ (.tail _ hp)))
  refine built_fin (tl := (D, _) :: (c, _) :: (ta ++ (tb ++ td))) (ex := ex ++ (ex' ++ ex3)) hret F N m1 m2 m3 m4 m5 hA (List.forall_mem_cons.mpr ⟨mD, List.forall_mem_cons.mpr ⟨mc, List.forall_mem_append.mpr ⟨ma, List.forall_mem_append.mpr ⟨mb, md⟩⟩⟩⟩) ?_ ?_ (Tups.cons (Tups.cons (Tups.app hta (Tups.app htb htd)))) (Fresh.cons fD (Fresh.cons fc (Fresh.app fa (Fresh.app fb fd)))) ?_
  · rw [show gs ++ (ex ++ (ex' ++ ex3)) = gs ++ ex ++ ex' ++ ex3 by simp only [List.append_assoc]]; exact hF.mono m9
  · rw [show gs ++ (ex ++ (ex' ++ ex3)) = gs ++ ex ++ ex' ++ ex3 by simp only [List.append_assoc]]; simp only [Plan.sz]; omega
  · rw [show gs ++ (ex ++ (ex' ++ ex3)) = gs ++ ex ++ ex' ++ ex3 by simp only [List.append_assoc]]
    exact .ps2 (List.mem_append.mpr (.inr (.head _))) (List.mem_append.mpr (.inr (.tail _ (.head _)))) hfa.grow.grow ((hT.mono fun p hp => m9 p (List.mem_append.mpr (.inl hp))).grow) (hT'.mono m9)
theorem atomK_use {w : World} {loose : List Str} {mean : ExcName → Option Value} {mg mb : Str → Option Value} {dp un : Nat} {gd : Option (List Code)} {cn : Str} {cs : Scope} {a : Addr} {ccd : Value} {cl : List (Str × Addr)} {outer : List Env} {A₀ : Around} {base h₀ : Heap} {L : Addr} {m : Str → Option Value} {s : Shared} {Q E : Value → Shared → Prop}
    {x dx Tt AN Fs FN : Addr} {t1 t2 t3 t4 : Tok} {y : Txt} {t : Tok} {oT oA : Obj} {ts : List Str} {news0 l1 l2 : List (Addr × Obj)}
    (B : Below A₀ base outer h₀) (F : Fr h₀ L s.heap m) (X : (Mine.hd.heap_1 w.params).In h₀) (N : News h₀ L s.heap news0) (T : Top Mine.hd.view_1 loose mean mg mb h₀) (hk : cs.kind = .function) (hx : (x, instObj 157 dx) ∈ news0) (hdx : (dx, bookDict w t1 t2 t3 t4 Tt AN Fs FN) ∈ news0) (p1 : Pick Tt oT news0 l1) (p2 : Pick AN oA l1 l2) (mx : (x, instObj 157 dx) ∈ l2) (md : (dx, bookDict w t1 t2 t3 t4 Tt AN Fs FN) ∈ l2) (ho : AtomObj w oT oA ts) (hK : Known ts) (lo : (AN == sysModules) = false) (h4 : Four Tt AN Fs FN)
    (o1 : ∀ p ∈ l2, p.1 ≠ Tt ∧ p.1 ≠ AN) (hd : dp + 1 < recursionLimit) (hu : un + 8 * 1 + 64 < cLine)
    (ret : ∀ oT' oA' h' tk' t', AtomObj w oT' oA' ts → Fr h₀ L h' m → News h₀ L h' ((Tt, oT') :: (AN, oA') :: l2) → Q (.int (tno ts y.str) t') { s with heap := h', toks := tk' }) :
    wpAny (model PySem.Challenge.rw_sa0142_01.row.prog w) (ktrTop dp un gd cn cs L a ccd cl outer) (call (.ref 91) [.ref x, .str y.str t]) Q E s :=
  atom_use B F X N T hk hx hdx p1 p2 mx md ho hK.1 lo h4.1 (fun p hp => (o1 p hp).1) (fun p hp => (o1 p hp).2) hd hu (fun oT' oA' h' tk' t' h1 F' N' => by
    rw [(hK.2 y).1] at h1 ⊢
    exact ret oT' oA' h' tk' t' h1 F' N')
theorem funcK_use {w : World} {loose : List Str} {mean : ExcName → Option Value} {mg mb : Str → Option Value} {dp un : Nat} {gd : Option (List Code)} {cn : Str} {cs : Scope} {a : Addr} {ccd : Value} {cl : List (Str × Addr)} {outer : List Env} {A₀ : Around} {base h₀ : Heap} {L : Addr} {m : Str → Option Value} {s : Shared} {Q E : Value → Shared → Prop}
    {x dx Tt AN Fs FN : Addr} {t1 t2 t3 t4 : Tok} {y : Txt} {t : Tok} {n : Int} {tn : Tok} {oT oA oF oN : Obj} {ts : List Str} {gs : List (Int × Int)} {news0 l1 l2 l3 l4 lf : List (Addr × Obj)}
    (B : Below A₀ base outer h₀) (F : Fr h₀ L s.heap m) (X : (Mine.hd.heap_1 w.params).In h₀) (N : News h₀ L s.heap news0) (T : Top Mine.hd.view_1 loose mean mg mb h₀) (hk : cs.kind = .function) (hx : (x, instObj 157 dx) ∈ news0) (hdx : (dx, bookDict w t1 t2 t3 t4 Tt AN Fs FN) ∈ news0) (p1 : Pick Tt oT news0 l1) (p2 : Pick AN oA l1 l2) (p3 : Pick Fs oF l2 l3) (p4 : Pick FN oN l3 l4)
    (mx : (x, instObj 157 dx) ∈ l4) (md : (dx, bookDict w t1 t2 t3 t4 Tt AN Fs FN) ∈ l4) (hA : AtomObj w oT oA ts) (hK : Known ts) (loA : (AN == sysModules) = false) (hF : FunObj w lf oF oN gs) (sF : ∀ p ∈ lf, p ∈ l4) (hlF : gs.length ≤ 100) (loF : (FN == sysModules) = false) (h4 : Four Tt AN Fs FN)
    (o1 : BkOff Tt AN Fs FN l4) (hd : dp + 2 < recursionLimit) (hu : un + 8 * 2 + 64 < cLine)
    (ret : ∀ k ex oT' oA' oF' oN' tl h' tk' t', AtomObj w oT' oA' ts → FunObj w (lf ++ tl) oF' oN' (gs ++ ex) → (gs ++ ex).length ≤ gs.length + 1 → FunAt ts (gs ++ ex) k n y.str → Tups tl → Fresh l4 tl → Fr h₀ L h' m → News h₀ L h' ((Tt, oT') :: (AN, oA') :: (Fs, oF') :: (FN, oN') :: (l4 ++ tl)) →
      Q (.int k t') { s with heap := h', toks := tk' }) :
    wpAny (model PySem.Challenge.rw_sa0142_01.row.prog w) (ktrTop dp un gd cn cs L a ccd cl outer) (call (.ref 112) [.ref x, .str y.str t, .int n tn]) Q E s :=
  func_useC B F X N T hk hx hdx p1 p2 p3 p4 mx md hA hK.1 loA hF sF hlF loF h4 (fun p hp => (o1 p hp).1) (fun p hp => (o1 p hp).2.1) (fun p hp => (o1 p hp).2.2.1) (fun p hp => (o1 p hp).2.2.2) hd hu (fun oT' oA' oF' oN' tl h' tk' t' h1 h2 h3 h5 F' N' => by
    rw [(hK.2 y).1] at h1 h2 ⊢
    obtain ⟨_, _, _, ex, e⟩ := gput_at gs (tno ts y.str, n) hlF
    have hz := gput_len (gs := gs) (k := (tno ts y.str, n))
    have hf := fun_at hK y n hlF
    rw [e] at h2 hz hf ⊢
    exact ret _ ex oT' oA' oF' oN' tl h' tk' t' h1 h2 hz hf h3 h5 F' N')
theorem built_use {w : World} {loose : List Str} {mean : ExcName → Option Value} {mg mb : Str → Option Value} {dp un : Nat} {gd : Option (List Code)} {cn : Str} {cs : Scope} {a : Addr} {ccd : Value} {cl : List (Str × Addr)} {outer : List Env} {A₀ : Around} {base h₀ : Heap} {L : Addr} {m : Str → Option Value} {s : Shared} {Q E : Value → Shared → Prop} {p : Plan} {x dx Tt AN Fs FN : Addr} {t1 t2 t3 t4 : Tok} {v : Value} {oT oA oF oN : Obj} {ts : List Str} {gs : List (Int × Int)} {news0 l1 l2 l3 l4 lf lp : List (Addr × Obj)} (B : Below A₀ base outer h₀) (F : Fr h₀ L s.heap m) (X : (Mine.hd.heap_1 w.params).In h₀) (N : News h₀ L s.heap news0) (T : Top Mine.hd.view_1 loose mean mg mb h₀) (hk : cs.kind = .function) (hx : (x, instObj 157 dx) ∈ news0) (hdx : (dx, bookDict w t1 t2 t3 t4 Tt AN Fs FN) ∈ news0) (p1 : Pick Tt oT news0 l1) (p2 : Pick AN oA l1 l2) (p3 : Pick Fs oF l2 l3) (p4 : Pick FN oN l3 l4) (hv : PlanIn lp v p) (C : BuiltSpec p) (mx : (x, instObj 157 dx) ∈ l4) (md : (dx, bookDict w t1 t2 t3 t4 Tt AN Fs FN) ∈ l4) (hA : AtomObj w oT oA ts) (hK : Known ts) (loA : (AN == sysModules) = false) (hF : FunObj w lf oF oN gs) (sF : ∀ p ∈ lf, p ∈ l4) (sv : ∀ p ∈ lp, p ∈ lf) (hlF : gs.length + p.sz ≤ 100) (loF : (FN == sysModules) = false) (h4 : Four Tt AN Fs FN) (o1 : BkOff Tt AN Fs FN l4) (hd : dp + (p.deep + 2) < recursionLimit) (hu : un + 8 * (p.deep + 2) + 64 < cLine) (ret : ∀ r ex oT' oA' oF' oN' tl h' tk', AtomObj w oT' oA' ts → FunObj w (lf ++ tl) oF' oN' (gs ++ ex) → (gs ++ ex).length ≤ gs.length + p.sz → Tups tl → Fresh l4 tl → TermIn ts (gs ++ ex) (lf ++ tl) r p → Fr h₀ L h' m → News h₀ L h' ((Tt, oT') :: (AN, oA') :: (Fs, oF') :: (FN, oN') :: (l4 ++ tl)) →
      Q r { s with heap := h', toks := tk' }) :
    wpAny (model PySem.Challenge.rw_sa0142_01.row.prog w) (ktrTop dp un gd cn cs L a ccd cl outer) (call (.ref 192) [.ref x, v]) Q E s :=
  tri_use B F X N T hk (C sF (hv.mono sv) ⟨mx, md, hA, hF, loA, loF, h4⟩ o1 hK hlF) (fun p hp => p1.sub _ (by
    rcases List.mem_cons.mp hp with rfl | hp
    · exact .head _
    · refine .tail _ (p2.sub _ ?_)
      rcases List.mem_cons.mp hp with rfl | hp
      · exact .head _
      · exact .tail _ (p3.sub2 p4 _ hp))) hd hu (fun r news' h' tk' F' N' h => by
    obtain ⟨oT', oA', oF', oN', tl, ex, h1, h2, h3, h5, h6, h7, rfl⟩ := h
    exact ret r ex oT' oA' oF' oN' tl h' tk' h1 h2 h3 h5 h6 h7 F' N')

section

theorem said30 : True := by
  k_with "my k_mem9" => first | exact List.Mem.head _ | assumption | (refine' List.Mem.tail _ ?_; k_mem) | (refine' List.mem_append.mpr (Or.inl ?_); k_mem) | (refine' List.mem_append.mpr (Or.inr ?_); k_mem) | fail "9"
  k_with "my eval ListComp" => (k_here; (with_reducible show wpAny _ _ (eval (Expr.ListComp _ [Comprehension.mk (Expr.Name (Str.ofString "sign") _) _ _ _] _ _) _) _ _ _); k_dflt (refine ListComp_S (by k_asm) (by with_unfolding_all rfl) (by decide) (by rfl) (by decide) (by rfl) ?_))
  k_with "my eval ListComp" => (k_here; (with_reducible show wpAny _ _ (eval (Expr.ListComp _ [Comprehension.mk (Expr.Name (Str.ofString "part") _) _ _ _] _ _) _) _ _ _); k_dflt (refine ListComp_T (by k_asm) (by with_unfolding_all rfl) (by decide) (by rfl) (by decide) (by rfl) ?_))
  k_with "my SrcS" => (k_here; k_dflt (refine' src_str (by rfl) (by k_asm) (by k_asm) (by exact Txt.ascii _) (by exact Txt.small' _) ?_ ?_ (by exact Txt.small _)))
  k_with "my TurnS" => (unfold TurnS; intros)
  k_with "my FinS" => (unfold FinS; intros)
  k_with "my CodeEnd" => exact CodeEnd.intro
  k_with "my SrcT" => (k_here; k_dflt (refine src_tup (by rfl) (by k_asm) (by k_asm) (by k_mem) (by first | size_fits | exact Nat.le_of_ble_eq_true rfl) ?_; intros; lcg_lit))
  k_with "my myfresh" => first | exact Fresh.nil | (refine Fresh.cons ?_ ?_ <;> k_extra "my myfresh") | (refine Fresh.app ?_ ?_ <;> k_extra "my myfresh") | exact Fresh.sub (by assumption) (by k_extra "my sb9") | exact lt_sub (by assumption) (by k_extra "my sb9") | exact tb_ltOf (by tbn_find) | exact lt_sub (tb_ltOf (by tbn_find)) (fun _ h => List.mem_append.mpr (.inl h)) | exact lt_sub (tb_ltOf (by tbn_find)) (fun _ h => List.mem_append.mpr (.inl (List.mem_append.mpr (.inl h)))) | fail "9"
  k_with "my myoff" => first | assumption | exact True.intro | (refine off3_app ?_ ?_ <;> k_extra "my myoff") | exact off3_fresh (by assumption) (by k_mem) (by k_mem) (by k_mem) | exact (And.right (by assumption)) | exact (And.right (And.right (by assumption))) | exact (And.right (And.right (And.right (by assumption)))) | exact (And.right (And.right (And.right (And.right (by assumption))))) | exact (And.right (And.right (And.right (And.right (And.right (by assumption)))))) | exact (And.right (And.right (And.right (And.right (And.right (And.right (by assumption))))))) | (refine And.intro ⟨by k_ne, by k_ne, by k_ne⟩ ?_; k_extra "my myoff") | fail "9"
  k_with "my CompEnd" => (k_here; refine' comp_end (by assumption) (by assumption) (by k_extra "my pick9") (by k_extra "my pick9") (by k_extra "my pick9") (by k_extra "my myoff") (by first | exact True.intro | (unfold TupAt; k_mem)) ?_; k_whole)
  k_with "my call type:tuple" => (k_here; (with_reducible show wpAny _ _ (call (Value.type "tuple") [Value.ref _]) _ _ _); k_dflt (refine' kde_tupleOf (by k_asm) (by k_asm) (by exact News.isList (by k_asm) (by k_mem)) (by first | assumption | exact Nat.le_of_ble_eq_true rfl) (by first | exact List.toList_toArray | exact List.toList_toArray _ | exact rfl) ?_; k_whole; intros))
  k_with "my myfresh" => first | exact Fresh.nil | (refine Fresh.cons ?_ ?_ <;> k_extra "my myfresh") | (refine Fresh.app ?_ ?_ <;> k_extra "my myfresh") | exact Fresh.sub (by assumption) (by k_extra "my sb9") | exact lt_sub (by assumption) (by k_extra "my sb9") | exact tb_ltOf (by tbn_find) | exact lt_sub (tb_ltOf (by tbn_find)) (fun _ h => List.mem_append.mpr (.inl h)) | exact lt_sub (tb_ltOf (by tbn_find)) (fun _ h => List.mem_append.mpr (.inl (List.mem_append.mpr (.inl h)))) | fail "9"
  k_with "my sub9" => first | with_reducible exact sub_id | with_reducible exact sub_nil | exact Sub.of (by assumption) | ((with_reducible refine sub_app ?_ ?_) <;> k_extra "my sub9") | ((with_reducible refine sub_cons ?_ ?_) <;> first | k_mem | k_extra "my sub9") | ((with_reducible refine sub_tail ?_); k_extra "my sub9") | ((with_reducible refine sub_l ?_); k_extra "my sub9") | ((with_reducible refine sub_r ?_); k_extra "my sub9") | fail "9"
  k_with "my bkoff1" => first | exact aoff_of (by assumption) | (refine aoff_cons (by first | assumption | exact Ne.symm (by assumption) | k_ne) (by first | assumption | exact Ne.symm (by assumption) | k_ne) ?_; k_extra "my bkoff1") | fail "9"
  k_with "my bkoff" => first | assumption | (refine bkoff_comp (by assumption) ?_; k_extra "my bkoff") | (refine bkoff_cell (by assumption) ?_; k_extra "my bkoff") | (refine bkoff_cons (by k_ne) (by k_ne) (by k_ne) (by k_ne) ?_; k_extra "my bkoff") | (refine bkoff_app ?_ ?_ <;> k_extra "my bkoff") | exact bkoff_tups (by assumption) (by k_asm) (by k_mem) (by k_mem) (by k_mem) (by k_mem) (by assumption) (by assumption) (by k_extra "my sub9") | fail "9"
  k_with "my call ref" => (k_here; (with_reducible show wpAny _ _ (call (Value.ref 91) _) _ _ _); k_dflt (refine' atomK_use (by k_asm) (by k_asm) (by k_asm) (by k_asm) (by k_asm) (by k_extra "my hk9") (by k_mem) (by k_mem) (by k_extra "my pick9") (by k_extra "my pick9") (by k_mem) (by k_mem) (by assumption) (by assumption) (by assumption) (by assumption) (by k_extra "my bkoff1") (by k_extra "my hd9") (by k_extra "my hu9") ?_; k_whole; intros; k_extra "my end9"))
  k_with "my call ref" => (k_here; (with_reducible show wpAny _ _ (call (Value.ref 112) _) _ _ _); k_dflt (refine' funcK_use (by k_asm) (by k_asm) (by k_asm) (by k_asm) (by k_asm) (by k_extra "my hk9") (by k_mem) (by k_mem) (by k_extra "my pick9") (by k_extra "my pick9") (by k_extra "my pick9") (by k_extra "my pick9") (by k_mem) (by k_mem) (by assumption) (by assumption) (by assumption) (by assumption) (by k_extra "my sub9") (by k_extra "my bksz") (by assumption) (by assumption) (by k_extra "my bkoff") (by k_extra "my hd9") (by k_extra "my hu9") ?_; k_whole; intros; k_extra "my norm9"; k_extra "my end9"))
  k_with "my call ref" => (k_here; (with_reducible show wpAny _ _ (call (Value.ref 192) _) _ _ _); k_dflt (refine' built_use (by k_asm) (by k_asm) (by k_asm) (by k_asm) (by k_asm) (by k_extra "my hk9") (by k_mem) (by k_mem) (by k_extra "my pick9") (by k_extra "my pick9") (by k_extra "my pick9") (by k_extra "my pick9") (by assumption) (by assumption) (by k_mem) (by k_mem) (by assumption) (by assumption) (by assumption) (by assumption) (by k_extra "my sub9") (by k_extra "my sub9") (by k_extra "my bksz") (by assumption) (by assumption) (by k_extra "my bkoff") (by k_extra "my hd9") (by k_extra "my hu9") ?_; k_whole; intros; k_extra "my norm9"; k_extra "my end9"))
  k_with "my myfresh" => first | exact lt_sub (tb_ltOf (by tbn_find)) (by k_extra "my sub9") | exact lt_sub (by assumption) (by k_extra "my sub9") | fail "9"
  k_with "my bksz" => first | exact bz0 (by assumption) | exact bz3 (by assumption) (by assumption) (by assumption) | exact bz2 (by assumption) (by assumption) | exact bz1 (by assumption) (by assumption) | fail "9"
  trivial
set_option maxHeartbeats 8000000 in
theorem built_pv (i : Int) : BuiltSpec (.pv i) := by
    intro w x dx Tt AN Fs FN t1 t2 t3 t4 oT oA oF oN ts gs v core news hc hv hb ho hK hl
    obtain ⟨hx, hdx, hA, hF, lo1, lo2, h4⟩ := hb
    have h4' := h4
    obtain ⟨n1, n2, n3, n4, n5, n6⟩ := h4'
    cases hv; rename_i q1; have q4 := hc _ q1
    unfold Tri
    k_fill
    intro loose mean mg mb dp un gd cn cs a ccd cl outer A₀ base h₀ L m s Q E B F X N T hk hd hu hret
    (try simp only [Plan.deep] at hd hu)
    refine wpAny_call ?_
    k_dflt (refine' code_defC ?k1 ?k2 ?k3 ?k4 ?k5 ?kA ?kF ?kK ?k6 ?k7 ?k8 ?k9 ?kB ?kD ?_ ?c2 ?c3 ?c4; (case kA => exact rfl); (case kF => exact rfl); (case kK => assumption); (case k1 => k_asm); (case k2 => k_asm); (case k3 => k_asm); (case k4 => k_asm); (case k5 => k_asm); (case k6 => k_is); (case k7 => k_is); (case k8 => ktr_room); (case k9 => exact BindsTo.of_eq rfl); (case kB => exact rfl); (case kD => decide +kernel); (case c2 => exact rfl); (case c3 => exact rfl); (case c4 => exact rfl); k_whole; intro g' L' h' tk' cells' FG' F' N' Y' B' X' T' l1; (try k_lt l1); k_cells Y'; (try simp only [List.cons_append, List.nil_append] at N'); (try dsimp only); (try k_lift B'); (try k_fold))
    k_steps
    all_goals (exact built_same hret (by k_asm) (by k_asm) (by k_mem) (by k_mem) (by k_mem) (by k_mem) (by k_extra "my sb9") hA hF (TermIn.pv (by assumption)))


set_option maxHeartbeats 8000000 in
theorem built_pi (i : Int) : BuiltSpec (.pi i) := by
    intro w x dx Tt AN Fs FN t1 t2 t3 t4 oT oA oF oN ts gs v core news hc hv hb ho hK hl
    obtain ⟨hx, hdx, hA, hF, lo1, lo2, h4⟩ := hb
    have h4' := h4
    obtain ⟨n1, n2, n3, n4, n5, n6⟩ := h4'
    cases hv; rename_i q1; have q4 := hc _ q1
    unfold Tri
    k_fill
    intro loose mean mg mb dp un gd cn cs a ccd cl outer A₀ base h₀ L m s Q E B F X N T hk hd hu hret
    (try simp only [Plan.deep] at hd hu)
    refine wpAny_call ?_
    k_dflt (refine' code_defC ?k1 ?k2 ?k3 ?k4 ?k5 ?kA ?kF ?kK ?k6 ?k7 ?k8 ?k9 ?kB ?kD ?_ ?c2 ?c3 ?c4; (case kA => exact rfl); (case kF => exact rfl); (case kK => assumption); (case k1 => k_asm); (case k2 => k_asm); (case k3 => k_asm); (case k4 => k_asm); (case k5 => k_asm); (case k6 => k_is); (case k7 => k_is); (case k8 => ktr_room); (case k9 => exact BindsTo.of_eq rfl); (case kB => exact rfl); (case kD => decide +kernel); (case c2 => exact rfl); (case c3 => exact rfl); (case c4 => exact rfl); k_whole; intro g' L' h' tk' cells' FG' F' N' Y' B' X' T' l1; (try k_lt l1); k_cells Y'; (try simp only [List.cons_append, List.nil_append] at N'); (try dsimp only); (try k_lift B'); (try k_fold))
    k_steps
    all_goals (exact built_same hret (by k_asm) (by k_asm) (by k_mem) (by k_mem) (by k_mem) (by k_mem) (by k_extra "my sb9") hA hF (TermIn.pi (by assumption)))


set_option maxHeartbeats 8000000 in
theorem built_pa (y : Txt) : BuiltSpec (.pa y) := by
    intro w x dx Tt AN Fs FN t1 t2 t3 t4 oT oA oF oN ts gs v core news hc hv hb ho hK hl
    obtain ⟨hx, hdx, hA, hF, lo1, lo2, h4⟩ := hb
    have h4' := h4
    obtain ⟨n1, n2, n3, n4, n5, n6⟩ := h4'
    cases hv; rename_i q1; have q4 := hc _ q1
    unfold Tri
    k_fill
    intro loose mean mg mb dp un gd cn cs a ccd cl outer A₀ base h₀ L m s Q E B F X N T hk hd hu hret
    (try simp only [Plan.deep] at hd hu)
    refine wpAny_call ?_
    k_dflt (refine' code_defC ?k1 ?k2 ?k3 ?k4 ?k5 ?kA ?kF ?kK ?k6 ?k7 ?k8 ?k9 ?kB ?kD ?_ ?c2 ?c3 ?c4; (case kA => exact rfl); (case kF => exact rfl); (case kK => assumption); (case k1 => k_asm); (case k2 => k_asm); (case k3 => k_asm); (case k4 => k_asm); (case k5 => k_asm); (case k6 => k_is); (case k7 => k_is); (case k8 => ktr_room); (case k9 => exact BindsTo.of_eq rfl); (case kB => exact rfl); (case kD => decide +kernel); (case c2 => exact rfl); (case c3 => exact rfl); (case c4 => exact rfl); k_whole; intro g' L' h' tk' cells' FG' F' N' Y' B' X' T' l1; (try k_lt l1); k_cells Y'; (try simp only [List.cons_append, List.nil_append] at N'); (try dsimp only); (try k_lift B'); (try k_fold))
    obtain ⟨b9, hb9, hd9, hu9⟩ : ∃ b : Nat, 1 ≤ b ∧ dp + (b + 1) < recursionLimit ∧ un + 8 * (b + 1) + 64 < cLine := ⟨1, Nat.le_refl _, hd, hu⟩
    clear hd hu
    k_steps
    skip
    all_goals (exact built_atom hret (by k_asm) (by k_asm) (by k_mem) (by k_mem) (by k_mem) (by k_mem) (by k_extra "my sb9") (by assumption) hF hK (by k_mem) (by k_extra "my myfresh"))


set_option maxHeartbeats 8000000 in
theorem built_ps1 (f : Txt) (p : Plan) (ih : BuiltSpec p) : BuiltSpec (.ps1 f p) := by
    intro w x dx Tt AN Fs FN t1 t2 t3 t4 oT oA oF oN ts gs v core news hc hv hb ho hK hl
    obtain ⟨hx, hdx, hA, hF, lo1, lo2, h4⟩ := hb
    have h4' := h4
    obtain ⟨n1, n2, n3, n4, n5, n6⟩ := h4'
    cases hv; rename_i q1 q2 q3; have hl1 : gs.length + (p.sz + 1) ≤ 100 := hl; have q4 := hc _ q1; have q5 := hc _ q2
    unfold Tri
    k_fill
    intro loose mean mg mb dp un gd cn cs a ccd cl outer A₀ base h₀ L m s Q E B F X N T hk hd hu hret
    (try simp only [Plan.deep] at hd hu)
    refine wpAny_call ?_
    k_dflt (refine' code_defC ?k1 ?k2 ?k3 ?k4 ?k5 ?kA ?kF ?kK ?k6 ?k7 ?k8 ?k9 ?kB ?kD ?_ ?c2 ?c3 ?c4; (case kA => exact rfl); (case kF => exact rfl); (case kK => assumption); (case k1 => k_asm); (case k2 => k_asm); (case k3 => k_asm); (case k4 => k_asm); (case k5 => k_asm); (case k6 => k_is); (case k7 => k_is); (case k8 => ktr_room); (case k9 => exact BindsTo.of_eq rfl); (case kB => exact rfl); (case kD => decide +kernel); (case c2 => exact rfl); (case c3 => exact rfl); (case c4 => exact rfl); k_whole; intro g' L' h' tk' cells' FG' F' N' Y' B' X' T' l1; (try k_lt l1); k_cells Y'; (try simp only [List.cons_append, List.nil_append] at N'); (try dsimp only); (try k_lift B'); (try k_fold))
    k_steps
    skip
    all_goals (exact built_str1 hret (by k_asm) (by k_asm) (by k_mem) (by k_mem) (by k_mem) (by k_mem) (by k_extra "my sb9") (by assumption) (by assumption) (by assumption) (by assumption) (by assumption) (by assumption) (by k_mem) (by k_mem) (by k_extra "my sub9") (by k_extra "my sub9") (by assumption) (by assumption) (by k_extra "my myfresh") (by k_extra "my myfresh") (by k_extra "my myfresh") (by k_extra "my myfresh"))


set_option maxHeartbeats 8000000 in
theorem built_ps2 (f : Txt) (p q : Plan) (ihp : BuiltSpec p) (ihq : BuiltSpec q) : BuiltSpec (.ps2 f p q) := by
    intro w x dx Tt AN Fs FN t1 t2 t3 t4 oT oA oF oN ts gs v core news hc hv hb ho hK hl
    obtain ⟨hx, hdx, hA, hF, lo1, lo2, h4⟩ := hb
    have h4' := h4
    obtain ⟨n1, n2, n3, n4, n5, n6⟩ := h4'
    cases hv; rename_i q1 q2 q3 q6; have hl1 : gs.length + (p.sz + q.sz + 1) ≤ 100 := hl; have q4 := hc _ q1; have q5 := hc _ q2
    unfold Tri
    k_fill
    intro loose mean mg mb dp un gd cn cs a ccd cl outer A₀ base h₀ L m s Q E B F X N T hk hd hu hret
    (try simp only [Plan.deep] at hd hu)
    refine wpAny_call ?_
    k_dflt (refine' code_defC ?k1 ?k2 ?k3 ?k4 ?k5 ?kA ?kF ?kK ?k6 ?k7 ?k8 ?k9 ?kB ?kD ?_ ?c2 ?c3 ?c4; (case kA => exact rfl); (case kF => exact rfl); (case kK => assumption); (case k1 => k_asm); (case k2 => k_asm); (case k3 => k_asm); (case k4 => k_asm); (case k5 => k_asm); (case k6 => k_is); (case k7 => k_is); (case k8 => ktr_room); (case k9 => exact BindsTo.of_eq rfl); (case kB => exact rfl); (case kD => decide +kernel); (case c2 => exact rfl); (case c3 => exact rfl); (case c4 => exact rfl); k_whole; intro g' L' h' tk' cells' FG' F' N' Y' B' X' T' l1; (try k_lt l1); k_cells Y'; (try simp only [List.cons_append, List.nil_append] at N'); (try dsimp only); (try k_lift B'); (try k_fold))
    k_steps
    skip
    all_goals (exact built_str2 hret (by k_asm) (by k_asm) (by k_mem) (by k_mem) (by k_mem) (by k_mem) (by k_extra "my sb9") (by assumption) (by assumption) (by assumption) (by assumption) (by assumption) (by assumption) (by assumption) (by assumption) (by k_mem) (by k_mem) (by k_extra "my sub9") (by k_extra "my sub9") (by k_extra "my sub9") (by assumption) (by assumption) (by assumption) (by k_extra "my myfresh") (by k_extra "my myfresh") (by k_extra "my myfresh") (by k_extra "my myfresh") (by k_extra "my myfresh"))

theorem built_spec : ∀ p : Plan, BuiltSpec p
  | .pv i => built_pv i
  | .pi i => built_pi i
  | .pa y => built_pa y
  | .ps1 f p => built_ps1 f p (built_spec p)
  | .ps2 f p q => built_ps2 f p q (built_spec p) (built_spec q)

end
end
section
def Off4 (I C K D : Addr) (l : List (Addr × Obj)) : Prop := ∀ p ∈ l, @Ne Nat p.1 I ∧ @Ne Nat p.1 C ∧ @Ne Nat p.1 K ∧ @Ne Nat p.1 D
section
variable {prog : Program} {w : World} {A : Around} {E : Value → Shared → Prop} {s : Shared} {h₀ : Heap} {L : Addr} {m : Str → Option Value} {env : Env}
def CellEnd (h₀ : Heap) (L : Addr) (m : Str → Option Value) (s₁ : Shared) (I C K D : Addr) (oI oC oK oD : Obj) (S : List (Addr × Obj) → Prop) (rest : Value → List (Addr × Obj) → Prop) (y : Value) (s₂ : Shared) : Prop :=
  ∃ h' tk news', s₂ = { s₁ with heap := h', toks := tk } ∧ Fr h₀ L h' m ∧ News h₀ L h' ((I, oI) :: (C, oC) :: (K, oK) :: (D, oD) :: news') ∧ Off4 I C K D news' ∧ S news' ∧ rest y news'
/-- the turns of a block whose name x is a cell, K -/
def CellRest (prog : Program) (w : World) (A : Around) (h₀ : Heap) (L : Addr) (m : Str → Option Value) (env : Env) (elt : PySem.Expr) (x : Str) (scope : Scope) (cl : List (Str × Addr)) (s : Shared) (S : List (Addr × Obj) → Prop) (P : Nat → Value → Prop)
    (Fin : List Value → List (Addr × Obj) → Prop) : Nat → Nat → List Value → List (Addr × Obj) → Prop
  | 0, _, ys, news => Fin ys news
  | k + 1, i, ys, news => ∀ v I oI C oC K oK D h tk (E' : Value → Shared → Prop), P i v → oK.data = .cell (some v) → Fr h₀ L h m → News h₀ L h ((I, oI) :: (C, oC) :: (K, oK) :: (D, LCg.lst ys) :: news) → Off4 I C K D news →
      wpAny (model prog w) A (eval elt (compEnvC scope ((x, K) :: cl) C env)) (CellEnd h₀ L m { s with heap := h, toks := tk } I C K D oI oC oK (LCg.lst ys) S (fun y news' => CellRest prog w A h₀ L m env elt x scope cl s S P Fin k (i + 1) (ys ++ [y]) news')) E' { s with heap := h, toks := tk }
theorem said31 : True := by
  k_with_none
  k_with "my ltc" => first | exact j0 (by assumption) | exact j1 (by assumption) | exact j2 (by assumption) | exact j3 (by assumption) | exact j4 (by assumption) | exact j5 (by assumption) | exact j6 (by assumption) | exact j7 (by assumption) | exact j8 (by assumption) | exact j9 (by assumption) | exact j10 (by assumption) | fail "9"
  k_with "my trc0" => first | assumption | k_extra "my ltc" | fail "9"
  k_with "my trc" => first | exact t0 (by k_extra "my trc0") | exact t1 (by k_extra "my trc0") | exact t2 (by k_extra "my trc0") | fail "9"
  k_with "my k_ne9" => (refine neN ?_; (try dsimp only); first | assumption | exact Ne.symm (by assumption) | (refine Nat.ne_of_lt ?_; k_extra "my ltc") | (refine Nat.ne_of_gt ?_; k_extra "my ltc") | k_extra "my trc" | (refine Ne.symm ?_; k_extra "my trc") | fail "9")
  k_with "my le9" => first | exact Nat.le_refl _ | exact Nat.le_of_ble_eq_true rfl | exact Nat.succ_le_succ (Nat.zero_le _) | assumption | exact Nat.succ_le_succ (Nat.le_max_left _ _) | exact Nat.succ_le_succ (Nat.le_max_right _ _) | exact Nat.succ_le_succ (Nat.succ_le_succ (Nat.zero_le _)) | exact Nat.succ_le_succ (Nat.succ_le_succ (Nat.le_max_left _ _)) | exact Nat.succ_le_succ (Nat.succ_le_succ (Nat.le_max_right _ _)) | exact Nat.succ_le_succ (Nat.succ_le_succ (Nat.succ_le_succ (Nat.le_max_left _ _))) | exact Nat.succ_le_succ (Nat.succ_le_succ (Nat.succ_le_succ (Nat.le_max_right _ _))) | fail "9"
  k_with "my ktr_room9" => first | exact room0 (by assumption) | exact room1 (by assumption) (by k_extra "my le9") | exact room2 (by assumption) (by k_extra "my le9") | fail "9"
  k_with "my ktr_units9" => first | exact units1 (by assumption) (by k_extra "my le9") | exact units2 (by assumption) (by k_extra "my le9") | fail "9"
  k_with "my pick9" => (repeat (first | exact Pick.head | apply Pick.tail))
  k_with "my sb9" => (intro p hp; simp only [List.mem_append, List.mem_cons, hp, true_or, or_true])
  k_with "my hk9" => first | exact rfl | assumption | fail "9"
  k_with "my hd9" => first | exact Nat.le_of_ble_eq_true rfl | ktr_room | ((try simp only [depth_deeper, depth_under_make]); (try dsimp only [ktrTop]); first | ktr_room | omega) | fail "9"
  k_with "my hu9" => first | exact Nat.le_of_ble_eq_true rfl | ktr_units | ((try simp only [units_deeper, units_under_make]); (try dsimp only [ktrTop]); first | ktr_units | omega) | fail "9"
  k_with "my norm9" => ((rename News _ _ _ _ => nN9); (try simp only [List.nil_append, List.cons_append, List.append_nil] at nN9))
  k_with "my norm8" => ((rename News _ _ _ _ => nN9); (try simp only [List.nil_append, List.cons_append, List.append_nil, List.append_assoc] at nN9))
  k_with "my end9" => ((try k_sweep); (try dsimp only); (try k_fold))
  trivial
theorem CellRest.zero {elt : PySem.Expr} {x : Str} {scope : Scope} {cl : List (Str × Addr)} {S : List (Addr × Obj) → Prop} {P : Nat → Value → Prop} {Fin : List Value → List (Addr × Obj) → Prop} {i : Nat} {ys : List Value} {news : List (Addr × Obj)} (h : Fin ys news) :
    CellRest prog w A h₀ L m env elt x scope cl s S P Fin 0 i ys news := h
theorem news_set {h h' : Heap} {K : Addr} {o o' : Obj} {own rest : List (Addr × Obj)} (N : News h₀ L h (own ++ (K, o) :: rest)) (hs : Heap.SameBut K h h') (ho : h'.get? K = some o') (h1 : ∀ p ∈ own, p.1 ≠ K) (h2 : ∀ p ∈ rest, p.1 ≠ K) : News h₀ L h' (own ++ (K, o') :: rest) := fun p hp => by
  rcases List.mem_append.mp hp with hp | hp
  · have z := N p (List.mem_append.mpr (.inl hp))
    exact ⟨(hs.2 _ (h1 p hp)).trans z.1, z.2⟩
  · rcases List.mem_cons.mp hp with rfl | hp
    · exact ⟨ho, (N (K, o) (List.mem_append.mpr (.inr (.head _)))).2⟩
    · have z := N p (List.mem_append.mpr (.inr (.tail _ hp)))
      exact ⟨(hs.2 _ (h2 p hp)).trans z.1, z.2⟩
theorem block_K {elt iter : PySem.Expr} {x : Str} {px : Pos} {scope : Scope} {cl : List (Str × Addr)} {pos : Pos} {s₂ : Shared} {I : Addr} {fp : List Addr} {n : Nat} {P : Nat → Value → Prop} {St : Nat → Heap → Prop} {S : List (Addr × Obj) → Prop} {news : List (Addr × Obj)}
    {Fin : List Value → List (Addr × Obj) → Prop} {RR : Value → Addr → Result → Shared → Prop}
    (W : Walks prog w A I fp [I] n P St) (hsz : n ≤ sizeLine) (hIo : ∀ i h, St i h → ∃ o, h.get? I = some o)
    (hSt : ∀ i h h' o nw, St i h → h.get? I = some o → h'.get? I = some o → (∀ b o, h₀.get? b = some o → h'.get? b = some o) → News h₀ L h' nw → S nw → St i h')
    (hcf : ∀ k, cellsFrom k scope.names cl = (x, k) :: cl) (hpc : ∀ h, pushCells h scope.names = h.push { cls := .type "cell", data := .cell none }) (hkind : scope.kind = .function) (hx : ∀ C K, (compEnvC scope ((x, K) :: cl) C env).kindOf x = some .cell) (hst : St 0 s₂.heap) (hfp : ∀ b ∈ fp, b < s₂.heap.objs.size)
    (F : Fr h₀ L s₂.heap m) (N : News h₀ L s₂.heap news) (hIL : L ≠ I) (hI₀ : h₀.get? I = none) (off : ∀ p ∈ news, p.1 ≠ I) (hS : S news)
    (R : CellRest prog w A h₀ L m env elt x scope cl s₂ S P Fin n 0 [] news)
    (hRR : ∀ D C h tk m' ys news', Fr h₀ L h m → News h₀ L h ((D, LCg.lst ys) :: news') → (∀ p ∈ news', p.1 ≠ D) → h.Ns C m' → h₀.get? C = none → h₀.get? D = none → C ≠ L → D ≠ L → C ≠ D → (∀ p ∈ news', p.1 ≠ C) → Fin ys news' → RR (.ref D) C (.ok .next) { s₂ with heap := h, toks := tk }) :
    wpAny (model prog w) A (newList []) (fun acc s₃ => wpAny (model prog w) A (newFunctionEnv scope env.globals cl [] env.qual none .none (some env)) (fun cenv s₄ =>
      codeAny (model prog w) A (.compStart (.ListComp elt [⟨.Name x px, iter, [], 0⟩] scope pos) 0 (.ref I) acc { cenv with scope := relabel scope env }) (RR acc cenv.locals) s₄) E s₃) E s₂ := by
  refine wpAny_newObj_type ?_
  generalize hH2 : s₂.heap.push { cls := .type "list", dict := none, data := .seq ([] : List Value).toArray } = H2
  simp only [newFunctionEnv, Option.isSome_some, if_true]
  refine wpAny_bind (wpAny_alloc ?_)
  refine wpAny_bind (wpAny_layCells _ (fun name kind cells => by cases hkc : kind == NameKind.cell <;> simp [hkc]) _ _ _ _ ?_)
  refine wpAny_bind ?_
  rw [List.forIn_nil]
  refine wpAny_pure (wpAny_pure ?_)
  rw [hcf, hpc]
  have hC : H2.objs.size = s₂.heap.objs.size + 1 := by rw [← hH2, Heap.size_push]
  have hK : (H2.push { cls := .type "dict", data := .dict #[] }).objs.size = H2.objs.size + 1 := Heap.size_push ..
  generalize hKe : (H2.push { cls := .type "dict", data := .dict #[] }).objs.size = K at hK ⊢
  generalize hHe : (H2.push { cls := .type "dict", data := .dict #[] }).push { cls := .type "cell", data := .cell none } = h₁
  have hnsC : h₁.Ns H2.objs.size (fun _ => none) := hHe ▸ (Heap.Ns.new H2 (.type "dict")).keeps (fun b o e => Heap.get?_push_of_some _ e)
  have hcK : h₁.get? K = some { cls := .type "cell", data := .cell none } := hHe ▸ hKe ▸ Heap.get?_push_size _ rfl
  have up2 : ∀ b o, H2.get? b = some o → h₁.get? b = some o := fun b o e => hHe ▸ Heap.get?_push_of_some _ (Heap.get?_push_of_some _ e)
  have old : ∀ b o, s₂.heap.get? b = some o → h₁.get? b = some o := fun b o e => up2 b o (hH2 ▸ Heap.get?_push_of_some _ e)
  have hacc : h₁.get? s₂.heap.objs.size = some (LCg.lst []) := up2 _ _ (hH2 ▸ Heap.get?_push_size _ rfl)
  have hDC : s₂.heap.objs.size ≠ H2.objs.size := by rw [hC]; exact Nat.ne_of_lt (Nat.lt_succ_self _)
  have hCK : H2.objs.size ≠ K := by rw [hK]; exact Nat.ne_of_lt (Nat.lt_succ_self _)
  have hDK : s₂.heap.objs.size ≠ K := by rw [hK, hC]; exact Nat.ne_of_lt (Nat.lt_succ_of_lt (Nat.lt_succ_self _))
  have below : ∀ b, b < s₂.heap.objs.size → b ≠ H2.objs.size ∧ b ≠ s₂.heap.objs.size ∧ b ≠ K := fun b hb => ⟨by rw [hC]; exact Nat.ne_of_lt (Nat.lt_succ_of_lt hb), Nat.ne_of_lt hb, by rw [hK, hC]; exact Nat.ne_of_lt (Nat.lt_succ_of_lt (Nat.lt_succ_of_lt hb))⟩
  have hDf : s₂.heap.objs.size ∉ fp := fun hm => Nat.lt_irrefl _ (hfp _ hm)
  have hKf : K ∉ fp := fun hm => (below _ (hfp _ hm)).2.2 rfl
  have hIf : I ∈ fp := W.sub I (List.mem_singleton.mpr rfl)
  have hIlt : I < s₂.heap.objs.size := hfp I hIf
  have hst₁ : St 0 h₁ := W.frame _ _ _ hst fun b _ o e => old b o e
  have fresh₀ : ∀ a, s₂.heap.objs.size ≤ a → h₀.get? a = none := fun a ha => by
    cases e : h₀.get? a with
    | none => rfl
    | some o => exact absurd (Heap.lt_size (F.keep a o e)) (Nat.not_lt.mpr ha)
  have hD₀ : h₀.get? s₂.heap.objs.size = none := fresh₀ _ (Nat.le_refl _)
  have hC₀ : h₀.get? H2.objs.size = none := fresh₀ _ (by rw [hC]; exact Nat.le_succ _)
  have hK₀ : h₀.get? K = none := fresh₀ _ (by rw [hK, hC]; exact Nat.le_succ_of_le (Nat.le_succ _))
  have hLlt : L < s₂.heap.objs.size := F.ns.lt
  have hDL : s₂.heap.objs.size ≠ L := Ne.symm (below L hLlt).2.1
  have hCL : H2.objs.size ≠ L := Ne.symm (below L hLlt).1
  have hKL : K ≠ L := Ne.symm (below L hLlt).2.2
  have hCI : I ≠ H2.objs.size := (below I hIlt).1
  have hDI : I ≠ s₂.heap.objs.size := (below I hIlt).2.1
  have hKI : I ≠ K := (below I hIlt).2.2
  have off₀ : Off4 I H2.objs.size K s₂.heap.objs.size news := fun p hp => ⟨off p hp, (below _ (Heap.lt_size (N p hp).1)).1, (below _ (Heap.lt_size (N p hp).1)).2.2, (below _ (Heap.lt_size (N p hp).1)).2.1⟩
  have loop : ∀ s₃ : Shared, s₃ = { s₂ with heap := h₁ } →
      codeAny (model prog w) A (.compLoop (.ListComp elt [⟨.Name x px, iter, [], 0⟩] scope pos) 0 (.ref I) (.ref s₂.heap.objs.size) (compEnvC scope ((x, K) :: cl) H2.objs.size env))
        (RR (.ref s₂.heap.objs.size) H2.objs.size) s₃ := by
    rintro s₃ rfl
    refine codeAny_compLoop_tests
      (fun k s' => ∃ h' tk i ys m' oK kv news', s' = { s₂ with heap := h', toks := tk } ∧ i ≤ n ∧ k = n + 1 - i ∧ ys.length = i ∧ St i h' ∧ Fr h₀ L h' m ∧ h'.Ns H2.objs.size m' ∧ h'.get? K = some oK ∧ oK.data = .cell kv ∧ News h₀ L h' ((s₂.heap.objs.size, LCg.lst ys) :: news') ∧
        Off4 I H2.objs.size K s₂.heap.objs.size news' ∧ S news' ∧ CellRest prog w A h₀ L m env elt x scope cl s₂ S P Fin (n - i) i ys news') ?_ (n + 1)
      ⟨h₁, _, 0, [], _, _, _, news, rfl, Nat.zero_le _, rfl, rfl, hst₁, F.keeps old, hnsC, hcK, rfl, fun p hp => ?_, off₀, hS, R⟩
    · rintro k s' ⟨h', tk, i, ys, m', oK, kv, news', rfl, hi, rfl, hyl, hst', F', hn', hK', hkv, N', off', hS', R'⟩
      by_cases hlt : i < n
      · obtain ⟨j, hj⟩ : ∃ j, n - i = j + 1 := ⟨n - i - 1, by omega⟩
        rw [hj] at R'
        refine W.item i _ _ _ hlt hst' fun v h₂ tk₂ hPv hst₂ hk₂ => ?_
        have hK₂ : h₂.get? K = some oK := hk₂ K oK (by simpa using Ne.symm hKI) hK'
        refine wpAny_assign_Name (wpAny_storeName_cell (c := K) (v₀ := kv) hkind (hx _ _) (by show List.lookup x ((x, K) :: cl) = some K; simp) ⟨oK, hK₂, hkv⟩ (fun h₃ hv₃ hs₃ => ?_))
        obtain ⟨oK₃, hK₃, hd₃⟩ := hv₃
        refine wpAny_tests_nil ?_
        simp only [if_true]
        have hst₃ : St (i + 1) h₃ := W.frame _ _ _ hst₂ fun b hb o e => hs₃.extBut b o (fun q => hKf (by have q' : b = K := q; rw [← q']; exact hb)) e
        obtain ⟨oI, heI⟩ := hIo _ _ hst₃
        have hn₃ : h₃.Ns H2.objs.size m' := (hn'.at' fun o e => hk₂ _ o (by simpa using Ne.symm hCI) e).sameBut hs₃ hCK
        obtain ⟨oC, heC, hoC⟩ := LCg.ns_obj hn₃
        have F₃ : Fr h₀ L h₃ m := (LCg.fr_but F' hk₂ hIL hI₀).change hs₃ hKL hK₀
        have N₂ : News h₀ L h₂ ((s₂.heap.objs.size, LCg.lst ys) :: news') := LCg.news_but N' hk₂ fun p hp => by
          rcases List.mem_cons.mp hp with rfl | hp
          · exact Ne.symm hDI
          · exact (off' p hp).1
        have N₃ : News h₀ L h₃ ((I, oI) :: (H2.objs.size, oC) :: (K, oK₃) :: (s₂.heap.objs.size, LCg.lst ys) :: news') := fun p hp => by
          rcases List.mem_cons.mp hp with rfl | hp
          · exact ⟨heI, Ne.symm hIL, hI₀⟩
          rcases List.mem_cons.mp hp with rfl | hp
          · exact ⟨heC, hCL, hC₀⟩
          rcases List.mem_cons.mp hp with rfl | hp
          · exact ⟨hK₃, hKL, hK₀⟩
          have z := N₂ p hp
          refine ⟨hs₃.extBut _ _ ?_ z.1, z.2⟩
          rcases List.mem_cons.mp hp with rfl | hp
          · exact hDK
          · exact (off' p hp).2.2.1
        refine wpAny_mono (R' v I oI H2.objs.size oC K oK₃ s₂.heap.objs.size h₃ _ _ hPv hd₃ F₃ N₃ off') (fun y s₄ h₄ => ?_) fun _ _ e => e
        obtain ⟨h₄, tk₄, news₄, rfl, F₄, N₄, off₄, hS₄, R₄⟩ := h₄
        have zI := (N₄ (I, oI) List.mem_cons_self).1
        have zC := (N₄ (H2.objs.size, oC) (List.mem_cons_of_mem _ List.mem_cons_self)).1
        have zK := (N₄ (K, oK₃) (List.mem_cons_of_mem _ (List.mem_cons_of_mem _ List.mem_cons_self))).1
        have zD := (N₄ (s₂.heap.objs.size, LCg.lst ys) (List.mem_cons_of_mem _ (List.mem_cons_of_mem _ (List.mem_cons_of_mem _ List.mem_cons_self)))).1
        have N₄' : News h₀ L h₄ news₄ := fun p hp => N₄ p (List.mem_cons_of_mem _ (List.mem_cons_of_mem _ (List.mem_cons_of_mem _ (List.mem_cons_of_mem _ hp))))
        have hst₄ : St (i + 1) h₄ := hSt _ _ _ _ _ hst₃ heI zI F₄.keep N₄' hS₄
        refine append_at (hsz := by show ys.toArray.size ≤ sizeLine; rw [List.size_toArray, hyl]; exact Nat.le_trans hi hsz) zD fun h₅ hs₅ hD₅ => ?_
        refine ⟨n + 1 - (i + 1), by omega, h₅, tk₄, i + 1, ys ++ [y], _, oK₃, _, news₄, rfl, hlt, rfl, by rw [List.length_append, List.length_singleton, hyl], W.frame _ _ _ hst₄ fun b hb o e => hs₅.extBut b o (fun q => hDf (q ▸ hb)) e, F₄.change hs₅ hDL hD₀,
          (hoC.ns zC).sameBut hs₅ (Ne.symm hDC), hs₅.extBut _ _ (Ne.symm hDK) zK, hd₃, fun p hp => ?_, off₄, hS₄, ?_⟩
        · rcases List.mem_cons.mp hp with rfl | hp
          · exact ⟨hD₅.trans (congrArg some (LCg.lst_snoc ys y)), hDL, hD₀⟩
          · exact ⟨hs₅.extBut _ _ (off₄ p hp).2.2.2 (N₄' p hp).1, (N₄' p hp).2⟩
        · rw [show n - (i + 1) = j by omega]
          exact R₄
      · obtain rfl : i = n := Nat.le_antisymm hi (Nat.not_lt.mp hlt)
        rw [Nat.sub_self] at R'
        refine W.done _ _ _ hst' fun h₂ tk₂ hk₂ => ?_
        exact hRR _ _ h₂ tk₂ _ ys news' (LCg.fr_but F' hk₂ hIL hI₀) (LCg.news_but N' hk₂ fun p hp => by
          rcases List.mem_cons.mp hp with rfl | hp
          · exact Ne.symm hDI
          · exact (off' p hp).1) (fun p hp => (off' p hp).2.2.2) (hn'.at' fun o e => hk₂ _ o (by simpa using Ne.symm hCI) e) hC₀ hD₀ hCL hDL (Ne.symm hDC) (fun p hp => (off' p hp).2.1) R'
    · rcases List.mem_cons.mp hp with rfl | hp
      · exact ⟨hacc, hDL, hD₀⟩
      · exact ⟨old _ _ (N p hp).1, (N p hp).2⟩
  exact codeAny_compStart_list (loop _ rfl) (W.self 0 _ _ _ hst₁ (loop _ rfl))
def FinK (h₀ : Heap) (L : Addr) (m : Str → Option Value) (s : Shared) (y : Str) (Q : Flow → Shared → Prop) (ys : List Value) (news : List (Addr × Obj)) : Prop :=
  ∀ D h tk, Fr h₀ L h (fun z => if z = y then some (.ref D) else m z) → News h₀ L h ((D, LCg.lst ys) :: news) → (∀ p ∈ news, p.1 ≠ D) → Q .next { s with heap := h, toks := tk }
def SrcK (prog : Program) (w : World) (A : Around) (h₀ : Heap) (L : Addr) (m : Str → Option Value) (env : Env) (elt : PySem.Expr) (x y : Str) (scope : Scope) (cl : List (Str × Addr)) (Q : Flow → Shared → Prop) (xv : Value) (s₁ : Shared) : Prop :=
  ∃ ax its news, xv = .ref ax ∧ A.handled = none ∧ Fr h₀ L s₁.heap m ∧ News h₀ L s₁.heap news ∧ LCg.SrcAt h₀ ax its news ∧ its.size ≤ sizeLine ∧
    ∀ s₂ : Shared, (∃ h, s₂ = { s₁ with heap := h }) → CellRest prog w A h₀ L m env elt x scope cl s₂ (LCg.SrcAt h₀ ax its) (fun i v => its[i]? = some v) (FinK h₀ L m s₂ y Q) its.size 0 [] news
theorem src_cell {elt : PySem.Expr} {x y : Str} {scope : Scope} {cl : List (Str × Addr)} {ax : Addr} {its : Array Value} {k : Nat} {news : List (Addr × Obj)} {s₁ : Shared} {Q : Flow → Shared → Prop}
    (hh : A.handled = none) (F : Fr h₀ L s₁.heap m) (N : News h₀ L s₁.heap news) (hm : (ax, ({ cls := .type "list", data := .seq its k } : Obj)) ∈ news) (hsz : its.size ≤ sizeLine)
    (h : ∀ g, CellRest prog w A h₀ L m env elt x scope cl { s₁ with heap := g } (LCg.SrcAt h₀ ax its) (fun i v => its[i]? = some v) (FinK h₀ L m { s₁ with heap := g } y Q) its.size 0 [] news) :
    SrcK prog w A h₀ L m env elt x y scope cl Q (.ref ax) s₁ := ⟨ax, its, news, rfl, hh, F, N, .inr ⟨_, hm, rfl, _, rfl⟩, hsz, fun _ ⟨g, e⟩ => e ▸ h g⟩
theorem Assign_ListComp_K {elt iter : PySem.Expr} {x y : Str} {px py : Pos} {scope : Scope} {cl : List (Str × Addr)} {pos spos : Pos} {Q : Flow → Shared → Prop} (_F₀ : Fr h₀ L s.heap m) (hLe : env.locals = L)
    (hsw : swapsWith (.ListComp elt [⟨.Name x px, iter, [], 0⟩] scope pos) (some (.Name y py)) spos.line env = pure true)
    (hclos : closureFor scope env = pure cl) (hcf : ∀ k, cellsFrom k scope.names cl = (x, k) :: cl) (hpc : ∀ h, pushCells h scope.names = h.push { cls := .type "cell", data := .cell none }) (hkind : scope.kind = .function)
    (hnames : ∀ z ∈ scope.names, z.2 = .local → scope.names.lookup z.1 = some .local) (hx : ∀ C K, (compEnvC scope ((x, K) :: cl) C env).kindOf x = some .cell)
    (hy : env.kindOf y = some .local) (hp : (env.scope.kind == .class || (env.scope.kind == .module && env.locals != env.globals)) = false)
    (h : wpAny (model prog w) A (eval iter env) (SrcK prog w A h₀ L m env elt x y scope cl Q) E s)
    (hs : ∀ x, foldedSetIterable iter env x = pure x := by intro _; rfl) :
    wpAny (model prog w) A (exec (.Assign [.Name y py] (.ListComp elt [⟨.Name x px, iter, [], 0⟩] scope pos) spos) env) Q E s := by
  subst hLe
  rw [exec_Assign_Name_used _ _ _ _ hsw]
  refine wpAny_bind (wpAny_standAt (wpAny_bind ?_))
  show wpAny _ A (do let _ ← comprehension (.ListComp elt [⟨.Name x px, iter, [], 0⟩] scope pos) scope env _ (newList []) false (eval iter env) (some (assign (.Name y py) env))) _ _ s
  refine wpAny_bind (wpAny_mono (wpAny_comprehension_free (use := some (assign (.Name y py) env)) (Q := fun _ s' => Q .next s') rfl hs hclos hkind hnames
    (wpAny_mono h (fun xv s₁ h₁ => ?_) fun _ _ e => e)) (fun _ s' hq => wpAny_pure (wpAny_pure hq)) fun _ _ e => e)
  obtain ⟨ax, its, news, rfl, hh, F, N, S, hsz, R⟩ := h₁
  have hl := S.list F.keep N
  have hlt : ax < s₁.heap.objs.size := by obtain ⟨_, e, _⟩ := hl; exact Heap.lt_size e
  refine wpAny_pyIter_list hl ?_
  have up : ∀ b o, s₁.heap.get? b = some o → (s₁.heap.push { cls := .type "list_iterator", data := .fields #[.ref ax, .int 0 0] }).get? b = some o := fun b o e => Heap.get?_push_of_some _ e
  refine block_K (Walks.list hh s₁.heap.objs.size ax (Nat.ne_of_lt hlt) its) hsz (fun i h st => by obtain ⟨o, e, _⟩ := st.1; exact ⟨o, e⟩) LCg.list_st hcf hpc hkind hx ⟨⟨_, Heap.get?_push_size _ rfl, rfl, rfl⟩, hl.push _⟩ (fun b hb => ?_)
    (F.keeps up) (N.grown up) (Nat.ne_of_lt F.ns.lt) (next_is_new F) (fun p hp => Nat.ne_of_lt (Heap.lt_size (N p hp).1)) S (R _ ⟨_, rfl⟩) ?_
  · show b < (s₁.heap.push _).objs.size
    rw [Heap.size_push]
    rcases List.mem_cons.mp hb with rfl | hb
    · exact Nat.lt_succ_self _
    · rw [List.mem_singleton.mp hb]; exact Nat.lt_succ_of_lt hlt
  · intro D C h' tk m' ys news' F' N' o1 hn hC₀ hD₀ hCL hDL hCD offC fin
    show wpAny _ A (assign (.Name y py) env (.ref D)) _ _ _
    refine wpAny_assign_Name (wpAny_storeName_local hy F'.ns (fun h₂ hn₂ hs₂ => ?_) hp)
    have hL₀ : h₀.get? env.locals = none := Heap.get?_none_of_le F'.above
    have F₂ : Fr h₀ env.locals h₂ (fun z => if z = y then some (.ref D) else m z) := ⟨hn₂, fun b o e => hs₂.extBut b o (fun q => by rw [q, hL₀] at e; cases e) (F'.keep b o e), F'.above⟩
    refine ⟨m', hn.sameBut hs₂ hCL, fun h'' hs'' => fin D h'' _ (F₂.change hs'' hCL hC₀) (fun p hp => ?_) o1⟩
    have z : h₂.get? p.1 = some p.2 := hs₂.extBut _ _ (N' p hp).2.1 (N' p hp).1
    refine ⟨hs''.extBut _ _ ?_ z, (N' p hp).2⟩
    rcases List.mem_cons.mp hp with rfl | hp
    · exact Ne.symm hCD
    · exact offC p hp
theorem CellEnd.intro {I C K D : Addr} {oI oC oK oD : Obj} {s₁ : Shared} {S : List (Addr × Obj) → Prop} {rest : Value → List (Addr × Obj) → Prop} {y : Value} {h' : Heap} {tk : Nat} {all l1 l2 l3 news' : List (Addr × Obj)}
    (F : Fr h₀ L h' m) (N : News h₀ L h' all) (p1 : Pick I oI all l1) (p2 : Pick C oC l1 l2) (p3 : Pick K oK l2 l3) (p4 : Pick D oD l3 news') (off : Off4 I C K D news') (hS : S news') (r : rest y news') :
    CellEnd h₀ L m s₁ I C K D oI oC oK oD S rest y { s₁ with heap := h', toks := tk } :=
  ⟨h', tk, news', rfl, F, fun p hp => N p (by
    rcases List.mem_cons.mp hp with rfl | hp
    · exact p1.sub _ (.head _)
    · rcases List.mem_cons.mp hp with rfl | hp
      · exact p1.sub _ (.tail _ (p2.sub _ (.head _)))
      · exact p1.sub _ (.tail _ (p2.sub _ (.tail _ (p3.sub2 p4 _ hp))))), off, hS, r⟩
end
end
section
section
/-- plans, one a value, no deeper than two -/
inductive PlansIn (l : List (Addr × Obj)) : List Value → List Plan → Prop
  | nil : PlansIn l [] []
  | cons {v : Value} {p : Plan} {vs : List Value} {ps : List Plan} : PlanIn l v p → p.deep ≤ 2 → PlansIn l vs ps → PlansIn l (v :: vs) (p :: ps)
inductive TermsIn (ts : List Str) (gs : List (Int × Int)) (l : List (Addr × Obj)) : List Value → List Plan → Prop
  | nil : TermsIn ts gs l [] []
  | cons {v : Value} {p : Plan} {vs : List Value} {ps : List Plan} : TermIn ts gs l v p → TermsIn ts gs l vs ps → TermsIn ts gs l (v :: vs) (p :: ps)
theorem said32 : True := by
  k_with "my k_mem9" => first | exact List.Mem.head _ | assumption | (refine' List.Mem.tail _ ?_; k_mem) | (refine' List.mem_append.mpr (Or.inl ?_); k_mem) | (refine' List.mem_append.mpr (Or.inr ?_); k_mem) | fail "9"
  k_with "my sub9" => first | with_reducible exact sub_id | with_reducible exact sub_nil | exact Sub.of (by assumption) | ((with_reducible refine sub_app ?_ ?_) <;> k_extra "my sub9") | ((with_reducible refine sub_cons ?_ ?_) <;> first | k_mem | k_extra "my sub9") | ((with_reducible refine sub_tail ?_); k_extra "my sub9") | ((with_reducible refine sub_l ?_); k_extra "my sub9") | ((with_reducible refine sub_r ?_); k_extra "my sub9") | fail "9"
  trivial
theorem TermsIn.snoc {ts : List Str} {gs : List (Int × Int)} {l : List (Addr × Obj)} {v : Value} {p : Plan} (h : TermIn ts gs l v p) {vs : List Value} {ps : List Plan} (r : TermsIn ts gs l vs ps) : TermsIn ts gs l (vs ++ [v]) (ps ++ [p]) := by
  induction r with
  | nil => exact .cons h .nil
  | cons a _ ih => exact .cons a ih
theorem TermsIn.mono {ts : List Str} {gs : List (Int × Int)} {l l' : List (Addr × Obj)} (hs : ∀ p ∈ l, p ∈ l') {vs : List Value} {ps : List Plan} (r : TermsIn ts gs l vs ps) : TermsIn ts gs l' vs ps := by
  induction r with
  | nil => exact .nil
  | cons a _ ih => exact .cons (a.mono hs) ih
theorem TermsIn.grow {ts : List Str} {gs ex : List (Int × Int)} {l : List (Addr × Obj)} {vs : List Value} {ps : List Plan} (r : TermsIn ts gs l vs ps) : TermsIn ts (gs ++ ex) l vs ps := by
  induction r with
  | nil => exact .nil
  | cons a _ ih => exact .cons a.grow ih
theorem off1_mem {D : Addr} : ∀ {l : List (Addr × Obj)}, LCg.Off1 D l → ∀ p ∈ l, p.1 ≠ D
  | [], _, _, h => nomatch h
  | _ :: _, h, p, hp => by
    rcases List.mem_cons.mp hp with rfl | hp
    · exact h.1
    · exact off1_mem h.2 p hp
theorem off3_mem {I C D : Addr} : ∀ {l : List (Addr × Obj)}, (∀ p ∈ l, p.1 ≠ I ∧ p.1 ≠ C ∧ p.1 ≠ D) → LCg.Off3 I C D l := fun h => LCg.Off3.of h
section
variable {w : World} {A : Around} {E : Value → Shared → Prop} {h₀ : Heap} {L : Addr} {m : Str → Option Value} {env : Env} {elt : PySem.Expr} {xn : Str} {scope : Scope} {cl : List (Str × Addr)}
  {Tt AN Fs FN : Addr} {ts : List Str} {l4 lf lp : List (Addr × Obj)}
/-- the end of a turn that builds a plan -/
def RowEnd (w : World) (h₀ : Heap) (L : Addr) (m : Str → Option Value) (s : Shared) (I C D : Addr) (oI oC oD : Obj) (Tt AN Fs FN : Addr) (ts : List Str) (l4 lf tl : List (Addr × Obj)) (gs : List (Int × Int)) (p : Plan) (y : Value) (s₂ : Shared) : Prop :=
  ∃ h' tk' oT oA oF oN tl' ex, s₂ = { s with heap := h', toks := tk' } ∧ Fr h₀ L h' m ∧ News h₀ L h' ((Tt, oT) :: (AN, oA) :: (Fs, oF) :: (FN, oN) :: (((I, oI) :: (C, oC) :: (D, oD) :: (l4 ++ tl)) ++ tl')) ∧ AtomObj w oT oA ts ∧ FunObj w (lf ++ tl ++ tl') oF oN (gs ++ ex) ∧ (gs ++ ex).length ≤ gs.length + p.sz ∧
    Tups tl' ∧ Fresh ((I, oI) :: (C, oC) :: (D, oD) :: (l4 ++ tl)) tl' ∧ TermIn ts (gs ++ ex) (lf ++ tl ++ tl') y p
theorem RowEnd.intro {s : Shared} {I C D : Addr} {oI oC oD oT oA oF oN : Obj} {tl tl' : List (Addr × Obj)} {gs ex : List (Int × Int)} {p : Plan} {y : Value} {h' : Heap} {tk' : Nat} (F : Fr h₀ L h' m) (N : News h₀ L h' ((Tt, oT) :: (AN, oA) :: (Fs, oF) :: (FN, oN) :: (((I, oI) :: (C, oC) :: (D, oD) :: (l4 ++ tl)) ++ tl')))
    (hA : AtomObj w oT oA ts) (hF : FunObj w (lf ++ tl ++ tl') oF oN (gs ++ ex)) (hz : (gs ++ ex).length ≤ gs.length + p.sz) (ht : Tups tl') (hf : Fresh ((I, oI) :: (C, oC) :: (D, oD) :: (l4 ++ tl)) tl') (hT : TermIn ts (gs ++ ex) (lf ++ tl ++ tl') y p) : RowEnd w h₀ L m s I C D oI oC oD Tt AN Fs FN ts l4 lf tl gs p y { s with heap := h', toks := tk' } :=
  ⟨h', tk', oT, oA, oF, oN, tl', ex, rfl, F, N, hA, hF, hz, ht, hf, hT⟩
def RowTurn (w : World) (A : Around) (h₀ : Heap) (L : Addr) (m : Str → Option Value) (env : Env) (elt : PySem.Expr) (xn : Str) (scope : Scope) (cl : List (Str × Addr)) (s : Shared) (Tt AN Fs FN : Addr) (ts : List Str) (l4 lf lp : List (Addr × Obj)) : Prop :=
  ∀ v (p : Plan) gs tl oT oA oF oN I oI C oC D oD m₂ h tk (E' : Value → Shared → Prop), PlanIn lp v p → p.deep ≤ 2 → LCg.NsObj oC m₂ → m₂ xn = some v → gs.length + p.sz ≤ 100 → AtomObj w oT oA ts → FunObj w (lf ++ tl) oF oN gs → Tups tl → BkOff Tt AN Fs FN ((I, oI) :: (C, oC) :: (D, oD) :: (l4 ++ tl)) →
    Fr h₀ L h m → News h₀ L h ((Tt, oT) :: (AN, oA) :: (Fs, oF) :: (FN, oN) :: (I, oI) :: (C, oC) :: (D, oD) :: (l4 ++ tl)) →
    wpAny (model thePr w) A (eval elt (compEnvC scope cl C env)) (RowEnd w h₀ L m s I C D oI oC oD Tt AN Fs FN ts l4 lf tl gs p) E' { s with heap := h, toks := tk }
def RowDone (w : World) (h₀ : Heap) (L : Addr) (m : Str → Option Value) (s : Shared) (Q : Value → Shared → Prop) (Tt AN Fs FN : Addr) (ts : List Str) (l4 lf : List (Addr × Obj)) (ps : List Plan) : Prop :=
  ∀ D h tk ys gs tl oT oA oF oN, Fr h₀ L h m → News h₀ L h ((D, listOf ys.toArray ys.length) :: (Tt, oT) :: (AN, oA) :: (Fs, oF) :: (FN, oN) :: (l4 ++ tl)) → (∀ p ∈ (Tt, oT) :: (AN, oA) :: (Fs, oF) :: (FN, oN) :: (l4 ++ tl), p.1 ≠ D) → TermsIn ts gs (lf ++ tl) ys ps → AtomObj w oT oA ts → FunObj w (lf ++ tl) oF oN gs → Tups tl → Fresh l4 tl →
    Q (.ref D) { s with heap := h, toks := tk }
theorem row_rest {s₁ : Shared} {PL : Addr} {its : Array Value} {n0 : Nat} (hPL : (PL, ({ cls := .type "list", data := .seq its n0 } : Obj)) ∈ l4) (hb : BkOff Tt AN Fs FN l4) {Q : Value → Shared → Prop} {ps : List Plan}
    (turn : RowTurn w A h₀ L m env elt xn scope cl s₁ Tt AN Fs FN ts l4 lf lp) (done : RowDone w h₀ L m s₁ Q Tt AN Fs FN ts l4 lf ps) {vs : List Value} {ps2 : List Plan} (hv : PlansIn lp vs ps2) :
    ∀ (i : Nat) (ys : List Value) (ps1 : List Plan) (gs : List (Int × Int)) (tl : List (Addr × Obj)) (oT oA oF oN : Obj), its.toList.drop i = vs → ps1 ++ ps2 = ps → TermsIn ts gs (lf ++ tl) ys ps1 → gs.length + 7 * vs.length ≤ 100 → AtomObj w oT oA ts → FunObj w (lf ++ tl) oF oN gs → Tups tl → Fresh l4 tl →
      LCg.CompRest thePr w A h₀ L m env elt xn scope cl s₁ (LCg.SrcAt h₀ PL its) (fun i v => its[i]? = some v) (LCg.FinE h₀ L m s₁ Q) vs.length i ys ((Tt, oT) :: (AN, oA) :: (Fs, oF) :: (FN, oN) :: (l4 ++ tl)) := by
  induction hv with
  | nil =>
    intro i ys ps1 gs tl oT oA oF oN _ hp hT _ hA hF ht hf
    rw [List.append_nil] at hp
    subst hp
    exact LCg.CompRest.zero (fun D h tk F N o1 => done D h tk ys gs tl oT oA oF oN F N (off1_mem o1) hT hA hF ht hf)
  | @cons v p vs ps2 hP hd _ ih =>
    intro i ys ps1 gs tl oT oA oF oN hdr hp hT hz hA hF ht hf
    refine LCg.CompRest.succ ?_
    rintro v' I oI C oC D m₂ h tk E' hPv hC hx F N off ne
    have hi : its.toList[i]? = some v := by
      have := congrArg (fun l => l[0]?) hdr
      simpa using this
    have hv' : v' = v := by
      have h1 : its[i]? = some v' := hPv
      rw [← Array.getElem?_toList, hi] at h1
      exact (Option.some.inj h1).symm
    subst hv'
    have hdr' : its.toList.drop (i + 1) = vs := by
      have := congrArg (List.drop 1) hdr
      rw [List.drop_drop] at this
      simpa [Nat.add_comm] using this
    have om := off.mem
    have s7 := sz_two hd
    rw [List.length_cons] at hz
    have N2 : News h₀ L h ((Tt, oT) :: (AN, oA) :: (Fs, oF) :: (FN, oN) :: (I, oI) :: (C, oC) :: (D, LCg.lst ys) :: (l4 ++ tl)) := fun q hq => N q (by revert hq; revert q; k_extra "my sub9")
    have mT : (Tt, oT) ∈ (Tt, oT) :: (AN, oA) :: (Fs, oF) :: (FN, oN) :: (l4 ++ tl) := .head _
    have mA : (AN, oA) ∈ (Tt, oT) :: (AN, oA) :: (Fs, oF) :: (FN, oN) :: (l4 ++ tl) := .tail _ (.head _)
    have mF : (Fs, oF) ∈ (Tt, oT) :: (AN, oA) :: (Fs, oF) :: (FN, oN) :: (l4 ++ tl) := .tail _ (.tail _ (.head _))
    have mN : (FN, oN) ∈ (Tt, oT) :: (AN, oA) :: (Fs, oF) :: (FN, oN) :: (l4 ++ tl) := .tail _ (.tail _ (.tail _ (.head _)))
    have hb1 : BkOff Tt AN Fs FN tl := bkoff_tups ht N2 (.head _) (.tail _ (.head _)) (.tail _ (.tail _ (.head _))) (.tail _ (.tail _ (.tail _ (.head _)))) hA hF (fun q hq => .tail _ (.tail _ (.tail _ (.tail _ (.tail _ (.tail _ (.tail _ (List.mem_append.mpr (.inr hq)))))))))
    have hb2 : BkOff Tt AN Fs FN ((I, oI) :: (C, oC) :: (D, LCg.lst ys) :: (l4 ++ tl)) :=
      bkoff_cons (Ne.symm (om _ mT).1) (Ne.symm (om _ mA).1) (Ne.symm (om _ mF).1) (Ne.symm (om _ mN).1) (bkoff_cons (Ne.symm (om _ mT).2.1) (Ne.symm (om _ mA).2.1) (Ne.symm (om _ mF).2.1) (Ne.symm (om _ mN).2.1)
        (bkoff_cons (Ne.symm (om _ mT).2.2) (Ne.symm (om _ mA).2.2) (Ne.symm (om _ mF).2.2) (Ne.symm (om _ mN).2.2) (bkoff_app hb hb1)))
    refine wpAny_mono (turn v' p gs tl oT oA oF oN I oI C oC D (LCg.lst ys) m₂ h tk E' hP hd hC hx (by omega) hA hF ht hb2 F N2) (fun y s₂ hy => ?_) fun _ _ e => e
    obtain ⟨h', tk', oT', oA', oF', oN', tl', ex, rfl, F', N', hA', hF', hz', ht', hf', hT'⟩ := hy
    refine LCg.CompEnd.intro F' N' ((Tt, oT') :: (AN, oA') :: (Fs, oF') :: (FN, oN') :: (l4 ++ (tl ++ tl'))) (fun q hq => ?_) (LCg.Off3.of fun q hq => ?_) (.inr ⟨_, .tail _ (.tail _ (.tail _ (.tail _ (List.mem_append.mpr (.inl hPL))))), rfl, _, rfl⟩) ?_
    · revert hq; revert q; k_extra "my sub9"
    · rcases List.mem_cons.mp hq with rfl | hq
      · have z := om (Tt, oT) mT; exact z
      rcases List.mem_cons.mp hq with rfl | hq
      · have z := om (AN, oA) mA; exact z
      rcases List.mem_cons.mp hq with rfl | hq
      · have z := om (Fs, oF) mF; exact z
      rcases List.mem_cons.mp hq with rfl | hq
      · have z := om (FN, oN) mN; exact z
      rcases List.mem_append.mp hq with hq | hq
      · exact om _ (.tail _ (.tail _ (.tail _ (.tail _ (List.mem_append.mpr (.inl hq))))))
      rcases List.mem_append.mp hq with hq | hq
      · exact om _ (.tail _ (.tail _ (.tail _ (.tail _ (List.mem_append.mpr (.inr hq))))))
      · exact ⟨Nat.ne_of_gt (hf' q hq _ (.head _)), Nat.ne_of_gt (hf' q hq _ (.tail _ (.head _))), Nat.ne_of_gt (hf' q hq _ (.tail _ (.tail _ (.head _))))⟩
    · have ea : lf ++ tl ++ tl' = lf ++ (tl ++ tl') := List.append_assoc ..
      rw [ea] at hF' hT'
      refine ih (i + 1) (ys ++ [y]) (ps1 ++ [p]) (gs ++ ex) (tl ++ tl') oT' oA' oF' oN' hdr' (by rw [List.append_assoc]; exact hp) ?_ (by omega) hA' hF' (Tups.app ht ht') (Fresh.app hf (hf'.sub fun q hq => .tail _ (.tail _ (.tail _ (List.mem_append.mpr (.inl hq))))))
      exact TermsIn.snoc hT' ((hT.mono fun q hq => by
        rcases List.mem_append.mp hq with hq | hq
        · exact List.mem_append.mpr (.inl hq)
        · exact List.mem_append.mpr (.inr (List.mem_append.mpr (.inl hq)))).grow)
def RowSrc (w : World) (A : Around) (h₀ : Heap) (L : Addr) (m : Str → Option Value) (env : Env) (elt : PySem.Expr) (xn : Str) (scope : Scope) (cl : List (Str × Addr)) (Q : Value → Shared → Prop) (xv : Value) (s₁ : Shared) : Prop :=
  ∃ (PL : Addr) (vs : List Value) (n0 : Nat) (Tt AN Fs FN : Addr) (ts : List Str) (gs : List (Int × Int)) (oT oA oF oN : Obj) (news l1 l2 l3 l4 lf lp : List (Addr × Obj)) (ps : List Plan), xv = .ref PL ∧ A.handled = none ∧ Fr h₀ L s₁.heap m ∧ News h₀ L s₁.heap news ∧ Pick Tt oT news l1 ∧ Pick AN oA l1 l2 ∧ Pick Fs oF l2 l3 ∧ Pick FN oN l3 l4 ∧
    (PL, ({ cls := .type "list", data := .seq vs.toArray n0 } : Obj)) ∈ l4 ∧ BkOff Tt AN Fs FN l4 ∧ PlansIn lp vs ps ∧ gs.length + 7 * vs.length ≤ 100 ∧ AtomObj w oT oA ts ∧ FunObj w lf oF oN gs ∧ RowTurn w A h₀ L m env elt xn scope cl s₁ Tt AN Fs FN ts l4 lf lp ∧ RowDone w h₀ L m s₁ Q Tt AN Fs FN ts l4 lf ps
theorem row_src {Q : Value → Shared → Prop} {PL : Addr} {vs : List Value} {n0 : Nat} {gs : List (Int × Int)} {oT oA oF oN : Obj} {news l1 l2 l3 : List (Addr × Obj)} {ps : List Plan} {s₁ : Shared} (hh : A.handled = none) (F : Fr h₀ L s₁.heap m) (N : News h₀ L s₁.heap news)
    (hF : FunObj w lf oF oN gs) (hA : AtomObj w oT oA ts) (p1 : Pick Tt oT news l1) (p2 : Pick AN oA l1 l2) (p3 : Pick Fs oF l2 l3) (p4 : Pick FN oN l3 l4) (hm : (PL, ({ cls := .type "list", data := .seq vs.toArray n0 } : Obj)) ∈ l4) (hb : BkOff Tt AN Fs FN l4) (hv : PlansIn lp vs ps) (hz : gs.length + 7 * vs.length ≤ 100)
    (turn : RowTurn w A h₀ L m env elt xn scope cl s₁ Tt AN Fs FN ts l4 lf lp) (done : RowDone w h₀ L m s₁ Q Tt AN Fs FN ts l4 lf ps) : RowSrc w A h₀ L m env elt xn scope cl Q (.ref PL) s₁ :=
  ⟨PL, vs, n0, Tt, AN, Fs, FN, ts, gs, oT, oA, oF, oN, news, l1, l2, l3, l4, lf, lp, ps, rfl, hh, F, N, p1, p2, p3, p4, hm, hb, hv, hz, hA, hF, turn, done⟩
theorem row_rule {iter : PySem.Expr} {px : Pos} {pos : Pos} {s : Shared} {Q : Value → Shared → Prop} (F₀ : Fr h₀ L s.heap m)
    (hclos : closureFor scope env = pure cl) (hcell : ∀ y ∈ scope.names, y.2 ≠ .cell) (hkind : scope.kind = .function)
    (hnames : ∀ y ∈ scope.names, y.2 = .local → scope.names.lookup y.1 = some .local) (hx : scope.names.lookup xn = some .local)
    (h : wpAny (model thePr w) A (eval iter env) (RowSrc w A h₀ L m env elt xn scope cl Q) E s)
    (hs : ∀ x, foldedSetIterable iter env x = pure x := by intro _; rfl) :
    wpAny (model thePr w) A (eval (.ListComp elt [⟨.Name xn px, iter, [], 0⟩] scope pos) env) Q E s := by
  refine LCg.ListComp_U F₀ hclos hcell hkind hnames hx (wpAny_mono h (fun xv s₁ h₁ => ?_) fun _ _ e => e) hs
  obtain ⟨PL, vs, n0, Tt, AN, Fs, FN, ts, gs, oT, oA, oF, oN, news, l1, l2, l3, l4, lf, lp, ps, rfl, hh, F, N, p1, p2, p3, p4, hm, hb, hv, hz, hA, hF, turn, done⟩ := h₁
  have N' : News h₀ L s₁.heap ((Tt, oT) :: (AN, oA) :: (Fs, oF) :: (FN, oN) :: (l4 ++ [])) := fun p hp => N p (p1.sub _ (by
    rw [List.append_nil] at hp
    rcases List.mem_cons.mp hp with rfl | hp
    · exact .head _
    · refine .tail _ (p2.sub _ ?_)
      rcases List.mem_cons.mp hp with rfl | hp
      · exact .head _
      · exact .tail _ (p3.sub2 p4 _ hp)))
  have hF' : FunObj w (lf ++ []) oF oN gs := by rw [List.append_nil]; exact hF
  have hv8 : vs.length ≤ 100 := by omega
  refine LCg.CompSrc.ledger hh F N' (.tail _ (.tail _ (.tail _ (.tail _ (List.mem_append.mpr (.inl hm)))))) (by rw [List.size_toArray]; exact Nat.le_trans hv8 (by decide)) (fun g => ?_)
  have := row_rest (w := w) (A := A) (h₀ := h₀) (L := L) (m := m) (env := env) (elt := elt) (xn := xn) (scope := scope) (cl := cl) (s₁ := { s₁ with heap := g }) hm hb (Q := Q) (ps := ps) turn done hv 0 [] [] gs [] oT oA oF oN rfl rfl .nil hz hA hF' Tups.nil Fresh.nil
  rw [← List.size_toArray] at this
  exact this
end
end
end
section
section
variable {prog : Program} {w : World} {A : Around} {E : Value → Shared → Prop} {s : Shared} {env : Env} {h₀ : Heap} {x : Str} {body : List Stmt} {Q : Flow → Shared → Prop}
/-- a for over a list of the ledger, by an invariant -/
theorem said33 : True := by
  k_with_none
  k_with "my ltc" => first | exact j0 (by assumption) | exact j1 (by assumption) | exact j2 (by assumption) | exact j3 (by assumption) | exact j4 (by assumption) | exact j5 (by assumption) | exact j6 (by assumption) | exact j7 (by assumption) | exact j8 (by assumption) | exact j9 (by assumption) | exact j10 (by assumption) | fail "9"
  k_with "my trc0" => first | assumption | k_extra "my ltc" | fail "9"
  k_with "my trc" => first | exact t0 (by k_extra "my trc0") | exact t1 (by k_extra "my trc0") | exact t2 (by k_extra "my trc0") | fail "9"
  k_with "my k_ne9" => (refine neN ?_; (try dsimp only); first | assumption | exact Ne.symm (by assumption) | (refine Nat.ne_of_lt ?_; k_extra "my ltc") | (refine Nat.ne_of_gt ?_; k_extra "my ltc") | k_extra "my trc" | (refine Ne.symm ?_; k_extra "my trc") | fail "9")
  k_with "my le9" => first | exact Nat.le_refl _ | exact Nat.le_of_ble_eq_true rfl | exact Nat.succ_le_succ (Nat.zero_le _) | assumption | exact Nat.succ_le_succ (Nat.le_max_left _ _) | exact Nat.succ_le_succ (Nat.le_max_right _ _) | exact Nat.succ_le_succ (Nat.succ_le_succ (Nat.zero_le _)) | exact Nat.succ_le_succ (Nat.succ_le_succ (Nat.le_max_left _ _)) | exact Nat.succ_le_succ (Nat.succ_le_succ (Nat.le_max_right _ _)) | exact Nat.succ_le_succ (Nat.succ_le_succ (Nat.succ_le_succ (Nat.le_max_left _ _))) | exact Nat.succ_le_succ (Nat.succ_le_succ (Nat.succ_le_succ (Nat.le_max_right _ _))) | fail "9"
  k_with "my ktr_room9" => first | exact room0 (by assumption) | exact room1 (by assumption) (by k_extra "my le9") | exact room2 (by assumption) (by k_extra "my le9") | fail "9"
  k_with "my ktr_units9" => first | exact units1 (by assumption) (by k_extra "my le9") | exact units2 (by assumption) (by k_extra "my le9") | fail "9"
  k_with "my pick9" => (repeat (first | exact Pick.head | apply Pick.tail))
  k_with "my sb9" => (intro p hp; simp only [List.mem_append, List.mem_cons, hp, true_or, or_true])
  k_with "my hk9" => first | exact rfl | assumption | fail "9"
  k_with "my hd9" => first | exact Nat.le_of_ble_eq_true rfl | ktr_room | ((try simp only [depth_deeper, depth_under_make]); (try dsimp only [ktrTop]); first | ktr_room | omega) | fail "9"
  k_with "my hu9" => first | exact Nat.le_of_ble_eq_true rfl | ktr_units | ((try simp only [units_deeper, units_under_make]); (try dsimp only [ktrTop]); first | ktr_units | omega) | fail "9"
  k_with "my norm9" => ((rename News _ _ _ _ => nN9); (try simp only [List.nil_append, List.cons_append, List.append_nil] at nN9))
  k_with "my norm8" => ((rename News _ _ _ _ => nN9); (try simp only [List.nil_append, List.cons_append, List.append_nil, List.append_assoc] at nN9))
  k_with "my end9" => ((try k_sweep); (try dsimp only); (try k_fold))
  trivial
theorem iter_lst {ax : Addr} {its : Array Value} {k : Nat} {m₀ : Str → Option Value} {news : List (Addr × Obj)} (J : Nat → (Str → Option Value) → List (Addr × Obj) → Prop)
    (hh : A.handled = none) (F : Fr h₀ env.locals s.heap m₀) (N : News h₀ env.locals s.heap news) (hm : (ax, ({ cls := .type "list", data := .seq its k } : Obj)) ∈ news)
    (hS : ∀ i m nw, J i m nw → (ax, ({ cls := .type "list", data := .seq its k } : Obj)) ∈ nw) (hj : J 0 m₀ news)
    (turn : ∀ i v m₁ news₁ h tk I oI, its[i]? = some v → J i m₁ news₁ → oI.cls = .type "list_iterator" → Off I news₁ → Fr h₀ env.locals h (fun y => if y = x then some v else m₁ y) → News h₀ env.locals h ((I, oI) :: news₁) →
      wpAny (model prog w) A (execs body env) (TurnPost h₀ env.locals I oI (J (i + 1)) { s with heap := h, toks := tk } Q) E { s with heap := h, toks := tk })
    (done : ∀ m₁ news₁ h tk, J its.size m₁ news₁ → Fr h₀ env.locals h m₁ → News h₀ env.locals h news₁ → Q .next { s with heap := h, toks := tk }) :
    wpAny (model prog w) A (pyIter (.ref ax)) (fun it s₂ => LoopAtV prog w A h₀ env x body Q E it s₂) E s := by
  have ht : s.heap.IsList ax its := ⟨_, (N _ hm).1, rfl, _, rfl⟩
  have hlt : ax < s.heap.objs.size := Heap.lt_size (N _ hm).1
  have hne : ax ≠ s.heap.objs.size := Nat.ne_of_lt hlt
  refine wpAny_pyIter_list ht ?_
  have W := Walks.list (prog := prog) (w := w) hh s.heap.objs.size ax hne its
  refine ⟨_, _, _, its.size, _, _, m₀, news, J, rfl, W, ?_, ?_, ?_, ⟨⟨_, Heap.get?_push_size _ rfl, rfl, rfl⟩, ht.at fun o e => Heap.get?_push_of_some _ e⟩, F.push _, (fun p hp => ⟨Heap.get?_push_of_some _ (N p hp).1, (N p hp).2⟩), hj, ?_, ?_⟩
  · intro hmm
    rcases List.mem_cons.mp hmm with e | hmm
    · exact absurd F.ns.lt (e ▸ Nat.lt_irrefl _)
    · exact (N _ hm).2.1 (List.mem_singleton.mp hmm).symm
  · intro b hb
    rw [List.mem_singleton.mp hb]
    exact next_is_new F
  · intro p hp hI
    exact absurd (Heap.lt_size (N p hp).1) ((List.mem_singleton.mp hI) ▸ Nat.lt_irrefl _)
  · rintro i v m₁ news₁ s₁ own ⟨hh', tk', rfl⟩ hin hP hJ hoff hsub hget hall hst' F₁ N₁
    obtain ⟨oI, hoI, hcI, _⟩ := hst'.1
    have hI : (s.heap.objs.size, oI) ∈ own := hall _ (.head _) (next_is_new F) oI hoI
    have N₂ : News h₀ env.locals hh' ((s.heap.objs.size, oI) :: news₁) := fun p hp => by
      rcases List.mem_cons.mp hp with rfl | hp
      · exact N₁ _ (List.mem_append.mpr (.inl hI))
      · exact N₁ _ (List.mem_append.mpr (.inr hp))
    refine wpAny_mono (turn i v m₁ news₁ hh' tk' _ oI hP hJ hcI (fun p hp e => hoff p hp (by rw [e]; exact .head _)) F₁ N₂) (fun f s₂ p => ?_) fun _ _ e => e
    have fin : TurnEnd h₀ env.locals s.heap.objs.size oI (J (i + 1)) { s with heap := hh', toks := tk' } s₂ → LoopStepU h₀ env.locals [s.heap.objs.size] own (J (i + 1)) { s with heap := hh', toks := tk' } .next s₂ := by
      rintro ⟨h', tk, m', news', e, F', N', ho, hj'⟩
      refine ⟨rfl, h', tk, m', news', e, F', fun p hp => ?_, fun p hp hq => ho p hp (List.mem_singleton.mp hq), hj'⟩
      rcases List.mem_append.mp hp with hp | hp
      · have h1 := hget p hp
        rcases List.mem_cons.mp (hsub p hp) with e1 | e1
        · have h2 : p = (s.heap.objs.size, oI) := by
            rw [e1] at h1
            exact Prod.ext e1 (Option.some.inj (h1.symm.trans hoI))
          rw [h2]; exact N' _ (.head _)
        · have e2 := List.mem_singleton.mp e1
          have h3 := (N₁ _ (List.mem_append.mpr (.inr (hS i m₁ news₁ hJ)))).1
          have h2 : p = (ax, ({ cls := .type "list", data := .seq its k } : Obj)) := by
            rw [e2] at h1
            exact Prod.ext e2 (Option.some.inj (h1.symm.trans h3))
          rw [h2]; exact N' _ (.tail _ (hS _ _ _ hj'))
      · exact N' _ (.tail _ hp)
    cases f with
    | ret v => exact .ret p
    | brk => exact .brk p
    | next => exact .next (fin p)
    | cont => exact .cont (fin p)
  · rintro h' tk m' news' F' N' _ hJ
    exact done m' news' h' tk hJ F' N'
end
end
section
theorem DatIn.up {l l' : List (Addr × Obj)} (hs : ∀ p ∈ l, p ∈ l') {v : Value} {d : Dat} (h : DatIn l v d) : DatIn l' v d := h.mono hs
theorem key_ref {l : List (Addr × Obj)} {v : Value} {p : Plan} (h : DatIn l v p.key) : ∃ a, v = .ref a := by
  cases p <;> simp only [Plan.key] at h <;> cases h <;> exact ⟨_, rfl⟩
/-- what the law keeps of its first part -/
def Early (base : List (Addr × Obj)) (PL KL : Addr) (a1 a2 a3 : Addr) (p1 p2 p3 : Plan) : Prop :=
  ∃ (r1 r2 r3 : Value) (e1 : Nat) (e2 : Nat), (PL, listOf [r1, r2, r3].toArray e1) ∈ base ∧ PlansIn base [r1, r2, r3] [p1, p2, p3] ∧ (KL, listOf [.ref a1, .ref a2, .ref a3].toArray e2) ∈ base ∧ DatIn base (.ref a1) p1.key ∧ DatIn base (.ref a2) p2.key ∧ DatIn base (.ref a3) p3.key ∧ p1.deep ≤ 2 ∧ p2.deep ≤ 2 ∧ p3.deep ≤ 2
theorem PlansIn.mono {l l' : List (Addr × Obj)} (hs : ∀ p ∈ l, p ∈ l') {vs : List Value} {ps : List Plan} (h : PlansIn l vs ps) : PlansIn l' vs ps := by
  induction h with
  | nil => exact .nil
  | cons a b _ ih => exact .cons (a.mono hs) b ih
theorem Early.mono {base base' : List (Addr × Obj)} (hs : ∀ p ∈ base, p ∈ base') {PL KL a1 a2 a3 : Addr} {p1 p2 p3 : Plan} (h : Early base PL KL a1 a2 a3 p1 p2 p3) : Early base' PL KL a1 a2 a3 p1 p2 p3 := by
  obtain ⟨r1, r2, r3, e1, e2, h1, h2, h3, h4, h5, h6, h7⟩ := h
  exact ⟨r1, r2, r3, e1, e2, hs _ h1, h2.mono hs, hs _ h3, h4.mono hs, h5.mono hs, h6.mono hs, h7⟩
def Forgot1 : Prop := True
def Forgot2 : Prop := (2 : Nat) = 2
section
variable {prog : Program} {w : World} {A : Around} {α : Type} {tree : Sem α} {Q : α → Shared → Prop} {E : Value → Shared → Prop} {s : Shared} {h₀ : Heap} {L : Addr} {m : Str → Option Value}
/-- forget how the first part was made -/
theorem forget1 {all c1 c2 c3 d1 d2 d3 : List (Addr × Obj)} {cA PL KL : Addr} {oc : Obj} {r1 r2 r3 k1 k2 k3 : Value} {p1 p2 p3 : Plan} {e1 e2 : Nat}
    (_ : Fr h₀ L s.heap m) (N : News h₀ L s.heap all) (hd : oc.data = .cell (some (.ref PL))) (mc : (cA, oc) ∈ all) {iP iK : Array Value} (mP : (PL, listOf iP e1) ∈ all) (eP : iP.toList = [r1, r2, r3])
    (q1 : PlanIn c1 r1 p1) (q2 : PlanIn c2 r2 p2) (q3 : PlanIn c3 r3 p3) (g1 : p1.deep ≤ 2) (g2 : p2.deep ≤ 2) (g3 : p3.deep ≤ 2) (s1 : ∀ p ∈ c1, p ∈ all) (s2 : ∀ p ∈ c2, p ∈ all) (s3 : ∀ p ∈ c3, p ∈ all)
    (y1 : DatIn d1 k1 p1.key) (y2 : DatIn d2 k2 p2.key) (y3 : DatIn d3 k3 p3.key) (z1 : ∀ p ∈ d1, p ∈ all) (z2 : ∀ p ∈ d2, p ∈ all) (z3 : ∀ p ∈ d3, p ∈ all) (mK : (KL, listOf iK e2) ∈ all) (eK : iK.toList = [k1, k2, k3])
    (k : ∀ base a1 a2 a3, Forgot1 → (cA, oc) ∈ base → Early base PL KL a1 a2 a3 p1 p2 p3 → News h₀ L s.heap base → wpAny (model prog w) A tree Q E s) : wpAny (model prog w) A tree Q E s := by
  obtain ⟨a1, rfl⟩ := key_ref y1
  obtain ⟨a2, rfl⟩ := key_ref y2
  obtain ⟨a3, rfl⟩ := key_ref y3
  have eP' : iP = [r1, r2, r3].toArray := by rw [← eP, Array.toArray_toList]
  have eK' : iK = [Value.ref a1, .ref a2, .ref a3].toArray := by rw [← eK, Array.toArray_toList]
  subst eP' eK'
  exact k all a1 a2 a3 trivial mc ⟨r1, r2, r3, e1, e2, mP, .cons (q1.mono s1) g1 (.cons (q2.mono s2) g2 (.cons (q3.mono s3) g3 .nil)), mK, y1.mono z1, y2.mono z2, y3.mono z3, g1, g2, g3⟩ N
end
theorem bkoff_of {Tt AN Fs FN : Addr} {l : List (Addr × Obj)} (a : Off Tt l) (b : Off AN l) (c : Off Fs l) (d : Off FN l) : BkOff Tt AN Fs FN l := fun p hp => ⟨a p hp, b p hp, c p hp, d p hp⟩
theorem book_use {w : World} {loose : List Str} {mean : ExcName → Option Value} {mg mb : Str → Option Value} {dp un : Nat} {gd : Option (List Code)} {cn : Str} {cs : Scope} {a : Addr} {ccd : Value} {cl : List (Str × Addr)} {outer : List Env} {A₀ : Around} {base h₀ : Heap} {L : Addr} {m : Str → Option Value} {s : Shared} {Q E : Value → Shared → Prop} {news0 : List (Addr × Obj)}
    (B : Below A₀ base outer h₀) (F : Fr h₀ L s.heap m) (X : (Mine.hd.heap_1 w.params).In h₀) (N : News h₀ L s.heap news0) (T : Top Mine.hd.view_1 loose mean mg mb h₀) (hk : cs.kind = .function) (hd : dp + 5 < recursionLimit) (hu : un + 8 * 5 + 64 < cLine)
    (ret : ∀ x dx Tt AN Fs FN t1 t2 t3 t4 oT oA oF oN tl h' tk', AtomObj w oT oA atoms29 → FunObj w (news0 ++ tl) oF oN funsNo → (AN == sysModules) = false → (FN == sysModules) = false → Four Tt AN Fs FN → Tups tl → Fresh news0 [(Tt, oT), (AN, oA), (Fs, oF), (FN, oN), (x, instObj 157 dx), (dx, bookDict w t1 t2 t3 t4 Tt AN Fs FN)] →
      BkOff Tt AN Fs FN ((x, instObj 157 dx) :: (dx, bookDict w t1 t2 t3 t4 Tt AN Fs FN) :: (news0 ++ tl)) → Fr h₀ L h' m → News h₀ L h' ((Tt, oT) :: (AN, oA) :: (Fs, oF) :: (FN, oN) :: (x, instObj 157 dx) :: (dx, bookDict w t1 t2 t3 t4 Tt AN Fs FN) :: (news0 ++ tl)) → Q (.ref x) { s with heap := h', toks := tk' }) :
    wpAny (model PySem.Challenge.rw_sa0142_01.row.prog w) (ktrTop dp un gd cn cs L a ccd cl outer) (call (.ref 157) []) Q E s :=
  tri_use B F X N T hk book_spec (fun _ h => h) hd hu (fun r news' h' tk' F' N' h => by
    obtain ⟨x, dx, Tt, AN, Fs, FN, t1, t2, t3, t4, oT, oA, oF, oN, tl, rfl, hA, hF, l1, l2, h4, ht, hf, o1, o2, o3, o4, rfl⟩ := h
    exact ret x dx Tt AN Fs FN t1 t2 t3 t4 oT oA oF oN tl h' tk' hA hF l1 l2 h4 ht hf (bkoff_of o1 o2 o3 o4) F' N')
theorem FunObj.mono2 {w : World} {l l' : List (Addr × Obj)} {oF oN : Obj} {gs : List (Int × Int)} (h : FunObj w l oF oN gs) (hs : ∀ p ∈ l, p.2.cls = .type "tuple" → p ∈ l') : FunObj w l' oF oN gs := by
  obtain ⟨bs, e, h1, h2, es, ep, xs, g1, g2, g3, g4, g5, g6⟩ := h
  refine ⟨bs, e, h1, h2.mono2 hs, es, ep, xs, g1, g2, g3, g4, fun x hx => ?_, g6⟩
  obtain ⟨ok, mo, t⟩ := g5 x hx
  exact ⟨ok, hs _ mo t.1, t⟩
end
section
section
variable {w : World} {A : Around} {E : Value → Shared → Prop} {s : Shared} {env : Env} {h₀ : Heap} {x : Str} {body : List Stmt} {Q : Flow → Shared → Prop} {Tt AN Fs FN : Addr} {m₀ : Str → Option Value} {oT oA : Obj} {news l1 l2 : List (Addr × Obj)} {ax : Addr} {its : List Value} {k : Nat}
def TJ (w : World) (f : Nat → List Str) (Tt AN : Addr) (l2 : List (Addr × Obj)) (m₀ : Str → Option Value) (x : Str) (i : Nat) (m : Str → Option Value) (nw : List (Addr × Obj)) : Prop :=
  (∃ u : Str → Option Value, m = fun z => if z = x then u z else m₀ z) ∧ ∃ oT oA, nw = (Tt, oT) :: (AN, oA) :: l2 ∧ AtomObj w oT oA (f i)
theorem TJ.intro {f : Nat → List Str} {i : Nat} {y : Str} {v : Option Value} (hp : sput (f i) y = f (i + 1)) (hA : AtomObj w oT oA (sput (f i) y)) : TJ w f Tt AN l2 m₀ x (i + 1) (fun z => if z = x then v else m₀ z) ((Tt, oT) :: (AN, oA) :: l2) := ⟨⟨fun _ => v, rfl⟩, oT, oA, rfl, hp ▸ hA⟩
/-- a turn of a loop that numbers texts in a book; what stands beside is one letter -/
def TTurn (w : World) (A : Around) (E : Value → Shared → Prop) (h₀ : Heap) (env : Env) (x : Str) (body : List Stmt) (Q : Flow → Shared → Prop) (f : Nat → List Str) (Tt AN Fs FN x0 dx0 BL : Addr) (t1 t2 t3 t4 : Tok) (bs : Array Value) (e : Nat) (m₀ : Str → Option Value) (s : Shared) : Prop :=
  ∀ l2, (x0, instObj 157 dx0) ∈ l2 → (dx0, bookDict w t1 t2 t3 t4 Tt AN Fs FN) ∈ l2 → (BL, listOf bs e) ∈ l2 → Off Tt l2 → Off AN l2 → @Ne Nat Tt AN → ∀ i y t oT oA h tk I oI, AtomObj w oT oA (f i) → (f i).length ≤ 100 → sput (f i) y = f (i + 1) → Off I ((Tt, oT) :: (AN, oA) :: l2) → @Ne Nat I Tt → @Ne Nat I AN →
    Fr h₀ env.locals h (fun z => if z = x then some (.str y t) else m₀ z) → News h₀ env.locals h ((I, oI) :: (Tt, oT) :: (AN, oA) :: l2) →
    wpAny (model thePr w) A (execs body env) (TurnPost h₀ env.locals I oI (TJ w f Tt AN l2 m₀ x (i + 1)) { s with heap := h, toks := tk } Q) E { s with heap := h, toks := tk }
def TDone (w : World) (h₀ : Heap) (env : Env) (x : Str) (Q : Flow → Shared → Prop) (ts : List Str) (Tt AN : Addr) (l2 : List (Addr × Obj)) (m₀ : Str → Option Value) (s : Shared) : Prop :=
  ∀ oT oA h tk (u : Str → Option Value), AtomObj w oT oA ts → Fr h₀ env.locals h (fun z => if z = x then u z else m₀ z) → News h₀ env.locals h ((Tt, oT) :: (AN, oA) :: l2) → Q .next { s with heap := h, toks := tk }
theorem text_iter (f : Nat → List Str) {ys : List Str} {x0 dx0 BL : Addr} {t1 t2 t3 t4 : Tok} {bs : Array Value} {e : Nat} (hh : A.handled = none) (F : Fr h₀ env.locals s.heap m₀) (N : News h₀ env.locals s.heap ((Tt, oT) :: (AN, oA) :: l2)) (hA : AtomObj w oT oA (f 0)) (hm : (ax, ({ cls := .type "list", data := .seq its.toArray k } : Obj)) ∈ l2) (hs : StrsAre its ys)
    (mx : (x0, instObj 157 dx0) ∈ l2) (md : (dx0, bookDict w t1 t2 t3 t4 Tt AN Fs FN) ∈ l2) (mb : (BL, listOf bs e) ∈ l2) (oT1 : Off Tt l2) (oA1 : Off AN l2) (hne : @Ne Nat Tt AN)
    (hf : ∀ i y, ys[i]? = some y → sput (f i) y = f (i + 1)) (hl : ∀ i, i < ys.length → (f i).length ≤ 100) (turn : TTurn w A E h₀ env x body Q f Tt AN Fs FN x0 dx0 BL t1 t2 t3 t4 bs e m₀ s) (done : TDone w h₀ env x Q (f ys.length) Tt AN l2 m₀ s) :
    wpAny (model thePr w) A (pyIter (.ref ax)) (fun it s₂ => LoopAtV thePr w A h₀ env x body Q E it s₂) E s := by
  refine iter_lst (its := its.toArray) (k := k) (TJ w f Tt AN l2 m₀ x) hh F N (.tail _ (.tail _ hm)) (fun i m nw hJ => by obtain ⟨_, _, _, rfl, _⟩ := hJ; exact .tail _ (.tail _ hm)) ⟨⟨m₀, by funext z; simp⟩, oT, oA, rfl, hA⟩ ?_ ?_
  · rintro i v m₁ news₁ h tk I oI hv ⟨⟨u, rfl⟩, oT', oA', rfl, hA'⟩ _ hO F₁ N₁
    have hv' : its[i]? = some v := by simpa using hv
    have hlt : i < ys.length := by
      rw [← strs_len hs]; exact (List.getElem?_eq_some_iff.mp hv').1
    obtain ⟨t, ht⟩ := StrsAre.get hs i ys[i] (List.getElem?_eq_getElem hlt)
    rw [hv'] at ht
    cases ht
    rw [map_over] at F₁
    exact turn l2 mx md mb oT1 oA1 hne i _ t oT' oA' h tk I oI hA' (hl i hlt) (hf i _ (List.getElem?_eq_getElem hlt)) hO (fun e => hO (Tt, oT') (.head _) e.symm) (fun e => hO (AN, oA') (.tail _ (.head _)) e.symm) F₁ N₁
  · rintro m₁ news₁ h tk ⟨⟨u, rfl⟩, oT', oA', rfl, hA'⟩ F₁ N₁
    have e : its.toArray.size = ys.length := by rw [List.size_toArray, strs_len hs]
    rw [e] at hA'
    exact done oT' oA' h tk u hA' F₁ N₁
end
end
section
def four1 : List Str := [Str.ofString "a", Str.ofString "B", Str.ofString "ab", Str.ofString "b"]
def four2 : List Str := [Str.ofString "b", Str.ofString "ab", Str.ofString "B", Str.ofString "a"]
def seq1 (i : Nat) : List Str := atoms29 ++ four1.take i
def seq2 (i : Nat) : List Str := atoms29 ++ four2.take i
theorem seq1_step : ∀ i : Fin 4, sput (seq1 i.1) (four1[i.1]'(Nat.lt_of_lt_of_le i.2 (by decide))) = seq1 (i.1 + 1) := by decide +kernel
theorem seq2_step : ∀ i : Fin 4, sput (seq2 i.1) (four2[i.1]'(Nat.lt_of_lt_of_le i.2 (by decide))) = seq2 (i.1 + 1) := by decide +kernel
theorem seq1_at {i : Nat} {y : Str} (h : four1[i]? = some y) : sput (seq1 i) y = seq1 (i + 1) := by
  obtain ⟨hi, e⟩ := List.getElem?_eq_some_iff.mp h
  have := seq1_step ⟨i, hi⟩
  rw [← e]; exact this
theorem seq2_at {i : Nat} {y : Str} (h : four2[i]? = some y) : sput (seq2 i) y = seq2 (i + 1) := by
  obtain ⟨hi, e⟩ := List.getElem?_eq_some_iff.mp h
  have := seq2_step ⟨i, hi⟩
  rw [← e]; exact this
theorem seq1_len (i : Nat) : (seq1 i).length ≤ 100 := by
  unfold seq1
  rw [List.length_append, List.length_take]
  have : atoms29.length = 29 := by decide
  have : four1.length = 4 := by decide
  omega
theorem seq2_len (i : Nat) : (seq2 i).length ≤ 100 := by
  unfold seq2
  rw [List.length_append, List.length_take]
  have : atoms29.length = 29 := by decide
  have : four2.length = 4 := by decide
  omega
theorem known1 : Known (seq1 4) := ⟨seq1_len 4, fun y => by cases y <;> decide +kernel⟩
theorem known2 : Known (seq2 4) := ⟨seq2_len 4, fun y => by cases y <;> decide +kernel⟩
end
section
def Plan.tag : Plan → Str
  | .pv _ => Str.ofString "v"
  | .pi _ => Str.ofString "i"
  | .pa _ => Str.ofString "a"
  | .ps1 _ _ => Str.ofString "s"
  | .ps2 _ _ _ => Str.ofString "s"
def Plan.ar : Plan → Int
  | .ps1 _ _ => 1
  | .ps2 _ _ _ => 2
  | _ => 0
def Plan.fn : Plan → Txt
  | .ps1 f _ => f
  | .ps2 f _ _ => f
  | _ => .tE
def Plan.isS (p : Plan) : Prop := (p.tag == Str.ofString "s") = true
theorem isS_cases {p : Plan} (h : p.isS) : (∃ f q, p = .ps1 f q) ∨ ∃ f q r, p = .ps2 f q r := by
  cases p with
  | pv i => exact absurd (show (Str.ofString "v" == Str.ofString "s") = true from h) (by decide +kernel)
  | pi i => exact absurd (show (Str.ofString "i" == Str.ofString "s") = true from h) (by decide +kernel)
  | pa i => exact absurd (show (Str.ofString "a" == Str.ofString "s") = true from h) (by decide +kernel)
  | ps1 f q => exact .inl ⟨f, q, rfl⟩
  | ps2 f q r => exact .inr ⟨f, q, r, rfl⟩
section
variable {prog : Program} {w : World} {A : Around} {E : Value → Shared → Prop} {s : Shared} {h₀ : Heap} {L : Addr} {m : Str → Option Value} {news : List (Addr × Obj)}
theorem tup_any {value slice : PySem.Expr} {t : Addr} {items : Array Value} {k : Int} {u : Tok} {j : Nat} {x : Value} {Q : Value → Shared → Prop} (ht : IsTup s.heap t items)
    (hlo : -(2 ^ 63) ≤ k) (hhi : k < 2 ^ 63) (hj : seqIndex? k items.size = some j) (hx : items[j]? = some x) (h : Q x s)
    (hs : subscripted slice false (.ref t) (.int k u) = operate [.ref t, .int k u] (getItem (.ref t) (.int k u))) :
    wpAny (model prog w) A (subscriptTail value slice (.ref t) (.int k u)) Q E s :=
  tail_any ht.typeIs slot_tuple_getitem.lookup (getItem_tuple ht hlo hhi hj hx h) hs
/-- the kind's letter -/
theorem item_tag {value slice : PySem.Expr} {a : Addr} {u : Tok} {ts : List Str} {gs : List (Int × Int)} {l0 : List (Addr × Obj)} {p : Plan} {Q : Value → Shared → Prop} (N : News h₀ L s.heap news) (hT : TermIn ts gs l0 (.ref a) p) (sub : ∀ p ∈ l0, p ∈ news)
    (h : ∀ t, Q (.str p.tag t) s) (hs : subscripted slice false (.ref a) (.int 0 u) = operate [.ref a, .int 0 u] (getItem (.ref a) (.int 0 u)) := by with_unfolding_all rfl) :
    wpAny (model prog w) A (subscriptTail value slice (.ref a) (.int 0 u)) Q E s := by
  cases hT with
  | pv m => exact tup_any (N.isTup (sub _ m)) (by decide) (by decide) (j := 0) rfl rfl (h _) hs
  | pi m => exact tup_any (N.isTup (sub _ m)) (by decide) (by decide) (j := 0) rfl rfl (h _) hs
  | pa m => exact tup_any (N.isTup (sub _ m)) (by decide) (by decide) (j := 0) rfl rfl (h _) hs
  | ps1 m => exact tup_any (N.isTup (sub _ m)) (by decide) (by decide) (j := 0) rfl rfl (h _) hs
  | ps2 m => exact tup_any (N.isTup (sub _ m)) (by decide) (by decide) (j := 0) rfl rfl (h _) hs
/-- a compound's functor -/
theorem item_fun {value slice : PySem.Expr} {a : Addr} {u : Tok} {ts : List Str} {gs : List (Int × Int)} {l0 : List (Addr × Obj)} {p : Plan} {Q : Value → Shared → Prop} (N : News h₀ L s.heap news) (hT : TermIn ts gs l0 (.ref a) p) (sub : ∀ p ∈ l0, p ∈ news) (hS : p.isS)
    (h : ∀ k t, FunAt ts gs k p.ar p.fn.str → Q (.int k t) s) (hs : subscripted slice false (.ref a) (.int 1 u) = operate [.ref a, .int 1 u] (getItem (.ref a) (.int 1 u)) := by with_unfolding_all rfl) :
    wpAny (model prog w) A (subscriptTail value slice (.ref a) (.int 1 u)) Q E s := by
  rcases isS_cases hS with ⟨f, q, rfl⟩ | ⟨f, q, r, rfl⟩
  · cases hT with
    | ps1 m _ f => exact tup_any (N.isTup (sub _ m)) (by decide) (by decide) (j := 1) rfl rfl (h _ _ f) hs
  · cases hT with
    | ps2 m _ f => exact tup_any (N.isTup (sub _ m)) (by decide) (by decide) (j := 1) rfl rfl (h _ _ f) hs
/-- a key's first item -/
theorem item_rk {value slice : PySem.Expr} {a : Addr} {u : Tok} {l0 : List (Addr × Obj)} {p : Plan} {Q : Value → Shared → Prop} (N : News h₀ L s.heap news) (hD : DatIn l0 (.ref a) p.key) (sub : ∀ p ∈ l0, p ∈ news)
    (h : ∀ t, Q (.int p.rk t) s) (hs : subscripted slice false (.ref a) (.int 0 u) = operate [.ref a, .int 0 u] (getItem (.ref a) (.int 0 u)) := by with_unfolding_all rfl) :
    wpAny (model prog w) A (subscriptTail value slice (.ref a) (.int 0 u)) Q E s := by
  obtain ⟨r, e⟩ := key_head p
  rw [e] at hD
  cases hD with
  | tuple m hA =>
    cases hA with
    | cons h0 _ =>
      cases h0 with
      | int _ t => exact tup_any (N.isTup (sub _ m)) (by decide) (by decide) (j := 0) (by simp [seqIndex?]) rfl (h _) hs
theorem adjust_ab (a b n : Nat) (ha : a ≤ n) (hb : b ≤ n) : Builtin.Slice.sliceAdjust (some (a : Int)) (some (b : Int)) 1 (n : Int) = ((a : Int), (b : Int)) := by
  unfold Builtin.Slice.sliceAdjust
  have h1 : ¬ ((1 : Int) < 0) := by omega
  have h2 : ¬ ((b : Int) < 0) := by omega
  have h3 : ¬ ((a : Int) < 0) := by omega
  simp only [h1, h2, h3, if_false]
  congr 1 <;> omega
theorem places_ab (a b : Nat) (h : a ≤ b) : Builtin.Slice.slicePlaces (a : Int) (b : Int) 1 = b - a := by
  unfold Builtin.Slice.slicePlaces
  have h1 : (1 : Int) > 0 := by omega
  simp only [h1, if_true, Int.ediv_one]
  split <;> omega
theorem sliceApplied_ab {sl : Addr} {a b n : Nat} {u v : Tok} {Q : Int × Int × Nat → Shared → Prop} (hs : s.heap.IsSliceOf sl (.int a u) (.int b v) .none) (hab : a ≤ b) (hb : b ≤ n) (h : Q ((a : Int), 1, b - a) s) :
    wpAny (model prog w) A (Builtin.Slice.sliceApplied (.ref sl) (pure (n : Int))) Q E s := by
  obtain ⟨os, hos, hcs, hds⟩ := id hs
  unfold Builtin.Slice.sliceApplied Builtin.Slice.sliceFields
  refine wpAny_bind (wpAny_bind (wpAny_field hos hds (x := .int a u) rfl (wpAny_bind (wpAny_field hos hds (x := .int b v) rfl (wpAny_bind (wpAny_field hos hds (x := .none) rfl (wpAny_pure ?_)))))))
  refine wpAny_bind (slicePart_none ?_)
  show wpAny _ _ (if ((1 : Int) == 0) = true then _ else _) _ _ s
  rw [if_neg (by decide)]
  refine wpAny_bind (slicePart_int (wpAny_bind (slicePart_int (wpAny_bind (wpAny_pure ?_)))))
  show wpAny _ _ (match Builtin.Slice.sliceAdjust (some (a : Int)) (some (b : Int)) 1 (n : Int) with | (lo, hi) => pure (lo, (1 : Int), Builtin.Slice.slicePlaces lo hi 1)) _ _ s
  rw [adjust_ab a b n (Nat.le_trans hab hb) hb]
  show wpAny _ _ (pure ((a : Int), (1 : Int), Builtin.Slice.slicePlaces (a : Int) (b : Int) 1)) _ _ s
  rw [places_ab a b hab]
  exact wpAny_pure h
theorem pick_ab (xs : Array Value) (a c : Nat) : ((List.range c).filterMap fun (k : Nat) => xs[((a : Int) + (k : Int) * 1).toNat]?).toArray = ((xs.toList.drop a).take c).toArray := by
  have e : (fun (k : Nat) => xs[((a : Int) + (k : Int) * 1).toNat]?) = fun k => xs[a + k]? := by
    funext k
    have : ((a : Int) + (k : Int) * 1).toNat = a + k := by omega
    rw [this]
  rw [e]
  have := pick_run xs a c
  rw [List.filterMap_map] at this
  have e2 : ((fun x => xs[x]?) ∘ fun x => a + x) = fun k => xs[a + k]? := rfl
  rw [e2] at this
  rw [this]
theorem getItem_tuple_ab {t sl : Addr} {items : Array Value} {a b : Nat} {u v : Tok} {Q : Value → Shared → Prop} (ht : IsTup s.heap t items) (hs : s.heap.IsSliceOf sl (.int a u) (.int b v) .none) (h1 : 1 ≤ a) (hab : a ≤ b) (hb : b ≤ items.size)
    (h : Q (.ref s.heap.objs.size) { s with heap := s.heap.push { cls := .type "tuple", data := .seq ((items.toList.drop a).take (b - a)).toArray } })
    (hsz : items.size ≤ sizeLine) : wpAny (model prog w) A (getItem (.ref t) (.ref sl)) Q E s := by
  have hdrop : sizeOk (.seq ((items.toList.drop a).take (b - a)).toArray) := by
    show ((items.toList.drop a).take (b - a)).toArray.size ≤ sizeLine
    rw [List.size_toArray, List.length_take, List.length_drop, Array.length_toList]
    omega
  obtain ⟨os, hos, hcs, hds⟩ := id hs
  have hTs : s.TypeIs (.ref sl) "slice" := ⟨os, hos, hcs⟩
  unfold getItem
  try with_reducible refine wpAny_holding ?_
  first | refine wpAny_bind (wpAny_pure ?_) | skip
  refine wpAny_bind (wpAny_sequenceKey ht.typeIs (by decide) ?_)
  refine wpAny_bind (wpAny_callSpecial?_slot (name := Str.ofString "__getitem__") ht.typeIs slot_tuple_getitem
    (wpAny_call_entry slot_tuple_getitem ht.typeIs entry_tuple_getitem ?_ (args_tuple_getitem _ _)))
  show wpAny _ _ (Builtin.Tuple.tupleItemsOf (.ref t) >>= _) _ _ s
  refine wpAny_bind (tupleItemsOf_ ht ?_)
  refine wpAny_bind (wpAny_typeOf hTs ?_)
  rw [if_pos (by decide)]
  refine wpAny_bind (sliceApplied_ab hs hab hb ?_)
  have hno : ¬ (((a : Int) == 0 && (1 : Int) == 1 && (b - a) == items.size) = true) := by
    have : ((a : Int) == 0) = false := by rw [beq_eq_false_iff_ne]; omega
    rw [this]; simp
  show wpAny _ _ (if ((a : Int) == 0 && (1 : Int) == 1 && (b - a) == items.size) = true then _ else _) _ _ s
  rw [if_neg hno, pick_ab items a (b - a)]
  first
    | exact wpAny_bind (m := Builtin.Tuple.tupleExact _) (wpAny_newObj_type (wpAny_pure ⟨_, rfl, wpAny_pure h⟩) hdrop)
    | exact wpAny_bind (m := Builtin.Tuple.tupleExact _) (wpAny_newObj_type (wpAny_bind (wpAny_pure (wpAny_pure ⟨_, rfl, wpAny_pure h⟩))) hdrop)
    | exact wpAny_bind (wpAny_bind (m := Builtin.Tuple.tupleExact _) (wpAny_newObj_type (wpAny_pure (wpAny_pure ⟨_, rfl, wpAny_pure h⟩)) hdrop))
    | exact wpAny_bind (wpAny_bind (m := Builtin.Tuple.tupleExact _) (wpAny_newObj_type (wpAny_pure ⟨_, rfl, wpAny_pure h⟩) hdrop))
/-- what key[1:3] holds -/
def Plan.mid (p : Plan) : Dat := .tuple [.int p.ar, p.fn.cds]
theorem key_parts {l : List (Addr × Obj)} {a : Addr} {p : Plan} (hD : DatIn l (.ref a) p.key) (hS : p.isS) : ∃ (vs : List Value) (k : Nat) (v1 v2 : Value), (a, ({ cls := .type "tuple", data := .seq vs.toArray k } : Obj)) ∈ l ∧ (vs.drop 1).take 2 = [v1, v2] ∧ vs.length = 4 ∧ DatIn l v1 (.int p.ar) ∧ DatIn l v2 p.fn.cds := by
  have key : ∀ {n : Int} {f : Txt} {d : Dat}, DatIn l (.ref a) (.tuple [.int 3, .int n, f.cds, d]) → ∃ (vs : List Value) (k : Nat) (v1 v2 : Value), (a, ({ cls := .type "tuple", data := .seq vs.toArray k } : Obj)) ∈ l ∧ (vs.drop 1).take 2 = [v1, v2] ∧ vs.length = 4 ∧ DatIn l v1 (.int n) ∧ DatIn l v2 f.cds := by
    intro n f d hD
    cases hD with
    | tuple m hA =>
      cases hA with
      | cons _ hA => cases hA with
        | cons h1 hA => cases hA with
          | cons h2 hA => cases hA with
            | cons _ hA => cases hA with
              | nil => exact ⟨_, _, _, _, m, rfl, rfl, h1, h2⟩
  rcases isS_cases hS with ⟨f, q, rfl⟩ | ⟨f, q, r, rfl⟩
  · exact key hD
  · exact key hD
/-- key[1:3] -/
theorem key_slice {value slice : PySem.Expr} {t : Addr} {u v : Tok} {p : Plan} {l0 : List (Addr × Obj)} {Q : Value → Shared → Prop}
    (F : Fr h₀ L s.heap m) (N : News h₀ L s.heap news) (hD : DatIn l0 (.ref t) p.key) (sub : ∀ p ∈ l0, p ∈ news) (hS : p.isS)
    (h : ∀ D o h', DatIn ((D, o) :: news) (.ref D) p.mid → Fr h₀ L h' m → News h₀ L h' ((D, o) :: news) → Q (.ref D) { s with heap := h' })
    (hs : subscripted slice false (.ref t) (.ref s.heap.objs.size) = operate [.ref s.heap.objs.size, .ref t] (getItem (.ref t) (.ref s.heap.objs.size)) := by with_unfolding_all rfl) :
    wpAny (model prog w) A (subscriptTail value slice (.ref t) (.ref s.heap.objs.size)) Q E { s with heap := s.heap.push { cls := .type "slice", data := .fields #[.int 1 u, .int 3 v, .none] } } := by
  obtain ⟨vs, k, v1, v2, hm, e, hl, d1, d2⟩ := key_parts hD hS
  have ht : IsTup s.heap t vs.toArray := N.isTup (sub _ hm)
  have ht' : IsTup (s.heap.push { cls := .type "slice", data := .fields #[.int 1 u, .int 3 v, .none] }) t vs.toArray := ht.keeps fun _ _ e => Heap.get?_push_of_some _ e
  refine tail_any (s := { s with heap := s.heap.push { cls := .type "slice", data := .fields #[.int 1 u, .int 3 v, .none] } }) ht'.typeIs slot_tuple_getitem.lookup
    (getItem_tuple_ab (a := 1) (b := 3) ht' (Heap.IsSliceOf.new ..) (by decide) (by decide) (by rw [List.size_toArray, hl]; decide) ?_ (by rw [List.size_toArray, hl]; decide)) hs
  have N1 := News.push (F.push { cls := .type "slice", data := .fields #[.int 1 u, .int 3 v, .none] }) (N.grown fun _ _ e => Heap.get?_push_of_some _ e) { cls := .type "tuple", data := .seq ((vs.toArray.toList.drop 1).take (3 - 1)).toArray }
  rw [Heap.size_push] at N1
  show Q (.ref (s.heap.push _).objs.size) _
  rw [Heap.size_push]
  refine h _ _ _ ?_ ((F.push _).push _) N1
  have e' : (vs.toArray.toList.drop 1).take (3 - 1) = [v1, v2] := e
  rw [e']
  exact DatIn.tuple (vs := [v1, v2]) (.head _) (.cons (d1.mono fun q hq => .tail _ (sub q hq)) (.cons (d2.mono fun q hq => .tail _ (sub q hq)) .nil))
end
theorem sign_keys {w : World} {loose : List Str} {mean : ExcName → Option Value} {mg mb : Str → Option Value} {dp un : Nat} {gd : Option (List Code)} {cn : Str} {cs : Scope} {a : Addr} {ccd : Value} {cl : List (Str × Addr)} {outer : List Env} {A₀ : Around} {base h₀ : Heap} {L : Addr} {m : Str → Option Value} {s : Shared} {Q E : Value → Shared → Prop} {news0 l0 l1 : List (Addr × Obj)} {a0 b0 : Addr} {p q : Plan}
    (B : Below A₀ base outer h₀) (F : Fr h₀ L s.heap m) (X : (Mine.hd.heap_1 w.params).In h₀) (N : News h₀ L s.heap news0) (T : Top Mine.hd.view_1 loose mean mg mb h₀) (hk : cs.kind = .function) (hp : DatIn l0 (.ref a0) p.key ∧ p.deep ≤ 2) (hq : DatIn l1 (.ref b0) q.key ∧ q.deep ≤ 2) (s0 : ∀ p ∈ l0, p ∈ news0) (s1 : ∀ p ∈ l1, p ∈ news0)
    (hd : dp + 1 < recursionLimit) (hu : un + 8 * 1 + 64 < cLine) (ret : ∀ t h' tk', Fr h₀ L h' m → News h₀ L h' news0 → Q (.int (pcmp p q) t) { s with heap := h', toks := tk' }) :
    wpAny (model PySem.Challenge.rw_sa0142_01.row.prog w) (ktrTop dp un gd cn cs L a ccd cl outer) (call (.ref 199) [.ref a0, .ref b0]) Q E s :=
  tri_use B F X N T hk (sign_spec (hp.1.mono s0) (hq.1.mono s1) (kqd_two hp.2) (kqd_two hq.2) (key_ok p q)) (fun _ h => h) hd hu (fun r news' h' tk' F' N' h => by
    obtain ⟨rfl, t, rfl⟩ := h
    rw [← key_sign]
    exact ret t h' tk' F' N')
theorem sign_mids {w : World} {loose : List Str} {mean : ExcName → Option Value} {mg mb : Str → Option Value} {dp un : Nat} {gd : Option (List Code)} {cn : Str} {cs : Scope} {a : Addr} {ccd : Value} {cl : List (Str × Addr)} {outer : List Env} {A₀ : Around} {base h₀ : Heap} {L : Addr} {m : Str → Option Value} {s : Shared} {Q E : Value → Shared → Prop} {news0 l0 l1 : List (Addr × Obj)} {a0 b0 : Addr} {p q : Plan}
    (B : Below A₀ base outer h₀) (F : Fr h₀ L s.heap m) (X : (Mine.hd.heap_1 w.params).In h₀) (N : News h₀ L s.heap news0) (T : Top Mine.hd.view_1 loose mean mg mb h₀) (hk : cs.kind = .function) (hp : DatIn l0 (.ref a0) p.mid) (hq : DatIn l1 (.ref b0) q.mid) (s0 : ∀ p ∈ l0, p ∈ news0) (s1 : ∀ p ∈ l1, p ∈ news0)
    (hd : dp + 1 < recursionLimit) (hu : un + 8 * 1 + 64 < cLine) (ret : ∀ t h' tk', Fr h₀ L h' m → News h₀ L h' news0 → Q (.int (fsign p.ar q.ar p.fn.str q.fn.str) t) { s with heap := h', toks := tk' }) :
    wpAny (model PySem.Challenge.rw_sa0142_01.row.prog w) (ktrTop dp un gd cn cs L a ccd cl outer) (call (.ref 199) [.ref a0, .ref b0]) Q E s :=
  tri_use B F X N T hk (sign_spec (hp.mono s0) (hq.mono s1) (fun_kqd _ _) (fun_kqd _ _) (fun_ok _ _ _ _)) (fun _ h => h) hd hu (fun r news' h' tk' F' N' h => by
    obtain ⟨rfl, t, rfl⟩ := h
    rw [show dsign p.mid q.mid = fsign p.ar q.ar p.fn.str q.fn.str from (fun_sign _ _ _ _).symm]
    exact ret t h' tk' F' N')
/-- what the last loops read -/
def Late (w : World) (base : List (Addr × Obj)) (BL RL KL : Addr) (x d ka : Nat → Addr) (a : Nat → Nat → Addr) (ts : Nat → List Str) (gs : Nat → List (Int × Int)) (ps : Nat → Plan) : Prop :=
  (∃ bs e, (BL, listOf (List.toArray bs) e) ∈ base ∧ ∀ q, q < 2 → bs[q]? = some (.ref (x q)) ∧ BookR w base (x q) (ts q) (gs q)) ∧ (∃ rs e, (RL, listOf (List.toArray rs) e) ∈ base ∧ ∀ q, q < 2 → rs[q]? = some (.ref (d q))) ∧ (∃ ks e, (KL, listOf (List.toArray ks) e) ∈ base ∧ ∀ i, i < 3 → ks[i]? = some (.ref (ka i)) ∧ DatIn base (.ref (ka i)) (ps i).key ∧ (ps i).deep ≤ 2) ∧
    ∀ q, q < 2 → ∃ vs e, (d q, listOf (List.toArray vs) e) ∈ base ∧ ∀ i, i < 3 → vs[i]? = some (.ref (a q i)) ∧ TermIn (ts q) (gs q) base (.ref (a q i)) (ps i)
section
variable {prog : Program} {w : World} {A : Around} {E : Value → Shared → Prop} {s : Shared} {h₀ : Heap} {L : Addr} {m : Str → Option Value} {news base : List (Addr × Obj)} {BL RL KL : Addr} {x d ka : Nat → Addr} {a : Nat → Nat → Addr} {ts : Nat → List Str} {gs : Nat → List (Int × Int)} {ps : Nat → Plan} {value slice : PySem.Expr} {t : Tok} {Q : Value → Shared → Prop} {i j q : Nat}
theorem item_nat {D : Addr} {l : List (Addr × Obj)} {vs : List Value} {n : Nat} {u : Tok} {v : Value} (N : News h₀ L s.heap l) (m : (D, listOf vs.toArray n) ∈ l) (hz : i < 2 ^ 63) (hx : vs[i]? = some v) (h : Q v s)
    (hs : subscripted slice false (.ref D) (.int (i : Int) u) = operate [.ref D, .int (i : Int) u] (getItem (.ref D) (.int (i : Int) u)) := by with_unfolding_all rfl) :
    wpAny (model prog w) A (subscriptTail value slice (.ref D) (.int (i : Int) u)) Q E s :=
  item_at N m (by omega) (by omega) (by rw [Int.toNat_natCast]; exact hx) h hs
theorem item_books (H : Late w base BL RL KL x d ka a ts gs ps) (N : News h₀ L s.heap news) (sub : ∀ p ∈ base, p ∈ news) (hq : q < 2) (h : Q (.ref (x q)) s)
    (hs : subscripted slice false (.ref BL) (.int (q : Int) t) = operate [.ref BL, .int (q : Int) t] (getItem (.ref BL) (.int (q : Int) t)) := by with_unfolding_all rfl) :
    wpAny (model prog w) A (subscriptTail value slice (.ref BL) (.int (q : Int) t)) Q E s := by
  obtain ⟨⟨bs, e, hm, hb⟩, _⟩ := H
  exact item_nat N (sub _ hm) (Nat.lt_trans hq (by decide)) (hb q hq).1 h hs
theorem item_rows (H : Late w base BL RL KL x d ka a ts gs ps) (N : News h₀ L s.heap news) (sub : ∀ p ∈ base, p ∈ news) (hq : q < 2) (h : Q (.ref (d q)) s)
    (hs : subscripted slice false (.ref RL) (.int (q : Int) t) = operate [.ref RL, .int (q : Int) t] (getItem (.ref RL) (.int (q : Int) t)) := by with_unfolding_all rfl) :
    wpAny (model prog w) A (subscriptTail value slice (.ref RL) (.int (q : Int) t)) Q E s := by
  obtain ⟨_, ⟨rs, e, hm, hb⟩, _⟩ := H
  exact item_nat N (sub _ hm) (Nat.lt_trans hq (by decide)) (hb q hq) h hs
theorem item_rows0 (H : Late w base BL RL KL x d ka a ts gs ps) (N : News h₀ L s.heap news) (sub : ∀ p ∈ base, p ∈ news) (h : Q (.ref (d 0)) s)
    (hs : subscripted slice false (.ref RL) (.int 0 t) = operate [.ref RL, .int 0 t] (getItem (.ref RL) (.int 0 t)) := by with_unfolding_all rfl) :
    wpAny (model prog w) A (subscriptTail value slice (.ref RL) (.int 0 t)) Q E s := item_rows (q := 0) H N sub (by decide) h hs
theorem item_keys (H : Late w base BL RL KL x d ka a ts gs ps) (N : News h₀ L s.heap news) (sub : ∀ p ∈ base, p ∈ news) (hi : i < 3) (h : Q (.ref (ka i)) s)
    (hs : subscripted slice false (.ref KL) (.int (i : Int) t) = operate [.ref KL, .int (i : Int) t] (getItem (.ref KL) (.int (i : Int) t)) := by with_unfolding_all rfl) :
    wpAny (model prog w) A (subscriptTail value slice (.ref KL) (.int (i : Int) t)) Q E s := by
  obtain ⟨_, _, ⟨ks, e, hm, hb⟩, _⟩ := H
  exact item_nat N (sub _ hm) (Nat.lt_trans hi (by decide)) (hb i hi).1 h hs
theorem item_row (H : Late w base BL RL KL x d ka a ts gs ps) (N : News h₀ L s.heap news) (sub : ∀ p ∈ base, p ∈ news) (hq : q < 2) (hi : i < 3) (h : Q (.ref (a q i)) s)
    (hs : subscripted slice false (.ref (d q)) (.int (i : Int) t) = operate [.ref (d q), .int (i : Int) t] (getItem (.ref (d q)) (.int (i : Int) t)) := by with_unfolding_all rfl) :
    wpAny (model prog w) A (subscriptTail value slice (.ref (d q)) (.int (i : Int) t)) Q E s := by
  obtain ⟨_, _, _, H⟩ := H
  obtain ⟨vs, e, hm, hb⟩ := H q hq
  exact item_nat N (sub _ hm) (Nat.lt_trans hi (by decide)) (hb i hi).1 h hs
theorem Late.book (H : Late w base BL RL KL x d ka a ts gs ps) (sub : ∀ p ∈ base, p ∈ news) (hq : q < 2) : BookR w news (x q) (ts q) (gs q) := by
  obtain ⟨⟨bs, e, hm, hb⟩, _⟩ := H
  exact (hb q hq).2.mono sub
theorem Late.term (H : Late w base BL RL KL x d ka a ts gs ps) (sub : ∀ p ∈ base, p ∈ news) (hq : q < 2) (hi : i < 3) : TermIn (ts q) (gs q) news (.ref (a q i)) (ps i) := by
  obtain ⟨_, _, _, H⟩ := H
  obtain ⟨vs, e, hm, hb⟩ := H q hq
  exact (hb i hi).2.mono sub
theorem Late.key (H : Late w base BL RL KL x d ka a ts gs ps) (hi : i < 3) : DatIn base (.ref (ka i)) (ps i).key ∧ (ps i).deep ≤ 2 := by
  obtain ⟨_, _, ⟨ks, e, hm, hb⟩, _⟩ := H
  exact (hb i hi).2
theorem late_tag {u : Tok} (H : Late w base BL RL KL x d ka a ts gs ps) (N : News h₀ L s.heap news) (sub : ∀ p ∈ base, p ∈ news) (hq : q < 2) (hi : i < 3) (h : ∀ t, Q (.str (ps i).tag t) s) (hs : subscripted slice false (.ref (a q i)) (.int 0 u) = operate [.ref (a q i), .int 0 u] (getItem (.ref (a q i)) (.int 0 u)) := by with_unfolding_all rfl) : wpAny (model prog w) A (subscriptTail value slice (.ref (a q i)) (.int 0 u)) Q E s := item_tag N (H.term sub hq hi) (fun _ h => h) h hs
theorem late_fun {u : Tok} (H : Late w base BL RL KL x d ka a ts gs ps) (N : News h₀ L s.heap news) (sub : ∀ p ∈ base, p ∈ news) (hq : q < 2) (hi : i < 3) (hS : ((ps i).tag == Str.ofString "s") = true) (h : ∀ k t, FunAt (ts q) (gs q) k (ps i).ar (ps i).fn.str → Q (.int k t) s) (hs : subscripted slice false (.ref (a q i)) (.int 1 u) = operate [.ref (a q i), .int 1 u] (getItem (.ref (a q i)) (.int 1 u)) := by with_unfolding_all rfl) : wpAny (model prog w) A (subscriptTail value slice (.ref (a q i)) (.int 1 u)) Q E s := item_fun N (H.term sub hq hi) (fun _ h => h) hS h hs
theorem late_rk {u : Tok} (H : Late w base BL RL KL x d ka a ts gs ps) (N : News h₀ L s.heap news) (sub : ∀ p ∈ base, p ∈ news) (hi : i < 3) (h : ∀ t, Q (.int (ps i).rk t) s) (hs : subscripted slice false (.ref (ka i)) (.int 0 u) = operate [.ref (ka i), .int 0 u] (getItem (.ref (ka i)) (.int 0 u)) := by with_unfolding_all rfl) : wpAny (model prog w) A (subscriptTail value slice (.ref (ka i)) (.int 0 u)) Q E s := item_rk N (H.key hi).1 sub h hs
theorem late_slice {u v : Tok} (H : Late w base BL RL KL x d ka a ts gs ps) (F : Fr h₀ L s.heap m) (N : News h₀ L s.heap news) (sub : ∀ p ∈ base, p ∈ news) (hi : i < 3) (hS : ((ps i).tag == Str.ofString "s") = true) (h : ∀ D o h', DatIn ((D, o) :: news) (.ref D) (ps i).mid → Fr h₀ L h' m → News h₀ L h' ((D, o) :: news) → Q (.ref D) { s with heap := h' })
    (hs : subscripted slice false (.ref (ka i)) (.ref s.heap.objs.size) = operate [.ref s.heap.objs.size, .ref (ka i)] (getItem (.ref (ka i)) (.ref s.heap.objs.size)) := by with_unfolding_all rfl) :
    wpAny (model prog w) A (subscriptTail value slice (.ref (ka i)) (.ref s.heap.objs.size)) Q E { s with heap := s.heap.push { cls := .type "slice", data := .fields #[.int 1 u, .int 3 v, .none] } } := key_slice F N (H.key hi).1 sub hS h hs
theorem Late.small (H : Late w base BL RL KL x d ka a ts gs ps) (hi : i < 3) : (ps i).sz ≤ 900 := Nat.le_trans (sz_two (H.key hi).2) (by decide)
end
/-- a loop over a range that changes names alone -/
def LJ (S : List Str) (base : List (Addr × Obj)) (m₀ m : Str → Option Value) (nw : List (Addr × Obj)) : Prop := (∃ u : Str → Option Value, m = fun z => if S.contains z then u z else m₀ z) ∧ nw = base
theorem LJ.intro {S : List Str} {base : List (Addr × Obj)} {m₀ m : Str → Option Value} (h : ∀ z, S.contains z = false → m z = m₀ z) : LJ S base m₀ m base := by
  refine ⟨⟨m, ?_⟩, rfl⟩
  funext z
  cases hc : S.contains z with
  | true => rfl
  | false => exact h z hc
theorem st_step {S : List Str} {y z : Str} {v b : Option Value} (h : S.contains z = false) (hy : S.contains y = true) : (if z = y then v else b) = b := by
  rw [if_neg]; rintro rfl; rw [h] at hy; cases hy
theorem st_sub {S S' : List Str} {z : Str} {v b : Option Value} (h : S.contains z = false) (hs : S'.all (fun y => S.contains y) = true) : (if S'.contains z = true then v else b) = b := by
  rw [if_neg]
  intro hz
  have h1 : z ∈ S' := by simpa using hz
  have h2 := List.all_eq_true.mp hs z h1
  rw [h] at h2; cases h2
section
variable {prog : Program} {w : World} {A : Around} {E : Value → Shared → Prop} {s : Shared} {env : Env} {h₀ : Heap} {x : Str} {body : List Stmt} {Q : Flow → Shared → Prop}
def RTurn (prog : Program) (w : World) (A : Around) (E : Value → Shared → Prop) (h₀ : Heap) (env : Env) (x : Str) (body : List Stmt) (Q : Flow → Shared → Prop) (S : List Str) (base : List (Addr × Obj)) (m₀ : Str → Option Value) (n : Nat) (s : Shared) : Prop :=
  ∀ i t h tk (u : Str → Option Value) I oI, i < n → Off I base → Fr h₀ env.locals h (fun y => if y = x then some (.int (i : Int) t) else if S.contains y then u y else m₀ y) → News h₀ env.locals h ((I, oI) :: base) →
    wpAny (model prog w) A (execs body env) (TurnPost h₀ env.locals I oI (LJ S base m₀) { s with heap := h, toks := tk } Q) E { s with heap := h, toks := tk }
def RDone (h₀ : Heap) (env : Env) (Q : Flow → Shared → Prop) (S : List Str) (base : List (Addr × Obj)) (m₀ : Str → Option Value) (s : Shared) : Prop :=
  ∀ h tk (u : Str → Option Value), Fr h₀ env.locals h (fun y => if S.contains y then u y else m₀ y) → News h₀ env.locals h base → Q .next { s with heap := h, toks := tk }
theorem rturn_end {S : List Str} {base all : List (Addr × Obj)} {m₀ m' : Str → Option Value} {L I : Addr} {oI : Obj} {s₁ : Shared} {h' : Heap} {tk : Nat} (F : Fr h₀ L h' m') (N : News h₀ L h' all) (mI : (I, oI) ∈ all) (sub : ∀ p ∈ base, p ∈ all) (off : Off I base) (hm : ∀ z, S.contains z = false → m' z = m₀ z) : TurnEnd h₀ L I oI (LJ S base m₀) s₁ { s₁ with heap := h', toks := tk } :=
  ⟨h', tk, m', base, rfl, F, fun p hp => N p ((List.mem_cons.mp hp).elim (fun e => e ▸ mI) (sub p)), off, LJ.intro hm⟩
theorem rng_iter (S : List Str) {r : Addr} {b : Int} {t u v9 : Tok} {n : Nat} {m₀ : Str → Option Value} {base : List (Addr × Obj)}
    (hh : A.handled = none) (F : Fr h₀ env.locals s.heap m₀) (N : News h₀ env.locals s.heap base) (hr : IsRange s.heap r 0 b 1 t u v9) (hsm : Builtin.Range.small 0 b 1 = true) (hn : Builtin.Range.rangeSize 0 b 1 = ((n : Nat) : Int)) (turn : RTurn prog w A E h₀ env x body Q S base m₀ n s) (done : RDone h₀ env Q S base m₀ s) :
    wpAny (model prog w) A (pyIter (.ref r)) (fun it s₂ => LoopAtV prog w A h₀ env x body Q E it s₂) E s := by
  refine iter_rng (fun _ m nw => LJ S base m₀ m nw) hh F N hr hsm hn (LJ.intro fun _ _ => rfl) ?_ ?_
  · rintro i t m₁ news₁ h tk I oI hi ⟨⟨u, rfl⟩, rfl⟩ _ hO F₁ N₁
    rw [Int.zero_add] at F₁
    exact turn i t h tk u I oI hi hO F₁ N₁
  · rintro m₁ news₁ h tk ⟨⟨u, rfl⟩, rfl⟩ F₁ N₁
    exact done h tk u F₁ N₁
end
end
section
section
/-- the two books' objects lie apart -/
def Two (T1 A1 F1 N1 T2 A2 F2 N2 : Addr) : Prop :=
  Four T1 A1 F1 N1 ∧ Four T2 A2 F2 N2 ∧ (@Ne Nat T1 T2 ∧ @Ne Nat A1 T2 ∧ @Ne Nat F1 T2 ∧ @Ne Nat N1 T2) ∧ (@Ne Nat T1 A2 ∧ @Ne Nat A1 A2 ∧ @Ne Nat F1 A2 ∧ @Ne Nat N1 A2) ∧ (@Ne Nat T1 F2 ∧ @Ne Nat A1 F2 ∧ @Ne Nat F1 F2 ∧ @Ne Nat N1 F2) ∧ (@Ne Nat T1 N2 ∧ @Ne Nat A1 N2 ∧ @Ne Nat F1 N2 ∧ @Ne Nat N1 N2)
theorem said34 : True := by
  k_with "my k_mem9" => first | exact List.Mem.head _ | assumption | (refine' List.Mem.tail _ ?_; k_mem) | (refine' List.mem_append.mpr (Or.inl ?_); k_mem) | (refine' List.mem_append.mpr (Or.inr ?_); k_mem) | fail "9"
  k_with "my sub9" => first | with_reducible exact sub_id | with_reducible exact sub_nil | exact Sub.of (by assumption) | ((with_reducible refine sub_app ?_ ?_) <;> k_extra "my sub9") | ((with_reducible refine sub_cons ?_ ?_) <;> first | k_mem | k_extra "my sub9") | ((with_reducible refine sub_tail ?_); k_extra "my sub9") | ((with_reducible refine sub_l ?_); k_extra "my sub9") | ((with_reducible refine sub_r ?_); k_extra "my sub9") | fail "9"
  trivial
theorem off_cons {D a : Addr} {o : Obj} {l : List (Addr × Obj)} (h : @Ne Nat a D) (r : ∀ p ∈ l, p.1 ≠ D) : ∀ p ∈ (a, o) :: l, p.1 ≠ D := List.forall_mem_cons.mpr ⟨h, r⟩
section
variable {T1 A1 F1 N1 T2 A2 F2 N2 : Addr} {o1 o2 o3 o4 o5 o6 : Obj} {l : List (Addr × Obj)}
theorem two_T1 (h : Two T1 A1 F1 N1 T2 A2 F2 N2) (r : BkOff T1 A1 F1 N1 l) : ∀ p ∈ (F1, o1) :: (N1, o2) :: (T2, o3) :: (A2, o4) :: (F2, o5) :: (N2, o6) :: l, p.1 ≠ T1 :=
  off_cons h.1.2.1.symm (off_cons h.1.2.2.1.symm (off_cons h.2.2.1.1.symm (off_cons h.2.2.2.1.1.symm (off_cons h.2.2.2.2.1.1.symm (off_cons h.2.2.2.2.2.1.symm fun p hp => (r p hp).1)))))
theorem two_A1 (h : Two T1 A1 F1 N1 T2 A2 F2 N2) (r : BkOff T1 A1 F1 N1 l) : ∀ p ∈ (F1, o1) :: (N1, o2) :: (T2, o3) :: (A2, o4) :: (F2, o5) :: (N2, o6) :: l, p.1 ≠ A1 :=
  off_cons h.1.2.2.2.1.symm (off_cons h.1.2.2.2.2.1.symm (off_cons h.2.2.1.2.1.symm (off_cons h.2.2.2.1.2.1.symm (off_cons h.2.2.2.2.1.2.1.symm (off_cons h.2.2.2.2.2.2.1.symm fun p hp => (r p hp).2.1)))))
theorem two_T2 (h : Two T1 A1 F1 N1 T2 A2 F2 N2) (r : BkOff T2 A2 F2 N2 l) : ∀ p ∈ (T1, o1) :: (A1, o2) :: (F1, o3) :: (N1, o4) :: (F2, o5) :: (N2, o6) :: l, p.1 ≠ T2 :=
  off_cons h.2.2.1.1 (off_cons h.2.2.1.2.1 (off_cons h.2.2.1.2.2.1 (off_cons h.2.2.1.2.2.2 (off_cons h.2.1.2.1.symm (off_cons h.2.1.2.2.1.symm fun p hp => (r p hp).1)))))
theorem two_A2 (h : Two T1 A1 F1 N1 T2 A2 F2 N2) (r : BkOff T2 A2 F2 N2 l) : ∀ p ∈ (T1, o1) :: (A1, o2) :: (F1, o3) :: (N1, o4) :: (F2, o5) :: (N2, o6) :: l, p.1 ≠ A2 :=
  off_cons h.2.2.2.1.1 (off_cons h.2.2.2.1.2.1 (off_cons h.2.2.2.1.2.2.1 (off_cons h.2.2.2.1.2.2.2 (off_cons h.2.1.2.2.2.1.symm (off_cons h.2.1.2.2.2.2.1.symm fun p hp => (r p hp).2.1)))))
theorem two_B1 (h : Two T1 A1 F1 N1 T2 A2 F2 N2) (r : BkOff T1 A1 F1 N1 l) : BkOff T1 A1 F1 N1 ((T2, o1) :: (A2, o2) :: (F2, o3) :: (N2, o4) :: l) :=
  bkoff_cons h.2.2.1.1.symm h.2.2.1.2.1.symm h.2.2.1.2.2.1.symm h.2.2.1.2.2.2.symm (bkoff_cons h.2.2.2.1.1.symm h.2.2.2.1.2.1.symm h.2.2.2.1.2.2.1.symm h.2.2.2.1.2.2.2.symm
    (bkoff_cons h.2.2.2.2.1.1.symm h.2.2.2.2.1.2.1.symm h.2.2.2.2.1.2.2.1.symm h.2.2.2.2.1.2.2.2.symm (bkoff_cons h.2.2.2.2.2.1.symm h.2.2.2.2.2.2.1.symm h.2.2.2.2.2.2.2.1.symm h.2.2.2.2.2.2.2.2.symm r)))
theorem two_B2 (h : Two T1 A1 F1 N1 T2 A2 F2 N2) (r : BkOff T2 A2 F2 N2 l) : BkOff T2 A2 F2 N2 ((T1, o1) :: (A1, o2) :: (F1, o3) :: (N1, o4) :: l) :=
  bkoff_cons h.2.2.1.1 h.2.2.2.1.1 h.2.2.2.2.1.1 h.2.2.2.2.2.1 (bkoff_cons h.2.2.1.2.1 h.2.2.2.1.2.1 h.2.2.2.2.1.2.1 h.2.2.2.2.2.2.1
    (bkoff_cons h.2.2.1.2.2.1 h.2.2.2.1.2.2.1 h.2.2.2.2.1.2.2.1 h.2.2.2.2.2.2.2.1 (bkoff_cons h.2.2.1.2.2.2 h.2.2.2.1.2.2.2 h.2.2.2.2.1.2.2.2 h.2.2.2.2.2.2.2.2 r)))
end
theorem inst_cls {c : Nat} {d : Addr} {P : Prop} (e : (instObj c d).cls = .type "tuple") : P := by cases e
section
variable {prog : Program} {w : World} {A : Around} {α : Type} {tree : Sem α} {Q : α → Shared → Prop} {E : Value → Shared → Prop} {s : Shared} {h₀ : Heap} {L : Addr} {m : Str → Option Value}
/-- forget how the books were made: their eight objects stand ahead of one letter -/
theorem forget2 {base tl1 tl2 : List (Addr × Obj)} {cA PL KL BL a1 a2 a3 : Addr} {oc : Obj} {p1 p2 p3 : Plan} {e : Nat} {bs : Array Value} {Y : Prop}
    {x1 dx1 T1 A1 F1 N1 x2 dx2 T2 A2 F2 N2 : Addr} {t1 t2 t3 t4 u1 u2 u3 u4 : Tok} {oT1 oA1 oF1 oN1 oT2 oA2 oF2 oN2 : Obj}
    (_ : Fr h₀ L s.heap m) (N : News h₀ L s.heap ((BL, listOf bs e) :: (T2, oT2) :: (A2, oA2) :: (F2, oF2) :: (N2, oN2) :: (x2, instObj 157 dx2) :: (dx2, bookDict w u1 u2 u3 u4 T2 A2 F2 N2) :: (T1, oT1) :: (A1, oA1) :: (F1, oF1) :: (N1, oN1) :: (x1, instObj 157 dx1) :: (dx1, bookDict w t1 t2 t3 t4 T1 A1 F1 N1) :: (base ++ tl1 ++ tl2)))
    (mc : (cA, oc) ∈ base) (hE : Early base PL KL a1 a2 a3 p1 p2 p3)
    (hB1 : BkOff T1 A1 F1 N1 ((x1, instObj 157 dx1) :: (dx1, bookDict w t1 t2 t3 t4 T1 A1 F1 N1) :: (base ++ tl1))) (hA1 : AtomObj w oT1 oA1 atoms29) (hF1 : FunObj w (base ++ tl1) oF1 oN1 funsNo) (h41 : Four T1 A1 F1 N1)
    (hB2 : BkOff T2 A2 F2 N2 ((x2, instObj 157 dx2) :: (dx2, bookDict w u1 u2 u3 u4 T2 A2 F2 N2) :: ((T1, oT1) :: (A1, oA1) :: (F1, oF1) :: (N1, oN1) :: (x1, instObj 157 dx1) :: (dx1, bookDict w t1 t2 t3 t4 T1 A1 F1 N1) :: (base ++ tl1) ++ tl2)))
    (hF2 : FunObj w ((T1, oT1) :: (A1, oA1) :: (F1, oF1) :: (N1, oN1) :: (x1, instObj 157 dx1) :: (dx1, bookDict w t1 t2 t3 t4 T1 A1 F1 N1) :: (base ++ tl1) ++ tl2) oF2 oN2 funsNo) (h42 : Four T2 A2 F2 N2) (ht2 : Tups tl2)
    (hf2 : Fresh ((T1, oT1) :: (A1, oA1) :: (F1, oF1) :: (N1, oN1) :: (x1, instObj 157 dx1) :: (dx1, bookDict w t1 t2 t3 t4 T1 A1 F1 N1) :: (base ++ tl1)) [(T2, oT2), (A2, oA2), (F2, oF2), (N2, oN2), (x2, instObj 157 dx2), (dx2, bookDict w u1 u2 u3 u4 T2 A2 F2 N2)])
    (hlt : @LT.lt Nat _ T2 BL ∧ @LT.lt Nat _ A2 BL ∧ @LT.lt Nat _ F2 BL ∧ @LT.lt Nat _ N2 BL ∧ @LT.lt Nat _ x2 BL ∧ @LT.lt Nat _ dx2 BL ∧ @LT.lt Nat _ T1 BL ∧ @LT.lt Nat _ A1 BL ∧ @LT.lt Nat _ F1 BL ∧ @LT.lt Nat _ N1 BL ∧ Y) (eb : bs = #[Value.ref x1, .ref x2])
    (k : ∀ base', Forgot2 → (x1, instObj 157 dx1) ∈ base' → (dx1, bookDict w t1 t2 t3 t4 T1 A1 F1 N1) ∈ base' → (x2, instObj 157 dx2) ∈ base' → (dx2, bookDict w u1 u2 u3 u4 T2 A2 F2 N2) ∈ base' → (BL, listOf #[Value.ref x1, .ref x2] e) ∈ base' → (cA, oc) ∈ base' → Early base' PL KL a1 a2 a3 p1 p2 p3 →
      Two T1 A1 F1 N1 T2 A2 F2 N2 → BkOff T1 A1 F1 N1 base' → BkOff T2 A2 F2 N2 base' → FunObj w base' oF1 oN1 funsNo → FunObj w base' oF2 oN2 funsNo →
      News h₀ L s.heap ((T1, oT1) :: (A1, oA1) :: (F1, oF1) :: (N1, oN1) :: (T2, oT2) :: (A2, oA2) :: (F2, oF2) :: (N2, oN2) :: base') → wpAny (model prog w) A tree Q E s) : wpAny (model prog w) A tree Q E s := by
  subst eb
  obtain ⟨g1, g2, g3, g4, g5, g6, g7, g8, g9, g10, _⟩ := hlt
  have c1 := atom_cls hA1
  have c2 := fun_cls hF1
  have sub : ∀ p ∈ base ++ tl1, p ∈ (BL, listOf #[Value.ref x1, .ref x2] e) :: (x2, instObj 157 dx2) :: (dx2, bookDict w u1 u2 u3 u4 T2 A2 F2 N2) :: (x1, instObj 157 dx1) :: (dx1, bookDict w t1 t2 t3 t4 T1 A1 F1 N1) :: (base ++ tl1 ++ tl2) := fun p hp => .tail _ (.tail _ (.tail _ (.tail _ (.tail _ (List.mem_append.mpr (.inl hp))))))
  have fr : ∀ {a : Addr} {o : Obj}, (a, o) ∈ (T1, oT1) :: (A1, oA1) :: (F1, oF1) :: (N1, oN1) :: (x1, instObj 157 dx1) :: (dx1, bookDict w t1 t2 t3 t4 T1 A1 F1 N1) :: (base ++ tl1) → @Ne Nat x2 a ∧ @Ne Nat dx2 a := fun hm =>
    ⟨Nat.ne_of_gt (hf2 (x2, instObj 157 dx2) (.tail _ (.tail _ (.tail _ (.tail _ (.head _))))) _ hm), Nat.ne_of_gt (hf2 (dx2, bookDict w u1 u2 u3 u4 T2 A2 F2 N2) (.tail _ (.tail _ (.tail _ (.tail _ (.tail _ (.head _)))))) _ hm)⟩
  have mT : (T1, oT1) ∈ (T1, oT1) :: (A1, oA1) :: (F1, oF1) :: (N1, oN1) :: (x1, instObj 157 dx1) :: (dx1, bookDict w t1 t2 t3 t4 T1 A1 F1 N1) :: (base ++ tl1) := .head _
  have mA : (A1, oA1) ∈ (T1, oT1) :: (A1, oA1) :: (F1, oF1) :: (N1, oN1) :: (x1, instObj 157 dx1) :: (dx1, bookDict w t1 t2 t3 t4 T1 A1 F1 N1) :: (base ++ tl1) := .tail _ (.head _)
  have mF : (F1, oF1) ∈ (T1, oT1) :: (A1, oA1) :: (F1, oF1) :: (N1, oN1) :: (x1, instObj 157 dx1) :: (dx1, bookDict w t1 t2 t3 t4 T1 A1 F1 N1) :: (base ++ tl1) := .tail _ (.tail _ (.head _))
  have mN : (N1, oN1) ∈ (T1, oT1) :: (A1, oA1) :: (F1, oF1) :: (N1, oN1) :: (x1, instObj 157 dx1) :: (dx1, bookDict w t1 t2 t3 t4 T1 A1 F1 N1) :: (base ++ tl1) := .tail _ (.tail _ (.tail _ (.head _)))
  have b2 : ∀ {a : Addr} {o : Obj}, (a, o) ∈ (T1, oT1) :: (A1, oA1) :: (F1, oF1) :: (N1, oN1) :: (x1, instObj 157 dx1) :: (dx1, bookDict w t1 t2 t3 t4 T1 A1 F1 N1) :: (base ++ tl1) → @Ne Nat a T2 ∧ @Ne Nat a A2 ∧ @Ne Nat a F2 ∧ @Ne Nat a N2 := fun {a o} hm => hB2 (a, o) (.tail _ (.tail _ (List.mem_append.mpr (.inl hm))))
  refine k ((BL, listOf #[Value.ref x1, .ref x2] e) :: (x2, instObj 157 dx2) :: (dx2, bookDict w u1 u2 u3 u4 T2 A2 F2 N2) :: (x1, instObj 157 dx1) :: (dx1, bookDict w t1 t2 t3 t4 T1 A1 F1 N1) :: (base ++ tl1 ++ tl2)) (Eq.refl 2) (.tail _ (.tail _ (.tail _ (.head _)))) (.tail _ (.tail _ (.tail _ (.tail _ (.head _))))) (.tail _ (.head _)) (.tail _ (.tail _ (.head _))) (.head _)
    (sub _ (List.mem_append.mpr (.inl mc))) (hE.mono fun p hp => sub _ (List.mem_append.mpr (.inl hp))) ⟨h41, h42, ⟨(b2 mT).1, (b2 mA).1, (b2 mF).1, (b2 mN).1⟩, ⟨(b2 mT).2.1, (b2 mA).2.1, (b2 mF).2.1, (b2 mN).2.1⟩, ⟨(b2 mT).2.2.1, (b2 mA).2.2.1, (b2 mF).2.2.1, (b2 mN).2.2.1⟩, ⟨(b2 mT).2.2.2, (b2 mA).2.2.2, (b2 mF).2.2.2, (b2 mN).2.2.2⟩⟩ ?_ ?_ (hF1.mono sub) (hF2.mono2 ?_) ?_
  · refine bkoff_cons (Nat.ne_of_gt g7) (Nat.ne_of_gt g8) (Nat.ne_of_gt g9) (Nat.ne_of_gt g10) (bkoff_cons (fr mT).1 (fr mA).1 (fr mF).1 (fr mN).1 (bkoff_cons (fr mT).2 (fr mA).2 (fr mF).2 (fr mN).2 ?_))
    have hb := bkoff_tups ht2 N (.tail _ (.tail _ (.tail _ (.tail _ (.tail _ (.tail _ (.tail _ (.head _)))))))) (.tail _ (.tail _ (.tail _ (.tail _ (.tail _ (.tail _ (.tail _ (.tail _ (.head _))))))))) (.tail _ (.tail _ (.tail _ (.tail _ (.tail _ (.tail _ (.tail _ (.tail _ (.tail _ (.head _)))))))))) (.tail _ (.tail _ (.tail _ (.tail _ (.tail _ (.tail _ (.tail _ (.tail _ (.tail _ (.tail _ (.head _))))))))))) hA1 hF1
      (fun q hq => .tail _ (.tail _ (.tail _ (.tail _ (.tail _ (.tail _ (.tail _ (.tail _ (.tail _ (.tail _ (.tail _ (.tail _ (.tail _ (List.mem_append.mpr (.inr hq)))))))))))))))
    intro p hp
    rcases List.mem_cons.mp hp with rfl | hp
    · exact hB1 _ (.head _)
    rcases List.mem_cons.mp hp with rfl | hp
    · exact hB1 _ (.tail _ (.head _))
    rcases List.mem_append.mp hp with hp | hp
    · exact hB1 _ (.tail _ (.tail _ hp))
    · exact hb p hp
  · refine bkoff_cons (Nat.ne_of_gt g1) (Nat.ne_of_gt g2) (Nat.ne_of_gt g3) (Nat.ne_of_gt g4) ?_
    intro p hp
    rcases List.mem_cons.mp hp with rfl | hp
    · exact hB2 _ (.head _)
    rcases List.mem_cons.mp hp with rfl | hp
    · exact hB2 _ (.tail _ (.head _))
    refine hB2 _ (.tail _ (.tail _ (List.mem_append.mpr ?_)))
    rcases List.mem_cons.mp hp with rfl | hp
    · exact .inl (.tail _ (.tail _ (.tail _ (.tail _ (.head _)))))
    rcases List.mem_cons.mp hp with rfl | hp
    · exact .inl (.tail _ (.tail _ (.tail _ (.tail _ (.tail _ (.head _))))))
    rcases List.mem_append.mp hp with hp | hp
    · exact .inl (.tail _ (.tail _ (.tail _ (.tail _ (.tail _ (.tail _ hp))))))
    · exact .inr hp
  · intro p hp hc
    rcases List.mem_append.mp hp with hp | hp
    · rcases List.mem_cons.mp hp with rfl | hp
      · exact cls_no c1.1 hc
      rcases List.mem_cons.mp hp with rfl | hp
      · exact cls_no c1.2 hc
      rcases List.mem_cons.mp hp with rfl | hp
      · exact cls_no c2.1 hc
      rcases List.mem_cons.mp hp with rfl | hp
      · exact cls_no c2.2 hc
      rcases List.mem_cons.mp hp with rfl | hp
      · exact .tail _ (.tail _ (.tail _ (.head _)))
      rcases List.mem_cons.mp hp with rfl | hp
      · exact .tail _ (.tail _ (.tail _ (.tail _ (.head _))))
      exact sub p hp
    · exact .tail _ (.tail _ (.tail _ (.tail _ (.tail _ (List.mem_append.mpr (.inr hp))))))
  · intro p hp
    refine N p ?_
    revert hp; revert p; k_extra "my sub9"
end
theorem atom_seq1 {w : World} {oT oA : Obj} (h : AtomObj w oT oA atoms29) : AtomObj w oT oA (seq1 0) := by
  unfold seq1; rw [List.take_zero, List.append_nil]; exact h
theorem atom_seq2 {w : World} {oT oA : Obj} (h : AtomObj w oT oA atoms29) : AtomObj w oT oA (seq2 0) := by
  unfold seq2; rw [List.take_zero, List.append_nil]; exact h
section
variable {w : World} {A : Around} {E : Value → Shared → Prop} {s : Shared} {env : Env} {h₀ : Heap} {x : Str} {body : List Stmt} {Q : Flow → Shared → Prop} {m₀ : Str → Option Value} {oT1 oA1 oF1 oN1 oT2 oA2 oF2 oN2 : Obj} {base : List (Addr × Obj)} {ax T1 A1 F1 N1 T2 A2 F2 N2 BL x1 dx1 x2 dx2 : Addr} {t1 t2 t3 t4 : Tok} {its : List Value} {k e : Nat} {bs : Array Value} {Y : Prop}
def BDone1 (w : World) (h₀ : Heap) (env : Env) (x : Str) (Q : Flow → Shared → Prop) (T1 A1 F1 N1 T2 A2 F2 N2 : Addr) (oF1 oN1 oT2 oA2 oF2 oN2 : Obj) (base : List (Addr × Obj)) (m₀ : Str → Option Value) (s : Shared) : Prop :=
  ∀ oT oA h tk (u : Str → Option Value), AtomObj w oT oA (seq1 4) → Fr h₀ env.locals h (fun z => if z = x then u z else m₀ z) → News h₀ env.locals h ((T1, oT) :: (A1, oA) :: (F1, oF1) :: (N1, oN1) :: (T2, oT2) :: (A2, oA2) :: (F2, oF2) :: (N2, oN2) :: base) → Q .next { s with heap := h, toks := tk }
/-- for called in [..]: books[0].atom(called) -/
theorem text_iter1 (hT : Two T1 A1 F1 N1 T2 A2 F2 N2) (hb : BkOff T1 A1 F1 N1 base) (hh : A.handled = none) (F : Fr h₀ env.locals s.heap m₀) (N : News h₀ env.locals s.heap ((ax, listOf its.toArray k) :: (T1, oT1) :: (A1, oA1) :: (F1, oF1) :: (N1, oN1) :: (T2, oT2) :: (A2, oA2) :: (F2, oF2) :: (N2, oN2) :: base)) (hs : StrsAre its four1)
    (hA : AtomObj w oT1 oA1 atoms29) (md : (dx1, bookDict w t1 t2 t3 t4 T1 A1 F1 N1) ∈ base) (mx : (x1, instObj 157 dx1) ∈ base) (mb : (BL, listOf bs e) ∈ base) (hl : @LT.lt Nat _ T1 ax ∧ @LT.lt Nat _ A1 ax ∧ @LT.lt Nat _ F1 ax ∧ @LT.lt Nat _ N1 ax ∧ Y)
    (turn : TTurn w A E h₀ env x body Q seq1 T1 A1 F1 N1 x1 dx1 BL t1 t2 t3 t4 bs e m₀ s)
    (done : BDone1 w h₀ env x Q T1 A1 F1 N1 T2 A2 F2 N2 oF1 oN1 oT2 oA2 oF2 oN2 base m₀ s) :
    wpAny (model thePr w) A (pyIter (.ref ax)) (fun it s₂ => LoopAtV thePr w A h₀ env x body Q E it s₂) E s := by
  have up : ∀ {p : Addr × Obj}, p ∈ base → p ∈ (ax, listOf its.toArray k) :: (F1, oF1) :: (N1, oN1) :: (T2, oT2) :: (A2, oA2) :: (F2, oF2) :: (N2, oN2) :: base := fun hp => .tail _ (.tail _ (.tail _ (.tail _ (.tail _ (.tail _ (.tail _ hp))))))
  refine text_iter seq1 hh F (l2 := (ax, listOf its.toArray k) :: (F1, oF1) :: (N1, oN1) :: (T2, oT2) :: (A2, oA2) :: (F2, oF2) :: (N2, oN2) :: base) (fun p hp => N p ?_) (atom_seq1 hA) (.head _) hs (up mx) (up md) (up mb) (off_cons (Nat.ne_of_gt hl.1) (two_T1 hT hb)) (off_cons (Nat.ne_of_gt hl.2.1) (two_A1 hT hb)) hT.1.1 (fun i y => seq1_at) (fun i _ => seq1_len i) turn ?_
  · revert hp; revert p; k_extra "my sub9"
  · intro oT oA h tk u hA' F' N'
    refine done oT oA h tk u hA' F' (fun p hp => N' p ?_)
    revert hp; revert p; k_extra "my sub9"
def BDone2 (w : World) (h₀ : Heap) (env : Env) (x : Str) (Q : Flow → Shared → Prop) (T1 A1 F1 N1 T2 A2 F2 N2 : Addr) (oT1 oA1 oF1 oN1 oF2 oN2 : Obj) (base : List (Addr × Obj)) (m₀ : Str → Option Value) (s : Shared) : Prop :=
  ∀ oT oA h tk (u : Str → Option Value), AtomObj w oT oA (seq2 4) → Fr h₀ env.locals h (fun z => if z = x then u z else m₀ z) → News h₀ env.locals h ((T1, oT1) :: (A1, oA1) :: (F1, oF1) :: (N1, oN1) :: (T2, oT) :: (A2, oA) :: (F2, oF2) :: (N2, oN2) :: base) → Q .next { s with heap := h, toks := tk }
/-- for called in [..]: books[1].atom(called) -/
theorem text_iter2 (hT : Two T1 A1 F1 N1 T2 A2 F2 N2) (hb : BkOff T2 A2 F2 N2 base) (hh : A.handled = none) (F : Fr h₀ env.locals s.heap m₀) (N : News h₀ env.locals s.heap ((ax, listOf its.toArray k) :: (T1, oT1) :: (A1, oA1) :: (F1, oF1) :: (N1, oN1) :: (T2, oT2) :: (A2, oA2) :: (F2, oF2) :: (N2, oN2) :: base)) (hs : StrsAre its four2)
    (hA : AtomObj w oT2 oA2 atoms29) (md : (dx2, bookDict w t1 t2 t3 t4 T2 A2 F2 N2) ∈ base) (mx : (x2, instObj 157 dx2) ∈ base) (mb : (BL, listOf bs e) ∈ base) (hl : @LT.lt Nat _ T1 ax ∧ @LT.lt Nat _ A1 ax ∧ @LT.lt Nat _ F1 ax ∧ @LT.lt Nat _ N1 ax ∧ @LT.lt Nat _ T2 ax ∧ @LT.lt Nat _ A2 ax ∧ Y)
    (turn : TTurn w A E h₀ env x body Q seq2 T2 A2 F2 N2 x2 dx2 BL t1 t2 t3 t4 bs e m₀ s)
    (done : BDone2 w h₀ env x Q T1 A1 F1 N1 T2 A2 F2 N2 oT1 oA1 oF1 oN1 oF2 oN2 base m₀ s) :
    wpAny (model thePr w) A (pyIter (.ref ax)) (fun it s₂ => LoopAtV thePr w A h₀ env x body Q E it s₂) E s := by
  have up : ∀ {p : Addr × Obj}, p ∈ base → p ∈ (ax, listOf its.toArray k) :: (T1, oT1) :: (A1, oA1) :: (F1, oF1) :: (N1, oN1) :: (F2, oF2) :: (N2, oN2) :: base := fun hp => .tail _ (.tail _ (.tail _ (.tail _ (.tail _ (.tail _ (.tail _ hp))))))
  refine text_iter seq2 hh F (l2 := (ax, listOf its.toArray k) :: (T1, oT1) :: (A1, oA1) :: (F1, oF1) :: (N1, oN1) :: (F2, oF2) :: (N2, oN2) :: base) (fun p hp => N p ?_) (atom_seq2 hA) (.head _) hs (up mx) (up md) (up mb) (off_cons (Nat.ne_of_gt hl.2.2.2.2.1) (two_T2 hT hb)) (off_cons (Nat.ne_of_gt hl.2.2.2.2.2.1) (two_A2 hT hb)) hT.2.1.1 (fun i y => seq2_at) (fun i _ => seq2_len i) turn ?_
  · revert hp; revert p; k_extra "my sub9"
  · intro oT oA h tk u hA' F' N'
    refine done oT oA h tk u hA' F' (fun p hp => N' p ?_)
    revert hp; revert p; k_extra "my sub9"
end
end
end
section
section
def Forgot3 : Prop := (3 : Nat) = 3
def two {α : Type} (a b : α) (q : Nat) : α := if q = 0 then a else b
def three {α : Type} (a b c : α) (i : Nat) : α := if i = 0 then a else if i = 1 then b else c
theorem lt_two {q : Nat} (h : q < 2) : q = 0 ∨ q = 1 := by omega
theorem lt_three {q : Nat} (h : q < 3) : q = 0 ∨ q = 1 ∨ q = 2 := by omega
section
variable {w : World} {A : Around} {E : Value → Shared → Prop} {h₀ : Heap} {L : Addr} {m : Str → Option Value} {env : Env} {elt : PySem.Expr} {xb y : Str} {scope : Scope} {cl : List (Str × Addr)}
/-- the end of a row -/
def InEnd (w : World) (h₀ : Heap) (L : Addr) (m : Str → Option Value) (s : Shared) (T A F N : Addr) (ts : List Str) (l4 base : List (Addr × Obj)) (ps : List Plan) (v : Value) (s₂ : Shared) : Prop :=
  ∃ D h tk ys gs tl oT oA oF oN, v = .ref D ∧ s₂ = { s with heap := h, toks := tk } ∧ Fr h₀ L h m ∧ News h₀ L h ((D, listOf (List.toArray ys) ys.length) :: (T, oT) :: (A, oA) :: (F, oF) :: (N, oN) :: (l4 ++ tl)) ∧ (∀ p ∈ (T, oT) :: (A, oA) :: (F, oF) :: (N, oN) :: (l4 ++ tl), p.1 ≠ D) ∧ TermsIn ts gs (base ++ tl) ys ps ∧ AtomObj w oT oA ts ∧ FunObj w (base ++ tl) oF oN gs ∧ Tups tl ∧ Fresh l4 tl
theorem InEnd.intro {s : Shared} {T A F N : Addr} {ts : List Str} {l4 base : List (Addr × Obj)} {ps : List Plan} {D : Addr} {h : Heap} {tk : Nat} {ys : List Value} {gs : List (Int × Int)} {tl : List (Addr × Obj)} {oT oA oF oN : Obj} (f : Fr h₀ L h m) (n : News h₀ L h ((D, listOf (List.toArray ys) ys.length) :: (T, oT) :: (A, oA) :: (F, oF) :: (N, oN) :: (l4 ++ tl))) (o : ∀ p ∈ (T, oT) :: (A, oA) :: (F, oF) :: (N, oN) :: (l4 ++ tl), p.1 ≠ D)
    (h1 : TermsIn ts gs (base ++ tl) ys ps) (h2 : AtomObj w oT oA ts) (h3 : FunObj w (base ++ tl) oF oN gs) (h5 : Tups tl) (h6 : Fresh l4 tl) : InEnd w h₀ L m s T A F N ts l4 base ps (.ref D) { s with heap := h, toks := tk } :=
  ⟨D, h, tk, ys, gs, tl, oT, oA, oF, oN, rfl, rfl, f, n, o, h1, h2, h3, h5, h6⟩
/-- one row: all plans, built over one book -/
def InTurn (w : World) (A : Around) (h₀ : Heap) (L : Addr) (m : Str → Option Value) (env : Env) (elt : PySem.Expr) (xb : Str) (scope : Scope) (cl : List (Str × Addr)) (s : Shared) (cA PL KL a1 a2 a3 : Addr) (oc : Obj) (p1 p2 p3 : Plan) : Prop :=
  ∀ (x dx T AN F N K C : Addr) (t1 t2 t3 t4 : Tok) (ts : List Str) (oT oA oF oN oK : Obj) (l4 base : List (Addr × Obj)) (h : Heap) (tk : Nat) (E' : Value → Shared → Prop), (x, instObj 157 dx) ∈ l4 → (dx, bookDict w t1 t2 t3 t4 T AN F N) ∈ l4 → (K, oK) ∈ l4 → oK.data = .cell (some (.ref x)) → (cA, oc) ∈ l4 → Early base PL KL a1 a2 a3 p1 p2 p3 → Sub base l4 → AtomObj w oT oA ts → Known ts → FunObj w base oF oN funsNo →
    (AN == sysModules) = false → (N == sysModules) = false → Four T AN F N → BkOff T AN F N l4 → Fr h₀ L h m → News h₀ L h ((T, oT) :: (AN, oA) :: (F, oF) :: (N, oN) :: l4) →
    wpAny (model thePr w) A (eval elt (compEnvC scope ((xb, K) :: cl) C env)) (InEnd w h₀ L m { s with heap := h, toks := tk } T AN F N ts l4 base [p1, p2, p3]) E' { s with heap := h, toks := tk }
def RowsDone (w : World) (h₀ : Heap) (L : Addr) (m : Str → Option Value) (y : Str) (s : Shared) (Q : Flow → Shared → Prop) (BL KL : Addr) : Prop :=
  ∀ (RL : Addr) (h : Heap) (tk : Nat) (base : List (Addr × Obj)) (x d ka : Nat → Addr) (a : Nat → Nat → Addr) (ts : Nat → List Str) (gs : Nat → List (Int × Int)) (ps : Nat → Plan), Forgot3 → Late w base BL RL KL x d ka a ts gs ps → Fr h₀ L h (fun z => if z = y then some (.ref RL) else m z) → News h₀ L h base → Q .next { s with heap := h, toks := tk }
theorem row_srcE {Q : Value → Shared → Prop} {PL KL a1 a2 a3 Tt AN Fs FN : Addr} {p1 p2 p3 : Plan} {oT oA oF oN : Obj} {ts : List Str} {l4 base : List (Addr × Obj)} {s₁ : Shared} {xn : Str} (hh : A.handled = none) (F : Fr h₀ L s₁.heap m) (N : News h₀ L s₁.heap ((Tt, oT) :: (AN, oA) :: (Fs, oF) :: (FN, oN) :: l4))
    (hE : Early base PL KL a1 a2 a3 p1 p2 p3) (sb : Sub base l4) (hA : AtomObj w oT oA ts) (hF : FunObj w base oF oN funsNo) (hb : BkOff Tt AN Fs FN l4)
    (turn : RowTurn w A h₀ L m env elt xn scope cl s₁ Tt AN Fs FN ts l4 base base) (done : RowDone w h₀ L m s₁ Q Tt AN Fs FN ts l4 base [p1, p2, p3]) : RowSrc w A h₀ L m env elt xn scope cl Q (.ref PL) s₁ := by
  obtain ⟨r1, r2, r3, e1, e2, h1, h2, _⟩ := hE
  exact row_src hh F N hF hA .head .head .head .head (sb _ h1) hb h2 (show funsNo.length + 7 * 3 ≤ 100 by decide +kernel) turn done
theorem terms_three {ts : List Str} {gs : List (Int × Int)} {l : List (Addr × Obj)} {ys : List Value} {p1 p2 p3 : Plan} (h : TermsIn ts gs l ys [p1, p2, p3]) : ∃ b1 b2 b3, ys = [.ref b1, .ref b2, .ref b3] ∧ TermIn ts gs l (.ref b1) p1 ∧ TermIn ts gs l (.ref b2) p2 ∧ TermIn ts gs l (.ref b3) p3 := by
  cases h with
  | cons h1 r => cases r with
    | cons h2 r => cases r with
      | cons h3 r =>
        cases r
        obtain ⟨b1, rfl⟩ := h1.isRef
        obtain ⟨b2, rfl⟩ := h2.isRef
        obtain ⟨b3, rfl⟩ := h3.isRef
        exact ⟨b1, b2, b3, rfl, h1, h2, h3⟩
theorem late_of {base base1 base2 : List (Addr × Obj)} {BL RL KL PL a1 a2 a3 x1 x2 dx1 dx2 D1 D2 T1 A1 F1 N1 T2 A2 F2 N2 : Addr} {p1 p2 p3 : Plan} {e e1 e2 e3 : Nat} {t1 t2 t3 t4 u1 u2 u3 u4 : Tok} {oT1 oA1 oF1 oN1 oT2 oA2 oF2 oN2 : Obj} {ts1 ts2 : List Str} {gs1 gs2 : List (Int × Int)} {ys1 ys2 : List Value} {base0 : List (Addr × Obj)}
    (mB : (BL, listOf #[Value.ref x1, .ref x2] e) ∈ base) (mR : (RL, listOf [Value.ref D1, .ref D2].toArray e3) ∈ base) (hE : Early base0 PL KL a1 a2 a3 p1 p2 p3) (s0 : ∀ p ∈ base0, p ∈ base) (s1 : ∀ p ∈ base1, p ∈ base) (s2 : ∀ p ∈ base2, p ∈ base)
    (mx1 : (x1, instObj 157 dx1) ∈ base) (md1 : (dx1, bookDict w t1 t2 t3 t4 T1 A1 F1 N1) ∈ base) (mT1 : (T1, oT1) ∈ base) (mF1 : (F1, oF1) ∈ base) (hA1 : AtomObj w oT1 oA1 ts1) (hF1 : FunObj w base1 oF1 oN1 gs1) (mD1 : (D1, listOf ys1.toArray e1) ∈ base) (hT1 : TermsIn ts1 gs1 base1 ys1 [p1, p2, p3])
    (mx2 : (x2, instObj 157 dx2) ∈ base) (md2 : (dx2, bookDict w u1 u2 u3 u4 T2 A2 F2 N2) ∈ base) (mT2 : (T2, oT2) ∈ base) (mF2 : (F2, oF2) ∈ base) (hA2 : AtomObj w oT2 oA2 ts2) (hF2 : FunObj w base2 oF2 oN2 gs2) (mD2 : (D2, listOf ys2.toArray e2) ∈ base) (hT2 : TermsIn ts2 gs2 base2 ys2 [p1, p2, p3]) :
    ∃ x d ka a ts gs ps, Late w base BL RL KL x d ka a ts gs ps := by
  obtain ⟨b1, b2, b3, rfl, k1, k2, k3⟩ := terms_three hT1
  obtain ⟨c1, c2, c3, rfl, l1, l2, l3⟩ := terms_three hT2
  obtain ⟨r1, r2, r3, f1, f2, _, _, mK, y1, y2, y3, g1, g2, g3⟩ := hE
  have B1 : BookR w base x1 ts1 gs1 := ⟨dx1, T1, A1, F1, N1, t1, t2, t3, t4, oT1, oA1, oF1, oN1, mx1, md1, mT1, mF1, hA1, hF1.mono s1⟩
  have B2 : BookR w base x2 ts2 gs2 := ⟨dx2, T2, A2, F2, N2, u1, u2, u3, u4, oT2, oA2, oF2, oN2, mx2, md2, mT2, mF2, hA2, hF2.mono s2⟩
  refine ⟨two x1 x2, two D1 D2, three a1 a2 a3, two (three b1 b2 b3) (three c1 c2 c3), two ts1 ts2, two gs1 gs2, three p1 p2 p3, ⟨[.ref x1, .ref x2], e, mB, fun q hq => ?_⟩, ⟨[.ref D1, .ref D2], e3, mR, fun q hq => ?_⟩, ⟨[.ref a1, .ref a2, .ref a3], f2, s0 _ mK, fun i hi => ?_⟩, fun q hq => ?_⟩
  · rcases lt_two hq with rfl | rfl
    · exact ⟨rfl, B1⟩
    · exact ⟨rfl, B2⟩
  · rcases lt_two hq with rfl | rfl <;> rfl
  · rcases lt_three hi with rfl | rfl | rfl
    · exact ⟨rfl, y1.mono s0, g1⟩
    · exact ⟨rfl, y2.mono s0, g2⟩
    · exact ⟨rfl, y3.mono s0, g3⟩
  · rcases lt_two hq with rfl | rfl
    · refine ⟨_, _, mD1, fun i hi => ?_⟩
      rcases lt_three hi with rfl | rfl | rfl
      · exact ⟨rfl, k1.mono s1⟩
      · exact ⟨rfl, k2.mono s1⟩
      · exact ⟨rfl, k3.mono s1⟩
    · refine ⟨_, _, mD2, fun i hi => ?_⟩
      rcases lt_three hi with rfl | rfl | rfl
      · exact ⟨rfl, l1.mono s2⟩
      · exact ⟨rfl, l2.mono s2⟩
      · exact ⟨rfl, l3.mono s2⟩
theorem bkoff_four {I C K D T A F N : Addr} {oI oC oK oD oT oA oF oN : Obj} {news l : List (Addr × Obj)} (off : Off4 I C K D news) (mT : (T, oT) ∈ news) (mA : (A, oA) ∈ news) (mF : (F, oF) ∈ news) (mN : (N, oN) ∈ news) (r : BkOff T A F N l) : BkOff T A F N ((I, oI) :: (C, oC) :: (K, oK) :: (D, oD) :: l) := by
  have a := off _ mT
  have b := off _ mA
  have c := off _ mF
  have d := off _ mN
  exact bkoff_cons a.1.symm b.1.symm c.1.symm d.1.symm (bkoff_cons a.2.1.symm b.2.1.symm c.2.1.symm d.2.1.symm (bkoff_cons a.2.2.1.symm b.2.2.1.symm c.2.2.1.symm d.2.2.1.symm (bkoff_cons a.2.2.2.symm b.2.2.2.symm c.2.2.2.symm d.2.2.2.symm r)))
theorem off4_cons {I C K D a : Addr} {o : Obj} {l : List (Addr × Obj)} (h : @Ne Nat a I ∧ @Ne Nat a C ∧ @Ne Nat a K ∧ @Ne Nat a D) (r : Off4 I C K D l) : Off4 I C K D ((a, o) :: l) := fun p hp => by
  rcases List.mem_cons.mp hp with rfl | hp
  · exact h
  · exact r p hp
theorem off4_app {I C K D : Addr} {l l' : List (Addr × Obj)} (h : Off4 I C K D l) (r : Off4 I C K D l') : Off4 I C K D (l ++ l') := fun p hp => (List.mem_append.mp hp).elim (h p) (r p)
theorem rows_src {Q : Flow → Shared → Prop} {s₁ : Shared} {cA PL KL BL a1 a2 a3 : Addr} {oc : Obj} {p1 p2 p3 : Plan} {e : Nat} {base : List (Addr × Obj)}
    {x1 dx1 T1 A1 F1 N1 x2 dx2 T2 A2 F2 N2 : Addr} {t1 t2 t3 t4 u1 u2 u3 u4 : Tok} {oT1 oA1 oF1 oN1 oT2 oA2 oF2 oN2 : Obj}
    (hT : Two T1 A1 F1 N1 T2 A2 F2 N2) (hh : A.handled = none) (F : Fr h₀ L s₁.heap m) (N : News h₀ L s₁.heap ((T1, oT1) :: (A1, oA1) :: (F1, oF1) :: (N1, oN1) :: (T2, oT2) :: (A2, oA2) :: (F2, oF2) :: (N2, oN2) :: base))
    (hb1 : BkOff T1 A1 F1 N1 base) (hb2 : BkOff T2 A2 F2 N2 base) (md1 : (dx1, bookDict w t1 t2 t3 t4 T1 A1 F1 N1) ∈ base) (mx1 : (x1, instObj 157 dx1) ∈ base) (md2 : (dx2, bookDict w u1 u2 u3 u4 T2 A2 F2 N2) ∈ base) (mx2 : (x2, instObj 157 dx2) ∈ base) (mB : (BL, listOf #[Value.ref x1, .ref x2] e) ∈ base)
    (mc : (cA, oc) ∈ base) (hE : Early base PL KL a1 a2 a3 p1 p2 p3) (hA1 : AtomObj w oT1 oA1 (seq1 4)) (hA2 : AtomObj w oT2 oA2 (seq2 4)) (hF1 : FunObj w base oF1 oN1 funsNo) (hF2 : FunObj w base oF2 oN2 funsNo) (lA1 : (A1 == sysModules) = false) (lN1 : (N1 == sysModules) = false) (lA2 : (A2 == sysModules) = false) (lN2 : (N2 == sysModules) = false)
    (turn : InTurn w A h₀ L m env elt xb scope cl s₁ cA PL KL a1 a2 a3 oc p1 p2 p3) (done : RowsDone w h₀ L m y s₁ Q BL KL) : SrcK thePr w A h₀ L m env elt xb y scope cl Q (.ref BL) s₁ := by
  refine src_cell hh F N (k := e) (.tail _ (.tail _ (.tail _ (.tail _ (.tail _ (.tail _ (.tail _ (.tail _ mB)))))))) (show 2 ≤ sizeLine by decide) (fun g => ?_)
  intro v I oI C oC K oK D h tk E' hv hK F' N' off
  obtain rfl : v = .ref x1 := (Option.some.inj hv).symm
  have up : ∀ {p : Addr × Obj}, p ∈ base → p ∈ (I, oI) :: (C, oC) :: (K, oK) :: (D, LCg.lst []) :: (T2, oT2) :: (A2, oA2) :: (F2, oF2) :: (N2, oN2) :: base := fun hp => .tail _ (.tail _ (.tail _ (.tail _ (.tail _ (.tail _ (.tail _ (.tail _ hp)))))))
  have ot1 := off (T1, oT1) (.head _)
  have oa1 := off (A1, oA1) (.tail _ (.head _))
  have of1 := off (F1, oF1) (.tail _ (.tail _ (.head _)))
  have on1 := off (N1, oN1) (.tail _ (.tail _ (.tail _ (.head _))))
  have ot2 := off (T2, oT2) (.tail _ (.tail _ (.tail _ (.tail _ (.head _)))))
  have oa2 := off (A2, oA2) (.tail _ (.tail _ (.tail _ (.tail _ (.tail _ (.head _))))))
  have of2 := off (F2, oF2) (.tail _ (.tail _ (.tail _ (.tail _ (.tail _ (.tail _ (.head _)))))))
  have on2 := off (N2, oN2) (.tail _ (.tail _ (.tail _ (.tail _ (.tail _ (.tail _ (.tail _ (.head _))))))))
  have ob : Off4 I C K D base := fun p hp => off p (.tail _ (.tail _ (.tail _ (.tail _ (.tail _ (.tail _ (.tail _ (.tail _ hp))))))))
  refine wpAny_mono (turn x1 dx1 T1 A1 F1 N1 K C t1 t2 t3 t4 (seq1 4) oT1 oA1 oF1 oN1 oK ((I, oI) :: (C, oC) :: (K, oK) :: (D, LCg.lst []) :: (T2, oT2) :: (A2, oA2) :: (F2, oF2) :: (N2, oN2) :: base) base h tk E' (up mx1) (up md1) (.tail _ (.tail _ (.head _))) hK (up mc) hE (fun p => up) hA1 known1 hF1 lA1 lN1 hT.1
    (bkoff_four off (.head _) (.tail _ (.head _)) (.tail _ (.tail _ (.head _))) (.tail _ (.tail _ (.tail _ (.head _)))) (two_B1 hT hb1)) F' (fun p hp => N' p ?_)) (fun v s₂ hq => ?_) fun _ _ e => e
  · revert hp; revert p; k_extra "my sub9"
  obtain ⟨D1, h1, tk1, ys1, gs1, tl1, qT1, qA1, qF1, qN1, rfl, rfl, F1', M1, off1, hT1, gA1, gF1, ht1, hf1⟩ := hq
  have l4m : ∀ {p : Addr × Obj}, p ∈ (I, oI) :: (C, oC) :: (K, oK) :: (D, LCg.lst []) :: (T2, oT2) :: (A2, oA2) :: (F2, oF2) :: (N2, oN2) :: base → p.1 ≠ D1 := fun hp => off1 _ (.tail _ (.tail _ (.tail _ (.tail _ (List.mem_append.mpr (.inl hp))))))
  have b1 : BkOff T1 A1 F1 N1 tl1 := bkoff_tups ht1 M1 (.tail _ (.head _)) (.tail _ (.tail _ (.head _))) (.tail _ (.tail _ (.tail _ (.head _)))) (.tail _ (.tail _ (.tail _ (.tail _ (.head _))))) gA1 gF1 (fun q hq => .tail _ (.tail _ (.tail _ (.tail _ (.tail _ (List.mem_append.mpr (.inr hq)))))))
  have b2 : BkOff T2 A2 F2 N2 tl1 := bkoff_fresh hf1 (.tail _ (.tail _ (.tail _ (.tail _ (.head _))))) (.tail _ (.tail _ (.tail _ (.tail _ (.tail _ (.head _)))))) (.tail _ (.tail _ (.tail _ (.tail _ (.tail _ (.tail _ (.head _))))))) (.tail _ (.tail _ (.tail _ (.tail _ (.tail _ (.tail _ (.tail _ (.head _))))))))
  have hb2' : BkOff T2 A2 F2 N2 ((D1, listOf ys1.toArray ys1.length) :: (base ++ tl1)) := bkoff_cons (Ne.symm (l4m (.tail _ (.tail _ (.tail _ (.tail _ (.head _))))))) (Ne.symm (l4m (.tail _ (.tail _ (.tail _ (.tail _ (.tail _ (.head _)))))))) (Ne.symm (l4m (.tail _ (.tail _ (.tail _ (.tail _ (.tail _ (.tail _ (.head _))))))))) (Ne.symm (l4m (.tail _ (.tail _ (.tail _ (.tail _ (.tail _ (.tail _ (.tail _ (.head _)))))))))) (bkoff_app hb2 b2)
  have od1 : @Ne Nat D1 I ∧ @Ne Nat D1 C ∧ @Ne Nat D1 K ∧ @Ne Nat D1 D := ⟨Ne.symm (l4m (.head _)), Ne.symm (l4m (.tail _ (.head _))), Ne.symm (l4m (.tail _ (.tail _ (.head _)))), Ne.symm (l4m (.tail _ (.tail _ (.tail _ (.head _)))))⟩
  have otl : Off4 I C K D tl1 := fun p hp => ⟨Nat.ne_of_gt (hf1 p hp _ (.head _)), Nat.ne_of_gt (hf1 p hp _ (.tail _ (.head _))), Nat.ne_of_gt (hf1 p hp _ (.tail _ (.tail _ (.head _)))), Nat.ne_of_gt (hf1 p hp _ (.tail _ (.tail _ (.tail _ (.head _)))))⟩
  have sub2 : ∀ {p : Addr × Obj}, p ∈ base → p ∈ (D1, listOf ys1.toArray ys1.length) :: (base ++ tl1) := fun hp => .tail _ (List.mem_append.mpr (.inl hp))
  refine ⟨h1, tk1, (T1, qT1) :: (A1, qA1) :: (F1, qF1) :: (N1, qN1) :: (T2, oT2) :: (A2, oA2) :: (F2, oF2) :: (N2, oN2) :: (D1, listOf ys1.toArray ys1.length) :: (base ++ tl1), rfl, F1', fun p hp => M1 p ?_, off4_cons ot1 (off4_cons oa1 (off4_cons of1 (off4_cons on1 (off4_cons ot2 (off4_cons oa2 (off4_cons of2 (off4_cons on2 (off4_cons od1 (off4_app ob otl))))))))), .inr ⟨_, .tail _ (.tail _ (.tail _ (.tail _ (.tail _ (.tail _ (.tail _ (.tail _ (sub2 mB)))))))), rfl, _, rfl⟩, ?_⟩
  · revert hp; revert p; k_extra "my sub9"
  clear N' off F' hK hv E' tk h
  intro v I oI C oC K oK D h tk E' hv hK F' N' off
  obtain rfl : v = .ref x2 := (Option.some.inj hv).symm
  have up2 : ∀ {p : Addr × Obj}, p ∈ (D1, listOf ys1.toArray ys1.length) :: (base ++ tl1) → p ∈ (I, oI) :: (C, oC) :: (K, oK) :: (D, LCg.lst ([] ++ [Value.ref D1])) :: (T1, qT1) :: (A1, qA1) :: (F1, qF1) :: (N1, qN1) :: (D1, listOf ys1.toArray ys1.length) :: (base ++ tl1) := fun hp => .tail _ (.tail _ (.tail _ (.tail _ (.tail _ (.tail _ (.tail _ (.tail _ hp)))))))
  refine wpAny_mono (turn x2 dx2 T2 A2 F2 N2 K C u1 u2 u3 u4 (seq2 4) oT2 oA2 oF2 oN2 oK ((I, oI) :: (C, oC) :: (K, oK) :: (D, LCg.lst ([] ++ [Value.ref D1])) :: (T1, qT1) :: (A1, qA1) :: (F1, qF1) :: (N1, qN1) :: (D1, listOf ys1.toArray ys1.length) :: (base ++ tl1)) ((D1, listOf ys1.toArray ys1.length) :: (base ++ tl1)) h tk E' (up2 (sub2 mx2)) (up2 (sub2 md2)) (.tail _ (.tail _ (.head _))) hK (up2 (sub2 mc)) (hE.mono fun p => sub2) (fun p => up2) hA2 known2 (hF2.mono fun p => sub2) lA2 lN2 hT.2.1
    (bkoff_four off (.tail _ (.tail _ (.tail _ (.tail _ (.head _))))) (.tail _ (.tail _ (.tail _ (.tail _ (.tail _ (.head _)))))) (.tail _ (.tail _ (.tail _ (.tail _ (.tail _ (.tail _ (.head _))))))) (.tail _ (.tail _ (.tail _ (.tail _ (.tail _ (.tail _ (.tail _ (.head _)))))))) (two_B2 hT hb2')) F' (fun p hp => N' p ?_)) (fun v s₂ hq => ?_) fun _ _ e => e
  · revert hp; revert p; k_extra "my sub9"
  obtain ⟨D2, h2, tk2, ys2, gs2, tl2, qT2, qA2, qF2, qN2, rfl, rfl, F2', M2, off2, hT2, gA2, gF2, ht2, hf2⟩ := hq
  have l4m2 : ∀ {p : Addr × Obj}, p ∈ (I, oI) :: (C, oC) :: (K, oK) :: (D, LCg.lst ([] ++ [Value.ref D1])) :: (T1, qT1) :: (A1, qA1) :: (F1, qF1) :: (N1, qN1) :: (D1, listOf ys1.toArray ys1.length) :: (base ++ tl1) → p.1 ≠ D2 := fun hp => off2 _ (.tail _ (.tail _ (.tail _ (.tail _ (List.mem_append.mpr (.inl hp))))))
  have rest : Off4 I C K D ((T1, qT1) :: (A1, qA1) :: (F1, qF1) :: (N1, qN1) :: (D1, listOf ys1.toArray ys1.length) :: (base ++ tl1)) := fun p hp => off p (by
    revert hp; revert p; k_extra "my sub9")
  have od2 : @Ne Nat D2 I ∧ @Ne Nat D2 C ∧ @Ne Nat D2 K ∧ @Ne Nat D2 D := ⟨Ne.symm (l4m2 (.head _)), Ne.symm (l4m2 (.tail _ (.head _))), Ne.symm (l4m2 (.tail _ (.tail _ (.head _)))), Ne.symm (l4m2 (.tail _ (.tail _ (.tail _ (.head _)))))⟩
  have otl2 : Off4 I C K D tl2 := fun p hp => ⟨Nat.ne_of_gt (hf2 p hp _ (.head _)), Nat.ne_of_gt (hf2 p hp _ (.tail _ (.head _))), Nat.ne_of_gt (hf2 p hp _ (.tail _ (.tail _ (.head _)))), Nat.ne_of_gt (hf2 p hp _ (.tail _ (.tail _ (.tail _ (.head _)))))⟩
  have os : Off4 I C K D ((T2, qT2) :: (A2, qA2) :: (F2, qF2) :: (N2, qN2) :: []) := off4_cons (off (T2, oT2) (.tail _ (.tail _ (.tail _ (.tail _ (.head _)))))) (off4_cons (off (A2, oA2) (.tail _ (.tail _ (.tail _ (.tail _ (.tail _ (.head _))))))) (off4_cons (off (F2, oF2) (.tail _ (.tail _ (.tail _ (.tail _ (.tail _ (.tail _ (.head _)))))))) (off4_cons (off (N2, oN2) (.tail _ (.tail _ (.tail _ (.tail _ (.tail _ (.tail _ (.tail _ (.head _)))))))))  (fun _ h => nomatch h))))
  refine ⟨h2, tk2, (D2, listOf ys2.toArray ys2.length) :: ((T2, qT2) :: (A2, qA2) :: (F2, qF2) :: (N2, qN2) :: []) ++ (((T1, qT1) :: (A1, qA1) :: (F1, qF1) :: (N1, qN1) :: (D1, listOf ys1.toArray ys1.length) :: (base ++ tl1)) ++ tl2), rfl, F2', fun p hp => M2 p ?_, off4_cons od2 (off4_app os (off4_app rest otl2)), .inr ⟨listOf #[Value.ref x1, .ref x2] e, ?_, rfl, _, rfl⟩, ?_⟩
  · revert hp; revert p; k_extra "my sub9"
  · exact .tail _ (List.mem_append.mpr (.inr (List.mem_append.mpr (.inl (.tail _ (.tail _ (.tail _ (.tail _ (sub2 mB)))))))))
  intro RL h3 tk3 F3 N3 off3
  have toL : ∀ {p : Addr × Obj}, p ∈ (D1, listOf ys1.toArray ys1.length) :: (base ++ tl1) → p ∈ (RL, LCg.lst ([] ++ [Value.ref D1] ++ [Value.ref D2])) :: ((D2, listOf ys2.toArray ys2.length) :: ((T2, qT2) :: (A2, qA2) :: (F2, qF2) :: (N2, qN2) :: []) ++ (((T1, qT1) :: (A1, qA1) :: (F1, qF1) :: (N1, qN1) :: (D1, listOf ys1.toArray ys1.length) :: (base ++ tl1)) ++ tl2)) := fun hp => .tail _ (.tail _ (List.mem_append.mpr (.inr (List.mem_append.mpr (.inl (.tail _ (.tail _ (.tail _ (.tail _ hp)))))))))
  have toT : ∀ {p : Addr × Obj}, p ∈ tl2 → p ∈ (RL, LCg.lst ([] ++ [Value.ref D1] ++ [Value.ref D2])) :: ((D2, listOf ys2.toArray ys2.length) :: ((T2, qT2) :: (A2, qA2) :: (F2, qF2) :: (N2, qN2) :: []) ++ (((T1, qT1) :: (A1, qA1) :: (F1, qF1) :: (N1, qN1) :: (D1, listOf ys1.toArray ys1.length) :: (base ++ tl1)) ++ tl2)) := fun hp => .tail _ (.tail _ (List.mem_append.mpr (.inr (List.mem_append.mpr (.inr hp)))))
  have to1 : ∀ {p : Addr × Obj}, p ∈ (T1, qT1) :: (A1, qA1) :: (F1, qF1) :: (N1, qN1) :: (D1, listOf ys1.toArray ys1.length) :: (base ++ tl1) → p ∈ (RL, LCg.lst ([] ++ [Value.ref D1] ++ [Value.ref D2])) :: ((D2, listOf ys2.toArray ys2.length) :: ((T2, qT2) :: (A2, qA2) :: (F2, qF2) :: (N2, qN2) :: []) ++ (((T1, qT1) :: (A1, qA1) :: (F1, qF1) :: (N1, qN1) :: (D1, listOf ys1.toArray ys1.length) :: (base ++ tl1)) ++ tl2)) := fun hp => .tail _ (.tail _ (List.mem_append.mpr (.inr (List.mem_append.mpr (.inl hp)))))
  obtain ⟨x, d, ka, a, ts, gs, ps, HL⟩ := late_of (w := w) (PL := PL) (toL (sub2 mB)) (RL := RL) (e3 := ([] ++ [Value.ref D1] ++ [Value.ref D2]).length) (.head _) hE (fun p hp => toL (sub2 hp)) (base1 := base ++ tl1) (fun p hp => toL (.tail _ hp)) (base2 := (D1, listOf ys1.toArray ys1.length) :: (base ++ tl1) ++ tl2) (fun p hp => (List.mem_append.mp hp).elim toL toT)
    (toL (sub2 mx1)) (toL (sub2 md1)) (to1 (.head _)) (to1 (.tail _ (.tail _ (.head _)))) gA1 gF1 (toL (.head _)) hT1 (toL (sub2 mx2)) (toL (sub2 md2)) (.tail _ (.tail _ (.head _))) (.tail _ (.tail _ (.tail _ (.tail _ (.head _))))) gA2 gF2 (.tail _ (.head _)) hT2
  exact done RL h3 tk3 _ x d ka a ts gs ps (Eq.refl 3) HL F3 N3
end
end
end
section
def PotAll (Nn : Addr) (o2 : Obj) : Prop := ∀ (c : Int) (t : Tok) (e1 : Nat), PotObj Nn (listOf #[.int c t, .ref Nn] e1) o2
theorem said35 : True := by
  k_with_none
  k_with "my ltc" => first | exact j0 (by assumption) | exact j1 (by assumption) | exact j2 (by assumption) | exact j3 (by assumption) | exact j4 (by assumption) | exact j5 (by assumption) | exact j6 (by assumption) | exact j7 (by assumption) | exact j8 (by assumption) | exact j9 (by assumption) | exact j10 (by assumption) | fail "9"
  k_with "my trc0" => first | assumption | k_extra "my ltc" | fail "9"
  k_with "my trc" => first | exact t0 (by k_extra "my trc0") | exact t1 (by k_extra "my trc0") | exact t2 (by k_extra "my trc0") | fail "9"
  k_with "my k_ne9" => (refine neN ?_; (try dsimp only); first | assumption | exact Ne.symm (by assumption) | (refine Nat.ne_of_lt ?_; k_extra "my ltc") | (refine Nat.ne_of_gt ?_; k_extra "my ltc") | k_extra "my trc" | (refine Ne.symm ?_; k_extra "my trc") | fail "9")
  k_with "my le9" => first | exact Nat.le_refl _ | exact Nat.le_of_ble_eq_true rfl | exact Nat.succ_le_succ (Nat.zero_le _) | assumption | exact Nat.succ_le_succ (Nat.le_max_left _ _) | exact Nat.succ_le_succ (Nat.le_max_right _ _) | exact Nat.succ_le_succ (Nat.succ_le_succ (Nat.zero_le _)) | exact Nat.succ_le_succ (Nat.succ_le_succ (Nat.le_max_left _ _)) | exact Nat.succ_le_succ (Nat.succ_le_succ (Nat.le_max_right _ _)) | exact Nat.succ_le_succ (Nat.succ_le_succ (Nat.succ_le_succ (Nat.le_max_left _ _))) | exact Nat.succ_le_succ (Nat.succ_le_succ (Nat.succ_le_succ (Nat.le_max_right _ _))) | fail "9"
  k_with "my ktr_room9" => first | exact room0 (by assumption) | exact room1 (by assumption) (by k_extra "my le9") | exact room2 (by assumption) (by k_extra "my le9") | fail "9"
  k_with "my ktr_units9" => first | exact units1 (by assumption) (by k_extra "my le9") | exact units2 (by assumption) (by k_extra "my le9") | fail "9"
  k_with "my pick9" => (repeat (first | exact Pick.head | apply Pick.tail))
  k_with "my sb9" => (intro p hp; simp only [List.mem_append, List.mem_cons, hp, true_or, or_true])
  k_with "my hk9" => first | exact rfl | assumption | fail "9"
  k_with "my hd9" => first | exact Nat.le_of_ble_eq_true rfl | ktr_room | ((try simp only [depth_deeper, depth_under_make]); (try dsimp only [ktrTop]); first | ktr_room | omega) | fail "9"
  k_with "my hu9" => first | exact Nat.le_of_ble_eq_true rfl | ktr_units | ((try simp only [units_deeper, units_under_make]); (try dsimp only [ktrTop]); first | ktr_units | omega) | fail "9"
  k_with "my norm9" => ((rename News _ _ _ _ => nN9); (try simp only [List.nil_append, List.cons_append, List.append_nil] at nN9))
  k_with "my norm8" => ((rename News _ _ _ _ => nN9); (try simp only [List.nil_append, List.cons_append, List.append_nil, List.append_assoc] at nN9))
  k_with "my end9" => ((try k_sweep); (try dsimp only); (try k_fold))
  trivial
theorem PotAll.at {Nn : Addr} {o2 : Obj} {c : Int} {t : Tok} {e1 : Nat} (h : PotAll Nn o2) : PotObj Nn (listOf #[.int c t, .ref Nn] e1) o2 := h c t e1
abbrev lawW : List Str := [Str.ofString "which", Str.ofString "one", Str.ofString "other"]
abbrev lawJ : List Str := Str.ofString "j" :: lawW
abbrev lawI : List Str := Str.ofString "i" :: lawJ
def PotEnd (h₀ : Heap) (L : Addr) (m : Str → Option Value) (news : List (Addr × Obj)) (s : Shared) (v : Value) (s' : Shared) : Prop :=
  ∃ Nn vs ns e h' tk', v = .ref Nn ∧ s' = { s with heap := h', toks := tk' } ∧ Fr h₀ L h' m ∧ News h₀ L h' ((Nn, listOf vs.toArray e) :: news) ∧ IntsAre vs ns ∧ 0 < ns.length ∧ ns.length ≤ 20 ∧ (∀ p ∈ news, @LT.lt Nat _ p.1 Nn)
theorem PotEnd.intro {h₀ : Heap} {L Nn : Addr} {m : Str → Option Value} {news all : List (Addr × Obj)} {s : Shared} {vs : List Value} {ns : List Int} {e : Nat} {h' : Heap} {tk' : Nat} (F : Fr h₀ L h' m) (N : News h₀ L h' all) (hm : (Nn, listOf vs.toArray e) ∈ all) (hs : ∀ p ∈ news, p ∈ all) (hi : IntsAre vs ns) (h0 : 0 < ns.length) (h1 : ns.length ≤ 20) (hl : ∀ p ∈ news, @LT.lt Nat _ p.1 Nn) : PotEnd h₀ L m news s (.ref Nn) { s with heap := h', toks := tk' } :=
  ⟨Nn, vs, ns, e, h', tk', rfl, rfl, F, fun p hp => N p ((List.mem_cons.mp hp).elim (fun e => e ▸ hm) (hs p)), hi, h0, h1, hl⟩
theorem pot_if {prog : Program} {w : World} {A : Around} {E : Value → Shared → Prop} {s : Shared} {env : Env} {test body orelse : PySem.Expr} {pos : Pos} {Q : Value → Shared → Prop} {h₀ : Heap} {L : Addr} {m : Str → Option Value} {news : List (Addr × Obj)} (_ : Fr h₀ L s.heap m) (_ : News h₀ L s.heap news)
    (h : wpAny (model prog w) A (isTrue test env (eval test env)) (fun c s₂ => if c then wpAny (model prog w) A (eval body env) (PotEnd h₀ L m news s) E s₂ else wpAny (model prog w) A (eval orelse env) (PotEnd h₀ L m news s) E s₂) E s)
    (k : ∀ Nn o2 h' tk', PotAll Nn o2 → AllLt Nn news → Fr h₀ L h' m → News h₀ L h' ((Nn, o2) :: news) → Q (.ref Nn) { s with heap := h', toks := tk' }) :
    wpAny (model prog w) A (eval (.IfExp test body orelse pos) env) Q E s := by
  rw [eval_IfExp]
  rw [← eval_IfExp (pos := pos)]
  refine wpAny_mono (IfExp_ h) (fun v s'' hv => ?_) fun _ _ e => e
  obtain ⟨Nn, vs, ns, e, h', tk', rfl, rfl, F, N, hi, h0, h1, hl⟩ := hv
  exact k Nn _ h' tk' (fun c t e1 => ⟨c, t, vs, ns, e1, e, rfl, rfl, hi, h0, h1⟩) (allLt_of hl) F N

section

theorem said36 : True := by
  k_with "my k_mem9" => first | exact List.Mem.head _ | assumption | (refine' List.Mem.tail _ ?_; k_mem) | (refine' List.mem_append.mpr (Or.inl ?_); k_mem) | (refine' List.mem_append.mpr (Or.inr ?_); k_mem) | fail "9"
  k_with "my sub9" => first | with_reducible exact sub_id | with_reducible exact sub_nil | exact Sub.of (by assumption) | ((with_reducible refine sub_app ?_ ?_) <;> k_extra "my sub9") | ((with_reducible refine sub_cons ?_ ?_) <;> first | k_mem | k_extra "my sub9") | ((with_reducible refine sub_tail ?_); k_extra "my sub9") | ((with_reducible refine sub_l ?_); k_extra "my sub9") | ((with_reducible refine sub_r ?_); k_extra "my sub9") | fail "9"
  k_with "my k_all9" => first | exact Off.all (by assumption) | (refine List.forall_mem_append.mpr ⟨?a9, ?b9⟩; (case a9 => k_all); (case b9 => k_all)) | exact off_tups (by assumption) (by k_asm) (by k_mem) (PotObj.cls1 (by assumption)) (by k_extra "my sb9") | exact off_tups (by assumption) (by k_asm) (by k_mem) (PotObj.cls2 (by assumption)) (by k_extra "my sb9") | exact off_tups (by assumption) (by k_asm) (by k_mem) (by first | exact lt_ne | exact ri_ne) (by k_extra "my sb9") | exact off_cell (by assumption) (by k_asm) (by k_mem) (by k_asm) (by k_extra "my sb9") | fail "9"
  k_with "my eval IfExp" => (k_here; k_dflt (refine' pot_if (by k_asm) (by k_asm) ?_ ?_; intros))
  k_with "my PotEnd" => (exact PotEnd.intro (by k_asm) (by k_asm) (by k_mem) (by k_extra "my sb9") (by first | assumption | exact .cons _ _ .nil | fail "9") (by k_extra "my len9") (by k_extra "my len9") (by k_extra "my new9"))
  k_with "my len9" => first | decide | omega | ((simp only [List.length_take]); omega) | fail "9"
  k_with "my new9" => (refine List.forall_mem_cons.mpr ⟨(by first | assumption | k_extra "my ltc" | (dsimp only; omega) | fail "9"), List.forall_mem_nil _⟩)
  k_with "my call ref" => (k_here; (with_reducible show wpAny _ _ (call (Value.ref 175) [_, Value.int 2 _]) _ _ _); k_dflt (refine' plan_use (plan_spec 2) (by k_asm) (by k_asm) (by k_asm) (by k_asm) (by k_asm) (by k_extra "my hk9") (by rfl) (by k_extra "my pick9") (by k_extra "my pot9") (by k_extra "my pick9") (by k_ne) (by k_all) (by k_all) (by k_extra "my hd9") (by k_extra "my hu9") ?_; k_whole; intros; k_extra "my norm8"; k_extra "my end9"))
  k_with "my pot9" => first | assumption | exact PotAll.at (by assumption) | fail "9"
  k_with "my call ref" => (k_here; (with_reducible show wpAny _ _ (call (Value.ref 182) _) _ _ _); k_dflt (refine' near_use (by k_asm) (by k_asm) (by k_asm) (by k_asm) (by k_asm) (by k_extra "my hk9") (by k_extra "my pick9") (by k_extra "my pot9") (by k_extra "my pick9") (by k_ne) (by k_all) (by k_all) (by assumption) (by k_extra "my sub9") (by assumption) (by k_extra "my hd9") (by k_extra "my hu9") ?_; k_whole; intros; k_extra "my norm8"; k_extra "my end9"))
  k_with "my call ref" => (k_here; (with_reducible show wpAny _ _ (call (Value.ref 187) _) _ _ _); k_dflt (refine' key_use (by k_asm) (by k_asm) (by k_asm) (by k_asm) (by k_asm) (by k_extra "my hk9") (by exact PlanIn.to (by assumption) (by k_extra "my sub9")) (by exact key_spec _) (by k_extra "my hd9") (by k_extra "my hu9") ?_; k_whole; intros; k_extra "my norm9"; k_extra "my end9"))
  k_with "my myoff" => first | assumption | exact True.intro | (refine off3_app ?_ ?_ <;> k_extra "my myoff") | exact off3_fresh (by assumption) (by k_mem) (by k_mem) (by k_mem) | exact (And.right (by assumption)) | exact (And.right (And.right (by assumption))) | exact (And.right (And.right (And.right (by assumption)))) | exact (And.right (And.right (And.right (And.right (by assumption))))) | (refine And.intro ⟨by k_ne, by k_ne, by k_ne⟩ ?_; k_extra "my myoff") | fail "9"
  k_with "my CompEnd" => (k_here; refine' comp_end (by assumption) (by assumption) (by k_extra "my pick9") (by k_extra "my pick9") (by k_extra "my pick9") (by k_extra "my myoff") (by first | exact True.intro | exact Or.inr ⟨_, by k_mem, rfl, _, rfl⟩ | fail "9") ?_; k_whole)
  k_with "my exec Assign" => (k_here; (fail_if_success (rename Forgot1 => hF9)); (with_reducible show wpAny _ _ (exec (Stmt.Assign [Expr.Name (Str.ofString "books") _] _ _) _) _ _ _); k_dflt (refine forget1 (by k_asm) (by k_asm) (by k_asm) (by k_mem) (by k_mem) (by exact rfl) (by assumption) (by assumption) (by assumption) (by assumption) (by assumption) (by assumption) (by k_extra "my sub9") (by k_extra "my sub9") (by k_extra "my sub9") (by assumption) (by assumption) (by assumption) (by k_extra "my sub9") (by k_extra "my sub9") (by k_extra "my sub9") (by k_mem) (by exact rfl) ?_); intros)
  k_with "my call ref" => (k_here; (with_reducible show wpAny _ _ (call (Value.ref 157) _) _ _ _); k_dflt (refine' book_use (by k_asm) (by k_asm) (by k_asm) (by k_asm) (by k_asm) (by k_extra "my hk9") (by k_extra "my hd9") (by k_extra "my hu9") ?_; k_whole; intros; k_extra "my norm9"; k_extra "my end9"))
  k_with "my exec For Name List cons nil" => (k_here; (fail_if_success (rename Forgot2 => hF9)); (with_reducible show wpAny _ _ (exec (Stmt.For (Expr.Name (Str.ofString "called") _) _ _ _ _) _) _ _ _); k_dflt (refine forget2 (by k_asm) (by k_asm) (by assumption) (by assumption) (by assumption) (by assumption) (by assumption) (by assumption) (by assumption) (by assumption) (by assumption) (by assumption) (by assumption) (by assumption) (by exact rfl) ?_); intros)
  k_with "my pyIter ref" => (k_here; (with_reducible show wpAny _ _ (pyIter (Value.ref _)) (fun it s₂ => LoopAtV _ _ _ _ _ (Str.ofString "called") _ _ _ it s₂) _ _); k_dflt (first | refine text_iter1 (by assumption) (by assumption) (by rfl) (by k_asm) (by k_asm) (by (unfold four1; (repeat (first | exact StrsAre.nil | refine StrsAre.cons _ _ ?_)))) (by assumption) (by assumption) (by assumption) (by assumption) (by assumption) ?_ ?_ | refine text_iter2 (by assumption) (by assumption) (by rfl) (by k_asm) (by k_asm) (by (unfold four2; (repeat (first | exact StrsAre.nil | refine StrsAre.cons _ _ ?_)))) (by assumption) (by assumption) (by assumption) (by assumption) (by assumption) ?_ ?_))
  k_with "my BDone1" => (unfold BDone1; intros)
  k_with "my BDone2" => (unfold BDone2; intros)
  k_with "my TTurn" => (unfold TTurn; intros)
  k_with "my TurnPost" => dsimp only [TurnPost]
  k_with "my TurnEnd" => (k_dflt (refine' TurnEnd.intro (by assumption) (by assumption) (by k_extra "my pick9") (by exact off_set2 (by assumption)) (by exact TJ.intro (by assumption) (by assumption))))
  k_with "my call ref" => (k_here; (with_reducible show wpAny _ _ (call (Value.ref 91) _) _ _ _); k_dflt (refine' atom_use (by k_asm) (by k_asm) (by k_asm) (by k_asm) (by k_asm) (by k_extra "my hk9") (by k_mem) (by k_mem) (by k_extra "my pick9") (by k_extra "my pick9") (by k_mem) (by k_mem) (by assumption) (by assumption) (by assumption) (by assumption) (by exact off_cons (by assumption) (Off.all (by assumption))) (by exact off_cons (by assumption) (Off.all (by assumption))) (by k_extra "my hd9") (by k_extra "my hu9") ?_; k_whole; intros; k_extra "my end9"))
  k_with "my exec Assign cons ListComp" => (k_here; (with_reducible show wpAny _ _ (exec (Stmt.Assign [Expr.Name (Str.ofString "rows") _] _ _) _) _ _ _); k_dflt (refine Assign_ListComp_K (by k_asm) (by rfl) (by with_unfolding_all rfl) (by with_unfolding_all rfl) (by intro _; with_unfolding_all rfl) (by intro _; with_unfolding_all rfl) (by rfl) (by decide) (by intros; with_unfolding_all rfl) (by rfl) (by rfl) ?_))
  k_with "my SrcK" => (k_here; k_dflt (refine rows_src (by assumption) (by rfl) (by k_asm) (by k_asm) (by assumption) (by assumption) (by assumption) (by assumption) (by assumption) (by assumption) (by assumption) (by assumption) (by assumption) (by assumption) (by assumption) (by assumption) (by assumption) (by assumption) (by assumption) (by assumption) (by assumption) ?_ ?_))
  k_with "my InTurn" => (unfold InTurn; intros)
  k_with "my RowTurn" => (unfold RowTurn; intros)
  k_with "my RowDone" => (unfold RowDone; intros)
  k_with "my RowsDone" => (unfold RowsDone; intros)
  k_with "my eval ListComp" => (k_here; (with_reducible show wpAny _ _ (eval (Expr.ListComp _ [Comprehension.mk (Expr.Name (Str.ofString "plan") _) _ _ _] _ _) _) _ _ _); k_dflt (refine row_rule (by k_asm) (by with_unfolding_all rfl) (by decide) (by rfl) (by decide) (by rfl) ?_))
  k_with "my RowSrc" => (k_here; k_dflt (refine row_srcE (by rfl) (by k_asm) (by k_asm) (by assumption) (by assumption) (by assumption) (by assumption) (by assumption) ?_ ?_))
  k_with "my call ref" => (k_here; (with_reducible show wpAny _ _ (call (Value.ref 192) _) _ _ _); k_dflt (refine' built_use (by k_asm) (by k_asm) (by k_asm) (by k_asm) (by k_asm) (by k_extra "my hk9") (by k_mem) (by k_mem) (by k_extra "my pick9") (by k_extra "my pick9") (by k_extra "my pick9") (by k_extra "my pick9") (by assumption) (by exact built_spec _) (by k_mem) (by k_mem) (by assumption) (by assumption) (by assumption) (by assumption) (by k_extra "my sub9") (by k_extra "my sub9") (by assumption) (by assumption) (by assumption) (by assumption) (by k_extra "my hd9") (by k_extra "my hu9") ?_; k_whole; intros; k_extra "my end9"))
  k_with "my RowEnd" => (exact RowEnd.intro (by k_asm) (by k_asm) (by assumption) (by assumption) (by assumption) (by assumption) (by assumption) (by assumption) )
  k_with "my InEnd" => (exact InEnd.intro (by k_asm) (by k_asm) (by assumption) (by assumption) (by assumption) (by assumption) (by assumption) (by assumption) )
  k_with "my subscriptTail" => (k_here; (rename Forgot2 => hF9); (fail_if_success (rename Forgot3 => hF9)); (with_reducible show wpAny _ _ (subscriptTail _ _ (Value.ref _) (Value.int _ _)) _ _ _); k_dflt (refine item_at (by k_asm) (by k_mem) (by decide) (by decide) (by rfl) ?_ (by with_unfolding_all rfl)); k_whole)
  k_with "my pyIter ref" => (k_here; (with_reducible show wpAny _ _ (pyIter (Value.ref _)) (fun it s₂ => LoopAtV _ _ _ _ _ (Str.ofString "i") _ _ _ it s₂) _ _); k_dflt (refine rng_iter lawI (n := 3) (by rfl) (by k_asm) (by k_asm) (by assumption) (by decide) (by rfl) ?_ ?_))
  k_with "my pyIter ref" => (k_here; (with_reducible show wpAny _ _ (pyIter (Value.ref _)) (fun it s₂ => LoopAtV _ _ _ _ _ (Str.ofString "j") _ _ _ it s₂) _ _); k_dflt (refine rng_iter lawJ (n := 3) (by rfl) (by k_asm) (by k_asm) (by assumption) (by decide) (by rfl) ?_ ?_))
  k_with "my pyIter ref" => (k_here; (with_reducible show wpAny _ _ (pyIter (Value.ref _)) (fun it s₂ => LoopAtV _ _ _ _ _ (Str.ofString "which") _ _ _ it s₂) _ _); k_dflt (refine rng_iter lawW (n := 2) (by rfl) (by k_asm) (by k_asm) (by assumption) (by decide) (by rfl) ?_ ?_))
  k_with "my RTurn" => (unfold RTurn; intros)
  k_with "my RDone" => (unfold RDone; intros)
  k_with "my subscriptTail" => (k_here; (rename Forgot3 => hF9); (with_reducible show wpAny _ _ (subscriptTail _ _ (Value.ref _) (Value.int (Nat.cast _) _)) _ _ _); k_dflt (first | refine item_keys (by with_reducible assumption) (by k_asm) (by k_extra "my sub9") (by first | with_reducible assumption | decide) ?_ (by with_unfolding_all rfl) | refine item_books (by with_reducible assumption) (by k_asm) (by k_extra "my sub9") (by first | with_reducible assumption | decide) ?_ (by with_unfolding_all rfl) | refine item_rows (by with_reducible assumption) (by k_asm) (by k_extra "my sub9") (by first | with_reducible assumption | decide) ?_ (by with_unfolding_all rfl) | refine item_row (by with_reducible assumption) (by k_asm) (by k_extra "my sub9") (by first | with_reducible assumption | decide) (by first | with_reducible assumption | decide) ?_ (by with_unfolding_all rfl)); k_whole)
  k_with "my subscriptTail" => (k_here; (rename Forgot3 => hF9); (with_reducible show wpAny _ _ (subscriptTail _ _ (Value.ref _) (Value.int 0 _)) _ _ _); k_dflt (first | refine item_rows0 (by with_reducible assumption) (by k_asm) (by k_extra "my sub9") ?_ (by with_unfolding_all rfl) | (refine late_rk (by with_reducible assumption) (by k_asm) (by k_extra "my sub9") (by first | with_reducible assumption | decide) ?_ (by with_unfolding_all rfl); intros) | (refine late_tag (by with_reducible assumption) (by k_asm) (by k_extra "my sub9") (by first | with_reducible assumption | decide) (by first | with_reducible assumption | decide) ?_ (by with_unfolding_all rfl); intros)); k_whole)
  k_with "my subscriptTail" => (k_here; (rename Forgot3 => hF9); (with_reducible show wpAny _ _ (subscriptTail _ _ (Value.ref _) (Value.int 1 _)) _ _ _); k_dflt ((refine late_fun (by with_reducible assumption) (by k_asm) (by k_extra "my sub9") (by first | with_reducible assumption | decide) (by first | with_reducible assumption | decide) (by with_reducible assumption) ?_ (by with_unfolding_all rfl); intros)); k_whole)
  k_with "my call ref" => (k_here; (with_reducible show wpAny _ _ (call (Value.ref 28) _) _ _ _); k_dflt (refine' rank_use (by k_asm) (by k_asm) (by k_asm) (by k_asm) (by k_asm) (by k_extra "my hk9") (by exact Late.term (by with_reducible assumption) (by k_extra "my sub9") (by first | with_reducible assumption | decide) (by first | with_reducible assumption | decide) ) (by k_extra "my hd9") (by k_extra "my hu9") ?_; k_whole; intros; k_extra "my end9"))
  k_with "my call ref" => (k_here; (with_reducible show wpAny _ _ (call (Value.ref 49) _) _ _ _); k_dflt (refine' compare_use (by k_asm) (by k_asm) (by k_asm) (by k_asm) (by k_asm) (by k_extra "my hk9") (by exact Late.book (by with_reducible assumption) (by k_extra "my sub9") (by first | with_reducible assumption | decide) ) (by exact Late.term (by with_reducible assumption) (by k_extra "my sub9") (by first | with_reducible assumption | decide) (by first | with_reducible assumption | decide) ) (by exact Late.term (by with_reducible assumption) (by k_extra "my sub9") (by first | with_reducible assumption | decide) (by first | with_reducible assumption | decide) ) (by exact Late.small (by with_reducible assumption) (by first | with_reducible assumption | decide) ) (by k_extra "my hd9") (by k_extra "my hu9") ?_; k_whole; intros; k_extra "my end9"))
  k_with "my call ref" => (k_here; (with_reducible show wpAny _ _ (call (Value.ref 56) _) _ _ _); k_dflt (refine' functors_use (by k_asm) (by k_asm) (by k_asm) (by k_asm) (by k_asm) (by k_extra "my hk9") (by exact Late.book (by with_reducible assumption) (by k_extra "my sub9") (by first | with_reducible assumption | decide) ) (by assumption) (by assumption) (by k_extra "my hd9") (by k_extra "my hu9") ?_; k_whole; intros; k_extra "my end9"))
  k_with "my call ref" => (k_here; (with_reducible show wpAny _ _ (call (Value.ref 199) _) _ _ _); k_dflt ((first | refine' sign_keys (by k_asm) (by k_asm) (by k_asm) (by k_asm) (by k_asm) (by k_extra "my hk9") (by exact Late.key (by with_reducible assumption) (by first | with_reducible assumption | decide) ) (by exact Late.key (by with_reducible assumption) (by first | with_reducible assumption | decide) ) (by k_extra "my sub9") (by k_extra "my sub9") (by k_extra "my hd9") (by k_extra "my hu9") ?_ | refine' sign_mids (by k_asm) (by k_asm) (by k_asm) (by k_asm) (by k_asm) (by k_extra "my hk9") (by assumption) (by assumption) (by k_extra "my sub9") (by k_extra "my sub9") (by k_extra "my hd9") (by k_extra "my hu9") ?_); k_whole; intros; k_extra "my end9"))
  k_with "my TurnEnd" => ((rename Forgot3 => hF9); k_dflt (refine rturn_end (by k_asm) (by k_asm) (by k_mem) (by k_extra "my sub9") (by assumption) (by (intro x9 hx9; dsimp only; (repeat (first | refine (st_step hx9 (by rfl)).trans ?_ | refine (st_sub hx9 (by rfl)).trans ?_)); rfl))))
  k_with "my eval Call" => (k_here; (rename Forgot3 => hF9); refine Call_ ?_)
  k_with "my subscriptTail" => (k_here; (rename Forgot3 => hF9); (with_reducible show wpAny _ _ (subscriptTail _ _ (Value.ref _) (Value.ref _)) _ _ _); k_dflt (refine late_slice (by with_reducible assumption) (by k_asm) (by k_asm) (by k_extra "my sub9") (by first | with_reducible assumption | decide) (by with_reducible assumption) ?_ (by with_unfolding_all rfl)); k_whole; intros)
  trivial
set_option maxHeartbeats 8000000 in
theorem law_holds : PySem.Challenge.rw_sa0142_01.Holds := Mine.hd (by
  k_go0
  all_goals (try k_fold)
  k_steps)
end
end
end Mine
set_option maxRecDepth 100000 in
theorem said37 : True := by
  k_with_none
  k_with "my ltc" => first | exact j0 (by assumption) | exact j1 (by assumption) | exact j2 (by assumption) | exact j3 (by assumption) | exact j4 (by assumption) | exact j5 (by assumption) | exact j6 (by assumption) | exact j7 (by assumption) | exact j8 (by assumption) | exact j9 (by assumption) | exact j10 (by assumption) | fail "9"
  k_with "my trc0" => first | assumption | k_extra "my ltc" | fail "9"
  k_with "my trc" => first | exact t0 (by k_extra "my trc0") | exact t1 (by k_extra "my trc0") | exact t2 (by k_extra "my trc0") | fail "9"
  k_with "my k_ne9" => (refine neN ?_; (try dsimp only); first | assumption | exact Ne.symm (by assumption) | (refine Nat.ne_of_lt ?_; k_extra "my ltc") | (refine Nat.ne_of_gt ?_; k_extra "my ltc") | k_extra "my trc" | (refine Ne.symm ?_; k_extra "my trc") | fail "9")
  k_with "my le9" => first | exact Nat.le_refl _ | exact Nat.le_of_ble_eq_true rfl | exact Nat.succ_le_succ (Nat.zero_le _) | assumption | exact Nat.succ_le_succ (Nat.le_max_left _ _) | exact Nat.succ_le_succ (Nat.le_max_right _ _) | exact Nat.succ_le_succ (Nat.succ_le_succ (Nat.zero_le _)) | exact Nat.succ_le_succ (Nat.succ_le_succ (Nat.le_max_left _ _)) | exact Nat.succ_le_succ (Nat.succ_le_succ (Nat.le_max_right _ _)) | exact Nat.succ_le_succ (Nat.succ_le_succ (Nat.succ_le_succ (Nat.le_max_left _ _))) | exact Nat.succ_le_succ (Nat.succ_le_succ (Nat.succ_le_succ (Nat.le_max_right _ _))) | fail "9"
  k_with "my ktr_room9" => first | exact room0 (by assumption) | exact room1 (by assumption) (by k_extra "my le9") | exact room2 (by assumption) (by k_extra "my le9") | fail "9"
  k_with "my ktr_units9" => first | exact units1 (by assumption) (by k_extra "my le9") | exact units2 (by assumption) (by k_extra "my le9") | fail "9"
  k_with "my pick9" => (repeat (first | exact Pick.head | apply Pick.tail))
  k_with "my sb9" => (intro p hp; simp only [List.mem_append, List.mem_cons, hp, true_or, or_true])
  k_with "my hk9" => first | exact rfl | assumption | fail "9"
  k_with "my hd9" => first | exact Nat.le_of_ble_eq_true rfl | ktr_room | ((try simp only [depth_deeper, depth_under_make]); (try dsimp only [ktrTop]); first | ktr_room | omega) | fail "9"
  k_with "my hu9" => first | exact Nat.le_of_ble_eq_true rfl | ktr_units | ((try simp only [units_deeper, units_under_make]); (try dsimp only [ktrTop]); first | ktr_units | omega) | fail "9"
  k_with "my norm9" => ((rename News _ _ _ _ => nN9); (try simp only [List.nil_append, List.cons_append, List.append_nil] at nN9))
  k_with "my norm8" => ((rename News _ _ _ _ => nN9); (try simp only [List.nil_append, List.cons_append, List.append_nil, List.append_assoc] at nN9))
  k_with "my end9" => ((try k_sweep); (try dsimp only); (try k_fold))
  trivial
set_option maxHeartbeats 8000000 in
theorem PySem.Challenge.cw_sa0142_01_holds : PySem.Challenge.rw_sa0142_01.Holds := by
  exact Mine.law_holds
