import PyProof.Rows.All
import Wide.All
import OpenK.AllK
import Wide.FinOn
import PySem.Challenge.RW_nu0318_01
open PySem PySem.W PyProof.Rows
set_option Elab.async false
set_option maxRecDepth 100000
set_option linter.all false
set_option rowWalk.seconds 0
set_option compiler.extract_closed false
set_option genSizeOf false
set_option genInjectivity false
namespace Mine
section
set_option maxHeartbeats 8000000
theorem idL {A B C : Prop} (_ : A) (_ : B) (c : C) : C := c
theorem both {a b : Bool} (h : a = true) (k : b = true) : (a && b) = true := by rw [h, k]; rfl
theorem ws : OpenLaw.wellSaid Challenge.rw_nu0318_01 = true := by
  delta OpenLaw.wellSaid OpenRow.wellSaid OpenRow.partSaid looksOpen
  repeat' (with_reducible apply both)
  all_goals decide +kernel
noncomputable def hd : PSigma fun T : Prop => (T → PySem.Challenge.rw_nu0318_01.Holds) := by
  refine' PSigma.mk _ ?F
  case F =>
    intro h
    w_on
    refine holds_law ws fun said => ?_
    refine' idL ?hc ?hl ?g1
    case g1 =>
      k_head
      case hw => w_witness2
    case hc => exact h
    case hl =>
      intro w
      kernel_rfl
end
theorem walks_plain : True := by
  w_top off
  trivial
open PySem.Spec PySem.Calls
-- B0
abbrev Led := List (Addr × Obj)
/-- a call of the text's own def, told for every caller -/
def Ctr (w : World) (f : Addr) (args : List Value) (news : Led) (dd uu : Nat) (Post : Value → Led → Prop) : Prop :=
  ∀ (mean : ExcName → Option Value) (mg mb : Str → Option Value) (dp un : Nat) (gd : Option (List Code)) (cn : Str) (cs : Scope) (fa : Addr) (ccd : Value) (cl : List (Str × Addr)) (outer : List Env) (A₀ : Around) (base h₀ : Heap) (L : Addr) (m : Str → Option Value) (s : Shared) (Q E : Value → Shared → Prop),
    Below A₀ base outer h₀ → Fr h₀ L s.heap m → (hd.heap_1 w.params).In h₀ → News h₀ L s.heap news → Top hd.view_1 (looseW hd.view_1 []) mean mg mb h₀ → cs.kind = .function → dp + dd < 1000 → un + uu < 9900 →
    (∀ r news' h' tk', Fr h₀ L h' m → News h₀ L h' news' → Post r news' → Q r { s with heap := h', toks := tk' }) →
    wpAny (model Challenge.rw_nu0318_01.row.prog w) (ktrTop dp un gd cn cs L fa ccd cl outer) (call (.ref f) args) Q E s
theorem Ctr.use {w : World} {f : Addr} {args : List Value} {news : Led} {dd uu : Nat} {Post : Value → Led → Prop} (C : Ctr w f args news dd uu Post)
    {mean : ExcName → Option Value} {mg mb : Str → Option Value} {dp un : Nat} {gd : Option (List Code)} {cn : Str} {cs : Scope} {fa : Addr} {ccd : Value} {cl : List (Str × Addr)} {outer : List Env} {A₀ : Around} {base h₀ : Heap} {L : Addr} {m : Str → Option Value} {s : Shared} {Q E : Value → Shared → Prop}
    (B : Below A₀ base outer h₀) (F : Fr h₀ L s.heap m) (X : (hd.heap_1 w.params).In h₀) (N : News h₀ L s.heap news) (T : Top hd.view_1 (looseW hd.view_1 []) mean mg mb h₀) (hk : cs.kind = .function) (hd' : dp + dd < 1000) (hu : un + uu < 9900)
    (ret : ∀ r news' h' tk', Fr h₀ L h' m → News h₀ L h' news' → Post r news' → Q r { s with heap := h', toks := tk' }) :
    wpAny (model Challenge.rw_nu0318_01.row.prog w) (ktrTop dp un gd cn cs L fa ccd cl outer) (call (.ref f) args) Q E s := C _ _ _ _ _ _ _ _ _ _ _ _ _ _ _ _ _ _ _ _ B F X N T hk hd' hu ret
theorem Ctr.mono {w : World} {f : Addr} {args : List Value} {news : Led} {dd uu : Nat} {Post Post' : Value → Led → Prop} (C : Ctr w f args news dd uu Post) (h : ∀ r n, Post r n → Post' r n) : Ctr w f args news dd uu Post' :=
  fun _ _ _ _ _ _ _ _ _ _ _ _ _ _ _ _ _ _ _ _ B F X N T hk hd' hu ret => C _ _ _ _ _ _ _ _ _ _ _ _ _ _ _ _ _ _ _ _ B F X N T hk hd' hu fun r n h' tk F N P => ret r n h' tk F N (h r n P)
/-- the same, what comes back handed on name by name -/
def CtrU (w : World) (f : Addr) (args : List Value) (news : Led) (dd uu : Nat) (K : (Value → Shared → Prop) → Shared → Heap → Addr → (Str → Option Value) → Prop) : Prop :=
  ∀ (mean : ExcName → Option Value) (mg mb : Str → Option Value) (dp un : Nat) (gd : Option (List Code)) (cn : Str) (cs : Scope) (fa : Addr) (ccd : Value) (cl : List (Str × Addr)) (outer : List Env) (A₀ : Around) (base h₀ : Heap) (L : Addr) (m : Str → Option Value) (s : Shared) (Q E : Value → Shared → Prop),
    Below A₀ base outer h₀ → Fr h₀ L s.heap m → (hd.heap_1 w.params).In h₀ → News h₀ L s.heap news → Top hd.view_1 (looseW hd.view_1 []) mean mg mb h₀ → cs.kind = .function → dp + dd < 1000 → un + uu < 9900 → K Q s h₀ L m →
    wpAny (model Challenge.rw_nu0318_01.row.prog w) (ktrTop dp un gd cn cs L fa ccd cl outer) (call (.ref f) args) Q E s
section
variable {w : World} {f : Addr} {args : List Value} {news : Led} {dd uu : Nat} {Post : Value → Led → Prop} {K : (Value → Shared → Prop) → Shared → Heap → Addr → (Str → Option Value) → Prop}
theorem CtrU.use (C : CtrU w f args news dd uu K)
    {mean : ExcName → Option Value} {mg mb : Str → Option Value} {dp un : Nat} {gd : Option (List Code)} {cn : Str} {cs : Scope} {fa : Addr} {ccd : Value} {cl : List (Str × Addr)} {outer : List Env} {A₀ : Around} {base h₀ : Heap} {L : Addr} {m : Str → Option Value} {s : Shared} {Q E : Value → Shared → Prop}
    (B : Below A₀ base outer h₀) (F : Fr h₀ L s.heap m) (X : (hd.heap_1 w.params).In h₀) (N : News h₀ L s.heap news) (T : Top hd.view_1 (looseW hd.view_1 []) mean mg mb h₀) (hk : cs.kind = .function) (hd' : dp + dd < 1000) (hu : un + uu < 9900) (k : K Q s h₀ L m) :
    wpAny (model Challenge.rw_nu0318_01.row.prog w) (ktrTop dp un gd cn cs L fa ccd cl outer) (call (.ref f) args) Q E s := C _ _ _ _ _ _ _ _ _ _ _ _ _ _ _ _ _ _ _ _ B F X N T hk hd' hu k
theorem CtrU.std (C : CtrU w f args news dd uu K)
    {mean : ExcName → Option Value} {mg mb : Str → Option Value} {dp un : Nat} {gd : Option (List Code)} {cn : Str} {cs : Scope} {fa : Addr} {ccd : Value} {cl : List (Str × Addr)} {outer : List Env} {A₀ : Around} {base h₀ : Heap} {L : Addr} {m : Str → Option Value} {s : Shared} {Q E : Value → Shared → Prop}
    (e : (Below A₀ base outer h₀) ∧ (Fr h₀ L s.heap m) ∧ ((hd.heap_1 w.params).In h₀) ∧ (News h₀ L s.heap news) ∧ (Top hd.view_1 (looseW hd.view_1 []) mean mg mb h₀) ∧ (cs.kind = .function) ∧ (dp + dd < 1000) ∧ (un + uu < 9900)) (k : K Q s h₀ L m) :
    wpAny (model Challenge.rw_nu0318_01.row.prog w) (ktrTop dp un gd cn cs L fa ccd cl outer) (call (.ref f) args) Q E s := C _ _ _ _ _ _ _ _ _ _ _ _ _ _ _ _ _ _ _ _ e.1 e.2.1 e.2.2.1 e.2.2.2.1 e.2.2.2.2.1 e.2.2.2.2.2.1 e.2.2.2.2.2.2.1 e.2.2.2.2.2.2.2 k
theorem Ctr.toU (C : Ctr w f args news dd uu Post) (h : ∀ (Q : Value → Shared → Prop) (s : Shared) (h₀ : Heap) (L : Addr) (m : Str → Option Value), K Q s h₀ L m → ∀ r news' h' tk', Fr h₀ L h' m → News h₀ L h' news' → Post r news' → Q r { s with heap := h', toks := tk' }) : CtrU w f args news dd uu K :=
  fun _ _ _ _ _ _ _ _ _ _ _ _ _ _ _ _ _ _ _ _ B F X N T hk hd' hu k => C _ _ _ _ _ _ _ _ _ _ _ _ _ _ _ _ _ _ _ _ B F X N T hk hd' hu (h _ _ _ _ _ k)
theorem Ctr.same {V : Tok → Value} (C : Ctr w f args news dd uu (fun r news' => ∃ t', r = V t' ∧ news' = news)) : CtrU w f args news dd uu (fun Q s h₀ L m => ∀ (t' : Tok) (h' : Heap) (tk' : Nat), Fr h₀ L h' m → News h₀ L h' news → Q (V t') { s with heap := h', toks := tk' }) :=
  C.toU fun Q s h₀ L m k r news' h' tk' F N P => by obtain ⟨t', rfl, rfl⟩ := P; exact k t' h' tk' F N
theorem Ctr.same0 {v : Value} (C : Ctr w f args news dd uu (fun r news' => r = v ∧ news' = news)) : CtrU w f args news dd uu (fun Q s h₀ L m => ∀ (h' : Heap) (tk' : Nat), Fr h₀ L h' m → News h₀ L h' news → Q v { s with heap := h', toks := tk' }) :=
  C.toU fun Q s h₀ L m k r news' h' tk' F N P => by obtain ⟨rfl, rfl⟩ := P; exact k h' tk' F N
end
theorem room_k {x k d c n : Nat} (h : x + c < n) (hb : k + d ≤ c) : x + k + d < n := by omega
theorem two_cases {d : Int} (h : 0 ≤ d ∧ d < 3) (h2 : ¬ d = 2) : d = 0 ∨ d = 1 := by omega
theorem ab_up {a b c d : Int} (h : 0 ≤ a ∧ 0 ≤ b ∧ b ≤ c) (hd : c ≤ d) : 0 ≤ a ∧ 0 ≤ b ∧ b ≤ d := ⟨h.1, h.2.1, Int.le_trans h.2.2 hd⟩
theorem ne_via {a m b : Nat} (h2 : m < b) (h1 : a < m) : a ≠ b := Nat.ne_of_lt (Nat.lt_trans h1 h2)
theorem mem_tl {p q : Addr × Obj} {l : List (Addr × Obj)} (h : p ∈ l) : p ∈ q :: l := List.mem_cons_of_mem _ h
theorem off_lt {l : Addr} {news : Led} (h : AllLt l news) : OwnOff news [l] := fun p hp b hb => by rw [List.mem_singleton.mp hb]; exact Nat.ne_of_lt (tb_ltOf h p hp)
theorem led_drop {h₀ h : Heap} {L : Addr} {news news' : Led} (N : News h₀ L h news') (hs : ∀ p ∈ news, p ∈ news') : News h₀ L h news := fun p hp => N p (hs p hp)
theorem off_lt' {l : Addr} {news : Led} (h : ∀ p ∈ news, p.1 < l) : OwnOff news [l] := fun p hp b hb => by rw [List.mem_singleton.mp hb]; exact Nat.ne_of_lt (h p hp)
theorem small_of {n : Int} (h : n ≤ 1000) (h0 : 0 ≤ n) : Builtin.Range.small 0 n 1 = true := small_one (by omega) (by omega) (by omega) (by omega)
theorem size_of {n : Int} (h0 : 0 ≤ n) : Builtin.Range.rangeSize 0 n 1 = (n.toNat : Int) := by
  unfold Builtin.Range.rangeSize
  simp
  omega
theorem allLt_iff {d : Addr} : ∀ {l : Led}, AllLt d l ↔ ∀ p ∈ l, p.1 < d
  | [] => ⟨fun _ _ h => (nomatch h), fun _ => trivial⟩
  | p :: r => ⟨fun h q hq => by
      rcases List.mem_cons.mp hq with rfl | hq
      · exact h.1
      · exact allLt_iff.mp h.2 q hq, fun h => ⟨h p (.head _), allLt_iff.mpr fun q hq => h q (.tail _ hq)⟩⟩
theorem ne_all {a b : Nat} {o : Obj} {l : Led} (h : AllLt b l) (m : ((a : Addr), o) ∈ l) : a ≠ b := Nat.ne_of_lt (allLt_iff.mp h _ m)
theorem ne_all2 {a b d : Nat} {o : Obj} {l : Led} (hd : d < b) (h : AllLt d l) (m : ((a : Addr), o) ∈ l) : a ≠ b := Nat.ne_of_lt (Nat.lt_trans (allLt_iff.mp h _ m) hd)
/-- a contract over a ledger with one object that the call changes, at any place of the ledger -/
theorem Ctr.upd {w : World} {f : Addr} {args : List Value} {news : Led} {dd uu : Nat} {d : Addr} {o : Obj} {g : Obj → Led} {R : Value → Led → Obj → Prop} (U : UpdF d o news g)
    (C : ∀ rest, OwnOff rest [d] → (∀ p ∈ news, p.1 ≠ d → p ∈ rest) → Ctr w f args ((d, o) :: rest) dd uu (fun r news' => ∃ own o', news' = own ++ (d, o') :: rest ∧ (∀ q ∈ own, AllLt q.1 ((d, o) :: rest)) ∧ R r own o')) :
    Ctr w f args news dd uu (fun r news' => ∃ own o', news' = own ++ g o' ∧ (∀ q ∈ own, AllLt q.1 news) ∧ R r own o') := by
  obtain ⟨pre, post, rfl, hg, h1, h2⟩ := U.split
  intro mean mg mb dp un gd cn cs fa ccd cl outer A₀ base h₀ L m s Q E B F X N T hk hdp hu hret
  have hsub : ∀ o, ∀ p ∈ (d, o) :: (pre ++ post), p ∈ pre ++ (d, o) :: post := by
    intro o p hp
    rcases List.mem_cons.mp hp with rfl | hp
    · exact List.mem_append_right _ (.head _)
    · exact (List.mem_append.mp hp).elim (List.mem_append_left _) fun q => List.mem_append_right _ (.tail _ q)
  have hsup : ∀ o, ∀ p ∈ pre ++ (d, o) :: post, p ∈ (d, o) :: (pre ++ post) := by
    intro o p hp
    rcases List.mem_append.mp hp with hp | hp
    · exact .tail _ (List.mem_append_left _ hp)
    · rcases List.mem_cons.mp hp with rfl | hp
      · exact .head _
      · exact .tail _ (List.mem_append_right _ hp)
  refine C (pre ++ post) ?_ ?_ mean mg mb dp un gd cn cs fa ccd cl outer A₀ base h₀ L m s Q E B F X (led_drop N (hsub o)) T hk hdp hu ?_
  · intro p hp b hb
    rw [List.mem_singleton.mp hb]
    exact (List.mem_append.mp hp).elim (h1 p) (h2 p)
  · intro p hp hne
    rcases List.mem_cons.mp (hsup o p hp) with rfl | hp
    · exact absurd rfl hne
    · exact hp
  · rintro r news' h' tk' F' N' ⟨own, o', rfl, hl, hR⟩
    refine hret r (own ++ g o') h' tk' F' (led_drop N' fun p hp => ?_) ⟨own, o', rfl, fun q hq => allLt_iff.mpr fun p hp => allLt_iff.mp (hl q hq) p (hsup o p hp), hR⟩
    rw [hg] at hp
    rcases List.mem_append.mp hp with hp | hp
    · exact List.mem_append_left _ hp
    · exact List.mem_append_right _ (hsup o' p hp)
-- L0
section
variable {prog : Program} {w : World} {A : Around} {E : Value → Shared → Prop} {s : Shared} {env : Env} {h₀ : Heap} {x : Str} {body : List Stmt} {Q : Flow → Shared → Prop}
/-- how a turn of a loop ends: the letters c, the rest of the ledger as it was -/
def MyEnd {σ : Type} (h₀ : Heap) (L : Addr) (Ld : σ → Led) (rest : Led) (ps : σ → List (Str × Value)) (J' : σ → Prop) (s₁ s₂ : Shared) : Prop :=
  ∃ h' tk c m', s₂ = { s₁ with heap := h', toks := tk } ∧ Fr h₀ L h' m' ∧ News h₀ L h' (Ld c ++ rest) ∧ (∀ p ∈ ps c, m' p.1 = some p.2) ∧ J' c
def MyPost {σ : Type} (h₀ : Heap) (L : Addr) (Ld : σ → Led) (rest : Led) (ps : σ → List (Str × Value)) (J' : σ → Prop) (s₁ : Shared) (Q : Flow → Shared → Prop) (f : Flow) (s₂ : Shared) : Prop :=
  match f with
  | .ret v => Q (.ret v) s₂
  | .brk => Q .next s₂
  | _ => MyEnd h₀ L Ld rest ps J' s₁ s₂
theorem my_range {σ : Type} {r : Addr} {b₀ : Int} {t₀ u₀ v₀ : Tok} {n : Nat} {m₀ : Str → Option Value} {rest : Led} (Ld : σ → Led) (ps : σ → List (Str × Value)) (J : Nat → σ → Prop) (c₀ : σ)
    (hh : A.handled = none) (hr : IsRange s.heap r 0 b₀ 1 t₀ u₀ v₀) (hsmall : Builtin.Range.small 0 b₀ 1 = true) (hn : Builtin.Range.rangeSize 0 b₀ 1 = (n : Int)) (F : Fr h₀ env.locals s.heap m₀) (N : News h₀ env.locals s.heap (Ld c₀ ++ rest))
    (hadr : ∀ c, (Ld c).map (·.1) = (Ld c₀).map (·.1)) (hoff : OwnOff rest ((Ld c₀).map (·.1))) (hk : ∀ p ∈ ps c₀, m₀ p.1 = some p.2) (hj : J 0 c₀)
    (turn : ∀ (c : σ) (i : Nat) t (u : Str → Option Value) h tk rest', i < n → J i c → OwnOff rest' ((Ld c₀).map (·.1)) → (∀ p ∈ rest, p ∈ rest') →
      Fr h₀ env.locals h (fun y => if y = x then some (.int i t) else kstB u (ps c) y) → News h₀ env.locals h (Ld c ++ rest') →
      wpAny (model prog w) A (execs body env) (MyPost h₀ env.locals Ld rest' ps (J (i + 1)) { s with heap := h, toks := tk } Q) E { s with heap := h, toks := tk })
    (done : ∀ (c : σ) (u : Str → Option Value) h tk, J n c → Fr h₀ env.locals h (kstB u (ps c)) → News h₀ env.locals h (Ld c ++ rest) → Q .next { s with heap := h, toks := tk }) :
    wpAny (model prog w) A (pyIter (.ref r)) (fun it s₂ => LoopAtV prog w A h₀ env x body Q E it s₂) E s := by
  refine wpAny_pyIter_range hr hsmall ?_
  have W : Walks prog w A s.heap.objs.size [s.heap.objs.size] [s.heap.objs.size] n (fun i v => i < n ∧ ∃ t, v = .int (0 + i * 1) t)
      (fun i h => IsRangeIter h s.heap.objs.size (0 + (i : Nat) * 1) ((n : Int) - (i : Nat)) 1) := (Walks.range hh _ 0 1 n).bound
  have kB : ∀ {m₁ : Str → Option Value} {c : σ}, (∀ p ∈ ps c, m₁ p.1 = some p.2) → kstB m₁ (ps c) = m₁ := fun {m₁ c} h => funext fun z => kstB_eq h fun _ => rfl
  refine loop_invN (fun i m nx => ∃ c, nx = Ld c ++ rest ∧ (∀ p ∈ ps c, m p.1 = some p.2) ∧ J i c) W ?_ ?_ ?_ ?_ (by show IsRangeIter _ _ _ _ _; rw [hn]; simpa using Heap.get?_push_size _ rfl) (F.push _) (fun p hp => ⟨Heap.get?_push_of_some _ (N p hp).1, (N p hp).2⟩) ⟨c₀, rfl, hk, hj⟩ ?_ ?_
  · intro hm
    exact absurd F.ns.lt ((List.mem_singleton.mp hm) ▸ Nat.lt_irrefl _)
  · intro b hb
    rw [List.mem_singleton.mp hb]
    exact next_is_new F
  · intro p hp hI
    exact absurd (Heap.lt_size (N p hp).1) ((List.mem_singleton.mp hI) ▸ Nat.lt_irrefl _)
  · intro p hp hI
    exact absurd (Heap.lt_size (N p hp).1) ((List.mem_singleton.mp hI) ▸ Nat.lt_irrefl _)
  · rintro i v m₁ nx h tk own hi ⟨_, t, rfl⟩ _ hown ⟨c, rfl, hm₁, hJ⟩ F₁ N₁
    have e1 : (0 : Int) + (i : Int) * 1 = (i : Int) := by omega
    rw [e1] at F₁
    rw [List.append_assoc] at N₁
    rw [← kB hm₁] at F₁
    refine wpAny_mono (turn c i t m₁ h tk (rest ++ own) hi hJ ?_ (fun p hp => List.mem_append_left _ hp) F₁ N₁) (fun f s₂ p => ?_) fun _ _ e => e
    · intro p hp b hb
      rcases List.mem_append.mp hp with hp | hp
      · exact hoff p hp b hb
      · exact hown p hp b (by rw [List.map_append]; exact List.mem_append_left _ hb)
    · have fin : MyEnd h₀ env.locals Ld (rest ++ own) ps (J (i + 1)) { s with heap := h, toks := tk } s₂ → InvEndN h₀ env.locals (fun m nx => ∃ c, nx = Ld c ++ rest ∧ (∀ p ∈ ps c, m p.1 = some p.2) ∧ J (i + 1) c) own ((Ld c₀ ++ rest).map (·.1)) { s with heap := h, toks := tk } s₂ := by
        rintro ⟨h', tk', c', m', e, F', N', hm', hJ'⟩
        refine ⟨h', tk', m', _, Ld c' ++ rest, e, F', N', ?_, ?_, ?_, c', rfl, hm', hJ'⟩
        · intro p hp
          rw [← List.append_assoc]
          exact List.mem_append_left _ hp
        · intro p hp
          rw [← List.append_assoc]
          exact List.mem_append_right _ hp
        · rw [List.map_append, List.map_append, hadr c']
      cases f with
      | ret v => exact p
      | brk => exact p
      | next => exact fin p
      | cont => exact fin p
  · rintro m₁ nx h tk ⟨c, rfl, hm₁, hJ⟩ F₁ N₁
    rw [← kB hm₁] at F₁
    exact done c m₁ h tk hJ F₁ N₁
end
theorem myend_push {h₀ : Heap} {L l' : Addr} {vs : List Value} {x : Value} {rest' : Led} {ps : List (Str × Value)} {J' : List Value → Prop} {s₁ : Shared} {h' : Heap} {tk : Nat} {m' : Str → Option Value}
    (F : Fr h₀ L h' m') (N : News h₀ L h' ((l', listOf (vs ++ [x]).toArray (vs.length + 1)) :: rest')) (hm : ∀ p ∈ ps, m' p.1 = some p.2) (hJ : J' (vs ++ [x])) :
    MyEnd h₀ L (fun vs => [(l', listOf vs.toArray vs.length)]) rest' (fun _ => ps) J' s₁ { s₁ with heap := h', toks := tk } :=
  ⟨h', tk, vs ++ [x], m', rfl, F, by dsimp only; rw [List.length_append]; exact N, hm, hJ⟩
/-- where the walk is to rest -/
def Hold (P : Prop) : Prop := P
theorem hold {P : Prop} (h : Hold P) : P := h
open PyProof.Rows.LCg
/-- a comprehension by an invariant over what it has made and the ledger -/
theorem my_comp {prog : Program} {w : World} {A : Around} {h₀ : Heap} {L : Addr} {m : Str → Option Value} {env : Env} {elt : Expr} {x : Str} {scope : Scope} {cl : List (Str × Addr)} {s : Shared} {S : Led → Prop} {P : Nat → Value → Prop} {Fin : List Value → Led → Prop} {news : Led} {n : Nat}
    (J : Nat → List Value → Led → Prop) (j0 : J 0 [] news)
    (turn : ∀ i v I oI C oC D m₂ ys nx h tk (E' : Value → Shared → Prop), i < n → P i v → J i ys nx → NsObj oC m₂ → m₂ x = some v → Fr h₀ L h m → News h₀ L h ((I, oI) :: (C, oC) :: (D, lst ys) :: nx) → Off3 I C D nx → ((@Ne Nat I C) ∧ (@Ne Nat I D) ∧ (@Ne Nat C D)) →
      wpAny (model prog w) A (eval elt (compEnvC scope cl C env)) (CompEnd h₀ L m { s with heap := h, toks := tk } I oI C oC D (lst ys) S (fun y nx' => J (i + 1) (ys ++ [y]) nx')) E' { s with heap := h, toks := tk })
    (fin : ∀ ys nx, J n ys nx → Fin ys nx) : CompRest prog w A h₀ L m env elt x scope cl s S P Fin n 0 [] news := by
  have key : ∀ (j i : Nat) (ys : List Value) (nx : Led), i + j = n → J i ys nx → CompRest prog w A h₀ L m env elt x scope cl s S P Fin j i ys nx := by
    intro j
    induction j with
    | zero =>
      intro i ys nx hi hJ
      have e : i = n := by omega
      subst e
      exact CompRest.zero (fin ys nx hJ)
    | succ j ih =>
      intro i ys nx hi hJ
      refine CompRest.succ ?_
      intro v I oI C oC D m₂ h tk E' hv hC hx F N off ne
      refine wpAny_mono (turn i v I oI C oC D m₂ ys nx h tk E' (by omega) hv hJ hC hx F N off ne) (fun y s₂ hq => ?_) fun _ _ e => e
      obtain ⟨h', tk', nw, e, F', N', off', hS, hJ'⟩ := hq
      exact ⟨h', tk', nw, e, F', N', off', hS, ih (i + 1) _ nw (by omega) hJ'⟩
  exact key n 0 [] news (by omega) j0
open PyProof.Rows.LCg
/-- the same, the ledger unchanged -/
theorem my_compC {prog : Program} {w : World} {A : Around} {h₀ : Heap} {L : Addr} {m : Str → Option Value} {env : Env} {elt : Expr} {x : Str} {scope : Scope} {cl : List (Str × Addr)} {s : Shared} {S : Led → Prop} {P : Nat → Value → Prop} {Fin : List Value → Led → Prop} {news : Led} {n : Nat}
    (J : Nat → List Value → Prop) (j0 : J 0 [])
    (turn : ∀ i v I oI C oC D m₂ ys h tk (E' : Value → Shared → Prop), i < n → P i v → J i ys → NsObj oC m₂ → m₂ x = some v → Fr h₀ L h m → News h₀ L h ((I, oI) :: (C, oC) :: (D, lst ys) :: news) → Off3 I C D news → ((@Ne Nat I C) ∧ (@Ne Nat I D) ∧ (@Ne Nat C D)) →
      wpAny (model prog w) A (eval elt (compEnvC scope cl C env)) (CompEnd h₀ L m { s with heap := h, toks := tk } I oI C oC D (lst ys) S (fun y nx' => nx' = news ∧ J (i + 1) (ys ++ [y]))) E' { s with heap := h, toks := tk })
    (fin : ∀ ys, J n ys → Fin ys news) : CompRest prog w A h₀ L m env elt x scope cl s S P Fin n 0 [] news :=
  my_comp (fun i ys nx => nx = news ∧ J i ys) ⟨rfl, j0⟩ (fun i v I oI C oC D m₂ ys nx h tk E' hi hv hJ hC hx F N off ne => by obtain ⟨rfl, hJ⟩ := hJ; exact turn i v I oI C oC D m₂ ys h tk E' hi hv hJ hC hx F N off ne) (fun ys nx hJ => by obtain ⟨rfl, hJ⟩ := hJ; exact fin ys hJ)
-- PL
section
set_option autoImplicit false
def cutL (l : List Nat) : List Nat := l.takeWhile (· != 0)
def cutStr (x : Str) : Str := ⟨(cutL x.cps.toList).toArray⟩
def strOf (ns : List Int) : Str := ⟨(ns.map Int.toNat).toArray⟩
def ahead (ns : List Int) : List Int := ns.takeWhile (· != 0)
def Chars (ns : List Int) : Prop := ∀ n ∈ ns, 0 ≤ n ∧ n ≤ 255
theorem nul_is : Str.ofString "\x00" = ⟨#[0]⟩ := by decide
theorem cutL_take : ∀ (l : List Nat) (i : Nat), l[i]? = some 0 → (∀ k, k < i → l[k]? ≠ some 0) → l.take i = cutL l
  | [], i, h, _ => by simp at h
  | a :: r, 0, h, _ => by simp at h; subst h; rfl
  | a :: r, i + 1, h, hk => by
    have ha : (a != 0) = true := by
      have := hk 0 (Nat.succ_pos i)
      simp at this
      simpa using this
    have ih := cutL_take r i (by simpa using h) (fun k hk' => by have := hk (k + 1) (Nat.succ_lt_succ hk'); simpa using this)
    simp only [List.take_succ_cons, cutL, List.takeWhile_cons, ha, if_true]
    rw [ih]; rfl
theorem cutL_none : ∀ (l : List Nat), (∀ k : Nat, l[k]? ≠ some 0) → l = cutL l
  | [], _ => rfl
  | a :: r, hk => by
    have ha : (a != 0) = true := by
      have := hk 0
      simp at this
      simpa using this
    have ih := cutL_none r (fun k => by have := hk (k + 1); simpa using this)
    simp only [cutL, List.takeWhile_cons, ha, if_true]
    rw [show List.takeWhile (· != 0) r = cutL r from rfl, ← ih]
theorem slice_eq (x : Str) (l u : Option Int) : Txt.slice x l u = StrLaws.sliceText x l u := rfl
theorem cut_found {x : Str} (h : 0 ≤ Txt.find x (Str.ofString "\x00")) : Txt.slice x none (some (Txt.find x (Str.ofString "\x00"))) = cutStr x := by
  rw [nul_is] at *
  unfold Txt.find at *
  rcases StrLaws.occ_head x ⟨#[0]⟩ 1 (Nat.le_refl 1) with ⟨e, _⟩ | ⟨i, r, e, hi, hk⟩
  · rw [e] at h; simp at h
  · rw [e]
    have h1 := (StrLaws.subAt_one x 0 i).mp hi
    have hlt : i < x.cps.toList.length := by
      rcases Nat.lt_or_ge i x.cps.toList.length with q | q
      · exact q
      · rw [List.getElem?_eq_none q] at h1; cases h1
    rw [slice_eq, StrLaws.sliceText_to ⟨by simp, by simp; simpa using Nat.le_of_lt hlt⟩]
    unfold cutStr
    rw [← cutL_take x.cps.toList i h1 (fun k hk' e' => hk k hk' ((StrLaws.subAt_one x 0 k).mpr e'))]
    simp
theorem cut_missed {x : Str} (h : ¬ 0 ≤ Txt.find x (Str.ofString "\x00")) : x = cutStr x := by
  rw [nul_is] at *
  unfold Txt.find at *
  rcases StrLaws.occ_head x ⟨#[0]⟩ 1 (Nat.le_refl 1) with ⟨e, hn⟩ | ⟨i, r, e, hi, hk⟩
  · unfold cutStr
    rw [← cutL_none x.cps.toList (fun k e' => hn k ((StrLaws.subAt_one x 0 k).mpr e'))]
  · rw [e] at h; simp at h
theorem cut_strOf : ∀ {ns : List Int}, Chars ns → cutStr (strOf ns) = strOf (ahead ns) := by
  intro ns h
  unfold cutStr strOf
  congr 1
  show (cutL (ns.map Int.toNat)).toArray = _
  congr 1
  induction ns with
  | nil => rfl
  | cons a r ih =>
    have ih := ih fun n hn => h n (List.mem_cons_of_mem _ hn)
    have ha := h a (List.mem_cons_self ..)
    simp only [List.map_cons, cutL, ahead, List.takeWhile_cons] at *
    by_cases h0 : a = 0
    · subst h0; rfl
    · have h1 : (a != 0) = true := by simpa using h0
      have h2 : (a.toNat != 0) = true := by simp; omega
      rw [if_pos h1, if_pos h2, ih]; rfl
theorem chars_ahead {ns : List Int} (h : Chars ns) : Chars (ahead ns) := fun n hn => h n (List.takeWhile_subset _ hn)
theorem ahead_le (ns : List Int) : (ahead ns).length ≤ ns.length := (List.takeWhile_sublist _).length_le
theorem strOf_len (ns : List Int) : (strOf ns).length = ns.length := by simp [strOf, Str.length]
theorem toNat_inj {a b : Int} (ha : 0 ≤ a) (hb : 0 ≤ b) (e : a.toNat = b.toNat) : a = b := by omega
theorem strOf_inj : ∀ {a b : List Int}, Chars a → Chars b → (strOf a = strOf b ↔ a = b) := by
  intro a b ha hb
  constructor
  · intro e
    have e' : a.map Int.toNat = b.map Int.toNat := by
      have := congrArg (fun x => x.cps.toList) e
      simpa [strOf] using this
    clear e
    induction a generalizing b with
    | nil => cases b with | nil => rfl | cons => cases e'
    | cons x r ih =>
      cases b with
      | nil => cases e'
      | cons y t =>
        simp only [List.map_cons, List.cons.injEq] at e'
        have hx := (ha x (List.mem_cons_self ..)).1
        have hy := (hb y (List.mem_cons_self ..)).1
        rw [toNat_inj hx hy e'.1, ih (fun n hn => ha n (List.mem_cons_of_mem _ hn)) (fun n hn => hb n (List.mem_cons_of_mem _ hn)) e'.2]
  · rintro rfl; rfl
noncomputable def before : List Int → List Int → Bool
  | [], t => !t.isEmpty
  | _ :: _, [] => false
  | a :: r, b :: t => if a = b then before r t else decide (a < b)
theorem before_lt : ∀ {a b : List Int}, Chars a → Chars b → decide ((strOf a).cps.toList < (strOf b).cps.toList) = before a b := by
  intro a
  induction a with
  | nil => intro b _ _; cases b <;> simp [strOf, before]
  | cons x r ih =>
    intro b ha hb
    cases b with
    | nil => simp [strOf, before]
    | cons y t =>
      have ih := ih (b := t) (fun n hn => ha n (List.mem_cons_of_mem _ hn)) (fun n hn => hb n (List.mem_cons_of_mem _ hn))
      have hx := (ha x (List.mem_cons_self ..)).1
      have hy := (hb y (List.mem_cons_self ..)).1
      have ih' : (List.map Int.toNat r < List.map Int.toNat t) ↔ before r t = true := by rw [← ih, decide_eq_true_eq]; exact Iff.rfl
      show decide (x.toNat :: List.map Int.toNat r < y.toNat :: List.map Int.toNat t) = _
      rw [StrLaws.lt_cons_cons]
      rw [Bool.eq_iff_iff]
      unfold before
      simp only [Bool.or_eq_true, Bool.and_eq_true, decide_eq_true_eq, beq_iff_eq, ih']
      by_cases e : x = y
      · subst e; simp
      · rw [if_neg e]
        simp only [decide_eq_true_eq]
        omega
theorem before_irrefl : ∀ a : List Int, before a a = false
  | [] => rfl
  | a :: r => by unfold before; rw [if_pos rfl]; exact before_irrefl r
/-- the comparison asked -/
def ordG (o : Str) (e n l le g ge : Bool) : Bool :=
  if o == Str.ofString "=" then e else if o == Str.ofString "#" then n else if o == Str.ofString "<" then l else if o == Str.ofString "<=" then le else if o == Str.ofString ">" then g else ge
section
variable {o : Str} {e n l le g ge : Bool}
theorem ordG_1 (h : (o == Str.ofString "=") = true) : e = ordG o e n l le g ge := by rw [ordG, if_pos h]
theorem ordG_2 (h1 : (o == Str.ofString "=") = false) (h : (o == Str.ofString "#") = true) : n = ordG o e n l le g ge := by rw [ordG, if_neg (by rw [h1]; decide), if_pos h]
theorem ordG_3 (h1 : (o == Str.ofString "=") = false) (h2 : (o == Str.ofString "#") = false) (h : (o == Str.ofString "<") = true) : l = ordG o e n l le g ge := by rw [ordG, if_neg (by rw [h1]; decide), if_neg (by rw [h2]; decide), if_pos h]
theorem ordG_4 (h1 : (o == Str.ofString "=") = false) (h2 : (o == Str.ofString "#") = false) (h3 : (o == Str.ofString "<") = false) (h : (o == Str.ofString "<=") = true) : le = ordG o e n l le g ge := by rw [ordG, if_neg (by rw [h1]; decide), if_neg (by rw [h2]; decide), if_neg (by rw [h3]; decide), if_pos h]
theorem ordG_5 (h1 : (o == Str.ofString "=") = false) (h2 : (o == Str.ofString "#") = false) (h3 : (o == Str.ofString "<") = false) (h4 : (o == Str.ofString "<=") = false) (h : (o == Str.ofString ">") = true) : g = ordG o e n l le g ge := by rw [ordG, if_neg (by rw [h1]; decide), if_neg (by rw [h2]; decide), if_neg (by rw [h3]; decide), if_neg (by rw [h4]; decide), if_pos h]
theorem ordG_6 (h1 : (o == Str.ofString "=") = false) (h2 : (o == Str.ofString "#") = false) (h3 : (o == Str.ofString "<") = false) (h4 : (o == Str.ofString "<=") = false) (h : (o == Str.ofString ">") = false) : ge = ordG o e n l le g ge := by rw [ordG, if_neg (by rw [h1]; decide), if_neg (by rw [h2]; decide), if_neg (by rw [h3]; decide), if_neg (by rw [h4]; decide), if_neg (by rw [h]; decide)]
end
abbrev ordI (o : Str) (a b : Int) : Bool := ordG o (a == b) (a != b) (decide (a < b)) (decide (a ≤ b)) (decide (b < a)) (decide (b ≤ a))
abbrev ordS (o : Str) (a b : Str) : Bool := ordG o (a == b) (a != b) (decide (a.cps.toList < b.cps.toList)) (!decide (b.cps.toList < a.cps.toList)) (decide (b.cps.toList < a.cps.toList)) (!decide (a.cps.toList < b.cps.toList))
end
-- N1
local macro_rules | `(tactic| k_mem) => `(tactic| first | exact List.Mem.head _ | assumption | (refine' mem_tl ?_; k_mem))
local macro_rules | `(tactic| cell_enter) => `(tactic| first | (refine' code_def ?k1 ?k2 ?k3 ?k4 ?k5 ?kA ?kF ?kK ?k6 ?k7 ?k8 ?k9 ?kB ?_ ?c2 ?c3 ?c4 ?c5; (case kA => exact rfl); (case kF => exact rfl); (case kK => assumption); (case k1 => k_asm); (case k2 => k_asm); (case k3 => k_asm); (case k4 => k_asm); (case k5 => k_asm); (case k6 => k_is); (case k7 => k_is); (case k8 => k_room); (case k9 => first | exact BindsTo.of_eq rfl | exact binds_K (by k_in) rfl (by k_is) rfl rfl rfl); (case c5 => decide); (case kB => exact locs rfl); (case c2 => exact rfl); (case c3 => exact rfl); (case c4 => exact rfl); k_whole; intro g' L' h' FG' F' N' B' X' T'; (try dsimp only); (try k_lift B'); (try k_fold)) | (refine' code_defC ?k1 ?k2 ?k3 ?k4 ?k5 ?kA ?kF ?kK ?k6 ?k7 ?k8 ?k9 ?kB ?kD ?_ ?c2 ?c3 ?c4; (case kA => exact rfl); (case kF => exact rfl); (case kK => assumption); (case k1 => k_asm); (case k2 => k_asm); (case k3 => k_asm); (case k4 => k_asm); (case k5 => k_asm); (case k6 => k_is); (case k7 => k_is); (case k8 => k_room); (case k9 => first | exact BindsTo.of_eq rfl | exact binds_K (by k_in) rfl (by k_is) rfl rfl rfl); (case kB => exact rfl); (case kD => decide +kernel); (case c2 => exact rfl); (case c3 => exact rfl); (case c4 => exact rfl); k_whole; intro g' L' h' tk' cells' FG' F' N' Y' B' X' T' l1; (try k_lt l1); k_cells Y'; (try simp only [List.cons_append, List.nil_append] at N'); (try dsimp only); (try k_lift B'); (try k_fold)))
local macro_rules | `(tactic| k_room) => `(tactic| first | ((try simp only [depth_under_make, depth_under_kw, depth_in1, depth_deeper, depth_caller]); decide) | ((try simp only [depth_under_make, depth_under_kw, depth_in1, depth_deeper, depth_caller]); (try dsimp only [ktrTop]); (first | exact room_k (by assumption) (Nat.le_of_ble_eq_true rfl) | (show _ < 1000; omega) | (show _ < 9900; omega))))
local macro_rules | `(tactic| k_units) => `(tactic| first | exact Nat.le_of_ble_eq_true rfl | ((try simp only [units_in1, units_deeper, Around.mark_units, units_caller, units_under_make]); (try dsimp only [ktrTop]); (first | exact room_k (by assumption) (Nat.le_of_ble_eq_true rfl) | (show _ < 1000; omega) | (show _ < 9900; omega))))
section
abbrev S (x : String) : Str := Str.ofString x
abbrev ent (w : World) (x : String) (k : Tok) (v : Value) : DictEntry := { hash := PyData.keyHash w.params (S x), key := .str (S x) k, val := v }
/-- the fields of a Type -/
abbrev typeO (w : World) (kt vt : Nat → Tok) (num : Int) (form : Str) (size : Int) (base : Value) (len : Int) (f p h : Addr) : Obj :=
  dictOf [ent w "number" (kt 0) (.int num (vt 0)), ent w "form" (kt 1) (.str form (vt 1)), ent w "size" (kt 2) (.int size (vt 2)), ent w "base" (kt 3) base, ent w "length" (kt 4) (.int len (vt 4)),
    ent w "fields" (kt 5) (.ref f), ent w "level" (kt 6) (.int 0 (vt 6)), ent w "params" (kt 7) (.ref p), ent w "module" (kt 8) (.str (S "") (vt 8)), ent w "label" (kt 9) (.str (S "") (vt 9)),
    ent w "hidden" (kt 10) (.ref h), ent w "exno" (kt 11) (.int 0 (vt 11))] 12
abbrev tokF (k0 k1 k2 k3 k4 k5 k6 k7 k8 k9 k10 k11 : Tok) : Nat → Tok
  | 0 => k0 | 1 => k1 | 2 => k2 | 3 => k3 | 4 => k4 | 5 => k5 | 6 => k6 | 7 => k7 | 8 => k8 | 9 => k9 | 10 => k10 | _ => k11
theorem typeO_intro (w : World) (k0 k1 k2 k3 k4 k5 k6 k7 k8 k9 k10 k11 v0 v1 v2 v4 v6 v8 v9 v11 : Tok) (num : Int) (form : Str) (size : Int) (base : Value) (len : Int) (f p h : Addr) :
    ∃ kt vt f' p' h', dictOf [ent w "number" k0 (.int num v0), ent w "form" k1 (.str form v1), ent w "size" k2 (.int size v2), ent w "base" k3 base, ent w "length" k4 (.int len v4),
    ent w "fields" k5 (.ref f), ent w "level" k6 (.int 0 v6), ent w "params" k7 (.ref p), ent w "module" k8 (.str (S "") v8), ent w "label" k9 (.str (S "") v9),
    ent w "hidden" k10 (.ref h), ent w "exno" k11 (.int 0 v11)] 12 = typeO w kt vt num form size base len f' p' h' :=
  ⟨tokF k0 k1 k2 k3 k4 k5 k6 k7 k8 k9 k10 k11, tokF v0 v1 v2 0 v4 0 v6 0 v8 v9 0 v11, f, p, h, rfl⟩
local macro_rules | `(tactic| k_get) => `(tactic| exact rfl)
section
variable {prog : Program} {w : World} {A : Around} {E : Value → Shared → Prop} {s : Shared} {K : Frag} {x C dx L : Addr} {h₀ : Heap} {m : Str → Option Value} {news news' : List (Addr × Obj)} {ox : Obj} {more : List DictEntry} {n : Nat} {name : Str} {v v₀ : Value} {hh : Int} {tc : Tok}
theorem isStr_self (name : Str) (tc : Tok) : (Value.str name tc).isStr name = true := by simp [Value.isStr]
theorem set_head {Q : Unit → Shared → Prop} (F : Fr h₀ L s.heap m) (X₀ : K.In h₀) (N : News h₀ L s.heap news) (I : InstAt s.heap x ox C (some (dictOf ({ hash := hh, key := .str name tc, val := v₀ } :: more) n))) (hd : ox.dict = some dx)
    (hs : findIn K (.ref C) "__setattr__" = some (some (.builtin "object.__setattr__"))) (hp : plainOver K C = true) (ht : takerIn K C name = some none) (hh' : hasDictIn K C = true)
    (U : Upd dx (dictOf ({ hash := hh, key := .str name tc, val := v₀ } :: more) n) (dictOf ({ hash := hh, key := .str name tc, val := v } :: more) n) news news') (hz : more.length ≤ 999)
    (h : ∀ h', Fr h₀ L h' m → News h₀ L h' news' → Q () { s with heap := h', toks := s.toks + 2 }) :
    wpAny (model prog w) A (setAttr (.ref x) name v) Q E s :=
  set_dict F X₀ N I hd hs hp ht hh' (by simp [getL, isStr_self]) (by simp [putL, putN, isStr_self]) U (by rw [List.length_cons]; omega) h
end
local macro_rules | `(tactic| walk_at "setAttr ref") => `(tactic| (k_here; k_dflt ((refine' set_head ?k1 ?k2 ?k3 ?k4 ?k5 ?k6 ?k7 ?k8 ?k9 ?k12 ?k13 ?_; (case k1 => k_asm); (case k2 => k_asm); (case k3 => k_asm); (case k4 => k_inst); (case k5 => exact rfl); (case k6 => k_is); (case k7 => k_is); (case k8 => k_is); (case k9 => k_is); (case k12 => k_upd); (case k13 => omega); k_whole; intro h' F' N'; (try k_sweep)))))
abbrev newR (w : World) (cnt : Int) (form : Str) (size : Int) (hh : Int) (tc : Tok) (more : List DictEntry) (n : Nat) (r : Value) (own : Led) (o' : Obj) : Prop :=
  ∃ (t d : Addr) (o : Obj) (tc' : Tok) (kt vt : Nat → Tok) (f p h : Addr), r = .ref t ∧ o = typeO w kt vt (cnt + 1) form size .none 0 f p h ∧
    own = [(t, instObj 136 d), (d, o)] ∧ o' = dictOf ({ hash := hh, key := .str (S "counter") tc, val := .int (cnt + 1) tc' } :: more) n ∧ @LT.lt Nat _ d t
abbrev newPost (w : World) (dT : Addr) (cnt : Int) (form : Str) (size : Int) (hh : Int) (tc : Tok) (more : List DictEntry) (n : Nat) (o₀ : Obj) (rest : Led) (r : Value) (news' : Led) : Prop :=
  ∃ own o', news' = own ++ (dT, o') :: rest ∧ (∀ q ∈ own, AllLt q.1 ((dT, o₀) :: rest)) ∧ newR w cnt form size hh tc more n r own o'
theorem allLt_up {a b : Addr} {l : Led} (h : AllLt a l) (hab : @LT.lt Nat _ a b) : AllLt b l := allLt_iff.mpr fun p hp => Nat.lt_trans (allLt_iff.mp h p hp) hab
theorem new_end {w : World} {dT : Addr} {cnt : Int} {form : Str} {size : Int} {hh : Int} {tc tc' : Tok} {more : List DictEntry} {n : Nat} {o₀ : Obj} {rest : Led} {h₀ : Heap} {L : Addr} {m : Str → Option Value} {s : Shared} {Q : Value → Shared → Prop}
    {t d l1 l2 l3 f p h : Addr} {o1 o2 o3 : Obj} {h' : Heap} {tk : Nat} {k0 k1 k2 k3 k4 k5 k6 k7 k8 k9 k10 k11 v0 v1 v2 v4 v6 v8 v9 v11 : Tok}
    (ret : ∀ r news' h' tk', Fr h₀ L h' m → News h₀ L h' news' → newPost w dT cnt form size hh tc more n o₀ rest r news' → Q r { s with heap := h', toks := tk' })
    (F : Fr h₀ L h' m) (N : News h₀ L h' ((l1, o1) :: (l2, o2) :: (l3, o3) :: (t, instObj 136 d) :: (d, dictOf [ent w "number" k0 (.int (cnt + 1) v0), ent w "form" k1 (.str form v1), ent w "size" k2 (.int size v2), ent w "base" k3 .none, ent w "length" k4 (.int 0 v4),
    ent w "fields" k5 (.ref f), ent w "level" k6 (.int 0 v6), ent w "params" k7 (.ref p), ent w "module" k8 (.str (S "") v8), ent w "label" k9 (.str (S "") v9),
    ent w "hidden" k10 (.ref h), ent w "exno" k11 (.int 0 v11)] 12) :: (dT, dictOf ({ hash := hh, key := .str (S "counter") tc, val := .int (cnt + 1) tc' } :: more) n) :: rest))
    (hl : @LT.lt Nat _ dT d ∧ AllLt d rest) (hl2 : @LT.lt Nat _ d t) : Q (.ref t) { s with heap := h', toks := tk } := by
  obtain ⟨kt, vt, f', p', h2, e⟩ := typeO_intro w k0 k1 k2 k3 k4 k5 k6 k7 k8 k9 k10 k11 v0 v1 v2 v4 v6 v8 v9 v11 (cnt + 1) form size .none 0 f p h
  refine ret _ _ _ _ F (fun q hq => N q (.tail _ (.tail _ (.tail _ hq)))) ⟨[(t, instObj 136 d), (d, _)], _, rfl, ?_, t, d, _, tc', kt, vt, f', p', h2, rfl, e, rfl, rfl, hl2⟩
  intro q hq
  rcases List.mem_cons.mp hq with rfl | hq
  · exact allLt_up (a := d) hl hl2
  · rw [List.mem_singleton.mp hq]; exact hl
set_option maxHeartbeats 8000000 in
theorem new_0 (w : World) (ty dT : Addr) (cnt : Int) (form : Str) (size : Int) (hh : Int) (tc tv tf ts : Tok) (more : List DictEntry) (n : Nat) (rest : Led)
    (hmore : more.length ≤ 50) (hoff : OwnOff rest [dT]) (m1 : (ty, instObj 172 dT) ∈ rest) :
    Ctr w 162 [.ref ty, .str form tf, .int size ts] ((dT, dictOf ({ hash := hh, key := .str (S "counter") tc, val := .int cnt tv } :: more) n) :: rest) 10 60
      (newPost w dT cnt form size hh tc more n (dictOf ({ hash := hh, key := .str (S "counter") tc, val := .int cnt tv } :: more) n) rest) := by
  intro mean mg mb dp un gd cn cs fa ccd cl outer A₀ base h₀ L m s Q E B F X N T hk hdp hu hret
  revert X; k_fill; intro X
  have hrc : recursionLimit = 1000 := rfl
  refine wpAny_call ?_
  k_dflt cell_enter
  k_steps
  refine new_end hret (by assumption) (by assumption) (by assumption) (by assumption)
theorem new_c (w : World) (ty dT : Addr) (cnt : Int) (form : Str) (size : Int) (hh : Int) (tc tv tf ts : Tok) (more : List DictEntry) (n : Nat) (news : Led) (g : Obj → Led)
    (U : UpdF dT (dictOf ({ hash := hh, key := .str (S "counter") tc, val := .int cnt tv } :: more) n) news g) (m1 : (ty, instObj 172 dT) ∈ news) (hne : @Ne Nat ty dT) (hmore : more.length ≤ 50) :
    Ctr w 162 [.ref ty, .str form tf, .int size ts] news 10 60 (fun r news' => ∃ own o', news' = own ++ g o' ∧ (∀ q ∈ own, AllLt q.1 news) ∧ newR w cnt form size hh tc more n r own o') :=
  Ctr.upd U fun rest hoff hsub => new_0 w ty dT cnt form size hh tc tv tf ts more n rest hmore hoff (hsub _ m1 hne)
theorem new_w {w : World} {ty dT : Addr} {cnt : Int} {form : Str} {size hh : Int} {tc tv tf ts : Tok} {more : List DictEntry} {n : Nat} {news : Led} {g : Obj → Led}
    (e : (ty, instObj 172 dT) ∈ news ∧ UpdF dT (dictOf ({ hash := hh, key := .str (S "counter") tc, val := .int cnt tv } :: more) n) news g ∧ more.length ≤ 50 ∧ @Ne Nat ty dT) :
    CtrU w 162 [.ref ty, .str form tf, .int size ts] news 10 60 (fun Q s h₀ L m => ∀ (h' : Heap) (tk' : Nat) (t d : Addr) (tc' : Tok) (kt vt : Nat → Tok) (f p h : Addr), @LT.lt Nat _ d t → AllLt d news → Fr h₀ L h' m →
      News h₀ L h' ((t, instObj 136 d) :: (d, typeO w kt vt (cnt + 1) form size .none 0 f p h) :: g (dictOf ({ hash := hh, key := .str (S "counter") tc, val := .int (cnt + 1) tc' } :: more) n)) → Q (.ref t) { s with heap := h', toks := tk' }) :=
  (new_c w ty dT cnt form size hh tc tv tf ts more n news g e.2.1 e.1 e.2.2.2 e.2.2.1).toU fun Q s h₀ L m k r news' h' tk' F N P => by
    obtain ⟨own, o', rfl, hl, t, d, o, tc', kt, vt, f, p, h, rfl, rfl, rfl, rfl, hlt⟩ := P
    exact k h' tk' t d tc' kt vt f p h hlt (hl _ (.tail _ (.head _))) F N
end
-- R0
abbrev arrO (w : World) (k0 k1 k2 v0 : Tok) (len : Int) (el : Value) (c : Addr) : Obj := dictOf [ent w "length" k0 (.int len v0), ent w "element" k1 el, ent w "cells" k2 (.ref c)] 3
abbrev chrS (n : Int) : Str := ⟨#[n.toNat]⟩
def CellsOf (D : List (PyData × PyData)) (len : Int) (f : Nat → Int) : Prop := ∀ i : Nat, (i : Int) < len → (Spec.lookup (.int i) D).getD (.int 0) = .int (f i)
theorem join_chrs (e : Str) (he : e = ⟨#[]⟩) (ks : List Int) : Str.join e (ks.map chrS) = strOf ks := by
  subst he
  induction ks with
  | nil => rfl
  | cons a r ih =>
    cases r with
    | nil => rfl
    | cons b r =>
      show (chrS a ++ ⟨#[]⟩ ++ Str.join ⟨#[]⟩ ((b :: r).map chrS)) = _
      rw [ih]
      refine Str.ext' ?_
      simp [strOf, Str.cps_append, chrS]
theorem sum_ones (ks : List Int) : ((ks.map chrS).map (·.length)).sum = ks.length := by
  induction ks with
  | nil => rfl
  | cons a r ih => simp only [List.map_cons, List.sum_cons, List.length_cons, ih]; show 1 + r.length = _; omega
section
variable {prog : Program} {w : World} {A : Around} {E : Value → Shared → Prop} {s : Shared} {h₀ : Heap} {L c : Addr} {m : Str → Option Value} {news news' : Led} {o : Obj} {kvs : List (Int × Value)} {D : List (PyData × PyData)} {len : Int} {f : Nat → Int} {i : Nat} {t u : Tok} {Q : Value → Shared → Prop}
theorem flat_int {v : Value} {n : Int} (hv : PyProof.V.Flat v (.int n)) : ∃ t, v = .int n t := by
  have := hv default
  cases this
  exact ⟨_, rfl⟩
theorem get_cell (N : News h₀ L s.heap news) (m3 : (c, o) ∈ news) (hcs : (c == sysModules) = false) (ho : o.IsDictOf (intKind prog w) kvs) (hf : PyProof.V.FlatPairs PyData.int kvs D) (hc : CellsOf D len f) (hi : (i : Int) < len)
    (h : ∀ t', Q (.int (f i) t') { s with toks := s.toks + 1 }) : wpAny (model prog w) A (call (.builtin "dict.get") [.ref c, .int (i : Int) t, .int 0 u]) Q E s := by
  refine call_get2_intTab (TabAt.ofNews N m3 hcs ho hf) (PyProof.V.Flat.int 0 u) fun v hv => ?_
  rw [hc i hi] at hv
  obtain ⟨t', rfl⟩ := flat_int hv
  exact h _
theorem append_L {vs : List Value} {n : Nat} {x : Value} {Q : Value → Shared → Prop} (F : Fr h₀ L s.heap m) (N : News h₀ L s.heap news) (U : Upd c (listOf vs.toArray n) (listOf (vs ++ [x]).toArray (n + 1)) news news') (hsz : vs.length ≤ 1000)
    (h : ∀ h', Fr h₀ L h' m → News h₀ L h' news' → Q .none { s with heap := h' }) : wpAny (model prog w) A (call (.builtin "list.append") [.ref c, x]) Q E s := by
  refine append_K (its := vs.toArray) (n := n) F N ?_ h ?_
  · rw [List.push_toArray]; exact U
  · rw [List.size_toArray, sizeLine_eq]; omega
theorem join_L {vs : List Value} {n : Nat} {ks : List Int} {ys : List Str} {e : Str} (N : News h₀ L s.heap news) (hm : (c, listOf vs.toArray n) ∈ news) (hs : StrsAre vs ys) (hy : ys = ks.map chrS) (he : e = ⟨#[]⟩) (hk : ks.length ≤ 1000)
    (h : ∀ t' k, Q (.str (strOf ks) t') { s with toks := k }) : wpAny (model prog w) A (call (.builtin "str.join") [.str e t, .ref c]) Q E s := by
  subst hy
  refine join_listW (items := vs.toArray) (N.isList hm) hs (by rw [he]; decide) (by rw [sum_ones, List.length_map]; omega) fun t' k => ?_
  have e' : Txt.join e (ks.map chrS) = strOf ks := (StrLaws.glued_eq_join e _).trans (join_chrs e he ks)
  rw [e']
  exact h t' k
end
theorem map_range_ext {f g : Nat → Int} {n : Nat} (h : ∀ i, i < n → f i = g i) : (List.range n).map f = (List.range n).map g := List.map_congr_left fun i hi => h i (List.mem_range.mp hi)
theorem ahead_all : ∀ {ns : List Int}, (∀ n ∈ ns, n ≠ 0) → ahead ns = ns
  | [], _ => rfl
  | a :: r, h => by
    have h1 : (a != 0) = true := by simpa using h a (List.mem_cons_self ..)
    simp only [ahead, List.takeWhile_cons, h1, if_true]
    rw [show List.takeWhile (· != 0) r = ahead r from rfl, ahead_all fun n hn => h n (List.mem_cons_of_mem _ hn)]
theorem ahead_append : ∀ {ns ms : List Int}, (∀ n ∈ ns, n ≠ 0) → ahead (ns ++ 0 :: ms) = ns
  | [], _, _ => rfl
  | a :: r, ms, h => by
    have h1 : (a != 0) = true := by simpa using h a (List.mem_cons_self ..)
    simp only [ahead, List.cons_append, List.takeWhile_cons, h1, if_true]
    rw [show List.takeWhile (· != 0) (r ++ 0 :: ms) = ahead (r ++ 0 :: ms) from rfl, ahead_append fun n hn => h n (List.mem_cons_of_mem _ hn)]
theorem ahead_range_full {f : Nat → Int} {n : Nat} (h : ∀ j, j < n → f j ≠ 0) : ahead ((List.range n).map f) = (List.range n).map f :=
  ahead_all fun x hx => by obtain ⟨j, hj, rfl⟩ := List.mem_map.mp hx; exact h j (List.mem_range.mp hj)
theorem ahead_range_cut {f : Nat → Int} {n i : Nat} (hi : i < n) (h : ∀ j, j < i → f j ≠ 0) (h0 : f i = 0) : ahead ((List.range n).map f) = (List.range i).map f := by
  obtain ⟨k, rfl⟩ : ∃ k, n = i + (k + 1) := ⟨n - i - 1, by omega⟩
  rw [List.range_add, List.map_append]
  have e : (List.map (fun x => i + x) (List.range (k + 1))).map f = 0 :: ((List.range k).map fun j => f (i + (j + 1))) := by
    rw [List.range_succ_eq_map]
    simp [h0, Function.comp_def]
  rw [e]
  exact ahead_append fun x hx => by obtain ⟨j, hj, rfl⟩ := List.mem_map.mp hx; exact h j (List.mem_range.mp hj)
theorem fmod_ok {x m : Int} (h : 1 ≤ m) : 0 ≤ Int.fmod x m ∧ Int.fmod x m < m := ⟨Int.fmod_nonneg_of_pos x (by omega), Int.fmod_lt_of_pos x (by omega)⟩
theorem fdiv_ok {x m : Int} (h0 : 0 ≤ x) (h : 1 ≤ m) : 0 ≤ Int.fdiv x m := Int.fdiv_nonneg h0 (by omega)
section
variable {prog : Program} {w : World} {A : Around} {E : Value → Shared → Prop} {s : Shared} {h₀ : Heap} {L l : Addr} {m : Str → Option Value} {news : Led} {vs : List Value} {ns : List Int} {n : Nat} {k : Int} {u : Tok} {Q : Value → Shared → Prop} {value slice : PySem.Expr}
theorem len_L (N : News h₀ L s.heap news) (hm : (l, listOf vs.toArray n) ∈ news) (hi : IntsAre vs ns) (hb : ns.length ≤ 100000)
    (h : Q (.int (ns.length : Int) (s.toks + 1)) { s with toks := s.toks + 1 + 1 }) : wpAny (model prog w) A (call (.builtin "len") [.ref l]) Q E s := kst_len N hm hi.length (by omega) h
theorem item_L (N : News h₀ L s.heap news) (hm : (l, listOf vs.toArray n) ∈ news) (hi : IntsAre vs ns) (hb : ns.length ≤ 100000) (hk : 0 ≤ k ∧ k < (ns.length : Int)) (h : ∀ t, Q (.int (ns.getD k.toNat 0) t) s)
    (hs : subscripted slice false (.ref l) (.int k u) = operate [.ref l, .int k u] (getItem (.ref l) (.int k u))) (hg : ∀ r, letTemporaryGo value (.ref l) r = pure ()) :
    wpAny (model prog w) A (subscriptTail value slice (.ref l) (.int k u)) Q E s := by
  have hlt : k.toNat < ns.length := by omega
  obtain ⟨t, ht⟩ := hi.get k.toNat (ns.getD k.toNat 0) (by rw [List.getD_eq_getElem?_getD, List.getElem?_eq_getElem hlt]; rfl)
  exact item_list (items := vs.toArray) (N.isList hm) hk.1 (by omega) (by simpa using ht) (h t) hs hg
end
theorem take40 (l : List Int) : 1 ≤ (List.take 40 (l ++ [0])).length ∧ (List.take 40 (l ++ [0])).length ≤ 40 := by
  rw [List.length_take, List.length_append]; simp only [List.length_cons, List.length_nil]; omega
-- C1
set_option maxHeartbeats 8000000 in
theorem cut_c (w : World) (x : Str) (t : Tok) (news : Led) (hx : x.length ≤ 100) :
    Ctr w 91 [.str x t] news 10 60 (fun r news' => ∃ t', r = .str (cutStr x) t' ∧ news' = news) := by
  intro mean mg mb dp un gd cn cs fa ccd cl outer A₀ base h₀ L m s Q E B F X N T hk hdp hu hret
  revert X; k_fill; intro X
  have hrc : recursionLimit = 1000 := rfl
  refine wpAny_call ?_
  k_dflt cell_enter
  k_steps
  · rw [cut_found (by assumption)]
    exact hret _ _ _ _ (by assumption) (by assumption) ⟨_, rfl, rfl⟩
  · have e := cut_missed (x := x) (by assumption)
    exact hret _ _ _ _ (by assumption) (by assumption) ⟨_, congrArg (Value.str · t) e, rfl⟩
theorem cut_w {w : World} {x : Str} {t : Tok} {news : Led} (e : x.length ≤ 100) : CtrU w 91 [.str x t] news 10 60 (fun Q s h₀ L m => ∀ (t' : Tok) (h' : Heap) (tk' : Nat), Fr h₀ L h' m → News h₀ L h' news → Q (.str (cutStr x) t') { s with heap := h', toks := tk' }) := (cut_c w x t news e).same
-- C2
local macro_rules | `(tactic| tbn_below) => `(tactic| (k_here; (try dsimp only [List.cons_append, List.nil_append])))
local macro_rules | `(tactic| tbn_conj) => `(tactic| (refine' ⟨?k1, ?k2, ?k3, ?k4, ?k5, ?kK, ?kd, ?ku⟩; (case k1 => k_asm); (case k2 => k_asm); (case k3 => k_asm); (case k4 => k_asm); (case k5 => k_asm); (case kK => first | exact rfl | assumption); (case kd => k_room); (case ku => k_units)))
local macro_rules | `(tactic| tbn_lt) => `(tactic| ((rename News _ _ _ _ => N9); k_dflt ((try dsimp only [List.cons_append, List.nil_append] at N9 ⊢); (try k_sweep)); (try k_fold)))
local macro_rules | `(tactic| k_ne) => `(tactic| (refine neN ?_; (try dsimp only); first | assumption | exact Ne.symm (by assumption) | exact Nat.ne_of_lt (by assumption) | exact Nat.ne_of_gt (by assumption) | exact ne_all (by assumption) (by k_mem) | exact Ne.symm (ne_all (by assumption) (by k_mem)) | exact ne_all2 (by assumption) (by assumption) (by k_mem) | exact Ne.symm (ne_all2 (by assumption) (by assumption) (by k_mem)) | omega))
local macro_rules | `(tactic| k_lt $h:ident) => `(tactic| (replace $h := allLt_of $h; have hA9 := $h; simp only [AllLt, and_true] at $h:ident))
local macro_rules | `(tactic| ktr_rel) => `(tactic| first | k_mem | k_updF | k_ne | exact Nat.le_of_ble_eq_true rfl | exact rfl | exact True.intro | decide | exact ab_up (by assumption) (by omega) | omega)
local macro_rules | `(tactic| ktr_unf) => `(tactic| first | (refine' And.intro ?k1 ?k2; (case k1 => ktr_rel); (case k2 => ktr_unf)) | ktr_rel)
local macro_rules | `(tactic| ktn_call $c $a) => `(tactic| (tbn_below; (with_reducible show wpAny _ _ (call (Value.ref $a) _) _ _ _); k_dflt (refine' CtrU.std ($c ?p) ?k ?_; (case k => tbn_conj); (case p => ktr_unf))))
local macro_rules | `(tactic| ktr_call $c $a) => `(tactic| (ktn_call $c $a; intros; tbn_lt))
local macro_rules | `(tactic| ktr_step) => `(tactic| ((rename AllLt _ _ => hl8); have hl7 := hl8; simp only [AllLt, and_true] at hl8))
local macro_rules | `(tactic| walk_at "ite") => `(tactic| (k_closed; first | (refine' PySem.W.ite_pos ?c ?_; (case c => decide)) | (refine' PySem.W.ite_neg ?c ?_; (case c => decide))))
local macro_rules | `(tactic| walk_at "call builtin:dict.get") => `(tactic| (k_here; k_dflt (refine' get_cell ?k1 ?k2 ?k3 ?k4 ?k5 ?k6 ?k7 ?_; (case k1 => k_asm); (case k2 => k_mem); (case k3 => assumption); (case k4 => assumption); (case k5 => assumption); (case k6 => assumption); (case k7 => omega)); intro t9))
local macro_rules | `(tactic| walk_at "call builtin:list.append") => `(tactic| (k_here; (with_reducible show wpAny _ _ (call (Value.builtin _) [Value.ref _, _]) _ _ _); k_dflt (refine' append_L ?k1 ?k2 ?k3 ?z ?_; (case k1 => k_asm); (case k2 => k_asm); (case k3 => k_upd); (case z => omega); k_whole); intro h' F' N'; (try k_sweep)))
local macro_rules | `(tactic| walk_at "MyPost") => `(tactic| dsimp only [MyPost])
local macro_rules | `(tactic| walk_at "call builtin:str.join") => `(tactic| (k_here; (with_reducible show wpAny _ _ (call (Value.builtin "str.join") [Value.str _ _, Value.ref _]) _ _ _); k_dflt (refine' join_L ?k1 ?k2 ?k3 ?k4 ?k5 ?k6 ?_; (case k1 => k_asm); (case k2 => k_mem); (case k3 => assumption); (case k4 => exact rfl); (case k5 => decide); (case k6 => first | omega | (simp only [List.length_map, List.length_range]; omega))); intro t9 k9))
local macro_rules | `(tactic| walk_at "call builtin:len") => `(tactic| (k_here; (with_reducible show wpAny _ _ (call (Value.builtin "len") [Value.ref _]) _ _ _); k_dflt (refine' len_L ?k1 ?k2 ?k3 ?k4 ?_; (case k1 => k_asm); (case k2 => k_mem); (case k3 => assumption); (case k4 => omega); k_whole)))
local macro_rules | `(tactic| walk_at "subscriptTail") => `(tactic| (k_here; (with_reducible show wpAny _ _ (subscriptTail _ _ (Value.ref _) (Value.int _ _)) _ _ _); k_dflt (refine' item_L ?k1 ?k2 ?k3 ?k4 ?k5 ?_ ?k6 ?k7; (case k1 => k_asm); (case k2 => k_mem); (case k3 => assumption); (case k4 => omega); (case k5 => first | omega | exact fmod_ok (by omega)); (case k6 => with_unfolding_all rfl); (case k7 => (intro _; with_unfolding_all rfl))); intro t9))
local macro_rules | `(tactic| walk_at "pyIter ref") => `(tactic| (k_here; (with_reducible show wpAny _ _ (pyIter (Value.ref _)) _ _ _); refine hold ?_))
set_option maxHeartbeats 8000000 in
theorem textof_c (w : World) (a d c : Addr) (k0 k1 k2 v0 : Tok) (len : Int) (el : Value) (o : Obj) (kvs : List (Int × Value)) (D : List (PyData × PyData)) (f : Nat → Int) (news : Led)
    (hlen : 0 ≤ len ∧ len ≤ 10) (ho : o.IsDictOf (intKind Challenge.rw_nu0318_01.row.prog w) kvs) (hf : PyProof.V.FlatPairs PyData.int kvs D) (hc : CellsOf D len f) (hch : ∀ i : Nat, (i : Int) < len → 0 ≤ f i ∧ f i ≤ 255)
    (m1 : (a, instObj 52 d) ∈ news) (m2 : (d, arrO w k0 k1 k2 v0 len el c) ∈ news) (m3 : (c, o) ∈ news) (hcs : (c == sysModules) = false) :
    Ctr w 63 [.ref a] news 10 60 (fun r news' => ∃ t', r = .str (strOf (ahead ((List.range len.toNat).map f))) t' ∧ news' = news) := by
  intro mean mg mb dp un gd cn cs fa ccd cl outer A₀ base h₀ L m s Q E B F X N T hk hdp hu hret
  revert X; k_fill; intro X
  have hrc : recursionLimit = 1000 := rfl
  refine wpAny_call ?_
  k_dflt cell_enter
  k_steps
  unfold Hold
  rename_i l' h2 l1 h3 F' N' h4 tk t1 u1 v1 hR F1 N1 hk1
  refine my_range (σ := List Value) (n := len.toNat) (rest := news) (fun vs => [(l', listOf vs.toArray vs.length)]) (fun _ => [(S "chars", .ref l'), (S "arr", .ref a)]) (fun i vs => StrsAre vs (((List.range i).map f).map chrS) ∧ vs.length = i ∧ ∀ j : Nat, j < i → f j ≠ 0) []
    rfl hR ?a2 ?a3 F1 N1 (fun _ => rfl) (off_lt' l1) ?a4 ?a5 ?_ ?_
  case a2 => exact small_of (by omega) (by omega)
  case a3 => exact size_of (by omega)
  case a4 => exact List.forall_mem_cons.mpr ⟨rfl, List.forall_mem_cons.mpr ⟨rfl, List.forall_mem_nil _⟩⟩
  case a5 => exact ⟨.nil, rfl, fun _ h => absurd h (Nat.not_lt_zero _)⟩
  · intro vs i t u h tk rest' hi hJ hoff hsub F2 N2
    obtain ⟨hvs, hvl, hnz⟩ := hJ
    have m1' := hsub _ m1
    have m2' := hsub _ m2
    have m3' := hsub _ m3
    have hfi := hch i (by omega)
    clear m1 m2 m3
    dsimp only [List.cons_append, List.nil_append, kstB] at F2 N2
    k_steps
    · refine hret _ _ _ _ (by assumption) (led_drop (by assumption) fun p hp => .tail _ (hsub p hp)) ⟨_, congrArg (fun z => Value.str (strOf z) _) (ahead_range_cut (by omega) hnz (by assumption)).symm, rfl⟩
    · refine myend_push (by assumption) (by assumption) (List.forall_mem_cons.mpr ⟨rfl, List.forall_mem_cons.mpr ⟨rfl, List.forall_mem_nil _⟩⟩) ⟨?_, ?_, ?_⟩
      · rw [List.range_succ, List.map_append, List.map_append]
        exact StrsAre.append' hvs (.cons _ _ .nil)
      · rw [List.length_append, hvl]; rfl
      · intro j hj
        rcases Nat.lt_succ_iff_lt_or_eq.mp hj with h | rfl
        · exact hnz j h
        · assumption
  · intro vs u h tk hJ F2 N2
    obtain ⟨hvs, hvl, hnz⟩ := hJ
    dsimp only [List.cons_append, List.nil_append, kstB] at F2 N2
    k_steps
    refine hret _ _ _ _ (by assumption) (led_drop (by assumption) fun p hp => .tail _ hp) ⟨_, congrArg (fun z => Value.str (strOf z) _) (ahead_range_full hnz).symm, rfl⟩
theorem textof_w {w : World} {a d c : Addr} {k0 k1 k2 v0 : Tok} {len : Int} {el : Value} {o : Obj} {kvs : List (Int × Value)} {D : List (PyData × PyData)} {f : Nat → Int} {news : Led}
    (e : (a, instObj 52 d) ∈ news ∧ (d, arrO w k0 k1 k2 v0 len el c) ∈ news ∧ (c, o) ∈ news ∧ (0 ≤ len ∧ len ≤ 10) ∧ o.IsDictOf (intKind Challenge.rw_nu0318_01.row.prog w) kvs ∧ PyProof.V.FlatPairs PyData.int kvs D ∧ CellsOf D len f ∧ (∀ i : Nat, (i : Int) < len → 0 ≤ f i ∧ f i ≤ 255) ∧ (c == sysModules) = false) :
    CtrU w 63 [.ref a] news 10 60 (fun Q s h₀ L m => ∀ (t' : Tok) (h' : Heap) (tk' : Nat), Fr h₀ L h' m → News h₀ L h' news → Q (.str (strOf (ahead ((List.range len.toNat).map f))) t') { s with heap := h', toks := tk' }) :=
  (textof_c w a d c k0 k1 k2 v0 len el o kvs D f news e.2.2.2.1 e.2.2.2.2.1 e.2.2.2.2.2.1 e.2.2.2.2.2.2.1 e.2.2.2.2.2.2.2.1 e.1 e.2.1 e.2.2.1 e.2.2.2.2.2.2.2.2).same
-- D1
abbrev poolO (a b : Int) (ta tb : Tok) (cl : Addr) (n : Nat) : Obj := listOf #[.int a ta, .int b tb, .ref cl] n
abbrev drawR (a b most : Int) (c : Addr) (r : Value) (own : Led) (o' : Obj) : Prop :=
  ∃ (d a' b' : Int) (td ta' tb' : Tok) (n' : Nat), r = .int d td ∧ own = [] ∧ o' = poolO a' b' ta' tb' c n' ∧ (0 ≤ d ∧ d < most) ∧ (0 ≤ a' ∧ 0 ≤ b' ∧ b' ≤ b + 1)
theorem draw_end {a b most : Int} {c pl : Addr} {o₀ : Obj} {rest : Led} {h₀ : Heap} {L : Addr} {m : Str → Option Value} {s : Shared} {Q : Value → Shared → Prop} {h' : Heap} {tk : Nat} {d a' b' : Int} {td ta' tb' : Tok} {n' : Nat}
    (ret : ∀ r news' h' tk', Fr h₀ L h' m → News h₀ L h' news' → (∃ own o', news' = own ++ (pl, o') :: rest ∧ (∀ q ∈ own, AllLt q.1 ((pl, o₀) :: rest)) ∧ drawR a b most c r own o') → Q r { s with heap := h', toks := tk' })
    (F : Fr h₀ L h' m) (N : News h₀ L h' ((pl, poolO a' b' ta' tb' c n') :: rest)) (h1 : 0 ≤ d ∧ d < most) (h2 : 0 ≤ a' ∧ 0 ≤ b' ∧ b' ≤ b + 1) : Q (.int d td) { s with heap := h', toks := tk } :=
  ret _ _ _ _ F N ⟨[], _, rfl, (fun _ h => nomatch h), d, a', b', td, ta', tb', n', rfl, rfl, rfl, h1, h2⟩
set_option maxHeartbeats 8000000 in
theorem draw_0 (w : World) (pl c : Addr) (a b most : Int) (ta tb tm : Tok) (n n2 : Nat) (vs : List Value) (ns : List Int) (rest : Led)
   (hi : IntsAre vs ns) (hlen : 1 ≤ ns.length ∧ ns.length ≤ 40) (ha : 0 ≤ a) (hb : 0 ≤ b ∧ b ≤ 1000000) (hmost : 1 ≤ most ∧ most ≤ 100) (hoff : OwnOff rest [pl]) (m1 : (c, listOf vs.toArray n2) ∈ rest) :
   Ctr w 183 [.ref pl, .int most tm] ((pl, poolO a b ta tb c n) :: rest) 10 60 (fun r news' => ∃ own o', news' = own ++ (pl, o') :: rest ∧ (∀ q ∈ own, AllLt q.1 ((pl, poolO a b ta tb c n) :: rest)) ∧ drawR a b most c r own o') := by
  intro mean mg mb dp un gd cn cs fa ccd cl outer A₀ base h₀ L m s Q E B F X N T hk hdp hu hret
  revert X; k_fill; intro X
  have hrc : recursionLimit = 1000 := rfl
  refine wpAny_call ?_
  k_dflt cell_enter
  k_steps
  all_goals (try dsimp only)
  all_goals (refine' draw_end hret ?F ?N ?h1 ?h2; (case F => assumption); (case N => assumption); (case h1 => first | exact ⟨by omega, by omega⟩ | exact fmod_ok (by omega)); (case h2 => first | exact ⟨ha, by omega, by omega⟩ | exact ⟨fdiv_ok (by first | exact ha | exact (fmod_ok (by decide)).1) (by omega), by omega, by omega⟩))
theorem draw_c (w : World) (pl c : Addr) (a b most : Int) (ta tb tm : Tok) (n n2 : Nat) (vs : List Value) (ns : List Int) (news : Led) (g : Obj → Led)
   (U : UpdF pl (poolO a b ta tb c n) news g) (m1 : (c, listOf vs.toArray n2) ∈ news) (hne : @Ne Nat c pl) (hi : IntsAre vs ns) (hlen : 1 ≤ ns.length ∧ ns.length ≤ 40) (hmost : 1 ≤ most ∧ most ≤ 100) (hab : 0 ≤ a ∧ 0 ≤ b ∧ b ≤ 1000000) :
   Ctr w 183 [.ref pl, .int most tm] news 10 60 (fun r news' => ∃ own o', news' = own ++ g o' ∧ (∀ q ∈ own, AllLt q.1 news) ∧ drawR a b most c r own o') :=
  Ctr.upd U fun rest hoff hsub => draw_0 w pl c a b most ta tb tm n n2 vs ns rest hi hlen hab.1 hab.2 hmost hoff (hsub _ m1 hne)
theorem draw_w {w : World} {pl c : Addr} {a b most : Int} {ta tb tm : Tok} {n n2 : Nat} {vs : List Value} {ns : List Int} {news : Led} {g : Obj → Led}
   (e : UpdF pl (poolO a b ta tb c n) news g ∧ (c, listOf vs.toArray n2) ∈ news ∧ IntsAre vs ns ∧ (1 ≤ ns.length ∧ ns.length ≤ 40) ∧ (1 ≤ most ∧ most ≤ 100) ∧ (0 ≤ a ∧ 0 ≤ b ∧ b ≤ 1000000) ∧ @Ne Nat c pl) :
   CtrU w 183 [.ref pl, .int most tm] news 10 60 (fun Q s h₀ L m => ∀ (h' : Heap) (tk' : Nat) (d a' b' : Int) (td ta' tb' : Tok) (n' : Nat), (0 ≤ d ∧ d < most) → (0 ≤ a' ∧ 0 ≤ b' ∧ b' ≤ b + 1) → Fr h₀ L h' m → News h₀ L h' (g (poolO a' b' ta' tb' c n')) → Q (.int d td) { s with heap := h', toks := tk' }) :=
  (draw_c w pl c a b most ta tb tm n n2 vs ns news g e.1 e.2.1 e.2.2.2.2.2.2 e.2.2.1 e.2.2.2.1 e.2.2.2.2.1 e.2.2.2.2.2.1).toU fun Q s h₀ L m k r news' h' tk' F N P => by
    obtain ⟨own, o', rfl, -, d, a', b', td, ta', tb', n', rfl, rfl, rfl, h1, h2⟩ := P
    exact k h' tk' d a' b' td ta' tb' n' h1 h2 F N
theorem draw2_w {w : World} {pl c : Addr} {a b : Int} {ta tb tm : Tok} {n n2 : Nat} {vs : List Value} {ns : List Int} {news : Led} {g : Obj → Led}
   (e : UpdF pl (poolO a b ta tb c n) news g ∧ (c, listOf vs.toArray n2) ∈ news ∧ IntsAre vs ns ∧ (1 ≤ ns.length ∧ ns.length ≤ 40) ∧ (0 ≤ a ∧ 0 ≤ b ∧ b ≤ 1000000) ∧ @Ne Nat c pl) :
   CtrU w 183 [.ref pl, .int 2 tm] news 10 60 (fun Q s h₀ L m => ∀ (k : Int), (k = 0 ∨ k = 1) → ∀ (h' : Heap) (tk' : Nat) (a' b' : Int) (td ta' tb' : Tok) (n' : Nat), (0 ≤ a' ∧ 0 ≤ b' ∧ b' ≤ b + 1) → Fr h₀ L h' m → News h₀ L h' (g (poolO a' b' ta' tb' c n')) → Q (.int k td) { s with heap := h', toks := tk' }) :=
  (draw_c w pl c a b 2 ta tb tm n n2 vs ns news g e.1 e.2.1 e.2.2.2.2.2 e.2.2.1 e.2.2.2.1 (by decide) e.2.2.2.2.1).toU fun Q s h₀ L m k r news' h' tk' F N P => by
    obtain ⟨own, o', rfl, -, d, a', b', td, ta', tb', n', rfl, rfl, rfl, h1, h2⟩ := P
    exact k d (by omega) h' tk' a' b' td ta' tb' n' h2 F N
theorem draw3_w {w : World} {pl c : Addr} {a b : Int} {ta tb tm : Tok} {n n2 : Nat} {vs : List Value} {ns : List Int} {news : Led} {g : Obj → Led}
   (e : UpdF pl (poolO a b ta tb c n) news g ∧ (c, listOf vs.toArray n2) ∈ news ∧ IntsAre vs ns ∧ (1 ≤ ns.length ∧ ns.length ≤ 40) ∧ (0 ≤ a ∧ 0 ≤ b ∧ b ≤ 1000000) ∧ @Ne Nat c pl) :
   CtrU w 183 [.ref pl, .int 3 tm] news 10 60 (fun Q s h₀ L m => ∀ (k : Int), (k = 0 ∨ k = 1 ∨ k = 2) → ∀ (h' : Heap) (tk' : Nat) (a' b' : Int) (td ta' tb' : Tok) (n' : Nat), (0 ≤ a' ∧ 0 ≤ b' ∧ b' ≤ b + 1) → Fr h₀ L h' m → News h₀ L h' (g (poolO a' b' ta' tb' c n')) → Q (.int k td) { s with heap := h', toks := tk' }) :=
  (draw_c w pl c a b 3 ta tb tm n n2 vs ns news g e.1 e.2.1 e.2.2.2.2.2 e.2.2.1 e.2.2.2.1 (by decide) e.2.2.2.2.1).toU fun Q s h₀ L m k r news' h' tk' F N P => by
    obtain ⟨own, o', rfl, -, d, a', b', td, ta', tb', n', rfl, rfl, rfl, h1, h2⟩ := P
    exact k d (by omega) h' tk' a' b' td ta' tb' n' h2 F N
theorem two_of {P : Int → Prop} (h0 : P 0) (h1 : P 1) : ∀ k, (k = 0 ∨ k = 1) → P k := fun k h => by
  rcases h with rfl | rfl <;> assumption
theorem three_of {P : Int → Prop} (h0 : P 0) (h1 : P 1) (h2 : P 2) : ∀ k, (k = 0 ∨ k = 1 ∨ k = 2) → P k := fun k h => by
  rcases h with rfl | rfl | rfl <;> assumption
-- A1
local macro_rules | `(tactic| walk_at "call ref") => `(tactic| ktr_call cut_w 91)
local macro_rules | `(tactic| walk_at "call ref") => `(tactic| ktr_call textof_w 63)
section
/-- a value that stands for a text, and its signs up to the first 0 -/
inductive TextVal (w : World) (news : Led) : Value → List Int → Prop where
  | str (row : List Int) (t : Tok) (h1 : Chars row) (h2 : row.length ≤ 10) : TextVal w news (.str (strOf row) t) (ahead row)
  | chr (n : Int) (t : Tok) (h : 0 ≤ n ∧ n ≤ 255) : TextVal w news (.int n t) (ahead [n])
  | arr (a d c : Addr) (k0 k1 k2 v0 : Tok) (len : Int) (el : Value) (o : Obj) (kvs : List (Int × Value)) (D : List (PyData × PyData)) (f : Nat → Int)
    (hlen : 0 ≤ len ∧ len ≤ 10) (ho : o.IsDictOf (intKind Challenge.rw_nu0318_01.row.prog w) kvs) (hf : PyProof.V.FlatPairs PyData.int kvs D) (hc : CellsOf D len f) (hch : ∀ i : Nat, (i : Int) < len → 0 ≤ f i ∧ f i ≤ 255)
    (m1 : (a, instObj 52 d) ∈ news) (m2 : (d, arrO w k0 k1 k2 v0 len el c) ∈ news) (m3 : (c, o) ∈ news) (hcs : (c == sysModules) = false) : TextVal w news (.ref a) (ahead ((List.range len.toNat).map f))
theorem TextVal.mono {w : World} {news news' : Led} {v : Value} {xs : List Int} (h : TextVal w news v xs) (hs : ∀ p ∈ news, p ∈ news') : TextVal w news' v xs := by
  cases h with
  | str row t h1 h2 => exact .str row t h1 h2
  | chr n t h => exact .chr n t h
  | arr a d c k0 k1 k2 v0 len el o kvs D f hlen ho hf hc hch m1 m2 m3 hcs => exact .arr a d c k0 k1 k2 v0 len el o kvs D f hlen ho hf hc hch (hs _ m1) (hs _ m2) (hs _ m3) hcs
theorem strOf_le {ns : List Int} (h : ns.length ≤ 100) : (strOf ns).length ≤ 100 := by rw [strOf_len]; exact h
theorem chars_one {n : Int} (h : 0 ≤ n ∧ n ≤ 255) : Chars [n] := fun _ hm => by rw [List.mem_singleton.mp hm]; exact h
local macro_rules | `(tactic| ktr_rel) => `(tactic| exact strOf_le (by omega))
set_option maxHeartbeats 8000000 in
theorem astext_c (w : World) (v : Value) (xs : List Int) (news : Led) (H : TextVal w news v xs) :
    Ctr w 98 [v] news 12 80 (fun r news' => ∃ t', r = .str (strOf xs) t' ∧ news' = news) := by
  intro mean mg mb dp un gd cn cs fa ccd cl outer A₀ base h₀ L m s Q E B F X N T hk hdp hu hret
  revert X; k_fill; intro X
  have hrc : recursionLimit = 1000 := rfl
  refine wpAny_call ?_
  k_dflt cell_enter
  cases H
  all_goals k_steps
  · exact hret _ _ _ _ (by assumption) (by assumption) ⟨_, congrArg (fun z => Value.str z _) (cut_strOf (by assumption)), rfl⟩
  · exact hret _ _ _ _ (by assumption) (by assumption) ⟨_, congrArg (fun z => Value.str z _) (cut_strOf (ns := [_]) (chars_one (by assumption))), rfl⟩
  · exact hret _ _ _ _ (by assumption) (by assumption) ⟨_, rfl, rfl⟩
theorem astext_w {w : World} {v : Value} {xs : List Int} {news : Led} (e : TextVal w news v xs) : CtrU w 98 [v] news 12 80 (fun Q s h₀ L m => ∀ (t' : Tok) (h' : Heap) (tk' : Nat), Fr h₀ L h' m → News h₀ L h' news → Q (.str (strOf xs) t') { s with heap := h', toks := tk' }) := (astext_c w v xs news e).same
end
-- T1
abbrev typesM (w : World) (kt : Nat → Tok) (kn bo ch bt it ms ni no : Addr) : List DictEntry :=
  [ent w "known" (kt 1) (.ref kn), ent w "boolean" (kt 2) (.ref bo), ent w "char" (kt 3) (.ref ch), ent w "byte" (kt 4) (.ref bt), ent w "integer" (kt 5) (.ref it), ent w "mask" (kt 6) (.ref ms), ent w "nil" (kt 7) (.ref ni), ent w "none" (kt 8) (.ref no)]
abbrev typesO (w : World) (kt : Nat → Tok) (cnt : Int) (tv : Tok) (kn bo ch bt it ms ni no : Addr) : Obj := dictOf (ent w "counter" (kt 0) (.int cnt tv) :: typesM w kt kn bo ch bt it ms ni no) 9
local macro_rules | `(tactic| walk_at "call ref") => `(tactic| (ktn_call new_w 162; intros; ktr_step; tbn_lt))
abbrev stringR (w : World) (kt : Nat → Tok) (cnt : Int) (len : Int) (kn bo ch bt it ms ni no : Addr) (r : Value) (own : Led) (o' : Obj) : Prop :=
  ∃ (t d : Addr) (tv' : Tok) (kt' vt' : Nat → Tok) (f p h : Addr), r = .ref t ∧ own = [(t, instObj 136 d), (d, typeO w kt' vt' (cnt + 1) (S "string") len (.ref ch) len f p h)] ∧ o' = typesO w kt (cnt + 1) tv' kn bo ch bt it ms ni no ∧ @LT.lt Nat _ d t
theorem string_end {w : World} {kt : Nat → Tok} {cnt len : Int} {kn bo ch bt it ms ni no dT : Addr} {o₀ : Obj} {rest : Led} {h₀ : Heap} {L : Addr} {m : Str → Option Value} {s : Shared} {Q : Value → Shared → Prop}
    {t d f p h : Addr} {h' : Heap} {tk : Nat} {tv' : Tok} {k0 k1 k2 k3 k4 k5 k6 k7 k8 k9 k10 k11 v0 v1 v2 v4 v6 v8 v9 v11 : Tok}
    (ret : ∀ r news' h' tk', Fr h₀ L h' m → News h₀ L h' news' → (∃ own o', news' = own ++ (dT, o') :: rest ∧ (∀ q ∈ own, AllLt q.1 ((dT, o₀) :: rest)) ∧ stringR w kt cnt len kn bo ch bt it ms ni no r own o') → Q r { s with heap := h', toks := tk' })
    (F : Fr h₀ L h' m) (N : News h₀ L h' ((t, instObj 136 d) :: (d, dictOf [ent w "number" k0 (.int (cnt + 1) v0), ent w "form" k1 (.str (S "string") v1), ent w "size" k2 (.int len v2), ent w "base" k3 (.ref ch), ent w "length" k4 (.int len v4),
    ent w "fields" k5 (.ref f), ent w "level" k6 (.int 0 v6), ent w "params" k7 (.ref p), ent w "module" k8 (.str (S "") v8), ent w "label" k9 (.str (S "") v9),
    ent w "hidden" k10 (.ref h), ent w "exno" k11 (.int 0 v11)] 12) :: (dT, typesO w kt (cnt + 1) tv' kn bo ch bt it ms ni no) :: rest))
    (hl : @LT.lt Nat _ dT d ∧ AllLt d rest) (hl2 : @LT.lt Nat _ d t) : Q (.ref t) { s with heap := h', toks := tk } := by
  obtain ⟨kt', vt', f', p', h2, e⟩ := typeO_intro w k0 k1 k2 k3 k4 k5 k6 k7 k8 k9 k10 k11 v0 v1 v2 v4 v6 v8 v9 v11 (cnt + 1) (S "string") len (.ref ch) len f p h
  rw [e] at N
  refine ret _ _ _ _ F N ⟨[(t, instObj 136 d), (d, _)], _, rfl, ?_, t, d, tv', kt', vt', f', p', h2, rfl, rfl, rfl, hl2⟩
  intro q hq
  rcases List.mem_cons.mp hq with rfl | hq
  · exact allLt_up (a := d) hl hl2
  · rw [List.mem_singleton.mp hq]; exact hl
set_option maxHeartbeats 8000000 in
theorem string_0 (w : World) (ty dT : Addr) (kt : Nat → Tok) (cnt len : Int) (tv tl : Tok) (kn bo ch bt it ms ni no : Addr) (rest : Led)
    (hoff : OwnOff rest [dT]) (m1 : (ty, instObj 172 dT) ∈ rest) (hne : @Ne Nat ty dT) :
    Ctr w 169 [.ref ty, .int len tl] ((dT, typesO w kt cnt tv kn bo ch bt it ms ni no) :: rest) 12 80
      (fun r news' => ∃ own o', news' = own ++ (dT, o') :: rest ∧ (∀ q ∈ own, AllLt q.1 ((dT, typesO w kt cnt tv kn bo ch bt it ms ni no) :: rest)) ∧ stringR w kt cnt len kn bo ch bt it ms ni no r own o') := by
  intro mean mg mb dp un gd cn cs fa ccd cl outer A₀ base h₀ L m s Q E B F X N T hk hdp hu hret
  revert X; k_fill; intro X
  have hrc : recursionLimit = 1000 := rfl
  refine wpAny_call ?_
  k_dflt cell_enter
  k_steps
  exact string_end hret (by assumption) (by assumption) (by assumption) (by assumption)
theorem string_c (w : World) (ty dT : Addr) (kt : Nat → Tok) (cnt len : Int) (tv tl : Tok) (kn bo ch bt it ms ni no : Addr) (news : Led) (g : Obj → Led)
    (U : UpdF dT (typesO w kt cnt tv kn bo ch bt it ms ni no) news g) (m1 : (ty, instObj 172 dT) ∈ news) (hne : @Ne Nat ty dT) :
    Ctr w 169 [.ref ty, .int len tl] news 12 80 (fun r news' => ∃ own o', news' = own ++ g o' ∧ (∀ q ∈ own, AllLt q.1 news) ∧ stringR w kt cnt len kn bo ch bt it ms ni no r own o') :=
  Ctr.upd U fun rest hoff hsub => string_0 w ty dT kt cnt len tv tl kn bo ch bt it ms ni no rest hoff (hsub _ m1 hne) hne
theorem string_w {w : World} {ty dT : Addr} {kt : Nat → Tok} {cnt len : Int} {tv tl : Tok} {kn bo ch bt it ms ni no : Addr} {news : Led} {g : Obj → Led}
    (e : (ty, instObj 172 dT) ∈ news ∧ UpdF dT (typesO w kt cnt tv kn bo ch bt it ms ni no) news g ∧ @Ne Nat ty dT) :
    CtrU w 169 [.ref ty, .int len tl] news 12 80 (fun Q s h₀ L m => ∀ (h' : Heap) (tk' : Nat) (t d : Addr) (tv' : Tok) (kt' vt' : Nat → Tok) (f p h : Addr), @LT.lt Nat _ d t → AllLt d news → Fr h₀ L h' m →
      News h₀ L h' ((t, instObj 136 d) :: (d, typeO w kt' vt' (cnt + 1) (S "string") len (.ref ch) len f p h) :: g (typesO w kt (cnt + 1) tv' kn bo ch bt it ms ni no)) → Q (.ref t) { s with heap := h', toks := tk' }) :=
  (string_c w ty dT kt cnt len tv tl kn bo ch bt it ms ni no news g e.2.1 e.1 e.2.2).toU fun Q s h₀ L m k r news' h' tk' F N P => by
    obtain ⟨own, o', rfl, hl, t, d, tv', kt', vt', f, p, h, rfl, rfl, rfl, hlt⟩ := P
    exact k h' tk' t d tv' kt' vt' f p h hlt (hl _ (.tail _ (.head _))) F N
-- B1
theorem before_at : ∀ (xs ys : List Int) (i : Nat), (∀ j, j < i → xs.getD j 0 = ys.getD j 0) → i < xs.length → i < ys.length → xs.getD i 0 ≠ ys.getD i 0 → before xs ys = decide (xs.getD i 0 < ys.getD i 0)
  | [], _, i, _, h, _, _ => absurd h (Nat.not_lt_zero _)
  | _ :: _, [], i, _, _, h, _ => absurd h (Nat.not_lt_zero _)
  | a :: r, b :: t, 0, _, _, _, hne => by
    have h : a ≠ b := by simpa using hne
    unfold before; rw [if_neg h]; simp
  | a :: r, b :: t, i + 1, hj, h1, h2, hne => by
    have h0 : a = b := by simpa using hj 0 (Nat.succ_pos _)
    unfold before; rw [if_pos h0, before_at r t i (fun j hj' => by simpa using hj (j + 1) (Nat.succ_lt_succ hj')) (by simpa using h1) (by simpa using h2) (by simpa using hne)]
    simp
theorem before_end : ∀ (xs ys : List Int), (∀ j, j < xs.length → j < ys.length → xs.getD j 0 = ys.getD j 0) → before xs ys = decide ((xs.length : Int) < (ys.length : Int))
  | [], [], _ => rfl
  | [], b :: t, _ => by first | (simp [before]; done) | (simp [before]; omega)
  | a :: r, [], _ => by first | (simp [before]; done) | (simp [before]; omega)
  | a :: r, b :: t, hj => by
    have h0 : a = b := by simpa using hj 0 (Nat.succ_pos _) (Nat.succ_pos _)
    unfold before; rw [if_pos h0, before_end r t fun j h1 h2 => by simpa using hj (j + 1) (Nat.succ_lt_succ h1) (Nat.succ_lt_succ h2)]
    simp
section
set_option maxHeartbeats 8000000 in
theorem before_c (w : World) (l₁ l₂ : Addr) (vs₁ vs₂ : List Value) (xs ys : List Int) (n₁ n₂ : Nat) (news : Led) (h1 : xs.length ≤ 10) (h2 : ys.length ≤ 10) (hi1 : IntsAre vs₁ xs) (hi2 : IntsAre vs₂ ys) (m1 : (l₁, listOf vs₁.toArray n₁) ∈ news) (m2 : (l₂, listOf vs₂.toArray n₂) ∈ news) :
    Ctr w 202 [.ref l₁, .ref l₂] news 10 60 (fun r news' => r = .bool (before xs ys) ∧ news' = news) := by
  intro mean mg mb dp un gd cn cs fa ccd cl outer A₀ base h₀ L m s Q E B F X N T hk hdp hu hret
  revert X; k_fill; intro X
  have hrc : recursionLimit = 1000 := rfl
  refine wpAny_call ?_
  k_dflt cell_enter
  k_steps
  unfold Hold
  rename_i tk9 t1 u1 v1 hR F1 N1 hk1
  generalize hbd : (if (ys.length : Int) < (xs.length : Int) then (ys.length : Int) else (xs.length : Int)) = bd at hR
  have hb1 : bd ≤ xs.length ∧ bd ≤ ys.length ∧ 0 ≤ bd ∧ (bd = xs.length ∨ bd = ys.length) := by subst hbd; split <;> omega
  clear hbd
  refine my_range (σ := Unit) (n := bd.toNat) (rest := news) (fun _ => []) (fun _ => [(S "one", .ref l₁), (S "two", .ref l₂)]) (fun i _ => ∀ j, j < i → xs.getD j 0 = ys.getD j 0) ()
    rfl hR (small_of (by omega) (by omega)) (size_of (by omega)) F1 N1 (fun _ => rfl) (fun _ _ _ h => nomatch h) ?a4 (fun _ h => absurd h (Nat.not_lt_zero _)) ?_ ?_
  case a4 => exact List.forall_mem_cons.mpr ⟨rfl, List.forall_mem_cons.mpr ⟨rfl, List.forall_mem_nil _⟩⟩
  · intro _ i t u h tk rest' hi hJ hoff hsub F2 N2
    have m1' := hsub _ m1
    have m2' := hsub _ m2
    clear m1 m2
    dsimp only [List.cons_append, List.nil_append, kstB] at F2 N2
    k_steps
    · exact hret _ _ _ _ (by assumption) (led_drop (by assumption) hsub) ⟨congrArg Value.bool (before_at xs ys i hJ (by omega) (by omega) (by assumption)).symm, rfl⟩
    · refine ⟨_, _, (), _, rfl, by assumption, by assumption, List.forall_mem_cons.mpr ⟨rfl, List.forall_mem_cons.mpr ⟨rfl, List.forall_mem_nil _⟩⟩, ?_⟩
      intro j hj
      rcases Nat.lt_succ_iff_lt_or_eq.mp hj with h | rfl
      · exact hJ j h
      · assumption
  · intro _ u h tk hJ F2 N2
    dsimp only [List.cons_append, List.nil_append, kstB] at F2 N2
    k_steps
    exact hret _ _ _ _ (by assumption) (by assumption) ⟨congrArg Value.bool (before_end xs ys fun j h1 h2 => hJ j (by omega)).symm, rfl⟩
end
-- O1
set_option maxHeartbeats 8000000 in
theorem ordered_i (w : World) (o : Str) (a b : Int) (t ta tb : Tok) (news : Led) :
    Ctr w 112 [.str o t, .int a ta, .int b tb] news 10 60 (fun r news' => r = .bool (ordI o a b) ∧ news' = news) := by
  intro mean mg mb dp un gd cn cs fa ccd cl outer A₀ base h₀ L m s Q E B F X N T hk hdp hu hret
  revert X; k_fill; intro X
  have hrc : recursionLimit = 1000 := rfl
  refine wpAny_call ?_
  k_dflt cell_enter
  k_steps
  · exact hret _ _ _ _ (by assumption) (by assumption) ⟨congrArg Value.bool (ordG_1 (by assumption)), rfl⟩
  · exact hret _ _ _ _ (by assumption) (by assumption) ⟨congrArg Value.bool (ordG_2 (by assumption) (by assumption)), rfl⟩
  · exact hret _ _ _ _ (by assumption) (by assumption) ⟨congrArg Value.bool (ordG_3 (by assumption) (by assumption) (by assumption)), rfl⟩
  · exact hret _ _ _ _ (by assumption) (by assumption) ⟨congrArg Value.bool (ordG_4 (by assumption) (by assumption) (by assumption) (by assumption)), rfl⟩
  · exact hret _ _ _ _ (by assumption) (by assumption) ⟨congrArg Value.bool (ordG_5 (by assumption) (by assumption) (by assumption) (by assumption) (by assumption)), rfl⟩
  · exact hret _ _ _ _ (by assumption) (by assumption) ⟨congrArg Value.bool (ordG_6 (by assumption) (by assumption) (by assumption) (by assumption) (by assumption)), rfl⟩
set_option maxHeartbeats 8000000 in
theorem ordered_s (w : World) (o : Str) (a b : Str) (t ta tb : Tok) (news : Led) :
    Ctr w 112 [.str o t, .str a ta, .str b tb] news 10 60 (fun r news' => r = .bool (ordS o a b) ∧ news' = news) := by
  intro mean mg mb dp un gd cn cs fa ccd cl outer A₀ base h₀ L m s Q E B F X N T hk hdp hu hret
  revert X; k_fill; intro X
  have hrc : recursionLimit = 1000 := rfl
  refine wpAny_call ?_
  k_dflt cell_enter
  k_steps
  · exact hret _ _ _ _ (by assumption) (by assumption) ⟨congrArg Value.bool (ordG_1 (by assumption)), rfl⟩
  · exact hret _ _ _ _ (by assumption) (by assumption) ⟨congrArg Value.bool (ordG_2 (by assumption) (by assumption)), rfl⟩
  · exact hret _ _ _ _ (by assumption) (by assumption) ⟨congrArg Value.bool (ordG_3 (by assumption) (by assumption) (by assumption)), rfl⟩
  · exact hret _ _ _ _ (by assumption) (by assumption) ⟨congrArg Value.bool (ordG_4 (by assumption) (by assumption) (by assumption) (by assumption)), rfl⟩
  · exact hret _ _ _ _ (by assumption) (by assumption) ⟨congrArg Value.bool (ordG_5 (by assumption) (by assumption) (by assumption) (by assumption) (by assumption)), rfl⟩
  · exact hret _ _ _ _ (by assumption) (by assumption) ⟨congrArg Value.bool (ordG_6 (by assumption) (by assumption) (by assumption) (by assumption) (by assumption)), rfl⟩
theorem ordI_w {w : World} {o : Str} {a b : Int} {t ta tb : Tok} {news : Led} (_ : True) : CtrU w 112 [.str o t, .int a ta, .int b tb] news 10 60 (fun Q s h₀ L m => ∀ (h' : Heap) (tk' : Nat), Fr h₀ L h' m → News h₀ L h' news → Q (.bool (ordI o a b)) { s with heap := h', toks := tk' }) := (ordered_i w o a b t ta tb news).same0
theorem ordS_w {w : World} {o a b : Str} {t ta tb : Tok} {news : Led} (_ : True) : CtrU w 112 [.str o t, .str a ta, .str b tb] news 10 60 (fun Q s h₀ L m => ∀ (h' : Heap) (tk' : Nat), Fr h₀ L h' m → News h₀ L h' news → Q (.bool (ordS o a b)) { s with heap := h', toks := tk' }) := (ordered_s w o a b t ta tb news).same0
-- K1
inductive TyK | str | arr | chr | ptr | prc | nil | int | bool | set
  deriving DecidableEq
abbrev formOf : TyK → Str
  | .str => S "string" | .arr => S "array" | .chr => S "char" | .ptr => S "pointer" | .prc => S "proc" | .nil => S "nil" | .int => S "integer" | .bool => S "boolean" | .set => S "set"
abbrev isT : TyK → Bool
  | .str => true | .arr => true | _ => false
abbrev isR : TyK → Bool
  | .ptr => true | .prc => true | .nil => true | _ => false
abbrev isN : TyK → Bool
  | .int => true | .bool => true | .set => true | _ => false
inductive TyIs (w : World) (news : Led) : TyK → Value → Prop where
  | plain (k : TyK) (hk : k ≠ .arr) (t d : Addr) (kt vt : Nat → Tok) (num size : Int) (base : Value) (len : Int) (f p h : Addr) (m1 : (t, instObj 136 d) ∈ news) (m2 : (d, typeO w kt vt num (formOf k) size base len f p h) ∈ news) : TyIs w news k (.ref t)
  | arr (t d b e : Addr) (kt vt kt' vt' : Nat → Tok) (num size num' size' : Int) (base' : Value) (len len' : Int) (f p h f' p' h' : Addr) (m1 : (t, instObj 136 d) ∈ news) (m2 : (d, typeO w kt vt num (S "array") size (.ref b) len f p h) ∈ news)
      (m3 : (b, instObj 136 e) ∈ news) (m4 : (e, typeO w kt' vt' num' (S "char") size' base' len' f' p' h') ∈ news) : TyIs w news .arr (.ref t)
theorem TyIs.mono {w : World} {news news' : Led} {k : TyK} {v : Value} (h : TyIs w news k v) (hs : ∀ p ∈ news, p ∈ news') : TyIs w news' k v := by
  cases h with
  | plain k hk t d kt vt num size base len f p h m1 m2 => exact .plain _ hk t d kt vt num size base len f p h (hs _ m1) (hs _ m2)
  | arr t d b e kt vt kt' vt' num size num' size' base' len len' f p h f' p' h' m1 m2 m3 m4 => exact .arr t d b e kt vt kt' vt' num size num' size' base' len len' f p h f' p' h' (hs _ m1) (hs _ m2) (hs _ m3) (hs _ m4)
set_option maxHeartbeats 8000000 in
theorem istext_c (w : World) (k : TyK) (v : Value) (news : Led) (H : TyIs w news k v) :
    Ctr w 77 [v] news 12 80 (fun r news' => r = .bool (isT k) ∧ news' = news) := by
  intro mean mg mb dp un gd cn cs fa ccd cl outer A₀ base h₀ L m s Q E B F X N T hk hdp hu hret
  revert X; k_fill; intro X
  have hrc : recursionLimit = 1000 := rfl
  refine wpAny_call ?_
  k_dflt cell_enter
  rcases H with ⟨_, hk9, t, d, kt, vt, num, size, base, len, f, p, h, m1, m2⟩ | _
  · cases k
    all_goals first | exact absurd rfl hk9 | (clear hk9; dsimp only [formOf] at m2)
    all_goals k_steps
    all_goals exact hret _ _ _ _ (by assumption) (by assumption) ⟨rfl, rfl⟩
  · k_steps
    all_goals exact hret _ _ _ _ (by assumption) (by assumption) ⟨rfl, rfl⟩
theorem istext_w {w : World} {k : TyK} {v : Value} {news : Led} (e : TyIs w news k v) : CtrU w 77 [v] news 12 80 (fun Q s h₀ L m => ∀ (h' : Heap) (tk' : Nat), Fr h₀ L h' m → News h₀ L h' news → Q (.bool (isT k)) { s with heap := h', toks := tk' }) := (istext_c w k v news e).same0
local macro_rules | `(tactic| walk_at "call ref") => `(tactic| ktr_call istext_w 77)
abbrev kindPost (x : String) (news : Led) (r : Value) (news' : Led) : Prop := ∃ t, r = .str (S x) t ∧ news' = news
set_option maxHeartbeats 8000000 in
theorem kind_t (w : World) (k₁ k₂ : TyK) (v₁ v₂ : Value) (news : Led) (H1 : TyIs w news k₁ v₁) (H2 : TyIs w news k₂ v₂) (hk' : isT k₁ = true ∨ isT k₂ = true) :
    Ctr w 84 [v₁, v₂] news 14 100 (kindPost "text" news) := by
  intro mean mg mb dp un gd cn cs fa ccd cl outer A₀ base h₀ L m s Q E B F X N T hk hdp hu hret
  revert X; k_fill; intro X
  have hrc : recursionLimit = 1000 := rfl
  refine wpAny_call ?_
  k_dflt cell_enter
  k_steps
  · exact hret _ _ _ _ (by assumption) (by assumption) ⟨_, rfl, rfl⟩
  · exact hret _ _ _ _ (by assumption) (by assumption) ⟨_, rfl, rfl⟩
  have q1 : isT k₁ = false := by assumption
  have q2 : isT k₂ = false := by assumption
  rw [q1, q2] at hk'
  exact absurd hk' (by decide)
set_option maxHeartbeats 8000000 in
theorem kind_r (w : World) (k₁ k₂ : TyK) (v₁ v₂ : Value) (news : Led) (H1 : TyIs w news k₁ v₁) (H2 : TyIs w news k₂ v₂) (h1 : isR k₁ = true) (h2 : isT k₂ = false) :
    Ctr w 84 [v₁, v₂] news 14 100 (kindPost "reference" news) := by
  intro mean mg mb dp un gd cn cs fa ccd cl outer A₀ base h₀ L m s Q E B F X N T hk hdp hu hret
  revert X; k_fill; intro X
  have hrc : recursionLimit = 1000 := rfl
  refine wpAny_call ?_
  k_dflt cell_enter
  have H1' := H1
  rcases H1 with ⟨_, hk9, t, d, kt, vt, num, size, base, len, f, p, h, m1, m2⟩ | _
  · cases k₁
    all_goals first | cases h1; done | (clear hk9; dsimp only [formOf] at m2)
    all_goals k_steps
    all_goals exact hret _ _ _ _ (by assumption) (by first | assumption | exact led_drop (by assumption) fun p hp => .tail _ hp | exact led_drop (by assumption) fun p hp => .tail _ (.tail _ hp)) ⟨_, rfl, rfl⟩
  · cases h1
set_option maxHeartbeats 8000000 in
theorem kind_n (w : World) (k : TyK) (v : Value) (news : Led) (H1 : TyIs w news k v) (h1 : isN k = true) :
    Ctr w 84 [v, v] news 14 100 (kindPost "number" news) := by
  intro mean mg mb dp un gd cn cs fa ccd cl outer A₀ base h₀ L m s Q E B F X N T hk hdp hu hret
  revert X; k_fill; intro X
  have hrc : recursionLimit = 1000 := rfl
  refine wpAny_call ?_
  k_dflt cell_enter
  have H1' := H1
  rcases H1 with ⟨_, hk9, t, d, kt, vt, num, size, base, len, f, p, h, m1, m2⟩ | _
  · cases k
    all_goals first | cases h1; done | (clear hk9; dsimp only [formOf] at m2)
    all_goals k_steps
    all_goals exact hret _ _ _ _ (by assumption) (by first | assumption | exact led_drop (by assumption) fun p hp => .tail _ hp | exact led_drop (by assumption) fun p hp => .tail _ (.tail _ hp)) ⟨_, rfl, rfl⟩
  · cases h1
theorem kindt_w {w : World} {k₁ k₂ : TyK} {v₁ v₂ : Value} {news : Led} (e : TyIs w news k₁ v₁ ∧ TyIs w news k₂ v₂ ∧ (isT k₁ = true ∨ isT k₂ = true)) : CtrU w 84 [v₁, v₂] news 14 100 (fun Q s h₀ L m => ∀ (t' : Tok) (h' : Heap) (tk' : Nat), Fr h₀ L h' m → News h₀ L h' news → Q (.str (S "text") t') { s with heap := h', toks := tk' }) := (kind_t w k₁ k₂ v₁ v₂ news e.1 e.2.1 e.2.2).same
theorem kindr_w {w : World} {k₁ k₂ : TyK} {v₁ v₂ : Value} {news : Led} (e : TyIs w news k₁ v₁ ∧ TyIs w news k₂ v₂ ∧ isR k₁ = true ∧ isT k₂ = false) : CtrU w 84 [v₁, v₂] news 14 100 (fun Q s h₀ L m => ∀ (t' : Tok) (h' : Heap) (tk' : Nat), Fr h₀ L h' m → News h₀ L h' news → Q (.str (S "reference") t') { s with heap := h', toks := tk' }) := (kind_r w k₁ k₂ v₁ v₂ news e.1 e.2.1 e.2.2.1 e.2.2.2).same
theorem kindn_w {w : World} {k : TyK} {v : Value} {news : Led} (e : TyIs w news k v ∧ isN k = true) : CtrU w 84 [v, v] news 14 100 (fun Q s h₀ L m => ∀ (t' : Tok) (h' : Heap) (tk' : Nat), Fr h₀ L h' m → News h₀ L h' news → Q (.str (S "number") t') { s with heap := h', toks := tk' }) := (kind_n w k v news e.1 e.2).same
-- O2
local macro_rules | `(tactic| walk_at "call ref") => `(tactic| ktr_call astext_w 98)
local macro_rules | `(tactic| walk_at "call ref") => `(tactic| (k_here; (with_reducible show wpAny _ _ (call (Value.ref 112) [_, Value.int _ _, _]) _ _ _); ktr_call ordI_w 112))
local macro_rules | `(tactic| walk_at "call ref") => `(tactic| (k_here; (with_reducible show wpAny _ _ (call (Value.ref 112) [_, Value.str _ _, _]) _ _ _); ktr_call ordS_w 112))
set_option maxHeartbeats 8000000 in
theorem relation_t (w : World) (o : Str) (t tk : Tok) (v₁ v₂ : Value) (xs ys : List Int) (news : Led) (H1 : TextVal w news v₁ xs) (H2 : TextVal w news v₂ ys) :
    Ctr w 119 [.str o t, .str (S "text") tk, v₁, v₂] news 14 100 (fun r news' => ∃ t', r = .int (if ordS o (strOf xs) (strOf ys) = true then 1 else 0) t' ∧ news' = news) := by
  intro mean mg mb dp un gd cn cs fa ccd cl outer A₀ base h₀ L m s Q E B F X N T hk hdp hu hret
  revert X; k_fill; intro X
  have hrc : recursionLimit = 1000 := rfl
  refine wpAny_call ?_
  k_dflt cell_enter
  k_steps
  · exact hret _ _ _ _ (by assumption) (by assumption) ⟨_, congrArg (Value.int · _) (if_pos (by assumption)).symm, rfl⟩
  · exact hret _ _ _ _ (by assumption) (by assumption) ⟨_, congrArg (Value.int · _) (if_neg (Bool.eq_false_iff.mp (by assumption))).symm, rfl⟩
set_option maxHeartbeats 8000000 in
theorem relation_n (w : World) (o : Str) (t tk : Tok) (a b : Int) (ta tb : Tok) (news : Led) :
    Ctr w 119 [.str o t, .str (S "number") tk, .int a ta, .int b tb] news 14 100 (fun r news' => ∃ t', r = .int (if ordI o a b = true then 1 else 0) t' ∧ news' = news) := by
  intro mean mg mb dp un gd cn cs fa ccd cl outer A₀ base h₀ L m s Q E B F X N T hk hdp hu hret
  revert X; k_fill; intro X
  have hrc : recursionLimit = 1000 := rfl
  refine wpAny_call ?_
  k_dflt cell_enter
  k_steps
  · exact hret _ _ _ _ (by assumption) (by assumption) ⟨_, congrArg (Value.int · _) (if_pos (by assumption)).symm, rfl⟩
  · exact hret _ _ _ _ (by assumption) (by assumption) ⟨_, congrArg (Value.int · _) (if_neg (Bool.eq_false_iff.mp (by assumption))).symm, rfl⟩
-- O3
abbrev recO (w : World) (k0 k1 k2 v1 : Tok) (ch c : Addr) (num : Int) : Obj := dictOf [ent w "chain" k0 (.ref ch), ent w "number" k1 (.int num v1), ent w "cells" k2 (.ref c)] 3
/-- a reference: NIL, one of two records, one of two procedures -/
inductive RefVal (w : World) (news : Led) : Bool → Nat → Value → Prop where
  | none (fam : Bool) : RefVal w news fam 0 .none
  | rec1 (a d ch c : Addr) (k0 k1 k2 v1 : Tok) (m1 : (a, instObj 31 d) ∈ news) (m2 : (d, recO w k0 k1 k2 v1 ch c 1) ∈ news) : RefVal w news false 1 (.ref a)
  | rec2 (a d ch c : Addr) (k0 k1 k2 v1 : Tok) (m1 : (a, instObj 31 d) ∈ news) (m2 : (d, recO w k0 k1 k2 v1 ch c 2) ∈ news) : RefVal w news false 2 (.ref a)
  | proc1 (a : Addr) (t u : Tok) (m1 : (a, ({ cls := .type "tuple", data := .seq #[.str (S "M") t, .str (S "P") u] 0 } : Obj)) ∈ news) : RefVal w news true 1 (.ref a)
  | proc2 (a : Addr) (t u : Tok) (m1 : (a, ({ cls := .type "tuple", data := .seq #[.str (S "M") t, .str (S "Q") u] 0 } : Obj)) ∈ news) : RefVal w news true 2 (.ref a)
theorem RefVal.mono {w : World} {news news' : Led} {fam : Bool} {k : Nat} {v : Value} (h : RefVal w news fam k v) (hs : ∀ p ∈ news, p ∈ news') : RefVal w news' fam k v := by
  cases h with
  | none => exact .none _
  | rec1 a d ch c k0 k1 k2 v1 m1 m2 => exact .rec1 a d ch c k0 k1 k2 v1 (hs _ m1) (hs _ m2)
  | rec2 a d ch c k0 k1 k2 v1 m1 m2 => exact .rec2 a d ch c k0 k1 k2 v1 (hs _ m1) (hs _ m2)
  | proc1 a t u m1 => exact .proc1 a t u (hs _ m1)
  | proc2 a t u m1 => exact .proc2 a t u (hs _ m1)
set_option maxHeartbeats 8000000 in
theorem sameref_c (w : World) (fam : Bool) (k₁ k₂ : Nat) (v₁ v₂ : Value) (news : Led) (H1 : RefVal w news fam k₁ v₁) (H2 : RefVal w news fam k₂ v₂) :
    Ctr w 105 [v₁, v₂] news 14 100 (fun r news' => r = .bool (decide (k₁ = k₂)) ∧ news' = news) := by
  intro mean mg mb dp un gd cn cs fa ccd cl outer A₀ base h₀ L m s Q E B F X N T hk hdp hu hret
  revert X; k_fill; intro X
  have hrc : recursionLimit = 1000 := rfl
  refine wpAny_call ?_
  k_dflt cell_enter
  cases H1 <;> cases H2
  all_goals k_steps
  all_goals exact hret _ _ _ _ (by assumption) (by assumption) ⟨congrArg Value.bool (by decide), rfl⟩
theorem sameref_w {w : World} {fam : Bool} {k₁ k₂ : Nat} {v₁ v₂ : Value} {news : Led} (e : RefVal w news fam k₁ v₁ ∧ RefVal w news fam k₂ v₂) : CtrU w 105 [v₁, v₂] news 14 100 (fun Q s h₀ L m => ∀ (h' : Heap) (tk' : Nat), Fr h₀ L h' m → News h₀ L h' news → Q (.bool (decide (k₁ = k₂))) { s with heap := h', toks := tk' }) := (sameref_c w fam k₁ k₂ v₁ v₂ news e.1 e.2).same0
local macro_rules | `(tactic| walk_at "call ref") => `(tactic| ktr_call sameref_w 105)
set_option maxHeartbeats 8000000 in
theorem relation_r (w : World) (o : Str) (t tk : Tok) (fam : Bool) (k₁ k₂ : Nat) (v₁ v₂ : Value) (news : Led) (H1 : RefVal w news fam k₁ v₁) (H2 : RefVal w news fam k₂ v₂) :
    Ctr w 119 [.str o t, .str (S "reference") tk, v₁, v₂] news 16 120 (fun r news' => ∃ t', r = .int (if (decide (k₁ = k₂) == (o == S "=")) = true then 1 else 0) t' ∧ news' = news) := by
  intro mean mg mb dp un gd cn cs fa ccd cl outer A₀ base h₀ L m s Q E B F X N T hk hdp hu hret
  revert X; k_fill; intro X
  have hrc : recursionLimit = 1000 := rfl
  refine wpAny_call ?_
  k_dflt cell_enter
  k_steps
  · exact hret _ _ _ _ (by assumption) (by assumption) ⟨_, congrArg (Value.int · _) (if_pos (by assumption)).symm, rfl⟩
  · exact hret _ _ _ _ (by assumption) (by assumption) ⟨_, congrArg (Value.int · _) (if_neg (Bool.eq_false_iff.mp (by assumption))).symm, rfl⟩
-- R1
/-- the signs that the law draws -/
def RowOk (ns : List Int) : Prop := ∀ x ∈ ns, x = 65 ∨ x = 66 ∨ x = 0 ∨ x = 255
theorem RowOk.chars {ns : List Int} (h : RowOk ns) : Chars ns := fun x hx => by have := h x hx; omega
theorem RowOk.snoc {ns : List Int} {x : Int} (h : RowOk ns) (hx : x = 65 ∨ x = 66 ∨ x = 0 ∨ x = 255) : RowOk (ns ++ [x]) := fun y hy => by
  rcases List.mem_append.mp hy with hy | hy
  · exact h y hy
  · rw [List.mem_singleton.mp hy]; exact hx
theorem menu5 {d : Int} (h : 0 ≤ d ∧ d < 5) : ([65, 66, 0, 255, 65] : List Int).getD d.toNat 0 = 65 ∨ ([65, 66, 0, 255, 65] : List Int).getD d.toNat 0 = 66 ∨ ([65, 66, 0, 255, 65] : List Int).getD d.toNat 0 = 0 ∨ ([65, 66, 0, 255, 65] : List Int).getD d.toNat 0 = 255 := by
  obtain ⟨k, rfl⟩ := Int.eq_ofNat_of_zero_le h.1
  have hk : k < 5 := by omega
  have e : ((k : Nat) : Int).toNat = k := by omega
  rw [e]
  match k, hk with
  | 0, _ => simp
  | 1, _ => simp
  | 2, _ => simp
  | 3, _ => simp
  | 4, _ => simp
theorem take_idx : ∀ {row : List Int}, row.any (· == 0) = true → row.take (row.idxOf 0) = ahead row
  | [], h => by simp at h
  | a :: r, h => by
    by_cases e : a = 0
    · subst e; simp [ahead]
    · have h1 : (a != 0) = true := by simpa using e
      have h2 : r.any (· == 0) = true := by simpa [e] using h
      have e2 : (a == 0) = false := by simpa using e
      rw [List.idxOf_cons, e2]
      simp only [Bool.cond_false, List.take_succ_cons, ahead, List.takeWhile_cons, h1, if_true]
      rw [take_idx h2]; rfl
theorem not_any {row : List Int} (h : row.any (· == 0) = false) : ahead row = row := ahead_all fun n hn e => by
  subst e
  have : row.any (· == 0) = true := List.any_eq_true.mpr ⟨0, hn, by decide⟩
  rw [h] at this; cases this
theorem mem_of_any {row : List Int} (h : row.any (· == 0) = true) : (0 : Int) ∈ row := by
  obtain ⟨x, hx, e⟩ := List.any_eq_true.mp h
  rw [← beq_iff_eq.mp e]; exact hx
section
variable {prog : Program} {w : World} {A : Around} {E : Value → Shared → Prop} {s : Shared} {h₀ : Heap} {L l : Addr} {m : Str → Option Value} {news : Led} {vs : List Value} {ns : List Int} {n : Nat} {k : Int} {t : Tok} {Q : Value → Shared → Prop}
theorem in_L (N : News h₀ L s.heap news) (hm : (l, listOf vs.toArray n) ∈ news) (hi : IntsAre vs ns) (h : Q (.bool (ns.any (· == k))) s) : wpAny (model prog w) A (compareOp .In (.int k t) (.ref l)) Q E s :=
  in_list_ints (N.isList hm) hi h
theorem index_L (N : News h₀ L s.heap news) (hm : (l, listOf vs.toArray n) ∈ news) (hi : IntsAre vs ns) (hb : ns.length ≤ 100000) (hk : k ∈ ns) (h : Q (.int (ns.idxOf k : Nat) s.toks) { s with toks := s.toks + 1 }) :
    wpAny (model prog w) A (call (.builtin "list.index") [.ref l, .int k t]) Q E s := by
  have ho := (N _ hm).1
  have hlen := hi.length
  have hj : ns.idxOf k < ns.length := List.idxOf_lt_length_iff.mpr hk
  refine call_meets PySem.F.slot_list_index ⟨_, ho, rfl⟩ PySem.F.entry_list_index (PySem.F.args_list_index_2 _ _)
    (MeetsSeq.list_index l vs.toArray n (.int k t) (isInt k) (fun y hy => eq_isInt k t hi y (by simpa using hy)) (ns.idxOf k) (by simpa [hlen] using hj) (by omega) ?_ ?_) ⟨ho, h⟩
  · show isInt k vs[ns.idxOf k] = true
    rw [isInt_at k hi _ (by omega) hj]
    simpa using List.getElem_idxOf hj
  · intro j hjs hlt
    show isInt k vs[j] = false
    rw [isInt_at k hi j (by simpa using hjs) (by omega)]
    exact ne_of_lt_idxOf hlt _
theorem set_cell {d : Addr} {o : Obj} {g : Obj → Led} {kvs : List (Int × Value)} {D : List (PyData × PyData)} {v : Int} {tv : Tok} {Q : Unit → Shared → Prop} (F : Fr h₀ L s.heap m) (N : News h₀ L s.heap news) (U : UpdF d o news g) (hd : o.IsDictOf (intKind prog w) kvs) (hf : PyProof.V.FlatPairs PyData.int kvs D) (hD : D.length ≤ 1000)
    (h : ∀ h' o', Fr h₀ L h' m → News h₀ L h' (g o') → o'.IsDictOf (intKind prog w) (PySem.stored kvs k (.int v tv)) → PyProof.V.FlatPairs PyData.int (PySem.stored kvs k (.int v tv)) (PyProof.V.putD (.int k) (.int v) D) → Q () { s with heap := h', toks := s.toks + 1 }) :
    wpAny (model prog w) A (setItem (.ref d) (.int k t) (.int v tv)) Q E s :=
  setItem_K PyProof.V.same_int (intKind_is _ _ _ _) (PyProof.V.Flat.int _ _) F N U hd hf h (by rw [sizeLine_eq]; omega)
end
/-- two objects of a ledger ahead, all else behind them under one name -/
theorem pack2 {h₀ h' : Heap} {L x y : Addr} {o1 o2 : Obj} {news : Led} (N : News h₀ L h' news) (hp : (x, o1) ∈ news) (hq : (y, o2) ∈ news) :
    ∃ led, News h₀ L h' ((x, o1) :: (y, o2) :: led) ∧ OwnOff led [x, y] ∧ ∀ p ∈ news, @Ne Nat p.1 x → @Ne Nat p.1 y → p ∈ led := by
  refine ⟨news.filter fun p => decide (p.1 ≠ x ∧ p.1 ≠ y), fun p hp' => ?_, fun p hp' b hb => ?_, fun p hp' h1 h2 => List.mem_filter.mpr ⟨hp', decide_eq_true ⟨h1, h2⟩⟩⟩
  · rcases List.mem_cons.mp hp' with rfl | hp'
    · exact N _ hp
    · rcases List.mem_cons.mp hp' with rfl | hp'
      · exact N _ hq
      · exact N _ (List.mem_filter.mp hp').1
  · have := of_decide_eq_true (List.mem_filter.mp hp').2
    rcases List.mem_cons.mp hb with rfl | hb
    · exact this.1
    · rw [List.mem_singleton.mp hb]; exact this.2
theorem TyIs_arr_of {w : World} {news : Led} {t d b : Addr} {k0 k1 k2 k3 k4 k5 k6 k7 k8 k9 k10 k11 v0 v1 v2 v4 v6 v8 v9 v11 : Tok} {num size len : Int} {f p h : Addr} {bv : Value}
    (m1 : (t, instObj 136 d) ∈ news) (m2 : (d, dictOf [ent w "number" k0 (.int num v0), ent w "form" k1 (.str (S "array") v1), ent w "size" k2 (.int size v2), ent w "base" k3 (.ref b), ent w "length" k4 (.int len v4),
    ent w "fields" k5 (.ref f), ent w "level" k6 (.int 0 v6), ent w "params" k7 (.ref p), ent w "module" k8 (.str (S "") v8), ent w "label" k9 (.str (S "") v9),
    ent w "hidden" k10 (.ref h), ent w "exno" k11 (.int 0 v11)] 12) ∈ news) (hC : TyIs w news .chr bv) (hb : bv = .ref b) : TyIs w news .arr (.ref t) := by
  obtain ⟨kt, vt, f', p', h', e⟩ := typeO_intro w k0 k1 k2 k3 k4 k5 k6 k7 k8 k9 k10 k11 v0 v1 v2 v4 v6 v8 v9 v11 num (S "array") size (.ref b) len f p h
  rw [e] at m2
  cases hC with
  | plain _ hk t' d' kt' vt' num' size' base' len' f'' p'' h'' q1 q2 =>
    cases hb
    exact .arr t d b d' kt vt kt' vt' num size num' size' base' len len' f' p' h' f'' p'' h'' m1 m2 q1 q2
theorem row_one : ∀ {row : List Int}, row.length = 1 → row = [row.getD 0 0]
  | [_], _ => rfl
  | [], h => by simp at h
  | _ :: _ :: _, h => by simp at h
theorem range_getD : ∀ (row : List Int) (k : Nat), (List.range (row.length + k)).map (fun i => row.getD i 0) = row ++ List.replicate k 0
  | [], k => by
    apply List.ext_getElem
    · simp
    · intro i h1 h2; simp
  | a :: r, k => by
    rw [show (a :: r).length + k = (r.length + k) + 1 by simp; omega, List.range_succ_eq_map, List.map_cons, List.map_map]
    have := range_getD r k
    simp only [List.cons_append, ← this]
    simp [Function.comp_def]
theorem ahead_pad : ∀ (row : List Int) (k : Nat), ahead (row ++ List.replicate k 0) = ahead row
  | [], 0 => rfl
  | [], k + 1 => by simp [ahead, List.replicate_succ]
  | a :: r, k => by
    by_cases e : a = 0
    · subst e; simp [ahead]
    · have h1 : (a != 0) = true := by simpa using e
      simp only [List.cons_append, ahead, List.takeWhile_cons, h1, if_true]
      rw [show List.takeWhile (· != 0) (r ++ List.replicate k 0) = ahead (r ++ List.replicate k 0) from rfl, ahead_pad r k]; rfl
theorem ahead_cells (row : List Int) (k : Nat) : ahead ((List.range (row.length + k)).map (fun i => row.getD i 0)) = ahead row := by rw [range_getD, ahead_pad]
abbrev tupO (vs : List Value) : Obj := { cls := .type "tuple", data := .seq vs.toArray 0 }
/-- what _law_text gives back -/
def TextOut (w : World) (led : Led) (r : Value) : Prop :=
  ∃ (tup la : Addr) (v tyv : Value) (xs : List Int) (vs : List Value) (n : Nat) (k : TyK), r = .ref tup ∧ (tup, tupO [v, .ref la, tyv]) ∈ led ∧ TextVal w led v xs ∧ (la, listOf vs.toArray n) ∈ led ∧ IntsAre vs xs ∧ Chars xs ∧ xs.length ≤ 4 ∧ TyIs w led k tyv ∧ isN k = false ∧ isR k = false
theorem one_val {w : World} {led : Led} {row : List Int} {t : Tok} (h : row.length = 1) (hok : RowOk row) : TextVal w led (.int (row.getD (Int.toNat 0) 0) t) (ahead row) := by
  have e := row_one h
  have hx : row.getD 0 0 ∈ row := by
    have : row.getD 0 0 ∈ [row.getD 0 0] := List.mem_singleton.mpr rfl
    rwa [← e] at this
  have hv : TextVal w led (.int (row.getD 0 0) t) (ahead [row.getD 0 0]) := .chr _ _ (by have := hok _ hx; omega)
  rw [← e] at hv
  exact hv
theorem ints_ahead {ws : List Value} {row : List Int} (h : row.any (· == 0) = true) (hI : IntsAre ws (row.take (Int.toNat ((row.idxOf 0 : Nat) : Int)))) : IntsAre ws (ahead row) := by rw [← take_idx h]; exact hI
theorem ints_whole {ws : List Value} {row : List Int} (h : row.any (· == 0) = false) (hI : IntsAre ws row) : IntsAre ws (ahead row) := by rw [not_any h]; exact hI
theorem item_at {ys : List Value} {row : List Int} {i : Nat} {v : Value} (h : ys.toArray[i]? = some v) (hI : IntsAre ys row) : ∃ t, v = .int (row.getD i 0) t ∧ row.getD i 0 ∈ row ∧ row.take (i + 1) = row.take i ++ [row.getD i 0] := by
  obtain ⟨k, t, hk, e⟩ := IntsAre.at hI i v (by simpa using h)
  have e2 : row.getD i 0 = k := by rw [List.getD_eq_getElem?_getD, e]; rfl
  refine ⟨t, by rw [e2]; exact hk, by rw [e2]; exact List.mem_of_getElem? e, ?_⟩
  rw [e2, List.take_add_one, e]; rfl
theorem strs_step {zs : List Value} {row : List Int} {i : Nat} {t : Tok} (hz : StrsAre zs ((row.take i).map chrS)) (e : row.take (i + 1) = row.take i ++ [row.getD i 0]) : StrsAre (zs ++ [.str (chrS (row.getD i 0)) t]) ((row.take (i + 1)).map chrS) := by
  rw [e, List.map_append]
  exact StrsAre.append' hz (.cons _ _ .nil)
theorem take_whole {ys : List Value} {row : List Int} (hI : IntsAre ys row) : row.take ys.toArray.size = row := by rw [List.size_toArray, hI.length, List.take_length]
-- R2
/-- what a turn of the filling loop changes: the pool, the cells -/
structure PC where
  a : Int
  b : Int
  ta : Tok
  tb : Tok
  n : Nat
  o : Obj
/-- how far the cells are filled -/
def Filled (prog : Program) (w : World) (row : List Int) (i : Nat) (o : Obj) : Prop :=
  ∃ kvs D, o.IsDictOf (intKind prog w) kvs ∧ PyProof.V.FlatPairs PyData.int kvs D ∧ D.length ≤ i ∧ ∀ j : Nat, (Spec.lookup (.int j) D).getD (.int 0) = .int (if j < i then row.getD j 0 else 0)
theorem Filled.zero {prog : Program} {w : World} {row : List Int} {o : Obj} (h1 : o.IsDictOf (intKind prog w) []) (h2 : PyProof.V.FlatPairs PyData.int [] []) : Filled prog w row 0 o :=
  ⟨[], [], h1, h2, Nat.le_refl _, fun j => by rw [if_neg (Nat.not_lt_zero _)]; rfl⟩
theorem Filled.skip {prog : Program} {w : World} {row : List Int} {i : Nat} {o : Obj} (h : Filled prog w row i o) (h0 : row.getD i 0 = 0) : Filled prog w row (i + 1) o := by
  obtain ⟨kvs, D, h1, h2, h3, h4⟩ := h
  refine ⟨kvs, D, h1, h2, by omega, fun j => ?_⟩
  rw [h4 j]
  by_cases e : j < i
  · rw [if_pos e, if_pos (by omega)]
  · rw [if_neg e]
    by_cases e2 : j < i + 1
    · obtain rfl : j = i := by omega
      rw [if_pos e2, h0]
    · rw [if_neg e2]
theorem Filled.put {prog : Program} {w : World} {row : List Int} {i : Nat} {o' : Obj} {kvs' : List (Int × Value)} {D : List (PyData × PyData)} (h1 : o'.IsDictOf (intKind prog w) kvs') (h2 : PyProof.V.FlatPairs PyData.int kvs' (PyProof.V.putD (.int (i : Int)) (.int (row.getD i 0)) D)) (h3 : D.length ≤ i) (h4 : ∀ j : Nat, (Spec.lookup (.int j) D).getD (.int 0) = .int (if j < i then row.getD j 0 else 0)) : Filled prog w row (i + 1) o' := by
  refine ⟨kvs', _, h1, h2, Nat.le_trans (PyProof.V.putD_length_le _ _ _) (by omega), fun j => ?_⟩
  by_cases e : j = i
  · subst e
    rw [PyProof.V.lookup_putD_same, if_pos (Nat.lt_succ_self _)]; rfl
  · rw [PyProof.V.lookup_putD_other (by omega), h4 j]
    by_cases e1 : j < i
    · rw [if_pos e1, if_pos (by omega)]
    · rw [if_neg e1, if_neg (by omega)]
section
variable {prog : Program} {w : World} {A : Around} {E : Value → Shared → Prop} {s : Shared} {env : Env} {h₀ : Heap} {x : Str} {body : List Stmt} {Q : Flow → Shared → Prop}
theorem held_loop {r pl cc c : Addr} {t₀ u₀ v₀ : Tok} {m₀ : Str → Option Value} {news : Led} {a b : Int} {ta tb : Tok} {n : Nat} {o : Obj} (row : List Int) {v1 v2 v3 v4 : Value}
    (hh : A.handled = none) (hr : IsRange s.heap r 0 (row.length : Int) 1 t₀ u₀ v₀) (hrow : row.length ≤ 100) (F : Fr h₀ env.locals s.heap m₀) (N : News h₀ env.locals s.heap news)
    (mp : (pl, poolO a b ta tb c n) ∈ news) (mc : (cc, o) ∈ news) (hd : o.IsDictOf (intKind prog w) []) (hf : PyProof.V.FlatPairs PyData.int [] []) (hab : 0 ≤ a ∧ 0 ≤ b) {R : Led} (hR : ∀ p ∈ R, p ∈ news ∧ @Ne Nat p.1 pl ∧ @Ne Nat p.1 cc) (k1 : m₀ (S "row") = some v1) (k2 : m₀ (S "ahead") = some v2) (k3 : m₀ (S "sort") = some v3) (k4 : m₀ (S "held") = some v4)
    (turn : ∀ (d : PC) (i : Nat) t u h tk rest', i < row.length → (0 ≤ d.a ∧ 0 ≤ d.b ∧ d.b ≤ b + i) → Filled prog w row i d.o → OwnOff rest' [pl, cc] → (∀ p ∈ R, p ∈ rest') → (∀ p ∈ news, @Ne Nat p.1 pl → @Ne Nat p.1 cc → p ∈ rest') →
      Fr h₀ env.locals h (fun y => if y = x then some (.int i t) else kstB u [(S "row", v1), (S "ahead", v2), (S "sort", v3), (S "held", v4)] y) → News h₀ env.locals h ((pl, poolO d.a d.b d.ta d.tb c d.n) :: (cc, d.o) :: rest') →
      wpAny (model prog w) A (execs body env) (MyPost h₀ env.locals (fun d : PC => [(pl, poolO d.a d.b d.ta d.tb c d.n), (cc, d.o)]) rest' (fun _ => [(S "row", v1), (S "ahead", v2), (S "sort", v3), (S "held", v4)]) (fun d => (0 ≤ d.a ∧ 0 ≤ d.b ∧ d.b ≤ b + (i + 1 : Nat)) ∧ Filled prog w row (i + 1) d.o) { s with heap := h, toks := tk } Q) E { s with heap := h, toks := tk })
    (done : ∀ (d : PC) (u : Str → Option Value) h tk rest', (0 ≤ d.a ∧ 0 ≤ d.b ∧ d.b ≤ b + row.length) → Filled prog w row row.length d.o → OwnOff rest' [pl, cc] → (∀ p ∈ R, p ∈ rest') → (∀ p ∈ news, @Ne Nat p.1 pl → @Ne Nat p.1 cc → p ∈ rest') → Fr h₀ env.locals h (kstB u [(S "row", v1), (S "ahead", v2), (S "sort", v3), (S "held", v4)]) →
      News h₀ env.locals h ((pl, poolO d.a d.b d.ta d.tb c d.n) :: (cc, d.o) :: rest') → Q .next { s with heap := h, toks := tk }) :
    wpAny (model prog w) A (pyIter (.ref r)) (fun it s₂ => LoopAtV prog w A h₀ env x body Q E it s₂) E s := by
  obtain ⟨led, N', hoff, hin⟩ := pack2 N mp mc
  refine my_range (σ := PC) (n := row.length) (rest := led) (fun d => [(pl, poolO d.a d.b d.ta d.tb c d.n), (cc, d.o)]) (fun _ => [(S "row", v1), (S "ahead", v2), (S "sort", v3), (S "held", v4)]) (fun i d => (0 ≤ d.a ∧ 0 ≤ d.b ∧ d.b ≤ b + (i : Nat)) ∧ Filled prog w row i d.o) ⟨a, b, ta, tb, n, o⟩
    hh hr (small_of (by omega) (by omega)) (size_of (by omega)) F N' (fun _ => rfl) hoff (List.forall_mem_cons.mpr ⟨k1, List.forall_mem_cons.mpr ⟨k2, List.forall_mem_cons.mpr ⟨k3, List.forall_mem_cons.mpr ⟨k4, List.forall_mem_nil _⟩⟩⟩⟩) ⟨⟨hab.1, hab.2, by simp⟩, Filled.zero hd hf⟩ ?_ ?_
  · intro d i t u h tk rest' hi hJ hoff' hsub F2 N2
    exact turn d i t u h tk rest' hi hJ.1 hJ.2 hoff' (fun p hp => hsub p (hin p (hR p hp).1 (hR p hp).2.1 (hR p hp).2.2)) (fun p hp h1 h2 => hsub p (hin p hp h1 h2)) F2 N2
  · intro d u h tk hJ F2 N2
    exact done d u h tk led hJ.1 hJ.2 hoff (fun p hp => hin p (hR p hp).1 (hR p hp).2.1 (hR p hp).2.2) hin F2 N2
theorem pc_end {L pl cc c : Addr} {rest' : Led} {ps : List (Str × Value)} {row : List Int} {i : Nat} {B : Int} {s₁ : Shared} {h' : Heap} {tk : Nat} {m' : Str → Option Value} {a b : Int} {ta tb : Tok} {n : Nat} {o : Obj}
    (F : Fr h₀ L h' m') (N : News h₀ L h' ((pl, poolO a b ta tb c n) :: (cc, o) :: rest')) (hk : ∀ p ∈ ps, m' p.1 = some p.2) (hab : 0 ≤ a ∧ 0 ≤ b ∧ b ≤ B) (hfil : Filled prog w row i o) :
    MyEnd h₀ L (fun d : PC => [(pl, poolO d.a d.b d.ta d.tb c d.n), (cc, d.o)]) rest' (fun _ => ps) (fun d => (0 ≤ d.a ∧ 0 ≤ d.b ∧ d.b ≤ B) ∧ Filled prog w row i d.o) s₁ { s₁ with heap := h', toks := tk } :=
  ⟨h', tk, ⟨a, b, ta, tb, n, o⟩, m', rfl, F, N, hk, hab, hfil⟩
end
theorem arr_val {w : World} {led : Led} {row : List Int} {a d c : Addr} {k0 k1 k2 v0 : Tok} {dd : Int} {el : Value} {o : Obj} (hdd : 0 ≤ dd ∧ dd < 2) (h4 : row.length ≤ 4) (hok : RowOk row) (hfil : Filled Challenge.rw_nu0318_01.row.prog w row row.length o)
    (m1 : (a, instObj 52 d) ∈ led) (m2 : (d, arrO w k0 k1 k2 v0 ((row.length : Int) + dd) el c) ∈ led) (m3 : (c, o) ∈ led) (hcs : (c == sysModules) = false) : TextVal w led (.ref a) (ahead row) := by
  obtain ⟨kvs, D, h1, h2, h3, hc⟩ := hfil
  obtain ⟨k, rfl⟩ := Int.eq_ofNat_of_zero_le hdd.1
  have hv : TextVal w led (.ref a) (ahead ((List.range ((row.length : Int) + (k : Int)).toNat).map (fun i => row.getD i 0))) := by
    refine .arr a d c k0 k1 k2 v0 _ el o kvs D (fun i => row.getD i 0) ⟨by omega, by omega⟩ h1 h2 (fun i hi => ?_) (fun i hi => ?_) m1 m2 m3 hcs
    · rw [hc i]
      by_cases e : i < row.length
      · rw [if_pos e]
      · rw [if_neg e]; show PyData.int 0 = PyData.int (row.getD i 0); rw [List.getD_eq_getElem?_getD, List.getElem?_eq_none (by omega)]; rfl
    · show 0 ≤ row.getD i 0 ∧ row.getD i 0 ≤ 255
      rw [List.getD_eq_getElem?_getD]
      by_cases e : i < row.length
      · rw [List.getElem?_eq_getElem e]
        exact hok.chars _ (List.getElem_mem e)
      · rw [List.getElem?_eq_none (by omega)]; exact ⟨by decide, by decide⟩
  rw [show ((row.length : Int) + (k : Int)).toNat = row.length + k by omega, ahead_cells] at hv
  exact hv
-- R3
/-- how _law_text and _law_reference leave the ledger -/
def DrawnPost (w : World) (pl dT c : Addr) (b : Int) (kt : Nat → Tok) (kn bo ch bt it ms ni no : Addr) (rest : Led) (Out : Led → Value → Prop) (r : Value) (news' : Led) : Prop :=
  ∃ (a' b' : Int) (ta' tb' : Tok) (n' : Nat) (cnt' : Int) (tv' : Tok) (led : Led), news' = (pl, poolO a' b' ta' tb' c n') :: (dT, typesO w kt cnt' tv' kn bo ch bt it ms ni no) :: led ∧ (0 ≤ a' ∧ 0 ≤ b' ∧ b' ≤ b + 30) ∧ (∀ p ∈ rest, p ∈ led) ∧ OwnOff led [pl, dT] ∧ Out led r
theorem text_end {w : World} {pl dT c : Addr} {b : Int} {kt : Nat → Tok} {kn bo ch bt it ms ni no : Addr} {rest : Led} {Out : Led → Value → Prop} {h₀ : Heap} {L : Addr} {m : Str → Option Value} {s : Shared} {Q : Value → Shared → Prop} {r : Value} {h' : Heap} {tk : Nat} {a' b' cnt' : Int} {ta' tb' tv' : Tok} {n' : Nat} {news : Led}
    (ret : ∀ r news' h' tk', Fr h₀ L h' m → News h₀ L h' news' → DrawnPost w pl dT c b kt kn bo ch bt it ms ni no rest Out r news' → Q r { s with heap := h', toks := tk' })
    (F : Fr h₀ L h' m) (N : News h₀ L h' news) (hp : (pl, poolO a' b' ta' tb' c n') ∈ news) (hq : (dT, typesO w kt cnt' tv' kn bo ch bt it ms ni no) ∈ news) (hb : 0 ≤ a' ∧ 0 ≤ b' ∧ b' ≤ b + 30) (hrest : ∀ p ∈ rest, p ∈ news) (hoff : OwnOff rest [pl, dT])
    (out : ∀ led, (∀ p ∈ rest, p ∈ led) → (∀ p ∈ news, @Ne Nat p.1 pl → @Ne Nat p.1 dT → p ∈ led) → Out led r) : Q r { s with heap := h', toks := tk } := by
  obtain ⟨led, N', hoff', hin⟩ := pack2 N hp hq
  have hsub : ∀ p ∈ rest, p ∈ led := fun p hp => hin p (hrest p hp) (hoff p hp pl (.head _)) (hoff p hp dT (.tail _ (.head _)))
  exact ret _ _ _ _ F N' ⟨a', b', ta', tb', n', cnt', tv', led, rfl, hb, hsub, hoff', out led hsub hin⟩
/-- the name that the law gives a reference -/
def refName : Bool → Nat → Str
  | _, 0 => S "nothing"
  | false, 1 => S "record0"
  | false, _ => S "record1"
  | true, 1 => S "procedure0"
  | true, _ => S "procedure1"
/-- what _law_reference gives back -/
def RefOut (w : World) (fam : Bool) (led : Led) (r : Value) : Prop :=
  ∃ (tup : Addr) (v tyv : Value) (k : Nat) (t : Tok) (K : TyK), r = .ref tup ∧ (tup, tupO [v, .str (refName fam k) t, tyv]) ∈ led ∧ k < 3 ∧ RefVal w led fam k v ∧ TyIs w led K tyv ∧ isR K = true ∧ isT K = false
-- R4
section
variable {prog : Program} {w : World} {A : Around} {E : Value → Shared → Prop} {s : Shared} {h₀ : Heap} {L l : Addr} {news : Led} {its : Array Value} {n : Nat} {k : Int} {u : Tok} {v : Value} {Q : Value → Shared → Prop} {value slice : PySem.Expr}
theorem item_V (N : News h₀ L s.heap news) (hm : (l, listOf its n) ∈ news) (hk : 0 ≤ k ∧ k < 1000) (hx : its.toList[k.toNat]? = some v) (h : Q v s)
    (hs : subscripted slice false (.ref l) (.int k u) = operate [.ref l, .int k u] (getItem (.ref l) (.int k u))) (hg : ∀ r, letTemporaryGo value (.ref l) r = pure ()) :
    wpAny (model prog w) A (subscriptTail value slice (.ref l) (.int k u)) Q E s :=
  item_list (items := its) (N.isList hm) hk.1 (by omega) (by simpa using hx) h hs hg
end
-- T2
theorem typesO_intro (w : World) (k0 k1 k2 k3 k4 k5 k6 k7 k8 : Tok) (cnt : Int) (tv : Tok) (kn bo ch bt it ms ni no : Addr) :
    ∃ kt, dictOf [ent w "counter" k0 (.int cnt tv), ent w "known" k1 (.ref kn), ent w "boolean" k2 (.ref bo), ent w "char" k3 (.ref ch), ent w "byte" k4 (.ref bt), ent w "integer" k5 (.ref it), ent w "mask" k6 (.ref ms), ent w "nil" k7 (.ref ni), ent w "none" k8 (.ref no)] 9
      = typesO w kt cnt tv kn bo ch bt it ms ni no := ⟨tokF k0 k1 k2 k3 k4 k5 k6 k7 k8 0 0 0, rfl⟩
def TypesPost (w : World) (news : Led) (r : Value) (news' : Led) : Prop :=
  ∃ (ty dT : Addr) (kt : Nat → Tok) (cnt : Int) (tv : Tok) (kn bo ch bt it ms ni no : Addr) (own : Led), r = .ref ty ∧ news' = (ty, instObj 172 dT) :: (dT, typesO w kt cnt tv kn bo ch bt it ms ni no) :: (news ++ own) ∧
    AllLt dT news ∧ @LT.lt Nat _ dT ty ∧ OwnOff own (ty :: dT :: news.map (·.1)) ∧ TyIs w own .chr (.ref ch) ∧ TyIs w own .nil (.ref ni) ∧ TyIs w own .int (.ref it) ∧ TyIs w own .bool (.ref bo) ∧ TyIs w own .set (.ref ms)
theorem types_end {w : World} {news big : Led} {h₀ : Heap} {L : Addr} {m : Str → Option Value} {s : Shared} {Q : Value → Shared → Prop} {h' : Heap} {tk : Nat} {ty dT : Addr} {k0 k1 k2 k3 k4 k5 k6 k7 k8 : Tok} {cnt : Int} {tv : Tok} {kn bo ch bt it ms ni no : Addr}
    (ret : ∀ r news' h' tk', Fr h₀ L h' m → News h₀ L h' news' → TypesPost w news r news' → Q r { s with heap := h', toks := tk' })
    (F : Fr h₀ L h' m) (N : News h₀ L h' big) (m1 : (ty, instObj 172 dT) ∈ big)
    (m2 : (dT, dictOf [ent w "counter" k0 (.int cnt tv), ent w "known" k1 (.ref kn), ent w "boolean" k2 (.ref bo), ent w "char" k3 (.ref ch), ent w "byte" k4 (.ref bt), ent w "integer" k5 (.ref it), ent w "mask" k6 (.ref ms), ent w "nil" k7 (.ref ni), ent w "none" k8 (.ref no)] 9) ∈ big)
    (hsub : ∀ p ∈ news, p ∈ big) (h1 : AllLt dT news) (h2 : @LT.lt Nat _ dT ty)
    (out : ∀ own, (∀ p ∈ big, @Ne Nat p.1 ty → @Ne Nat p.1 dT → AllLt p.1 news → p ∈ own) → TyIs w own .chr (.ref ch) ∧ TyIs w own .nil (.ref ni) ∧ TyIs w own .int (.ref it) ∧ TyIs w own .bool (.ref bo) ∧ TyIs w own .set (.ref ms)) :
    Q (.ref ty) { s with heap := h', toks := tk } := by
  obtain ⟨kt, e⟩ := typesO_intro w k0 k1 k2 k3 k4 k5 k6 k7 k8 cnt tv kn bo ch bt it ms ni no
  rw [e] at m2
  obtain ⟨own, hown⟩ : ∃ own : Led, own = big.filter fun p => @decide (@Ne Nat p.1 ty ∧ @Ne Nat p.1 dT ∧ AllLt p.1 news) (Classical.propDecidable _) := ⟨_, rfl⟩
  have hin : ∀ p ∈ big, @Ne Nat p.1 ty → @Ne Nat p.1 dT → AllLt p.1 news → p ∈ own := fun p hp a b c => by
    subst hown
    exact List.mem_filter.mpr ⟨hp, @decide_eq_true _ (Classical.propDecidable _) ⟨a, b, c⟩⟩
  have hout : ∀ p ∈ own, p ∈ big ∧ @Ne Nat p.1 ty ∧ @Ne Nat p.1 dT ∧ AllLt p.1 news := fun p hp => by
    subst hown
    have := List.mem_filter.mp hp
    exact ⟨this.1, @of_decide_eq_true _ (Classical.propDecidable _) this.2⟩
  obtain ⟨t1, t2, t3, t4, t5⟩ := out own hin
  refine ret (.ref ty) ((ty, instObj 172 dT) :: (dT, typesO w kt cnt tv kn bo ch bt it ms ni no) :: (news ++ own)) h' tk F (led_drop N fun p hp => ?_) ⟨ty, dT, kt, cnt, tv, kn, bo, ch, bt, it, ms, ni, no, own, rfl, rfl, h1, h2, fun p hp b hb => ?_, t1, t2, t3, t4, t5⟩
  · rcases List.mem_cons.mp hp with rfl | hp
    · exact m1
    · rcases List.mem_cons.mp hp with rfl | hp
      · exact m2
      · rcases List.mem_append.mp hp with hp | hp
        · exact hsub p hp
        · exact (hout p hp).1
  · rcases List.mem_cons.mp hb with rfl | hb
    · exact (hout p hp).2.1
    · rcases List.mem_cons.mp hb with rfl | hb
      · exact (hout p hp).2.2.1
      · obtain ⟨q, hq, rfl⟩ := List.mem_map.mp hb
        exact fun e => Nat.lt_irrefl _ (e ▸ allLt_iff.mp (hout p hp).2.2.2 q hq)
theorem allLt_of_all {d : Addr} {news : Led} (h : ∀ p ∈ news, @LT.lt Nat _ p.1 d) : AllLt d news := allLt_iff.mpr h
theorem ty_made {w : World} {news big own : Led} {k : TyK} {t d ty dT : Addr} {kt vt : Nat → Tok} {num size : Int} {base : Value} {len : Int} {f p h : Addr} (hk : k ≠ .arr)
    (hin : ∀ p ∈ big, @Ne Nat p.1 ty → @Ne Nat p.1 dT → AllLt p.1 news → p ∈ own) (m1 : (t, instObj 136 d) ∈ big) (m2 : (d, typeO w kt vt num (formOf k) size base len f p h) ∈ big)
    (n1 : @Ne Nat t ty) (n2 : @Ne Nat t dT) (n3 : @Ne Nat d ty) (n4 : @Ne Nat d dT) (hdt : @LT.lt Nat _ d t) (ha : AllLt d news) : TyIs w own k (.ref t) :=
  .plain k hk t d kt vt num size base len f p h (hin _ m1 n1 n2 (allLt_up ha hdt)) (hin _ m2 n3 n4 ha)
set_option maxHeartbeats 4000000 in
theorem types_c (w : World) (news : Led) : Ctr w 172 [] news 20 200 (TypesPost w news) := by
  intro mean mg mb dp un gd cn cs fa ccd cl outer A₀ base h₀ L m s Q E B F X N T hk hdp hu hret
  revert X; k_fill; intro X
  have hrc : recursionLimit = 1000 := rfl
  k_dflt (refine' call_cls ?k1 ?k2 ?k3 ?k4 ?k5 ?k6 ?_; (case k1 => k_asm); (case k2 => k_asm); (case k3 => k_asm); (case k4 => k_is); (case k5 => k_is); (case k6 => k_is); k_whole; intro x' d' h' F' N' l1 l2; (try k_lt l1); (try k_lt2 l2); (try k_sweep); cell_enter)
  k_steps
  rename Fr _ _ _ _ => F9
  rename News _ _ _ _ => N9
  refine types_end hret F9 N9 (by k_mem) (by k_mem) (fun p hp => by k_mem) (allLt_of_all l1) l2 ?_
  intro own hin
  refine ⟨?_, ?_, ?_, ?_, ?_⟩
  all_goals exact ty_made (by decide) hin (by k_mem) (by k_mem) (by k_ne) (by k_ne) (by k_ne) (by k_ne) (by assumption) (by tbn_find)
theorem types_w {w : World} {news : Led} (_ : True) : CtrU w 172 [] news 20 200 (fun Q s h₀ L m => ∀ (h' : Heap) (tk' : Nat) (ty dT : Addr) (kt : Nat → Tok) (cnt : Int) (tv : Tok) (kn bo ch bt it ms ni no : Addr) (own : Led), AllLt dT news → @LT.lt Nat _ dT ty → OwnOff own (ty :: dT :: news.map (·.1)) →
      TyIs w own .chr (.ref ch) → TyIs w own .nil (.ref ni) → TyIs w own .int (.ref it) → TyIs w own .bool (.ref bo) → TyIs w own .set (.ref ms) → Fr h₀ L h' m → News h₀ L h' ((ty, instObj 172 dT) :: (dT, typesO w kt cnt tv kn bo ch bt it ms ni no) :: (news ++ own)) → Q (.ref ty) { s with heap := h', toks := tk' }) :=
  (types_c w news).toU fun Q s h₀ L m k r news' h' tk' F N P => by
    obtain ⟨ty, dT, kt, cnt, tv, kn, bo, ch, bt, it, ms, ni, no, own, rfl, rfl, h1, h2, h3, h4, h5, h6, h7, h8⟩ := P
    exact k h' tk' ty dT kt cnt tv kn bo ch bt it ms ni no own h1 h2 h3 h4 h5 h6 h7 h8 F N
-- T3
def RecPost (w : World) (l : Addr) (num : Int) (news : Led) (r : Value) (news' : Led) : Prop :=
  ∃ (x d c : Addr) (k0 k1 k2 v1 : Tok), r = .ref x ∧ news' = (x, instObj 31 d) :: (d, recO w k0 k1 k2 v1 l c num) :: news ∧ AllLt d news ∧ @LT.lt Nat _ d x
set_option maxHeartbeats 4000000 in
theorem rec_c (w : World) (l : Addr) (num : Int) (t : Tok) (news : Led) : Ctr w 31 [.ref l, .int num t] news 10 100 (RecPost w l num news) := by
  intro mean mg mb dp un gd cn cs fa ccd cl outer A₀ base h₀ L m s Q E B F X N T hk hdp hu hret
  revert X; k_fill; intro X
  have hrc : recursionLimit = 1000 := rfl
  k_dflt (refine' call_cls ?k1 ?k2 ?k3 ?k4 ?k5 ?k6 ?_; (case k1 => k_asm); (case k2 => k_asm); (case k3 => k_asm); (case k4 => k_is); (case k5 => k_is); (case k6 => k_is); k_whole; intro x' d' h' F' N' l1 l2; (try k_lt l1); (try k_lt2 l2); (try k_sweep); cell_enter)
  k_steps
  rename Fr _ _ _ _ => F9
  rename News _ _ _ _ => N9
  exact hret _ _ _ _ F9 (led_drop N9 fun p hp => by
    rcases List.mem_cons.mp hp with rfl | hp
    · k_mem
    · rcases List.mem_cons.mp hp with rfl | hp
      · k_mem
      · k_mem) ⟨x', d', _, _, _, _, _, rfl, rfl, allLt_iff.mpr l1, l2⟩
theorem rec_w {w : World} {l : Addr} {num : Int} {t : Tok} {news : Led} (_ : True) : CtrU w 31 [.ref l, .int num t] news 10 100 (fun Q s h₀ L m => ∀ (h' : Heap) (tk' : Nat) (x d c : Addr) (k0 k1 k2 v1 : Tok), AllLt d news → @LT.lt Nat _ d x → Fr h₀ L h' m →
      News h₀ L h' ((x, instObj 31 d) :: (d, recO w k0 k1 k2 v1 l c num) :: news) → Q (.ref x) { s with heap := h', toks := tk' }) :=
  (rec_c w l num t news).toU fun Q s h₀ L m k r news' h' tk' F N P => by
    obtain ⟨x, d, c, k0, k1, k2, v1, rfl, rfl, h1, h2⟩ := P
    exact k h' tk' x d c k0 k1 k2 v1 h1 h2 F N
-- X1
/-- behind the statement that sets ahead -/
def AheadMid (h₀ : Heap) (L : Addr) (s : Shared) (m : Str → Option Value) (nx : Led) (row : List Int) (pl dT : Addr) (s' : Shared) : Prop :=
  ∃ (h : Heap) (tk : Nat) (la : Addr) (vs : List Value) (n : Nat), s' = { s with heap := h, toks := tk } ∧ Fr h₀ L h (fun z => if z = S "ahead" then some (.ref la) else m z) ∧ News h₀ L h ((la, listOf vs.toArray n) :: nx) ∧ IntsAre vs (ahead row) ∧ (@Ne Nat la pl) ∧ (@Ne Nat la dT)
theorem ahead_cut {prog : Program} {w : World} {A : Around} {E : Value → Shared → Prop} {s : Shared} {env : Env} {st : Stmt} {stmts : List Stmt} {Q : Flow → Shared → Prop} {h₀ : Heap} {L : Addr} {m : Str → Option Value} {nx : Led} (_F : Fr h₀ L s.heap m) (_N : News h₀ L s.heap nx) (row : List Int) (pl dT : Addr)
    (h1 : wpAny (model prog w) A (exec st env) (fun f s' => f = .next ∧ AheadMid h₀ L s m nx row pl dT s') E s) (h2 : ∀ s', AheadMid h₀ L s m nx row pl dT s' → wpAny (model prog w) A (execs stmts env) Q E s') : wpAny (model prog w) A (execs (st :: stmts) env) Q E s :=
  wpAny_execs_cons (wpAny_mono h1 (fun f s' h => by obtain ⟨rfl, h⟩ := h; exact h2 s' h) fun _ _ e => e)
theorem news_dup {h₀ h : Heap} {L : Addr} {p : Addr × Obj} {nx : Led} (N : News h₀ L h nx) (hm : p ∈ nx) : News h₀ L h (p :: nx) := fun q hq => by
  rcases List.mem_cons.mp hq with rfl | hq
  · exact N _ hm
  · exact N _ hq
local macro_rules | `(tactic| walk_at "compareOp In int ref") => `(tactic| (k_here; k_dflt (refine' in_L ?k1 ?k2 ?k3 ?_; (case k1 => k_asm); (case k2 => k_mem); (case k3 => assumption))))
local macro_rules | `(tactic| walk_at "call builtin:list.index") => `(tactic| (k_here; (with_reducible show wpAny _ _ (call (Value.builtin _) [Value.ref _, Value.int _ _]) _ _ _); k_dflt (refine' index_L ?k1 ?k2 ?k3 ?k4 ?k5 ?_; (case k1 => k_asm); (case k2 => k_mem); (case k3 => assumption); (case k4 => omega); (case k5 => first | assumption | exact mem_of_any (by assumption)))))
local macro_rules | `(tactic| walk_at "setItem ref int") => `(tactic| (k_here; (with_reducible show wpAny _ _ (setItem (Value.ref _) (Value.int _ _) (Value.int _ _)) _ _ _); k_dflt (refine' set_cell ?F ?N ?U ?d ?f ?z ?_; (case F => k_asm); (case N => k_asm); (case U => k_updF); (case d => k_asm); (case f => k_asm); (case z => omega)); intro h' o' F' N' hd' hf'; (try dsimp only at N'); (try k_sweep)))
local macro_rules | `(tactic| walk_at "subscriptTail") => `(tactic| (k_here; (with_reducible show wpAny _ _ (subscriptTail _ _ (Value.ref _) (Value.int _ _)) _ _ _); k_dflt (refine' item_V (its := #[_, _]) ?k1 ?k2 ?k3 ?k4 ?_ ?k6 ?k7; (case k1 => k_asm); (case k2 => k_mem); (case k3 => decide); (case k4 => exact rfl); (case k6 => with_unfolding_all rfl); (case k7 => (intro _; with_unfolding_all rfl)))))
local macro_rules | `(tactic| walk_at "call ref") => `(tactic| ktr_call draw_w 183)
local macro_rules | `(tactic| walk_at "call ref") => `(tactic| (ktn_call string_w 169; intros; ktr_step; tbn_lt))
local macro_rules | `(tactic| walk_at "CompSrc") => `(tactic| (k_here; refine hold ?_))
local macro_rules | `(tactic| walk_at "CompEnd") => `(tactic| refine hold ?_)
local macro_rules | `(tactic| walk_at "execs cons") => `(tactic| (k_here; (with_reducible show wpAny _ _ (execs (Stmt.Assign [PySem.Expr.Name (Str.ofString "ahead") _] _ _ :: _) _) _ _ _); refine hold ?_))
set_option maxHeartbeats 4000000 in
theorem text_0 (w : World) (pl c ty dT : Addr) (a b : Int) (ta tb : Tok) (n n2 : Nat) (vs : List Value) (ns : List Int) (kt : Nat → Tok) (cnt : Int) (tv : Tok) (kn bo ch bt it ms ni no : Addr) (rest : Led)
   (hi : IntsAre vs ns) (hlen : 1 ≤ ns.length ∧ ns.length ≤ 40) (hab : 0 ≤ a ∧ 0 ≤ b ∧ b ≤ 1000) (hoff : OwnOff rest [pl, dT]) (hne : @Ne Nat pl dT) (hne2 : @Ne Nat c pl) (hne3 : @Ne Nat ty dT) (m1 : (c, listOf vs.toArray n2) ∈ rest) (m2 : (ty, instObj 172 dT) ∈ rest) (hC : TyIs w rest .chr (.ref ch)) :
   Ctr w 188 [.ref pl, .ref ty] ((pl, poolO a b ta tb c n) :: (dT, typesO w kt cnt tv kn bo ch bt it ms ni no) :: rest) 14 100 (DrawnPost w pl dT c b kt kn bo ch bt it ms ni no rest (TextOut w)) := by
  intro mean mg mb dp un gd cn cs fa ccd cl outer A₀ base h₀ L m s Q E B F X N T hk hdp hu hret
  revert X; k_fill; intro X
  have hrc : recursionLimit = 1000 := rfl
  refine wpAny_call ?_
  k_dflt cell_enter
  k_steps
  · unfold Hold
    rename_i g' L' h1 tk1 FG B' X' T' hA1 l1 o' d1 h9 tk9 d9 a9 b9 td9 ta9 tb9 n9 hd9 hab9 h2 F' N' hk2 h3 tk3 t1 u1 v1 hR F1 N1 hkp
    subst hk2
    clear F' N'
    refine LCg.CompSrc.range (n := 1) rfl F1 N1 hR (small_of (by omega) (by omega)) rfl (by rw [sizeLine_eq]; omega) ?_
    intro g9
    refine my_comp (fun i ys nx => ∃ a8 b8 ta8 tb8 n8, nx = (L' + 1, o') :: (pl, poolO a8 b8 ta8 tb8 c n8) :: (dT, typesO w kt cnt tv kn bo ch bt it ms ni no) :: rest ∧ (0 ≤ a8 ∧ 0 ≤ b8 ∧ b8 ≤ b9 + i) ∧ ys.length = i ∧ ∃ row, IntsAre ys row ∧ RowOk row)
      ⟨a9, b9, ta9, tb9, n9, rfl, ⟨hab9.1, hab9.2.1, by omega⟩, rfl, [], .nil, fun _ h => nomatch h⟩ ?_ ?_
    · rintro i v I oI C oC D m₂ ys nx h tk E' hi7 hP ⟨a8, b8, ta8, tb8, n8, rfl, hab8, hyl, row, hrow, hok⟩ hC hx F N off ne
      simp only [LCg.Off3, and_true] at off
      have z1 := off.1.1; have z2 := off.1.2.1; have z3 := off.1.2.2; have z4 := off.2.1.1; have z5 := off.2.1.2.1; have z6 := off.2.1.2.2; have z7 := off.2.2.1.1; have z8 := off.2.2.1.2.1; have z9 := off.2.2.1.2.2
      k_steps
      unfold Hold
      rename Fr _ _ _ _ => F9
      rename News _ _ _ _ => N9
      refine LCg.CompEnd.intro F9 N9 _ (fun p hp => .tail _ hp) off trivial ⟨_, _, _, _, _, rfl, ?_, ?_, _, IntsAre.append hrow (.cons _ _ .nil), hok.snoc (menu5 (by assumption))⟩
      · exact ab_up (by assumption) (by omega)
      · rw [List.length_append, hyl]; rfl
    · rintro ys nx ⟨a8, b8, ta8, tb8, n8, rfl, hab8, hyl, row, hrow, hok⟩
      have hrl := hrow.length
      unfold LCg.FinA
      intro D h tk F N off1
      simp only [LCg.Off1, and_true] at off1
      have z1 := off1.1; have z2 := off1.2.1; have z3 := off1.2.2.1
      k_steps
      unfold Hold
      rename Fr _ _ _ _ => F9
      rename News _ _ _ _ => N9
      refine ahead_cut F9 N9 row pl dT ?_ ?_
      · k_steps
        all_goals first
          | exact True.intro
          | exact ⟨_, _, _, _, _, rfl, by assumption, by assumption, ints_ahead (by assumption) (by assumption), by k_ne, by k_ne⟩
          | exact ⟨_, _, _, _, _, rfl, by assumption, news_dup (by assumption) (by k_mem), ints_whole (by assumption) hrow, by k_ne, by k_ne⟩
      · rintro s' ⟨h5, tk5, la, vs5, n5, rfl, F5, N5, hI5, e5, e6⟩
        clear F9 N9
        k_steps
        rename Fr _ _ _ _ => F9
        rename News _ _ _ _ => N9
        refine text_end hret F9 N9 (by k_mem) (by k_mem) (ab_up (by assumption) (by omega)) (fun p hp => by k_mem) hoff ?_
        intro led hsub hin
        exact ⟨_, _, _, _, ahead row, _, _, .chr, rfl, hin _ (.head _) (by k_ne) (by k_ne), one_val (by omega) hok, hin (la, _) (by k_mem) e5 e6, hI5, chars_ahead hok.chars, Nat.le_trans (ahead_le _) (by omega), hC.mono hsub, rfl, rfl⟩
  · unfold Hold
    rename_i g' L' h1 tk1 FG B' X' T' hA1 l1 o' d1 h9 tk9 d9 a9 b9 td9 ta9 tb9 n9 hd9 hab9 qk9 ek9 h2 hk2 h8 tk8 e9 p9 q9 te9 tp9 tq9 n8 hd8 hab8 F' N' h3 tk3 t1 u1 v1 hR F1 N1 hkp
    clear F' N'
    refine LCg.CompSrc.range (n := e9.toNat) rfl F1 N1 hR (small_of (by omega) (by omega)) (size_of (by omega)) (by rw [sizeLine_eq]; omega) ?_
    intro g9
    refine my_comp (fun i ys nx => ∃ a8 b8 ta8 tb8 n8, nx = (L' + 1, o') :: (pl, poolO a8 b8 ta8 tb8 c n8) :: (dT, typesO w kt cnt tv kn bo ch bt it ms ni no) :: rest ∧ (0 ≤ a8 ∧ 0 ≤ b8 ∧ b8 ≤ q9 + i) ∧ ys.length = i ∧ ∃ row, IntsAre ys row ∧ RowOk row)
      ⟨p9, q9, tp9, tq9, n8, rfl, ⟨hab8.1, hab8.2.1, by omega⟩, rfl, [], .nil, fun _ h => nomatch h⟩ ?_ ?_
    · rintro i v I oI C oC D m₂ ys nx h tk E' hi7 hP ⟨a8, b8, ta8, tb8, n8, rfl, hab8, hyl, row, hrow, hok⟩ hC hx F N off ne
      have hi8 : i < 5 := by clear ne; omega
      simp only [LCg.Off3, and_true] at off
      have z1 := off.1.1; have z2 := off.1.2.1; have z3 := off.1.2.2; have z4 := off.2.1.1; have z5 := off.2.1.2.1; have z6 := off.2.1.2.2; have z7 := off.2.2.1.1; have z8 := off.2.2.1.2.1; have z9 := off.2.2.1.2.2
      k_steps
      unfold Hold
      rename Fr _ _ _ _ => F9
      rename News _ _ _ _ => N9
      refine LCg.CompEnd.intro F9 N9 _ (fun p hp => .tail _ hp) off trivial ⟨_, _, _, _, _, rfl, ?_, ?_, _, IntsAre.append hrow (.cons _ _ .nil), hok.snoc (menu5 (by assumption))⟩
      · exact ab_up (by assumption) (by omega)
      · rw [List.length_append, hyl]; rfl
    · rintro ys nx ⟨a8, b8, ta8, tb8, n8, rfl, hab8', hyl, row, hrow, hok⟩
      have hrl := hrow.length
      have hr4 : row.length ≤ 4 := by omega
      unfold LCg.FinA
      intro D h tk F N off1
      simp only [LCg.Off1, and_true] at off1
      have z1 := off1.1; have z2 := off1.2.1; have z3 := off1.2.2.1
      k_steps
      unfold Hold
      rename Fr _ _ _ _ => F9
      rename News _ _ _ _ => N9
      refine ahead_cut F9 N9 row pl dT ?_ ?_
      · k_steps
        all_goals first
          | exact True.intro
          | exact ⟨_, _, _, _, _, rfl, by assumption, by assumption, ints_ahead (by assumption) (by assumption), by k_ne, by k_ne⟩
          | exact ⟨_, _, _, _, _, rfl, by assumption, news_dup (by assumption) (by k_mem), ints_whole (by assumption) hrow, by k_ne, by k_ne⟩
      rintro s' ⟨h5, tk5, la, vs5, n5, rfl, F5, N5, hI5, e5, e6⟩
      clear F9 N9
      have hkk : d9 = 0 ∨ d9 = 1 := two_cases (by assumption) (by assumption)
      rcases hkk with rfl | rfl
      · clear hk2
        k_steps
        all_goals (
          unfold Hold
          rename Fr _ _ _ _ => F1
          rename News _ _ _ _ => N1
          refine LCg.CompSrc.ledger (its := ys.toArray) (k := ys.length) rfl F1 N1 (by k_mem) (by rw [sizeLine_eq, List.size_toArray]; omega) ?_
          intro g7
          refine my_compC (fun i zs => StrsAre zs ((row.take i).map chrS)) .nil ?_ ?_)
        all_goals first
          | (intro i v I oI C oC D2 m₂ zs h7 tk7 E' hi7 hP hz hC7 hx F N off ne
             obtain ⟨t7, rfl, hx7, e7⟩ := item_at hP hrow
             have hc7 := hok.chars _ hx7
             simp only [LCg.Off3, and_true] at off
             k_steps
             unfold Hold
             rename Fr _ _ _ _ => F9
             rename News _ _ _ _ => N9
             exact LCg.CompEnd.intro F9 N9 _ (fun p hp => hp) off (.inr ⟨_, by k_mem, rfl, _, rfl⟩) ⟨rfl, strs_step hz e7⟩)
          | (intro zs hz
             rw [take_whole hrow] at hz
             unfold LCg.FinE
             intro D3 h8 tk8 F N off1
             simp only [LCg.Off1, and_true] at off1
             have z4 := off1.1; have z5 := off1.2.1; have z6 := off1.2.2.1; have z7 := off1.2.2.2.1; have z8 := off1.2.2.2.2.1
             k_steps
             rename Fr _ _ _ _ => F9
             rename News _ _ _ _ => N9
             refine text_end hret F9 N9 (by k_mem) (by k_mem) (ab_up (by assumption) (by omega)) (fun p hp => by k_mem) hoff ?_
             intro led hsub hin
             exact ⟨_, _, _, _, ahead row, _, _, .str, rfl, hin _ (.head _) (by k_ne) (by k_ne), .str row _ hok.chars (by omega), hin (la, _) (by k_mem) e5 e6,
               hI5, chars_ahead hok.chars, Nat.le_trans (ahead_le _) (by omega),
               .plain .str (by decide) _ _ _ _ _ _ _ _ _ _ _ (hin _ (.tail _ (.head _)) (by k_ne) (by k_ne)) (hin _ (.tail _ (.tail _ (.head _))) (by k_ne) (by k_ne)), rfl, rfl⟩)
      · clear hk2
        k_steps
        all_goals (
          unfold Hold
          rename Fr _ _ _ _ => F1
          rename News _ _ _ _ => N1
          rename IsRange _ _ _ _ _ _ _ _ => hR1
          refine' held_loop row rfl hR1 (by omega) F1 N1 ?mp (.head _) ?hd ?hf ?hab (R := rest) ?hr rfl rfl rfl rfl ?_ ?_
          (case mp => k_mem)
          (case hd => assumption)
          (case hf => assumption)
          (case hab => first | exact ab_up (by assumption) (by omega) | omega)
          (case hr => exact fun p hp => ⟨by k_mem, hoff p hp pl (.head _), (tbn_neAll (by tbn_find) : ∀ p ∈ rest, p.1 ≠ _) p hp⟩))
        all_goals first
          | (intro d7 i7 t7 u7 h7 tk7 rest' hi7 hab7 hfil hoff7 hR7 hin7 F2 N2
             have q1 := hin7 _ (.tail _ (.head _)) (by k_ne) (by k_ne)
             have q2 := hin7 _ (.tail _ (.tail _ (.head _))) (by k_ne) (by k_ne)
             have q3 := hin7 (D, LCg.lst ys) (by k_mem) (by k_ne) (by k_ne)
             have q4 := hin7 (L' + 1, o') (by k_mem) (by k_ne) (by k_ne)
             have q5 := hR7 _ m1
             obtain ⟨kvs7, D7, hd7, hf7, hl7, hc7⟩ := hfil
             clear hin7
             dsimp only [kstB] at F2
             k_steps
             all_goals (
               rename Fr _ _ _ _ => F9
               rename News _ _ _ _ => N9
               refine pc_end F9 N9 (List.forall_mem_cons.mpr ⟨rfl, List.forall_mem_cons.mpr ⟨rfl, List.forall_mem_cons.mpr ⟨rfl, List.forall_mem_cons.mpr ⟨rfl, List.forall_mem_nil _⟩⟩⟩⟩) (by first | exact ab_up (by assumption) (by omega) | omega) ?_)
             all_goals first
               | exact Filled.put (by assumption) (by assumption) hl7 hc7
               | exact Filled.skip ⟨kvs7, D7, hd7, hf7, hl7, hc7⟩ (by assumption))
          | (intro d7 u7 h7 tk7 rest' hab7 hfil hoff7 hR7 hin7 F2 N2
             have q1 := hin7 _ (.tail _ (.head _)) (by k_ne) (by k_ne)
             have q2 := hin7 _ (.tail _ (.tail _ (.head _))) (by k_ne) (by k_ne)
             have q3 := hin7 _ (.tail _ (.tail _ (.tail _ (.head _)))) (by k_ne) (by k_ne)
             have q4 := hin7 _ (.tail _ (.tail _ (.tail _ (.tail _ (.head _))))) (by k_ne) (by k_ne)
             have q5 := hin7 (la, listOf vs5.toArray n5) (by k_mem) e5 (by k_ne)
             have q6 := hin7 (dT, _) (by k_mem) (by k_ne) (by k_ne)
             have z1 : @LT.lt Nat _ pl h7.objs.size := Heap.lt_size (N2 _ (.head _)).1
             have z2 : @LT.lt Nat _ dT h7.objs.size := Heap.lt_size (N2 _ (.tail _ (.tail _ q6))).1
             clear hin7
             dsimp only [kstB] at F2
             k_steps
             rename Fr _ _ _ _ => F9
             rename News _ _ _ _ => N9
             refine text_end hret F9 N9 (by k_mem) (by k_mem) (ab_up (by assumption) (by omega)) (fun p hp => .tail _ (.tail _ (.tail _ (hR7 p hp)))) hoff ?_
             intro led hsub hin
             exact ⟨_, _, _, _, ahead row, _, _, .arr, rfl, hin _ (.head _) (by k_ne) (by k_ne), arr_val (by assumption) hr4 hok hfil (hin _ (.tail _ (.tail _ (.tail _ q1))) (by k_ne) (by k_ne)) (hin _ (.tail _ (.tail _ (.tail _ q2))) (by k_ne) (by k_ne)) (hin _ (.tail _ (.tail _ (.head _))) (by k_ne) (by k_ne)) (by assumption),
               hin (la, _) (.tail _ (.tail _ (.tail _ q5))) e5 e6,
               hI5, chars_ahead hok.chars, Nat.le_trans (ahead_le _) (by omega),
               TyIs_arr_of (hin _ (.tail _ (.tail _ (.tail _ q3))) (by k_ne) (by k_ne)) (hin _ (.tail _ (.tail _ (.tail _ q4))) (by k_ne) (by k_ne)) (hC.mono hsub) rfl, rfl, rfl⟩)
-- X2
section
local macro_rules | `(tactic| walk_at "call ref") => `(tactic| (k_here; (with_reducible show wpAny _ _ (call (Value.ref 183) [_, Value.int 2 _]) _ _ _); (ktn_call draw2_w 183; refine two_of ?_ ?_; all_goals (intros; tbn_lt))))
local macro_rules | `(tactic| walk_at "call ref") => `(tactic| (k_here; (with_reducible show wpAny _ _ (call (Value.ref 183) [_, Value.int 3 _]) _ _ _); (ktn_call draw3_w 183; refine three_of ?_ ?_ ?_; all_goals (intros; tbn_lt))))
set_option maxHeartbeats 4000000 in
theorem ref_0 (w : World) (pl c ty dT rl r1 r2 : Addr) (a b : Int) (ta tb tf : Tok) (n n2 n3 : Nat) (vs : List Value) (ns : List Int) (kt : Nat → Tok) (cnt : Int) (tv : Tok) (kn bo ch bt it ms ni no : Addr) (rest : Led)
   (hi : IntsAre vs ns) (hlen : 1 ≤ ns.length ∧ ns.length ≤ 40) (hab : 0 ≤ a ∧ 0 ≤ b ∧ b ≤ 1000) (hoff : OwnOff rest [pl, dT]) (hne : @Ne Nat pl dT) (hne2 : @Ne Nat c pl) (hne3 : @Ne Nat ty dT) (m1 : (c, listOf vs.toArray n2) ∈ rest) (m2 : (ty, instObj 172 dT) ∈ rest)
   (m3 : (rl, listOf #[.ref r1, .ref r2] n3) ∈ rest) (hN : TyIs w rest .nil (.ref ni)) (hR1 : RefVal w rest false 1 (.ref r1)) (hR2 : RefVal w rest false 2 (.ref r2)) :
   Ctr w 195 [.ref pl, .ref ty, .ref rl, .int 0 tf] ((pl, poolO a b ta tb c n) :: (dT, typesO w kt cnt tv kn bo ch bt it ms ni no) :: rest) 14 100 (DrawnPost w pl dT c b kt kn bo ch bt it ms ni no rest (RefOut w false)) := by
  intro mean mg mb dp un gd cn cs fa ccd cl outer A₀ base h₀ L m s Q E B F X N T hk hdp hu hret
  revert X; k_fill; intro X
  have hrc : recursionLimit = 1000 := rfl
  refine wpAny_call ?_
  k_dflt cell_enter
  k_steps
  all_goals (
    rename Fr _ _ _ _ => F9
    rename News _ _ _ _ => N9
    refine text_end hret F9 N9 (by k_mem) (by k_mem) (ab_up (by assumption) (by omega)) (fun p hp => by k_mem) hoff ?_
    intro led hsub hin)
  · exact ⟨_, _, _, 0, _, .ptr, rfl, hin _ (.head _) (by k_ne) (by k_ne), by decide, .none _, (.plain .ptr (by decide) _ _ _ _ _ _ _ _ _ _ _ (hin _ (by k_mem) (by k_ne) (by k_ne)) (hin _ (by k_mem) (by k_ne) (by k_ne))), rfl, rfl⟩
  · exact ⟨_, _, _, 0, _, .nil, rfl, hin _ (.head _) (by k_ne) (by k_ne), by decide, .none _, hN.mono hsub, rfl, rfl⟩
  · exact ⟨_, _, _, 1, _, .ptr, rfl, hin _ (.head _) (by k_ne) (by k_ne), by decide, hR1.mono hsub, (.plain .ptr (by decide) _ _ _ _ _ _ _ _ _ _ _ (hin _ (by k_mem) (by k_ne) (by k_ne)) (hin _ (by k_mem) (by k_ne) (by k_ne))), rfl, rfl⟩
  · exact ⟨_, _, _, 2, _, .ptr, rfl, hin _ (.head _) (by k_ne) (by k_ne), by decide, hR2.mono hsub, (.plain .ptr (by decide) _ _ _ _ _ _ _ _ _ _ _ (hin _ (by k_mem) (by k_ne) (by k_ne)) (hin _ (by k_mem) (by k_ne) (by k_ne))), rfl, rfl⟩
  · exact ⟨_, _, _, 1, _, .ptr, rfl, hin _ (.head _) (by k_ne) (by k_ne), by decide, hR1.mono hsub, (.plain .ptr (by decide) _ _ _ _ _ _ _ _ _ _ _ (hin _ (by k_mem) (by k_ne) (by k_ne)) (hin _ (by k_mem) (by k_ne) (by k_ne))), rfl, rfl⟩
  · exact ⟨_, _, _, 2, _, .ptr, rfl, hin _ (.head _) (by k_ne) (by k_ne), by decide, hR2.mono hsub, (.plain .ptr (by decide) _ _ _ _ _ _ _ _ _ _ _ (hin _ (by k_mem) (by k_ne) (by k_ne)) (hin _ (by k_mem) (by k_ne) (by k_ne))), rfl, rfl⟩
set_option maxHeartbeats 4000000 in
theorem ref_1 (w : World) (pl c ty dT rl r1 r2 : Addr) (a b : Int) (ta tb tf : Tok) (n n2 n3 : Nat) (vs : List Value) (ns : List Int) (kt : Nat → Tok) (cnt : Int) (tv : Tok) (kn bo ch bt it ms ni no : Addr) (rest : Led)
   (hi : IntsAre vs ns) (hlen : 1 ≤ ns.length ∧ ns.length ≤ 40) (hab : 0 ≤ a ∧ 0 ≤ b ∧ b ≤ 1000) (hoff : OwnOff rest [pl, dT]) (hne : @Ne Nat pl dT) (hne2 : @Ne Nat c pl) (hne3 : @Ne Nat ty dT) (m1 : (c, listOf vs.toArray n2) ∈ rest) (m2 : (ty, instObj 172 dT) ∈ rest)
   (m3 : (rl, listOf #[.ref r1, .ref r2] n3) ∈ rest) (hN : TyIs w rest .nil (.ref ni)) (hR1 : RefVal w rest false 1 (.ref r1)) (hR2 : RefVal w rest false 2 (.ref r2)) :
   Ctr w 195 [.ref pl, .ref ty, .ref rl, .int 1 tf] ((pl, poolO a b ta tb c n) :: (dT, typesO w kt cnt tv kn bo ch bt it ms ni no) :: rest) 14 100 (DrawnPost w pl dT c b kt kn bo ch bt it ms ni no rest (RefOut w true)) := by
  intro mean mg mb dp un gd cn cs fa ccd cl outer A₀ base h₀ L m s Q E B F X N T hk hdp hu hret
  revert X; k_fill; intro X
  have hrc : recursionLimit = 1000 := rfl
  refine wpAny_call ?_
  k_dflt cell_enter
  k_steps
  all_goals (
    rename Fr _ _ _ _ => F9
    rename News _ _ _ _ => N9
    refine text_end hret F9 N9 (by k_mem) (by k_mem) (ab_up (by assumption) (by omega)) (fun p hp => by k_mem) hoff ?_
    intro led hsub hin)
  · exact ⟨_, _, _, 0, _, .prc, rfl, hin _ (.head _) (by k_ne) (by k_ne), by decide, .none _, (.plain .prc (by decide) _ _ _ _ _ _ _ _ _ _ _ (hin _ (by k_mem) (by k_ne) (by k_ne)) (hin _ (by k_mem) (by k_ne) (by k_ne))), rfl, rfl⟩
  · exact ⟨_, _, _, 0, _, .nil, rfl, hin _ (.head _) (by k_ne) (by k_ne), by decide, .none _, hN.mono hsub, rfl, rfl⟩
  · exact ⟨_, _, _, 1, _, .prc, rfl, hin _ (.head _) (by k_ne) (by k_ne), by decide, .proc1 _ _ _ (hin _ (by k_mem) (by k_ne) (by k_ne)), (.plain .prc (by decide) _ _ _ _ _ _ _ _ _ _ _ (hin _ (by k_mem) (by k_ne) (by k_ne)) (hin _ (by k_mem) (by k_ne) (by k_ne))), rfl, rfl⟩
  · exact ⟨_, _, _, 2, _, .prc, rfl, hin _ (.head _) (by k_ne) (by k_ne), by decide, .proc2 _ _ _ (hin _ (by k_mem) (by k_ne) (by k_ne)), (.plain .prc (by decide) _ _ _ _ _ _ _ _ _ _ _ (hin _ (by k_mem) (by k_ne) (by k_ne)) (hin _ (by k_mem) (by k_ne) (by k_ne))), rfl, rfl⟩
  · exact ⟨_, _, _, 1, _, .prc, rfl, hin _ (.head _) (by k_ne) (by k_ne), by decide, .proc1 _ _ _ (hin _ (by k_mem) (by k_ne) (by k_ne)), (.plain .prc (by decide) _ _ _ _ _ _ _ _ _ _ _ (hin _ (by k_mem) (by k_ne) (by k_ne)) (hin _ (by k_mem) (by k_ne) (by k_ne))), rfl, rfl⟩
  · exact ⟨_, _, _, 2, _, .prc, rfl, hin _ (.head _) (by k_ne) (by k_ne), by decide, .proc2 _ _ _ (hin _ (by k_mem) (by k_ne) (by k_ne)), (.plain .prc (by decide) _ _ _ _ _ _ _ _ _ _ _ (hin _ (by k_mem) (by k_ne) (by k_ne)) (hin _ (by k_mem) (by k_ne) (by k_ne))), rfl, rfl⟩
end
-- W2
section
variable {prog : Program} {w : World} {A : Around} {E : Value → Shared → Prop} {s : Shared} {env : Env}
/-- the ways of a statement meet in one state -/
theorem execs_cut {st : Stmt} {rest : List Stmt} {Q : Flow → Shared → Prop} (P : Shared → Prop) (h1 : wpAny (model prog w) A (exec st env) (fun f s' => f = .next ∧ P s') E s) (h2 : ∀ s', P s' → wpAny (model prog w) A (execs rest env) Q E s') :
    wpAny (model prog w) A (execs (st :: rest) env) Q E s :=
  wpAny_execs_cons (wpAny_mono h1 (fun f s' h => by obtain ⟨rfl, h⟩ := h; exact h2 s' h) fun _ _ e => e)
end
/-- what the law has at hand throughout: fixed addresses -/
structure Adr where
  pl : Addr
  dT : Addr
  c : Addr
  ty : Addr
  rl : Addr
  r1 : Addr
  r2 : Addr
  kn : Addr
  bo : Addr
  ch : Addr
  bt : Addr
  it : Addr
  ms : Addr
  ni : Addr
  no : Addr
  vs : List Value
  ns : List Int
  n2 : Nat
  n3 : Nat
  kt : Nat → Tok
structure Known (w : World) (P : Adr) (rest : Led) : Prop where
  hi : IntsAre P.vs P.ns
  hlen : 1 ≤ P.ns.length ∧ P.ns.length ≤ 40
  m1 : (P.c, listOf P.vs.toArray P.n2) ∈ rest
  m2 : (P.ty, instObj 172 P.dT) ∈ rest
  m3 : (P.rl, listOf #[.ref P.r1, .ref P.r2] P.n3) ∈ rest
  hC : TyIs w rest .chr (.ref P.ch)
  hN : TyIs w rest .nil (.ref P.ni)
  hI : TyIs w rest .int (.ref P.it)
  hB : TyIs w rest .bool (.ref P.bo)
  hS : TyIs w rest .set (.ref P.ms)
  hR1 : RefVal w rest false 1 (.ref P.r1)
  hR2 : RefVal w rest false 2 (.ref P.r2)
  hne : @Ne Nat P.pl P.dT
  hne2 : @Ne Nat P.c P.pl
  hne3 : @Ne Nat P.ty P.dT
  hoff : OwnOff rest [P.pl, P.dT]
theorem Known.mono {w : World} {P : Adr} {rest led : Led} (K : Known w P rest) (h : ∀ p ∈ rest, p ∈ led) (ho : OwnOff led [P.pl, P.dT]) : Known w P led :=
  ⟨K.hi, K.hlen, h _ K.m1, h _ K.m2, h _ K.m3, K.hC.mono h, K.hN.mono h, K.hI.mono h, K.hB.mono h, K.hS.mono h, K.hR1.mono h, K.hR2.mono h, K.hne, K.hne2, K.hne3, ho⟩
abbrev plO (P : Adr) (a b : Int) (ta tb : Tok) (n : Nat) : Addr × Obj := (P.pl, poolO a b ta tb P.c n)
abbrev tyO (w : World) (P : Adr) (cnt : Int) (tv : Tok) : Addr × Obj := (P.dT, typesO w P.kt cnt tv P.kn P.bo P.ch P.bt P.it P.ms P.ni P.no)
abbrev OutPost (w : World) (P : Adr) (b : Int) (rest : Led) (Out : Led → Value → Prop) (r : Value) (news' : Led) : Prop :=
  ∃ (a' b' : Int) (ta' tb' : Tok) (n' : Nat) (cnt' : Int) (tv' : Tok) (led : Led), news' = plO P a' b' ta' tb' n' :: tyO w P cnt' tv' :: led ∧ (0 ≤ a' ∧ 0 ≤ b' ∧ b' ≤ b + 30) ∧ (∀ p ∈ rest, p ∈ led) ∧ Known w P led ∧ Out led r
theorem Ctr.drop {w : World} {f : Addr} {args : List Value} {news news2 : Led} {dd uu : Nat} {Post : Value → Led → Prop} (C : Ctr w f args news2 dd uu Post) (h : ∀ p ∈ news2, p ∈ news) : Ctr w f args news dd uu Post :=
  fun _ _ _ _ _ _ _ _ _ _ _ _ _ _ _ _ _ _ _ _ B F X N T hk hd' hu ret => C _ _ _ _ _ _ _ _ _ _ _ _ _ _ _ _ _ _ _ _ B F X (led_drop N h) T hk hd' hu ret
theorem sub2 {p q : Addr × Obj} {rest news : Led} (hp : p ∈ news) (hq : q ∈ news) (h : ∀ r ∈ rest, r ∈ news) : ∀ r ∈ p :: q :: rest, r ∈ news := fun r hr => by
  rcases List.mem_cons.mp hr with rfl | hr
  · exact hp
  · rcases List.mem_cons.mp hr with rfl | hr
    · exact hq
    · exact h r hr
theorem drawn_out {w : World} {P : Adr} {rest news' : Led} {b : Int} {Out : Led → Value → Prop} {r : Value} (K : Known w P rest) (PP : DrawnPost w P.pl P.dT P.c b P.kt P.kn P.bo P.ch P.bt P.it P.ms P.ni P.no rest Out r news') : OutPost w P b rest Out r news' := by
  obtain ⟨a', b', ta', tb', n', cnt', tv', led, e, hb, hsub, hoff, out⟩ := PP
  exact ⟨a', b', ta', tb', n', cnt', tv', led, e, hb, hsub, K.mono hsub hoff, out⟩
theorem text_c {w : World} {P : Adr} {rest news : Led} {a b : Int} {ta tb tv : Tok} {n : Nat} {cnt : Int} (K : Known w P rest) (hab : 0 ≤ a ∧ 0 ≤ b ∧ b ≤ 1000) (hp : plO P a b ta tb n ∈ news) (hq : tyO w P cnt tv ∈ news) (hs : ∀ r ∈ rest, r ∈ news) :
    Ctr w 188 [.ref P.pl, .ref P.ty] news 14 100 (OutPost w P b rest (TextOut w)) :=
  Ctr.drop (Ctr.mono (text_0 w P.pl P.c P.ty P.dT a b ta tb n P.n2 P.vs P.ns P.kt cnt tv P.kn P.bo P.ch P.bt P.it P.ms P.ni P.no rest K.hi K.hlen hab K.hoff K.hne K.hne2 K.hne3 K.m1 K.m2 K.hC)
    fun r news' PP => drawn_out K PP) (sub2 hp hq hs)
theorem ref_c {w : World} {P : Adr} {rest news : Led} {a b : Int} {ta tb tv tf : Tok} {n : Nat} {cnt : Int} {f : Int} {fam : Bool} (hf : f = if fam then 1 else 0) (K : Known w P rest) (hab : 0 ≤ a ∧ 0 ≤ b ∧ b ≤ 1000) (hp : plO P a b ta tb n ∈ news) (hq : tyO w P cnt tv ∈ news) (hs : ∀ r ∈ rest, r ∈ news) :
    Ctr w 195 [.ref P.pl, .ref P.ty, .ref P.rl, .int f tf] news 14 100 (OutPost w P b rest (RefOut w fam)) := by
  subst hf
  cases fam
  · exact Ctr.drop (Ctr.mono (ref_0 w P.pl P.c P.ty P.dT P.rl P.r1 P.r2 a b ta tb tf n P.n2 P.n3 P.vs P.ns P.kt cnt tv P.kn P.bo P.ch P.bt P.it P.ms P.ni P.no rest K.hi K.hlen hab K.hoff K.hne K.hne2 K.hne3 K.m1 K.m2 K.m3 K.hN K.hR1 K.hR2)
      fun r news' PP => drawn_out K PP) (sub2 hp hq hs)
  · exact Ctr.drop (Ctr.mono (ref_1 w P.pl P.c P.ty P.dT P.rl P.r1 P.r2 a b ta tb tf n P.n2 P.n3 P.vs P.ns P.kt cnt tv P.kn P.bo P.ch P.bt P.it P.ms P.ni P.no rest K.hi K.hlen hab K.hoff K.hne K.hne2 K.hne3 K.m1 K.m2 K.m3 K.hN K.hR1 K.hR2)
      fun r news' PP => drawn_out K PP) (sub2 hp hq hs)
theorem text_u {w : World} {P : Adr} {rest news : Led} {a b : Int} {ta tb tv : Tok} {n : Nat} {cnt : Int} (K : Known w P rest) (hab : 0 ≤ a ∧ 0 ≤ b ∧ b ≤ 1000) (hp : plO P a b ta tb n ∈ news) (hq : tyO w P cnt tv ∈ news) (hs : ∀ r ∈ rest, r ∈ news) :
    CtrU w 188 [.ref P.pl, .ref P.ty] news 14 100 (fun Q s h₀ L m => ∀ (h' : Heap) (tk' : Nat) (a' b' : Int) (ta' tb' : Tok) (n' : Nat) (cnt' : Int) (tv' : Tok) (led : Led) (tup la : Addr) (v tyv : Value) (xs : List Int) (vs : List Value) (n1 : Nat) (k : TyK),
      (0 ≤ a' ∧ 0 ≤ b' ∧ b' ≤ b + 30) → (∀ p ∈ rest, p ∈ led) → Known w P led → (tup, tupO [v, .ref la, tyv]) ∈ led → TextVal w led v xs → (la, listOf vs.toArray n1) ∈ led → IntsAre vs xs → Chars xs → xs.length ≤ 4 → TyIs w led k tyv → isN k = false → isR k = false →
      Fr h₀ L h' m → News h₀ L h' (plO P a' b' ta' tb' n' :: tyO w P cnt' tv' :: led) → Q (.ref tup) { s with heap := h', toks := tk' }) :=
  (text_c K hab hp hq hs).toU fun Q s h₀ L m kk r news' h' tk' F N PP => by
    obtain ⟨a', b', ta', tb', n', cnt', tv', led, rfl, h1, h2, h3, tup, la, v, tyv, xs, vs, n1, k, rfl, g1, g2, g3, g4, g5, g6, g7, g8, g9⟩ := PP
    exact kk h' tk' a' b' ta' tb' n' cnt' tv' led tup la v tyv xs vs n1 k h1 h2 h3 g1 g2 g3 g4 g5 g6 g7 g8 g9 F N
theorem ref_u {w : World} {P : Adr} {rest news : Led} {a b : Int} {ta tb tv tf : Tok} {n : Nat} {cnt : Int} {f : Int} {fam : Bool} (hf : f = if fam then 1 else 0) (K : Known w P rest) (hab : 0 ≤ a ∧ 0 ≤ b ∧ b ≤ 1000) (hp : plO P a b ta tb n ∈ news) (hq : tyO w P cnt tv ∈ news) (hs : ∀ r ∈ rest, r ∈ news) :
    CtrU w 195 [.ref P.pl, .ref P.ty, .ref P.rl, .int f tf] news 14 100 (fun Q s h₀ L m => ∀ (h' : Heap) (tk' : Nat) (a' b' : Int) (ta' tb' : Tok) (n' : Nat) (cnt' : Int) (tv' : Tok) (led : Led) (tup : Addr) (v tyv : Value) (k : Nat) (t : Tok) (T : TyK),
      (0 ≤ a' ∧ 0 ≤ b' ∧ b' ≤ b + 30) → (∀ p ∈ rest, p ∈ led) → Known w P led → (tup, tupO [v, .str (refName fam k) t, tyv]) ∈ led → k < 3 → RefVal w led fam k v → TyIs w led T tyv → isR T = true → isT T = false →
      Fr h₀ L h' m → News h₀ L h' (plO P a' b' ta' tb' n' :: tyO w P cnt' tv' :: led) → Q (.ref tup) { s with heap := h', toks := tk' }) :=
  (ref_c hf K hab hp hq hs).toU fun Q s h₀ L m kk r news' h' tk' F N PP => by
    obtain ⟨a', b', ta', tb', n', cnt', tv', led, rfl, h1, h2, h3, tup, v, tyv, k, t, T, rfl, g1, g2, g3, g4, g5, g6⟩ := PP
    exact kk h' tk' a' b' ta' tb' n' cnt' tv' led tup v tyv k t T h1 h2 h3 g1 g2 g3 g4 g5 g6 F N
def opsL : List Str := [S "=", S "#", S "<", S "<=", S ">", S ">="]
section
variable {prog : Program} {w : World} {A : Around} {E : Value → Shared → Prop} {s : Shared} {h₀ : Heap} {L l : Addr} {news : Led} {n : Nat} {k : Int} {u t1 t2 t3 t4 t5 t6 : Tok} {Q : Value → Shared → Prop} {value slice : PySem.Expr}
theorem item_op (N : News h₀ L s.heap news) (hm : (l, listOf #[.str (S "=") t1, .str (S "#") t2, .str (S "<") t3, .str (S "<=") t4, .str (S ">") t5, .str (S ">=") t6] n) ∈ news) (hk : 0 ≤ k ∧ k < 6)
    (h : ∀ o t, o ∈ opsL → (k < 2 → o = S "=" ∨ o = S "#") → Q (.str o t) s)
    (hs : subscripted slice false (.ref l) (.int k u) = operate [.ref l, .int k u] (getItem (.ref l) (.int k u))) :
    wpAny (model prog w) A (subscriptTail value slice (.ref l) (.int k u)) Q E s := by
  refine KTb.item_list (vs := [.str (S "=") t1, .str (S "#") t2, .str (S "<") t3, .str (S "<=") t4, .str (S ">") t5, .str (S ">=") t6]) (ws := opsL) (N.isList hm) (.cons _ _ (.cons _ _ (.cons _ _ (.cons _ _ (.cons _ _ (.cons _ _ .nil)))))) hk.1 hk.2 (by omega) (fun t' hlt => ?_) hs
  refine h _ _ ?_ ?_
  · rw [List.getD_eq_getElem?_getD, List.getElem?_eq_getElem hlt]
    exact List.getElem_mem hlt
  · intro h2
    have : k = 0 ∨ k = 1 := by omega
    rcases this with rfl | rfl
    · exact .inl rfl
    · exact .inr rfl
end
theorem law_pack {w : World} {h₀ h : Heap} {L : Addr} {news own : Led} {pl dT c ty rl r1 r2 d1 d2 ch1 ch2 c1 c2 x kn bo ch bt it ms ni no : Addr} {a b cnt : Int} {ta tb tv : Tok} {n n2 n3 : Nat} {vs : List Value} {ns : List Int} {kt : Nat → Tok} {k0 k1 k2 v1 q0 q1 q2 u1 : Tok} {oc oc2 : Obj}
    (N : News h₀ L h news) (mp : (pl, poolO a b ta tb c n) ∈ news) (mq : (dT, typesO w kt cnt tv kn bo ch bt it ms ni no) ∈ news) (mc : (c, listOf vs.toArray n2) ∈ news) (mt : (ty, instObj 172 dT) ∈ news) (mr : (rl, listOf #[.ref r1, .ref r2] n3) ∈ news)
    (i1 : (r1, instObj 31 d1) ∈ news) (j1 : (d1, recO w k0 k1 k2 v1 ch1 c1 1) ∈ news) (i2 : (r2, instObj 31 d2) ∈ news) (j2 : (d2, recO w q0 q1 q2 u1 ch2 c2 2) ∈ news) (hoc : oc.data = Data.cell (some (.ref pl))) (mx : (x, oc) ∈ news) (hs : ∀ p ∈ own, p ∈ news)
    (ho1 : ∀ p ∈ own, @Ne Nat p.1 pl) (ho2 : ∀ p ∈ own, @Ne Nat p.1 dT) (hi : IntsAre vs ns) (hlen : 1 ≤ ns.length ∧ ns.length ≤ 40) (hC : TyIs w own .chr (.ref ch)) (hN : TyIs w own .nil (.ref ni)) (hI : TyIs w own .int (.ref it)) (hB : TyIs w own .bool (.ref bo)) (hS : TyIs w own .set (.ref ms))
    (hne : @Ne Nat pl dT) (e1 : @Ne Nat c pl ∧ @Ne Nat c dT) (e2 : @Ne Nat ty pl ∧ @Ne Nat ty dT) (e3 : @Ne Nat rl pl ∧ @Ne Nat rl dT) (e4 : @Ne Nat r1 pl ∧ @Ne Nat r1 dT) (e5 : @Ne Nat d1 pl ∧ @Ne Nat d1 dT) (e6 : @Ne Nat r2 pl ∧ @Ne Nat r2 dT) (e7 : @Ne Nat d2 pl ∧ @Ne Nat d2 dT) (e8 : @Ne Nat x pl ∧ @Ne Nat x dT) (mx2 : (L + 1 + 1, oc2) ∈ news) (e9 : @Ne Nat (L + 1 + 1) pl ∧ @Ne Nat (L + 1 + 1) dT) :
    ∃ (P : Adr) (led : Led), P.pl = pl ∧ P.ty = ty ∧ P.rl = rl ∧ News h₀ L h (plO P a b ta tb n :: tyO w P cnt tv :: led) ∧ Known w P led ∧ oc.data = Data.cell (some (.ref P.pl)) ∧ (x, oc) ∈ led ∧ (L + 1 + 1, oc2) ∈ led := by
  obtain ⟨led, N', hoff, hin⟩ := pack2 N mp mq
  have hs' : ∀ p ∈ own, p ∈ led := fun p hp => hin p (hs p hp) (ho1 p hp) (ho2 p hp)
  exact ⟨⟨pl, dT, c, ty, rl, r1, r2, kn, bo, ch, bt, it, ms, ni, no, vs, ns, n2, n3, kt⟩, led, rfl, rfl, rfl, N',
    ⟨hi, hlen, hin _ mc e1.1 e1.2, hin _ mt e2.1 e2.2, hin _ mr e3.1 e3.2, hC.mono hs', hN.mono hs', hI.mono hs', hB.mono hs', hS.mono hs',
      .rec1 _ _ _ _ _ _ _ _ (hin _ i1 e4.1 e4.2) (hin _ j1 e5.1 e5.2), .rec2 _ _ _ _ _ _ _ _ (hin _ i2 e6.1 e6.2) (hin _ j2 e7.1 e7.2), hne, e1.1, e2.2, hoff⟩, hoc, hin _ mx e8.1 e8.2, hin _ mx2 e9.1 e9.2⟩
structure LS where
  a : Int
  b : Int
  ta : Tok
  tb : Tok
  n : Nat
  cnt : Int
  tv : Tok
theorem off_sub {own : Led} {as bs : List Addr} (h : OwnOff own as) (hs : ∀ b ∈ bs, b ∈ as) : OwnOff own bs := fun p hp b hb => h p hp b (hs b hb)
/-- where the walk has been -/
def Been (_ : Nat) : Prop := True
theorem been (n : Nat) : Been n := trivial
theorem fam_eq {f : Int} (h : 0 ≤ f ∧ f < 2) : f = if decide (f = 1) = true then 1 else 0 := by
  have : f = 0 ∨ f = 1 := by omega
  rcases this with rfl | rfl <;> rfl
theorem kind_cut {d : Int} (h : 0 ≤ d ∧ d < 4) (h2 : d ≠ 2) : d < 2 ∨ d = 3 := by omega
theorem lookup_str (k n : Str) (dv : PyData) (D : List (PyData × PyData)) : Spec.lookup (.str k) ((.str n, dv) :: D) = if n = k then some dv else Spec.lookup (.str k) D := by
  simp only [Spec.lookup, PyProof.V.same_str]
  by_cases e : n = k
  · rw [if_pos e, if_pos (by simpa using e)]
  · rw [if_neg e, if_neg (by simpa using e)]
theorem kysD_ops {o : Str} {D : List (PyData × PyData)} {C : PyData → Prop} {N : Prop} {x1 x2 x3 x4 x5 x6 : Bool} (ho : o ∈ opsL)
    (hD : D = [(.str (S "="), .bool x1), (.str (S "#"), .bool x2), (.str (S "<"), .bool x3), (.str (S "<="), .bool x4), (.str (S ">"), .bool x5), (.str (S ">="), .bool x6)]) (h : C (.bool (ordG o x1 x2 x3 x4 x5 x6))) : KysD PyData.str o D C N := by
  subst hD
  unfold KysD
  simp only [opsL, List.mem_cons, List.not_mem_nil, or_false] at ho
  rcases ho with rfl | rfl | rfl | rfl | rfl | rfl
  · rw [lookup_str, if_pos rfl]; exact h
  · rw [lookup_str, if_neg (by decide), lookup_str, if_pos rfl]; exact h
  · rw [lookup_str, if_neg (by decide), lookup_str, if_neg (by decide), lookup_str, if_pos rfl]; exact h
  · rw [lookup_str, if_neg (by decide), lookup_str, if_neg (by decide), lookup_str, if_neg (by decide), lookup_str, if_pos rfl]; exact h
  · rw [lookup_str, if_neg (by decide), lookup_str, if_neg (by decide), lookup_str, if_neg (by decide), lookup_str, if_neg (by decide), lookup_str, if_pos rfl]; exact h
  · rw [lookup_str, if_neg (by decide), lookup_str, if_neg (by decide), lookup_str, if_neg (by decide), lookup_str, if_neg (by decide), lookup_str, if_neg (by decide), lookup_str, if_pos rfl]; exact h
theorem refName_eq {fam : Bool} {k1 k2 : Nat} (h1 : k1 < 3) (h2 : k2 < 3) : (refName fam k1 == refName fam k2) = decide (k1 = k2) := by
  have a : k1 = 0 ∨ k1 = 1 ∨ k1 = 2 := by omega
  have b : k2 = 0 ∨ k2 = 1 ∨ k2 = 2 := by omega
  rcases a with rfl | rfl | rfl <;> rcases b with rfl | rfl | rfl <;> cases fam <;> decide
theorem ref_law {o : Str} {fam : Bool} {k1 k2 : Nat} {x3 x4 x5 x6 v : Bool} (h1 : k1 < 3) (h2 : k2 < 3) (ho : o = S "=" ∨ o = S "#")
    (hd : ordG o (refName fam k1 == refName fam k2) (!(refName fam k1 == refName fam k2)) x3 x4 x5 x6 = v) : (decide (k1 = k2) == (o == S "=")) = v := by
  rw [refName_eq h1 h2] at hd
  subst hd
  rcases ho with rfl | rfl
  · rw [← ordG_1 (by decide)]
    cases decide (k1 = k2) <;> decide
  · rw [← ordG_2 (by decide) (by decide)]
    cases decide (k1 = k2) <;> decide
theorem relation_r1 (w : World) (o : Str) (t tk : Tok) (fam : Bool) (k₁ k₂ : Nat) (v₁ v₂ : Value) (news : Led) (H1 : RefVal w news fam k₁ v₁) (H2 : RefVal w news fam k₂ v₂) (h : (decide (k₁ = k₂) == (o == S "=")) = true) :
    Ctr w 119 [.str o t, .str (S "reference") tk, v₁, v₂] news 16 120 (fun r news' => ∃ t', r = .int 1 t' ∧ news' = news) :=
  Ctr.mono (relation_r w o t tk fam k₁ k₂ v₁ v₂ news H1 H2) fun r n ⟨t', e, e2⟩ => ⟨t', by rw [e, if_pos h], e2⟩
theorem relation_r0 (w : World) (o : Str) (t tk : Tok) (fam : Bool) (k₁ k₂ : Nat) (v₁ v₂ : Value) (news : Led) (H1 : RefVal w news fam k₁ v₁) (H2 : RefVal w news fam k₂ v₂) (h : (decide (k₁ = k₂) == (o == S "=")) = false) :
    Ctr w 119 [.str o t, .str (S "reference") tk, v₁, v₂] news 16 120 (fun r news' => ∃ t', r = .int 0 t' ∧ news' = news) :=
  Ctr.mono (relation_r w o t tk fam k₁ k₂ v₁ v₂ news H1 H2) fun r n ⟨t', e, e2⟩ => ⟨t', by rw [e, if_neg (by rw [h]; decide)], e2⟩
theorem kysD_ops2 {o : Str} {D : List (PyData × PyData)} {C : PyData → Prop} {N : Prop} {x1 x2 x3 x4 x5 x6 : Bool} (ho : o ∈ opsL)
    (hD : D = [(.str (S "="), .bool x1), (.str (S "#"), .bool x2), (.str (S "<"), .bool x3), (.str (S "<="), .bool x4), (.str (S ">"), .bool x5), (.str (S ">="), .bool x6)])
    (h1 : ordG o x1 x2 x3 x4 x5 x6 = true → C (.bool true)) (h0 : ordG o x1 x2 x3 x4 x5 x6 = false → C (.bool false)) : KysD PyData.str o D C N := by
  refine kysD_ops ho hD ?_
  cases e : ordG o x1 x2 x3 x4 x5 x6
  · exact h0 e
  · exact h1 e
theorem ls_end {w : World} {P : Adr} {h₀ : Heap} {L : Addr} {rest news : Led} {ps : List (Str × Value)} {B : Int} {s₁ : Shared} {h' : Heap} {tk : Nat} {m' : Str → Option Value} {a b cnt : Int} {ta tb tv : Tok} {n : Nat}
    (F : Fr h₀ L h' m') (N : News h₀ L h' news) (hp : plO P a b ta tb n ∈ news) (hq : tyO w P cnt tv ∈ news) (hs : ∀ r ∈ rest, r ∈ news) (hk : ∀ p ∈ ps, m' p.1 = some p.2) (hab : 0 ≤ a ∧ 0 ≤ b ∧ b ≤ B) :
    MyEnd h₀ L (fun d : LS => [plO P d.a d.b d.ta d.tb d.n, tyO w P d.cnt d.tv]) rest (fun _ => ps) (fun d => 0 ≤ d.a ∧ 0 ≤ d.b ∧ d.b ≤ B) s₁ { s₁ with heap := h', toks := tk } :=
  ⟨h', tk, ⟨a, b, ta, tb, n, cnt, tv⟩, m', rfl, F, led_drop N (sub2 hp hq hs), hk, hab⟩
section
variable {prog : Program} {w : World} {A : Around} {E : Value → Shared → Prop} {s : Shared} {h₀ : Heap} {L l : Addr} {news : Led} {its : Array Value} {n : Nat} {k : Int} {u : Tok} {Q : Value → Shared → Prop} {value slice : PySem.Expr}
theorem item_R (R : Value → Prop) (N : News h₀ L s.heap news) (hm : (l, listOf its n) ∈ news) (hk : 0 ≤ k ∧ k < (its.size : Int)) (hz : its.size ≤ 1000) (hR : ∀ v ∈ its.toList, R v) (h : ∀ v, R v → Q v s)
    (hs : subscripted slice false (.ref l) (.int k u) = operate [.ref l, .int k u] (getItem (.ref l) (.int k u))) (hg : ∀ r, letTemporaryGo value (.ref l) r = pure ()) :
    wpAny (model prog w) A (subscriptTail value slice (.ref l) (.int k u)) Q E s := by
  have hlt : k.toNat < its.toList.length := by rw [Array.length_toList]; omega
  exact item_V N hm ⟨hk.1, by omega⟩ (List.getElem?_eq_getElem hlt) (h _ (hR _ (List.getElem_mem hlt))) hs hg
end
/-- a type that is none of texts' nor references' -/
def NumTy (w : World) (led : Led) (v : Value) : Prop := ∃ (K : TyK) (t d : Addr) (kt vt : Nat → Tok) (num size : Int) (base : Value) (len : Int) (f p h : Addr), v = .ref t ∧ isN K = true ∧ (t, instObj 136 d) ∈ led ∧ (d, typeO w kt vt num (formOf K) size base len f p h) ∈ led ∧ TyIs w led K v
theorem num_of {w : World} {led : Led} {K : TyK} {v : Value} (h : TyIs w led K v) (hK : isN K = true) : NumTy w led v := by
  have h' := h
  rcases h with ⟨_, hk9, t, d, kt, vt, num, size, base, len, f, p, h, m1, m2⟩ | _
  · exact ⟨K, t, d, kt, vt, num, size, base, len, f, p, h, rfl, hK, m1, m2, h'⟩
  · cases hK
theorem item_num {prog : Program} {w : World} {A : Around} {E : Value → Shared → Prop} {s : Shared} {h₀ : Heap} {L l : Addr} {news rest : Led} {n : Nat} {k : Int} {u : Tok} {Q : Value → Shared → Prop} {value slice : PySem.Expr} {P : Adr}
    (K : Known w P rest) (N : News h₀ L s.heap news) (hm : (l, listOf #[.ref P.it, .ref P.bo, .ref P.ms] n) ∈ news) (hk : 0 ≤ k ∧ k < 3) (h : ∀ v, NumTy w rest v → Q v s)
    (hs : subscripted slice false (.ref l) (.int k u) = operate [.ref l, .int k u] (getItem (.ref l) (.int k u))) :
    wpAny (model prog w) A (subscriptTail value slice (.ref l) (.int k u)) Q E s :=
  kba_turn (value' := PySem.Expr.Name (PySem.Str.ofString "x") ⟨0, 0, 0, 0⟩) (fun _ => rfl)
    (item_R (NumTy w rest) N hm hk (Nat.le_of_ble_eq_true rfl) (List.forall_mem_cons.mpr ⟨num_of (K := .int) K.hI rfl, List.forall_mem_cons.mpr ⟨num_of (K := .bool) K.hB rfl, List.forall_mem_cons.mpr ⟨num_of (K := .set) K.hS rfl, List.forall_mem_nil _⟩⟩⟩) h hs (fun _ => rfl))
theorem before_swap : ∀ (xs ys : List Int), before ys xs = (!before xs ys && !decide (xs = ys))
  | [], [] => rfl
  | [], b :: t => by simp [before]
  | a :: r, [] => by simp [before]
  | a :: r, b :: t => by
    unfold before
    by_cases e : a = b
    · subst e
      rw [if_pos rfl, if_pos rfl, before_swap r t]
      congr 2
      simp
    · rw [if_neg e, if_neg (fun q => e q.symm)]
      have : decide (a :: r = b :: t) = false := by simp [e]
      rw [this]
      by_cases h : b < a
      · rw [decide_eq_true h, decide_eq_false (by omega)]; rfl
      · rw [decide_eq_false h, decide_eq_true (by omega)]; rfl
theorem text_eq {o : Str} {xs ys : List Int} {x y : Bool} (h1 : Chars xs) (h2 : Chars ys) (hx : decide (xs = ys) = x) (hy : before xs ys = y) : ordS o (strOf xs) (strOf ys) = ordG o x (!x) y (y || x) (!y && !x) (!y) := by
  have e1 : (strOf xs == strOf ys) = x := by
    rw [← hx, Bool.eq_iff_iff]; simp [strOf_inj h1 h2]
  have e2 : decide ((strOf xs).cps.toList < (strOf ys).cps.toList) = y := (before_lt h1 h2).trans hy
  have e3 : decide ((strOf ys).cps.toList < (strOf xs).cps.toList) = (!y && !x) := by rw [before_lt h2 h1, before_swap, hx, hy]
  show ordG o (strOf xs == strOf ys) (!(strOf xs == strOf ys)) _ _ _ _ = _
  rw [e1, e2, e3]
  congr 1
  cases x <;> cases y <;> first | rfl | skip
theorem num_eq {o : Str} {a b : Int} {x y : Bool} (hx : decide ([a] = [b]) = x) (hy : before [a] [b] = y) : ordI o a b = ordG o x (!x) y (y || x) (!y && !x) (!y) := by
  have e1 : (a == b) = x := by rw [← hx, Bool.eq_iff_iff]; simp
  have e2 : decide (a < b) = y := by
    rw [← hy]; unfold before
    by_cases e : a = b
    · subst e; rw [if_pos rfl]; simp [before]
    · rw [if_neg e]
  have e3 : decide (b < a) = (!y && !x) := by
    rw [← e2, ← e1, Bool.eq_iff_iff]; simp; omega
  have e4 : decide (a ≤ b) = (y || x) := by
    rw [← e2, ← e1, Bool.eq_iff_iff]; simp; omega
  have e5 : decide (b ≤ a) = !y := by
    rw [← e2, Bool.eq_iff_iff]; simp
  show ordG o (a == b) (!(a == b)) _ _ _ _ = _
  rw [e1, e2, e3, e4, e5]
section
variable {prog : Program} {w : World} {A : Around} {E : Value → Shared → Prop} {s : Shared} {h₀ : Heap} {L : Addr} {news : Led} {Q : Value → Shared → Prop}
theorem join_or {t : Sem Value} {xs ys : List Int} {x y : Bool} (hx : decide (xs = ys) = x) (hy : before xs ys = y) (h : wpAny (model prog w) A t (fun v s' => v = .bool (y || x) ∧ s' = s) E s) (q : Q (.bool (y || x)) s) : wpAny (model prog w) A t Q E s :=
  wpAny_mono h (fun v s' e => by obtain ⟨rfl, rfl⟩ := e; exact q) fun _ _ e => e
theorem join_and {t : Sem Value} {xs ys : List Int} {x y : Bool} (hx : decide (xs = ys) = x) (hy : before xs ys = y) (h : wpAny (model prog w) A t (fun v s' => v = .bool (!y && !x) ∧ s' = s) E s) (q : Q (.bool (!y && !x)) s) : wpAny (model prog w) A t Q E s :=
  wpAny_mono h (fun v s' e => by obtain ⟨rfl, rfl⟩ := e; exact q) fun _ _ e => e
theorem eq_x {a b : Addr} {vs us : List Value} {ns ms : List Int} {n1 n2 : Nat} (N : News h₀ L s.heap news) (m1 : (a, listOf vs.toArray n1) ∈ news) (m2 : (b, listOf us.toArray n2) ∈ news) (hi : IntsAre vs ns) (hj : IntsAre us ms) (hu : A.units + 64 < cLine)
    (h : ∀ x, decide (ns = ms) = x → Q (.bool x) s) : wpAny (model prog w) A (compareOp .Eq (.ref a) (.ref b)) Q E s :=
  ke_eq_ints (N.isList m1) (N.isList m2) hi hj hu (h _ rfl)
end
theorem before_x (w : World) (l₁ l₂ : Addr) (vs₁ vs₂ : List Value) (xs ys : List Int) (n₁ n₂ : Nat) (news : Led) (h1 : xs.length ≤ 10) (h2 : ys.length ≤ 10) (hi1 : IntsAre vs₁ xs) (hi2 : IntsAre vs₂ ys) (m1 : (l₁, listOf vs₁.toArray n₁) ∈ news) (m2 : (l₂, listOf vs₂.toArray n₂) ∈ news) :
    Ctr w 202 [.ref l₁, .ref l₂] news 10 60 (fun r news' => ∃ y, r = .bool y ∧ before xs ys = y ∧ news' = news) :=
  Ctr.mono (before_c w l₁ l₂ vs₁ vs₂ xs ys n₁ n₂ news h1 h2 hi1 hi2 m1 m2) fun r n e => ⟨_, e.1, rfl, e.2⟩
theorem before_w {w : World} {l₁ l₂ : Addr} {vs₁ vs₂ : List Value} {xs ys : List Int} {n₁ n₂ : Nat} {news : Led}
    (e : (l₁, listOf vs₁.toArray n₁) ∈ news ∧ (l₂, listOf vs₂.toArray n₂) ∈ news ∧ IntsAre vs₁ xs ∧ IntsAre vs₂ ys ∧ xs.length ≤ 10 ∧ ys.length ≤ 10) :
    CtrU w 202 [.ref l₁, .ref l₂] news 10 60 (fun Q s h₀ L m => ∀ (h' : Heap) (tk' : Nat) (y : Bool), before xs ys = y → Fr h₀ L h' m → News h₀ L h' news → Q (.bool y) { s with heap := h', toks := tk' }) :=
  (before_x w l₁ l₂ vs₁ vs₂ xs ys n₁ n₂ news e.2.2.2.2.1 e.2.2.2.2.2 e.2.2.1 e.2.2.2.1 e.1 e.2.1).toU fun Q s h₀ L m k r news' h' tk' F N P => by
    obtain ⟨y, rfl, e9, rfl⟩ := P
    exact k h' tk' y e9 F N
theorem relation_t1 (w : World) (o : Str) (t tk : Tok) (v₁ v₂ : Value) (xs ys : List Int) (news : Led) (H1 : TextVal w news v₁ xs) (H2 : TextVal w news v₂ ys) (h : ordS o (strOf xs) (strOf ys) = true) :
    Ctr w 119 [.str o t, .str (S "text") tk, v₁, v₂] news 14 100 (fun r news' => ∃ t', r = .int 1 t' ∧ news' = news) :=
  Ctr.mono (relation_t w o t tk v₁ v₂ xs ys news H1 H2) fun r n ⟨t', e, e2⟩ => ⟨t', by rw [e, if_pos h], e2⟩
theorem relation_t0 (w : World) (o : Str) (t tk : Tok) (v₁ v₂ : Value) (xs ys : List Int) (news : Led) (H1 : TextVal w news v₁ xs) (H2 : TextVal w news v₂ ys) (h : ordS o (strOf xs) (strOf ys) = false) :
    Ctr w 119 [.str o t, .str (S "text") tk, v₁, v₂] news 14 100 (fun r news' => ∃ t', r = .int 0 t' ∧ news' = news) :=
  Ctr.mono (relation_t w o t tk v₁ v₂ xs ys news H1 H2) fun r n ⟨t', e, e2⟩ => ⟨t', by rw [e, if_neg (by rw [h]; decide)], e2⟩
theorem relation_n1 (w : World) (o : Str) (t tk : Tok) (a b : Int) (ta tb : Tok) (news : Led) (h : ordI o a b = true) :
    Ctr w 119 [.str o t, .str (S "number") tk, .int a ta, .int b tb] news 14 100 (fun r news' => ∃ t', r = .int 1 t' ∧ news' = news) :=
  Ctr.mono (relation_n w o t tk a b ta tb news) fun r n ⟨t', e, e2⟩ => ⟨t', by rw [e, if_pos h], e2⟩
theorem relation_n0 (w : World) (o : Str) (t tk : Tok) (a b : Int) (ta tb : Tok) (news : Led) (h : ordI o a b = false) :
    Ctr w 119 [.str o t, .str (S "number") tk, .int a ta, .int b tb] news 14 100 (fun r news' => ∃ t', r = .int 0 t' ∧ news' = news) :=
  Ctr.mono (relation_n w o t tk a b ta tb news) fun r n ⟨t', e, e2⟩ => ⟨t', by rw [e, if_neg (by rw [h]; decide)], e2⟩
theorem valA {w : World} {news : Led} {t : Tok} : TextVal w news (.str (Str.ofString "A") t) [65] := by
  have h := TextVal.str (w := w) (news := news) [65] t (chars_one (by decide)) (by decide)
  have e : strOf [65] = Str.ofString "A" := by decide
  rw [e] at h
  exact h
theorem or_t {y x : Bool} (h : y = true) : Value.bool y = .bool (y || x) := by subst h; rfl
theorem or_f {y x : Bool} (h : y = false) : Value.bool x = .bool (y || x) := by subst h; rfl
theorem and_t {y x : Bool} (h : (!y) = true) : Value.bool (!x) = .bool (!y && !x) := by rw [h]; rfl
theorem and_f {y x : Bool} (h : (!y) = false) : Value.bool (!y) = .bool (!y && !x) := by rw [h]; rfl
theorem and_t' {y x : Bool} (h : y = false) : Value.bool (!x) = .bool (!y && !x) := by subst h; rfl
theorem and_f' {y x : Bool} (h : y = true) : Value.bool (!y) = .bool (!y && !x) := by subst h; rfl
/-- between the statements of the text path -/
def TextMid (h₀ : Heap) (L : Addr) (w : World) (P : Adr) (rest : Led) (s : Shared) (B : Int) (ps0 : List (Str × Value)) (o : Str) (to : Tok) (v2 : Value) (xs2 : List Int) (la2 : Addr) (ty2 : Value) (k2 : TyK) (s' : Shared) : Prop :=
  ∃ (h : Heap) (tk : Nat) (u : Str → Option Value) (a b : Int) (ta tb : Tok) (n : Nat) (cnt : Int) (tv : Tok) (led : Led) (v : Value) (xs : List Int) (la : Addr) (vs : List Value) (n1 : Nat) (ty : Value) (k : TyK) (vs2 : List Value) (n2 : Nat),
    s' = { s with heap := h, toks := tk } ∧
    Fr h₀ L h (kstB u (ps0 ++ [(S "left", ty), (S "first", .ref la), (S "one", v), (S "right", ty2), (S "second", .ref la2), (S "two", v2), (S "op", .str o to), (S "types", .ref P.ty), (S "records", .ref P.rl)])) ∧
    News h₀ L h (plO P a b ta tb n :: tyO w P cnt tv :: led) ∧ (0 ≤ a ∧ 0 ≤ b ∧ b ≤ B) ∧ (∀ r ∈ rest, r ∈ led) ∧ Known w P led ∧
    TextVal w led v xs ∧ (la, listOf vs.toArray n1) ∈ led ∧ IntsAre vs xs ∧ Chars xs ∧ xs.length ≤ 4 ∧ TyIs w led k ty ∧ isN k = false ∧ isR k = false ∧ (isT k = true ∨ isT k2 = true) ∧
    TextVal w led v2 xs2 ∧ (la2, listOf vs2.toArray n2) ∈ led ∧ IntsAre vs2 xs2 ∧ TyIs w led k2 ty2
theorem mid_cut {prog : Program} {w : World} {A : Around} {E : Value → Shared → Prop} {s : Shared} {env : Env} {st : Stmt} {stmts : List Stmt} {Q : Flow → Shared → Prop} {h₀ : Heap} {L : Addr} {m : Str → Option Value} {P : Adr} {led0 : Led}
    (F : Fr h₀ L s.heap m) (K : Known w P led0) (rest : Led) (B : Int) (ps0 : List (Str × Value)) {o : Str} {to : Tok} {v2 : Value} {xs2 : List Int} {la2 : Addr} {ty2 : Value} {k2 : TyK}
    (hop : m (S "op") = some (.str o to)) (hv2 : TextVal w led0 v2 xs2) (hla : m (S "second") = some (.ref la2)) (hT : TyIs w led0 k2 ty2)
    (h1 : wpAny (model prog w) A (exec st env) (fun f s' => f = .next ∧ TextMid h₀ L w P rest s B ps0 o to v2 xs2 la2 ty2 k2 s') E s)
    (h2 : ∀ s', TextMid h₀ L w P rest s B ps0 o to v2 xs2 la2 ty2 k2 s' → wpAny (model prog w) A (execs stmts env) Q E s') : wpAny (model prog w) A (execs (st :: stmts) env) Q E s := execs_cut _ h1 h2
theorem mid_end {h₀ : Heap} {L : Addr} {w : World} {P : Adr} {rest led0 news : Led} {s : Shared} {B : Int} {ps0 : List (Str × Value)} {o : Str} {to : Tok} {v2 : Value} {xs2 : List Int} {la2 : Addr} {ty2 : Value} {k2 : TyK} {h' : Heap} {tk : Nat} {m' : Str → Option Value}
    {a b cnt : Int} {ta tb tv : Tok} {n : Nat} {v ty : Value} {la : Addr} {xs : List Int} {vs vs2 : List Value} {n1 n2 : Nat} {k : TyK}
    (F : Fr h₀ L h' m') (N : News h₀ L h' news) (hp : plO P a b ta tb n ∈ news) (hq : tyO w P cnt tv ∈ news) (hs : ∀ r ∈ led0, r ∈ news) (hrest : ∀ r ∈ rest, r ∈ led0) (K : Known w P led0)
    (hk : ∀ p ∈ ps0 ++ [(S "left", ty), (S "first", .ref la), (S "one", v), (S "right", ty2), (S "second", .ref la2), (S "two", v2), (S "op", .str o to), (S "types", .ref P.ty), (S "records", .ref P.rl)], m' p.1 = some p.2) (hab : 0 ≤ a ∧ 0 ≤ b ∧ b ≤ B)
    (hc : Chars xs) (hl : xs.length ≤ 4) (hi : IntsAre vs xs) (hn : isN k = false) (hr : isR k = false) (ht : isT k = true ∨ isT k2 = true) (hv2 : TextVal w led0 v2 xs2) (m2 : (la2, listOf vs2.toArray n2) ∈ led0) (hi2 : IntsAre vs2 xs2) (hT2 : TyIs w led0 k2 ty2)
    (out : ∀ led, (∀ p ∈ led0, p ∈ led) → (∀ p ∈ news, @Ne Nat p.1 P.pl → @Ne Nat p.1 P.dT → p ∈ led) → TextVal w led v xs ∧ (la, listOf vs.toArray n1) ∈ led ∧ TyIs w led k ty) :
    TextMid h₀ L w P rest s B ps0 o to v2 xs2 la2 ty2 k2 { s with heap := h', toks := tk } := by
  obtain ⟨led, N', hoff, hin⟩ := pack2 N hp hq
  have hsub : ∀ p ∈ led0, p ∈ led := fun p hp => hin p (hs p hp) (K.hoff p hp P.pl (.head _)) (K.hoff p hp P.dT (.tail _ (.head _)))
  obtain ⟨q1, q2, q3⟩ := out led hsub hin
  refine ⟨h', tk, m', a, b, ta, tb, n, cnt, tv, led, v, xs, la, vs, n1, ty, k, vs2, n2, rfl, ?_, N', hab, fun r hr => hsub _ (hrest r hr), K.mono hsub hoff, q1, q2, hi, hc, hl, q3, hn, hr, ht, hv2.mono hsub, hsub _ m2, hi2, hT2.mono hsub⟩
  rw [show kstB m' _ = m' from funext fun z => kstB_eq hk fun _ => rfl]
  exact F
theorem form_of {w : World} {led : Led} {k : TyK} {v : Value} (h : TyIs w led k v) : ∃ (t d : Addr) (kt vt : Nat → Tok) (num size : Int) (base : Value) (len : Int) (f p h : Addr), v = .ref t ∧ (t, instObj 136 d) ∈ led ∧ (d, typeO w kt vt num (formOf k) size base len f p h) ∈ led := by
  rcases h with ⟨_, hk9, t, d, kt, vt, num, size, base, len, f, p, h, m1, m2⟩ | ⟨t, d, b, e, kt, vt, kt', vt', num, size, num', size', base', len, len', f, p, h, f', p', h', m1, m2, m3, m4⟩
  · exact ⟨t, d, kt, vt, num, size, base, len, f, p, h, rfl, m1, m2⟩
  · exact ⟨t, d, kt, vt, num, size, .ref b, len, f, p, h, rfl, m1, m2⟩
theorem isT_of {k : TyK} (hn : isN k = false) (hr : isR k = false) (h : (formOf k == S "char") = false) : isT k = true := by
  cases k <;> first | rfl | exact absurd hn (by decide) | exact absurd hr (by decide) | exact absurd h (by decide)
theorem isT_of' {k : TyK} (hn : isN k = false) (hr : isR k = false) (h : ¬ formOf k = S "char") : isT k = true := by
  cases k <;> first | rfl | exact absurd hn (by decide) | exact absurd hr (by decide) | exact absurd rfl h
theorem mid_endA {h₀ : Heap} {L : Addr} {w : World} {P : Adr} {rest led0 news : Led} {s : Shared} {B : Int} {ps0 : List (Str × Value)} {o : Str} {to tA t : Tok} {v2 : Value} {xs2 : List Int} {la2 : Addr} {ty2 : Value} {k2 : TyK} {h' : Heap} {tk : Nat} {m' : Str → Option Value}
    {a b cnt : Int} {ta tb tv : Tok} {n : Nat} {ty : Value} {la : Addr} {vs2 : List Value} {n1 n2 : Nat}
    (F : Fr h₀ L h' m') (N : News h₀ L h' news) (hp : plO P a b ta tb n ∈ news) (hq : tyO w P cnt tv ∈ news) (hs : ∀ r ∈ led0, r ∈ news) (hrest : ∀ r ∈ rest, r ∈ led0) (K : Known w P led0)
    (hk : ∀ p ∈ ps0 ++ [(S "left", ty), (S "first", .ref la), (S "one", .str (Str.ofString "A") tA), (S "right", ty2), (S "second", .ref la2), (S "two", v2), (S "op", .str o to), (S "types", .ref P.ty), (S "records", .ref P.rl)], m' p.1 = some p.2) (hab : 0 ≤ a ∧ 0 ≤ b ∧ b ≤ B)
    (ml : (la, listOf #[Value.int 65 t] n1) ∈ news) (e1 : @Ne Nat la P.pl) (e2 : @Ne Nat la P.dT) (hv2 : TextVal w led0 v2 xs2) (m2 : (la2, listOf vs2.toArray n2) ∈ led0) (hi2 : IntsAre vs2 xs2) (hT2 : TyIs w led0 k2 ty2)
    (out : ∀ led, (∀ p ∈ led0, p ∈ led) → (∀ p ∈ news, @Ne Nat p.1 P.pl → @Ne Nat p.1 P.dT → p ∈ led) → TyIs w led .str ty) :
    TextMid h₀ L w P rest s B ps0 o to v2 xs2 la2 ty2 k2 { s with heap := h', toks := tk } :=
  mid_end (xs := [65]) (k := .str) (vs := [.int 65 t]) (n1 := n1) F N hp hq hs hrest K hk hab (chars_one (by decide)) (by decide) (.cons _ _ .nil) rfl rfl (.inl rfl) hv2 m2 hi2 hT2 fun led hsub hin => ⟨valA, hin _ ml e1 e2, out led hsub hin⟩
theorem mid_cut2 {prog : Program} {w : World} {A : Around} {E : Value → Shared → Prop} {s : Shared} {env : Env} {st : Stmt} {stmts : List Stmt} {Q : Flow → Shared → Prop} {h₀ : Heap} {L : Addr} {m : Str → Option Value} {P : Adr} {led0 : Led} {ts : Tok}
    (F : Fr h₀ L s.heap m) (K : Known w P led0) (rest : Led) (B : Int) {o : Str} {to : Tok} {v2 : Value} {xs2 : List Int} {la2 : Addr} {ty2 : Value} {k2 : TyK}
    (hso : m (S "sort") = some (.str (S "text") ts)) (hop : m (S "op") = some (.str o to)) (hv2 : TextVal w led0 v2 xs2) (hla : m (S "second") = some (.ref la2)) (hT : TyIs w led0 k2 ty2)
    (h1 : wpAny (model prog w) A (exec st env) (fun f s' => f = .next ∧ TextMid h₀ L w P rest s B [(S "sort", .str (S "text") ts)] o to v2 xs2 la2 ty2 k2 s') E s)
    (h2 : ∀ s', TextMid h₀ L w P rest s B [(S "sort", .str (S "text") ts)] o to v2 xs2 la2 ty2 k2 s' → wpAny (model prog w) A (execs stmts env) Q E s') : wpAny (model prog w) A (execs (st :: stmts) env) Q E s := execs_cut _ h1 h2
theorem relr0_w {w : World} {o : Str} {t tk : Tok} {fam : Bool} {k₁ k₂ : Nat} {v₁ v₂ : Value} {news : Led} (e : RefVal w news fam k₁ v₁ ∧ RefVal w news fam k₂ v₂ ∧ (decide (k₁ = k₂) == (o == S "=")) = false) :
    CtrU w 119 [.str o t, .str (S "reference") tk, v₁, v₂] news 16 120 (fun Q s h₀ L m => ∀ (t' : Tok) (h' : Heap) (tk' : Nat), Fr h₀ L h' m → News h₀ L h' news → Q (.int 0 t') { s with heap := h', toks := tk' }) := (relation_r0 w o t tk fam k₁ k₂ v₁ v₂ news e.1 e.2.1 e.2.2).same
theorem relt0_w {w : World} {o : Str} {t tk : Tok} {v₁ v₂ : Value} {xs ys : List Int} {news : Led} (e : TextVal w news v₁ xs ∧ TextVal w news v₂ ys ∧ ordS o (strOf xs) (strOf ys) = false) :
    CtrU w 119 [.str o t, .str (S "text") tk, v₁, v₂] news 14 100 (fun Q s h₀ L m => ∀ (t' : Tok) (h' : Heap) (tk' : Nat), Fr h₀ L h' m → News h₀ L h' news → Q (.int 0 t') { s with heap := h', toks := tk' }) := (relation_t0 w o t tk v₁ v₂ xs ys news e.1 e.2.1 e.2.2).same
theorem reln0_w {w : World} {o : Str} {t tk : Tok} {a b : Int} {ta tb : Tok} {news : Led} (e : ordI o a b = false) :
    CtrU w 119 [.str o t, .str (S "number") tk, .int a ta, .int b tb] news 14 100 (fun Q s h₀ L m => ∀ (t' : Tok) (h' : Heap) (tk' : Nat), Fr h₀ L h' m → News h₀ L h' news → Q (.int 0 t') { s with heap := h', toks := tk' }) := (relation_n0 w o t tk a b ta tb news e).same
theorem relr1_w {w : World} {o : Str} {t tk : Tok} {fam : Bool} {k₁ k₂ : Nat} {v₁ v₂ : Value} {news : Led} (e : RefVal w news fam k₁ v₁ ∧ RefVal w news fam k₂ v₂ ∧ (decide (k₁ = k₂) == (o == S "=")) = true) :
    CtrU w 119 [.str o t, .str (S "reference") tk, v₁, v₂] news 16 120 (fun Q s h₀ L m => ∀ (t' : Tok) (h' : Heap) (tk' : Nat), Fr h₀ L h' m → News h₀ L h' news → Q (.int 1 t') { s with heap := h', toks := tk' }) := (relation_r1 w o t tk fam k₁ k₂ v₁ v₂ news e.1 e.2.1 e.2.2).same
theorem relt1_w {w : World} {o : Str} {t tk : Tok} {v₁ v₂ : Value} {xs ys : List Int} {news : Led} (e : TextVal w news v₁ xs ∧ TextVal w news v₂ ys ∧ ordS o (strOf xs) (strOf ys) = true) :
    CtrU w 119 [.str o t, .str (S "text") tk, v₁, v₂] news 14 100 (fun Q s h₀ L m => ∀ (t' : Tok) (h' : Heap) (tk' : Nat), Fr h₀ L h' m → News h₀ L h' news → Q (.int 1 t') { s with heap := h', toks := tk' }) := (relation_t1 w o t tk v₁ v₂ xs ys news e.1 e.2.1 e.2.2).same
theorem reln1_w {w : World} {o : Str} {t tk : Tok} {a b : Int} {ta tb : Tok} {news : Led} (e : ordI o a b = true) :
    CtrU w 119 [.str o t, .str (S "number") tk, .int a ta, .int b tb] news 14 100 (fun Q s h₀ L m => ∀ (t' : Tok) (h' : Heap) (tk' : Nat), Fr h₀ L h' m → News h₀ L h' news → Q (.int 1 t') { s with heap := h', toks := tk' }) := (relation_n1 w o t tk a b ta tb news e).same
-- F1
/-- the first n cells, known one by one -/
def CellsUp (w : World) (o : Obj) (N n : Nat) (f : Nat → Int) : Prop :=
  ∃ kvs D, o.IsDictOf (intKind Challenge.rw_nu0318_01.row.prog w) kvs ∧ PyProof.V.FlatPairs PyData.int kvs D ∧ D.length ≤ N ∧ ∀ j : Nat, j < n → Spec.lookup (.int j) D = some (.int (f j))
theorem CellsUp.put {w : World} {o' : Obj} {N n : Nat} {f g : Nat → Int} {k : Nat} {v : Int} {kvs' : List (Int × Value)} {D : List (PyData × PyData)} (h1 : o'.IsDictOf (intKind Challenge.rw_nu0318_01.row.prog w) kvs') (h2 : PyProof.V.FlatPairs PyData.int kvs' (PyProof.V.putD (.int (k : Int)) (.int v) D))
    (h3 : D.length ≤ N) (h4 : ∀ j : Nat, j < n → Spec.lookup (.int j) D = some (.int (f j))) (h : ∀ j, j < n → g j = if j = k then v else f j) : CellsUp w o' (N + 1) n g := by
  refine ⟨kvs', _, h1, h2, Nat.le_trans (PyProof.V.putD_length_le _ _ _) (by omega), fun j hj => ?_⟩
  rw [h j hj]
  by_cases e : j = k
  · subst e
    rw [PyProof.V.lookup_putD_same, if_pos rfl]
  · rw [PyProof.V.lookup_putD_other (by omega), h4 j hj, if_neg e]
theorem CellsUp.add {w : World} {o' : Obj} {N n : Nat} {f g : Nat → Int} {v : Int} {kvs' : List (Int × Value)} {D : List (PyData × PyData)} (h1 : o'.IsDictOf (intKind Challenge.rw_nu0318_01.row.prog w) kvs') (h2 : PyProof.V.FlatPairs PyData.int kvs' (PyProof.V.putD (.int (n : Int)) (.int v) D))
    (h3 : D.length ≤ N) (h4 : ∀ j : Nat, j < n → Spec.lookup (.int j) D = some (.int (f j))) (h : ∀ j, j < n + 1 → g j = if j = n then v else f j) : CellsUp w o' (N + 1) (n + 1) g := by
  refine ⟨kvs', _, h1, h2, Nat.le_trans (PyProof.V.putD_length_le _ _ _) (by omega), fun j hj => ?_⟩
  rw [h j hj]
  by_cases e : j = n
  · subst e
    rw [PyProof.V.lookup_putD_same, if_pos rfl]
  · rw [PyProof.V.lookup_putD_other (by omega), h4 j (by omega), if_neg e]
theorem CellsUp.ext {w : World} {o : Obj} {N n : Nat} {f g : Nat → Int} (h : CellsUp w o N n f) (e : ∀ j, j < n → g j = f j) : CellsUp w o N n g := by
  obtain ⟨kvs, D, h1, h2, h3, h4⟩ := h
  exact ⟨kvs, D, h1, h2, h3, fun j hj => by rw [e j hj]; exact h4 j hj⟩
theorem CellsUp.more {w : World} {o : Obj} {N M n : Nat} {f : Nat → Int} (h : CellsUp w o N n f) (e : N ≤ M) : CellsUp w o M n f := by
  obtain ⟨kvs, D, h1, h2, h3, h4⟩ := h
  exact ⟨kvs, D, h1, h2, Nat.le_trans h3 e, h4⟩
abbrev filled (row : List Int) (f : Nat → Int) (j : Nat) : Int := if j < row.length then row.getD j 0 else if j = row.length then 0 else f j
section
variable {prog : Program} {w : World} {A : Around} {E : Value → Shared → Prop} {s : Shared} {row : List Int} {t : Tok} {Q : Value → Shared → Prop} {value slice : PySem.Expr}
theorem len_S (hb : row.length ≤ 1000) (h : ∀ tk', Q (.int (row.length : Int) tk') { s with toks := s.toks + 1 + 1 }) : wpAny (model prog w) A (call (.builtin "len") [.str (strOf row) t]) Q E s := by
  refine P.len_str (by rw [strOf_len]; omega) ?_
  rw [strOf_len]
  exact h _
theorem item_S {i : Nat} {u : Tok} (hb : row.length ≤ 1000) (hi : i < row.length) (h : ∀ t', Q (.str (chrS (row.getD i 0)) t') { s with toks := s.toks + 1 })
    (hs : subscripted slice false (.str (strOf row) t) (.int (i : Int) u) = operate [.str (strOf row) t, .int (i : Int) u] (getItem (.str (strOf row) t) (.int (i : Int) u)))
    (ht : ∀ r, letTemporaryGo value (.str (strOf row) t) r = pure ()) : wpAny (model prog w) A (subscriptTail value slice (.str (strOf row) t) (.int (i : Int) u)) Q E s := by
  have hl : (strOf row).length = row.length := strOf_len row
  refine item_str (fitsSsize_of (N := 9223372036854775808) (by omega) (by omega) (by omega)) (by omega) (by omega) (fun _ => ?_) hs ht
  have e : Txt.item (strOf row) (i : Int) = chrS (row.getD i 0) := item_meets (by omega) (by
    rw [show ((i : Int)).toNat = i by omega]
    simp [strOf, List.getD_eq_getElem?_getD, List.getElem?_eq_getElem hi])
  rw [e]
  exact h _
theorem ord_S {n : Int} (h0 : 0 ≤ n) (h : ∀ tk', Q (.int n tk') { s with toks := s.toks + 1 }) : wpAny (model prog w) A (call (.builtin "ord") [.str (chrS n) t]) Q E s := by
  refine P.ord_of_char (c := n.toNat) ?_
  rw [show ((n.toNat : Nat) : Int) = n by omega]
  exact h _
end
local macro_rules | `(tactic| walk_at "call builtin:len") => `(tactic| (k_here; (with_reducible show wpAny _ _ (call (Value.builtin "len") [Value.str _ _]) _ _ _); k_dflt (refine' len_S ?k1 ?_; (case k1 => omega)); intro t9))
local macro_rules | `(tactic| walk_at "call builtin:ord") => `(tactic| (k_here; (with_reducible show wpAny _ _ (call (Value.builtin "ord") [Value.str (chrS _) _]) _ _ _); k_dflt (refine' ord_S ?k1 ?_; (case k1 => omega)); intro t9))
local macro_rules | `(tactic| walk_at "subscriptTail Name Name str int") => `(tactic| (k_here; (with_reducible show wpAny _ _ (subscriptTail _ _ (Value.str _ _) (Value.int _ _)) _ _ _); k_dflt (refine' item_S ?k1 ?k2 ?_ ?k3 ?k4; (case k1 => omega); (case k2 => omega); (case k3 => with_unfolding_all rfl); (case k4 => (intro _; with_unfolding_all rfl))); intro t9))
theorem fill_end {w : World} {c : Addr} {o₀ o' : Obj} {N n : Nat} {g : Nat → Int} {rest : Led} {h₀ : Heap} {L : Addr} {m : Str → Option Value} {s : Shared} {Q : Value → Shared → Prop} {h' : Heap} {tk : Nat}
    (ret : ∀ r news' h' tk', Fr h₀ L h' m → News h₀ L h' news' → (∃ own o', news' = own ++ (c, o') :: rest ∧ (∀ q ∈ own, AllLt q.1 ((c, o₀) :: rest)) ∧ r = .none ∧ own = [] ∧ CellsUp w o' N n g) → Q r { s with heap := h', toks := tk' })
    (F : Fr h₀ L h' m) (N' : News h₀ L h' ((c, o') :: rest)) (h : CellsUp w o' N n g) : Q .none { s with heap := h', toks := tk } :=
  ret _ _ _ _ F N' ⟨[], _, rfl, (fun _ h => nomatch h), rfl, rfl, h⟩
set_option maxHeartbeats 8000000 in
theorem fill_0 (w : World) (a d c : Addr) (k0 k1 k2 v0 : Tok) (len : Int) (el : Value) (o : Obj) (row : List Int) (f : Nat → Int) (t : Tok) (N₀ n : Nat) (rest : Led)
    (hrow : row.length ≤ 5) (hN : N₀ ≤ 40) (hch : Chars row) (hc : CellsUp w o N₀ n f) (hoff : OwnOff rest [c]) (hcs : (c == sysModules) = false) (m1 : (a, instObj 52 d) ∈ rest) (m2 : (d, arrO w k0 k1 k2 v0 len el c) ∈ rest) :
    Ctr w 70 [.ref a, .str (strOf row) t] ((c, o) :: rest) 10 60 (fun r news' => ∃ own o', news' = own ++ (c, o') :: rest ∧ (∀ q ∈ own, AllLt q.1 ((c, o) :: rest)) ∧ r = .none ∧ own = [] ∧ CellsUp w o' (N₀ + 6) n (filled row f)) := by
  intro mean mg mb dp un gd cn cs fa ccd cl outer A₀ base h₀ L m s Q E B F X N T hk hdp hu hret
  revert X; k_fill; intro X
  have hrc : recursionLimit = 1000 := rfl
  refine wpAny_call ?_
  k_dflt cell_enter
  k_steps
  unfold Hold
  rename Fr _ _ _ _ => F1
  rename News _ _ _ _ => N1
  rename IsRange _ _ _ _ _ _ _ _ => hR
  refine my_range (σ := Obj) (n := row.length) (rest := rest) (fun o => [(c, o)]) (fun _ => [(S "arr", .ref a), (S "text", .str (strOf row) t)]) (fun i o => CellsUp w o (N₀ + i) n (fun j => if j < i then row.getD j 0 else f j)) o
    rfl hR (small_of (by omega) (by omega)) (size_of (by omega)) F1 N1 (fun _ => rfl) hoff ?a4 ?a5 ?_ ?_
  case a4 => exact List.forall_mem_cons.mpr ⟨rfl, List.forall_mem_cons.mpr ⟨rfl, List.forall_mem_nil _⟩⟩
  case a5 => exact hc.ext fun j _ => if_neg (Nat.not_lt_zero _)
  · intro o5 i t5 u h5 tk5 rest' hi hJ hoff' hsub F2 N2
    have m1' := hsub _ m1
    have m2' := hsub _ m2
    clear m1 m2 hoff hc
    have hci := hch (row.getD i 0) (by rw [List.getD_eq_getElem?_getD, List.getElem?_eq_getElem hi]; exact List.getElem_mem hi)
    obtain ⟨kvs7, D7, hd7, hf7, hl7, hc7⟩ := hJ
    dsimp only [List.cons_append, List.nil_append, kstB] at F2 N2
    k_steps
    rename Fr _ _ _ _ => F9
    rename News _ _ _ _ => N9
    refine ⟨_, _, _, _, rfl, F9, N9, List.forall_mem_cons.mpr ⟨rfl, List.forall_mem_cons.mpr ⟨rfl, List.forall_mem_nil _⟩⟩, ?_⟩
    refine CellsUp.put (by assumption) (by assumption) hl7 hc7 fun j hj => ?_
    by_cases e : j = i
    · subst e; rw [if_pos (Nat.lt_succ_self _), if_pos rfl]
    · rw [if_neg e]
      by_cases e1 : j < i
      · rw [if_pos e1, if_pos (by omega)]
      · rw [if_neg e1, if_neg (by omega)]
  · intro o5 u h5 tk5 hJ F2 N2
    obtain ⟨kvs7, D7, hd7, hf7, hl7, hc7⟩ := hJ
    dsimp only [List.cons_append, List.nil_append, kstB] at F2 N2
    k_steps
    rename Fr _ _ _ _ => F9
    rename News _ _ _ _ => N9
    refine fill_end (N := N₀ + 6) hret F9 N9 ?_
    refine CellsUp.more (N := N₀ + row.length + 1) (CellsUp.put (by assumption) (by assumption) hl7 hc7 fun j hj => ?_) (by omega)
    show (if j < row.length then _ else _) = _
    by_cases e : j = row.length
    · subst e; rw [if_neg (Nat.lt_irrefl _), if_pos rfl, if_pos rfl]
    · rw [if_neg e, if_neg e]
theorem fill_c (w : World) (a d c : Addr) (k0 k1 k2 v0 : Tok) (len : Int) (el : Value) (o : Obj) (row : List Int) (f : Nat → Int) (t : Tok) (N₀ n : Nat) (news : Led) (g : Obj → Led)
    (U : UpdF c o news g) (m1 : (a, instObj 52 d) ∈ news) (m2 : (d, arrO w k0 k1 k2 v0 len el c) ∈ news) (n1 : @Ne Nat a c) (n2 : @Ne Nat d c) (hc : CellsUp w o N₀ n f) (hrow : row.length ≤ 5) (hN : N₀ ≤ 40) (hch : Chars row) (hcs : (c == sysModules) = false) :
    Ctr w 70 [.ref a, .str (strOf row) t] news 10 60 (fun r news' => ∃ own o', news' = own ++ g o' ∧ (∀ q ∈ own, AllLt q.1 news) ∧ r = .none ∧ own = [] ∧ CellsUp w o' (N₀ + 6) n (filled row f)) :=
  Ctr.upd U fun rest hoff hsub => fill_0 w a d c k0 k1 k2 v0 len el o row f t N₀ n rest hrow hN hch hc hoff hcs (hsub _ m1 n1) (hsub _ m2 n2)
theorem fill_w {w : World} {a d c : Addr} {k0 k1 k2 v0 : Tok} {len : Int} {el : Value} {o : Obj} {row : List Int} {f : Nat → Int} {t : Tok} {N₀ n : Nat} {news : Led} {g : Obj → Led}
    (e : (a, instObj 52 d) ∈ news ∧ (d, arrO w k0 k1 k2 v0 len el c) ∈ news ∧ CellsUp w o N₀ n f ∧ UpdF c o news g ∧ @Ne Nat a c ∧ @Ne Nat d c ∧ row.length ≤ 5 ∧ N₀ ≤ 40 ∧ Chars row ∧ (c == sysModules) = false) :
    CtrU w 70 [.ref a, .str (strOf row) t] news 10 60 (fun Q s h₀ L m => ∀ (h' : Heap) (tk' : Nat) (o' : Obj), CellsUp w o' (N₀ + 6) n (filled row f) → Fr h₀ L h' m → News h₀ L h' (g o') → Q .none { s with heap := h', toks := tk' }) :=
  (fill_c w a d c k0 k1 k2 v0 len el o row f t N₀ n news g e.2.2.2.1 e.1 e.2.1 e.2.2.2.2.1 e.2.2.2.2.2.1 e.2.2.1 e.2.2.2.2.2.2.1 e.2.2.2.2.2.2.2.1 e.2.2.2.2.2.2.2.2.1 e.2.2.2.2.2.2.2.2.2).toU fun Q s h₀ L m k r news' h' tk' F N P => by
    obtain ⟨own, o', rfl, -, rfl, rfl, h1⟩ := P
    exact k h' tk' o' h1 F N
-- F2
/-- what is shown later, kept from the hands of `assumption` -/
structure Wrap (p : Prop) : Prop where
  out : p
theorem pack1 {h₀ h' : Heap} {L x : Addr} {o1 : Obj} {news : Led} (N : News h₀ L h' news) (hp : (x, o1) ∈ news) :
    ∃ led, News h₀ L h' ((x, o1) :: led) ∧ OwnOff led [x] ∧ ∀ p ∈ news, @Ne Nat p.1 x → p ∈ led := by
  refine ⟨news.filter fun p => decide (p.1 ≠ x), fun p hp' => ?_, fun p hp' b hb => ?_, fun p hp' h1 => List.mem_filter.mpr ⟨hp', decide_eq_true h1⟩⟩
  · rcases List.mem_cons.mp hp' with rfl | hp'
    · exact N _ hp
    · exact N _ (List.mem_filter.mp hp').1
  · have := of_decide_eq_true (List.mem_filter.mp hp').2
    rw [List.mem_singleton.mp hb]; exact this
theorem pack_in {h₀ h' : Heap} {L x : Addr} {o : Obj} {p1 p2 : Addr × Obj} {led : Led} {as : List Addr} {v : Option Value} (N : News h₀ L h' (p1 :: p2 :: led)) (hp : (x, o) ∈ led) (hd : o.data = Data.cell v) (hoff : OwnOff led as) :
    ∃ q led', q.data = Data.cell v ∧ News h₀ L h' (p1 :: p2 :: (x, q) :: led') ∧ OwnOff led' (x :: as) ∧ ∀ p ∈ led, @Ne Nat p.1 x → p ∈ led' := by
  refine ⟨o, led.filter fun p => decide (p.1 ≠ x), hd, fun p hp' => ?_, fun p hp' b hb => ?_, fun p hp' h1 => List.mem_filter.mpr ⟨hp', decide_eq_true h1⟩⟩
  · rcases List.mem_cons.mp hp' with rfl | hp'
    · exact N _ (.head _)
    · rcases List.mem_cons.mp hp' with rfl | hp'
      · exact N _ (.tail _ (.head _))
      · rcases List.mem_cons.mp hp' with rfl | hp'
        · exact N _ (.tail _ (.tail _ hp))
        · exact N _ (.tail _ (.tail _ (List.mem_filter.mp hp').1))
  · have := List.mem_filter.mp hp'
    rcases List.mem_cons.mp hb with rfl | hb
    · exact of_decide_eq_true this.2
    · exact hoff p this.1 b hb
theorem ne_cell {h₀ h' : Heap} {L a x : Addr} {oa o : Obj} {v : Option Value} {news : Led} (N : News h₀ L h' news) (ha : (a, oa) ∈ news) (hx : (x, o) ∈ news) (hd : o.data = Data.cell v) (hn : oa.data ≠ Data.cell v) : @Ne Nat a x := by
  intro e
  have h1 := (N _ ha).1
  have h2 := (N _ hx).1
  dsimp only at h1 h2
  have e' : a = x := e
  rw [e', h2] at h1
  injection h1 with h1
  exact hn (h1 ▸ hd)
abbrev six (_ : Nat) : Int := 90
section
variable {prog : Program} {w : World} {A : Around} {E : Value → Shared → Prop} {s : Shared} {env : Env} {h₀ : Heap} {x : Str} {body : List Stmt} {Q : Flow → Shared → Prop}
theorem ninety_loop {r cc : Addr} {t₀ u₀ v₀ : Tok} {m₀ : Str → Option Value} {news : Led} {o : Obj} {v1 v2 : Value}
    (hh : A.handled = none) (hr : IsRange s.heap r 0 6 1 t₀ u₀ v₀) (F : Fr h₀ env.locals s.heap m₀) (N : News h₀ env.locals s.heap news)
    (mc : (cc, o) ∈ news) (hd : o.IsDictOf (intKind Challenge.rw_nu0318_01.row.prog w) []) (hf : PyProof.V.FlatPairs PyData.int [] []) (k1 : m₀ (S "row") = some v1) (k2 : m₀ (S "said") = some v2)
    (turn : ∀ (o5 : Obj) (i : Nat) t u h tk rest', i < 6 → CellsUp w o5 i i six → OwnOff rest' [cc] → (∀ p ∈ news, @Ne Nat p.1 cc → p ∈ rest') →
      Fr h₀ env.locals h (fun y => if y = x then some (.int i t) else kstB u [(S "row", v1), (S "said", v2)] y) → News h₀ env.locals h ((cc, o5) :: rest') →
      wpAny (model prog w) A (execs body env) (MyPost h₀ env.locals (fun o : Obj => [(cc, o)]) rest' (fun _ => [(S "row", v1), (S "said", v2)]) (fun o => CellsUp w o (i + 1) (i + 1) six) { s with heap := h, toks := tk } Q) E { s with heap := h, toks := tk })
    (done : ∀ (o5 : Obj) (u : Str → Option Value) h tk rest', CellsUp w o5 6 6 six → OwnOff rest' [cc] → (∀ p ∈ news, @Ne Nat p.1 cc → p ∈ rest') → Fr h₀ env.locals h (kstB u [(S "row", v1), (S "said", v2)]) →
      News h₀ env.locals h ((cc, o5) :: rest') → Q .next { s with heap := h, toks := tk }) :
    wpAny (model prog w) A (pyIter (.ref r)) (fun it s₂ => LoopAtV prog w A h₀ env x body Q E it s₂) E s := by
  obtain ⟨led, N', hoff, hin⟩ := pack1 N mc
  refine my_range (σ := Obj) (n := 6) (rest := led) (fun o => [(cc, o)]) (fun _ => [(S "row", v1), (S "said", v2)]) (fun i o => CellsUp w o i i six) o
    hh hr (small_of (by omega) (by omega)) (size_of (by omega)) F N' (fun _ => rfl) hoff (List.forall_mem_cons.mpr ⟨k1, List.forall_mem_cons.mpr ⟨k2, List.forall_mem_nil _⟩⟩) ⟨[], [], hd, hf, Nat.le_refl _, fun _ h => absurd h (Nat.not_lt_zero _)⟩ ?_ ?_
  · intro o5 i t u h tk rest' hi hJ hoff' hsub F2 N2
    exact turn o5 i t u h tk rest' hi hJ hoff' (fun p hp h1 => hsub p (hin p hp h1)) F2 N2
  · intro o5 u h tk hJ F2 N2
    exact done o5 u h tk led hJ hoff hin F2 N2
end
section
variable {prog : Program} {w : World} {A : Around} {E : Value → Shared → Prop} {s : Shared} {h₀ : Heap} {L c : Addr} {m : Str → Option Value} {news news' : Led} {o : Obj} {N n : Nat} {f : Nat → Int} {i : Nat} {t : Tok} {Q : Value → Shared → Prop} {value slice : PySem.Expr}
theorem item_cell {w : World} (F : CellsUp w o N n f) (Nw : News h₀ L s.heap news) (m3 : (c, o) ∈ news) (hcs : (c == sysModules) = false) (hi : i < n) (h : ∀ t', Q (.int (f i) t') { s with toks := s.toks + 1 })
    (hs : subscripted slice false (.ref c) (.int (i : Int) t) = operate [.ref c, .int (i : Int) t] (getItem (.ref c) (.int (i : Int) t))) (hg : ∀ r, letTemporaryGo value (.ref c) r = pure ()) :
    wpAny (model Challenge.rw_nu0318_01.row.prog w) A (subscriptTail value slice (.ref c) (.int (i : Int) t)) Q E s := by
  obtain ⟨kvs, D, h1, h2, h3, h4⟩ := F
  refine item_intTab (TabAt.ofNews Nw m3 hcs h1 h2) (h4 i hi) (fun v hv => ?_) hs hg
  obtain ⟨t', rfl⟩ := flat_int hv
  exact h _
end
section
open PyProof.Rows.LCg
/-- a comprehension of one-letter texts over a list of ints -/
theorem my_compS {prog : Program} {w : World} {A : Around} {h₀ : Heap} {L : Addr} {m : Str → Option Value} {env : Env} {elt : PySem.Expr} {x : Str} {scope : Scope} {cl : List (Str × Addr)} {s : Shared} {S : Led → Prop} {P : Nat → Value → Prop} {Fin : List Value → Led → Prop} {news : Led} {n : Nat} {vs : List Value} {row : List Int} (_hrow : IntsAre vs row)
    (turn : ∀ i v I oI C oC D m₂ zs h tk (E' : Value → Shared → Prop), i < n → P i v → StrsAre zs ((row.take i).map chrS) → NsObj oC m₂ → m₂ x = some v → Fr h₀ L h m → News h₀ L h ((I, oI) :: (C, oC) :: (D, lst zs) :: news) → Off3 I C D news → ((@Ne Nat I C) ∧ (@Ne Nat I D) ∧ (@Ne Nat C D)) →
      wpAny (model prog w) A (eval elt (compEnvC scope cl C env)) (CompEnd h₀ L m { s with heap := h, toks := tk } I oI C oC D (lst zs) S (fun y nx' => nx' = news ∧ StrsAre (zs ++ [y]) ((row.take (i + 1)).map chrS))) E' { s with heap := h, toks := tk })
    (fin : ∀ zs, StrsAre zs ((row.take n).map chrS) → Fin zs news) : CompRest prog w A h₀ L m env elt x scope cl s S P Fin n 0 [] news :=
  my_compC (fun i zs => StrsAre zs ((row.take i).map chrS)) .nil turn fin
end
/-- the letters that the law writes -/
def Letters (ns : List Int) : Prop := ∀ x ∈ ns, 65 ≤ x ∧ x ≤ 67
theorem Letters.chars {ns : List Int} (h : Letters ns) : Chars ns := fun x hx => by have := h x hx; omega
theorem Letters.snoc {ns : List Int} {d : Int} (h : Letters ns) (hd : 0 ≤ d ∧ d < 3) : Letters (ns ++ [65 + d]) := fun y hy => by
  rcases List.mem_append.mp hy with hy | hy
  · exact h y hy
  · rw [List.mem_singleton.mp hy]; omega
theorem filled_range : ∀ {row : List Int}, row.length ≤ 5 → (List.range 6).map (filled row six) = row ++ [0] ++ List.replicate (5 - row.length) 90
  | [], _ => by decide
  | [a], _ => by simp [List.range_succ, filled, six]
  | [a, b], _ => by simp [List.range_succ, filled, six]
  | [a, b, c], _ => by simp [List.range_succ, filled, six]
  | [a, b, c, d], _ => by simp [List.range_succ, filled, six]
  | [a, b, c, d, e], _ => by simp [List.range_succ, filled, six]
  | _ :: _ :: _ :: _ :: _ :: _ :: _, h => by simp at h
theorem filled_end {row : List Int} (h : row.length ≤ 5) : decide ((List.range 6).map (filled row six) = row ++ [0] ++ (List.replicate (5 - (row.length : Int)).toNat [(90 : Int)]).flatten) = true := by
  rw [filled_range h, decide_eq_true_eq, List.flatten_replicate_singleton]
  congr 2
  omega
theorem filled_ahead {row : List Int} (h : Letters row) (hl : row.length ≤ 5) : ahead ((List.range (6 : Int).toNat).map (filled row six)) = row := by
  rw [show (6 : Int).toNat = 6 from rfl, filled_range hl, List.append_assoc]
  exact ahead_append (ns := row) fun n hn => by have := h n hn; omega
/-- text_of behind fill_text -/
theorem textof_f (w : World) (a d c : Addr) (k0 k1 k2 v0 : Tok) (el : Value) (o : Obj) (row : List Int) (N : Nat) (news : Led) (hc : CellsUp w o N 6 (filled row six)) (hrow : Letters row) (hl : row.length ≤ 5)
    (m1 : (a, instObj 52 d) ∈ news) (m2 : (d, arrO w k0 k1 k2 v0 6 el c) ∈ news) (m3 : (c, o) ∈ news) (hcs : (c == sysModules) = false) :
    Ctr w 63 [.ref a] news 10 60 (fun r news' => ∃ t', r = .str (strOf row) t' ∧ news' = news) := by
  obtain ⟨kvs, D, h1, h2, h3, h4⟩ := hc
  have hcell : ∀ i : Nat, i < 6 → 0 ≤ filled row six i ∧ filled row six i ≤ 255 := fun i hi => by
    unfold filled
    by_cases e : i < row.length
    · rw [if_pos e, List.getD_eq_getElem?_getD, List.getElem?_eq_getElem e]
      have := hrow _ (List.getElem_mem e)
      show 0 ≤ row[i] ∧ row[i] ≤ 255
      omega
    · rw [if_neg e]
      split
      · decide
      · show (0 : Int) ≤ 90 ∧ (90 : Int) ≤ 255
        decide
  refine Ctr.mono (textof_c w a d c k0 k1 k2 v0 6 el o kvs D (filled row six) news ⟨by decide, by decide⟩ h1 h2 (fun i hi => ?_) (fun i hi => hcell i (by omega)) m1 m2 m3 hcs) fun r n ⟨t', e, e2⟩ => ⟨t', by rw [e, filled_ahead hrow hl], e2⟩
  rw [h4 i (by omega)]; rfl
theorem textoff_w {w : World} {a d c : Addr} {k0 k1 k2 v0 : Tok} {el : Value} {o : Obj} {row : List Int} {N : Nat} {news : Led}
    (e : CellsUp w o N 6 (filled row six) ∧ (a, instObj 52 d) ∈ news ∧ (d, arrO w k0 k1 k2 v0 6 el c) ∈ news ∧ (c, o) ∈ news ∧ Letters row ∧ row.length ≤ 5 ∧ (c == sysModules) = false) :
    CtrU w 63 [.ref a] news 10 60 (fun Q s h₀ L m => ∀ (t' : Tok) (h' : Heap) (tk' : Nat), Fr h₀ L h' m → News h₀ L h' news → Q (.str (strOf row) t') { s with heap := h', toks := tk' }) := (textof_f w a d c k0 k1 k2 v0 el o row N news e.1 e.2.2.2.2.1 e.2.2.2.2.2.1 e.2.1 e.2.2.1 e.2.2.2.1 e.2.2.2.2.2.2).same
-- S1
local macro_rules | `(tactic| walk_at "subscriptTail") => `(tactic| (k_here; (with_reducible show wpAny _ _ (subscriptTail (PySem.Expr.BinOp _ _ _ _) _ _ _) _ _ _); k_dflt (refine kba_turn (value' := PySem.Expr.Name (PySem.Str.ofString "x") ⟨0, 0, 0, 0⟩) (fun _ => rfl) ?_)))
local macro_rules | `(tactic| k_qdec) => `(tactic| decide +kernel)
local macro_rules | `(tactic| ktr_rel) => `(tactic| first | exact List.Mem.head _ | assumption | exact TyIs.mono (by assumption) (fun p hp => by k_mem) | exact TextVal.mono (by assumption) (fun p hp => by k_mem) | exact RefVal.mono (by assumption) (fun p hp => by k_mem) | exact ref_law (by assumption) (by assumption) (by assumption) (by assumption) | exact (text_eq (by assumption) (by assumption) (by assumption) (by assumption)).trans (by assumption) | exact (num_eq (by assumption) (by assumption)).trans (by assumption) | exact .cons _ _ .nil | exact take40 _ | exact Letters.chars (by assumption))
local macro_rules | `(tactic| walk_at "KysVal") => `(tactic| ((refine PySem.W.KysVal.intro (fun v' hv' => ?_)); (have ef' := PyProof.V.Flat.bool_inv hv'); subst ef'))
local macro_rules | `(tactic| walk_at "call ref") => `(tactic| (ktn_call types_w 172; intros; ktr_step; (rename OwnOff _ _ => hof9; dsimp only [List.map] at hof9); tbn_lt))
local macro_rules | `(tactic| walk_at "call ref") => `(tactic| (ktn_call rec_w 31; intros; ktr_step; tbn_lt))
local macro_rules | `(tactic| walk_at "call ref") => `(tactic| ktr_call kindr_w 84)
local macro_rules | `(tactic| walk_at "call ref") => `(tactic| ktr_call kindt_w 84)
local macro_rules | `(tactic| walk_at "call ref") => `(tactic| ktr_call kindn_w 84)
local macro_rules | `(tactic| walk_at "call ref") => `(tactic| (k_here; (with_reducible show wpAny _ _ (call (Value.ref 119) [_, Value.str (Str.ofString "reference") _, _, _]) _ _ _); ktr_call relr0_w 119))
local macro_rules | `(tactic| walk_at "call ref") => `(tactic| (k_here; (with_reducible show wpAny _ _ (call (Value.ref 119) [_, Value.str (Str.ofString "reference") _, _, _]) _ _ _); ktr_call relr1_w 119))
local macro_rules | `(tactic| walk_at "call ref") => `(tactic| (k_here; (with_reducible show wpAny _ _ (call (Value.ref 119) [_, Value.str (Str.ofString "text") _, _, _]) _ _ _); ktr_call relt0_w 119))
local macro_rules | `(tactic| walk_at "call ref") => `(tactic| (k_here; (with_reducible show wpAny _ _ (call (Value.ref 119) [_, Value.str (Str.ofString "text") _, _, _]) _ _ _); ktr_call relt1_w 119))
local macro_rules | `(tactic| walk_at "call ref") => `(tactic| (k_here; (with_reducible show wpAny _ _ (call (Value.ref 119) [_, Value.str (Str.ofString "number") _, _, _]) _ _ _); ktr_call reln0_w 119))
local macro_rules | `(tactic| walk_at "call ref") => `(tactic| (k_here; (with_reducible show wpAny _ _ (call (Value.ref 119) [_, Value.str (Str.ofString "number") _, _, _]) _ _ _); ktr_call reln1_w 119))
local macro_rules | `(tactic| walk_at "call ref") => `(tactic| ktr_call before_w 202)
local macro_rules | `(tactic| walk_at "call ref") => `(tactic| ktr_call fill_w 70)
local macro_rules | `(tactic| walk_at "call ref") => `(tactic| ktr_call textoff_w 63)
local macro_rules | `(tactic| walk_at "call ref") => `(tactic| (k_here; (with_reducible show wpAny _ _ (call (Value.ref 188) _) _ _ _); refine hold ?_))
local macro_rules | `(tactic| walk_at "call ref") => `(tactic| (k_here; (with_reducible show wpAny _ _ (call (Value.ref 195) _) _ _ _); refine hold ?_))
local macro_rules | `(tactic| walk_at "subscriptTail") => `(tactic| (k_here; (with_reducible show wpAny _ _ (subscriptTail _ _ (Value.ref _) (Value.int _ _)) _ _ _); k_dflt (refine' item_op ?k1 ?k2 ?k3 ?_ ?k6; (case k1 => k_asm); (case k2 => exact List.Mem.head _); (case k3 => omega); (case k6 => with_unfolding_all rfl)); intro o9 t9 ho9 ho8))
local macro_rules | `(tactic| walk_at "exec If") => `(tactic| ((fail_if_success (have z : Been 1 := by with_reducible assumption)); k_here; (with_reducible show wpAny _ _ (exec (Stmt.If (PySem.Expr.Compare (PySem.Expr.Name (Str.ofString "kind") _) _ _ _) _ _ _) _) _ _ _); refine hold ?_))
local macro_rules | `(tactic| walk_at "KysD") => `(tactic| (k_here; k_dflt (refine' kysD_ops2 ?ho ?hD ?_ ?_; (case ho => assumption); (case hD => exact rfl)); all_goals intro hdue))
local macro_rules | `(tactic| walk_at "subscriptTail") => `(tactic| ((fail_if_success (have z : Been 2 := by with_reducible assumption)); k_here; (with_reducible show wpAny _ _ (subscriptTail (PySem.Expr.List [_, _, _] _) _ (Value.ref _) (Value.int _ _)) _ _ _); refine hold ?_))
local macro_rules | `(tactic| walk_at "compareOp Eq ref ref") => `(tactic| ((fail_if_success (have z : Been 4 := by with_reducible assumption)); k_here; (with_reducible show wpAny _ _ (compareOp CmpOp.Eq (Value.ref _) (Value.ref _)) _ _ _); k_dflt (refine' eq_x ?k1 ?k2 ?k3 ?k4 ?k5 ?k6 ?_; (case k1 => k_asm); (case k2 => k_mem); (case k3 => k_mem); (case k4 => first | assumption | exact .cons _ _ .nil); (case k5 => first | assumption | exact .cons _ _ .nil); (case k6 => ke_room)); intro x9 hx9))
local macro_rules | `(tactic| walk_at "eval BoolOp") => `(tactic| ((fail_if_success (have z : Been 3 := by with_reducible assumption)); k_here; first
  | ((with_reducible show wpAny _ _ (eval (PySem.Expr.BoolOp PySem.BoolOp.Or _ _) _) _ _ _); k_dflt (refine' join_or ?hx ?hy ?hh ?_; (case hy => assumption); (case hx => assumption)); (case hh => (have mk3 := been 3; k_steps; all_goals first | exact or_t (by assumption) | exact or_f (by assumption) | exact and_t (by assumption) | exact and_f (by assumption) | exact and_t' (by assumption) | exact and_f' (by assumption))))
  | ((with_reducible show wpAny _ _ (eval (PySem.Expr.BoolOp PySem.BoolOp.And _ _) _) _ _ _); k_dflt (refine' join_and ?hx ?hy ?hh ?_; (case hy => assumption); (case hx => assumption)); (case hh => (have mk3 := been 3; k_steps; all_goals first | exact or_t (by assumption) | exact or_f (by assumption) | exact and_t (by assumption) | exact and_f (by assumption) | exact and_t' (by assumption) | exact and_f' (by assumption))))))
local macro_rules | `(tactic| walk_at "execs cons") => `(tactic| ((fail_if_success (have z : Been 5 := by with_reducible assumption)); k_here; (with_reducible show wpAny _ _ (execs (Stmt.If (PySem.Expr.BoolOp PySem.BoolOp.And _ _) _ _ _ :: _) _) _ _ _); refine hold ?_))
local macro_rules | `(tactic| walk_at "subscriptTail") => `(tactic| (k_here; (with_reducible show wpAny _ _ (subscriptTail _ _ (Value.ref _) (Value.int _ _)) _ _ _); (with_reducible rename CellsUp _ _ _ _ _ => hCU9); k_dflt (refine' item_cell ?hc ?k1 ?k2 ?k3 ?k4 ?_ ?k6 ?k7; (case hc => assumption); (case k1 => k_asm); (case k2 => k_mem); (case k3 => assumption); (case k4 => omega); (case k6 => with_unfolding_all rfl); (case k7 => (intro _; with_unfolding_all rfl))); intro t9))
local macro_rules | `(tactic| walk_at "compareOp Eq ref ref") => `(tactic| ((have z : Been 7 := by with_reducible assumption); k_here; refine hold ?_))
set_option maxHeartbeats 4000000 in
noncomputable def st1 : PSigma fun A : Prop => PSigma fun B : Prop => (Wrap A → Wrap B → Challenge.rw_nu0318_01.Holds) := by
  refine' PSigma.mk _ (PSigma.mk _ ?F)
  case F =>
  intro h1 h2
  refine hd.2 ?_
  conv => whnf
  k_go0
  all_goals try k_fold
  k_steps
  unfold Hold
  rename Fr _ _ _ _ => F1
  rename News _ _ _ _ => N1
  rename IsRange _ _ _ _ _ _ _ _ => hR1
  rename OwnOff _ _ => hof
  rename Obj.data _ = Data.cell (some _) => hcell
  obtain ⟨P, led, eP1, eP2, eP3, N2, K, hcell2, mcell, mheld⟩ := law_pack N1 (by k_mem) (by k_mem) (by k_mem) (by k_mem) (by k_mem) (by k_mem) (by k_mem) (by k_mem) (by k_mem) hcell (by k_mem) (fun p hp => by k_mem)
    (OwnOff.ne hof (by k_mem)) (OwnOff.ne hof (by k_mem)) (by assumption) (take40 _) (by assumption) (by assumption) (by assumption) (by assumption) (by assumption) (by k_ne) ⟨by k_ne, by k_ne⟩ ⟨by k_ne, by k_ne⟩ ⟨by k_ne, by k_ne⟩ ⟨by k_ne, by k_ne⟩ ⟨by k_ne, by k_ne⟩ ⟨by k_ne, by k_ne⟩ ⟨by k_ne, by k_ne⟩ ⟨by k_ne, by k_ne⟩ (by k_mem) ⟨by k_ne, by k_ne⟩
  subst eP1 eP2 eP3
  refine my_range (σ := LS) (rest := led) (fun d => [plO P d.a d.b d.ta d.tb d.n, tyO _ P d.cnt d.tv]) (fun _ => [(S "types", .ref P.ty), (S "records", .ref P.rl)]) (fun i d => 0 ≤ d.a ∧ 0 ≤ d.b ∧ d.b ≤ 1 + 100 * (i : Int)) ⟨_, _, _, _, _, _, _⟩
    rfl hR1 (small_of (by omega) (by omega)) (size_of (by omega)) F1 N2 (fun _ => rfl) K.hoff ?a4 (by dsimp only; omega) ?turn ?done
  case a4 => exact List.forall_mem_cons.mpr ⟨rfl, List.forall_mem_cons.mpr ⟨rfl, List.forall_mem_nil _⟩⟩
  case done =>
    rename_i y1 y2 y3 y4 y5 y6 y7 y8 y9 y10 y11 y12 y13 y14 y15 y16 y17 y18 y19 y20 y21 y22 y23 y24 y25 y26 y27 y28 y29 y30 y31 y32 y33 y34 y35 y36 y37 y38 y39 y40 y41 y42 y43 y44 y45 y46 y47 y48 y49 y50 y51 y52 y53 y54 y55 y56 y57 y58 y59 y60 y61 y62 y63 y64 y65 y66 y67 y68 y69 y70 y71 y72 y73 y74 y75 y76 y77 y78 y79 y80 y81 y82 y83 y84 y85 y86 y87 y88 y89 y90 y91 y92 y93 y94 y95 y96 y97 y98 y99 y100 y101 y102 y103 y104 y105 y106 y107 y108 y109 y110 y111 y112 y113 y114 y115 y116 y117 y118 y119 y120 y121 y122 y123 y124 y125 y126 y127 y128 y129 y130 y131 y132 y133 y134 y135 y136 y137 y138 y139 y140 y141 y142 y143 y144 y145 y146 y147 y148 y149 y150 y151 y152 y153 y154 y155 y156 y157 y158 y159 y160 y161 y162 y163 y164 y165 y166 y167 y168 y169 y170 y171
    revert y1 y2 y3 y4 y5 y6 y7 y8 y9 y10 y11 y12 y13 y14 y15 y16 y17 y18 y19 y20 y21 y22 y23 y24 y25 y26 y27 y28 y29 y30 y31 y32 y33 y34 y35 y36 y37 y38 y39 y40 y41 y42 y43 y44 y45 y46 y47 y48 y49 y50 y51 y52 y53 y54 y55 y56 y57 y58 y59 y60 y61 y62 y63 y64 y65 y66 y67 y68 y69 y70 y71 y72 y73 y74 y75 y76 y77 y78 y79 y80 y81 y82 y83 y84 y85 y86 y87 y88 y89 y90 y91 y92 y93 y94 y95 y96 y97 y98 y99 y100 y101 y102 y103 y104 y105 y106 y107 y108 y109 y110 y111 y112 y113 y114 y115 y116 y117 y118 y119 y120 y121 y122 y123 y124 y125 y126 y127 y128 y129 y130 y131 y132 tk y133 y134 y135 y136 y137 y138 y139 y140 y141 y142 y143 qk ek y144 y145 y146 y147 y148 hR1 y149 P led N2 K hcell2 mcell mheld y150 y151 y152 hcell y153 y154 y155 hof y156 y157 y158 y159 y160 y161 y162 y163 y164 y165 y166 y167 y168 F1 y169 y170 y171 N1
    exact h1.out
  case turn =>
    rename_i y1 y2 y3 y4 y5 y6 y7 y8 y9 y10 y11 y12 y13 y14 y15 y16 y17 y18 y19 y20 y21 y22 y23 y24 y25 y26 y27 y28 y29 y30 y31 y32 y33 y34 y35 y36 y37 y38 y39 y40 y41 y42 y43 y44 y45 y46 y47 y48 y49 y50 y51 y52 y53 y54 y55 y56 y57 y58 y59 y60 y61 y62 y63 y64 y65 y66 y67 y68 y69 y70 y71 y72 y73 y74 y75 y76 y77 y78 y79 y80 y81 y82 y83 y84 y85 y86 y87 y88 y89 y90 y91 y92 y93 y94 y95 y96 y97 y98 y99 y100 y101 y102 y103 y104 y105 y106 y107 y108 y109 y110 y111 y112 y113 y114 y115 y116 y117 y118 y119 y120 y121 y122 y123 y124 y125 y126 y127 y128 y129 y130 y131 y132 y133 y134 y135 y136 y137 y138 y139 y140 y141 y142 y143 y144 y145 y146 y147 y148 y149 y150 y151 y152 y153 y154 y155 y156 y157 y158 y159 y160 y161 y162 y163 y164 y165 y166 y167 y168 y169 y170 y171
    revert y1 y2 y3 y4 y5 y6 y7 y8 y9 y10 y11 y12 y13 y14 y15 y16 y17 y18 y19 y20 y21 y22 y23 y24 y25 y26 y27 y28 y29 y30 y31 y32 y33 y34 y35 y36 y37 y38 y39 y40 y41 y42 y43 y44 y45 y46 y47 y48 y49 y50 y51 y52 y53 y54 y55 y56 y57 y58 y59 y60 y61 y62 y63 y64 y65 y66 y67 y68 y69 y70 y71 y72 y73 y74 y75 y76 y77 y78 y79 y80 y81 y82 y83 y84 y85 y86 y87 y88 y89 y90 y91 y92 y93 y94 y95 y96 y97 y98 y99 y100 y101 y102 y103 y104 y105 y106 y107 y108 y109 y110 y111 y112 y113 y114 y115 y116 y117 y118 y119 y120 y121 y122 y123 y124 y125 y126 y127 y128 y129 y130 y131 y132 tk y133 y134 y135 y136 y137 y138 y139 y140 y141 y142 y143 qk ek y144 y145 y146 y147 y148 hR1 y149 P led N2 K hcell2 mcell mheld y150 y151 y152 hcell y153 y154 y155 hof y156 y157 y158 y159 y160 y161 y162 y163 y164 y165 y166 y167 y168 F1 y169 y170 y171 N1
    exact h2.out
-- GD
set_option maxHeartbeats 4000000 in
theorem gD : st1.1 := by
  w_top off
  conv => whnf
  k_fill
  intro y1 y2 y3 y4 y5 y6 y7 y8 y9 y10 y11 y12 y13 y14 y15 y16 y17 y18 y19 y20 y21 y22 y23 y24 y25 y26 y27 y28 y29 y30 y31 y32 y33 y34 y35 y36 y37 y38 y39 y40 y41 y42 y43 y44 y45 y46 y47 y48 y49 y50 y51 y52 y53 y54 y55 y56 y57 y58 y59 y60 y61 y62 y63 y64 y65 y66 y67 y68 y69 y70 y71 y72 y73 y74 y75 y76 y77 y78 y79 y80 y81 y82 y83 y84 y85 y86 y87 y88 y89 y90 y91 y92 y93 y94 y95 y96 y97 y98 y99 y100 y101 y102 y103 y104 y105 y106 y107 y108 y109 y110 y111 y112 y113 y114 y115 y116 y117 y118 y119 y120 y121 y122 y123 y124 y125 y126 y127 y128 y129 y130 y131 y132 tk y133 y134 y135 y136 y137 y138 y139 y140 y141 y142 y143 qk ek y144 y145 y146 y147 y148 hR1 y149 P led N2 K hcell2 mcell mheld y150 y151 y152 hcell y153 y154 y155 hof y156 y157 y158 y159 y160 y161 y162 y163 y164 y165 y166 y167 y168 F1 y169 y170 y171 N1
  intro d u h tk hJ F2 N2
  obtain ⟨hJ1, hJ2, hJ3⟩ := hJ
  have hJ4 : d.b ≤ 1000 := by omega
  clear hJ3
  repeat (rename _ ∧ _ => z9; clear z9)
  dsimp only [kstB, plO, tyO, List.cons_append, List.nil_append] at F2 N2
  rename World => w9
  rename Shared => s9
  obtain ⟨w8, led2, hw8, N3, hoff, hin⟩ := pack_in N2 mheld (by assumption) K.hoff
  have q1 := hin _ mcell (by k_ne)
  have q2 := hin _ K.m1 (ne_cell N2 (.tail _ (.tail _ K.m1)) (.tail _ (.tail _ mheld)) (by assumption) (by intro h; cases h))
  have q3 := hin _ K.m2 (ne_cell N2 (.tail _ (.tail _ K.m2)) (.tail _ (.tail _ mheld)) (by assumption) (by intro h; cases h))
  have n1 : @Ne Nat (s9.heap.objs.size + 1 + 1) P.pl := K.hoff _ mheld P.pl (.head _)
  have n2 : @Ne Nat (s9.heap.objs.size + 1 + 1) P.dT := K.hoff _ mheld P.dT (.tail _ (.head _))
  have hi := K.hi
  have hlen := K.hlen
  have hne := K.hne
  have hne2 := K.hne2
  have hne3 := K.hne3
  clear N1 N2 mcell mheld F1 hin
  k_steps
  unfold Hold
  rename Fr _ _ _ _ => F1
  rename News _ _ _ _ => N1
  rename IsRange _ _ _ _ _ _ _ _ => hR
  refine LCg.CompSrc.range rfl F1 N1 hR (small_of (by omega) (by omega)) (size_of (by omega)) (by rw [sizeLine_eq]; omega) ?_
  intro g9
  refine my_comp (fun i ys nx => ∃ a8 b8 ta8 tb8 n8, nx = (P.pl, poolO a8 b8 ta8 tb8 P.c n8) :: (P.dT, typesO w9 P.kt d.cnt d.tv P.kn P.bo P.ch P.bt P.it P.ms P.ni P.no) :: (s9.heap.objs.size + 1 + 1, w8) :: led2 ∧ (0 ≤ a8 ∧ 0 ≤ b8 ∧ b8 ≤ 1001 + (i : Int)) ∧ ys.length = i ∧ ∃ row, IntsAre ys row ∧ Letters row)
    ⟨_, _, _, _, _, rfl, by omega, rfl, [], .nil, fun _ h => nomatch h⟩ ?_ ?_
  · rintro i v I oI C oC D m₂ ys nx h tk E' hi7 hP ⟨a8, b8, ta8, tb8, n8, rfl, hab8, hyl, row, hrow, hok⟩ hC hx F N off ne
    have hi8 : i < 4 := by clear ne; omega
    simp only [LCg.Off3, and_true] at off
    have z1 := off.1.1; have z2 := off.1.2.1; have z3 := off.1.2.2; have z4 := off.2.1.1; have z5 := off.2.1.2.1; have z6 := off.2.1.2.2; have z7 := off.2.2.1.1; have z8 := off.2.2.1.2.1; have z9 := off.2.2.1.2.2
    k_steps
    unfold Hold
    rename Fr _ _ _ _ => F9
    rename News _ _ _ _ => N9
    refine LCg.CompEnd.intro F9 N9 _ (fun p hp => hp) off trivial ⟨_, _, _, _, _, rfl, ?_, ?_, _, IntsAre.append hrow (.cons _ _ .nil), hok.snoc (by assumption)⟩
    · exact ab_up (by assumption) (by omega)
    · rw [List.length_append, hyl]; rfl
  · rintro ys nx ⟨a8, b8, ta8, tb8, n8, rfl, hab8, hyl, row, hrow, hok⟩
    have hrl := hrow.length
    have hrl2 : row.length ≤ 3 := by omega
    unfold LCg.FinA
    intro D h tk F N off1
    simp only [LCg.Off1, and_true] at off1
    have z1 := off1.1; have z2 := off1.2.1; have z3 := off1.2.2.1
    clear N1 F1 N3 F2
    k_steps
    unfold Hold
    rename Fr _ _ _ _ => F1
    rename News _ _ _ _ => N1
    refine LCg.CompSrc.ledger (its := ys.toArray) (k := ys.length) rfl F1 N1 (by k_mem) (by rw [sizeLine_eq, List.size_toArray]; omega) ?_
    intro g7
    refine my_compC (fun i zs => StrsAre zs ((row.take i).map chrS)) .nil ?_ ?_
    · intro i v I oI C oC D2 m₂ zs h7 tk7 E' hi7 hP hz hC7 hx F N off ne
      obtain ⟨t7, rfl, hx7, e7⟩ := item_at hP hrow
      have hc7 := hok.chars _ hx7
      simp only [LCg.Off3, and_true] at off
      k_steps
      unfold Hold
      rename Fr _ _ _ _ => F9
      rename News _ _ _ _ => N9
      exact LCg.CompEnd.intro F9 N9 _ (fun p hp => hp) off (.inr ⟨_, by k_mem, rfl, _, rfl⟩) ⟨rfl, strs_step hz e7⟩
    · intro zs hz
      rw [take_whole hrow] at hz
      unfold LCg.FinE
      intro D3 h8 tk8 F N off3
      simp only [LCg.Off1, and_true] at off3
      have z4 := off3.1; have z5 := off3.2.1; have z6 := off3.2.2.1; have z7 := off3.2.2.2.1
      clear N1 F1
      k_steps
      unfold Hold
      rename Fr _ _ _ _ => F1
      rename News _ _ _ _ => N1
      rename IsRange _ _ _ _ _ _ _ _ => hR1
      refine' ninety_loop rfl hR1 F1 N1 (.head _) ?hd ?hf rfl rfl ?_ ?_
      (case hd => assumption)
      (case hf => assumption)
      · intro o5 i5 t5 u5 h5 tk5 rest5 hi5 hJ5 hoff5 hin5 F5 N5
        have r1 := hin5 _ (.tail _ (.head _)) (by k_ne)
        have r2 := hin5 _ (.tail _ (.tail _ (.head _))) (by k_ne)
        have r3 := hin5 (s9.heap.objs.size + 1 + 1, _) (by k_mem) (by k_ne)
        obtain ⟨kvs5, D5, hd5, hf5, hl5, hc5⟩ := hJ5
        clear hin5
        dsimp only [kstB] at F5
        k_steps
        rename Fr _ _ _ _ => F9
        rename News _ _ _ _ => N9
        exact ⟨_, _, _, _, rfl, F9, N9, List.forall_mem_cons.mpr ⟨rfl, List.forall_mem_cons.mpr ⟨rfl, List.forall_mem_nil _⟩⟩, CellsUp.add (by assumption) (by assumption) hl5 hc5 fun j hj => by split <;> rfl⟩
      · intro o5 u5 h5 tk5 rest5 hJ5 hoff5 hin5 F5 N5
        have r1 := hin5 _ (.tail _ (.head _)) (by k_ne)
        have r2 := hin5 _ (.tail _ (.tail _ (.head _))) (by k_ne)
        have r3 := hin5 (s9.heap.objs.size + 1 + 1, _) (by k_mem) (by k_ne)
        have r4 := hin5 (D, LCg.lst ys) (by k_mem) (by k_ne)
        clear hin5
        dsimp only [kstB] at F5
        k_steps
        unfold Hold
        rename Fr _ _ _ _ => F1
        rename News _ _ _ _ => N1
        rename IsRange _ _ _ _ _ _ _ _ => hR7
        refine LCg.CompSrc.range (n := 6) rfl F1 N1 hR7 (small_of (by omega) (by omega)) (size_of (by omega)) (by rw [sizeLine_eq]; omega) ?_
        intro g6
        refine my_compC (fun i zs => IntsAre zs ((List.range i).map (filled row six))) .nil ?_ ?_
        · rintro i7 v7 I oI C oC D4 m₂ zs7 h7 tk7 E' hi7 ⟨t7, rfl⟩ hz7 hC7 hx F N off ne
          rw [Int.zero_add] at hx
          simp only [LCg.Off3, and_true] at off
          k_steps
          unfold Hold
          rename Fr _ _ _ _ => F9
          rename News _ _ _ _ => N9
          refine LCg.CompEnd.intro F9 N9 _ (fun p hp => hp) off trivial ⟨rfl, ?_⟩
          rw [List.range_succ, List.map_append]
          exact IntsAre.append hz7 (.cons _ _ .nil)
        · intro zs7 hz7
          unfold LCg.FinE
          intro D4 h9 tk9 F N off4
          simp only [LCg.Off1, and_true] at off4
          clear N1 F1
          have mk7 := been 7
          k_steps
          unfold Hold
          clear mk7
          k_dflt (refine' eq_x ?k1 ?k2 ?k3 ?k4 ?k5 ?k6 ?_; (case k1 => k_asm); (case k2 => k_mem); (case k3 => k_mem); (case k4 => first | assumption | exact .cons _ _ .nil); (case k5 => first | assumption | exact .cons _ _ .nil); (case k6 => ke_room))
          intro x9 hx9
          rw [filled_end (by omega)] at hx9
          subst hx9
          k_steps
-- S2
set_option maxHeartbeats 4000000 in
noncomputable def st2 : PSigma fun A : Prop => PSigma fun B : Prop => PSigma fun C : Prop => (Wrap A → Wrap B → Wrap C → st1.2.1) := by
  refine' PSigma.mk _ (PSigma.mk _ (PSigma.mk _ ?F))
  case F =>
  intro h1 h2 h3
  w_top off
  conv => whnf
  k_fill
  intro y1 y2 y3 y4 y5 y6 y7 y8 y9 y10 y11 y12 y13 y14 y15 y16 y17 y18 y19 y20 y21 y22 y23 y24 y25 y26 y27 y28 y29 y30 y31 y32 y33 y34 y35 y36 y37 y38 y39 y40 y41 y42 y43 y44 y45 y46 y47 y48 y49 y50 y51 y52 y53 y54 y55 y56 y57 y58 y59 y60 y61 y62 y63 y64 y65 y66 y67 y68 y69 y70 y71 y72 y73 y74 y75 y76 y77 y78 y79 y80 y81 y82 y83 y84 y85 y86 y87 y88 y89 y90 y91 y92 y93 y94 y95 y96 y97 y98 y99 y100 y101 y102 y103 y104 y105 y106 y107 y108 y109 y110 y111 y112 y113 y114 y115 y116 y117 y118 y119 y120 y121 y122 y123 y124 y125 y126 y127 y128 y129 y130 y131 y132 tk y133 y134 y135 y136 y137 y138 y139 y140 y141 y142 y143 qk ek y144 y145 y146 y147 y148 hR1 y149 P led N2 K hcell2 mcell mheld y150 y151 y152 hcell y153 y154 y155 hof y156 y157 y158 y159 y160 y161 y162 y163 y164 y165 y166 y167 y168 F1 y169 y170 y171 N1
  intro d i t u h tk rest' hi7 hJ hoff hsub F2 N2
  have hi8 : i < 7 := by omega
  obtain ⟨hJ1, hJ2, hJ3⟩ := hJ
  repeat (rename _ ∧ _ => z9; clear z9)
  have K2 := K.mono hsub hoff
  have q1 := hsub _ mcell
  have q2 := K2.m1
  have q3 := K2.m2
  have q4 := K2.m3
  have hi := K2.hi
  have hlen := K2.hlen
  have hne := K2.hne
  have hne2 := K2.hne2
  have hne3 := K2.hne3
  clear K N1 mcell mheld F1
  dsimp only [kstB, plO, tyO, List.cons_append, List.nil_append] at F2 N2
  k_steps
  · rename_i yy1 yy2 yy3 yy4 yy5 yy6 yy7 yy8 yy9 yy10 yy11 yy12 yy13 yy14 yy15 yy16 yy17 yy18 yy19 yy20 yy21 yy22 yy23 yy24 yy25 yy26 yy27 yy28 yy29 yy30 yy31 yy32 yy33 yy34 yy35 yy36 yy37 yy38 yy39 yy40 yy41 yy42
    revert y1 y2 y3 y4 y5 y6 y7 y8 y9 y10 y11 y12 y13 y14 y15 y16 y17 y18 y19 y20 y21 y22 y23 y24 y25 y26 y27 y28 y29 y30 y31 y32 y33 y34 y35 y36 y37 y38 y39 y40 y41 y42 y43 y44 y45 y46 y47 y48 y49 y50 y51 y52 y53 y54 y55 y56 y57 y58 y59 y62 y63 y64 y65 y68 y69 y70 y71 y72 y73 y76 y77 y78 y79 y80 y81 y82 y83 y84 y85 y86 y87 y88 y89 y90 y91 y92 y93 y94 y95 y96 y97 y98 y99 y100 y101 y102 y103 y104 y105 y106 y107 y108 y109 y110 y111 y112 y113 y114 y115 y116 y117 y118 y119 y120 y121 y122 y123 y124 y125 y126 y127 y128 y129 y130 y131 y132 yy1 y133 y134 y135 y136 y137 y138 y139 y140 y141 yy2 yy3 y144 y145 y146 y147 y148 hR1 y149 P led hcell2 y152 hcell y155 hof d i t u h yy4 rest' hi7 hoff hsub F2 N2 hi8 hJ1 hJ2 hJ3 K2 q1 q2 q3 q4 hi hlen hne hne2 hne3 yy5 yy6 yy7 yy8 yy9 yy10 yy11 yy12 yy13 yy14 yy15 yy16 yy17 yy18 yy19 yy20 yy21 yy22 yy23 yy24 yy25 yy26 yy27 yy28 yy29 yy30 yy31 yy32 yy33 yy34 yy35 qk ek yy36 yy37 yy38 yy39 yy40 yy41 yy42 tk
    exact h1.out
  · unfold Hold
    have mk1 := been 1
    rename (_ : Int) ≠ 2 => hk2
    rcases (show _ < (2 : Int) ∨ _ = (3 : Int) from kind_cut (by assumption) hk2) with hk3 | hk3
    · rename_i yy1 yy2 yy3 yy4 yy5 yy6 yy7 yy8 yy9 yy10 yy11 yy12 yy13 yy14 yy15 yy16 yy17 yy18 yy19 yy20 yy21 yy22 yy23 yy24 yy25 yy26 yy27 yy28 yy29 yy30 yy31 yy32 yy33 yy34 yy35 yy36 yy37 yy38 yy39 yy40 yy41
      revert y1 y2 y3 y4 y5 y6 y7 y8 y9 y10 y11 y12 y13 y14 y15 y16 y17 y18 y19 y20 y21 y22 y23 y24 y25 y26 y27 y28 y29 y30 y31 y32 y33 y34 y35 y36 y37 y38 y39 y40 y41 y42 y43 y44 y45 y46 y47 y48 y49 y50 y51 y52 y53 y54 y55 y56 y57 y58 y59 y62 y63 y64 y65 y68 y69 y70 y71 y72 y73 y76 y77 y78 y79 y80 y81 y82 y83 y84 y85 y86 y87 y88 y89 y90 y91 y92 y93 y94 y95 y96 y97 y98 y99 y100 y101 y102 y103 y104 y105 y106 y107 y108 y109 y110 y111 y112 y113 y114 y115 y116 y117 y118 y119 y120 y121 y122 y123 y124 y125 y126 y127 y128 y129 y130 y131 y132 yy1 y133 y134 y135 y136 y137 y138 y139 y140 y141 yy2 yy3 y144 y145 y146 y147 y148 hR1 y149 P led hcell2 y152 hcell y155 hof d i t u h yy4 rest' hi7 hoff hsub F2 N2 hi8 hJ1 hJ2 hJ3 K2 q1 q2 q3 q4 hi hlen hne hne2 hne3 yy5 yy6 yy7 yy8 yy9 yy10 yy11 yy12 yy13 yy14 yy15 yy16 yy17 yy18 yy19 yy20 yy21 yy22 yy23 hk2 yy24 yy25 yy26 yy27 yy28 yy29 yy30 yy31 yy32 yy33 yy34 qk ek yy35 yy36 yy37 yy38 yy39 yy40 yy41 tk mk1 hk3
      exact h2.out
    · rename_i yy1 yy2 yy3 yy4 yy5 yy6 yy7 yy8 yy9 yy10 yy11 yy12 yy13 yy14 yy15 yy16 yy17 yy18 yy19 yy20 yy21 yy22 yy23 yy24 yy25 yy26 yy27 yy28 yy29 yy30 yy31 yy32 yy33 yy34 yy35 yy36 yy37 yy38 yy39 yy40 yy41
      revert y1 y2 y3 y4 y5 y6 y7 y8 y9 y10 y11 y12 y13 y14 y15 y16 y17 y18 y19 y20 y21 y22 y23 y24 y25 y26 y27 y28 y29 y30 y31 y32 y33 y34 y35 y36 y37 y38 y39 y40 y41 y42 y43 y44 y45 y46 y47 y48 y49 y50 y51 y52 y53 y54 y55 y56 y57 y58 y59 y62 y63 y64 y65 y68 y69 y70 y71 y72 y73 y76 y77 y78 y79 y80 y81 y82 y83 y84 y85 y86 y87 y88 y89 y90 y91 y92 y93 y94 y95 y96 y97 y98 y99 y100 y101 y102 y103 y104 y105 y106 y107 y108 y109 y110 y111 y112 y113 y114 y115 y116 y117 y118 y119 y120 y121 y122 y123 y124 y125 y126 y127 y128 y129 y130 y131 y132 yy1 y133 y134 y135 y136 y137 y138 y139 y140 y141 yy2 yy3 y144 y145 y146 y147 y148 hR1 y149 P led hcell2 y152 hcell y155 hof d i t u h yy4 rest' hi7 hoff hsub F2 N2 hi8 hJ1 hJ2 hJ3 K2 q1 q2 q3 q4 hi hlen hne hne2 hne3 yy5 yy6 yy7 yy8 yy9 yy10 yy11 yy12 yy13 yy14 yy15 yy16 yy17 yy18 yy19 yy20 yy21 yy22 yy23 hk2 yy24 yy25 yy26 yy27 yy28 yy29 yy30 yy31 yy32 yy33 yy34 qk ek yy35 yy36 yy37 yy38 yy39 yy40 yy41 tk mk1 hk3
      exact h3.out
-- GA
set_option maxHeartbeats 4000000 in
theorem gA : st2.1 := by
  w_top off
  conv => whnf
  k_fill
  intro y1 y2 y3 y4 y5 y6 y7 y8 y9 y10 y11 y12 y13 y14 y15 y16 y17 y18 y19 y20 y21 y22 y23 y24 y25 y26 y27 y28 y29 y30 y31 y32 y33 y34 y35 y36 y37 y38 y39 y40 y41 y42 y43 y44 y45 y46 y47 y48 y49 y50 y51 y52 y53 y54 y55 y56 y57 y58 y59 y62 y63 y64 y65 y68 y69 y70 y71 y72 y73 y76 y77 y78 y79 y80 y81 y82 y83 y84 y85 y86 y87 y88 y89 y90 y91 y92 y93 y94 y95 y96 y97 y98 y99 y100 y101 y102 y103 y104 y105 y106 y107 y108 y109 y110 y111 y112 y113 y114 y115 y116 y117 y118 y119 y120 y121 y122 y123 y124 y125 y126 y127 y128 y129 y130 y131 y132 yy1 y133 y134 y135 y136 y137 y138 y139 y140 y141 yy2 yy3 y144 y145 y146 y147 y148 hR1 y149 P led hcell2 y152 hcell y155 hof d i t u h yy4 rest' hi7 hoff hsub F2 N2 hi8 hJ1 hJ2 hJ3 K2 q1 q2 q3 q4 hi hlen hne hne2 hne3 yy5 yy6 yy7 yy8 yy9 yy10 yy11 yy12 yy13 yy14 yy15 yy16 yy17 yy18 yy19 yy20 yy21 yy22 yy23 yy24 yy25 yy26 yy27 yy28 yy29 yy30 yy31 yy32 yy33 yy34 yy35 qk ek yy36 yy37 yy38 yy39 yy40 yy41 yy42 tk
  unfold Hold
  have mk1 := been 1
  rename (_ : Int) = 2 => hk2
  subst hk2
  rename (_ < (2 : Int) → _ ∨ _) => hop
  replace hop := hop (by omega)
  k_steps
  unfold Hold
  refine' CtrU.use (ref_u (fam_eq ?f) K2 ?ab ?hp ?hq ?hs) ?k1 ?k2 ?k3 ?k4 ?k5 ?kK ?kd ?ku ?_
  (case k1 => k_asm)
  (case k2 => k_asm)
  (case k3 => k_asm)
  (case k4 => k_asm)
  (case k5 => k_asm)
  (case f => assumption)
  (case hp => k_mem)
  (case hq => k_mem)
  (case ab => omega)
  (case hs => exact fun r hr => by k_mem)
  (case kK => first | exact rfl | assumption)
  (case kd => k_room)
  (case ku => k_units)
  intro h9 tk9 a1 b1 ta1 tb1 n1 cnt1 tv1 led1 tup1 v1 ty1 k1 t1 T1 hb1 hs1 K3 mt1 hk1 hv1 hT1 hr1 ht1 F9 N9
  have q5 := hs1 _ q1
  dsimp only [plO, tyO] at N9
  clear q1 q2 q3 q4 K2
  k_steps
  unfold Hold
  refine' CtrU.use (ref_u (fam_eq ?f) K3 ?ab ?hp ?hq ?hs) ?k1 ?k2 ?k3 ?k4 ?k5 ?kK ?kd ?ku ?_
  (case k1 => k_asm)
  (case k2 => k_asm)
  (case k3 => k_asm)
  (case k4 => k_asm)
  (case k5 => k_asm)
  (case f => assumption)
  (case hp => k_mem)
  (case hq => k_mem)
  (case ab => omega)
  (case hs => exact fun r hr => by k_mem)
  (case kK => first | exact rfl | assumption)
  (case kd => k_room)
  (case ku => k_units)
  intro h9 tk9 a2 b2 ta2 tb2 n2 cnt2 tv2 led2 tup2 v2 ty2 k2 t2 T2 hb2 hs2 K4 mt2 hk2 hv2 hT2 hr2 ht2 F9 N9
  have q6 := hs2 _ q5
  replace hv1 := hv1.mono hs2
  replace hT1 := hT1.mono hs2
  dsimp only [plO, tyO] at N9
  have hs3 : ∀ p ∈ rest', p ∈ led2 := fun p hp => hs2 _ (hs1 _ hp)
  clear q5 K3 mt1 hs1 hs2
  k_steps
  all_goals (
    rename Fr _ _ _ _ => F9
    rename News _ _ _ _ => N9
    refine ls_end F9 N9 (by k_mem) (by k_mem) (fun p hp => by have := hs3 p hp; k_mem) (List.forall_mem_cons.mpr ⟨rfl, List.forall_mem_cons.mpr ⟨rfl, List.forall_mem_nil _⟩⟩) (by omega))
-- GB
set_option maxHeartbeats 4000000 in
theorem gB : st2.2.1 := by
  w_top off
  conv => whnf
  k_fill
  intro y1 y2 y3 y4 y5 y6 y7 y8 y9 y10 y11 y12 y13 y14 y15 y16 y17 y18 y19 y20 y21 y22 y23 y24 y25 y26 y27 y28 y29 y30 y31 y32 y33 y34 y35 y36 y37 y38 y39 y40 y41 y42 y43 y44 y45 y46 y47 y48 y49 y50 y51 y52 y53 y54 y55 y56 y57 y58 y59 y62 y63 y64 y65 y68 y69 y70 y71 y72 y73 y76 y77 y78 y79 y80 y81 y82 y83 y84 y85 y86 y87 y88 y89 y90 y91 y92 y93 y94 y95 y96 y97 y98 y99 y100 y101 y102 y103 y104 y105 y106 y107 y108 y109 y110 y111 y112 y113 y114 y115 y116 y117 y118 y119 y120 y121 y122 y123 y124 y125 y126 y127 y128 y129 y130 y131 y132 yy1 y133 y134 y135 y136 y137 y138 y139 y140 y141 yy2 yy3 y144 y145 y146 y147 y148 hR1 y149 P led hcell2 y152 hcell y155 hof d i t u h yy4 rest' hi7 hoff hsub F2 N2 hi8 hJ1 hJ2 hJ3 K2 q1 q2 q3 q4 hi hlen hne hne2 hne3 yy5 yy6 yy7 yy8 yy9 yy10 yy11 yy12 yy13 yy14 yy15 yy16 yy17 yy18 yy19 yy20 yy21 yy22 yy23 hk2 yy24 yy25 yy26 yy27 yy28 yy29 yy30 yy31 yy32 yy33 yy34 qk ek yy35 yy36 yy37 yy38 yy39 yy40 yy41 tk mk1 hk3
  k_steps
  unfold Hold
  refine' CtrU.use (text_u K2 ?ab ?hp ?hq ?hs) ?k1 ?k2 ?k3 ?k4 ?k5 ?kK ?kd ?ku ?_
  (case k1 => k_asm)
  (case k2 => k_asm)
  (case k3 => k_asm)
  (case k4 => k_asm)
  (case k5 => k_asm)
  (case hp => k_mem)
  (case hq => k_mem)
  (case ab => omega)
  (case hs => exact fun r hr => by k_mem)
  (case kK => first | exact rfl | assumption)
  (case kd => k_room)
  (case ku => k_units)
  intro h9 tk9 a1 b1 ta1 tb1 n1 cnt1 tv1 led1 tup1 la1 v1 ty1 xs1 vs1 m1n k1 hb1 hs1 K3 mt1 hv1 ml1 hi1 hch1 hl1 hT1 hn1 hr1 F9 N9
  have q5 := hs1 _ q1
  dsimp only [plO, tyO] at N9
  clear q1 q2 q3 q4 K2
  k_steps
  unfold Hold
  refine' CtrU.use (text_u K3 ?ab ?hp ?hq ?hs) ?k1 ?k2 ?k3 ?k4 ?k5 ?kK ?kd ?ku ?_
  (case k1 => k_asm)
  (case k2 => k_asm)
  (case k3 => k_asm)
  (case k4 => k_asm)
  (case k5 => k_asm)
  (case hp => k_mem)
  (case hq => k_mem)
  (case ab => omega)
  (case hs => exact fun r hr => by k_mem)
  (case kK => first | exact rfl | assumption)
  (case kd => k_room)
  (case ku => k_units)
  intro h9 tk9 a2 b2 ta2 tb2 n2 cnt2 tv2 led2 tup2 la2 v2 ty2 xs2 vs2 m2n k2 hb2 hs2 K4 mt2 hv2 ml2 hi2 hch2 hl2 hT2 hn2 hr2 F9 N9
  have q6 := hs2 _ q5
  replace hv1 := hv1.mono hs2
  replace hT1 := hT1.mono hs2
  replace ml1 := hs2 _ ml1
  have hs3 : ∀ p ∈ rest', p ∈ led2 := fun p hp => hs2 _ (hs1 _ hp)
  dsimp only [plO, tyO] at N9
  clear q5 K3 mt1 hs1 hs2
  k_steps
  unfold Hold
  rename Fr _ _ _ _ => F9
  rename News _ _ _ _ => N9
  refine mid_cut F9 K4 rest' (LS.b d + 90) [] rfl hv2 rfl hT2 ?_ ?_
  · have mk5 := been 5
    obtain ⟨tL, dL, ktL, vtL, numL, sizeL, baseL, lenL, fL, pL, hL9, rfl, mL1, mL2⟩ := form_of hT1
    obtain ⟨tR, dR, ktR, vtR, numR, sizeR, baseR, lenR, fR, pR, hR9, rfl, mR1, mR2⟩ := form_of hT2
    have m3 := K4.m1
    have m4 := K4.m2
    have hi := K4.hi
    have hoff4 := K4.hoff
    k_steps
    all_goals (
      rename Fr _ _ _ _ => F9
      rename News _ _ _ _ => N9)
    · exact mid_endA F9 N9 (by k_mem) (by k_mem) (fun r hr => by k_mem) hs3 K4 (List.forall_mem_cons.mpr ⟨rfl, List.forall_mem_cons.mpr ⟨rfl, List.forall_mem_cons.mpr ⟨rfl, List.forall_mem_cons.mpr ⟨rfl, List.forall_mem_cons.mpr ⟨rfl, List.forall_mem_cons.mpr ⟨rfl, List.forall_mem_cons.mpr ⟨rfl, List.forall_mem_cons.mpr ⟨rfl, List.forall_mem_cons.mpr ⟨rfl, List.forall_mem_nil _⟩⟩⟩⟩⟩⟩⟩⟩⟩) (by omega) (by k_mem) (by k_ne) (by k_ne) hv2 ml2 hi2 hT2
        (fun led hsub hin => .plain .str (by decide) _ _ _ _ _ _ _ _ _ _ _ (hin _ (by k_mem) (by k_ne) (by k_ne)) (hin _ (by k_mem) (by k_ne) (by k_ne)))
    · refine mid_end F9 N9 (by k_mem) (by k_mem) (fun r hr => by k_mem) hs3 K4 (List.forall_mem_cons.mpr ⟨rfl, List.forall_mem_cons.mpr ⟨rfl, List.forall_mem_cons.mpr ⟨rfl, List.forall_mem_cons.mpr ⟨rfl, List.forall_mem_cons.mpr ⟨rfl, List.forall_mem_cons.mpr ⟨rfl, List.forall_mem_cons.mpr ⟨rfl, List.forall_mem_cons.mpr ⟨rfl, List.forall_mem_cons.mpr ⟨rfl, List.forall_mem_nil _⟩⟩⟩⟩⟩⟩⟩⟩⟩) (by omega) hch1 hl1 hi1 hn1 hr1 (.inr (isT_of hn2 hr2 (by assumption))) hv2 ml2 hi2 hT2 (fun led hsub hin => ⟨hv1.mono hsub, hsub _ ml1, hT1.mono hsub⟩)
    · refine mid_end F9 N9 (by k_mem) (by k_mem) (fun r hr => by k_mem) hs3 K4 (List.forall_mem_cons.mpr ⟨rfl, List.forall_mem_cons.mpr ⟨rfl, List.forall_mem_cons.mpr ⟨rfl, List.forall_mem_cons.mpr ⟨rfl, List.forall_mem_cons.mpr ⟨rfl, List.forall_mem_cons.mpr ⟨rfl, List.forall_mem_cons.mpr ⟨rfl, List.forall_mem_cons.mpr ⟨rfl, List.forall_mem_cons.mpr ⟨rfl, List.forall_mem_nil _⟩⟩⟩⟩⟩⟩⟩⟩⟩) (by omega) hch1 hl1 hi1 hn1 hr1 (.inl (isT_of hn1 hr1 (by assumption))) hv2 ml2 hi2 hT2 (fun led hsub hin => ⟨hv1.mono hsub, hsub _ ml1, hT1.mono hsub⟩)
  · rintro s' ⟨h3, tk3, u3, a3, b3, ta3, tb3, n3, cnt3, tv3, led3, v3, xs3, la3, vs3, n3', ty3, k3, vs4, n4, rfl, F8, N8, hb3, hs4, K5, hv3, ml3, hi3, hch3, hl3, hT3, hn3, hr3, ht3, hv4, ml4, hi4, hT4⟩
    dsimp only [plO, tyO, List.nil_append, kstB] at F8 N8
    clear K4 hv1 hv2 hT1 hT2 ml1 ml2 hs3 q6 F9 N9
    k_steps
    unfold Hold
    rename Fr _ _ _ _ => F9
    rename News _ _ _ _ => N9
    refine mid_cut2 F9 K5 rest' (LS.b d + 90) rfl rfl hv4 rfl hT4 ?_ ?_
    · have mk5 := been 5
      have hoff5 := K5.hoff
      have hv5 := hv3
      cases hv3
      · -- BEGIN BS
        k_steps
        rename Fr _ _ _ _ => F9
        rename News _ _ _ _ => N9
        exact mid_end F9 N9 (by k_mem) (by k_mem) (fun r hr => by k_mem) hs4 K5 (List.forall_mem_cons.mpr ⟨rfl, List.forall_mem_cons.mpr ⟨rfl, List.forall_mem_cons.mpr ⟨rfl, List.forall_mem_cons.mpr ⟨rfl, List.forall_mem_cons.mpr ⟨rfl, List.forall_mem_cons.mpr ⟨rfl, List.forall_mem_cons.mpr ⟨rfl, List.forall_mem_cons.mpr ⟨rfl, List.forall_mem_cons.mpr ⟨rfl, List.forall_mem_cons.mpr ⟨rfl, List.forall_mem_nil _⟩⟩⟩⟩⟩⟩⟩⟩⟩⟩) (by omega) hch3 hl3 hi3 hn3 hr3 ht3 hv4 ml4 hi4 hT4 (fun led hsub hin => ⟨hv5.mono hsub, hsub _ ml3, hT3.mono hsub⟩)
      · -- BEGIN BC
        k_steps
        rename Fr _ _ _ _ => F9
        rename News _ _ _ _ => N9
        exact mid_end F9 N9 (by k_mem) (by k_mem) (fun r hr => by k_mem) hs4 K5 (List.forall_mem_cons.mpr ⟨rfl, List.forall_mem_cons.mpr ⟨rfl, List.forall_mem_cons.mpr ⟨rfl, List.forall_mem_cons.mpr ⟨rfl, List.forall_mem_cons.mpr ⟨rfl, List.forall_mem_cons.mpr ⟨rfl, List.forall_mem_cons.mpr ⟨rfl, List.forall_mem_cons.mpr ⟨rfl, List.forall_mem_cons.mpr ⟨rfl, List.forall_mem_cons.mpr ⟨rfl, List.forall_mem_nil _⟩⟩⟩⟩⟩⟩⟩⟩⟩⟩) (by omega) hch3 hl3 hi3 hn3 hr3 ht3 hv4 ml4 hi4 hT4 (fun led hsub hin => ⟨hv5.mono hsub, hsub _ ml3, hT3.mono hsub⟩)
      · -- BEGIN BA
        k_steps
        unfold Hold
        rename Fr _ _ _ _ => F1
        rename News _ _ _ _ => N1
        refine LCg.CompSrc.ledger (its := vs3.toArray) (k := n3') rfl F1 N1 (by k_mem) (by rw [sizeLine_eq, List.size_toArray, hi3.length]; omega) ?_
        intro g7
        refine my_compS hi3 ?_ ?_
        · intro i v I oI C oC D2 m₂ zs h7 tk7 E' hi7 hP hz hC7 hx F N off ne
          obtain ⟨t7, rfl, hx7, e7⟩ := item_at hP hi3
          have hc7 := hch3 _ hx7
          simp only [LCg.Off3, and_true] at off
          k_steps
          unfold Hold
          rename Fr _ _ _ _ => F9
          rename News _ _ _ _ => N9
          exact LCg.CompEnd.intro F9 N9 _ (fun p hp => hp) off (.inr ⟨_, by k_mem, rfl, _, rfl⟩) ⟨rfl, strs_step hz e7⟩
        · intro zs hz
          rw [take_whole hi3] at hz
          unfold LCg.FinE
          intro D3 h8 tk8 F N off3
          simp only [LCg.Off1, and_true] at off3
          k_steps
          all_goals first
            | exact absurd (show (_ != _) = true by assumption) (by rw [bne_self_eq_false]; decide)
            | (rename Fr _ _ _ _ => F9
               rename News _ _ _ _ => N9
               exact mid_end F9 N9 (by k_mem) (by k_mem) (fun r hr => by k_mem) hs4 K5 (List.forall_mem_cons.mpr ⟨rfl, List.forall_mem_cons.mpr ⟨rfl, List.forall_mem_cons.mpr ⟨rfl, List.forall_mem_cons.mpr ⟨rfl, List.forall_mem_cons.mpr ⟨rfl, List.forall_mem_cons.mpr ⟨rfl, List.forall_mem_cons.mpr ⟨rfl, List.forall_mem_cons.mpr ⟨rfl, List.forall_mem_cons.mpr ⟨rfl, List.forall_mem_cons.mpr ⟨rfl, List.forall_mem_nil _⟩⟩⟩⟩⟩⟩⟩⟩⟩⟩) (by omega) hch3 hl3 hi3 hn3 hr3 ht3 hv4 ml4 hi4 hT4 (fun led hsub hin => ⟨hv5.mono hsub, hsub _ ml3, hT3.mono hsub⟩))
    · rintro s' ⟨h6, tk6, u6, a6, b6, ta6, tb6, n6, cnt6, tv6, led6, v6, xs6, la6, vs6, n6', ty6, k6, vs7, n7, rfl, F8, N8, hb6, hs6, K6, hv6, ml6, hi6, hch6, hl6, hT6, hn6, hr6, ht6, hv7, ml7, hi7', hT7⟩
      dsimp only [plO, tyO, List.cons_append, List.nil_append, kstB] at F8 N8
      clear K5 hv3 hv4 hT3 hT4 ml3 ml4 hs4 F9 N9
      k_steps
      all_goals (
        rename Fr _ _ _ _ => F9
        rename News _ _ _ _ => N9
        refine ls_end F9 N9 (by k_mem) (by k_mem) (fun p hp => by have := hs6 p hp; k_mem) (List.forall_mem_cons.mpr ⟨rfl, List.forall_mem_cons.mpr ⟨rfl, List.forall_mem_nil _⟩⟩) (by omega))
-- GC
set_option maxHeartbeats 4000000 in
theorem gC : st2.2.2.1 := by
  w_top off
  conv => whnf
  k_fill
  intro y1 y2 y3 y4 y5 y6 y7 y8 y9 y10 y11 y12 y13 y14 y15 y16 y17 y18 y19 y20 y21 y22 y23 y24 y25 y26 y27 y28 y29 y30 y31 y32 y33 y34 y35 y36 y37 y38 y39 y40 y41 y42 y43 y44 y45 y46 y47 y48 y49 y50 y51 y52 y53 y54 y55 y56 y57 y58 y59 y62 y63 y64 y65 y68 y69 y70 y71 y72 y73 y76 y77 y78 y79 y80 y81 y82 y83 y84 y85 y86 y87 y88 y89 y90 y91 y92 y93 y94 y95 y96 y97 y98 y99 y100 y101 y102 y103 y104 y105 y106 y107 y108 y109 y110 y111 y112 y113 y114 y115 y116 y117 y118 y119 y120 y121 y122 y123 y124 y125 y126 y127 y128 y129 y130 y131 y132 yy1 y133 y134 y135 y136 y137 y138 y139 y140 y141 yy2 yy3 y144 y145 y146 y147 y148 hR1 y149 P led hcell2 y152 hcell y155 hof d i t u h yy4 rest' hi7 hoff hsub F2 N2 hi8 hJ1 hJ2 hJ3 K2 q1 q2 q3 q4 hi hlen hne hne2 hne3 yy5 yy6 yy7 yy8 yy9 yy10 yy11 yy12 yy13 yy14 yy15 yy16 yy17 yy18 yy19 yy20 yy21 yy22 yy23 hk2 yy24 yy25 yy26 yy27 yy28 yy29 yy30 yy31 yy32 yy33 yy34 qk ek yy35 yy36 yy37 yy38 yy39 yy40 yy41 tk mk1 hk3
  subst hk3
  clear hk2
  k_steps
  unfold Hold
  rename Fr _ _ _ _ => F9
  rename News _ _ _ _ => N9
  refine item_num K2 N9 (List.Mem.head _) (by assumption) ?_ (by with_unfolding_all rfl)
  rintro _ ⟨K, tI, dI, ktI, vtI, numI, sizeI, baseI, lenI, fI, pI, hI, rfl, hNK, mI1, mI2, hTK⟩
  have hs3 : ∀ p ∈ rest', p ∈ rest' := fun p hp => hp
  k_steps
  all_goals (
    rename Fr _ _ _ _ => F9
    rename News _ _ _ _ => N9
    refine ls_end F9 N9 (by k_mem) (by k_mem) (fun p hp => by have := hs3 p hp; k_mem) (List.forall_mem_cons.mpr ⟨rfl, List.forall_mem_cons.mpr ⟨rfl, List.forall_mem_nil _⟩⟩) (by omega))
end Mine
theorem PySem.Challenge.cw_nu0318_01_holds : PySem.Challenge.rw_nu0318_01.Holds :=
  Mine.st1.2.2 ⟨Mine.gD⟩ ⟨Mine.st2.2.2.2 ⟨Mine.gA⟩ ⟨Mine.gB⟩ ⟨Mine.gC⟩⟩
