import PyProof.Rows.All
import Wide.All
import OpenK.AllK
import Wide.FinOn
import Lean
import PySem.Challenge.RW_pf0033_01
open PySem PySem.W PyProof.Rows
set_option Elab.async false
local macro_rules | `(tactic| walk_at $s:str) => `(tactic| k_extra $s)
local macro_rules | `(tactic| k_all) => `(tactic| assumption)
namespace Mine
/-- the program with the statements of its top that the head keeps -/
def vw : Program := { PySem.Challenge.pw_pf0033_01 with main := { PySem.Challenge.pw_pf0033_01.main with body := match PySem.Challenge.pw_pf0033_01.main.body with
  | [_, a1, a2, a3, a4, a5, a6, a7, a8, _, a10, a11, _, a13, _, a15, a16, a17, a18, a19, _, a21, a22, a23, a24, a25, a26] => [a1, a2, a3, a4, a5, a6, a7, a8, a10, a11, a13, a15, a16, a17, a18, a19, a21, a22, a23, a24, a25, a26]
  | b => b } }
/-- a top without imports, behind the start-up that the library has run: the top's own run, and the looks behind it, are asked -/
theorem left_top {p q : Program} {loose : List Str} {Xt : Shared → Bool} {α : Type} {Yf : Shared → α} {Ya : World → α} {N : Nat} {g0 : Bool}
    (b : ∀ w : World, (fencedOpening treeTable p w N).map (fun s => (s.heap, s.gens, s.drawn, s.toks)) = some (boot_heap w.params, Array.mk [], boot_drawn, boot_toks))
    (z : ∀ w : World, (boot_heap w.params).isNs mainGlobals = true)
    (h : ∀ (w : World) (os : OsState), (topRun treeTable p w (boot_heap w.params).objs.size ((boot_heap w.params).nsMap mainGlobals "__annotations__") N ⟨boot_heap w.params, Array.mk [], boot_drawn, boot_toks, os⟩ (topStub p)).map (fun s =>
      (staticsOk (importedModules p.main.body) (boot_heap w.params) s.heap && namesBound p s.heap && gensDone s && laidKept (boot_heap w.params) s.heap, openSeen q loose (importedModules p.main.body) Xt g0 s, Yf s)) = some (true, openGood q loose, Ya w)) : LeftO p q loose Xt Yf Ya N g0 := fun w => by
  have q := b w
  show ((fencedOpening treeTable p w N).bind (topFrom treeTable p w N)).map _ = _
  cases hf : fencedOpening treeTable p w N with
  | none => rw [hf] at q; exact nomatch q
  | some s₀ =>
    rw [hf] at q
    obtain ⟨x, gs, d, k, os⟩ := s₀
    simp only [Option.map_some, Option.some.injEq, Prod.mk.injEq] at q
    obtain ⟨rfl, rfl, rfl, rfl⟩ := q
    have r := h w os
    show (topFrom treeTable p w N ⟨boot_heap w.params, Array.mk [], boot_drawn, boot_toks, os⟩).map _ = _
    unfold topFrom
    simp only [z w, List.size_toArray, List.length_nil, BEq.rfl, Bool.and_self]
    cases hr : topRun treeTable p w (boot_heap w.params).objs.size ((boot_heap w.params).nsMap mainGlobals "__annotations__") N ⟨boot_heap w.params, Array.mk [], boot_drawn, boot_toks, os⟩ (topStub p) with
    | none => rw [hr] at r; exact nomatch r
    | some s =>
      rw [hr] at r
      simp only [Option.map_some, Option.some.injEq, Prod.mk.injEq] at r
      simp only [Option.bind_some, r.1, Option.map_some, r.2.1, r.2.2]
local macro_rules | `(tactic| o_head $H) => `(tactic| (refine PySem.W.holds_open (r := PySem.Challenge.rw_pf0033_01.row) (q := vw) (loose := []) (Xt := fun s => xlAt vw [] s && recOk (RowW.records (OpenRow.toRowW PySem.Challenge.rw_pf0033_01.row)) s) (XP := XL vw []) (Yf := Hook.obs $H) (Ya := Hook.val $H) (YP := Hook.says $H) (N := 1958) ?hl (Hook.of $H) (Hook.keeps $H) (fun s e => xl_of s (Bool.and_eq_true_iff.mp e).1) XL.keeps (by rfl) (by rfl) (by rfl) (fun s e => recFacts_of (Bool.and_eq_true_iff.mp e).2) (by rfl) (by first | assumption | decide +kernel) (by decide +kernel) ⟨rfl, rfl, rfl, rfl, rfl, by decide +kernel⟩ ?hw ?hc; (case hl => exact left_top (boot_open (by kernel_rfl) (by decide) (fun s => by kernel_rfl)) (fun w => by kernel_rfl) (fun w os => by (show (topRun treeTable PySem.Challenge.pw_pf0033_01 w _ _ _ _ (topStub PySem.Challenge.pw_pf0033_01)).map (fun s => (staticsOk (importedModules PySem.Challenge.pw_pf0033_01.main.body) _ s.heap && namesBound PySem.Challenge.pw_pf0033_01 s.heap && gensDone s && laidKept _ s.heap, openSeen vw [] (importedModules PySem.Challenge.pw_pf0033_01.main.body) _ _ s, _)) = some (true, openGood vw [], _)); rw [PySem.W.Fast.te14082659384304107361, PySem.W.Fast.te14364793385576792824, PySem.W.Fast.te4187177175401517315, PySem.W.Fast.te5923862056798008813]; kernel_rfl))))
set_option maxRecDepth 100000 in
set_option maxHeartbeats 8000000 in
open_top hd for PySem.Challenge.rw_pf0033_01

abbrev Led := List (Addr × Obj)
abbrev Rt := Value → Led → Prop
/-- what a call of the def at f promises: over any ledger, for these arguments -/
def Con (w : World) (f : Addr) (d : Nat) (news : Led) (vs : List Value) (Out : Rt) : Prop :=
  ∀ (mean : ExcName → Option Value) (mg mb : Str → Option Value) (dp un : Nat) (gd : Option (List Code)) (cn : Str) (cs : Scope) (a : Addr) (ccd : Value) (cl : List (Str × Addr)) (outer : List Env) (A₀ : Around) (base h₀ : Heap) (L : Addr) (m : Str → Option Value) (s : Shared) (Q E : Value → Shared → Prop),
    Below A₀ base outer h₀ → Fr h₀ L s.heap m → (hd.heap_39 w.params).In h₀ → News h₀ L s.heap news → Top vw (looseW vw []) mean mg mb h₀ → cs.kind = .function → dp + d < recursionLimit → un + 8 * d < cLine →
    (∀ r out h' tk', Fr h₀ L h' m → News h₀ L h' (out ++ news) → (∀ p ∈ news, ∀ q ∈ out, p.1 < q.1) → Out r out → Q r { s with heap := h', toks := tk' }) →
    wpAny (model PySem.Challenge.rw_pf0033_01.row.prog w) (ktrTop dp un gd cn cs L a ccd cl outer) (call (.ref f) vs) Q E s

/-- an int comes back -/
def OInt (x : Int) : Rt := fun r out => ∃ t, r = .int x t ∧ out = []
def OBool (x : Bool) : Rt := fun r out => r = .bool x ∧ out = []
def ONone : Rt := fun r out => r = .none ∧ out = []
abbrev tup2 (x : Int) (t : Tok) (y : Int) (u : Tok) : Obj := { cls := .type "tuple", data := .seq #[.int x t, .int y u] }
abbrev tup3 (x : Int) (t : Tok) (y : Int) (u : Tok) (z : Int) (v : Tok) : Obj := { cls := .type "tuple", data := .seq #[.int x t, .int y u, .int z v] }
def OTup2 (x y : Int) : Rt := fun r out => ∃ a t u, r = .ref a ∧ out = [(a, { cls := .type "tuple", data := .seq #[.int x t, .int y u] })]
def OTup3 (x y z : Int) : Rt := fun r out => ∃ a t u v, r = .ref a ∧ out = [(a, { cls := .type "tuple", data := .seq #[.int x t, .int y u, .int z v] })]

abbrev Ret (h₀ : Heap) (L : Addr) (m : Str → Option Value) (s : Shared) (news : Led) (Out : Rt) (Q : Value → Shared → Prop) : Prop :=
  ∀ r out h' tk', Fr h₀ L h' m → News h₀ L h' (out ++ news) → (∀ p ∈ news, ∀ q ∈ out, p.1 < q.1) → Out r out → Q r { s with heap := h', toks := tk' }

section
variable {h₀ h' : Heap} {L : Addr} {m : Str → Option Value} {s : Shared} {news led : Led} {Q : Value → Shared → Prop} {tk' : Nat}
theorem end_int {Out : Rt} {y : Int} {t : Tok} (hret : Ret h₀ L m s news Out Q) (e : Out (.int y t) []) (F : Fr h₀ L h' m) (N : News h₀ L h' led) (hs : ∀ p ∈ news, p ∈ led) : Q (.int y t) { s with heap := h', toks := tk' } :=
  hret _ [] h' tk' F (fun p hp => N p (hs p hp)) (fun _ _ _ h => nomatch h) e
theorem end_bool {Out : Rt} {y : Bool} (hret : Ret h₀ L m s news Out Q) (e : Out (.bool y) []) (F : Fr h₀ L h' m) (N : News h₀ L h' led) (hs : ∀ p ∈ news, p ∈ led) : Q (.bool y) { s with heap := h', toks := tk' } :=
  hret _ [] h' tk' F (fun p hp => N p (hs p hp)) (fun _ _ _ h => nomatch h) e
theorem end_none {Out : Rt} (hret : Ret h₀ L m s news Out Q) (e : Out .none []) (F : Fr h₀ L h' m) (N : News h₀ L h' led) (hs : ∀ p ∈ news, p ∈ led) : Q .none { s with heap := h', toks := tk' } :=
  hret _ [] h' tk' F (fun p hp => N p (hs p hp)) (fun _ _ _ h => nomatch h) e
theorem end_ref {Out : Rt} {a : Addr} {o : Obj} (hret : Ret h₀ L m s news Out Q) (e : Out (.ref a) [(a, o)]) (F : Fr h₀ L h' m) (N : News h₀ L h' led) (ha : (a, o) ∈ led) (hs : ∀ p ∈ news, p ∈ led) (hl : ∀ p ∈ news, p.1 < a) : Q (.ref a) { s with heap := h', toks := tk' } :=
  hret _ [(a, o)] h' tk' F (fun p hp => N p ((List.mem_cons.mp hp).elim (fun e => e ▸ ha) (hs p))) (fun p hp q hq => by rw [List.mem_singleton.mp hq]; exact hl p hp) e
end
theorem gcd_turn {x y : Int} {G : Nat} (h : x.gcd y = G) (hx : 0 ≤ x) (hy : 0 ≤ y) (hne : y ≠ 0) : y.gcd (x.fmod y) = G ∧ 0 ≤ y ∧ 0 ≤ x.fmod y := by
  refine ⟨?_, hy, Int.fmod_nonneg hx hy⟩
  rw [Int.fmod_eq_emod_of_nonneg _ hy, ← h]
  obtain ⟨n, rfl⟩ := Int.eq_ofNat_of_zero_le hx
  obtain ⟨k, rfl⟩ := Int.eq_ofNat_of_zero_le hy
  rw [← Int.natCast_emod, Int.gcd_natCast_natCast, Int.gcd_natCast_natCast, Nat.gcd_comm n k, Nat.gcd_comm, Nat.gcd_rec k n]
theorem gcd_meas {x y : Int} (hy : 0 ≤ y) (hne : y ≠ 0) : (x.fmod y).toNat < y.toNat := by
  have h1 := Int.fmod_lt_of_pos x (show 0 < y by omega)
  have h2 := Int.fmod_nonneg_of_pos x (show 0 < y by omega)
  omega
theorem gcd_end {x y a b : Int} {t : Tok} (h : x.gcd y = (if a < 0 then -a else a).gcd (if b < 0 then -b else b)) (hx : 0 ≤ x) (hy : y = 0) : OInt (a.gcd b) (.int x t) [] := by
  subst hy
  have e1 : (if a < 0 then -a else a).gcd (if b < 0 then -b else b) = a.gcd b := by
    split <;> split <;> simp
  rw [e1, Int.gcd_zero_right] at h
  refine ⟨t, ?_, rfl⟩
  rw [← h, Int.natAbs_of_nonneg hx]
theorem fr_say {h₀ h : Heap} {L : Addr} {m : Str → Option Value} {x : Str} {v : Value} (F : Fr h₀ L h m) (e : m x = some v) : Fr h₀ L h (fun y => if y = x then some v else m y) := by
  have : (fun y => if y = x then some v else m y) = m := by
    funext y
    by_cases h : y = x
    · rw [if_pos h, h, e]
    · rw [if_neg h]
  rw [this]; exact F
theorem fr_say4 {h₀ h : Heap} {L : Addr} {m : Str → Option Value} {x1 x2 x3 x4 : Str} {v1 v2 v3 v4 : Value} (F : Fr h₀ L h m) (e1 : m x1 = some v1) (e2 : m x2 = some v2) (e3 : m x3 = some v3) (e4 : m x4 = some v4) :
    Fr h₀ L h (fun z => if z = x1 then some v1 else if z = x2 then some v2 else if z = x3 then some v3 else if z = x4 then some v4 else m z) := by
  have : (fun z => if z = x1 then some v1 else if z = x2 then some v2 else if z = x3 then some v3 else if z = x4 then some v4 else m z) = m := by
    funext z
    split
    · next h => rw [h, e1]
    · split
      · next h => rw [h, e2]
      · split
        · next h => rw [h, e3]
        · split
          · next h => rw [h, e4]
          · rfl
  rw [this]; exact F
theorem fr_say2 {h₀ h : Heap} {L : Addr} {m : Str → Option Value} {x y : Str} {v u : Value} (F : Fr h₀ L h m) (e : m x = some v) (e2 : m y = some u) : Fr h₀ L h (fun z => if z = x then some v else if z = y then some u else m z) := by
  have : (fun z => if z = x then some v else if z = y then some u else m z) = m := by
    funext z
    by_cases h : z = x
    · rw [if_pos h, h, e]
    · rw [if_neg h]
      by_cases h : z = y
      · rw [if_pos h, h, e2]
      · rw [if_neg h]
  rw [this]; exact F
theorem news_sub {h₀ h : Heap} {L : Addr} {n n' : Led} (N : News h₀ L h n) (hs : ∀ p ∈ n', p ∈ n) : News h₀ L h n' := fun p hp => N p (hs p hp)
theorem sub1 {n n' : Led} {a : Addr × Obj} (i1 : a ∈ n) (hs : ∀ p ∈ n', p ∈ n) : ∀ p ∈ a :: n', p ∈ n := fun p hp => (List.mem_cons.mp hp).elim (fun e => e ▸ i1) (hs p)
theorem sub2 {n n' : Led} {a b : Addr × Obj} (i1 : a ∈ n) (i2 : b ∈ n) (hs : ∀ p ∈ n', p ∈ n) : ∀ p ∈ a :: b :: n', p ∈ n := sub1 i1 (sub1 i2 hs)

section
variable {w : World} {f : Addr} {d : Nat} {news : Led} {vs : List Value} {Out : Rt} {mean : ExcName → Option Value} {mg mb : Str → Option Value} {dp un : Nat} {gd : Option (List Code)} {cn : Str} {cs : Scope} {a : Addr} {ccd : Value} {cl : List (Str × Addr)} {outer : List Env} {A₀ : Around} {base h₀ : Heap} {L : Addr} {m : Str → Option Value} {s : Shared} {Q E : Value → Shared → Prop}
theorem con_use (C : Con w f d news vs Out) (B : Below A₀ base outer h₀) (F : Fr h₀ L s.heap m) (X : (hd.heap_39 w.params).In h₀) (N : News h₀ L s.heap news) (T : Top vw (looseW vw []) mean mg mb h₀) (hk : cs.kind = .function) (hd : dp + d < recursionLimit) (hu : un + 8 * d < cLine)
    (ret : ∀ r out h' tk', Fr h₀ L h' m → News h₀ L h' (out ++ news) → (∀ p ∈ news, ∀ q ∈ out, p.1 < q.1) → Out r out → Q r { s with heap := h', toks := tk' }) :
    wpAny (model PySem.Challenge.rw_pf0033_01.row.prog w) (ktrTop dp un gd cn cs L a ccd cl outer) (call (.ref f) vs) Q E s := C _ _ _ _ _ _ _ _ _ _ _ _ _ _ _ _ _ _ _ _ B F X N T hk hd hu ret
theorem con_int {x : Int} (C : Con w f d news vs (OInt x)) (B : Below A₀ base outer h₀) (F : Fr h₀ L s.heap m) (X : (hd.heap_39 w.params).In h₀) (N : News h₀ L s.heap news) (T : Top vw (looseW vw []) mean mg mb h₀) (hk : cs.kind = .function) (hd : dp + d < recursionLimit) (hu : un + 8 * d < cLine)
    (ret : ∀ t h' tk', Fr h₀ L h' m → News h₀ L h' news → Q (.int x t) { s with heap := h', toks := tk' }) :
    wpAny (model PySem.Challenge.rw_pf0033_01.row.prog w) (ktrTop dp un gd cn cs L a ccd cl outer) (call (.ref f) vs) Q E s := C _ _ _ _ _ _ _ _ _ _ _ _ _ _ _ _ _ _ _ _ B F X N T hk hd hu fun r out h' tk' F' N' l' o => by
  obtain ⟨t, rfl, rfl⟩ := o
  exact ret t h' tk' F' N'
theorem con_val {v : Value} (C : Con w f d news vs fun r out => r = v ∧ out = []) (B : Below A₀ base outer h₀) (F : Fr h₀ L s.heap m) (X : (hd.heap_39 w.params).In h₀) (N : News h₀ L s.heap news) (T : Top vw (looseW vw []) mean mg mb h₀) (hk : cs.kind = .function) (hd : dp + d < recursionLimit) (hu : un + 8 * d < cLine)
    (ret : ∀ h' tk', Fr h₀ L h' m → News h₀ L h' news → Q v { s with heap := h', toks := tk' }) :
    wpAny (model PySem.Challenge.rw_pf0033_01.row.prog w) (ktrTop dp un gd cn cs L a ccd cl outer) (call (.ref f) vs) Q E s := C _ _ _ _ _ _ _ _ _ _ _ _ _ _ _ _ _ _ _ _ B F X N T hk hd hu fun r out h' tk' F' N' l' o => by
  obtain ⟨rfl, rfl⟩ := o
  exact ret h' tk' F' N'
theorem con_tup {x y : Int} (C : Con w f d news vs (OTup2 x y)) (B : Below A₀ base outer h₀) (F : Fr h₀ L s.heap m) (X : (hd.heap_39 w.params).In h₀) (N : News h₀ L s.heap news) (T : Top vw (looseW vw []) mean mg mb h₀) (hk : cs.kind = .function) (hd : dp + d < recursionLimit) (hu : un + 8 * d < cLine)
    (ret : ∀ o t u h' tk', Fr h₀ L h' m → News h₀ L h' ((o, tup2 x t y u) :: news) → (∀ p ∈ news, p.1 < o) → Q (.ref o) { s with heap := h', toks := tk' }) :
    wpAny (model PySem.Challenge.rw_pf0033_01.row.prog w) (ktrTop dp un gd cn cs L a ccd cl outer) (call (.ref f) vs) Q E s := C _ _ _ _ _ _ _ _ _ _ _ _ _ _ _ _ _ _ _ _ B F X N T hk hd hu fun r out h' tk' F' N' l' o => by
  obtain ⟨o, t, u, rfl, rfl⟩ := o
  exact ret o t u h' tk' F' N' fun p hp => l' p hp _ (List.mem_singleton_self _)
theorem con_mono {Out' : Rt} (C : Con w f d news vs Out) (h : ∀ r out, Out r out → Out' r out) : Con w f d news vs Out' := by
  unfold Con at C ⊢
  intro mean mg mb dp un gd cn cs ac ccd cl outer A₀ base h₀ L m s Q E B F X N T hk hd hu hret
  exact C mean mg mb dp un gd cn cs ac ccd cl outer A₀ base h₀ L m s Q E B F X N T hk hd hu fun r out h' tk' F' N' l' o' => hret r out h' tk' F' N' l' (h _ _ o')
end
theorem room_ok {dp D d : Nat} (h : dp + D < recursionLimit) (e : d + 1 ≤ D) : dp + 1 + d < recursionLimit := by omega
theorem unit_ok {un D d : Nat} (h : un + 8 * D < cLine) (e : d + 1 ≤ D) : un + 8 + 8 * d < cLine := by omega

set_option maxRecDepth 100000 in
set_option maxHeartbeats 8000000 in
theorem gcd_con (w : World) (news : Led) (a b : Int) (ta tb : Tok) : Con w 21 1 news [.int a ta, .int b tb] (OInt (Int.gcd a b)) := by
  unfold Con
  k_fill
  intro mean mg mb dp un gd cn cs ac ccd cl outer A₀ base h₀ L m s Q E B F X N T hk hd hu hret
  refine wpAny_call ?_
  k_dflt cell_enter
  k_with_none
  k_with "my ord" => (first | assumption | exact ktn_ltOf (by assumption) | exact ktn_ltOf (And.right (by k_asm)) | exact ktn_ltOf (And.right (And.right (by k_asm))) | exact ktn_ltOf (And.right (And.right (And.right (by k_asm)))) | exact ktn_ltOf (And.right (And.right (And.right (And.right (by k_asm))))) | exact ktn_ltOf (And.right (And.right (And.right (And.right (And.right (by k_asm)))))))
  k_with "compareOp NotEq ref ref" => (k_here; (with_reducible show wpAny _ _ (compareOp CmpOp.NotEq (Value.ref _) (Value.ref _)) _ _ _); k_dflt ((refine ne_dataH (by ke_read) (by ke_read) (by ked_shaped) (by ked_shaped) (by ktr_units) ?_); ke_norm))
  k_with "compareOp Eq ref ref" => (k_here; (with_reducible show wpAny _ _ (compareOp CmpOp.Eq (Value.ref _) (Value.ref _)) _ _ _); k_dflt ((refine eq_dataH (by ke_read) (by ke_read) (by ked_shaped) (by ked_shaped) (by ktr_units) ?_); ke_norm))
  k_with "my suba" => (intro p hp; (repeat' first | exact hp | exact List.mem_append_left _ hp | exact List.mem_append_right _ hp | refine List.mem_cons_of_mem _ ?_))
  k_with "my sub" => (intro p hp; (repeat' first | exact hp | refine List.mem_cons_of_mem _ ?_))
  k_with "exec While Compare cons nil" => k_while_given ["a!", "b!"] (fun a₀ b₀ script a b => Int.gcd a b = Int.gcd a₀ b₀ ∧ 0 ≤ a ∧ 0 ≤ b) (fun a₀ b₀ script a b => b.toNat) "a" "b"
  k_with "state" => exact gcd_turn (by assumption) (by assumption) (by assumption) (by assumption)
  k_with "measure" => exact gcd_meas (by assumption) (by assumption)
  k_steps
  all_goals (refine end_int hret ?_ (by assumption) (by assumption) ?_)
  · exact gcd_end (by assumption) (by assumption) (by assumption)
  · intro p hp; exact List.mem_cons_of_mem _ hp

def ExtI (A B a1 s1 t1 a2 s2 t2 : Int) : Prop :=
  0 ≤ a1 ∧ 0 ≤ a2 ∧ s1 * A + t1 * B = a1 ∧ s2 * A + t2 * B = a2 ∧ a1.gcd a2 = A.gcd B ∧ a1 ≤ A + B ∧ a2 ≤ A + B
def ExtJ (news : Led) (A B : Int) (n : Nat) (m : Str → Option Value) (nx : Led) : Prop :=
  ∃ (o1 o2 : Addr) (a1 s1 t1 a2 s2 t2 : Int) (k1 k2 k3 k4 k5 k6 : Tok), m (Str.ofString "one") = some (.ref o1) ∧ m (Str.ofString "other") = some (.ref o2) ∧
    (o1, tup3 a1 k1 s1 k2 t1 k3) ∈ nx ∧ (o2, tup3 a2 k4 s2 k5 t2 k6) ∈ nx ∧ (∀ p ∈ news, p ∈ nx) ∧ (∀ p ∈ news, p.1 < o1) ∧ (∀ p ∈ news, p.1 < o2) ∧ ExtI A B a1 s1 t1 a2 s2 t2 ∧ n = a2.toNat
theorem extJ_intro {news nx : Led} {A B : Int} {m : Str → Option Value} {o1 o2 : Addr} {a1 s1 t1 a2 s2 t2 : Int} {k1 k2 k3 k4 k5 k6 : Tok} (h1 : m (Str.ofString "one") = some (.ref o1)) (h2 : m (Str.ofString "other") = some (.ref o2))
    (i1 : (o1, tup3 a1 k1 s1 k2 t1 k3) ∈ nx) (i2 : (o2, tup3 a2 k4 s2 k5 t2 k6) ∈ nx) (hs : ∀ p ∈ news, p ∈ nx) (l1 : ∀ p ∈ news, p.1 < o1) (l2 : ∀ p ∈ news, p.1 < o2) (hi : ExtI A B a1 s1 t1 a2 s2 t2) : ExtJ news A B a2.toNat m nx :=
  ⟨o1, o2, a1, s1, t1, a2, s2, t2, k1, k2, k3, k4, k5, k6, h1, h2, i1, i2, hs, l1, l2, hi, rfl⟩
theorem extI_end {A B a1 s1 t1 a2 s2 t2 : Int} {k1 k2 k3 : Tok} {o : Addr} (h : ExtI A B a1 s1 t1 a2 s2 t2) (h0 : a2 = 0) : ∃ s t, s * A + t * B = A.gcd B ∧ OTup3 (A.gcd B) s t (.ref o) [(o, tup3 a1 k1 s1 k2 t1 k3)] := by
  obtain ⟨h1, h2, h3, h4, h5, h6, h7⟩ := h
  subst h0
  have e : ((A.gcd B : Nat) : Int) = a1 := by rw [← h5, Int.gcd_zero_right, Int.natAbs_of_nonneg h1]
  rw [e]
  exact ⟨s1, t1, h3, o, k1, k2, k3, rfl, rfl⟩
theorem extI_start {a b : Int} (ha : 0 ≤ a) (hb : 0 ≤ b) : ExtI a b a 1 0 b 0 1 := by
  refine ⟨ha, hb, by omega, by omega, rfl, by omega, by omega⟩
theorem ExtI.bd {A B a1 s1 t1 a2 s2 t2 : Int} (h : ExtI A B a1 s1 t1 a2 s2 t2) (hb : 0 ≤ B) (ha : A < 2 ^ 28) (hb' : B < 2 ^ 28) : a1 < 2 ^ 29 ∧ a2 < 2 ^ 29 := by
  obtain ⟨h1, h2, h3, h4, h5, h6, h7⟩ := h
  omega
theorem ExtI.div {A B a1 s1 t1 a2 s2 t2 : Int} (h : ExtI A B a1 s1 t1 a2 s2 t2) : 0 ≤ a1.fdiv a2 ∧ a1.fdiv a2 ≤ a1 := by
  obtain ⟨h1, h2, _⟩ := h
  rw [Int.fdiv_eq_ediv_of_nonneg _ h2]
  exact ⟨Int.ediv_nonneg h1 h2, Int.ediv_le_self _ h1⟩
theorem ExtI.turn {A B a1 s1 t1 a2 s2 t2 : Int} (h : ExtI A B a1 s1 t1 a2 s2 t2) (hne : a2 ≠ 0) : ExtI A B a2 s2 t2 (a1 - a1.fdiv a2 * a2) (s1 - a1.fdiv a2 * s2) (t1 - a1.fdiv a2 * t2) ∧ (a1 - a1.fdiv a2 * a2).toNat < a2.toNat := by
  have h' := h
  obtain ⟨h1, h2, h3, h4, h5, h6, h7⟩ := h
  have e : a1 - a1.fdiv a2 * a2 = a1.fmod a2 := by
    have := Int.mul_fdiv_add_fmod a1 a2
    rw [Int.mul_comm] at this
    omega
  have hm := gcd_turn h5 h1 h2 hne
  have hlt := gcd_meas (x := a1) h2 hne
  refine ⟨⟨h2, ?_, h4, ?_, ?_, h7, ?_⟩, ?_⟩
  · rw [e]; exact hm.2.2
  · rw [← h3, ← h4]
    simp only [Int.sub_mul, Int.mul_add, Int.mul_assoc]
    omega
  · rw [e]; exact hm.1
  · rw [e]; have := hm.2.2; have := gcd_meas (x := a1) h2 hne; omega
  · rw [e]; exact hlt

set_option maxRecDepth 100000 in
set_option maxHeartbeats 8000000 in
theorem ext_con (w : World) (news : Led) (a b : Int) (ta tb : Tok) (ha : 0 ≤ a) (hb : 0 ≤ b) (ha' : a < 2 ^ 28) (hb' : b < 2 ^ 28) : Con w 28 1 news [.int a ta, .int b tb] (fun r out => ∃ s t, s * a + t * b = a.gcd b ∧ OTup3 (a.gcd b) s t r out) := by
  unfold Con
  k_fill
  intro mean mg mb dp un gd cn cs ac ccd cl outer A₀ base h₀ L m s Q E B F X N T hk hd hu hret
  refine wpAny_call ?_
  k_dflt cell_enter
  k_with_none
  k_with "my ord" => (first | assumption | exact ktn_ltOf (by assumption) | exact ktn_ltOf (And.right (by k_asm)) | exact ktn_ltOf (And.right (And.right (by k_asm))) | exact ktn_ltOf (And.right (And.right (And.right (by k_asm)))) | exact ktn_ltOf (And.right (And.right (And.right (And.right (by k_asm))))) | exact ktn_ltOf (And.right (And.right (And.right (And.right (And.right (by k_asm)))))))
  k_with "compareOp NotEq ref ref" => (k_here; (with_reducible show wpAny _ _ (compareOp CmpOp.NotEq (Value.ref _) (Value.ref _)) _ _ _); k_dflt ((refine ne_dataH (by ke_read) (by ke_read) (by ked_shaped) (by ked_shaped) (by ktr_units) ?_); ke_norm))
  k_with "compareOp Eq ref ref" => (k_here; (with_reducible show wpAny _ _ (compareOp CmpOp.Eq (Value.ref _) (Value.ref _)) _ _ _); k_dflt ((refine eq_dataH (by ke_read) (by ke_read) (by ked_shaped) (by ked_shaped) (by ktr_units) ?_); ke_norm))
  k_with "my suba" => (intro p hp; (repeat' first | exact hp | exact List.mem_append_left _ hp | exact List.mem_append_right _ hp | refine List.mem_cons_of_mem _ ?_))
  k_with "my sub" => (intro p hp; (repeat' first | exact hp | refine List.mem_cons_of_mem _ ?_))
  k_with "exec While Compare cons nil" => (k_dflt (
    (rename Fr _ _ _ _ => lF'); (rename News _ _ _ _ => lN')
    refine While_inv2 (ExtJ news a b) lF' lN' (extJ_intro (by with_unfolding_all rfl) (by with_unfolding_all rfl) (by k_mem) (by k_mem) (by k_extra "my sub") (by k_extra "my ord") (by k_extra "my ord") (extI_start ha hb)) (fun n m₁ news₁ h₁ tk₁ F₁ N₁ J₁ => ?_)
    obtain ⟨o1, o2, a1, s1, t1, a2, s2, t2, k1, k2, k3, k4, k5, k6, e1, e2, i1, i2, sub, lo1, lo2, hI, hn⟩ := J₁
    clear lF' lN'
    replace F₁ := fr_say2 F₁ e1 e2
    replace N₁ : News _ _ _ ((o1, tup3 a1 k1 s1 k2 t1 k3) :: (o2, tup3 a2 k4 s2 k5 t2 k6) :: news) := news_sub N₁ (sub2 i1 i2 sub)
    have hdiv := hI.div
    have hbd := hI.bd hb ha' hb'
    have hp1 := hI.1
    have hp2 := hI.2.1
    clear e1 e2 i1 i2 sub
    (try k_fold)))
  k_steps
  · refine ⟨_, _, _, _, _, rfl, by assumption, by assumption, ?_, extJ_intro (by with_unfolding_all rfl) (by with_unfolding_all rfl) (by k_dflt k_mem) (by k_dflt k_mem) (by k_extra "my sub") (by k_extra "my ord") (by k_extra "my ord") (ExtI.turn (by assumption) (by assumption)).1⟩
    have := (ExtI.turn hI (by assumption)).2
    omega
  · have h0 : a2 = 0 := by assumption
    refine end_ref hret (extI_end hI h0) (by assumption) (by assumption) (by k_dflt k_mem) (by k_extra "my sub") (by k_extra "my ord")

def pmF : Nat → Int → Int → Int → Int → Int
  | 0, f, _, _, _ => f
  | j + 1, f, s, k, M => if 0 < k then pmF j (if k.fmod 2 = 1 then (f * s).fmod M else f) ((s * s).fmod M) (k.fdiv 2) M else f
def PmI (M R f s k : Int) : Prop := ∃ j : Nat, k.toNat ≤ j ∧ pmF j f s k M = R
theorem pm_half {k : Int} (hk : 0 < k) : 0 ≤ k.fdiv 2 ∧ (k.fdiv 2).toNat < k.toNat := by
  have e : k.fdiv 2 = k / 2 := Int.fdiv_eq_ediv_of_nonneg _ (by omega)
  rw [e]; omega
theorem pm_step {M R f s k : Int} (hk : 0 < k) (h : PmI M R f s k) : PmI M R (if k.fmod 2 = 1 then (f * s).fmod M else f) ((s * s).fmod M) (k.fdiv 2) := by
  obtain ⟨j, hj, e⟩ := h
  have hh := pm_half hk
  cases j with
  | zero => omega
  | succ j =>
    rw [pmF, if_pos hk] at e
    exact ⟨j, by omega, e⟩
theorem pm_t1 {M R f s k : Int} (hM : 0 < M) (hk : 0 < k) (ho : k.fmod 2 = 1) (hb : k < 2 ^ 28) (h : PmI M R f s k) :
    0 ≤ (f * s).fmod M ∧ (f * s).fmod M < M ∧ 0 ≤ (s * s).fmod M ∧ (s * s).fmod M < M ∧ 0 ≤ k.fdiv 2 ∧ k.fdiv 2 < 2 ^ 28 ∧ PmI M R ((f * s).fmod M) ((s * s).fmod M) (k.fdiv 2) := by
  have := pm_step hk h
  rw [if_pos ho] at this
  have hh := pm_half hk
  exact ⟨Int.fmod_nonneg_of_pos _ hM, Int.fmod_lt_of_pos _ hM, Int.fmod_nonneg_of_pos _ hM, Int.fmod_lt_of_pos _ hM, hh.1, by omega, this⟩
theorem pm_t2 {M R f s k : Int} (hM : 0 < M) (hk : 0 < k) (ho : k.fmod 2 ≠ 1) (hb : k < 2 ^ 28) (hf : 0 ≤ f) (hf' : f < M) (h : PmI M R f s k) :
    0 ≤ f ∧ f < M ∧ 0 ≤ (s * s).fmod M ∧ (s * s).fmod M < M ∧ 0 ≤ k.fdiv 2 ∧ k.fdiv 2 < 2 ^ 28 ∧ PmI M R f ((s * s).fmod M) (k.fdiv 2) := by
  have := pm_step hk h
  rw [if_neg ho] at this
  have hh := pm_half hk
  exact ⟨hf, hf', Int.fmod_nonneg_of_pos _ hM, Int.fmod_lt_of_pos _ hM, hh.1, by omega, this⟩
theorem pm_end {M R f s k : Int} {t : Tok} (hk : ¬ 0 < k) (h : PmI M R f s k) : OInt R (.int f t) [] := by
  obtain ⟨j, hj, e⟩ := h
  have : pmF j f s k M = f := by cases j with
    | zero => rfl
    | succ j => rw [pmF, if_neg hk]
  exact ⟨t, by rw [← e, this], rfl⟩
theorem pm_start {A N M : Int} (hM : 0 < M) (hN : 0 ≤ N) (hN' : N < 2 ^ 28) : 0 ≤ (1 : Int).fmod M ∧ (1 : Int).fmod M < M ∧ 0 ≤ A.fmod M ∧ A.fmod M < M ∧ 0 ≤ N ∧ N < 2 ^ 28 ∧ PmI M (pmF N.toNat ((1 : Int).fmod M) (A.fmod M) N M) ((1 : Int).fmod M) (A.fmod M) N :=
  ⟨Int.fmod_nonneg_of_pos _ hM, Int.fmod_lt_of_pos _ hM, Int.fmod_nonneg_of_pos _ hM, Int.fmod_lt_of_pos _ hM, hN, hN', N.toNat, Nat.le_refl _, rfl⟩
set_option maxRecDepth 100000 in
set_option maxHeartbeats 8000000 in
theorem pm_con (w : World) (news : Led) (va vn vm : Int) (ta tn tm : Tok) (hM : 0 < vm) (hM' : vm < 2 ^ 28) (hN : 0 ≤ vn) (hN' : vn < 2 ^ 28) : Con w 35 1 news [.int va ta, .int vn tn, .int vm tm] (OInt (pmF vn.toNat ((1 : Int).fmod vm) (va.fmod vm) vn vm)) := by
  unfold Con
  k_fill
  intro mean mg mb dp un gd cn cs ac ccd cl outer A₀ base h₀ L m s Q E B F X N T hk hd hu hret
  refine wpAny_call ?_
  k_dflt cell_enter
  k_with_none
  k_with "my ord" => (first | assumption | exact ktn_ltOf (by assumption) | exact ktn_ltOf (And.right (by k_asm)) | exact ktn_ltOf (And.right (And.right (by k_asm))) | exact ktn_ltOf (And.right (And.right (And.right (by k_asm)))) | exact ktn_ltOf (And.right (And.right (And.right (And.right (by k_asm))))) | exact ktn_ltOf (And.right (And.right (And.right (And.right (And.right (by k_asm)))))))
  k_with "compareOp NotEq ref ref" => (k_here; (with_reducible show wpAny _ _ (compareOp CmpOp.NotEq (Value.ref _) (Value.ref _)) _ _ _); k_dflt ((refine ne_dataH (by ke_read) (by ke_read) (by ked_shaped) (by ked_shaped) (by ktr_units) ?_); ke_norm))
  k_with "compareOp Eq ref ref" => (k_here; (with_reducible show wpAny _ _ (compareOp CmpOp.Eq (Value.ref _) (Value.ref _)) _ _ _); k_dflt ((refine eq_dataH (by ke_read) (by ke_read) (by ked_shaped) (by ked_shaped) (by ktr_units) ?_); ke_norm))
  k_with "my suba" => (intro p hp; (repeat' first | exact hp | exact List.mem_append_left _ hp | exact List.mem_append_right _ hp | refine List.mem_cons_of_mem _ ?_))
  k_with "my sub" => (intro p hp; (repeat' first | exact hp | refine List.mem_cons_of_mem _ ?_))
  k_with "state" => first | exact pm_t1 (by assumption) (by assumption) (by assumption) (by assumption) (by assumption) | exact pm_t2 (by assumption) (by assumption) (by assumption) (by assumption) (by assumption) (by assumption) (by assumption) | exact pm_start (by assumption) (by assumption) (by assumption)
  k_with "measure" => exact (pm_half (by assumption)).2
  k_with "exec While Compare cons nil" => k_while (fun script f s k => 0 ≤ f ∧ f < vm ∧ 0 ≤ s ∧ s < vm ∧ 0 ≤ k ∧ k < 2 ^ 28 ∧ PmI vm (pmF vn.toNat ((1 : Int).fmod vm) (va.fmod vm) vn vm) f s k) (fun script f s k => k.toNat) "found" "square" "n"
  k_steps
  all_goals (refine end_int hret (pm_end (by assumption) (by assumption)) (by assumption) (by assumption) (by k_extra "my sub"))

theorem fmod_bd {a m : Int} (hm : 0 < m) : 0 ≤ a.fmod m ∧ a.fmod m < m := ⟨Int.fmod_nonneg_of_pos _ hm, Int.fmod_lt_of_pos _ hm⟩
def OInv (a m : Int) : Rt := fun r out => if (a.fmod m).gcd m = 1 then ∃ v, 0 ≤ v ∧ v < m ∧ (v * a).fmod m = (1 : Int).fmod m ∧ OInt v r out else ONone r out
theorem fm {a m : Int} (hm : 0 < m) : a.fmod m = a % m := Int.fmod_eq_emod_of_nonneg _ (Int.le_of_lt hm)
theorem inv_val {a m s t : Int} (hm : 0 < m) (hb : s * (a.fmod m) + t * m = 1) : (s.fmod m * a).fmod m = (1 : Int).fmod m := by
  rw [fm hm] at *
  rw [fm hm, fm hm]
  have e : s * (a % m) = 1 + (-t) * m := by rw [Int.neg_mul]; omega
  rw [Int.mul_emod, Int.emod_emod_of_dvd _ (Int.dvd_refl m), ← Int.mul_emod, ← Int.emod_emod_of_dvd (s * a) (Int.dvd_refl m), Int.mul_emod, Int.mul_emod (s % m) (a % m)]
  rw [Int.emod_emod_of_dvd _ (Int.dvd_refl m), Int.emod_emod_of_dvd _ (Int.dvd_refl m), Int.emod_emod_of_dvd _ (Int.dvd_refl m)]
  rw [← Int.emod_emod_of_dvd a (Int.dvd_refl m), ← Int.mul_emod, e, Int.add_mul_emod_self_right]
theorem inv_some {a m s t : Int} {k : Tok} (hm : 0 < m) (hb : s * (a.fmod m) + t * m = ((a.fmod m).gcd m : Nat)) (h1 : (((a.fmod m).gcd m : Nat) : Int) = 1) : OInv a m (.int (s.fmod m) k) [] := by
  unfold OInv
  rw [if_pos (by omega)]
  rw [h1] at hb
  exact ⟨_, Int.fmod_nonneg_of_pos _ hm, Int.fmod_lt_of_pos _ hm, inv_val hm hb, k, rfl, rfl⟩
theorem inv_none {a m : Int} (h1 : ¬ (((a.fmod m).gcd m : Nat) : Int) = 1) : OInv a m .none [] := by
  unfold OInv
  rw [if_neg (by omega)]
  exact ⟨rfl, rfl⟩
set_option maxRecDepth 100000 in
set_option maxHeartbeats 8000000 in
theorem inv_con (w : World) (news : Led) (va vm : Int) (ta tm : Tok) (hM : 0 < vm) (hM' : vm < 2 ^ 28) : Con w 42 2 news [.int va ta, .int vm tm] (OInv va vm) := by
  unfold Con
  k_fill
  intro mean mg mb dp un gd cn cs ac ccd cl outer A₀ base h₀ L m s Q E B F X N T hk hd hu hret
  refine wpAny_call ?_
  k_dflt cell_enter
  k_with_none
  k_with "my ord" => (first | assumption | exact ktn_ltOf (by assumption) | exact ktn_ltOf (And.right (by k_asm)) | exact ktn_ltOf (And.right (And.right (by k_asm))) | exact ktn_ltOf (And.right (And.right (And.right (by k_asm)))) | exact ktn_ltOf (And.right (And.right (And.right (And.right (by k_asm))))) | exact ktn_ltOf (And.right (And.right (And.right (And.right (And.right (by k_asm)))))))
  k_with "compareOp NotEq ref ref" => (k_here; (with_reducible show wpAny _ _ (compareOp CmpOp.NotEq (Value.ref _) (Value.ref _)) _ _ _); k_dflt ((refine ne_dataH (by ke_read) (by ke_read) (by ked_shaped) (by ked_shaped) (by ktr_units) ?_); ke_norm))
  k_with "compareOp Eq ref ref" => (k_here; (with_reducible show wpAny _ _ (compareOp CmpOp.Eq (Value.ref _) (Value.ref _)) _ _ _); k_dflt ((refine eq_dataH (by ke_read) (by ke_read) (by ked_shaped) (by ked_shaped) (by ktr_units) ?_); ke_norm))
  k_with "my suba" => (intro p hp; (repeat' first | exact hp | exact List.mem_append_left _ hp | exact List.mem_append_right _ hp | refine List.mem_cons_of_mem _ ?_))
  k_with "my sub" => (intro p hp; (repeat' first | exact hp | refine List.mem_cons_of_mem _ ?_))
  have hfb := fmod_bd (a := va) hM
  k_with "call ref" => (k_here; k_dflt (refine' con_use (ext_con w _ _ _ _ _ (by omega) (by omega) (by omega) (by omega)) ?k1 ?k2 ?k3 ?k4 ?k5 ?kK ?kd ?ku ?_; (case k2 => k_asm); (case k4 => k_asm); (case k1 => k_asm); (case k3 => k_asm); (case k5 => k_asm); (case kK => first | exact rfl | assumption); (case kd => first | exact room_ok hd (by decide) | ktr_room); (case ku => first | exact unit_ok hu (by decide) | ktr_units); intro r9 out9 h9 tk9 F9 N9 l9 ho9; obtain ⟨s1, t1, hbz, o1, k1, k2, k3, rfl, rfl⟩ := ho9; all_goals ((try dsimp only [List.nil_append, List.cons_append] at N9); (try (replace l9 := fun p hp => l9 p hp _ (List.mem_singleton_self _); k_lt l9)); (try k_sweep); (try dsimp only); (try k_fold))))
  k_steps
  · refine end_int hret (inv_some hM hbz (by assumption)) (by assumption) (by assumption) (by k_extra "my sub")
  · refine end_none hret (inv_none (by assumption)) (by assumption) (by assumption) (by k_extra "my sub")

def OCh2 (r1 m1 r2 m2 : Int) : Rt := fun r out =>
  if (r2 - r1).fmod (m1.gcd m2 : Nat) = 0 then ∃ x, 0 ≤ x ∧ x < m1.fdiv (m1.gcd m2 : Nat) * m2 ∧ m1 ∣ x - r1 ∧ m2 ∣ x - r2 ∧ OTup2 x (m1.fdiv (m1.gcd m2 : Nat) * m2) r out else ONone r out
theorem fd {a m : Int} (hm : 0 < m) : a.fdiv m = a / m := Int.fdiv_eq_ediv_of_nonneg _ (Int.le_of_lt hm)
structure Ch2Bd (r1 m1 r2 m2 g : Int) : Prop where
  g1 : 0 < g
  g2 : g < 2 ^ 28
  q1 : -(2 ^ 29) < (r2 - r1).fdiv g
  q2 : (r2 - r1).fdiv g < 2 ^ 29
  j0 : 0 < m1.fdiv g
  j1 : 0 < m1.fdiv g * m2
theorem ch2_bd {r1 m1 r2 m2 : Int} (h1 : 0 < m1) (h2 : 0 < m2) (b1 : m1 < 2 ^ 28) (c1 : 0 ≤ r1) (c2 : r1 < 2 ^ 28) (d1 : 0 ≤ r2) (d2 : r2 < 2 ^ 28) : Ch2Bd r1 m1 r2 m2 (m1.gcd m2 : Nat) := by
  have hg : 0 < ((m1.gcd m2 : Nat) : Int) := by
    have := Int.gcd_pos_of_ne_zero_left m2 (show m1 ≠ 0 by omega)
    omega
  have hle : ((m1.gcd m2 : Nat) : Int) ≤ m1 := Int.le_of_dvd h1 (Int.gcd_dvd_left ..)
  have hdv : ((m1.gcd m2 : Nat) : Int) ∣ m1 := Int.gcd_dvd_left ..
  generalize ((m1.gcd m2 : Nat) : Int) = g at *
  have hj : 0 < m1.fdiv g := by
    rw [fd hg]; exact Int.ediv_pos_of_pos_of_dvd h1 (Int.le_of_lt hg) hdv
  refine ⟨hg, by omega, ?_, ?_, hj, Int.mul_pos hj h2⟩
  · rw [fd hg]
    have := Int.le_ediv_of_mul_le hg (a := -(2^28)) (b := r2 - r1) (by have : -(2^28) * g ≤ -(2^28) := by omega
                                                                       omega)
    omega
  · rw [fd hg]
    have := Int.ediv_lt_of_lt_mul hg (a := r2 - r1) (b := 2^28) (by omega)
    omega

theorem ch2_val {r1 m1 r2 m2 s t g : Int} (h1 : 0 < m1) (h2 : 0 < m2) (hg : 0 < g) (d1 : g ∣ m1) (d2 : g ∣ m2) (hb : s * m1 + t * m2 = g) (hd : (r2 - r1).fmod g = 0) :
    0 ≤ (r1 + m1 * (s * (r2 - r1).fdiv g)).fmod (m1.fdiv g * m2) ∧ (r1 + m1 * (s * (r2 - r1).fdiv g)).fmod (m1.fdiv g * m2) < m1.fdiv g * m2 ∧
    m1 ∣ (r1 + m1 * (s * (r2 - r1).fdiv g)).fmod (m1.fdiv g * m2) - r1 ∧ m2 ∣ (r1 + m1 * (s * (r2 - r1).fdiv g)).fmod (m1.fdiv g * m2) - r2 := by
  have hj : 0 < m1.fdiv g := by rw [fd hg]; exact Int.ediv_pos_of_pos_of_dvd h1 (Int.le_of_lt hg) d1
  have hJ : 0 < m1.fdiv g * m2 := Int.mul_pos hj h2
  refine ⟨Int.fmod_nonneg_of_pos _ hJ, Int.fmod_lt_of_pos _ hJ, ?_, ?_⟩
  · rw [fm hJ, Int.emod_def]
    have e : m1.fdiv g * m2 = m1 * (m2 / g) := by
      rw [fd hg]
      obtain ⟨k, rfl⟩ := d1
      obtain ⟨l, rfl⟩ := d2
      rw [Int.mul_ediv_cancel_left _ (by omega), Int.mul_ediv_cancel_left _ (by omega), ← Int.mul_assoc, Int.mul_comm k g]
    rw [e]
    generalize (r1 + m1 * (s * (r2 - r1).fdiv g)) / (m1 * (m2 / g)) = k
    refine ⟨s * (r2 - r1).fdiv g - m2 / g * k, ?_⟩
    rw [Int.mul_sub, Int.mul_assoc]; omega
  · rw [fm hJ, Int.emod_def]
    have hq : (r2 - r1) = g * (r2 - r1).fdiv g := by
      have := Int.mul_fdiv_add_fmod (r2 - r1) g
      omega
    generalize (r2 - r1).fdiv g = q at *
    generalize (r1 + m1 * (s * q)) / (m1.fdiv g * m2) = k
    refine ⟨- (t * q) - m1.fdiv g * k, ?_⟩
    have e1 : m1 * (s * q) = g * q - m2 * (t * q) := by
      rw [← hb, Int.add_mul]
      have : m1 * (s * q) = s * m1 * q := by rw [← Int.mul_assoc, Int.mul_comm m1 s]
      have : m2 * (t * q) = t * m2 * q := by rw [← Int.mul_assoc, Int.mul_comm m2 t]
      omega
    have e2 : m1.fdiv g * m2 * k = m2 * (m1.fdiv g * k) := by rw [Int.mul_comm (m1.fdiv g) m2, Int.mul_assoc]
    rw [Int.mul_sub, Int.mul_neg, e2, e1]
    omega

theorem ch2_none {r1 m1 r2 m2 : Int} (h : ¬ (r2 - r1).fmod (m1.gcd m2 : Nat) = 0) : OCh2 r1 m1 r2 m2 .none [] := by
  unfold OCh2; rw [if_neg h]; exact ⟨rfl, rfl⟩
theorem ch2_some {r1 m1 r2 m2 s t : Int} {o : Addr} {k1 k2 : Tok} (h1 : 0 < m1) (h2 : 0 < m2) (hb : s * m1 + t * m2 = (m1.gcd m2 : Nat)) (hd : (r2 - r1).fmod (m1.gcd m2 : Nat) = 0) :
    OCh2 r1 m1 r2 m2 (.ref o) [(o, tup2 ((r1 + m1 * (s * (r2 - r1).fdiv (m1.gcd m2 : Nat))).fmod (m1.fdiv (m1.gcd m2 : Nat) * m2)) k1 (m1.fdiv (m1.gcd m2 : Nat) * m2) k2)] := by
  unfold OCh2; rw [if_pos hd]
  have hg : 0 < ((m1.gcd m2 : Nat) : Int) := by
    have := Int.gcd_pos_of_ne_zero_left m2 (show m1 ≠ 0 by omega)
    omega
  obtain ⟨a, b, c, d⟩ := ch2_val h1 h2 hg (Int.gcd_dvd_left ..) (Int.gcd_dvd_right ..) hb hd
  exact ⟨_, a, b, c, d, o, k1, k2, rfl, rfl⟩
set_option maxRecDepth 100000 in
set_option maxHeartbeats 8000000 in
theorem ch2_con (w : World) (news : Led) (o1 o2 : Addr) (r1 m1 r2 m2 : Int) (t1 u1 t2 u2 : Tok) (i1 : (o1, tup2 r1 t1 m1 u1) ∈ news) (i2 : (o2, tup2 r2 t2 m2 u2) ∈ news) (h1 : 0 < m1) (h2 : 0 < m2) (b1 : m1 < 2 ^ 28) (b2 : m2 < 2 ^ 28) (c1 : 0 ≤ r1) (c2 : r1 < 2 ^ 28) (d1 : 0 ≤ r2) (d2 : r2 < 2 ^ 28) :
    Con w 56 2 news [.ref o1, .ref o2] (OCh2 r1 m1 r2 m2) := by
  unfold Con
  k_fill
  intro mean mg mb dp un gd cn cs ac ccd cl outer A₀ base h₀ L m s Q E B F X N T hk hd hu hret
  refine wpAny_call ?_
  k_dflt cell_enter
  k_with_none
  k_with "my ord" => (first | assumption | exact ktn_ltOf (by assumption) | exact ktn_ltOf (And.right (by k_asm)) | exact ktn_ltOf (And.right (And.right (by k_asm))) | exact ktn_ltOf (And.right (And.right (And.right (by k_asm)))) | exact ktn_ltOf (And.right (And.right (And.right (And.right (by k_asm))))) | exact ktn_ltOf (And.right (And.right (And.right (And.right (And.right (by k_asm)))))))
  k_with "compareOp NotEq ref ref" => (k_here; (with_reducible show wpAny _ _ (compareOp CmpOp.NotEq (Value.ref _) (Value.ref _)) _ _ _); k_dflt ((refine ne_dataH (by ke_read) (by ke_read) (by ked_shaped) (by ked_shaped) (by ktr_units) ?_); ke_norm))
  k_with "compareOp Eq ref ref" => (k_here; (with_reducible show wpAny _ _ (compareOp CmpOp.Eq (Value.ref _) (Value.ref _)) _ _ _); k_dflt ((refine eq_dataH (by ke_read) (by ke_read) (by ked_shaped) (by ked_shaped) (by ktr_units) ?_); ke_norm))
  k_with "my suba" => (intro p hp; (repeat' first | exact hp | exact List.mem_append_left _ hp | exact List.mem_append_right _ hp | refine List.mem_cons_of_mem _ ?_))
  k_with "my sub" => (intro p hp; (repeat' first | exact hp | refine List.mem_cons_of_mem _ ?_))
  rename News _ _ _ _ => N9
  replace N9 := news_sub N9 (sub2 i1 i2 (fun _ h => h))
  have hbd := ch2_bd h1 h2 b1 c1 c2 d1 d2
  obtain ⟨g1, g2, q1, q2, j0, j1⟩ := hbd
  k_with "call ref" => (k_here; k_dflt (refine' con_use (ext_con w _ _ _ _ _ (by omega) (by omega) (by omega) (by omega)) ?k1 ?k2 ?k3 ?k4 ?k5 ?kK ?kd ?ku ?_; (case k2 => k_asm); (case k4 => k_asm); (case k1 => k_asm); (case k3 => k_asm); (case k5 => k_asm); (case kK => first | exact rfl | assumption); (case kd => first | exact room_ok hd (by decide) | ktr_room); (case ku => first | exact unit_ok hu (by decide) | ktr_units); intro r9 out9 h9 tk9 F9 N9 l9 ho9; obtain ⟨sx, tx, hbz, ox, k1, k2, k3, rfl, rfl⟩ := ho9; all_goals ((try dsimp only [List.nil_append, List.cons_append] at N9); (try (replace l9 := fun p hp => l9 p hp _ (List.mem_singleton_self _); k_lt l9)); (try k_sweep); (try dsimp only); (try k_fold))))
  k_steps
  · refine end_none hret (ch2_none (by assumption)) (by assumption) (by assumption) (by k_extra "my sub")
  · refine end_ref hret (ch2_some h1 h2 hbz (by assumption)) (by assumption) (by assumption) (by k_dflt k_mem) (by k_extra "my sub") (by k_extra "my ord")

def symF (a m : Int) : Int := if m < 2 * a.fmod m then a.fmod m - m else a.fmod m
set_option maxRecDepth 100000 in
set_option maxHeartbeats 8000000 in
theorem sym_con (w : World) (news : Led) (a b : Int) (ta tb : Tok) (hb : 0 < b) (hb2 : b < 2 ^ 28) : Con w 70 1 news [.int a ta, .int b tb] (OInt (symF a b)) := by
  unfold Con
  k_fill
  intro mean mg mb dp un gd cn cs ac ccd cl outer A₀ base h₀ L m s Q E B F X N T hk hd hu hret
  refine wpAny_call ?_
  k_dflt cell_enter
  k_with_none
  k_with "my ord" => (first | assumption | exact ktn_ltOf (by assumption) | exact ktn_ltOf (And.right (by k_asm)) | exact ktn_ltOf (And.right (And.right (by k_asm))) | exact ktn_ltOf (And.right (And.right (And.right (by k_asm)))) | exact ktn_ltOf (And.right (And.right (And.right (And.right (by k_asm))))) | exact ktn_ltOf (And.right (And.right (And.right (And.right (And.right (by k_asm)))))))
  k_with "compareOp NotEq ref ref" => (k_here; (with_reducible show wpAny _ _ (compareOp CmpOp.NotEq (Value.ref _) (Value.ref _)) _ _ _); k_dflt ((refine ne_dataH (by ke_read) (by ke_read) (by ked_shaped) (by ked_shaped) (by ktr_units) ?_); ke_norm))
  k_with "compareOp Eq ref ref" => (k_here; (with_reducible show wpAny _ _ (compareOp CmpOp.Eq (Value.ref _) (Value.ref _)) _ _ _); k_dflt ((refine eq_dataH (by ke_read) (by ke_read) (by ked_shaped) (by ked_shaped) (by ktr_units) ?_); ke_norm))
  k_with "my suba" => (intro p hp; (repeat' first | exact hp | exact List.mem_append_left _ hp | exact List.mem_append_right _ hp | refine List.mem_cons_of_mem _ ?_))
  k_with "my sub" => (intro p hp; (repeat' first | exact hp | refine List.mem_cons_of_mem _ ?_))
  k_steps
  · refine end_int hret ⟨_, by rw [symF, if_pos (by omega)], rfl⟩ (by assumption) (by assumption) (by k_extra "my sub")
  · refine end_int hret ⟨_, by rw [symF, if_neg (by omega)], rfl⟩ (by assumption) (by assumption) (by k_extra "my sub")

section
variable {prog : Program} {w : World} {A : Around} {s : Shared} {h₀ : Heap} {L : Addr} {m : Str → Option Value} {env : Env} {ct elt : Expr} {x : Str} {scope : Scope} {cl : List (Str × Addr)} {S : Led → Prop} {P : Nat → Value → Prop} {Fin : List Value → Led → Prop}
theorem compEnd_mono {s₁ : Shared} {I C D : Addr} {oI oC oD : Obj} {r1 r2 : Value → Led → Prop} {y : Value} {s₂ : Shared} (h : LCg.CompEnd h₀ L m s₁ I oI C oC D oD S r1 y s₂) (k : ∀ nw, r1 y nw → r2 y nw) : LCg.CompEnd h₀ L m s₁ I oI C oC D oD S r2 y s₂ := by
  obtain ⟨h', tk, nw, e, F, N, o, hS, hr⟩ := h
  exact ⟨h', tk, nw, e, F, N, o, hS, k _ hr⟩
/-- the turns of a comprehension with a test, by what holds of the list so far -/
theorem restT_ind (J : Nat → List Value → Prop) {n : Nat} {news : Led} (h0 : J 0 [])
    (step : ∀ i ys, i < n → J i ys → ∀ v I oI C oC D m₂ h tk (E' : Value → Shared → Prop), P i v → LCg.NsObj oC m₂ → m₂ x = some v → Fr h₀ L h m → News h₀ L h ((I, oI) :: (C, oC) :: (D, LCg.lst ys) :: news) → LCg.Off3 I C D news → ((@Ne Nat I C) ∧ (@Ne Nat I D) ∧ (@Ne Nat C D)) →
      wpAny (model prog w) A (isTrue ct (compEnvC scope cl C env) (eval ct (compEnvC scope cl C env))) (fun ok s' => if ok = true then
        wpAny (model prog w) A (eval elt (compEnvC scope cl C env)) (LCg.CompEnd h₀ L m { s with heap := h, toks := tk } I oI C oC D (LCg.lst ys) S (fun y nw => nw = news ∧ J (i + 1) (ys ++ [y]))) E' s'
        else LCg.CompEnd h₀ L m { s with heap := h, toks := tk } I oI C oC D (LCg.lst ys) S (fun _ nw => nw = news ∧ J (i + 1) ys) Value.none s') E' { s with heap := h, toks := tk })
    (hfin : ∀ ys, J n ys → Fin ys news) : LCt.CompRestT prog w A h₀ L m env ct elt x scope cl s S P Fin n 0 [] news := by
  have all : ∀ k i ys, i + k = n → J i ys → LCt.CompRestT prog w A h₀ L m env ct elt x scope cl s S P Fin k i ys news := by
    intro k
    induction k with
    | zero => intro i ys e hJ; exact LCt.CompRestT.zero (hfin ys (by rw [← e]; exact hJ))
    | succ k ih =>
      intro i ys e hJ
      refine LCt.CompRestT.succ ?_
      intro v I oI C oC D m₂ h tk E' hv hC hx F N off ne
      refine wpAny_mono (step i ys (by omega) hJ v I oI C oC D m₂ h tk E' hv hC hx F N off ne) (fun ok s' h' => ?_) fun _ _ e => e
      cases ok with
      | true =>
        simp only [if_true] at h' ⊢
        refine wpAny_mono h' (fun y s₂ h2 => compEnd_mono h2 fun nw hn => ?_) fun _ _ e => e
        rw [hn.1]
        exact ih (i + 1) _ (by omega) hn.2
      | false =>
        simp only [Bool.false_eq_true, if_false] at h' ⊢
        refine compEnd_mono h' fun nw hn => ?_
        rw [hn.1]
        exact ih (i + 1) _ (by omega) hn.2
  exact all n 0 [] (by omega) h0
end
def OLes (p q c : Int) : Rt := fun r out => ∃ n, 0 ≤ n ∧ n < c ∧ (n * q - p).fmod c = 0 ∧ OInt n r out
/-- what the rests' list holds after i turns -/
def LesJ (p q c : Int) (i : Nat) (ys : List Value) : Prop := ys.length ≤ i ∧ ((ys = [] ∧ ∀ k : Nat, k < i → ((k : Int) * q - p).fmod c ≠ 0) ∨ ∃ (n : Int) (t : Tok) (r : List Value), ys = .int n t :: r ∧ 0 ≤ n ∧ n < i ∧ (n * q - p).fmod c = 0)
theorem lesJ_0 {p q c : Int} : LesJ p q c 0 [] := ⟨Nat.le_refl _, .inl ⟨rfl, fun k hk => absurd hk (Nat.not_lt_zero k)⟩⟩
theorem lesJ_no {p q c : Int} {i : Nat} {ys : List Value} (h : LesJ p q c i ys) (hn : ¬ ((0 + (i : Int)) * q - p).fmod c = 0) : LesJ p q c (i + 1) ys := by
  obtain ⟨hl, h⟩ := h
  refine ⟨by omega, ?_⟩
  rw [Int.zero_add] at hn
  rcases h with ⟨rfl, h⟩ | ⟨n, t, r, rfl, h1, h2, h3⟩
  · refine .inl ⟨rfl, fun k hk => ?_⟩
    by_cases e : k = i
    · rw [e]; exact hn
    · exact h k (by omega)
  · exact .inr ⟨n, t, r, rfl, h1, by omega, h3⟩
theorem lesJ_yes {p q c : Int} {i : Nat} {ys : List Value} {t : Tok} (h : LesJ p q c i ys) (hn : ((0 + (i : Int)) * q - p).fmod c = 0) : LesJ p q c (i + 1) (ys ++ [.int (0 + (i : Int)) t]) := by
  obtain ⟨hl, h⟩ := h
  refine ⟨by rw [List.length_append, List.length_singleton]; omega, ?_⟩
  rcases h with ⟨rfl, h⟩ | ⟨n, t, r, rfl, h1, h2, h3⟩
  · exact .inr ⟨_, t, [], rfl, by omega, by omega, hn⟩
  · exact .inr ⟨n, t, r ++ [.int (0 + (i : Int)) _], rfl, h1, by omega, h3⟩
set_option maxRecDepth 100000 in
set_option maxHeartbeats 8000000 in
theorem rest_con (w : World) (news : Led) (o1 : Addr) (p q c : Int) (tp tq tc : Tok) (i1 : (o1, tup2 p tp q tq) ∈ news) (hc : 0 < c) (hc2 : c < 2 ^ 20) (hp : -(2 ^ 20) < p) (hp2 : p < 2 ^ 20) (hq : -(2 ^ 20) < q) (hq2 : q < 2 ^ 20) (hex : ∃ k : Nat, (k : Int) < c ∧ ((k : Int) * q - p).fmod c = 0) : Con w 156 1 news [.ref o1, .int c tc] (OLes p q c) := by
  unfold Con
  k_fill
  intro mean mg mb dp un gd cn cs ac ccd cl outer A₀ base h₀ L m s Q E B F X N T hk hd hu hret
  refine wpAny_call ?_
  k_dflt (refine' code_defC ?k1 ?k2 ?k3 ?k4 ?k5 ?kA ?kF ?kK ?k6 ?k7 ?k8 ?k9 ?kB ?kD ?_ ?c2 ?c3 ?c4; (case kA => exact rfl); (case kF => exact rfl); (case kK => assumption); (case k1 => k_asm); (case k2 => k_asm); (case k3 => k_asm); (case k4 => k_asm); (case k5 => k_asm); (case k6 => k_is); (case k7 => k_is); (case k8 => ktr_room); (case k9 => exact BindsTo.of_eq rfl); (case kB => exact rfl); (case kD => decide +kernel); (case c2 => exact rfl); (case c3 => exact rfl); (case c4 => exact rfl); k_whole; intro g' L' h' tk' cells' FG' F' N' Y' B' X' T' l1; (try k_lt l1); k_cells Y'; (try simp only [List.cons_append, List.nil_append] at N'); (try dsimp only); (try k_lift B'); (try k_fold))
  k_with_none
  k_with "my ord" => (first | assumption | exact ktn_ltOf (by assumption) | exact ktn_ltOf (And.right (by k_asm)) | exact ktn_ltOf (And.right (And.right (by k_asm))) | exact ktn_ltOf (And.right (And.right (And.right (by k_asm)))) | exact ktn_ltOf (And.right (And.right (And.right (And.right (by k_asm))))) | exact ktn_ltOf (And.right (And.right (And.right (And.right (And.right (by k_asm)))))))
  k_with "compareOp NotEq ref ref" => (k_here; (with_reducible show wpAny _ _ (compareOp CmpOp.NotEq (Value.ref _) (Value.ref _)) _ _ _); k_dflt ((refine ne_dataH (by ke_read) (by ke_read) (by ked_shaped) (by ked_shaped) (by ktr_units) ?_); ke_norm))
  k_with "compareOp Eq ref ref" => (k_here; (with_reducible show wpAny _ _ (compareOp CmpOp.Eq (Value.ref _) (Value.ref _)) _ _ _); k_dflt ((refine eq_dataH (by ke_read) (by ke_read) (by ked_shaped) (by ked_shaped) (by ktr_units) ?_); ke_norm))
  k_with "my suba" => (intro p hp; (repeat' first | exact hp | exact List.mem_append_left _ hp | exact List.mem_append_right _ hp | refine List.mem_cons_of_mem _ ?_))
  k_with "my sub" => (intro p hp; (repeat' first | exact hp | refine List.mem_cons_of_mem _ ?_))
  rename News _ _ _ _ => N9
  replace N9 := news_sub N9 (sub1 (List.mem_cons_of_mem _ (List.mem_cons_of_mem _ i1)) (fun _ h => h))
  k_with "eval ListComp" => (k_here; lct_look; lcg_calm; k_dflt (refine LCt.ListComp_T (F₀ := by k_asm) (by with_unfolding_all rfl) (by decide) (by rfl) (by decide) (by rfl) ?_))
  k_with "CompSrcT" => (k_dflt (
    refine LCt.CompSrcT.range (by rfl) (by k_asm) (by k_asm) (by assumption) (small_one (by omega) (by omega) (by omega) (by omega)) (rangeSize_nat _ _) (by rw [PySem.sizeLine_eq]; omega) ?_
    intro g9
    refine restT_ind (LesJ p q c) lesJ_0 (fun i ys hi hJ v I oI C oC D m2 h2 tk2 E2 hv hC hx F2 N2 off ne => ?tn) (fun ys hJ => ?fn)
    case' tn => (
      obtain ⟨t9, hv⟩ := hv
      subst hv
      have hi2 : (i : Int) < c := by omega)
    case' fn => (
      rcases hJ with ⟨hl, ⟨hy, h9⟩ | ⟨n9, t9, r9, hy, b1, b2, b3⟩⟩
      case' inl => (
        exfalso
        obtain ⟨k9, c1, c2⟩ := hex
        exact h9 k9 (by omega) c2)
      case' inr => (subst hy))))
  k_steps
  · refine end_int hret ⟨n9, b1, by omega, b3, _, rfl, rfl⟩ (by assumption) (by assumption) (by k_extra "my sub")
  · refine LCg.CompEnd.intro F2 N2 _ (fun p hp => hp) off trivial ⟨rfl, lesJ_yes hJ (by assumption)⟩
  · refine LCg.CompEnd.intro F2 N2 _ (fun p hp => hp) off trivial ⟨rfl, lesJ_no hJ (by assumption)⟩

theorem pow2 (x : Int) : x ^ Int.toNat 2 = x * x := by
  show x ^ 2 = x * x
  rw [Int.pow_succ, Int.pow_succ, Int.pow_zero, Int.one_mul]
theorem sq_lt {x : Int} (h0 : 0 ≤ x) (h : x * x < 2 ^ 28) : x < 2 ^ 14 := by
  by_cases hx : x < 2 ^ 14
  · exact hx
  · have : (2 ^ 14 : Int) * 2 ^ 14 ≤ x * x := Int.mul_le_mul (by omega) (by omega) (by omega) h0
    omega
theorem root_1 {a l h : Int} (ha : a < 2 ^ 28) (h0 : 0 ≤ l) (h1 : l < h) (hp : h ^ Int.toNat 2 ≤ a) : 0 ≤ h ∧ h < 2 * h ∧ h * h ≤ a ∧ 2 * h < 2 ^ 15 := by
  rw [pow2] at hp
  have := sq_lt (x := h) (by omega) (by omega)
  refine ⟨by omega, by omega, hp, by omega⟩
theorem root_2 {a l h : Int} (h0 : 0 ≤ l) (h1 : l < h) (h2 : l * l ≤ a) (h3 : h < 2 ^ 15) (hp : ¬ h ^ Int.toNat 2 ≤ a) : 0 ≤ l ∧ l < h ∧ l * l ≤ a ∧ a < h * h ∧ h < 2 ^ 15 := by
  rw [pow2] at hp
  exact ⟨h0, h1, h2, by omega, h3⟩
theorem mid_bd {l h : Int} (hd : 1 < h - l) : l < (l + h).fdiv 2 ∧ (l + h).fdiv 2 < h := by
  rw [Int.fdiv_eq_ediv_of_nonneg _ (by decide)]; omega
theorem root_3 {a l h : Int} (h0 : 0 ≤ l) (h3 : a < h * h) (h4 : h < 2 ^ 15) (hd : 1 < h - l) (hp : (l + h).fdiv 2 ^ Int.toNat 2 ≤ a) : 0 ≤ (l + h).fdiv 2 ∧ (l + h).fdiv 2 < h ∧ (l + h).fdiv 2 * (l + h).fdiv 2 ≤ a ∧ a < h * h ∧ h < 2 ^ 15 := by
  rw [pow2] at hp
  have := mid_bd hd
  exact ⟨by omega, by omega, hp, h3, h4⟩
theorem root_4 {a l h : Int} (h0 : 0 ≤ l) (h1 : l < h) (h2 : l * l ≤ a) (h4 : h < 2 ^ 15) (hd : 1 < h - l) (hp : ¬ (l + h).fdiv 2 ^ Int.toNat 2 ≤ a) : 0 ≤ l ∧ l < (l + h).fdiv 2 ∧ l * l ≤ a ∧ a < (l + h).fdiv 2 * (l + h).fdiv 2 ∧ (l + h).fdiv 2 < 2 ^ 15 := by
  rw [pow2] at hp
  have := mid_bd hd
  exact ⟨h0, by omega, h2, by omega, by omega⟩
theorem root_m {l h : Int} (hd : 1 < h - l) : (h - (l + h).fdiv 2).toNat < (h - l).toNat := by
  have := mid_bd hd
  omega
theorem root_n {l h : Int} (hd : 1 < h - l) : ((l + h).fdiv 2 - l).toNat < (h - l).toNat := by
  have := mid_bd hd
  omega
theorem root_e {a l h : Int} (h1 : l < h) (hd : ¬ 1 < h - l) (h3 : a < h * h) : a < (l + 1) * (l + 1) := by
  have : h = l + 1 := by omega
  rw [← this]; exact h3
def ORoot (a : Int) : Rt := fun r out => ∃ v, 0 ≤ v ∧ v < 2 ^ 15 ∧ v * v ≤ a ∧ a < (v + 1) * (v + 1) ∧ OInt v r out
theorem root_end {a l h : Int} {t : Tok} (h0 : 0 ≤ l) (h1 : l < h) (h2 : l * l ≤ a) (h3 : a < h * h) (h4 : h < 2 ^ 15) (hd : ¬ 1 < h - l) : ORoot a (.int l t) [] :=
  ⟨l, h0, by omega, h2, root_e h1 hd h3, t, rfl, rfl⟩
set_option maxRecDepth 100000 in
set_option maxHeartbeats 8000000 in
theorem root_con (w : World) (news : Led) (a : Int) (ta tb : Tok) (ha : 0 ≤ a) (ha2 : a < 2 ^ 28) : Con w 49 1 news [.int a ta, .int 2 tb] (ORoot a) := by
  unfold Con
  k_fill
  intro mean mg mb dp un gd cn cs ac ccd cl outer A₀ base h₀ L m s Q E B F X N T hk hd hu hret
  refine wpAny_call ?_
  k_dflt cell_enter
  k_with_none
  k_with "my ord" => (first | assumption | exact ktn_ltOf (by assumption) | exact ktn_ltOf (And.right (by k_asm)) | exact ktn_ltOf (And.right (And.right (by k_asm))) | exact ktn_ltOf (And.right (And.right (And.right (by k_asm)))) | exact ktn_ltOf (And.right (And.right (And.right (And.right (by k_asm))))) | exact ktn_ltOf (And.right (And.right (And.right (And.right (And.right (by k_asm)))))))
  k_with "compareOp NotEq ref ref" => (k_here; (with_reducible show wpAny _ _ (compareOp CmpOp.NotEq (Value.ref _) (Value.ref _)) _ _ _); k_dflt ((refine ne_dataH (by ke_read) (by ke_read) (by ked_shaped) (by ked_shaped) (by ktr_units) ?_); ke_norm))
  k_with "compareOp Eq ref ref" => (k_here; (with_reducible show wpAny _ _ (compareOp CmpOp.Eq (Value.ref _) (Value.ref _)) _ _ _); k_dflt ((refine eq_dataH (by ke_read) (by ke_read) (by ked_shaped) (by ked_shaped) (by ktr_units) ?_); ke_norm))
  k_with "my suba" => (intro p hp; (repeat' first | exact hp | exact List.mem_append_left _ hp | exact List.mem_append_right _ hp | refine List.mem_cons_of_mem _ ?_))
  k_with "my sub" => (intro p hp; (repeat' first | exact hp | refine List.mem_cons_of_mem _ ?_))
  k_with "exec While Compare cons nil" => (first
    | ((with_reducible show wpAny _ _ (exec (Stmt.While (Expr.Compare _ [CmpOp.LtE] _ _) _ _ _) _) _ _ _); k_while (fun script l h => 0 ≤ l ∧ l < h ∧ l * l ≤ a ∧ h < 2 ^ 15) (fun script l h => (2 ^ 15 - h).toNat) "low" "high")
    | k_while (fun script l h => 0 ≤ l ∧ l < h ∧ l * l ≤ a ∧ a < h * h ∧ h < 2 ^ 15) (fun script l h => (h - l).toNat) "low" "high")
  k_with "state" => first | exact root_1 (by assumption) (by assumption) (by assumption) (by assumption) | exact root_2 (by assumption) (by assumption) (by assumption) (by assumption) (by assumption) | exact root_3 (by assumption) (by assumption) (by assumption) (by assumption) (by assumption) | exact root_4 (by assumption) (by assumption) (by assumption) (by assumption) (by assumption) (by assumption)
  k_with "measure" => first | exact root_m (by assumption) | exact root_n (by assumption)
  k_with "binaryOp Pow int int" => (with_reducible refine pow_int_small (by omega) (by omega) (by first | omega | (rw [Int.fdiv_eq_ediv_of_nonneg _ (by decide)]; omega)) ?_)
  k_steps
  · refine end_int hret (root_end (by assumption) (by assumption) (by assumption) (by assumption) (by assumption) (by assumption)) (by assumption) (by assumption) (by k_extra "my sub")

/-- the loop of rational_of, with fuel: what is left in «other» -/
def rl : Nat → Int → Int → Int → Int → Int → Int × Int
  | 0, _, _, _, c, d => (c, d)
  | j + 1, B, a, b, c, d => if B < c then rl j B c d (a - a.fdiv c * c) (b - a.fdiv c * d) else (c, d)
/-- its end -/
def ratE (B m c d : Int) : Option (Int × Int) :=
  let t := if 0 < d then c else 0 - c
  let b := if 0 < d then d else 0 - d
  if B < b ∨ b = 0 ∨ ¬ ((t.gcd b : Nat) : Int) = 1 ∨ ¬ ((b.gcd m : Nat) : Int) = 1 then none else some (t, b)
def ratF (B a m : Int) : Option (Int × Int) := ratE B m (rl (a.fmod m).toNat B m 0 (a.fmod m) 1).1 (rl (a.fmod m).toNat B m 0 (a.fmod m) 1).2
def OOpt (x : Option (Int × Int)) : Rt := fun r out => match x with | none => ONone r out | some (u, v) => OTup2 u v r out
def ORat (a m : Int) : Rt := fun r out => ∃ B, 0 ≤ B ∧ B * B ≤ m.fdiv 2 ∧ m.fdiv 2 < (B + 1) * (B + 1) ∧ OOpt (ratF B a m) r out
def RatI (B M R1 R2 a b c d : Int) : Prop := 0 ≤ a ∧ 0 ≤ c ∧ a ≤ M ∧ c < M ∧ c < a ∧ ∃ j : Nat, c.toNat ≤ j ∧ rl j B a b c d = (R1, R2)
def RatJ (news : Led) (B M R1 R2 : Int) (n : Nat) (m : Str → Option Value) (nx : Led) : Prop :=
  ∃ (o1 o2 : Addr) (a b c d : Int) (k1 k2 k3 k4 k5 k6 : Tok), m (Str.ofString "one") = some (.ref o1) ∧ m (Str.ofString "other") = some (.ref o2) ∧ m (Str.ofString "bound") = some (.int B k5) ∧ m (Str.ofString "m") = some (.int M k6) ∧
    (o1, tup2 a k1 b k2) ∈ nx ∧ (o2, tup2 c k3 d k4) ∈ nx ∧ (∀ p ∈ news, p ∈ nx) ∧ (∀ p ∈ news, p.1 < o1) ∧ (∀ p ∈ news, p.1 < o2) ∧ RatI B M R1 R2 a b c d ∧ n = c.toNat
theorem ratJ_intro {news nx : Led} {B M R1 R2 : Int} {m : Str → Option Value} {o1 o2 : Addr} {a b c d : Int} {k1 k2 k3 k4 k5 k6 : Tok} (h1 : m (Str.ofString "one") = some (.ref o1)) (h2 : m (Str.ofString "other") = some (.ref o2)) (h3 : m (Str.ofString "bound") = some (.int B k5)) (h4 : m (Str.ofString "m") = some (.int M k6))
    (i1 : (o1, tup2 a k1 b k2) ∈ nx) (i2 : (o2, tup2 c k3 d k4) ∈ nx) (hs : ∀ p ∈ news, p ∈ nx) (l1 : ∀ p ∈ news, p.1 < o1) (l2 : ∀ p ∈ news, p.1 < o2) (hi : RatI B M R1 R2 a b c d) : RatJ news B M R1 R2 c.toNat m nx :=
  ⟨o1, o2, a, b, c, d, k1, k2, k3, k4, k5, k6, h1, h2, h3, h4, i1, i2, hs, l1, l2, hi, rfl⟩
theorem ratI_start {B M a : Int} (hM : 0 < M) : RatI B M (rl (a.fmod M).toNat B M 0 (a.fmod M) 1).1 (rl (a.fmod M).toNat B M 0 (a.fmod M) 1).2 M 0 (a.fmod M) 1 :=
  ⟨by omega, Int.fmod_nonneg_of_pos _ hM, by omega, Int.fmod_lt_of_pos _ hM, Int.fmod_lt_of_pos _ hM, (a.fmod M).toNat, Nat.le_refl _, rfl⟩
theorem RatI.turn {B M R1 R2 a b c d : Int} (hB : 0 ≤ B) (h : RatI B M R1 R2 a b c d) (hc : B < c) : RatI B M R1 R2 c d (a - a.fdiv c * c) (b - a.fdiv c * d) ∧ (a - a.fdiv c * c).toNat < c.toNat := by
  obtain ⟨h1, h2, h3, h4, h5, j, hj, e⟩ := h
  have ee : a - a.fdiv c * c = a.fmod c := by
    have := Int.mul_fdiv_add_fmod a c
    rw [Int.mul_comm] at this
    omega
  have b1 := Int.fmod_nonneg_of_pos a (show 0 < c by omega)
  have b2 := Int.fmod_lt_of_pos a (show 0 < c by omega)
  cases j with
  | zero => omega
  | succ j =>
    rw [rl, if_pos hc] at e
    exact ⟨⟨h2, by omega, by omega, by omega, by omega, j, by omega, e⟩, by omega⟩
theorem RatI.stop {B M R1 R2 a b c d : Int} (h : RatI B M R1 R2 a b c d) (hc : ¬ B < c) : c = R1 ∧ d = R2 := by
  obtain ⟨h1, h2, h3, h4, h5, j, hj, e⟩ := h
  cases j with
  | zero => exact ⟨congrArg Prod.fst e, congrArg Prod.snd e⟩
  | succ j =>
    rw [rl, if_neg hc] at e
    exact ⟨congrArg Prod.fst e, congrArg Prod.snd e⟩
theorem RatI.div {B M R1 R2 a b c d : Int} (h : RatI B M R1 R2 a b c d) : 0 ≤ a.fdiv c ∧ a.fdiv c ≤ a := by
  obtain ⟨h1, h2, _⟩ := h
  rw [Int.fdiv_eq_ediv_of_nonneg _ h2]
  exact ⟨Int.ediv_nonneg h1 h2, Int.ediv_le_self _ h1⟩
section
variable {B va vm R1 R2 a b c d : Int}
theorem rat_out {r : Value} {out : Led} (hR : (rl (va.fmod vm).toNat B vm 0 (va.fmod vm) 1).1 = c ∧ (rl (va.fmod vm).toNat B vm 0 (va.fmod vm) 1).2 = d) (h0 : 0 ≤ B) (h1 : B * B ≤ vm.fdiv 2) (h2 : vm.fdiv 2 < (B + 1) * (B + 1)) (h : OOpt (ratE B vm c d) r out) : ORat va vm r out :=
  ⟨B, h0, h1, h2, by rw [ratF, hR.1, hR.2]; exact h⟩
theorem rat_no_p (hd : 0 < d) (h : B < d ∨ d = 0 ∨ ¬ ((c.gcd d : Nat) : Int) = 1 ∨ ¬ ((d.gcd vm : Nat) : Int) = 1) : OOpt (ratE B vm c d) .none [] := by
  have e : ratE B vm c d = none := by unfold ratE; simp only [if_pos hd]; rw [if_pos h]
  rw [e]; exact ⟨rfl, rfl⟩
theorem rat_no_n (hd : ¬ 0 < d) (h : B < 0 - d ∨ 0 - d = 0 ∨ ¬ (((0 - c).gcd (0 - d) : Nat) : Int) = 1 ∨ ¬ (((0 - d).gcd vm : Nat) : Int) = 1) : OOpt (ratE B vm c d) .none [] := by
  have e : ratE B vm c d = none := by unfold ratE; simp only [if_neg hd]; rw [if_pos h]
  rw [e]; exact ⟨rfl, rfl⟩
theorem rat_yes_p {o : Addr} {k1 k2 : Tok} (hd : 0 < d) (h1 : ¬ B < d) (h2 : d ≠ 0) (h3 : ((c.gcd d : Nat) : Int) = 1) (h4 : ((d.gcd vm : Nat) : Int) = 1) : OOpt (ratE B vm c d) (.ref o) [(o, tup2 c k1 d k2)] := by
  have e : ratE B vm c d = some (c, d) := by
    unfold ratE; simp only [if_pos hd]
    rw [if_neg]
    rintro (h | h | h | h)
    · exact h1 h
    · exact h2 h
    · exact h h3
    · exact h h4
  rw [e]; exact ⟨o, k1, k2, rfl, rfl⟩
theorem rat_yes_n {o : Addr} {k1 k2 : Tok} (hd : ¬ 0 < d) (h1 : ¬ B < 0 - d) (h2 : 0 - d ≠ 0) (h3 : (((0 - c).gcd (0 - d) : Nat) : Int) = 1) (h4 : (((0 - d).gcd vm : Nat) : Int) = 1) : OOpt (ratE B vm c d) (.ref o) [(o, tup2 (0 - c) k1 (0 - d) k2)] := by
  have e : ratE B vm c d = some (0 - c, 0 - d) := by
    unfold ratE; simp only [if_neg hd]
    rw [if_neg]
    rintro (h | h | h | h)
    · exact h1 h
    · exact h2 h
    · exact h h3
    · exact h h4
  rw [e]; exact ⟨o, k1, k2, rfl, rfl⟩
theorem rat_stop (h : RatI B vm (rl (va.fmod vm).toNat B vm 0 (va.fmod vm) 1).1 (rl (va.fmod vm).toNat B vm 0 (va.fmod vm) 1).2 a b c d) (hc : ¬ B < c) : (rl (va.fmod vm).toNat B vm 0 (va.fmod vm) 1).1 = c ∧ (rl (va.fmod vm).toNat B vm 0 (va.fmod vm) 1).2 = d := ⟨(h.stop hc).1.symm, (h.stop hc).2.symm⟩
end
/-- a statement that stores two ints: walked once, whatever the way it took -/
theorem stmt_cut {P : Int → Int → Prop} {M : Model} {A : Around} {E : Value → Shared → Prop} {s : Shared} {h₀ : Heap} {L : Addr} {m : Str → Option Value} {env : Env} {st : Stmt} {news : Led} {Q : Flow → Shared → Prop} {x1 x2 : Str} (_F : Fr h₀ L s.heap m) (_N : News h₀ L s.heap news)
    (h : ∀ Q9 : Flow → Shared → Prop, (∀ k1 k2 h' tk' t b, P t b → Fr h₀ L h' (fun y => if y = x2 then some (.int b k2) else if y = x1 then some (.int t k1) else m y) → News h₀ L h' news → Q9 .next { s with heap := h', toks := tk' }) → wpAny M A (exec st env) Q9 E s)
    (hn : ∀ t b k1 k2 h' tk', P t b → Fr h₀ L h' (fun y => if y = x2 then some (.int b k2) else if y = x1 then some (.int t k1) else m y) → News h₀ L h' news → Q .next { s with heap := h', toks := tk' }) : wpAny M A (exec st env) Q E s := by
  refine wpAny_mono (h (fun f s' => f = .next ∧ ∃ t b k1 k2 h' tk', P t b ∧ s' = { s with heap := h', toks := tk' } ∧ Fr h₀ L h' (fun y => if y = x2 then some (.int b k2) else if y = x1 then some (.int t k1) else m y) ∧ News h₀ L h' news) fun k1 k2 h' tk' t b hp F N => ⟨rfl, t, b, k1, k2, h', tk', hp, rfl, F, N⟩) (fun f s' hf => ?_) fun _ _ e => e
  obtain ⟨rfl, t, b, k1, k2, h', tk', hp, rfl, F, N⟩ := hf
  exact hn t b k1 k2 h' tk' hp F N
/-- the two of «other», the bottom made positive -/
def SgnP (c d t b : Int) : Prop := (t = if 0 < d then c else 0 - c) ∧ b = if 0 < d then d else 0 - d
theorem sgn_p {c d : Int} (h : 0 < d) : SgnP c d c d := ⟨(if_pos h).symm, (if_pos h).symm⟩
theorem sgn_n {c d : Int} (h : ¬ 0 < d) : SgnP c d (0 - c) (0 - d) := ⟨(if_neg h).symm, (if_neg h).symm⟩
theorem rat_no {B vm c d t b : Int} (hp : SgnP c d t b) (h : B < b ∨ b = 0 ∨ ¬ ((t.gcd b : Nat) : Int) = 1 ∨ ¬ ((b.gcd vm : Nat) : Int) = 1) : OOpt (ratE B vm c d) .none [] := by
  obtain ⟨ht, hb⟩ := hp
  subst ht hb
  unfold ratE
  dsimp only
  rw [if_pos h]
  exact ⟨rfl, rfl⟩
theorem rat_yes {B vm c d t b : Int} {o : Addr} {k1 k2 : Tok} (hp : SgnP c d t b) (h1 : ¬ B < b) (h2 : b ≠ 0) (h3 : ((t.gcd b : Nat) : Int) = 1) (h4 : ((b.gcd vm : Nat) : Int) = 1) : OOpt (ratE B vm c d) (.ref o) [(o, tup2 t k1 b k2)] := by
  obtain ⟨ht, hb⟩ := hp
  subst ht hb
  unfold ratE
  dsimp only
  rw [if_neg (fun h => h.elim h1 fun h => h.elim h2 fun h => h.elim (fun h => h h3) fun h => h h4)]
  exact ⟨_, _, _, rfl, rfl⟩
set_option maxRecDepth 100000 in
set_option maxHeartbeats 8000000 in
theorem rof_con (w : World) (news : Led) (va vm : Int) (ta tb : Tok) (ha : 0 ≤ va) (hm : 1 < vm) (hm2 : vm < 2 ^ 28) : Con w 77 2 news [.int va ta, .int vm tb] (ORat va vm) := by
  unfold Con
  k_fill
  intro mean mg mb dp un gd cn cs ac ccd cl outer A₀ base h₀ L m s Q E B F X N T hk hd hu hret
  refine wpAny_call ?_
  k_dflt cell_enter
  k_with_none
  k_with "my ord" => (first | assumption | exact ktn_ltOf (by assumption) | exact ktn_ltOf (And.right (by k_asm)) | exact ktn_ltOf (And.right (And.right (by k_asm))) | exact ktn_ltOf (And.right (And.right (And.right (by k_asm)))) | exact ktn_ltOf (And.right (And.right (And.right (And.right (by k_asm))))) | exact ktn_ltOf (And.right (And.right (And.right (And.right (And.right (by k_asm)))))))
  k_with "compareOp NotEq ref ref" => (k_here; (with_reducible show wpAny _ _ (compareOp CmpOp.NotEq (Value.ref _) (Value.ref _)) _ _ _); k_dflt ((refine ne_dataH (by ke_read) (by ke_read) (by ked_shaped) (by ked_shaped) (by ktr_units) ?_); ke_norm))
  k_with "compareOp Eq ref ref" => (k_here; (with_reducible show wpAny _ _ (compareOp CmpOp.Eq (Value.ref _) (Value.ref _)) _ _ _); k_dflt ((refine eq_dataH (by ke_read) (by ke_read) (by ked_shaped) (by ked_shaped) (by ktr_units) ?_); ke_norm))
  k_with "my suba" => (intro p hp; (repeat' first | exact hp | exact List.mem_append_left _ hp | exact List.mem_append_right _ hp | refine List.mem_cons_of_mem _ ?_))
  k_with "my sub" => (intro p hp; (repeat' first | exact hp | refine List.mem_cons_of_mem _ ?_))
  have hf2 : 0 ≤ vm.fdiv 2 ∧ vm.fdiv 2 < 2 ^ 28 := by rw [Int.fdiv_eq_ediv_of_nonneg _ (by decide)]; omega
  k_with "call ref" => (k_here; k_dflt (refine' con_int (gcd_con w _ _ _ _ _) ?k1 ?k2 ?k3 ?k4 ?k5 ?kK ?kd ?ku ?_; (case k2 => k_asm); (case k4 => k_asm); (case k1 => k_asm); (case k3 => k_asm); (case k5 => k_asm); (case kK => first | exact rfl | assumption); (case kd => first | exact room_ok hd (by decide) | ktr_room); (case ku => first | exact unit_ok hu (by decide) | ktr_units); intro tg h9 tk9 F9 N9; (try k_sweep); (try dsimp only); (try k_fold)))
  k_with "call ref" => (k_here; k_dflt (refine' con_use (root_con w _ _ _ _ (by omega) (by omega)) ?k1 ?k2 ?k3 ?k4 ?k5 ?kK ?kd ?ku ?_; (case k2 => k_asm); (case k4 => k_asm); (case k1 => k_asm); (case k3 => k_asm); (case k5 => k_asm); (case kK => first | exact rfl | assumption); (case kd => first | exact room_ok hd (by decide) | ktr_room); (case ku => first | exact unit_ok hu (by decide) | ktr_units); intro r9 out9 h9 tk9 F9 N9 l9 ho9; obtain ⟨vB, hB0, hB1, hB2, hB3, tB, rfl, rfl⟩ := ho9; all_goals ((try dsimp only [List.nil_append, List.cons_append] at N9); (try (replace l9 := fun p hp => l9 p hp _ (List.mem_singleton_self _); k_lt l9)); (try k_sweep); (try dsimp only); (try k_fold))))
  k_with "exec While Compare cons nil" => (k_dflt (
    (rename Fr _ _ _ _ => lF'); (rename News _ _ _ _ => lN')
    refine While_inv2 (RatJ news vB vm _ _) lF' lN' (ratJ_intro (by with_unfolding_all rfl) (by with_unfolding_all rfl) (by with_unfolding_all rfl) (by with_unfolding_all rfl) (by k_mem) (by k_mem) (by k_extra "my sub") (by k_extra "my ord") (by k_extra "my ord") (ratI_start (by omega))) (fun n m₁ news₁ h₁ tk₁ F₁ N₁ J₁ => ?_)
    obtain ⟨o1, o2, a, b, c, d, k1, k2, k3, k4, k5, k6, e1, e2, e3, e4, i1, i2, sub, lo1, lo2, hI, hn⟩ := J₁
    clear lF' lN'
    replace F₁ := fr_say4 F₁ e1 e2 e3 e4
    replace N₁ : News _ _ _ ((o1, tup2 a k1 b k2) :: (o2, tup2 c k3 d k4) :: news) := news_sub N₁ (sub2 i1 i2 sub)
    have hdiv := hI.div
    have hp1 := hI.1
    have hp2 := hI.2.1
    have hp3 := hI.2.2.1
    have hp4 := hI.2.2.2.1
    clear e1 e2 e3 e4 i1 i2 sub
    (try k_fold)))
  k_with "exec Assign cons IfExp" => (k_here; (fail_if_success (have h0 := hq9)); k_dflt (refine stmt_cut (x1 := Str.ofString "top") (x2 := Str.ofString "bottom") (P := SgnP c d) (by k_asm) (by k_asm) (fun Q9 hq9 => ?_) (fun t9 b9 k7 k8 h9 tk9 hs9 F9 N9 => ?_); rotate_left; ((try k_sweep); (try dsimp only); (try k_fold)); rotate_left))
  k_steps
  all_goals first
    | (refine hq9 _ _ _ _ _ _ ?_ (by assumption) (news_sub (by assumption) (by k_extra "my sub")); first | exact sgn_p (by assumption) | exact sgn_n (by assumption))
    | (refine end_none hret (rat_out (rat_stop hI (by assumption)) hB0 hB2 hB3 ?_) (by assumption) (by assumption) (by k_extra "my sub")
       first
         | exact rat_no hs9 (.inl (by assumption))
         | exact rat_no hs9 (.inr (.inl (by assumption)))
         | exact rat_no hs9 (.inr (.inr (.inl (by assumption))))
         | exact rat_no hs9 (.inr (.inr (.inr (by assumption)))))
    | (refine end_ref hret (rat_out (rat_stop hI (by assumption)) hB0 hB2 hB3 ?_) (by assumption) (by assumption) (by k_dflt k_mem) (by k_extra "my sub") (by k_extra "my ord")
       exact rat_yes hs9 (by assumption) (by assumption) (by assumption) (by assumption))
    | (refine ⟨_, _, _, _, _, rfl, by assumption, by assumption, ?_, ratJ_intro (by with_unfolding_all rfl) (by with_unfolding_all rfl) (by with_unfolding_all rfl) (by with_unfolding_all rfl) (by k_dflt k_mem) (by k_dflt k_mem) (by k_extra "my sub") (by k_extra "my ord") (by k_extra "my ord") (RatI.turn hB0 hI (by assumption)).1⟩
       have := (RatI.turn hB0 hI (by assumption)).2
       omega)

def gS (t b : Int) : Int := if 0 < b then (t.gcd b : Nat) else 0 - (t.gcd b : Nat)
theorem gS_bd {t b : Int} (hb : b ≠ 0) (h1 : -(2 ^ 28) < b) (h2 : b < 2 ^ 28) : 0 < ((t.gcd b : Nat) : Int) ∧ ((t.gcd b : Nat) : Int) < 2 ^ 28 := by
  have h0 := Int.gcd_pos_of_ne_zero_right t hb
  have hd : t.gcd b ≤ b.natAbs := Nat.le_of_dvd (by omega) (Int.gcd_dvd_natAbs_right t b)
  omega
theorem ratio_p {t b : Int} {o : Addr} {k1 k2 : Tok} (h : 0 < b) : OTup2 (t.fdiv (gS t b)) (b.fdiv (gS t b)) (.ref o) [(o, tup2 (t.fdiv (t.gcd b : Nat)) k1 (b.fdiv (t.gcd b : Nat)) k2)] := by
  rw [gS, if_pos h]; exact ⟨o, k1, k2, rfl, rfl⟩
theorem ratio_n {t b : Int} {o : Addr} {k1 k2 : Tok} (h : ¬ 0 < b) : OTup2 (t.fdiv (gS t b)) (b.fdiv (gS t b)) (.ref o) [(o, tup2 (t.fdiv (0 - (t.gcd b : Nat))) k1 (b.fdiv (0 - (t.gcd b : Nat))) k2)] := by
  rw [gS, if_neg h]; exact ⟨o, k1, k2, rfl, rfl⟩
set_option maxRecDepth 100000 in
set_option maxHeartbeats 8000000 in
theorem ratio_con (w : World) (news : Led) (vt vb : Int) (tt tb : Tok) (hb : vb ≠ 0) (h1 : -(2 ^ 28) < vb) (h2 : vb < 2 ^ 28) : Con w 109 2 news [.int vt tt, .int vb tb] (OTup2 (vt.fdiv (gS vt vb)) (vb.fdiv (gS vt vb))) := by
  unfold Con
  k_fill
  intro mean mg mb dp un gd cn cs ac ccd cl outer A₀ base h₀ L m s Q E B F X N T hk hd hu hret
  refine wpAny_call ?_
  k_dflt cell_enter
  k_with_none
  k_with "my ord" => (first | assumption | exact ktn_ltOf (by assumption) | exact ktn_ltOf (And.right (by k_asm)) | exact ktn_ltOf (And.right (And.right (by k_asm))) | exact ktn_ltOf (And.right (And.right (And.right (by k_asm)))) | exact ktn_ltOf (And.right (And.right (And.right (And.right (by k_asm))))) | exact ktn_ltOf (And.right (And.right (And.right (And.right (And.right (by k_asm)))))))
  k_with "compareOp NotEq ref ref" => (k_here; (with_reducible show wpAny _ _ (compareOp CmpOp.NotEq (Value.ref _) (Value.ref _)) _ _ _); k_dflt ((refine ne_dataH (by ke_read) (by ke_read) (by ked_shaped) (by ked_shaped) (by ktr_units) ?_); ke_norm))
  k_with "compareOp Eq ref ref" => (k_here; (with_reducible show wpAny _ _ (compareOp CmpOp.Eq (Value.ref _) (Value.ref _)) _ _ _); k_dflt ((refine eq_dataH (by ke_read) (by ke_read) (by ked_shaped) (by ked_shaped) (by ktr_units) ?_); ke_norm))
  k_with "my suba" => (intro p hp; (repeat' first | exact hp | exact List.mem_append_left _ hp | exact List.mem_append_right _ hp | refine List.mem_cons_of_mem _ ?_))
  k_with "my sub" => (intro p hp; (repeat' first | exact hp | refine List.mem_cons_of_mem _ ?_))
  obtain ⟨g1, g2⟩ := gS_bd (t := vt) hb h1 h2
  k_with "call ref" => (k_here; k_dflt (refine' con_int (gcd_con w _ _ _ _ _) ?k1 ?k2 ?k3 ?k4 ?k5 ?kK ?kd ?ku ?_; (case k2 => k_asm); (case k4 => k_asm); (case k1 => k_asm); (case k3 => k_asm); (case k5 => k_asm); (case kK => first | exact rfl | assumption); (case kd => first | exact room_ok hd (by decide) | ktr_room); (case ku => first | exact unit_ok hu (by decide) | ktr_units); intro tg h9 tk9 F9 N9; (try k_sweep); (try dsimp only); (try k_fold)))
  k_steps
  all_goals first
    | exact absurd (by with_reducible assumption) hb
    | (refine end_ref hret (ratio_p (by with_reducible assumption)) (by k_asm) (by k_asm) (by k_dflt k_mem) (by k_extra "my sub") (by k_extra "my ord"))
    | (refine end_ref hret (ratio_n (by with_reducible assumption)) (by k_asm) (by k_asm) (by k_dflt k_mem) (by k_extra "my sub") (by k_extra "my ord"))

def qT (t b : Int) : Int := t.fdiv (gS t b)
def qB (t b : Int) : Int := b.fdiv (gS t b)
set_option maxRecDepth 100000 in
set_option maxHeartbeats 8000000 in
theorem radd_con (w : World) (news : Led) (o1 o2 : Addr) (p1 q1 p2 q2 : Int) (t1 u1 t2 u2 : Tok) (i1 : (o1, tup2 p1 t1 q1 u1) ∈ news) (i2 : (o2, tup2 p2 t2 q2 u2) ∈ news) (a1 : -(2 ^ 12) < p1) (b1 : p1 < 2 ^ 12) (c1 : -(2 ^ 12) < q1) (d1 : q1 < 2 ^ 12) (a2 : -(2 ^ 12) < p2) (b2 : p2 < 2 ^ 12) (c2 : -(2 ^ 12) < q2) (d2 : q2 < 2 ^ 12)
    (hb : q1 * q2 ≠ 0) (e1 : -(2 ^ 28) < q1 * q2) (e2 : q1 * q2 < 2 ^ 28) : Con w 116 3 news [.ref o1, .ref o2] (OTup2 (qT (p1 * q2 + p2 * q1) (q1 * q2)) (qB (p1 * q2 + p2 * q1) (q1 * q2))) := by
  unfold Con
  k_fill
  intro mean mg mb dp un gd cn cs ac ccd cl outer A₀ base h₀ L m s Q E B F X N T hk hd hu hret
  refine wpAny_call ?_
  k_dflt cell_enter
  k_with_none
  k_with "my ord" => (first | assumption | exact ktn_ltOf (by assumption) | exact ktn_ltOf (And.right (by k_asm)) | exact ktn_ltOf (And.right (And.right (by k_asm))) | exact ktn_ltOf (And.right (And.right (And.right (by k_asm)))) | exact ktn_ltOf (And.right (And.right (And.right (And.right (by k_asm))))) | exact ktn_ltOf (And.right (And.right (And.right (And.right (And.right (by k_asm)))))))
  k_with "compareOp NotEq ref ref" => (k_here; (with_reducible show wpAny _ _ (compareOp CmpOp.NotEq (Value.ref _) (Value.ref _)) _ _ _); k_dflt ((refine ne_dataH (by ke_read) (by ke_read) (by ked_shaped) (by ked_shaped) (by ktr_units) ?_); ke_norm))
  k_with "compareOp Eq ref ref" => (k_here; (with_reducible show wpAny _ _ (compareOp CmpOp.Eq (Value.ref _) (Value.ref _)) _ _ _); k_dflt ((refine eq_dataH (by ke_read) (by ke_read) (by ked_shaped) (by ked_shaped) (by ktr_units) ?_); ke_norm))
  k_with "my suba" => (intro p hp; (repeat' first | exact hp | exact List.mem_append_left _ hp | exact List.mem_append_right _ hp | refine List.mem_cons_of_mem _ ?_))
  k_with "my sub" => (intro p hp; (repeat' first | exact hp | refine List.mem_cons_of_mem _ ?_))
  rename News _ _ _ _ => N9
  replace N9 := news_sub N9 (sub2 i1 i2 (fun _ h => h))
  k_with "call ref" => (k_here; k_dflt (refine' con_tup (ratio_con w _ _ _ _ _ hb e1 e2) ?k1 ?k2 ?k3 ?k4 ?k5 ?kK ?kd ?ku ?_; (case k2 => k_asm); (case k4 => k_asm); (case k1 => k_asm); (case k3 => k_asm); (case k5 => k_asm); (case kK => first | exact rfl | assumption); (case kd => first | exact room_ok hd (by decide) | ktr_room); (case ku => first | exact unit_ok hu (by decide) | ktr_units); intro ao to uo h9 tk9 F9 N9 l9; (try k_lt l9); (try k_sweep); (try dsimp only); (try k_fold)))
  k_steps
  refine end_ref hret (⟨ao, to, uo, rfl, rfl⟩) (by k_asm) (by k_asm) (by k_dflt k_mem) (by k_extra "my sub") (by k_extra "my ord")
set_option maxRecDepth 100000 in
set_option maxHeartbeats 8000000 in
theorem rsub_con (w : World) (news : Led) (o1 o2 : Addr) (p1 q1 p2 q2 : Int) (t1 u1 t2 u2 : Tok) (i1 : (o1, tup2 p1 t1 q1 u1) ∈ news) (i2 : (o2, tup2 p2 t2 q2 u2) ∈ news) (a1 : -(2 ^ 12) < p1) (b1 : p1 < 2 ^ 12) (c1 : -(2 ^ 12) < q1) (d1 : q1 < 2 ^ 12) (a2 : -(2 ^ 12) < p2) (b2 : p2 < 2 ^ 12) (c2 : -(2 ^ 12) < q2) (d2 : q2 < 2 ^ 12)
    (hb : q1 * q2 ≠ 0) (e1 : -(2 ^ 28) < q1 * q2) (e2 : q1 * q2 < 2 ^ 28) : Con w 123 3 news [.ref o1, .ref o2] (OTup2 (qT (p1 * q2 - p2 * q1) (q1 * q2)) (qB (p1 * q2 - p2 * q1) (q1 * q2))) := by
  unfold Con
  k_fill
  intro mean mg mb dp un gd cn cs ac ccd cl outer A₀ base h₀ L m s Q E B F X N T hk hd hu hret
  refine wpAny_call ?_
  k_dflt cell_enter
  k_with_none
  k_with "my ord" => (first | assumption | exact ktn_ltOf (by assumption) | exact ktn_ltOf (And.right (by k_asm)) | exact ktn_ltOf (And.right (And.right (by k_asm))) | exact ktn_ltOf (And.right (And.right (And.right (by k_asm)))) | exact ktn_ltOf (And.right (And.right (And.right (And.right (by k_asm))))) | exact ktn_ltOf (And.right (And.right (And.right (And.right (And.right (by k_asm)))))))
  k_with "compareOp NotEq ref ref" => (k_here; (with_reducible show wpAny _ _ (compareOp CmpOp.NotEq (Value.ref _) (Value.ref _)) _ _ _); k_dflt ((refine ne_dataH (by ke_read) (by ke_read) (by ked_shaped) (by ked_shaped) (by ktr_units) ?_); ke_norm))
  k_with "compareOp Eq ref ref" => (k_here; (with_reducible show wpAny _ _ (compareOp CmpOp.Eq (Value.ref _) (Value.ref _)) _ _ _); k_dflt ((refine eq_dataH (by ke_read) (by ke_read) (by ked_shaped) (by ked_shaped) (by ktr_units) ?_); ke_norm))
  k_with "my suba" => (intro p hp; (repeat' first | exact hp | exact List.mem_append_left _ hp | exact List.mem_append_right _ hp | refine List.mem_cons_of_mem _ ?_))
  k_with "my sub" => (intro p hp; (repeat' first | exact hp | refine List.mem_cons_of_mem _ ?_))
  rename News _ _ _ _ => N9
  replace N9 := news_sub N9 (sub2 i1 i2 (fun _ h => h))
  k_with "call ref" => (k_here; k_dflt (refine' con_tup (ratio_con w _ _ _ _ _ hb e1 e2) ?k1 ?k2 ?k3 ?k4 ?k5 ?kK ?kd ?ku ?_; (case k2 => k_asm); (case k4 => k_asm); (case k1 => k_asm); (case k3 => k_asm); (case k5 => k_asm); (case kK => first | exact rfl | assumption); (case kd => first | exact room_ok hd (by decide) | ktr_room); (case ku => first | exact unit_ok hu (by decide) | ktr_units); intro ao to uo h9 tk9 F9 N9 l9; (try k_lt l9); (try k_sweep); (try dsimp only); (try k_fold)))
  k_steps
  refine end_ref hret (⟨ao, to, uo, rfl, rfl⟩) (by k_asm) (by k_asm) (by k_dflt k_mem) (by k_extra "my sub") (by k_extra "my ord")
set_option maxRecDepth 100000 in
set_option maxHeartbeats 8000000 in
theorem rmul_con (w : World) (news : Led) (o1 o2 : Addr) (p1 q1 p2 q2 : Int) (t1 u1 t2 u2 : Tok) (i1 : (o1, tup2 p1 t1 q1 u1) ∈ news) (i2 : (o2, tup2 p2 t2 q2 u2) ∈ news) (a1 : -(2 ^ 12) < p1) (b1 : p1 < 2 ^ 12) (c1 : -(2 ^ 12) < q1) (d1 : q1 < 2 ^ 12) (a2 : -(2 ^ 12) < p2) (b2 : p2 < 2 ^ 12) (c2 : -(2 ^ 12) < q2) (d2 : q2 < 2 ^ 12)
    (hb : q1 * q2 ≠ 0) (e1 : -(2 ^ 28) < q1 * q2) (e2 : q1 * q2 < 2 ^ 28) : Con w 130 3 news [.ref o1, .ref o2] (OTup2 (qT (p1 * p2) (q1 * q2)) (qB (p1 * p2) (q1 * q2))) := by
  unfold Con
  k_fill
  intro mean mg mb dp un gd cn cs ac ccd cl outer A₀ base h₀ L m s Q E B F X N T hk hd hu hret
  refine wpAny_call ?_
  k_dflt cell_enter
  k_with_none
  k_with "my ord" => (first | assumption | exact ktn_ltOf (by assumption) | exact ktn_ltOf (And.right (by k_asm)) | exact ktn_ltOf (And.right (And.right (by k_asm))) | exact ktn_ltOf (And.right (And.right (And.right (by k_asm)))) | exact ktn_ltOf (And.right (And.right (And.right (And.right (by k_asm))))) | exact ktn_ltOf (And.right (And.right (And.right (And.right (And.right (by k_asm)))))))
  k_with "compareOp NotEq ref ref" => (k_here; (with_reducible show wpAny _ _ (compareOp CmpOp.NotEq (Value.ref _) (Value.ref _)) _ _ _); k_dflt ((refine ne_dataH (by ke_read) (by ke_read) (by ked_shaped) (by ked_shaped) (by ktr_units) ?_); ke_norm))
  k_with "compareOp Eq ref ref" => (k_here; (with_reducible show wpAny _ _ (compareOp CmpOp.Eq (Value.ref _) (Value.ref _)) _ _ _); k_dflt ((refine eq_dataH (by ke_read) (by ke_read) (by ked_shaped) (by ked_shaped) (by ktr_units) ?_); ke_norm))
  k_with "my suba" => (intro p hp; (repeat' first | exact hp | exact List.mem_append_left _ hp | exact List.mem_append_right _ hp | refine List.mem_cons_of_mem _ ?_))
  k_with "my sub" => (intro p hp; (repeat' first | exact hp | refine List.mem_cons_of_mem _ ?_))
  rename News _ _ _ _ => N9
  replace N9 := news_sub N9 (sub2 i1 i2 (fun _ h => h))
  k_with "call ref" => (k_here; k_dflt (refine' con_tup (ratio_con w _ _ _ _ _ hb e1 e2) ?k1 ?k2 ?k3 ?k4 ?k5 ?kK ?kd ?ku ?_; (case k2 => k_asm); (case k4 => k_asm); (case k1 => k_asm); (case k3 => k_asm); (case k5 => k_asm); (case kK => first | exact rfl | assumption); (case kd => first | exact room_ok hd (by decide) | ktr_room); (case ku => first | exact unit_ok hu (by decide) | ktr_units); intro ao to uo h9 tk9 F9 N9 l9; (try k_lt l9); (try k_sweep); (try dsimp only); (try k_fold)))
  k_steps
  refine end_ref hret (⟨ao, to, uo, rfl, rfl⟩) (by k_asm) (by k_asm) (by k_dflt k_mem) (by k_extra "my sub") (by k_extra "my ord")
set_option maxRecDepth 100000 in
set_option maxHeartbeats 8000000 in
theorem rdiv_con (w : World) (news : Led) (o1 o2 : Addr) (p1 q1 p2 q2 : Int) (t1 u1 t2 u2 : Tok) (i1 : (o1, tup2 p1 t1 q1 u1) ∈ news) (i2 : (o2, tup2 p2 t2 q2 u2) ∈ news) (a1 : -(2 ^ 12) < p1) (b1 : p1 < 2 ^ 12) (c1 : -(2 ^ 12) < q1) (d1 : q1 < 2 ^ 12) (a2 : -(2 ^ 12) < p2) (b2 : p2 < 2 ^ 12) (c2 : -(2 ^ 12) < q2) (d2 : q2 < 2 ^ 12)
    (hb : q1 * p2 ≠ 0) (e1 : -(2 ^ 28) < q1 * p2) (e2 : q1 * p2 < 2 ^ 28) : Con w 137 3 news [.ref o1, .ref o2] (OTup2 (qT (p1 * q2) (q1 * p2)) (qB (p1 * q2) (q1 * p2))) := by
  unfold Con
  k_fill
  intro mean mg mb dp un gd cn cs ac ccd cl outer A₀ base h₀ L m s Q E B F X N T hk hd hu hret
  refine wpAny_call ?_
  k_dflt cell_enter
  k_with_none
  k_with "my ord" => (first | assumption | exact ktn_ltOf (by assumption) | exact ktn_ltOf (And.right (by k_asm)) | exact ktn_ltOf (And.right (And.right (by k_asm))) | exact ktn_ltOf (And.right (And.right (And.right (by k_asm)))) | exact ktn_ltOf (And.right (And.right (And.right (And.right (by k_asm))))) | exact ktn_ltOf (And.right (And.right (And.right (And.right (And.right (by k_asm)))))))
  k_with "compareOp NotEq ref ref" => (k_here; (with_reducible show wpAny _ _ (compareOp CmpOp.NotEq (Value.ref _) (Value.ref _)) _ _ _); k_dflt ((refine ne_dataH (by ke_read) (by ke_read) (by ked_shaped) (by ked_shaped) (by ktr_units) ?_); ke_norm))
  k_with "compareOp Eq ref ref" => (k_here; (with_reducible show wpAny _ _ (compareOp CmpOp.Eq (Value.ref _) (Value.ref _)) _ _ _); k_dflt ((refine eq_dataH (by ke_read) (by ke_read) (by ked_shaped) (by ked_shaped) (by ktr_units) ?_); ke_norm))
  k_with "my suba" => (intro p hp; (repeat' first | exact hp | exact List.mem_append_left _ hp | exact List.mem_append_right _ hp | refine List.mem_cons_of_mem _ ?_))
  k_with "my sub" => (intro p hp; (repeat' first | exact hp | refine List.mem_cons_of_mem _ ?_))
  rename News _ _ _ _ => N9
  replace N9 := news_sub N9 (sub2 i1 i2 (fun _ h => h))
  k_with "call ref" => (k_here; k_dflt (refine' con_tup (ratio_con w _ _ _ _ _ hb e1 e2) ?k1 ?k2 ?k3 ?k4 ?k5 ?kK ?kd ?ku ?_; (case k2 => k_asm); (case k4 => k_asm); (case k1 => k_asm); (case k3 => k_asm); (case k5 => k_asm); (case kK => first | exact rfl | assumption); (case kd => first | exact room_ok hd (by decide) | ktr_room); (case ku => first | exact unit_ok hu (by decide) | ktr_units); intro ao to uo h9 tk9 F9 N9 l9; (try k_lt l9); (try k_sweep); (try dsimp only); (try k_fold)))
  k_steps
  refine end_ref hret (⟨ao, to, uo, rfl, rfl⟩) (by k_asm) (by k_asm) (by k_dflt k_mem) (by k_extra "my sub") (by k_extra "my ord")

def StepR (f : Option (Int × Int)) (p : Int × Int) (f' : Option (Int × Int)) : Prop := match f with
  | none => f' = none
  | some (r1, m1) => ((p.1 - r1).fmod (m1.gcd p.2 : Nat) = 0 ∧ ∃ x, 0 ≤ x ∧ x < m1.fdiv (m1.gcd p.2 : Nat) * p.2 ∧ m1 ∣ x - r1 ∧ p.2 ∣ x - p.1 ∧ f' = some (x, m1.fdiv (m1.gcd p.2 : Nat) * p.2)) ∨ (¬ (p.1 - r1).fmod (m1.gcd p.2 : Nat) = 0 ∧ f' = none)
def ChR : Option (Int × Int) → List (Int × Int) → Option (Int × Int) → Prop
  | f, [], g => g = f
  | f, p :: ps, g => ∃ f', StepR f p f' ∧ ChR f' ps g
def prodM : List (Int × Int) → Int
  | [] => 1
  | p :: ps => p.2 * prodM ps
def PairsIn (news : Led) : List Value → List (Int × Int) → Prop
  | [], [] => True
  | v :: vs, p :: ps => (∃ a t u, v = .ref a ∧ (a, tup2 p.1 t p.2 u) ∈ news) ∧ PairsIn news vs ps
  | _, _ => False
def PairsOk (ps : List (Int × Int)) : Prop := ∀ p ∈ ps, 0 ≤ p.1 ∧ p.1 < 2 ^ 28 ∧ 0 < p.2
theorem pairs_at {news : Led} : ∀ {vs : List Value} {ps : List (Int × Int)} {i : Nat} {v : Value}, PairsIn news vs ps → vs[i]? = some v → ∃ p q, ps.drop i = p :: q ∧ ps.drop (i + 1) = q ∧ p ∈ ps ∧ ∃ a t u, v = .ref a ∧ (a, tup2 p.1 t p.2 u) ∈ news
  | [], [], i, v, h, e => by simp at e
  | [], _ :: _, _, _, h, _ => h.elim
  | _ :: _, [], _, _, h, _ => h.elim
  | x :: vs, p :: ps, 0, v, h, e => by
    simp at e; subst e
    exact ⟨p, ps, rfl, rfl, List.mem_cons_self, h.1⟩
  | x :: vs, p :: ps, i + 1, v, h, e => by
    simp at e
    obtain ⟨p', q, e1, e2, hm, r⟩ := pairs_at h.2 e
    exact ⟨p', q, e1, e2, List.mem_cons_of_mem _ hm, r⟩
theorem pairs_len {news : Led} : ∀ {vs : List Value} {ps : List (Int × Int)}, PairsIn news vs ps → vs.length = ps.length
  | [], [], _ => rfl
  | [], _ :: _, h => h.elim
  | _ :: _, [], h => h.elim
  | x :: vs, p :: ps, h => by rw [List.length_cons, List.length_cons, pairs_len h.2]
theorem prod_pos {ps : List (Int × Int)} (h : PairsOk ps) : 0 < prodM ps := by
  induction ps with
  | nil => exact Int.zero_lt_one
  | cons p ps ih => exact Int.mul_pos (h p List.mem_cons_self).2.2 (ih fun q hq => h q (List.mem_cons_of_mem _ hq))
theorem pairsOk_drop {ps q : List (Int × Int)} {i : Nat} (h : PairsOk ps) (e : ps.drop i = q) : PairsOk q := fun p hp => h p (List.mem_of_mem_drop (by rw [e]; exact hp))
/-- the state between the turns -/
def ChI (ps : List (Int × Int)) (i : Nat) (f : Option (Int × Int)) : Prop :=
  (∀ g, ChR f (ps.drop i) g → ChR (some (0, 1)) ps g) ∧ match f with | none => True | some (x, M) => 0 ≤ x ∧ x < M ∧ M * prodM (ps.drop i) < 2 ^ 28
def ChJ (news : Led) (ps : List (Int × Int)) (i : Nat) (m : Str → Option Value) (nx : Led) : Prop :=
  (∃ x M o t u, m (Str.ofString "found") = some (.ref o) ∧ nx = (o, tup2 x t M u) :: news ∧ (∀ p ∈ news, p.1 < o) ∧ ChI ps i (some (x, M))) ∨ (m (Str.ofString "found") = some .none ∧ nx = news ∧ ChI ps i none)
theorem chI_bd {ps : List (Int × Int)} {i : Nat} {x M : Int} {p : Int × Int} {q : List (Int × Int)} (hok : PairsOk ps) (h : ChI ps i (some (x, M))) (e : ps.drop i = p :: q) : 0 < M ∧ M < 2 ^ 28 ∧ p.2 < 2 ^ 28 ∧ x < 2 ^ 28 := by
  obtain ⟨_, h0, h1, h2⟩ := h
  have hq := prod_pos (pairsOk_drop hok e)
  rw [e] at h2
  have hp := hok p (List.mem_of_mem_drop (by rw [e]; exact List.mem_cons_self))
  have hM : 0 < M := by omega
  have hr : 0 < prodM q := prod_pos fun z hz => pairsOk_drop hok e z (List.mem_cons_of_mem _ hz)
  have e3 : prodM (p :: q) = p.2 * prodM q := rfl
  rw [e3] at h2 hq
  have a1 : M * 1 ≤ M * (p.2 * prodM q) := Int.mul_le_mul_of_nonneg_left (by omega) (by omega)
  have a2 : p.2 * 1 ≤ p.2 * prodM q := Int.mul_le_mul_of_nonneg_left (by omega) (by omega)
  have a3 : 1 * (p.2 * prodM q) ≤ M * (p.2 * prodM q) := Int.mul_le_mul_of_nonneg_right (by omega) (by omega)
  omega
theorem chI_some {ps : List (Int × Int)} {i : Nat} {x M : Int} {p : Int × Int} {q : List (Int × Int)} {x' : Int} (hok : PairsOk ps) (h : ChI ps i (some (x, M))) (e : ps.drop i = p :: q) (e2 : ps.drop (i + 1) = q)
    (hs : StepR (some (x, M)) p (some (x', M.fdiv (M.gcd p.2 : Nat) * p.2))) (h0 : 0 ≤ x') (h1 : x' < M.fdiv (M.gcd p.2 : Nat) * p.2) : ChI ps (i + 1) (some (x', M.fdiv (M.gcd p.2 : Nat) * p.2)) := by
  have hb := chI_bd hok h e
  obtain ⟨hc, _, _, h2⟩ := h
  refine ⟨fun g hg => hc g ?_, h0, h1, ?_⟩
  · rw [e]; rw [e2] at hg; exact ⟨_, hs, hg⟩
  · rw [e2]; rw [e] at h2
    have hr : 0 < prodM q := prod_pos fun z hz => pairsOk_drop hok e z (List.mem_cons_of_mem _ hz)
    have hp := hok p (List.mem_of_mem_drop (by rw [e]; exact List.mem_cons_self))
    have hle : M.fdiv (M.gcd p.2 : Nat) ≤ M := by
      rw [Int.fdiv_eq_ediv_of_nonneg _ (by omega)]; exact Int.ediv_le_self _ (by omega)
    have a1 : M.fdiv (M.gcd p.2 : Nat) * (p.2 * prodM q) ≤ M * (p.2 * prodM q) := Int.mul_le_mul_of_nonneg_right hle (Int.le_of_lt (Int.mul_pos hp.2.2 hr))
    have e3 : prodM (p :: q) = p.2 * prodM q := rfl
    rw [e3] at h2
    rw [Int.mul_assoc]
    omega
theorem chI_none {ps : List (Int × Int)} {i : Nat} {f : Option (Int × Int)} {p : Int × Int} {q : List (Int × Int)} (h : ChI ps i f) (e : ps.drop i = p :: q) (e2 : ps.drop (i + 1) = q) (hs : StepR f p none) : ChI ps (i + 1) none := by
  obtain ⟨hc, _⟩ := h
  refine ⟨fun g hg => hc g ?_, trivial⟩
  rw [e]; rw [e2] at hg; exact ⟨_, hs, hg⟩
def OCh (ps : List (Int × Int)) : Rt := fun r out => ∃ g, ChR (some (0, 1)) ps g ∧ OOpt g r out
theorem och2_or {r1 m1 r2 m2 : Int} {r : Value} {out : Led} (h : OCh2 r1 m1 r2 m2 r out) :
    (∃ x o t u, r = .ref o ∧ out = [(o, tup2 x t (m1.fdiv (m1.gcd m2 : Nat) * m2) u)] ∧ 0 ≤ x ∧ x < m1.fdiv (m1.gcd m2 : Nat) * m2 ∧ StepR (some (r1, m1)) (r2, m2) (some (x, m1.fdiv (m1.gcd m2 : Nat) * m2))) ∨ (r = .none ∧ out = [] ∧ StepR (some (r1, m1)) (r2, m2) none) := by
  unfold OCh2 at h
  split at h
  · next hd =>
    obtain ⟨x, h0, h1, h2, h3, o, t, u, rfl, rfl⟩ := h
    exact .inl ⟨x, o, t, u, rfl, rfl, h0, h1, .inl ⟨hd, x, h0, h1, h2, h3, rfl⟩⟩
  · next hd => exact .inr ⟨h.1, h.2, .inr ⟨hd, rfl⟩⟩
theorem chI_start {ps : List (Int × Int)} (hpr : prodM ps < 2 ^ 28) : ChI ps 0 (some (0, 1)) := ⟨fun _ h => h, by omega, by omega, by rw [List.drop_zero, Int.one_mul]; exact hpr⟩
theorem chI_end {ps : List (Int × Int)} {f : Option (Int × Int)} {n : Nat} (hn : n = ps.length) (h : ChI ps n f) : ChR (some (0, 1)) ps f := h.1 f (by rw [hn, List.drop_length]; rfl)
theorem off_new {own news : Led} {o o' : Addr} {b b' : Obj} (h : OwnOff own (((o, b) :: news).map (·.1))) (l : AllLt o' (news ++ own)) : OwnOff own (((o', b') :: news).map (·.1)) := by
  intro p hp z hz
  rcases List.mem_cons.mp hz with rfl | hz
  · exact Nat.ne_of_lt (ktn_ltOf l p (List.mem_append_right _ hp))
  · exact h p hp z (List.mem_cons_of_mem _ hz)
theorem off_less {own news : Led} {o : Addr} {b : Obj} (h : OwnOff own (((o, b) :: news).map (·.1))) : OwnOff own (news.map (·.1)) := fun p hp z hz => h p hp z (List.mem_cons_of_mem _ hz)
theorem lt_left {o' : Addr} {news own : Led} (l : AllLt o' (news ++ own)) : ∀ p ∈ news, p.1 < o' := fun p hp => ktn_ltOf l p (List.mem_append_left _ hp)
set_option maxRecDepth 100000 in
set_option maxHeartbeats 8000000 in
theorem ch_con (w : World) (news : Led) (l : Addr) (vs : List Value) (nn : Nat) (ps : List (Int × Int)) (hl : (l, listOf vs.toArray nn) ∈ news) (hin : PairsIn news vs ps) (hok : PairsOk ps) (hpr : prodM ps < 2 ^ 28) : Con w 63 3 news [.ref l] (OCh ps) := by
  unfold Con
  k_fill
  intro mean mg mb dp un gd cn cs ac ccd cl outer A₀ base h₀ L m s Q E B F X N T hk hd hu hret
  refine wpAny_call ?_
  k_dflt cell_enter
  k_with_none
  k_with "my ord" => (first | assumption | exact ktn_ltOf (by assumption) | exact ktn_ltOf (And.right (by k_asm)) | exact ktn_ltOf (And.right (And.right (by k_asm))) | exact ktn_ltOf (And.right (And.right (And.right (by k_asm)))) | exact ktn_ltOf (And.right (And.right (And.right (And.right (by k_asm))))) | exact ktn_ltOf (And.right (And.right (And.right (And.right (And.right (by k_asm)))))))
  k_with "compareOp NotEq ref ref" => (k_here; (with_reducible show wpAny _ _ (compareOp CmpOp.NotEq (Value.ref _) (Value.ref _)) _ _ _); k_dflt ((refine ne_dataH (by ke_read) (by ke_read) (by ked_shaped) (by ked_shaped) (by ktr_units) ?_); ke_norm))
  k_with "compareOp Eq ref ref" => (k_here; (with_reducible show wpAny _ _ (compareOp CmpOp.Eq (Value.ref _) (Value.ref _)) _ _ _); k_dflt ((refine eq_dataH (by ke_read) (by ke_read) (by ked_shaped) (by ked_shaped) (by ktr_units) ?_); ke_norm))
  k_with "my suba" => (intro p hp; (repeat' first | exact hp | exact List.mem_append_left _ hp | exact List.mem_append_right _ hp | refine List.mem_cons_of_mem _ ?_))
  k_with "my sub" => (intro p hp; (repeat' first | exact hp | refine List.mem_cons_of_mem _ ?_))
  have hlen := pairs_len hin
  k_with "pyIter ref" => (k_dflt (
    (rename Fr _ _ _ _ => lF'); (rename News _ _ _ _ => lN')
    refine kdl_iter (ChJ news ps) (by rfl) (List.mem_cons_of_mem _ hl) lF' lN' (.inl ⟨0, 1, _, _, _, by with_unfolding_all rfl, rfl, by k_extra "my ord", chI_start hpr⟩) (fun i v m₁ news₁ h₁ tk₁ own hv hoff hl₁ hJ F₁ N₁ => ?tn) (fun m₁ news₁ h₁ tk₁ hJ F₁ N₁ => ?fn)
    case' tn => (
      clear lF' lN'
      obtain ⟨p, q, e1, e2, hp, ap, tp, up, rfl, hm⟩ := pairs_at hin hv
      have hpo := hok p hp
      rcases hJ with ⟨x, M, o, t2, u2, e3, rfl, lo, hI⟩ | ⟨e3, rfl, hI⟩
      case' inl => (
        replace F₁ := fr_say F₁ (show (if Str.ofString "found" = Str.ofString "pair" then some (Value.ref ap) else m₁ (Str.ofString "found")) = some (.ref o) by rw [if_neg (by decide)]; exact e3)
        rw [List.cons_append] at N₁
        replace N₁ := news_sub N₁ (sub1 (List.mem_cons_of_mem _ (List.mem_append_left own hm)) fun _ h => h)
        have hb := chI_bd hok hI e1
        have hx0 := hI.2.1
        clear hl₁ hv
        (try k_fold))
      case' inr => (
        replace F₁ := fr_say F₁ (show (if Str.ofString "found" = Str.ofString "pair" then some (Value.ref ap) else m₁ (Str.ofString "found")) = some .none by rw [if_neg (by decide)]; exact e3)
        clear hl₁ hv
        (try k_fold)))
    case' fn => (
      clear lF' lN'
      rcases hJ with ⟨x, M, o, t2, u2, e3, rfl, lo, hI⟩ | ⟨e3, rfl, hI⟩
      case' inl => (replace F₁ := fr_say F₁ e3; (try k_fold))
      case' inr => (replace F₁ := fr_say F₁ e3; (try k_fold)))))
  k_with "call ref" => (k_here; k_dflt (refine' con_use (con_mono (ch2_con w _ _ _ _ _ _ _ _ _ _ _ ?m1 ?m2 ?s1 ?s2 ?s3 ?s4 ?s5 ?s6 ?s7 ?s8) (fun _ _ h => och2_or h)) ?k1 ?k2 ?k3 ?k4 ?k5 ?kK ?kd ?ku ?_; (case k2 => k_asm); (case k4 => k_asm); (case m1 => k_mem); (case m2 => k_mem); (case s1 => first | with_reducible assumption | omega); (case s2 => first | with_reducible assumption | omega); (case s3 => first | with_reducible assumption | omega); (case s4 => first | with_reducible assumption | omega); (case s5 => first | with_reducible assumption | omega); (case s6 => first | with_reducible assumption | omega); (case s7 => first | with_reducible assumption | omega); (case s8 => first | with_reducible assumption | omega); (case k1 => k_asm); (case k3 => k_asm); (case k5 => k_asm); (case kK => first | exact rfl | assumption); (case kd => first | exact room_ok hd (by decide) | ktr_room); (case ku => first | exact unit_ok hu (by decide) | ktr_units); intro r9 out9 h9 tk9 F9 N9 l9 ho9; obtain ⟨x', o', t', u', rfl, rfl, b0, b1, hs⟩ | ⟨rfl, rfl, hs⟩ := ho9; all_goals ((try dsimp only [List.nil_append, List.cons_append] at N9); (try (replace l9 := fun p hp => l9 p hp _ (List.mem_singleton_self _); k_lt l9)); (try k_sweep); (try dsimp only); (try k_fold))))
  k_steps
  · refine end_none hret (⟨none, chI_end hlen hI, rfl, rfl⟩) (by k_asm) (by k_asm) (by k_extra "my sub")
  · refine end_ref hret (⟨some (x, M), chI_end hlen hI, o, t2, u2, rfl, rfl⟩) (by k_asm) (by k_asm) (by k_dflt k_mem) (by k_extra "my sub") (by k_extra "my ord")
  · refine InvEndG.intro (by assumption) (by assumption) ⟨hl, .inr ⟨by with_unfolding_all rfl, rfl, chI_none hI e1 e2 rfl⟩⟩ hoff (by k_extra "my suba") (by k_extra "my suba")
  · refine InvEndG.intro (by assumption) (by assumption) ⟨List.mem_cons_of_mem _ hl, .inl ⟨x', _, o', t', u', by with_unfolding_all rfl, rfl, lt_left l9.2.2, chI_some hok hI e1 e2 hs b0 b1⟩⟩ (off_new hoff l9.2.2) (sub1 List.mem_cons_self (by k_extra "my suba")) (by k_extra "my suba")
  · refine InvEndG.intro (by assumption) (by assumption) ⟨hl, .inr ⟨by with_unfolding_all rfl, rfl, chI_none hI e1 e2 hs⟩⟩ (off_less hoff) (by k_extra "my suba") (by k_extra "my suba")

/-- a comprehension over a list of pairs of ints, whose one test is false at each: what is asked of its source -/
def PnSrc (prog : Program) (w : World) (A : Around) (h₀ : Heap) (L : Addr) (m : Str → Option Value) (env : Env) (ct : PySem.Expr) (x x₂ : Str) (scope : Scope) (cl : List (Str × Addr)) (Q : Value → Shared → Prop) (xv : Value) (s₁ : Shared) : Prop :=
  ∃ (ax : Addr) (vs : List Value) (nn : Nat) (ps : List (Int × Int)) (news : Led), xv = .ref ax ∧ Fr h₀ L s₁.heap m ∧ News h₀ L s₁.heap news ∧ (ax, listOf vs.toArray nn) ∈ news ∧ PairsIn news vs ps ∧
    (∀ p ∈ ps, ∀ I oI C oC D m₂ h tk t u (E' : Value → Shared → Prop), LCg.NsObj oC m₂ → m₂ x = some (.int p.1 t) → m₂ x₂ = some (.int p.2 u) → Fr h₀ L h m → News h₀ L h ((I, oI) :: (C, oC) :: (D, LCg.lst []) :: news) → LCg.Off3 I C D news → ((@Ne Nat I C) ∧ (@Ne Nat I D) ∧ (@Ne Nat C D)) →
      wpAny (model prog w) A (isTrue ct (compEnvC scope cl C env) (eval ct (compEnvC scope cl C env))) (fun ok s' => ok = false ∧ ∃ h' tk', s' = { s₁ with heap := h', toks := tk' } ∧ Fr h₀ L h' m ∧ News h₀ L h' ((I, oI) :: (C, oC) :: (D, LCg.lst []) :: news)) E' { s₁ with heap := h, toks := tk }) ∧
    (∀ D h tk, Fr h₀ L h m → News h₀ L h ((D, LCg.lst []) :: news) → (∀ p ∈ news, p.1 < D) → Q (.ref D) { s₁ with heap := h, toks := tk })
section
variable {prog : Program} {w : World} {A : Around} {E : Value → Shared → Prop} {s : Shared} {h₀ : Heap} {L : Addr} {m : Str → Option Value} {env : Env}
theorem pn_comp {ct elt iter : PySem.Expr} {x x₂ : Str} {px px₂ tp : Pos} {tk9 : Nat} {scope : Scope} {cl : List (Str × Addr)} {pos : Pos} {Q : Value → Shared → Prop} (_F₀ : Fr h₀ L s.heap m) (hh : A.handled = none)
    (hclos : closureFor scope env = pure cl) (hcell : ∀ y ∈ scope.names, y.2 ≠ .cell) (hkind : scope.kind = .function)
    (hnames : ∀ y ∈ scope.names, y.2 = .local → scope.names.lookup y.1 = some .local) (hx : scope.names.lookup x = some .local) (hx₂ : scope.names.lookup x₂ = some .local) (hxx : x ≠ x₂)
    (h : wpAny (model prog w) A (eval iter env) (PnSrc prog w A h₀ L m env ct x x₂ scope cl Q) E s)
    (hs : ∀ x, foldedSetIterable iter env x = pure x := by intro _; rfl) :
    wpAny (model prog w) A (eval (.ListComp elt [⟨.Tuple [.Name x px, .Name x₂ px₂] tk9 tp, iter, [ct], 0⟩] scope pos) env) Q E s := by
  rw [eval_ListComp]
  refine wpAny_comprehension_free (use := none) rfl hs hclos hkind hnames (wpAny_mono h (fun xv s₁ h₁ => ?_) fun _ _ e => e)
  obtain ⟨ax, vs, nn, ps, news, rfl, F, N, hm, hin, turn, fin⟩ := h₁
  have hget := (N _ hm).1
  have hl : s₁.heap.IsList ax vs.toArray := ⟨_, hget, rfl, nn, rfl⟩
  have hax : @LT.lt Nat _ ax s₁.heap.objs.size := Heap.lt_size hget
  have hLs : @LT.lt Nat _ L s₁.heap.objs.size := F.ns.lt
  refine wpAny_pyIter_list hl ?_
  obtain ⟨I, hI⟩ : ∃ I : Nat, s₁.heap.objs.size = I := ⟨_, rfl⟩
  rw [hI] at hax hLs ⊢
  have hIit : (s₁.heap.push { cls := .type "list_iterator", data := .fields #[.ref ax, .int 0 0] }).IsListIter I ax 0 := ⟨_, hI ▸ Heap.get?_push_size _ rfl, rfl, rfl⟩
  have hIsz : (s₁.heap.push { cls := .type "list_iterator", data := .fields #[.ref ax, .int 0 0] }).objs.size = I + 1 := by rw [Heap.size_push, hI]
  have up1 : ∀ b o, s₁.heap.get? b = some o → (s₁.heap.push { cls := .type "list_iterator", data := .fields #[.ref ax, .int 0 0] }).get? b = some o := fun b o e => Heap.get?_push_of_some _ e
  generalize s₁.heap.push { cls := .type "list_iterator", data := .fields #[.ref ax, .int 0 0] } = H1 at *
  refine wpAny_newObj_type (wpAny_newFunctionEnv hcell (by intro y hy; simp at hy) (fun h₁ hns₁ hsb₁ => ?_) hkind)
  dsimp only at hns₁ hsb₁ ⊢
  have hD : (H1.push { cls := .type "list", data := .seq ([] : List Value).toArray }).get? (I + 1) = some (LCg.lst []) := by
    have := Heap.get?_push_size (h := H1) (o := LCg.lst []) rfl
    rw [hIsz] at this; exact this
  have hDsz : (H1.push { cls := .type "list", data := .seq ([] : List Value).toArray }).objs.size = I + 2 := by rw [Heap.size_push, hIsz]
  have up2 : ∀ b o, H1.get? b = some o → (H1.push { cls := .type "list", data := .seq ([] : List Value).toArray }).get? b = some o := fun b o e => Heap.get?_push_of_some _ e
  rw [hIsz]
  generalize H1.push { cls := .type "list", dict := none, data := .seq ([] : List Value).toArray } = H2 at *
  rw [hDsz] at hns₁ hsb₁ ⊢
  have above : ∀ a : Nat, I ≤ a → h₀.get? a = none := fun a ha => Heap.get?_none_of_le (by have h1 : @LE.le Nat _ h₀.objs.size L := F.above; show @LE.le Nat _ _ _; omega)
  have old : ∀ b o, b ≠ I + 2 → H2.get? b = some o → h₁.get? b = some o := fun b o hb e => hsb₁.extBut b o hb (Heap.get?_push_of_some _ e)
  have old0 : ∀ b o, s₁.heap.get? b = some o → h₁.get? b = some o := fun b o e => old b o (neN (by have h1 : @LT.lt Nat _ b s₁.heap.objs.size := Heap.lt_size e; omega)) (up2 _ _ (up1 _ _ e))
  have hlt9 : ∀ p ∈ news, @LT.lt Nat _ p.1 I := fun p hp => hI ▸ Heap.lt_size (N p hp).1
  have hCL : @Ne Nat (I + 2) L := by omega
  have hC₀ : h₀.get? (I + 2) = none := above _ (by omega)
  have W := Walks.list (prog := prog) (w := w) hh I ax (neN (by omega)) vs.toArray
  have hsize : vs.toArray.size = vs.length := by simp
  rw [hsize] at W
  have loop : ∀ s₃ : Shared, s₃ = { s₁ with heap := h₁, toks := s₁.toks + ([] : List (Str × Value)).length } →
      codeAny (model prog w) A (.compLoop (.ListComp elt [⟨.Tuple [.Name x px, .Name x₂ px₂] tk9 tp, iter, [ct], 0⟩] scope pos) 0 (.ref I) (.ref (I + 1)) (compEnvC scope cl (I + 2) env)) (compPost (model prog w) A E none Q (.ref (I + 1)) (I + 2)) s₃ := by
    rintro s₃ rfl
    refine kct_loop (fun k s' => ∃ h' tk i m', s' = { s₁ with heap := h', toks := tk } ∧ i ≤ vs.length ∧ k = vs.length + 1 - i ∧ (h'.IsListIter I ax i ∧ h'.IsList ax vs.toArray) ∧ Fr h₀ L h' m ∧ h'.Ns (I + 2) m' ∧ News h₀ L h' ((I + 1, LCg.lst []) :: news)) ?_ (vs.length + 1)
      ⟨h₁, _, 0, _, rfl, Nat.zero_le _, rfl, ⟨hIit.at fun o e => old _ o (neN (by omega)) (up2 _ _ e), hl.at fun o e => old0 _ o e⟩, F.keeps old0, hns₁, fun p hp => ?_⟩
    · rintro k s' ⟨h', tk, i, m', rfl, hi, rfl, hst, F', hn', N'⟩
      by_cases hlt : i < vs.length
      · refine W.item i _ _ _ hlt hst fun v h₂ tk₂ hPv hst₂ hk₂ => ?_
        have hv : vs[i]? = some v := by simpa using hPv
        obtain ⟨p, q, -, -, hp, ap, tp9, up9, rfl, hmp⟩ := pairs_at hin hv
        have k2 : ∀ b o, b ≠ I → h'.get? b = some o → h₂.get? b = some o := fun b o hb e => hk₂ b o (by simpa using hb) e
        have ht : IsTup h₂ ap #[.int p.1 tp9, .int p.2 up9] := ⟨_, k2 _ _ (neN (by have := hlt9 _ hmp; simp at this; omega)) (N' _ (List.mem_cons_of_mem _ hmp)).1, rfl, _, rfl⟩
        refine wpAny_letOwnedTupleGo_listiter hst₂.1 ?_
        refine assign_Tuple_tuple hh ht rfl rfl fun h₅ he => ?_
        have k5 : ∀ b o, h₂.get? b = some o → h₅.get? b = some o := fun b o e => he b o (Nat.ne_of_lt (Heap.lt_size e)) e
        refine assignInOrder_cons (wpAny_assign_Name (wpAny_storeName_local (lookup_relabel_local hx) ((hn'.at' fun o e => k2 _ o (neN (by omega)) e).at' fun o e => k5 _ o e) (fun h₆ hn₆ hs₆ => ?_) (by simp [compEnvC, relabel, hkind])))
        refine assignInOrder_cons (wpAny_assign_Name (wpAny_storeName_local (lookup_relabel_local hx₂) hn₆ (fun h₃ hn₃ hs₃ => ?_) (by simp [compEnvC, relabel, hkind])))
        refine assignInOrder_nil ?_
        have k3 : ∀ b o, b ≠ I + 2 → h₂.get? b = some o → h₃.get? b = some o := fun b o hb e => hs₃.extBut b o hb (hs₆.extBut b o hb (k5 b o e))
        have hst₃ : h₃.IsListIter I ax (i + 1) ∧ h₃.IsList ax vs.toArray := ⟨hst₂.1.at fun o e => k3 _ o (neN (by omega)) e, hst₂.2.at fun o e => k3 _ o (neN (by omega)) e⟩
        obtain ⟨oI, heI, hoI⟩ := id hst₃.1
        obtain ⟨oC, heC, hoC⟩ := LCg.ns_obj hn₃
        have F₃ : Fr h₀ L h₃ m := ⟨F'.ns.at' fun o e => k3 _ o (neN (by omega)) (k2 _ o (neN (by omega)) e), fun b o e => k3 b o (fun hb => by rw [hb, hC₀] at e; cases e) (k2 b o (fun hb => by rw [hb, above I (Nat.le_refl _)] at e; cases e) (F'.keep b o e)), F'.above⟩
        have N₃ : News h₀ L h₃ ((I, oI) :: (I + 2, oC) :: (I + 1, LCg.lst []) :: news) := by
          intro p hp
          rcases List.mem_cons.mp hp with rfl | hp
          · exact ⟨heI, Nat.ne_of_gt hLs, above _ (Nat.le_refl _)⟩
          · rcases List.mem_cons.mp hp with rfl | hp
            · exact ⟨heC, hCL, hC₀⟩
            · have z := N' p hp
              have hb : @Ne Nat p.1 I ∧ @Ne Nat p.1 (I + 2) := by
                rcases List.mem_cons.mp hp with rfl | hp
                · exact ⟨by show @Ne Nat (I + 1) I; omega, by show @Ne Nat (I + 1) (I + 2); omega⟩
                · have := hlt9 _ hp
                  exact ⟨by omega, by omega⟩
              exact ⟨k3 _ _ hb.2 (k2 _ _ hb.1 z.1), z.2⟩
        refine wpAny_mono (turn p hp I oI (I + 2) oC (I + 1) _ h₃ _ tp9 up9 _ hoC (by simp [hxx]) (by simp) F₃ N₃ (LCg.Off3.of fun p hp => by have := hlt9 p hp; exact ⟨neN (by omega), neN (by omega), neN (by omega)⟩) ⟨by omega, by omega, by omega⟩) (fun ok s₄ h₄ => ?_) fun _ _ e => e
        obtain ⟨rfl, h₇, tk₇, rfl, F₇, N₇⟩ := h₄
        simp only [Bool.false_eq_true, if_false]
        refine ⟨vs.length + 1 - (i + 1), by omega, h₇, tk₇, i + 1, _, rfl, hlt, rfl, ⟨⟨oI, (N₇ _ List.mem_cons_self).1, hoI⟩, hl.at fun o e => ?_⟩, F₇, hoC.ns (N₇ (I + 2, oC) (List.mem_cons_of_mem _ List.mem_cons_self)).1, fun p hp => N₇ p (List.mem_cons_of_mem _ (List.mem_cons_of_mem _ hp))⟩
        rw [hget] at e; cases e
        exact (N₇ _ (List.mem_cons_of_mem _ (List.mem_cons_of_mem _ (List.mem_cons_of_mem _ hm)))).1
      · obtain rfl : i = vs.length := by omega
        refine W.done _ _ _ hst fun h₂ tk₂ hk₂ => ?_
        have k2 : ∀ b o, b ≠ I → h'.get? b = some o → h₂.get? b = some o := fun b o hb e => hk₂ b o (by simpa using hb) e
        refine ⟨m', hn'.at' fun o e => k2 _ o (neN (by omega)) e, fun h'' hs'' => fin (I + 1) h'' tk₂ ?_ (fun p hp => ?_) fun p hp => by have := hlt9 p hp; exact ltN (by omega)⟩
        · have F₂ : Fr h₀ L h₂ m := ⟨F'.ns.at' fun o e => k2 _ o (neN (by omega)) e, fun b o e => k2 b o (fun hb => by rw [hb, above I (Nat.le_refl _)] at e; cases e) (F'.keep b o e), F'.above⟩
          exact F₂.change hs'' hCL hC₀
        · have z := N' p hp
          have hb : @Ne Nat p.1 I ∧ @Ne Nat p.1 (I + 2) := by
            rcases List.mem_cons.mp hp with rfl | hp
            · exact ⟨by show @Ne Nat (I + 1) I; omega, by show @Ne Nat (I + 1) (I + 2); omega⟩
            · have := hlt9 _ hp
              exact ⟨by omega, by omega⟩
          exact ⟨hs''.extBut _ _ hb.2 (k2 _ _ hb.1 z.1), z.2⟩
    · rcases List.mem_cons.mp hp with rfl | hp
      · exact ⟨old _ _ (by show @Ne Nat (I + 1) (I + 2); omega) hD, by show @Ne Nat (I + 1) L; omega, above _ (by show @LE.le Nat _ I (I + 1); omega)⟩
      · exact ⟨old0 _ _ (N p hp).1, (N p hp).2⟩
  exact codeAny_compStart_list (loop _ rfl) (W.self 0 _ _ _ ⟨hIit.at fun o e => old _ o (neN (by omega)) (up2 _ _ e), hl.at fun o e => old0 _ o e⟩ (loop _ rfl))
theorem pn_intro {ct : PySem.Expr} {x x₂ : Str} {scope : Scope} {cl : List (Str × Addr)} {Q : Value → Shared → Prop} {ax : Addr} {vs : List Value} {nn : Nat} {ps : List (Int × Int)} {news : Led} {s₁ : Shared} (_hok : PairsOk ps) (F : Fr h₀ L s₁.heap m) (N : News h₀ L s₁.heap news) (hm : (ax, listOf vs.toArray nn) ∈ news) (hin : PairsIn news vs ps)
    (turn : ∀ p ∈ ps, ∀ I oI C oC D m₂ h tk t u (E' : Value → Shared → Prop), LCg.NsObj oC m₂ → m₂ x = some (.int p.1 t) → m₂ x₂ = some (.int p.2 u) → Fr h₀ L h m → News h₀ L h ((I, oI) :: (C, oC) :: (D, LCg.lst []) :: news) → LCg.Off3 I C D news → ((@Ne Nat I C) ∧ (@Ne Nat I D) ∧ (@Ne Nat C D)) →
      wpAny (model prog w) A (isTrue ct (compEnvC scope cl C env) (eval ct (compEnvC scope cl C env))) (fun ok s' => ok = false ∧ ∃ h' tk', s' = { s₁ with heap := h', toks := tk' } ∧ Fr h₀ L h' m ∧ News h₀ L h' ((I, oI) :: (C, oC) :: (D, LCg.lst []) :: news)) E' { s₁ with heap := h, toks := tk })
    (fin : ∀ D h tk, Fr h₀ L h m → News h₀ L h ((D, LCg.lst []) :: news) → (∀ p ∈ news, p.1 < D) → Q (.ref D) { s₁ with heap := h, toks := tk }) :
    PnSrc prog w A h₀ L m env ct x x₂ scope cl Q (.ref ax) s₁ := ⟨ax, vs, nn, ps, news, rfl, F, N, hm, hin, turn, fin⟩
theorem ne_eq {a b : Int} {t u : Tok} {Q : Value → Shared → Prop} (e : a = b) (h : Q (.bool false) s) : wpAny (model prog w) A (compareOp .NotEq (.int a t) (.int b u)) Q E s := by
  refine ne_int ?_
  rw [e]
  simpa using h
/-- a statement went by: the frame's names and the ledger stand as they stood -/
def NextOut (h₀ : Heap) (L : Addr) (m : Str → Option Value) (news : Led) (s : Shared) (f : Flow) (s' : Shared) : Prop := f = .next ∧ ∃ h' tk', s' = { s with heap := h', toks := tk' } ∧ Fr h₀ L h' m ∧ News h₀ L h' news
theorem if_cut {M : Model} {test : PySem.Expr} {body orelse : List Stmt} {pos : Pos} {news : Led} {Q : Flow → Shared → Prop} (F : Fr h₀ L s.heap m) (N : News h₀ L s.heap news)
    (h : ∀ Q9 : Flow → Shared → Prop, (∀ h' tk', Fr h₀ L h' m → News h₀ L h' news → Q9 .next { s with heap := h', toks := tk' }) → wpAny M A (isTrue test env (eval test env)) (fun b s₂ => if b then wpAny M A (execs body env) Q9 E s₂ else wpAny M A (execs orelse env) Q9 E s₂) E s)
    (hn : ∀ h' tk', Fr h₀ L h' m → News h₀ L h' news → Q .next { s with heap := h', toks := tk' }) : wpAny M A (exec (.If test body orelse pos) env) Q E s := by
  refine wpAny_If (wpAny_mono (h (NextOut h₀ L m news s) fun h' tk' F' N' => ⟨rfl, h', tk', rfl, F', N'⟩) (fun b s₂ hb => ?_) fun _ _ e => e)
  have go : ∀ st, wpAny M A (execs st env) (NextOut h₀ L m news s) E s₂ → wpAny M A (execs st env) Q E s₂ := fun st hw => wpAny_mono hw (fun f s' hf => by
    obtain ⟨rfl, h', tk', rfl, F', N'⟩ := hf
    exact hn h' tk' F' N') fun _ _ e => e
  cases b with
  | true => exact go _ hb
  | false => exact go _ hb
end

/-- whatever the bound that the root gives, the ratio is this -/
def RatIs (a m u v : Int) : Prop := ∀ B, 0 ≤ B → B * B ≤ m.fdiv 2 → m.fdiv 2 < (B + 1) * (B + 1) → ratF B a m = some (u, v)
theorem ratIs_out {a m u v : Int} (h : RatIs a m u v) {r : Value} {out : Led} (o : ORat a m r out) : OTup2 u v r out := by
  obtain ⟨B, h0, h1, h2, o⟩ := o
  rw [h B h0 h1 h2] at o
  exact o
/-- the wider of a ratio's two -/
abbrev wdF (p q : Int) : Int := if q > (if p < 0 then -p else p) then q else (if p < 0 then -p else p)
structure TurnF (p q : Int) (ps rs : List (Int × Int)) (c r x W : Int) : Prop where
  c0 : 0 < c
  c1 : c < 2 ^ 20
  les : ∀ n, 0 ≤ n → n < c → (n * q - p).fmod c = 0 → n = r
  ex : ∃ k : Nat, (k : Int) < c ∧ ((k : Int) * q - p).fmod c = 0
  ok : PairsOk ps
  okr : PairsOk rs
  pr : prodM ps < 2 ^ 28
  prr : prodM rs < 2 ^ 28
  ch : ∀ g, ChR (some (0, 1)) ps g → g = some (x, W)
  chr : ∀ g, ChR (some (0, 1)) rs g → g = some (x, W)
  rests : ∀ z ∈ ps, x.fmod z.2 = z.1
  x0 : 0 ≤ x
  x1 : x < W
  w1 : 1 < W
  w2 : W < 2 ^ 28
  rat1 : 2 * wdF p q * wdF p q ≤ W → RatIs x W p q
  rat2 : ∀ B u v, ratF B x W = some (u, v) → (u - x * v).fmod W = 0
  sym : q = 1 → 2 * (if p < 0 then -p else p) < W → symF x W = p
structure RbF (p q P0 P1 P2 P3 r0 r1 r2 r3 x0 x1 x2 x3 : Int) : Prop where
  t0 : TurnF p q [(r0, P0)] [(r0, P0)] P0 r0 x0 (1 * P0)
  t1 : TurnF p q [(r0, P0), (r1, P1)] [(r1, P1), (r0, P0)] P1 r1 x1 (1 * P0 * P1)
  t2 : TurnF p q [(r0, P0), (r1, P1), (r2, P2)] [(r2, P2), (r1, P1), (r0, P0)] P2 r2 x2 (1 * P0 * P1 * P2)
  t3 : TurnF p q [(r0, P0), (r1, P1), (r2, P2), (r3, P3)] [(r3, P3), (r2, P2), (r1, P1), (r0, P0)] P3 r3 x3 (1 * P0 * P1 * P2 * P3)
def pairO (z : (Addr × Tok × Tok) × (Int × Int)) : Addr × Obj := (z.1.1, tup2 z.2.1 z.1.2.1 z.2.2 z.1.2.2)
def RbJ (news : Led) (o1 pr c : Addr) (ps : List (Int × Int)) (W : Int) (m : Str → Option Value) (nx : Led) : Prop :=
  ∃ (as : List (Addr × Tok × Tok)) (nn : Nat) (oc : Obj) (v : Option Value) (tW : Tok), as.length = ps.length ∧
    nx = (pr, listOf (as.map fun a => Value.ref a.1).toArray nn) :: (c, oc) :: ((as.zip ps).map pairO ++ news) ∧ oc.data = .cell v ∧
    (∀ a ∈ as, @LT.lt Nat _ pr a.1) ∧ m (Str.ofString "pairs") = some (.ref pr) ∧ m (Str.ofString "whole") = some (.int W tW) ∧ m (Str.ofString "ratio") = some (.ref o1)
def RbJ4 (news : Led) (o1 pr c : Addr) (P0 P1 P2 P3 r0 r1 r2 r3 : Int) (i : Nat) (m : Str → Option Value) (nx : Led) : Prop := match i with
  | 0 => RbJ news o1 pr c [] 1 m nx
  | 1 => RbJ news o1 pr c [(r0, P0)] (1 * P0) m nx
  | 2 => RbJ news o1 pr c [(r0, P0), (r1, P1)] (1 * P0 * P1) m nx
  | 3 => RbJ news o1 pr c [(r0, P0), (r1, P1), (r2, P2)] (1 * P0 * P1 * P2) m nx
  | 4 => RbJ news o1 pr c [(r0, P0), (r1, P1), (r2, P2), (r3, P3)] (1 * P0 * P1 * P2 * P3) m nx
  | _ => False
theorem off_ne {own news nx : Led} {c : Addr} (h : OwnOff own (nx.map (·.1))) (hc : c ∈ nx.map (·.1)) (hn : ∀ z ∈ news, z.1 ≠ c) : ∀ z ∈ news ++ own, z.1 ≠ c := fun z hz => (List.mem_append.mp hz).elim (hn z) fun h1 => h z h1 c hc
theorem ch_out {ps : List (Int × Int)} {x W : Int} (hc : ∀ g, ChR (some (0, 1)) ps g → g = some (x, W)) {r : Value} {out : Led} (h : OCh ps r out) : OTup2 x W r out := by
  obtain ⟨g, h1, h2⟩ := h
  rw [hc g h1] at h2
  exact h2
theorem les_out {p q c n0 : Int} (hl : ∀ n, 0 ≤ n → n < c → (n * q - p).fmod c = 0 → n = n0) {r : Value} {out : Led} (h : OLes p q c r out) : OInt n0 r out := by
  obtain ⟨n, h0, h1, h2, h3⟩ := h
  rw [← hl n h0 h1 h2]
  exact h3
theorem rb_rat {p q c r9 x W : Int} {ps rs : List (Int × Int)} (T : TurnF p q ps rs c r9 x W) {r : Value} {out : Led} (h : ORat x W r out) :
    (∃ a t u, r = .ref a ∧ out = [(a, tup2 p t q u)] ∧ (p - x * q).fmod W = 0) ∨
    (∃ u v a t1 t2, r = .ref a ∧ out = [(a, tup2 u t1 v t2)] ∧ ¬ 2 * wdF p q * wdF p q ≤ W ∧ (u - x * v).fmod W = 0 ∧ ¬ (u = p ∧ v = q)) ∨
    (r = .none ∧ out = [] ∧ ¬ 2 * wdF p q * wdF p q ≤ W) := by
  obtain ⟨B, h0, h1, h2, h3⟩ := h
  cases e : ratF B x W with
  | none =>
    rw [e] at h3
    refine .inr (.inr ⟨h3.1, h3.2, fun hw => ?_⟩)
    have := T.rat1 hw B h0 h1 h2
    rw [e] at this; cases this
  | some z =>
    obtain ⟨u, v⟩ := z
    rw [e] at h3
    obtain ⟨a, t1, t2, e1, e2⟩ := h3
    have hz := T.rat2 B u v e
    by_cases hpq : u = p ∧ v = q
    · obtain ⟨rfl, rfl⟩ := hpq
      exact .inl ⟨a, t1, t2, e1, e2, hz⟩
    · refine .inr (.inl ⟨u, v, a, t1, t2, e1, e2, fun hw => ?_, hz, hpq⟩)
      have := T.rat1 hw B h0 h1 h2
      rw [e] at this
      cases this
      exact hpq ⟨rfl, rfl⟩
theorem off_cons {own : Led} {a : Addr} {l : List Addr} (h : ∀ z ∈ own, z.1 ≠ a) (t : OwnOff own l) : OwnOff own (a :: l) := by
  intro z hz b hb
  rcases List.mem_cons.mp hb with rfl | hb
  · exact h z hz
  · exact t z hz b hb
theorem off_right {own news : Led} {a : Addr} (h : ∀ z ∈ news ++ own, z.1 ≠ a) : ∀ z ∈ own, z.1 ≠ a := fun z hz => h z (List.mem_append_right _ hz)
theorem off_lt {own news : Led} {a : Addr} (h : AllLt a (news ++ own)) : ∀ z ∈ own, z.1 ≠ a := fun z hz => neN (Nat.ne_of_lt (ktn_ltOf h z (List.mem_append_right _ hz)))
theorem pairsIn_mono {tl led : Led} (hs : ∀ z ∈ tl, z ∈ led) : ∀ {vs : List Value} {ps : List (Int × Int)}, PairsIn tl vs ps → PairsIn led vs ps
  | [], [], _ => trivial
  | _ :: _, _ :: _, ⟨⟨a, t, u, e, hm⟩, h⟩ => ⟨⟨a, t, u, e, hs _ hm⟩, pairsIn_mono hs h⟩
  | [], _ :: _, h => h.elim
  | _ :: _, [], h => h.elim
theorem pairsIn_app {N : Led} : ∀ {vs us : List Value} {ps qs : List (Int × Int)}, PairsIn N vs ps → PairsIn N us qs → PairsIn N (vs ++ us) (ps ++ qs)
  | [], _, [], _, _, h => h
  | _ :: _, _, _ :: _, _, ⟨a, h⟩, g => ⟨a, pairsIn_app h g⟩
  | [], _, _ :: _, _, h, _ => h.elim
  | _ :: _, _, [], _, h, _ => h.elim
theorem pairsIn_rev {N : Led} : ∀ {vs : List Value} {ps : List (Int × Int)}, PairsIn N vs ps → PairsIn N vs.reverse ps.reverse
  | [], [], h => h
  | v :: vs, p :: ps, ⟨a, h⟩ => by
    rw [List.reverse_cons, List.reverse_cons]
    exact pairsIn_app (pairsIn_rev h) ⟨a, trivial⟩
  | [], _ :: _, h => h.elim
  | _ :: _, [], h => h.elim
theorem pairsIn_snoc {tl led : Led} {vs : List Value} {ps : List (Int × Int)} {a : Addr} {r c : Int} {t u : Tok} (h : PairsIn tl vs ps) (hs : ∀ z ∈ tl, z ∈ led) (hm : (a, tup2 r t c u) ∈ led) : PairsIn led (vs ++ [Value.ref a]) (ps ++ [(r, c)]) :=
  pairsIn_app (pairsIn_mono hs h) ⟨⟨a, t, u, rfl, hm⟩, trivial⟩
theorem pairsIn_rsnoc {tl led : Led} {vs : List Value} {ps : List (Int × Int)} {a : Addr} {r c : Int} {t u : Tok} (h : PairsIn tl vs ps) (hs : ∀ z ∈ tl, z ∈ led) (hm : (a, tup2 r t c u) ∈ led) : PairsIn led (vs ++ [Value.ref a]).reverse ((r, c) :: ps.reverse) := by
  have := pairsIn_rev (pairsIn_snoc h hs hm)
  rwa [List.reverse_append (as := ps)] at this
theorem pairsIn_as {rest : Led} : ∀ {as : List (Addr × Tok × Tok)} {ps : List (Int × Int)}, as.length = ps.length → PairsIn ((as.zip ps).map pairO ++ rest) (as.map fun a => Value.ref a.1) ps
  | [], [], _ => trivial
  | a :: as, p :: ps, h => ⟨⟨a.1, a.2.1, a.2.2, rfl, List.mem_cons_self⟩, pairsIn_mono (fun z hz => List.mem_cons_of_mem _ hz) (pairsIn_as (by simpa using h))⟩
  | [], _ :: _, h => by simp at h
  | _ :: _, [], h => by simp at h
theorem rb_step {news : Led} {o1 pr cc : Addr} {p q P0 P1 P2 P3 r0 r1 r2 r3 x0 x1 x2 x3 : Int} {k0 k1 k2 k3 : Tok} {i : Nat} {v : Value} {m₁ : Str → Option Value} {nx : Led} (H : RbF p q P0 P1 P2 P3 r0 r1 r2 r3 x0 x1 x2 x3) (hv : [Value.int P0 k0, .int P1 k1, .int P2 k2, .int P3 k3][i]? = some v) (hJ : RbJ4 news o1 pr cc P0 P1 P2 P3 r0 r1 r2 r3 i m₁ nx) :
    ∃ c kc r x Wp ps, v = .int c kc ∧ TurnF p q (ps ++ [(r, c)]) ((r, c) :: ps.reverse) c r x (Wp * c) ∧ ps.length ≤ 3 ∧ RbJ news o1 pr cc ps Wp m₁ nx ∧
      ∀ pr' m' nx', RbJ news o1 pr' cc (ps ++ [(r, c)]) (Wp * c) m' nx' → RbJ4 news o1 pr' cc P0 P1 P2 P3 r0 r1 r2 r3 (i + 1) m' nx' := by
  rcases i with _ | _ | _ | _ | i
  · injection hv with hv; subst hv
    exact ⟨P0, k0, r0, x0, 1, [], rfl, H.t0, by simp, hJ, fun _ _ _ h => h⟩
  · injection hv with hv; subst hv
    exact ⟨P1, k1, r1, x1, 1 * P0, [(r0, P0)], rfl, H.t1, by simp, hJ, fun _ _ _ h => h⟩
  · injection hv with hv; subst hv
    exact ⟨P2, k2, r2, x2, 1 * P0 * P1, [(r0, P0), (r1, P1)], rfl, H.t2, by simp, hJ, fun _ _ _ h => h⟩
  · injection hv with hv; subst hv
    exact ⟨P3, k3, r3, x3, 1 * P0 * P1 * P2, [(r0, P0), (r1, P1), (r2, P2)], rfl, H.t3, by simp, hJ, fun _ _ _ h => h⟩
  · simp at hv
theorem rb_pairs {as : List (Addr × Tok × Tok)} {ps : List (Int × Int)} {z : Addr × Obj} (h : z ∈ (as.zip ps).map pairO) : ∃ a ∈ as, z.1 = a.1 := by
  obtain ⟨w, hw, rfl⟩ := List.mem_map.mp h
  exact ⟨w.1, (List.of_mem_zip hw).1, rfl⟩
theorem rb_ne {as : List (Addr × Tok × Tok)} {ps : List (Int × Int)} {own news : Led} {pr c : Addr} {lo oc : Obj} (hpa : ∀ a ∈ as, @LT.lt Nat _ pr a.1) (hcp : @LT.lt Nat _ c pr) (hn : ∀ z ∈ news, @LT.lt Nat _ z.1 c) (off : OwnOff own (((pr, lo) :: (c, oc) :: ((as.zip ps).map pairO ++ news)).map (·.1))) :
    (∀ z ∈ (as.zip ps).map pairO ++ news ++ own, z.1 ≠ pr) ∧ (∀ z ∈ (as.zip ps).map pairO ++ news ++ own, z.1 ≠ c) := by
  refine ⟨fun z hz => ?_, fun z hz => ?_⟩
  · rcases List.mem_append.mp hz with hz | hz
    · rcases List.mem_append.mp hz with hz | hz
      · obtain ⟨a, ha, e⟩ := rb_pairs hz
        have := hpa a ha
        rw [e]
        exact neN (by omega)
      · have := hn z hz
        exact neN (by omega)
    · exact off z hz pr (by simp)
  · rcases List.mem_append.mp hz with hz | hz
    · rcases List.mem_append.mp hz with hz | hz
      · obtain ⟨a, ha, e⟩ := rb_pairs hz
        have := hpa a ha
        rw [e]
        exact neN (by omega)
      · have := hn z hz
        exact neN (by omega)
    · exact off z hz c (by simp)
theorem rb_fin {h₀ h' : Heap} {Lx : Addr} {m' : Str → Option Value} {led own news tl : Led} {s₁ : Shared} {tk : Nat} {o1 pr c lp D : Addr} {lo oc oc' lo' : Obj} {v : Option Value} {tW : Tok} {ps : List (Int × Int)} {r cp W : Int} {nn : Nat} {as : List (Addr × Tok × Tok)} {t u : Tok} {vs : List Value} {J : Addr → (Str → Option Value) → Led → Prop}
    (hvs : vs = as.map fun a => Value.ref a.1) (htl : tl = (as.zip ps).map pairO ++ news ++ own) (hlen : as.length = ps.length) (off : OwnOff own (((pr, lo') :: (c, oc') :: ((as.zip ps).map pairO ++ news)).map (·.1)))
    (hpa : ∀ a ∈ as, @LT.lt Nat _ pr a.1) (hcp : @LT.lt Nat _ c pr) (hl : (lp, lo) ∈ news) (hJn : ∀ pr' m' nx', RbJ news o1 pr' c (ps ++ [(r, cp)]) W m' nx' → J pr' m' nx')
    (F : Fr h₀ Lx h' m') (N : News h₀ Lx h' led) (m1 : (pr, listOf (vs ++ [Value.ref D]).toArray nn) ∈ led) (m2 : (c, oc) ∈ led) (hoc : oc.data = .cell v) (m3 : (D, tup2 r t cp u) ∈ led) (sub : ∀ z ∈ tl, z ∈ led) (hD : @LT.lt Nat _ pr D) (hDt : AllLt D tl)
    (e1 : m' (Str.ofString "pairs") = some (.ref pr)) (e2 : m' (Str.ofString "whole") = some (.int W tW)) (e3 : m' (Str.ofString "ratio") = some (.ref o1)) :
    InvEndG h₀ Lx (fun m' nx => (lp, lo) ∈ nx ∧ ∃ pr, @LT.lt Nat _ c pr ∧ J pr m' nx) own s₁ { s₁ with heap := h', toks := tk } := by
  have hz : (as ++ [(D, t, u)]).zip (ps ++ [(r, cp)]) = as.zip ps ++ [((D, t, u), (r, cp))] := by rw [List.zip_append hlen]; rfl
  have s1 : ∀ z ∈ (as.zip ps).map pairO, z ∈ led := fun z h => sub z (by rw [htl]; exact List.mem_append_left _ (List.mem_append_left _ h))
  have s2 : ∀ z ∈ news, z ∈ led := fun z h => sub z (by rw [htl]; exact List.mem_append_left _ (List.mem_append_right _ h))
  have s3 : ∀ z ∈ own, z ∈ tl := fun z h => by rw [htl]; exact List.mem_append_right _ h
  refine InvEndG.intro F N ⟨?_, pr, hcp, hJn pr m' _ ⟨as ++ [(D, t, u)], nn, oc, v, tW, by simp [hlen], rfl, hoc, fun a ha => ?_, e1, e2, e3⟩⟩ (fun z hz' b hb => ?_) (fun z hz' => ?_) (fun z h => sub z (s3 z h))
  · exact List.mem_cons_of_mem _ (List.mem_cons_of_mem _ (List.mem_append_right _ hl))
  · rcases List.mem_append.mp ha with ha | ha
    · exact hpa a ha
    · rw [List.mem_singleton.mp ha]; exact hD
  · rw [hz] at hb
    simp only [List.map_cons, List.map_append, List.mem_cons, List.mem_append, List.map_nil, List.not_mem_nil, or_false] at hb
    rcases hb with rfl | rfl | (hb | rfl) | hb
    · exact off z hz' _ (by simp)
    · exact off z hz' _ (by simp)
    · exact off z hz' b (by simp only [List.map_cons, List.map_append, List.mem_cons, List.mem_append]; exact .inr (.inr (.inl hb)))
    · exact neN (Nat.ne_of_lt (ktn_ltOf hDt z (s3 z hz')))
    · exact off z hz' b (by simp only [List.map_cons, List.map_append, List.mem_cons, List.mem_append]; exact .inr (.inr (.inr hb)))
  · rw [hz] at hz'
    simp only [List.map_append, List.mem_cons, List.mem_append, List.map_cons, List.map_nil, List.not_mem_nil, or_false] at hz'
    rcases hz' with rfl | rfl | (h | rfl) | h
    · rw [hvs] at m1; exact m1
    · exact m2
    · exact s1 z h
    · exact m3
    · exact s2 z h
theorem small3 {vs : List Value} {x : Value} (h : vs.length ≤ 3) : vs.toArray.size ≤ sizeLine ∧ (vs ++ [x]).toArray.size ≤ sizeLine := by
  have : 4 ≤ sizeLine := by decide
  simp
  omega
theorem un_ok {dp un : Nat} {gd : Option (List Code)} {cn : Str} {cs : Scope} {L a : Addr} {ccd : Value} {cl : List (Str × Addr)} {outer : List Env} {e : Env} (hu : un + 8 * 20 < cLine) : ((ktrTop dp un gd cn cs L a ccd cl outer).deeper e).units + 64 < cLine := by ktr_units
/-- what rational_of gave: none, or a tuple with the number's rest, the ratio itself where the modulus is big enough -/
def FoundR (p q x W : Int) (v : Value) (a : Addr) (o : Obj) : Prop := (v = .none ∧ ¬ 2 * wdF p q * wdF p q ≤ W) ∨ (v = .ref a ∧ ∃ u z t1 t2, o = tup2 u t1 z t2 ∧ (u - x * z).fmod W = 0 ∧ (2 * wdF p q * wdF p q ≤ W → u = p ∧ z = q))
theorem con_one {P : Value → Addr → Obj → Prop} {w : World} {f : Addr} {d : Nat} {news : Led} {vs : List Value} {mean : ExcName → Option Value} {mg mb : Str → Option Value} {dp un : Nat} {gd : Option (List Code)} {cn : Str} {cs : Scope} {a : Addr} {ccd : Value} {cl : List (Str × Addr)} {outer : List Env} {A₀ : Around} {base h₀ : Heap} {L : Addr} {m : Str → Option Value} {s : Shared} {Q E : Value → Shared → Prop} {o1 : Addr} {ob : Obj}
    (C : Con w f d news vs fun r out => (∃ a o, r = .ref a ∧ out = [(a, o)] ∧ P r a o) ∨ (r = .none ∧ out = [] ∧ ∀ a o, P r a o)) (i1 : (o1, ob) ∈ news) (B : Below A₀ base outer h₀) (F : Fr h₀ L s.heap m) (X : (hd.heap_39 w.params).In h₀) (N : News h₀ L s.heap news) (T : Top vw (looseW vw []) mean mg mb h₀) (hk : cs.kind = .function) (hd : dp + d < recursionLimit) (hu : un + 8 * d < cLine)
    (ret : ∀ v a o h' tk', Fr h₀ L h' m → News h₀ L h' ((a, o) :: news) → P v a o → Q v { s with heap := h', toks := tk' }) :
    wpAny (model PySem.Challenge.rw_pf0033_01.row.prog w) (ktrTop dp un gd cn cs L a ccd cl outer) (call (.ref f) vs) Q E s := C _ _ _ _ _ _ _ _ _ _ _ _ _ _ _ _ _ _ _ _ B F X N T hk hd hu fun r out h' tk' F' N' _ ho => by
  rcases ho with ⟨a, o, rfl, rfl, hp⟩ | ⟨rfl, rfl, hp⟩
  · exact ret _ a o h' tk' F' N' hp
  · exact ret _ o1 ob h' tk' F' (news_sub N' (sub1 i1 fun _ h => h)) (hp o1 ob)
theorem rat_one {p q c r9 x W : Int} {ps rs : List (Int × Int)} (T : TurnF p q ps rs c r9 x W) {r : Value} {out : Led} (h : ORat x W r out) : (∃ a o, r = .ref a ∧ out = [(a, o)] ∧ FoundR p q x W r a o) ∨ (r = .none ∧ out = [] ∧ ∀ a o, FoundR p q x W r a o) := by
  rcases rb_rat T h with ⟨a, t, u, rfl, rfl, hz⟩ | ⟨u, v, a, t1, t2, rfl, rfl, hw, hz, _⟩ | ⟨rfl, rfl, hw⟩
  · exact .inl ⟨a, _, rfl, rfl, .inr ⟨rfl, _, _, _, _, rfl, hz, fun _ => ⟨rfl, rfl⟩⟩⟩
  · exact .inl ⟨a, _, rfl, rfl, .inr ⟨rfl, _, _, _, _, rfl, hz, fun h => absurd h hw⟩⟩
  · exact .inr ⟨rfl, rfl, fun _ _ => .inl ⟨rfl, hw⟩⟩
theorem ne_found {prog : Program} {w : World} {A : Around} {E : Value → Shared → Prop} {s : Shared} {h₀ : Heap} {L : Addr} {led : Led} {a b : Addr} {o : Obj} {p q x W : Int} {v : Value} {tp tq : Tok} {Q : Value → Shared → Prop} (hv : FoundR p q x W v a o) (hw : 2 * wdF p q * wdF p q ≤ W) (N : News h₀ L s.heap led) (hm : (a, o) ∈ led) (hm2 : (b, tup2 p tp q tq) ∈ led) (hu : A.units + 64 < cLine) (h : Q (.bool false) s) :
    wpAny (model prog w) A (compareOp .NotEq v (.ref b)) Q E s := by
  rcases hv with ⟨_, hn⟩ | ⟨rfl, u, z, t1, t2, rfl, _, hb⟩
  · exact absurd hw hn
  · obtain ⟨rfl, rfl⟩ := hb hw
    refine ne_dataH (reads_tuple_at (News.get N hm) rfl rfl (.cons (.int _ _) (.cons (.int _ _) .nil))) (reads_tuple_at (News.get N hm2) rfl rfl (.cons (.int _ _) (.cons (.int _ _) .nil))) rfl rfl hu ?_
    have e : PyData.eqv (.tuple [.int u, .int z]) (.tuple [.int u, .int z]) = true := by simp [PyData.eqv, PyData.eqvAll]
    rw [e]
    exact h
set_option maxRecDepth 100000 in
set_option maxHeartbeats 8000000 in
theorem rb_con (w : World) (news : Led) (o1 lp : Addr) (p q P0 P1 P2 P3 r0 r1 r2 r3 x0 x1 x2 x3 : Int) (tp tq k0 k1 k2 k3 : Tok) (nn : Nat) (i1 : (o1, tup2 p tp q tq) ∈ news) (hl : (lp, listOf [Value.int P0 k0, .int P1 k1, .int P2 k2, .int P3 k3].toArray nn) ∈ news)
    (hp1 : -(2 ^ 20) < p) (hp2 : p < 2 ^ 20) (hq1 : 0 < q) (hq2 : q < 2 ^ 20) (H : RbF p q P0 P1 P2 P3 r0 r1 r2 r3 x0 x1 x2 x3) : Con w 161 20 news [.ref o1, .ref lp] (OBool true) := by
  unfold Con
  k_fill
  intro mean mg mb dp un gd cn cs ac ccd cl outer A₀ base h₀ L m s Q E B F X N T hk hd hu hret
  refine wpAny_call ?_
  k_dflt (refine' code_defC ?k1 ?k2 ?k3 ?k4 ?k5 ?kA ?kF ?kK ?k6 ?k7 ?k8 ?k9 ?kB ?kD ?_ ?c2 ?c3 ?c4; (case kA => exact rfl); (case kF => exact rfl); (case kK => assumption); (case k1 => k_asm); (case k2 => k_asm); (case k3 => k_asm); (case k4 => k_asm); (case k5 => k_asm); (case k6 => k_is); (case k7 => k_is); (case k8 => ktr_room); (case k9 => exact BindsTo.of_eq rfl); (case kB => exact rfl); (case kD => decide +kernel); (case c2 => exact rfl); (case c3 => exact rfl); (case c4 => exact rfl); k_whole; intro g' L' h' tk' cells' FG' F' N' Y' B' X' T' l1; (try k_lt l1); k_cells Y'; (try simp only [List.cons_append, List.nil_append] at N'); (try dsimp only); (try k_lift B'); (try k_fold))
  k_with_none
  k_with "my ord" => (first | assumption | exact ktn_ltOf (by assumption) | exact ktn_ltOf (And.right (by k_asm)) | exact ktn_ltOf (And.right (And.right (by k_asm))) | exact ktn_ltOf (And.right (And.right (And.right (by k_asm)))) | exact ktn_ltOf (And.right (And.right (And.right (And.right (by k_asm))))) | exact ktn_ltOf (And.right (And.right (And.right (And.right (And.right (by k_asm)))))))
  k_with "compareOp NotEq ref ref" => (k_here; (with_reducible show wpAny _ _ (compareOp CmpOp.NotEq (Value.ref _) (Value.ref _)) _ _ _); k_dflt ((refine ne_dataH (by ke_read) (by ke_read) (by ked_shaped) (by ked_shaped) (by ktr_units) ?_); ke_norm))
  k_with "compareOp Eq ref ref" => (k_here; (with_reducible show wpAny _ _ (compareOp CmpOp.Eq (Value.ref _) (Value.ref _)) _ _ _); k_dflt ((refine eq_dataH (by ke_read) (by ke_read) (by ked_shaped) (by ked_shaped) (by ktr_units) ?_); ke_norm))
  k_with "my suba" => (intro p hp; (repeat' first | exact hp | exact List.mem_append_left _ hp | exact List.mem_append_right _ hp | refine List.mem_cons_of_mem _ ?_))
  k_with "my sub" => (intro p hp; (repeat' first | exact hp | refine List.mem_cons_of_mem _ ?_))
  k_with "pyIter ref" => (k_dflt (
    (rename Fr _ _ _ _ => lF'); (rename News _ _ _ _ => lN')
    obtain ⟨hlt9, hall9⟩ := (by assumption : @LT.lt Nat _ (L' + 1) _ ∧ AllLt _ news)
    refine kdl_iter (fun i m nx => ∃ pr, @LT.lt Nat _ (L' + 1) pr ∧ RbJ4 news o1 pr (L' + 1) P0 P1 P2 P3 r0 r1 r2 r3 i m nx) (by rfl) (List.mem_cons_of_mem _ (List.mem_cons_of_mem _ hl)) lF' (news_sub lN' (fun z hz => List.mem_cons_of_mem _ hz)) ⟨_, hlt9, [], 0, _, _, _, rfl, rfl, by assumption, by simp, by with_unfolding_all rfl, by with_unfolding_all rfl, by with_unfolding_all rfl⟩
      (fun i v m₁ news₁ h₁ tk₁ own hv hoff hl₁ hJ F₁ N₁ => ?tn) (fun m₁ news₁ h₁ tk₁ hJ F₁ N₁ => ?fn)
    case' tn => (
      clear lF' lN' hall9 hlt9
      obtain ⟨pr, hcp, hJ⟩ := hJ
      obtain ⟨c, kc, r, x, Wp, ps, rfl, Tf, hpl, hJ, hJn⟩ := rb_step H hv hJ
      obtain ⟨as, nn9, oc, vc, tW, has, rfl, hoc, hpa, e1, e2, e3⟩ := hJ
      have lo1 : @LT.lt Nat _ o1 L' := l1 _ i1
      have tc0 := Tf.c0
      have tc1 := Tf.c1
      have tw1 := Tf.w1
      have tw2 := Tf.w2
      have tw0 : 0 < Wp * c := by omega
      have tx0 := Tf.x0
      have tx1 := Tf.x1
      have tq0 : -(2 ^ 20) < q := by omega
      have hne := rb_ne hpa hcp (fun z hz => by have h1 : @LT.lt Nat _ z.1 L' := l1 z hz; show @LT.lt Nat _ _ (L' + 1); omega) hoff
      have hPI := pairsIn_as (rest := news ++ own) has
      rw [← List.append_assoc] at hPI
      have hvl : (as.map fun a => Value.ref a.1).length ≤ 3 := by rw [List.length_map, has]; exact hpl
      have i2 : (o1, tup2 p tp q tq) ∈ (as.zip ps).map pairO ++ news ++ own := List.mem_append_left own (List.mem_append_right _ i1)
      obtain ⟨vs, hvs⟩ : ∃ vs, vs = as.map fun a => Value.ref a.1 := ⟨_, rfl⟩
      obtain ⟨tl, htl⟩ : ∃ tl, tl = (as.zip ps).map pairO ++ news ++ own := ⟨_, rfl⟩
      replace F₁ := fr_say4 (x1 := Str.ofString "prime") (x2 := Str.ofString "pairs") (x3 := Str.ofString "whole") (x4 := Str.ofString "ratio") F₁ (if_pos rfl) ((if_neg (by decide)).trans e1) ((if_neg (by decide)).trans e2) ((if_neg (by decide)).trans e3)
      replace N₁ : News _ _ _ ((pr, listOf (as.map fun a => Value.ref a.1).toArray nn9) :: (L' + 1, oc) :: ((as.zip ps).map pairO ++ news ++ own)) := N₁
      rw [← hvs] at N₁ hPI hvl
      rw [← htl] at N₁ hPI hne i2
      obtain ⟨hprn, hcn⟩ := hne
      replace N₁ : News _ _ _ ((o1, tup2 p tp q tq) :: (pr, listOf vs.toArray nn9) :: (L' + 1, oc) :: tl) := news_sub N₁ (sub1 (List.mem_cons_of_mem _ (List.mem_cons_of_mem _ i2)) fun _ h => h)
      clear hl₁ hv e1 e2 e3 i2
      replace F₁ : Fr g' L' h₁ _ := F₁
      replace N₁ : News g' L' h₁ _ := N₁
      generalize hQ8 : InvPostG _ _ _ _ _ _ = Q8
      (try k_fold))
    case' fn => (
      clear lF' lN' hall9 hlt9
      obtain ⟨pr, hcp, hJ⟩ := hJ
      replace hJ : RbJ news o1 pr (L' + 1) [(r0, P0), (r1, P1), (r2, P2), (r3, P3)] (1 * P0 * P1 * P2 * P3) m₁ news₁ := hJ
      obtain ⟨as, nn9, oc, vc, tW, has, rfl, hoc, hpa, e1, e2, e3⟩ := hJ
      replace N₁ : News _ _ _ news := news_sub N₁ (fun z hz => by simp [hz])
      (try k_fold))))
  k_with "call ref" => (k_here; k_dflt (refine' con_int (con_mono (rest_con w _ _ p q _ _ _ _ ?m1 Tf.c0 Tf.c1 hp1 hp2 tq0 hq2 Tf.ex) (fun _ _ h => les_out Tf.les h)) ?k1 ?k2 ?k3 ?k4 ?k5 ?kK ?kd ?ku ?_; (case k2 => k_asm); (case k4 => k_asm); (case m1 => k_mem); (case k1 => k_asm); (case k3 => k_asm); (case k5 => k_asm); (case kK => first | exact rfl | assumption); (case kd => first | exact room_ok hd (by decide) | ktr_room); (case ku => first | exact unit_ok hu (by decide) | ktr_units); intro tl9 h9 tk9 F9 N9; (try k_sweep); (try dsimp only); (try k_fold)))
  k_with "call ref" => (k_here; k_dflt (refine' con_tup (con_mono (ch_con w _ _ _ _ _ ?m1 ?g1 Tf.ok Tf.pr) (fun _ _ h => ch_out Tf.ch h)) ?k1 ?k2 ?k3 ?k4 ?k5 ?kK ?kd ?ku ?_; (case k2 => k_asm); (case k4 => k_asm); (case m1 => k_mem); (case g1 => exact pairsIn_snoc hPI (by k_extra "my sub") (by k_mem)); (case k1 => k_asm); (case k3 => k_asm); (case k5 => k_asm); (case kK => first | exact rfl | assumption); (case kd => first | exact room_ok hd (by decide) | ktr_room); (case ku => first | exact unit_ok hu (by decide) | ktr_units); intro ot tt ut h9 tk9 F9 N9 l9; (try k_lt l9); (try k_sweep); (try dsimp only); (try k_fold)))
  k_with "call ref" => (k_here; k_dflt (refine' con_tup (con_mono (ch_con w _ _ _ _ _ ?m1 ?j1 Tf.okr Tf.prr) (fun _ _ h => ch_out Tf.chr h)) ?k1 ?k2 ?k3 ?k4 ?k5 ?kK ?kd ?ku ?_; (case k2 => k_asm); (case k4 => k_asm); (case m1 => k_mem); (case j1 => exact pairsIn_rsnoc hPI (by k_extra "my sub") (by k_mem)); (case k1 => k_asm); (case k3 => k_asm); (case k5 => k_asm); (case kK => first | exact rfl | assumption); (case kd => first | exact room_ok hd (by decide) | ktr_room); (case ku => first | exact unit_ok hu (by decide) | ktr_units); intro ot tt ut h9 tk9 F9 N9 l9; (try k_lt l9); (try k_sweep); (try dsimp only); (try k_fold)))
  k_with "call ref" => (k_here; (with_unfolding_all show wpAny _ _ (call (Value.ref 77) _) _ _ _); k_dflt (refine' con_one (con_mono (rof_con w _ _ _ _ _ tx0 tw1 tw2) (fun _ _ h => rat_one Tf h)) ?ki ?k1 ?k2 ?k3 ?k4 ?k5 ?kK ?kd ?ku ?_; (case k2 => k_asm); (case k4 => k_asm); (case ki => exact List.mem_cons_self); (case k1 => k_asm); (case k3 => k_asm); (case k5 => k_asm); (case kK => first | exact rfl | assumption); (case kd => ktr_room); (case ku => ktr_units); intro fv fa9 fo h9 tk9 F9 N9 hfv; (try k_sweep); (try dsimp only); (try k_fold)))
  k_with "compareOp NotEq" => (k_here; k_dflt (refine ne_found hfv (by with_reducible assumption) (by k_asm) (by k_mem) (by k_mem) (un_ok hu) ?_))
  k_with "compareOp IsNot" => (k_here; rcases hfv with ⟨rfl, hnb⟩ | ⟨rfl, uu, uv, tr, ur, rfl, hrz, hbb⟩)
  k_with "call ref" => (k_here; k_dflt (refine' con_int (sym_con w _ _ _ _ _ tw0 tw2) ?k1 ?k2 ?k3 ?k4 ?k5 ?kK ?kd ?ku ?_; (case k2 => k_asm); (case k4 => k_asm); (case k1 => k_asm); (case k3 => k_asm); (case k5 => k_asm); (case kK => first | exact rfl | assumption); (case kd => first | exact room_ok hd (by decide) | ktr_room); (case ku => first | exact unit_ok hu (by decide) | ktr_units); intro ts h9 tk9 F9 N9; (try k_sweep); (try dsimp only); (try k_fold)))
  k_with "compareOp NotEq int int" => (first | (refine ne_eq rfl ?_) | (refine ne_eq (by with_reducible assumption) ?_))
  k_with "eval ListComp" => (k_here; k_dflt (refine pn_comp (by k_asm) (by rfl) (by with_unfolding_all rfl) (by decide) (by rfl) (by decide) (by rfl) (by rfl) (by decide) ?_))
  k_with "PnSrc" => (k_dflt (
    refine' pn_intro Tf.ok ?pf ?pn ?pm ?pin (fun z hz I oI C oC D m2 h2 tk2 t9 u9 E2 hC hx hx2 F2 N2 off ne => ?_) (fun D h2 tk2 F2 N2 l2 => ?_)
    (case pf => k_asm)
    (case pn => k_asm)
    (case pm => k_mem)
    (case pin => exact pairsIn_snoc hPI (by k_extra "my sub") (by k_mem))
    rotate_left
    k_lt l2
    (try dsimp only)
    (try k_fold)
    rotate_left
    have hz9 := Tf.rests z hz
    have hz8 := Tf.ok z hz
    (try k_fold)
    (try k_sweep)
    (try dsimp only)))
  k_with "compareOp NotEq int int" => (refine ne_eq (Tf.sym (by with_reducible assumption) (by with_reducible assumption)) ?_)
  k_with "exec If" => (k_here; k_dflt (refine if_cut (by k_asm) (by k_asm) (fun Q9 hq9 => ?_) (fun h9 tk9 F9 N9 => ?_); rotate_left; ((try k_sweep); (try dsimp only); (try k_fold)); rotate_left))
  k_with "NextOut" => (k_dflt (exact ⟨rfl, _, _, rfl, by assumption, news_sub (by assumption) (by k_extra "my sub")⟩))
  k_with "And" => (refine ⟨rfl, _, _, rfl, by assumption, by assumption⟩)
  k_with "call builtin:list.append" => (k_here; k_dflt (refine' append_K ?pa ?pb ?pc ?_ ?pz; (case pa => k_asm); (case pb => k_asm); (case pc => k_upd); (case pz => exact (small3 (x := Value.none) hvl).1); intro h' F' N'; (try simp only [List.push_toArray] at N'); (try k_sweep); (try k_fold)))
  k_with "subscriptTail Name Slice ref ref" => (k_here; k_dflt (refine' krv_lit ?qF ?qN ?ql ?qk ?qe ?_ ?qs ?qt ?qz; (case qF => k_asm); (case qN => k_asm); (case ql => kmk_list); (case qk => exact IsPart.int _ _); (case qe => exact rfl); (case qs => with_unfolding_all rfl); (case qt => kmk_pure); (case qz => exact (small3 hvl).2); intro D' h' F' N' l1; (try simp only [List.toList_toArray] at N'); (try k_lt l1); (try k_sweep); (try k_fold)))
  k_steps
  all_goals first
    | exact hq9 _ _ (by assumption) (news_sub (by assumption) (by k_extra "my sub"))
    | (refine end_bool hret (⟨rfl, rfl⟩) (by k_asm) (by k_asm) (by k_extra "my sub"))
    | (subst hQ8
       dsimp only [InvPostG]
       have hx := (by assumption : @LT.lt Nat _ o1 _ ∧ @LT.lt Nat _ pr _ ∧ @LT.lt Nat _ (L' + 1) _ ∧ AllLt _ tl)
       refine rb_fin hvs htl has hoff hpa hcp hl hJn (by assumption) (by assumption) (by k_dflt k_mem) (by k_dflt k_mem) (by assumption) (by k_dflt k_mem) (by k_extra "my sub") hx.2.1 hx.2.2.2 (by with_unfolding_all rfl) (by with_unfolding_all rfl) (by with_unfolding_all rfl))

/-- a ratio's rest by c is n, and no other -/
structure RestF (p q c n : Int) : Prop where
  pa : -(2 ^ 20) < p
  pb : p < 2 ^ 20
  qa : -(2 ^ 20) < q
  qb : q < 2 ^ 20
  ex : ∃ k : Nat, (k : Int) < c ∧ ((k : Int) * q - p).fmod c = 0
  les : ∀ n', 0 ≤ n' → n' < c → (n' * q - p).fmod c = 0 → n' = n
/-- i is what x is to be multiplied by -/
structure InvF (x c i : Int) : Prop where
  g : (x.fmod c).gcd c = 1
  u : ∀ v, 0 ≤ v → v < c → (v * x).fmod c = (1 : Int).fmod c → v = i
  i0 : 0 ≤ i
  i1 : i < c
/-- what one prime asks of two ratios -/
structure RkF (p1 q1 p2 q2 c a b i1 ib : Int) : Prop where
  c1 : 2 < c
  c2 : c < 2 ^ 10
  p1a : -(2 ^ 10) < p1
  p1b : p1 < 2 ^ 10
  q1a : 0 < q1
  q1b : q1 < 2 ^ 10
  p2a : -(2 ^ 10) < p2
  p2b : p2 < 2 ^ 10
  q2a : 0 < q2
  q2b : q2 < 2 ^ 10
  a0 : 0 ≤ a
  ac : a < c
  b0 : 0 ≤ b
  bc : b < c
  qq : q1 * q2 ≠ 0
  qq1 : -(2 ^ 28) < q1 * q2
  qq2 : q1 * q2 < 2 ^ 28
  r1 : RestF p1 q1 c a
  r2 : RestF p2 q2 c b
  add : RestF (qT (p1 * q2 + p2 * q1) (q1 * q2)) (qB (p1 * q2 + p2 * q1) (q1 * q2)) c ((a + b).fmod c)
  sub : RestF (qT (p1 * q2 - p2 * q1) (q1 * q2)) (qB (p1 * q2 - p2 * q1) (q1 * q2)) c ((a - b).fmod c)
  mul : RestF (qT (p1 * p2) (q1 * q2)) (qB (p1 * p2) (q1 * q2)) c ((a * b).fmod c)
  inv : InvF q1 c i1
  ai : a = (p1 * i1).fmod c
  pw : i1 = pmF (c - 2).toNat ((1 : Int).fmod c) (q1.fmod c) (c - 2) c
  z : p2.fmod c = 0 → ¬ (b.fmod c).gcd c = 1
  nz : p2.fmod c ≠ 0 → InvF b c ib ∧ q1 * p2 ≠ 0 ∧ -(2 ^ 28) < q1 * p2 ∧ q1 * p2 < 2 ^ 28 ∧ RestF (qT (p1 * q2) (q1 * p2)) (qB (p1 * q2) (q1 * p2)) c ((a * ib).fmod c)
theorem restF_con (w : World) (news : Led) (o1 : Addr) {p q c n : Int} (tp tq tc : Tok) (h : RestF p q c n) (i1 : (o1, tup2 p tp q tq) ∈ news) (hc : 0 < c) (hc2 : c < 2 ^ 20) : Con w 156 1 news [.ref o1, .int c tc] (OInt n) :=
  con_mono (rest_con w news o1 p q c tp tq tc i1 hc hc2 h.pa h.pb h.qa h.qb h.ex) fun _ _ o => les_out h.les o
theorem invF_con (w : World) (news : Led) {x c i : Int} (tx tc : Tok) (h : InvF x c i) (hc : 0 < c) (hc2 : c < 2 ^ 28) : Con w 42 2 news [.int x tx, .int c tc] (OInt i) :=
  con_mono (inv_con w news x c tx tc hc hc2) fun r out o => by
    unfold OInv at o
    rw [if_pos h.g] at o
    obtain ⟨v, h0, h1, h2, h3⟩ := o
    rw [← h.u v h0 h1 h2]
    exact h3
theorem invN_con (w : World) (news : Led) {x c : Int} (tx tc : Tok) (h : ¬ (x.fmod c).gcd c = 1) (hc : 0 < c) (hc2 : c < 2 ^ 28) : Con w 42 2 news [.int x tx, .int c tc] ONone :=
  con_mono (inv_con w news x c tx tc hc hc2) fun r out o => by
    unfold OInv at o
    rw [if_neg h] at o
    exact o
theorem eq_eq {prog : Program} {w : World} {A : Around} {E : Value → Shared → Prop} {s : Shared} {a b : Int} {t u : Tok} {Q : Value → Shared → Prop} (e : a = b) (h : Q (.bool true) s) : wpAny (model prog w) A (compareOp .Eq (.int a t) (.int b u)) Q E s := by
  refine eq_int ?_
  rw [e]
  simpa using h
theorem lo12 {x : Int} (h : -(2 ^ 10) < x) : -(2 ^ 12) < x := by omega
theorem hi12 {x : Int} (h : x < 2 ^ 10) : x < 2 ^ 12 := by omega
theorem pos12 {x : Int} (h : 0 < x) : -(2 ^ 12) < x := by omega
theorem c_bd {c : Int} (h : 2 < c) (h2 : c < 2 ^ 10) : 0 < c ∧ c < 2 ^ 20 ∧ c < 2 ^ 28 ∧ 0 ≤ c - 2 ∧ c - 2 < 2 ^ 28 := by omega
set_option maxRecDepth 100000 in
set_option maxHeartbeats 8000000 in
theorem rk_con (w : World) (news : Led) (o1 o2 : Addr) (p1 q1 p2 q2 c a b i1 ib : Int) (t1 u1 t2 u2 tc : Tok) (hm1 : (o1, tup2 p1 t1 q1 u1) ∈ news) (hm2 : (o2, tup2 p2 t2 q2 u2) ∈ news) (H : RkF p1 q1 p2 q2 c a b i1 ib) : Con w 168 20 news [.ref o1, .ref o2, .int c tc] (OBool true) := by
  unfold Con
  k_fill
  intro mean mg mb dp un gd cn cs ac ccd cl outer A₀ base h₀ L m s Q E B F X N T hk hd hu hret
  refine wpAny_call ?_
  k_dflt cell_enter
  k_with_none
  k_with "my ord" => (first | assumption | exact ktn_ltOf (by assumption) | exact ktn_ltOf (And.right (by k_asm)) | exact ktn_ltOf (And.right (And.right (by k_asm))) | exact ktn_ltOf (And.right (And.right (And.right (by k_asm)))) | exact ktn_ltOf (And.right (And.right (And.right (And.right (by k_asm))))) | exact ktn_ltOf (And.right (And.right (And.right (And.right (And.right (by k_asm)))))))
  k_with "compareOp NotEq ref ref" => (k_here; (with_reducible show wpAny _ _ (compareOp CmpOp.NotEq (Value.ref _) (Value.ref _)) _ _ _); k_dflt ((refine ne_dataH (by ke_read) (by ke_read) (by ked_shaped) (by ked_shaped) (by ktr_units) ?_); ke_norm))
  k_with "compareOp Eq ref ref" => (k_here; (with_reducible show wpAny _ _ (compareOp CmpOp.Eq (Value.ref _) (Value.ref _)) _ _ _); k_dflt ((refine eq_dataH (by ke_read) (by ke_read) (by ked_shaped) (by ked_shaped) (by ktr_units) ?_); ke_norm))
  k_with "my suba" => (intro p hp; (repeat' first | exact hp | exact List.mem_append_left _ hp | exact List.mem_append_right _ hp | refine List.mem_cons_of_mem _ ?_))
  k_with "my sub" => (intro p hp; (repeat' first | exact hp | refine List.mem_cons_of_mem _ ?_))
  rename News _ _ _ _ => N9
  replace N9 := news_sub N9 (sub2 hm1 hm2 (fun _ h => h))
  have c1 := H.c1
  have c2 := H.c2
  have cb := c_bd c1 c2
  have p1a := H.p1a
  have p1b := H.p1b
  have q1a := H.q1a
  have q1b := H.q1b
  have p2a := H.p2a
  have p2b := H.p2b
  have q2a := H.q2a
  have q2b := H.q2b
  have a0 := H.a0
  have ac := H.ac
  have b0 := H.b0
  have bc := H.bc
  have i0 := H.inv.i0
  have ic := H.inv.i1
  k_with "call ref" => (k_here; k_dflt (refine' con_int (restF_con w _ _ _ _ _ (H.nz (by with_reducible assumption)).2.2.2.2 ?m1 cb.1 cb.2.1) ?k1 ?k2 ?k3 ?k4 ?k5 ?kK ?kd ?ku ?_; (case k2 => k_asm); (case k4 => k_asm); (case m1 => k_mem); (case k1 => k_asm); (case k3 => k_asm); (case k5 => k_asm); (case kK => first | exact rfl | assumption); (case kd => first | exact room_ok hd (by decide) | ktr_room); (case ku => first | exact unit_ok hu (by decide) | ktr_units); intro tl h9 tk9 F9 N9; (try k_sweep); (try dsimp only); (try k_fold)))
  k_with "call ref" => (k_here; k_dflt (refine' con_int (restF_con w _ _ _ _ _ H.mul ?m1 cb.1 cb.2.1) ?k1 ?k2 ?k3 ?k4 ?k5 ?kK ?kd ?ku ?_; (case k2 => k_asm); (case k4 => k_asm); (case m1 => k_mem); (case k1 => k_asm); (case k3 => k_asm); (case k5 => k_asm); (case kK => first | exact rfl | assumption); (case kd => first | exact room_ok hd (by decide) | ktr_room); (case ku => first | exact unit_ok hu (by decide) | ktr_units); intro tl h9 tk9 F9 N9; (try k_sweep); (try dsimp only); (try k_fold)))
  k_with "call ref" => (k_here; k_dflt (refine' con_int (restF_con w _ _ _ _ _ H.sub ?m1 cb.1 cb.2.1) ?k1 ?k2 ?k3 ?k4 ?k5 ?kK ?kd ?ku ?_; (case k2 => k_asm); (case k4 => k_asm); (case m1 => k_mem); (case k1 => k_asm); (case k3 => k_asm); (case k5 => k_asm); (case kK => first | exact rfl | assumption); (case kd => first | exact room_ok hd (by decide) | ktr_room); (case ku => first | exact unit_ok hu (by decide) | ktr_units); intro tl h9 tk9 F9 N9; (try k_sweep); (try dsimp only); (try k_fold)))
  k_with "call ref" => (k_here; k_dflt (refine' con_int (restF_con w _ _ _ _ _ H.add ?m1 cb.1 cb.2.1) ?k1 ?k2 ?k3 ?k4 ?k5 ?kK ?kd ?ku ?_; (case k2 => k_asm); (case k4 => k_asm); (case m1 => k_mem); (case k1 => k_asm); (case k3 => k_asm); (case k5 => k_asm); (case kK => first | exact rfl | assumption); (case kd => first | exact room_ok hd (by decide) | ktr_room); (case ku => first | exact unit_ok hu (by decide) | ktr_units); intro tl h9 tk9 F9 N9; (try k_sweep); (try dsimp only); (try k_fold)))
  k_with "call ref" => (k_here; k_dflt (refine' con_int (restF_con w _ _ _ _ _ H.r2 ?m1 cb.1 cb.2.1) ?k1 ?k2 ?k3 ?k4 ?k5 ?kK ?kd ?ku ?_; (case k2 => k_asm); (case k4 => k_asm); (case m1 => k_mem); (case k1 => k_asm); (case k3 => k_asm); (case k5 => k_asm); (case kK => first | exact rfl | assumption); (case kd => first | exact room_ok hd (by decide) | ktr_room); (case ku => first | exact unit_ok hu (by decide) | ktr_units); intro tl h9 tk9 F9 N9; (try k_sweep); (try dsimp only); (try k_fold)))
  k_with "call ref" => (k_here; k_dflt (refine' con_int (restF_con w _ _ _ _ _ H.r1 ?m1 cb.1 cb.2.1) ?k1 ?k2 ?k3 ?k4 ?k5 ?kK ?kd ?ku ?_; (case k2 => k_asm); (case k4 => k_asm); (case m1 => k_mem); (case k1 => k_asm); (case k3 => k_asm); (case k5 => k_asm); (case kK => first | exact rfl | assumption); (case kd => first | exact room_ok hd (by decide) | ktr_room); (case ku => first | exact unit_ok hu (by decide) | ktr_units); intro tl h9 tk9 F9 N9; (try k_sweep); (try dsimp only); (try k_fold)))
  k_with "call ref" => (k_here; k_dflt (refine' con_int (invF_con w _ _ _ (H.nz (by with_reducible assumption)).1 cb.1 cb.2.2.1) ?k1 ?k2 ?k3 ?k4 ?k5 ?kK ?kd ?ku ?_; (case k2 => k_asm); (case k4 => k_asm); (case k1 => k_asm); (case k3 => k_asm); (case k5 => k_asm); (case kK => first | exact rfl | assumption); (case kd => first | exact room_ok hd (by decide) | ktr_room); (case ku => first | exact unit_ok hu (by decide) | ktr_units); intro ti h9 tk9 F9 N9; (try k_sweep); (try dsimp only); (try k_fold)))
  k_with "call ref" => (k_here; k_dflt (refine' con_val (invN_con w _ _ _ (H.z (by with_reducible assumption)) cb.1 cb.2.2.1) ?k1 ?k2 ?k3 ?k4 ?k5 ?kK ?kd ?ku ?_; (case k2 => k_asm); (case k4 => k_asm); (case k1 => k_asm); (case k3 => k_asm); (case k5 => k_asm); (case kK => first | exact rfl | assumption); (case kd => first | exact room_ok hd (by decide) | ktr_room); (case ku => first | exact unit_ok hu (by decide) | ktr_units); intro h9 tk9 F9 N9; (try k_sweep); (try dsimp only); (try k_fold)))
  k_with "call ref" => (k_here; k_dflt (refine' con_int (invF_con w _ _ _ H.inv cb.1 cb.2.2.1) ?k1 ?k2 ?k3 ?k4 ?k5 ?kK ?kd ?ku ?_; (case k2 => k_asm); (case k4 => k_asm); (case k1 => k_asm); (case k3 => k_asm); (case k5 => k_asm); (case kK => first | exact rfl | assumption); (case kd => first | exact room_ok hd (by decide) | ktr_room); (case ku => first | exact unit_ok hu (by decide) | ktr_units); intro ti h9 tk9 F9 N9; (try k_sweep); (try dsimp only); (try k_fold)))
  k_with "call ref" => (k_here; k_dflt (refine' con_int (pm_con w _ _ _ _ _ _ _ cb.1 cb.2.2.1 cb.2.2.2.1 cb.2.2.2.2) ?k1 ?k2 ?k3 ?k4 ?k5 ?kK ?kd ?ku ?_; (case k2 => k_asm); (case k4 => k_asm); (case k1 => k_asm); (case k3 => k_asm); (case k5 => k_asm); (case kK => first | exact rfl | assumption); (case kd => first | exact room_ok hd (by decide) | ktr_room); (case ku => first | exact unit_ok hu (by decide) | ktr_units); intro ti h9 tk9 F9 N9; (try k_sweep); (try dsimp only); (try k_fold)))
  k_with "call ref" => (k_here; k_dflt (refine' con_tup (radd_con w _ _ _ _ _ _ _ _ _ _ _ ?m1 ?m2 (lo12 H.p1a) (hi12 H.p1b) (pos12 H.q1a) (hi12 H.q1b) (lo12 H.p2a) (hi12 H.p2b) (pos12 H.q2a) (hi12 H.q2b) H.qq H.qq1 H.qq2) ?k1 ?k2 ?k3 ?k4 ?k5 ?kK ?kd ?ku ?_; (case k2 => k_asm); (case k4 => k_asm); (case m1 => k_mem); (case m2 => k_mem); (case k1 => k_asm); (case k3 => k_asm); (case k5 => k_asm); (case kK => first | exact rfl | assumption); (case kd => first | exact room_ok hd (by decide) | ktr_room); (case ku => first | exact unit_ok hu (by decide) | ktr_units); intro ao to uo h9 tk9 F9 N9 l9; (try k_lt l9); (try k_sweep); (try dsimp only); (try k_fold)))
  k_with "call ref" => (k_here; k_dflt (refine' con_tup (rsub_con w _ _ _ _ _ _ _ _ _ _ _ ?m1 ?m2 (lo12 H.p1a) (hi12 H.p1b) (pos12 H.q1a) (hi12 H.q1b) (lo12 H.p2a) (hi12 H.p2b) (pos12 H.q2a) (hi12 H.q2b) H.qq H.qq1 H.qq2) ?k1 ?k2 ?k3 ?k4 ?k5 ?kK ?kd ?ku ?_; (case k2 => k_asm); (case k4 => k_asm); (case m1 => k_mem); (case m2 => k_mem); (case k1 => k_asm); (case k3 => k_asm); (case k5 => k_asm); (case kK => first | exact rfl | assumption); (case kd => first | exact room_ok hd (by decide) | ktr_room); (case ku => first | exact unit_ok hu (by decide) | ktr_units); intro ao to uo h9 tk9 F9 N9 l9; (try k_lt l9); (try k_sweep); (try dsimp only); (try k_fold)))
  k_with "call ref" => (k_here; k_dflt (refine' con_tup (rmul_con w _ _ _ _ _ _ _ _ _ _ _ ?m1 ?m2 (lo12 H.p1a) (hi12 H.p1b) (pos12 H.q1a) (hi12 H.q1b) (lo12 H.p2a) (hi12 H.p2b) (pos12 H.q2a) (hi12 H.q2b) H.qq H.qq1 H.qq2) ?k1 ?k2 ?k3 ?k4 ?k5 ?kK ?kd ?ku ?_; (case k2 => k_asm); (case k4 => k_asm); (case m1 => k_mem); (case m2 => k_mem); (case k1 => k_asm); (case k3 => k_asm); (case k5 => k_asm); (case kK => first | exact rfl | assumption); (case kd => first | exact room_ok hd (by decide) | ktr_room); (case ku => first | exact unit_ok hu (by decide) | ktr_units); intro ao to uo h9 tk9 F9 N9 l9; (try k_lt l9); (try k_sweep); (try dsimp only); (try k_fold)))
  k_with "call ref" => (k_here; k_dflt (refine' con_tup (rdiv_con w _ _ _ _ _ _ _ _ _ _ _ ?m1 ?m2 (lo12 H.p1a) (hi12 H.p1b) (pos12 H.q1a) (hi12 H.q1b) (lo12 H.p2a) (hi12 H.p2b) (pos12 H.q2a) (hi12 H.q2b) (H.nz (by with_reducible assumption)).2.1 (H.nz (by with_reducible assumption)).2.2.1 (H.nz (by with_reducible assumption)).2.2.2.1) ?k1 ?k2 ?k3 ?k4 ?k5 ?kK ?kd ?ku ?_; (case k2 => k_asm); (case k4 => k_asm); (case m1 => k_mem); (case m2 => k_mem); (case k1 => k_asm); (case k3 => k_asm); (case k5 => k_asm); (case kK => first | exact rfl | assumption); (case kd => first | exact room_ok hd (by decide) | ktr_room); (case ku => first | exact unit_ok hu (by decide) | ktr_units); intro ao to uo h9 tk9 F9 N9 l9; (try k_lt l9); (try k_sweep); (try dsimp only); (try k_fold)))
  k_with "compareOp NotEq int int" => (first | (refine ne_eq rfl ?_) | (refine ne_eq H.ai ?_) | (refine ne_eq H.pw ?_))
  k_with "compareOp Eq int int" => (refine eq_eq rfl ?_)
  k_steps
  all_goals (refine end_bool hret (⟨rfl, rfl⟩) (by k_asm) (by k_asm) (by k_extra "my sub"))

section
variable {prog : Program} {w : World} {A : Around} {s : Shared} {h₀ : Heap} {L : Addr} {m : Str → Option Value} {env : Env} {elt : PySem.Expr} {x : Str} {scope : Scope} {cl : List (Str × Addr)} {S : Led → Prop} {P : Nat → Value → Prop} {Fin : List Value → Led → Prop}
/-- the turns of a comprehension without a test, by what holds of the list and of the ledger so far -/
theorem rest_ind (J : Nat → List Value → Led → Prop) {n : Nat} {news : Led} (h0 : J 0 [] news)
    (step : ∀ i ys nx, i < n → J i ys nx → ∀ v I oI C oC D m₂ h tk (E' : Value → Shared → Prop), P i v → LCg.NsObj oC m₂ → m₂ x = some v → Fr h₀ L h m → News h₀ L h ((I, oI) :: (C, oC) :: (D, LCg.lst ys) :: nx) → LCg.Off3 I C D nx → ((@Ne Nat I C) ∧ (@Ne Nat I D) ∧ (@Ne Nat C D)) →
      wpAny (model prog w) A (eval elt (compEnvC scope cl C env)) (LCg.CompEnd h₀ L m { s with heap := h, toks := tk } I oI C oC D (LCg.lst ys) S (fun y nw => J (i + 1) (ys ++ [y]) nw)) E' { s with heap := h, toks := tk })
    (hfin : ∀ ys nx, J n ys nx → Fin ys nx) : LCg.CompRest prog w A h₀ L m env elt x scope cl s S P Fin n 0 [] news := by
  have all : ∀ k i ys nx, i + k = n → J i ys nx → LCg.CompRest prog w A h₀ L m env elt x scope cl s S P Fin k i ys nx := by
    intro k
    induction k with
    | zero => intro i ys nx e hJ; exact LCg.CompRest.zero (hfin ys nx (by rw [← e]; exact hJ))
    | succ k ih =>
      intro i ys nx e hJ
      refine LCg.CompRest.succ ?_
      intro v I oI C oC D m₂ h tk E' hv hC hx F N off ne
      exact wpAny_mono (step i ys nx (by omega) hJ v I oI C oC D m₂ h tk E' hv hC hx F N off ne) (fun y s₂ h2 => compEnd_mono h2 fun nw hn => ih (i + 1) _ nw (by omega) hn) fun _ _ e => e
  exact all n 0 [] news (by omega) h0
end
theorem off3_cons {I C D a : Addr} {o : Obj} {nx : Led} (h1 : @LT.lt Nat _ I a) (h2 : @LT.lt Nat _ C a) (h3 : @LT.lt Nat _ D a) (h : LCg.Off3 I C D nx) : LCg.Off3 I C D ((a, o) :: nx) :=
  ⟨⟨(Nat.ne_of_gt h1), (Nat.ne_of_gt h2), (Nat.ne_of_gt h3)⟩, h⟩
/-- the two ratios that are rebuilt -/
def R2J (nw : Led) (u1 v1 u2 v2 : Int) (i : Nat) (ys : List Value) (nx : Led) : Prop := match i with
  | 0 => ys = [] ∧ nx = nw
  | 1 => ∃ a1 k1 k2, ys = [.ref a1] ∧ nx = (a1, tup2 u1 k1 v1 k2) :: nw ∧ AllLt a1 nw
  | 2 => ∃ a1 k1 k2 a2 k3 k4, ys = [.ref a1, .ref a2] ∧ nx = (a2, tup2 u2 k3 v2 k4) :: (a1, tup2 u1 k1 v1 k2) :: nw ∧ AllLt a1 nw ∧ AllLt a2 nw
  | _ => False
def ORats2 (u1 v1 u2 v2 : Int) : Rt := fun r out => ∃ lo a1 a2 k1 k2 k3 k4, r = .ref lo ∧ out = [(lo, LCg.lst [Value.ref a1, Value.ref a2]), (a1, tup2 u1 k1 v1 k2), (a2, tup2 u2 k3 v2 k4)]
/-- the same as Con, but nothing is told of where the made objects lie -/
def ConW (w : World) (f : Addr) (d : Nat) (news : Led) (vs : List Value) (Out : Rt) : Prop :=
  ∀ (mean : ExcName → Option Value) (mg mb : Str → Option Value) (dp un : Nat) (gd : Option (List Code)) (cn : Str) (cs : Scope) (a : Addr) (ccd : Value) (cl : List (Str × Addr)) (outer : List Env) (A₀ : Around) (base h₀ : Heap) (L : Addr) (m : Str → Option Value) (s : Shared) (Q E : Value → Shared → Prop),
    Below A₀ base outer h₀ → Fr h₀ L s.heap m → (hd.heap_39 w.params).In h₀ → News h₀ L s.heap news → Top vw (looseW vw []) mean mg mb h₀ → cs.kind = .function → dp + d < recursionLimit → un + 8 * d < cLine →
    (∀ r out h' tk', Fr h₀ L h' m → News h₀ L h' (out ++ news) → Out r out → Q r { s with heap := h', toks := tk' }) →
    wpAny (model PySem.Challenge.rw_pf0033_01.row.prog w) (ktrTop dp un gd cn cs L a ccd cl outer) (call (.ref f) vs) Q E s
section
variable {w : World} {f : Addr} {d : Nat} {news : Led} {vs : List Value} {Out : Rt} {mean : ExcName → Option Value} {mg mb : Str → Option Value} {dp un : Nat} {gd : Option (List Code)} {cn : Str} {cs : Scope} {a : Addr} {ccd : Value} {cl : List (Str × Addr)} {outer : List Env} {A₀ : Around} {base h₀ : Heap} {L : Addr} {m : Str → Option Value} {s : Shared} {Q E : Value → Shared → Prop}
theorem conW_use (C : ConW w f d news vs Out) (B : Below A₀ base outer h₀) (F : Fr h₀ L s.heap m) (X : (hd.heap_39 w.params).In h₀) (N : News h₀ L s.heap news) (T : Top vw (looseW vw []) mean mg mb h₀) (hk : cs.kind = .function) (hd : dp + d < recursionLimit) (hu : un + 8 * d < cLine)
    (ret : ∀ r out h' tk', Fr h₀ L h' m → News h₀ L h' (out ++ news) → Out r out → Q r { s with heap := h', toks := tk' }) :
    wpAny (model PySem.Challenge.rw_pf0033_01.row.prog w) (ktrTop dp un gd cn cs L a ccd cl outer) (call (.ref f) vs) Q E s := C _ _ _ _ _ _ _ _ _ _ _ _ _ _ _ _ _ _ _ _ B F X N T hk hd hu ret
end
theorem none_in {prog : Program} {w : World} {A : Around} {E : Value → Shared → Prop} {s : Shared} {c : Value} {xs : List PyData} {as : List Addr} {Q : Value → Shared → Prop} (rc : Reads s.heap c (.list xs) as) (hxs : PyData.canLayAll0 xs = true) (hu : A.units + 65 < cLine) (hany : (xs.any fun y => PyData.eqv y .none) = false) (h : Q (.bool false) s) :
    wpAny (model prog w) A (compareOp .In .none c) Q E s := PySem.SeqAt.in_list_reads rc Reads.none hxs (by rfl) (room_in_shaped (by rfl) hu) (by rw [hany]; exact h)
set_option maxRecDepth 100000 in
set_option maxHeartbeats 8000000 in
theorem rats2_con (w : World) (news : Led) (l : Addr) (n1 n2 vm u1 v1 u2 v2 : Int) (t1 t2 tm : Tok) (nn : Nat) (hl : (l, listOf [Value.int n1 t1, Value.int n2 t2].toArray nn) ∈ news) (hr1 : RatIs n1 vm u1 v1) (hr2 : RatIs n2 vm u2 v2) (hm : 1 < vm) (hm2 : vm < 2 ^ 28) (hn1 : 0 ≤ n1) (hn2 : 0 ≤ n2) :
    ConW w 82 20 news [.ref l, .int vm tm] (ORats2 u1 v1 u2 v2) := by
  unfold ConW
  k_fill
  intro mean mg mb dp un gd cn cs ac ccd cl outer A₀ base h₀ L m s Q E B F X N T hk hd hu hret
  refine wpAny_call ?_
  k_dflt (refine' code_defC ?k1 ?k2 ?k3 ?k4 ?k5 ?kA ?kF ?kK ?k6 ?k7 ?k8 ?k9 ?kB ?kD ?_ ?c2 ?c3 ?c4; (case kA => exact rfl); (case kF => exact rfl); (case kK => assumption); (case k1 => k_asm); (case k2 => k_asm); (case k3 => k_asm); (case k4 => k_asm); (case k5 => k_asm); (case k6 => k_is); (case k7 => k_is); (case k8 => ktr_room); (case k9 => exact BindsTo.of_eq rfl); (case kB => exact rfl); (case kD => decide +kernel); (case c2 => exact rfl); (case c3 => exact rfl); (case c4 => exact rfl); k_whole; intro g' L' h' tk' cells' FG' F' N' Y' B' X' T' l1; (try k_lt l1); k_cells Y'; (try simp only [List.cons_append, List.nil_append] at N'); (try dsimp only); (try k_lift B'); (try k_fold))
  k_with_none
  k_with "my ord" => (first | assumption | exact ktn_ltOf (by assumption) | exact ktn_ltOf (And.right (by k_asm)) | exact ktn_ltOf (And.right (And.right (by k_asm))) | exact ktn_ltOf (And.right (And.right (And.right (by k_asm)))) | exact ktn_ltOf (And.right (And.right (And.right (And.right (by k_asm))))) | exact ktn_ltOf (And.right (And.right (And.right (And.right (And.right (by k_asm)))))))
  k_with "compareOp NotEq ref ref" => (k_here; (with_reducible show wpAny _ _ (compareOp CmpOp.NotEq (Value.ref _) (Value.ref _)) _ _ _); k_dflt ((refine ne_dataH (by ke_read) (by ke_read) (by ked_shaped) (by ked_shaped) (by ktr_units) ?_); ke_norm))
  k_with "compareOp Eq ref ref" => (k_here; (with_reducible show wpAny _ _ (compareOp CmpOp.Eq (Value.ref _) (Value.ref _)) _ _ _); k_dflt ((refine eq_dataH (by ke_read) (by ke_read) (by ked_shaped) (by ked_shaped) (by ktr_units) ?_); ke_norm))
  k_with "my suba" => (intro p hp; (repeat' first | exact hp | exact List.mem_append_left _ hp | exact List.mem_append_right _ hp | refine List.mem_cons_of_mem _ ?_))
  k_with "my sub" => (intro p hp; (repeat' first | exact hp | refine List.mem_cons_of_mem _ ?_))
  rename News _ _ _ _ => N9
  replace N9 := news_sub N9 (sub1 (List.mem_cons_of_mem _ hl) (fun _ h => h))
  k_with "exec Assign cons ListComp" => (k_here; k_dflt (refine LCg.Assign_ListComp_U (F₀ := by k_asm) (by rfl) (by with_unfolding_all rfl) (by with_unfolding_all rfl) (by decide) (by rfl) (by decide) (by rfl) (by rfl) (by rfl) ?_))
  k_with "CompSrc" => (k_dflt (
    refine LCg.CompSrc.ledger (by rfl) (by k_asm) (by k_asm) (by k_mem) (by exact Nat.le_of_ble_eq_true rfl) ?_
    intro g9
    refine rest_ind (R2J _ u1 v1 u2 v2) ⟨rfl, rfl⟩ (fun i ys nx hi hJ v I oI C oC D m2 h2 tk2 E2 hv hC hx F2 N2 off ne => ?zt) (fun ys nx hJ => ?zf)
    case' zt => (
      have hi2 : i < 2 := hi
      rcases (show i = 0 ∨ i = 1 by omega) with rfl | rfl
      case' inl => (
        have hve : v = Value.int n1 t1 := by simpa using hv.symm
        subst hve
        obtain ⟨rfl, rfl⟩ := hJ
        (try k_fold))
      case' inr => (
        have hve : v = Value.int n2 t2 := by simpa using hv.symm
        subst hve
        obtain ⟨a1, k1, k2, rfl, rfl, hlt1⟩ := hJ
        (try k_fold)))
    case' zf => (
      obtain ⟨a1, k1, k2, a2, k3, k4, rfl, rfl, hlt1, hlt2⟩ := hJ)))
  k_with "call ref" => (k_here; k_dflt (refine' con_tup (con_mono (rof_con w _ _ _ _ _ hn1 hm hm2) (fun _ _ h => ratIs_out hr1 h)) ?k1 ?k2 ?k3 ?k4 ?k5 ?kK ?kd ?ku ?_; (case k2 => k_asm); (case k4 => k_asm); (case k1 => k_asm); (case k3 => k_asm); (case k5 => k_asm); (case kK => first | exact rfl | assumption); (case kd => first | exact room_ok hd (by decide) | ktr_room); (case ku => first | exact unit_ok hu (by decide) | ktr_units); intro ao to uo h9 tk9 F9 N9 l9; (try k_lt l9); (try k_sweep); (try dsimp only); (try k_fold)))
  k_with "call ref" => (k_here; k_dflt (refine' con_tup (con_mono (rof_con w _ _ _ _ _ hn2 hm hm2) (fun _ _ h => ratIs_out hr2 h)) ?k1 ?k2 ?k3 ?k4 ?k5 ?kK ?kd ?ku ?_; (case k2 => k_asm); (case k4 => k_asm); (case k1 => k_asm); (case k3 => k_asm); (case k5 => k_asm); (case kK => first | exact rfl | assumption); (case kd => first | exact room_ok hd (by decide) | ktr_room); (case ku => first | exact unit_ok hu (by decide) | ktr_units); intro ao to uo h9 tk9 F9 N9 l9; (try k_lt l9); (try k_sweep); (try dsimp only); (try k_fold)))
  k_with "compareOp In none ref" => (k_dflt (refine none_in (by ke_read) (by rfl) (by ktr_units) (by rfl) ?_))
  k_steps
  · refine hret _ [(_, LCg.lst [Value.ref a1, Value.ref a2]), (a1, tup2 u1 k1 v1 k2), (a2, tup2 u2 k3 v2 k4)] _ _ (by assumption) (news_sub (by assumption) (sub1 (by k_dflt k_mem) (sub1 (by k_dflt k_mem) (sub1 (by k_dflt k_mem) (by k_extra "my sub"))))) ⟨_, a1, a2, k1, k2, k3, k4, rfl, rfl⟩
  · refine LCg.CompEnd.intro (by assumption) (by assumption) _ (sub1 (by k_dflt k_mem) (sub1 (by k_dflt k_mem) (sub1 (by k_dflt k_mem) (sub1 (by k_dflt k_mem) (by k_extra "my sub"))))) (off3_cons l9.1 l9.2.1 l9.2.2.1 off) (.inr ⟨_, List.mem_cons_of_mem _ (List.mem_cons_of_mem _ List.mem_cons_self), rfl, _, rfl⟩) ⟨a1, k1, k2, ao, to, uo, rfl, rfl, hlt1, l9.2.2.2.2⟩
  · refine LCg.CompEnd.intro (by assumption) (by assumption) _ (sub1 (by k_dflt k_mem) (sub1 (by k_dflt k_mem) (sub1 (by k_dflt k_mem) (sub1 (by k_dflt k_mem) (by k_extra "my sub"))))) (off3_cons l9.1 l9.2.1 l9.2.2.1 off) (.inr ⟨_, List.mem_cons_of_mem _ List.mem_cons_self, rfl, _, rfl⟩) ⟨ao, to, uo, rfl, rfl, l9.2.2.2⟩
def R0J (nw : Led) (_i : Nat) (ys : List Value) (nx : Led) : Prop := ys = [] ∧ nx = nw
set_option maxRecDepth 100000 in
set_option maxHeartbeats 8000000 in
theorem rats0_con (w : World) (news : Led) (l : Addr) (vm : Int) (tm : Tok) (nn : Nat) (hl : (l, listOf ([] : List Value).toArray nn) ∈ news) :
    ConW w 82 20 news [.ref l, .int vm tm] (fun r out => ∃ lo, r = .ref lo ∧ out = [(lo, LCg.lst [])]) := by
  unfold ConW
  k_fill
  intro mean mg mb dp un gd cn cs ac ccd cl outer A₀ base h₀ L m s Q E B F X N T hk hd hu hret
  refine wpAny_call ?_
  k_dflt (refine' code_defC ?k1 ?k2 ?k3 ?k4 ?k5 ?kA ?kF ?kK ?k6 ?k7 ?k8 ?k9 ?kB ?kD ?_ ?c2 ?c3 ?c4; (case kA => exact rfl); (case kF => exact rfl); (case kK => assumption); (case k1 => k_asm); (case k2 => k_asm); (case k3 => k_asm); (case k4 => k_asm); (case k5 => k_asm); (case k6 => k_is); (case k7 => k_is); (case k8 => ktr_room); (case k9 => exact BindsTo.of_eq rfl); (case kB => exact rfl); (case kD => decide +kernel); (case c2 => exact rfl); (case c3 => exact rfl); (case c4 => exact rfl); k_whole; intro g' L' h' tk' cells' FG' F' N' Y' B' X' T' l1; (try k_lt l1); k_cells Y'; (try simp only [List.cons_append, List.nil_append] at N'); (try dsimp only); (try k_lift B'); (try k_fold))
  k_with_none
  k_with "my ord" => (first | assumption | exact ktn_ltOf (by assumption) | exact ktn_ltOf (And.right (by k_asm)) | exact ktn_ltOf (And.right (And.right (by k_asm))) | exact ktn_ltOf (And.right (And.right (And.right (by k_asm)))) | exact ktn_ltOf (And.right (And.right (And.right (And.right (by k_asm))))) | exact ktn_ltOf (And.right (And.right (And.right (And.right (And.right (by k_asm)))))))
  k_with "compareOp NotEq ref ref" => (k_here; (with_reducible show wpAny _ _ (compareOp CmpOp.NotEq (Value.ref _) (Value.ref _)) _ _ _); k_dflt ((refine ne_dataH (by ke_read) (by ke_read) (by ked_shaped) (by ked_shaped) (by ktr_units) ?_); ke_norm))
  k_with "compareOp Eq ref ref" => (k_here; (with_reducible show wpAny _ _ (compareOp CmpOp.Eq (Value.ref _) (Value.ref _)) _ _ _); k_dflt ((refine eq_dataH (by ke_read) (by ke_read) (by ked_shaped) (by ked_shaped) (by ktr_units) ?_); ke_norm))
  k_with "my suba" => (intro p hp; (repeat' first | exact hp | exact List.mem_append_left _ hp | exact List.mem_append_right _ hp | refine List.mem_cons_of_mem _ ?_))
  k_with "my sub" => (intro p hp; (repeat' first | exact hp | refine List.mem_cons_of_mem _ ?_))
  rename News _ _ _ _ => N9
  replace N9 := news_sub N9 (sub1 (List.mem_cons_of_mem _ hl) (fun _ h => h))
  k_with "exec Assign cons ListComp" => (k_here; k_dflt (refine LCg.Assign_ListComp_U (F₀ := by k_asm) (by rfl) (by with_unfolding_all rfl) (by with_unfolding_all rfl) (by decide) (by rfl) (by decide) (by rfl) (by rfl) (by rfl) ?_))
  k_with "CompSrc" => (k_dflt (
    refine LCg.CompSrc.ledger (by rfl) (by k_asm) (by k_asm) (by k_mem) (by exact Nat.le_of_ble_eq_true rfl) ?_
    intro g9
    refine rest_ind (R0J _) ⟨rfl, rfl⟩ (fun i ys nx hi hJ v I oI C oC D m2 h2 tk2 E2 hv hC hx F2 N2 off ne => absurd hi (Nat.not_lt_zero i)) (fun ys nx hJ => ?zf0)
    case' zf0 => (
      obtain ⟨rfl, rfl⟩ := hJ)))
  k_with "compareOp In none ref" => (k_dflt (refine none_in (by ke_read) (by rfl) (by ktr_units) (by rfl) ?_))
  k_steps
  · refine hret _ [(_, LCg.lst [])] _ _ (by assumption) (news_sub (by assumption) (sub1 (by k_dflt k_mem) (by k_extra "my sub"))) ⟨_, rfl, rfl⟩

section
variable {prog : Program} {w : World} {A : Around} {E : Value → Shared → Prop} {s : Shared} {h₀ : Heap} {L l : Addr} {news : Led} {vs : List Value} {ns : List Int} {n2 : Nat} {Q : Value → Shared → Prop}
theorem len_vs (N : News h₀ L s.heap news) (hm : (l, listOf vs.toArray n2) ∈ news) (hlen : vs.length < 2 ^ 20) (h : Q (.int (vs.length : Int) (s.toks + 1)) { s with toks := s.toks + 1 + 1 }) : wpAny (model prog w) A (call (.builtin "len") [.ref l]) Q E s := by
  have e : vs.toArray.size = vs.length := by simp
  exact PyProof.Rows.len_list (items := vs.toArray) ⟨_, (N _ hm).1, rfl, _, rfl⟩ (by omega) (by rw [e]; exact h)
theorem item_vs {value slice : PySem.Expr} {k : Int} {u : Tok} (hi : IntsAre vs ns) (N : News h₀ L s.heap news) (hm : (l, listOf vs.toArray n2) ∈ news) (hlen : vs.length < 2 ^ 20) (h0 : 0 ≤ k) (h1 : k < vs.length) (h : ∀ n t, Q (.int n t) s)
    (hs : subscripted slice false (.ref l) (.int k u) = operate [.ref l, .int k u] (getItem (.ref l) (.int k u))) : wpAny (model prog w) A (subscriptTail value slice (.ref l) (.int k u)) Q E s := by
  have hl : s.heap.IsList l vs.toArray := ⟨_, (N _ hm).1, rfl, _, rfl⟩
  have e : vs.length = ns.length := hi.length
  have hk : k.toNat < ns.length := by omega
  obtain ⟨t, ht⟩ := hi.get k.toNat (ns[k.toNat]'hk) (List.getElem?_eq_getElem hk)
  exact tail_any hl.typeIs slot_list_getitem.lookup (wpAny_getItem_list hl h0 (by omega) (x := .int (ns[k.toNat]'hk) t) (by simpa using ht) (h _ _)) hs
end
set_option maxRecDepth 100000 in
set_option maxHeartbeats 8000000 in
theorem take_con (w : World) (rest : Led) (bx l : Addr) (k many : Int) (tk9 tm : Tok) (nn n2 : Nat) (vs : List Value) (ns : List Int) (hl : (l, listOf vs.toArray n2) ∈ rest) (hi : IntsAre vs ns) (hne : ∀ p ∈ rest, p.1 ≠ bx) (hm : 0 < many) (hm2 : many < 2 ^ 20) (hk : 0 ≤ k) (hk2 : k < 2 ^ 20) (hlen : vs.length < 2 ^ 20) :
  ∀ (mean : ExcName → Option Value) (mg mb : Str → Option Value) (dp un : Nat) (gd : Option (List Code)) (cn : Str) (cs : Scope) (a : Addr) (ccd : Value) (cl : List (Str × Addr)) (outer : List Env) (A₀ : Around) (base h₀ : Heap) (L : Addr) (m : Str → Option Value) (s : Shared) (Q E : Value → Shared → Prop),
    Below A₀ base outer h₀ → Fr h₀ L s.heap m → (hd.heap_39 w.params).In h₀ → News h₀ L s.heap ((bx, listOf [Value.ref l, Value.int k tk9].toArray nn) :: rest) → Top vw (looseW vw []) mean mg mb h₀ → cs.kind = .function → dp + 2 < recursionLimit → un + 8 * 20 < cLine →
    (∀ v t t2 h' tk', 0 ≤ v → v < many → Fr h₀ L h' m → News h₀ L h' ((bx, listOf [Value.ref l, Value.int (k + 1) t2].toArray nn) :: rest) → Q (.int v t) { s with heap := h', toks := tk' }) →
    wpAny (model PySem.Challenge.rw_pf0033_01.row.prog w) (ktrTop dp un gd cn cs L a ccd cl outer) (call (.ref 151) [.ref bx, .int many tm]) Q E s := by
  k_fill
  intro mean mg mb dp un gd cn cs ac ccd cl outer A₀ base h₀ L m s Q E B F X N T hkk hd hu hret
  refine wpAny_call ?_
  k_dflt cell_enter
  k_with_none
  k_with "my ord" => (first | assumption | exact ktn_ltOf (by assumption) | exact ktn_ltOf (And.right (by k_asm)) | exact ktn_ltOf (And.right (And.right (by k_asm))) | exact ktn_ltOf (And.right (And.right (And.right (by k_asm)))) | exact ktn_ltOf (And.right (And.right (And.right (And.right (by k_asm))))) | exact ktn_ltOf (And.right (And.right (And.right (And.right (And.right (by k_asm)))))))
  k_with "compareOp NotEq ref ref" => (k_here; (with_reducible show wpAny _ _ (compareOp CmpOp.NotEq (Value.ref _) (Value.ref _)) _ _ _); k_dflt ((refine ne_dataH (by ke_read) (by ke_read) (by ked_shaped) (by ked_shaped) (by ktr_units) ?_); ke_norm))
  k_with "compareOp Eq ref ref" => (k_here; (with_reducible show wpAny _ _ (compareOp CmpOp.Eq (Value.ref _) (Value.ref _)) _ _ _); k_dflt ((refine eq_dataH (by ke_read) (by ke_read) (by ked_shaped) (by ked_shaped) (by ktr_units) ?_); ke_norm))
  k_with "my suba" => (intro p hp; (repeat' first | exact hp | exact List.mem_append_left _ hp | exact List.mem_append_right _ hp | refine List.mem_cons_of_mem _ ?_))
  k_with "my sub" => (intro p hp; (repeat' first | exact hp | refine List.mem_cons_of_mem _ ?_))
  have hlb : @Ne Nat l bx := hne _ hl
  rename News _ _ _ _ => N9
  replace N9 := news_sub N9 (sub1 (List.mem_cons_of_mem _ hl) (fun _ h => h))
  k_with "call builtin:len" => (k_dflt (refine len_vs (by k_asm) (by k_mem) hlen ?_))
  k_with "subscriptTail" => (k_dflt (refine' item_vs hi ?zN (by k_mem) hlen ?z0 ?z1 ?zh ?zs; (case zN => k_asm); (case z0 => omega); (case z1 => omega); (case zs => with_unfolding_all rfl); (case' zh => intro n9 t9)))
  k_steps
  all_goals (refine hret _ _ _ _ _ (Int.fmod_nonneg_of_pos _ hm) (Int.fmod_lt_of_pos _ hm) (by assumption) (news_sub (by assumption) (sub1 (by k_dflt k_mem) (by k_extra "my sub"))))
theorem take_conU (w : World) (news : Led) (g : Obj → Led) (bx l : Addr) (k many : Int) (tk9 tm : Tok) (nn n2 : Nat) (vs : List Value) (ns : List Int) (hl : (l, listOf vs.toArray n2) ∈ news) (U : UpdF bx (listOf [Value.ref l, Value.int k tk9].toArray nn) news g) (hlb : @Ne Nat l bx) (hi : IntsAre vs ns) (hm : 0 < many) (hm2 : many < 2 ^ 20) (hk : 0 ≤ k) (hk2 : k < 2 ^ 20) (hlen : vs.length < 2 ^ 20)
    {mean : ExcName → Option Value} {mg mb : Str → Option Value} {dp un : Nat} {gd : Option (List Code)} {cn : Str} {cs : Scope} {a : Addr} {ccd : Value} {cl : List (Str × Addr)} {outer : List Env} {A₀ : Around} {base h₀ : Heap} {L : Addr} {m : Str → Option Value} {s : Shared} {Q E : Value → Shared → Prop}
    (B : Below A₀ base outer h₀) (F : Fr h₀ L s.heap m) (X : (hd.heap_39 w.params).In h₀) (N : News h₀ L s.heap news) (T : Top vw (looseW vw []) mean mg mb h₀) (hkk : cs.kind = .function) (hd : dp + 2 < recursionLimit) (hu : un + 8 * 20 < cLine)
    (hret : ∀ v t t2 h' tk', 0 ≤ v → v < many → Fr h₀ L h' m → News h₀ L h' (g (listOf [Value.ref l, Value.int (k + 1) t2].toArray nn)) → Q (.int v t) { s with heap := h', toks := tk' }) :
    wpAny (model PySem.Challenge.rw_pf0033_01.row.prog w) (ktrTop dp un gd cn cs L a ccd cl outer) (call (.ref 151) [.ref bx, .int many tm]) Q E s := by
  obtain ⟨pre, post, rfl, hg, h1, h2⟩ := U.split
  have hl2 : (l, listOf vs.toArray n2) ∈ pre ++ post := by
    rcases List.mem_append.mp hl with h | h
    · exact List.mem_append_left _ h
    · rcases List.mem_cons.mp h with h | h
      · exact absurd (congrArg Prod.fst h) hlb
      · exact List.mem_append_right _ h
  refine take_con w (pre ++ post) bx l k many tk9 tm nn n2 vs ns hl2 hi (fun p hp => (List.mem_append.mp hp).elim (h1 p) (h2 p)) hm hm2 hk hk2 hlen mean mg mb dp un gd cn cs a ccd cl outer A₀ base h₀ L m s Q E B F X (fun p hp => N p ?_) T hkk hd hu fun v t t2 h' tk' b0 b1 F' N' => hret v t t2 h' tk' b0 b1 F' (fun p hp => N' p ?_)
  · rcases List.mem_cons.mp hp with rfl | hp
    · exact List.mem_append_right _ List.mem_cons_self
    · exact (List.mem_append.mp hp).elim (List.mem_append_left _) fun h => List.mem_append_right _ (List.mem_cons_of_mem _ h)
  · rw [hg] at hp
    rcases List.mem_append.mp hp with h | h
    · exact List.mem_cons_of_mem _ (List.mem_append_left _ h)
    · rcases List.mem_cons.mp h with rfl | h
      · exact List.mem_cons_self
      · exact List.mem_cons_of_mem _ (List.mem_append_right _ h)
def OPrimes : Rt := fun r out => ∃ l k0 k1 k2 k3 k4 k5, r = .ref l ∧ out = [(l, listOf [Value.int 7 k0, .int 11 k1, .int 13 k2, .int 17 k3, .int 19 k4, .int 23 k5].toArray 0)]
set_option maxRecDepth 100000 in
set_option maxHeartbeats 8000000 in
theorem primes_con (w : World) (news : Led) : Con w 144 1 news [] OPrimes := by
  unfold Con
  k_fill
  intro mean mg mb dp un gd cn cs ac ccd cl outer A₀ base h₀ L m s Q E B F X N T hk hd hu hret
  refine wpAny_call ?_
  k_dflt cell_enter
  k_with_none
  k_with "my ord" => (first | assumption | exact ktn_ltOf (by assumption) | exact ktn_ltOf (And.right (by k_asm)) | exact ktn_ltOf (And.right (And.right (by k_asm))) | exact ktn_ltOf (And.right (And.right (And.right (by k_asm)))) | exact ktn_ltOf (And.right (And.right (And.right (And.right (by k_asm))))) | exact ktn_ltOf (And.right (And.right (And.right (And.right (And.right (by k_asm)))))))
  k_with "compareOp NotEq ref ref" => (k_here; (with_reducible show wpAny _ _ (compareOp CmpOp.NotEq (Value.ref _) (Value.ref _)) _ _ _); k_dflt ((refine ne_dataH (by ke_read) (by ke_read) (by ked_shaped) (by ked_shaped) (by ktr_units) ?_); ke_norm))
  k_with "compareOp Eq ref ref" => (k_here; (with_reducible show wpAny _ _ (compareOp CmpOp.Eq (Value.ref _) (Value.ref _)) _ _ _); k_dflt ((refine eq_dataH (by ke_read) (by ke_read) (by ked_shaped) (by ked_shaped) (by ktr_units) ?_); ke_norm))
  k_with "my suba" => (intro p hp; (repeat' first | exact hp | exact List.mem_append_left _ hp | exact List.mem_append_right _ hp | refine List.mem_cons_of_mem _ ?_))
  k_with "my sub" => (intro p hp; (repeat' first | exact hp | refine List.mem_cons_of_mem _ ?_))
  k_steps
  refine end_ref hret (⟨_, _, _, _, _, _, _, rfl, rfl⟩) (by k_asm) (by k_asm) (by k_dflt k_mem) (by k_extra "my sub") (by k_extra "my ord")

/-- a made tuple of the ledger -/
def TupAt (ax : Addr) (its : List Value) (nw : Led) : Prop := (ax, ({ cls := .type "tuple", data := .seq its.toArray } : Obj)) ∈ nw

section
variable {E : Value → Shared → Prop} {s : Shared} {A : Around} {M : Model}
theorem env_one {scope : Scope} {globals : Addr} {cl : List (Str × Addr)} {qual : Str} {env : Env} {x a0 a2 a3 : Str} {Q : Env → Shared → Prop} (hn : scope.names = [(a0, .local), (x, .cell), (a2, .globalImplicit), (a3, .free)])
    (h : Q { scope := scope, locals := s.heap.objs.size, globals := globals, cells := (x, s.heap.objs.size + 1) :: cl, qual := qual, func := none, code := env.code, frame := env.frame, builtins := env.builtins } { s with heap := (s.heap.push { cls := .type "dict", data := .dict #[] }).push { cls := .type "cell", data := .cell none } }) :
    wpAny M A (newFunctionEnv scope globals cl [] qual none .none (some env)) Q E s := by
  unfold newFunctionEnv
  rw [hn]
  refine wpAny_bind (wpAny_alloc ?_)
  have e1 : (NameKind.local == NameKind.cell) = false := rfl
  have e2 : (NameKind.cell == NameKind.cell) = true := rfl
  have e3 : (NameKind.globalImplicit == NameKind.cell) = false := rfl
  have e4 : (NameKind.free == NameKind.cell) = false := rfl
  simp only [List.forIn_cons, List.forIn_nil, pure_bind, bind_assoc, Option.isSome_some, if_true, e1, e2, e3, e4, Bool.false_eq_true, if_false]
  refine wpAny_bind (wpAny_alloc ?_)
  have hsz : (s.heap.push { cls := .type "dict", data := .dict #[] }).objs.size = s.heap.objs.size + 1 := Heap.size_push ..
  refine wpAny_pure ?_
  simpa only [hsz] using h
end
/-- `y = [elt for x in (.., ..)]` whose x is a cell: what is asked of the source -/
def CellSrc (prog : Program) (w : World) (A : Around) (h₀ : Heap) (m : Str → Option Value) (env : Env) (elt : PySem.Expr) (x y : Str) (scope : Scope) (cl : List (Str × Addr)) (Q : Flow → Shared → Prop) (xv : Value) (s₁ : Shared) : Prop :=
  ∃ (ax : Addr) (its : List Value) (news : Led) (J : Nat → List Value → Prop), xv = .ref ax ∧ Fr h₀ env.locals s₁.heap m ∧ News h₀ env.locals s₁.heap news ∧ TupAt ax its news ∧ its.length ≤ sizeLine ∧ J 0 [] ∧
    (∀ i v ys, its[i]? = some v → J i ys → ∀ I oI C oC c oc D h tk (E' : Value → Shared → Prop), oc.data = .cell (some v) → Fr h₀ env.locals h m → News h₀ env.locals h ((I, oI) :: (C, oC) :: (c, oc) :: (D, LCg.lst ys) :: news) →
      (∀ p ∈ news, @LT.lt Nat _ p.1 I) → @LT.lt Nat _ I D → @LT.lt Nat _ D C → @LT.lt Nat _ C c →
      wpAny (model prog w) A (eval elt (compEnvC scope ((x, c) :: cl) C env)) (fun yv s' => ∃ h' tk', s' = { s₁ with heap := h', toks := tk' } ∧ Fr h₀ env.locals h' m ∧ News h₀ env.locals h' ((I, oI) :: (C, oC) :: (c, oc) :: (D, LCg.lst ys) :: news) ∧ J (i + 1) (ys ++ [yv])) E' { s₁ with heap := h, toks := tk }) ∧
    (∀ ys, J its.length ys → ∀ D h tk, Fr h₀ env.locals h (fun z => if z = y then some (.ref D) else m z) → News h₀ env.locals h ((D, LCg.lst ys) :: news) → (∀ p ∈ news, @LT.lt Nat _ p.1 D) → Q .next { s₁ with heap := h, toks := tk })
section
variable {prog : Program} {w : World} {A : Around} {E : Value → Shared → Prop} {s : Shared} {h₀ : Heap} {m : Str → Option Value} {env : Env}
theorem assign_comp_cell {elt iter : PySem.Expr} {x y a0 a2 a3 : Str} {px py : Pos} {scope : Scope} {cl : List (Str × Addr)} {pos spos : Pos} {Q : Flow → Shared → Prop} (_F₀ : Fr h₀ env.locals s.heap m) (hh : A.handled = none)
    (hsw : swapsWith (.ListComp elt [⟨.Name x px, iter, [], 0⟩] scope pos) (some (.Name y py)) spos.line env = pure true)
    (hclos : closureFor scope env = pure cl) (hn : scope.names = [(a0, .local), (x, .cell), (a2, .globalImplicit), (a3, .free)]) (hkx : ∀ c C, (compEnvC scope c C env).kindOf x = some .cell) (hkind : scope.kind = .function)
    (hnames : ∀ z ∈ scope.names, z.2 = .local → scope.names.lookup z.1 = some .local)
    (hy : env.kindOf y = some .local) (hp : (env.scope.kind == .class || (env.scope.kind == .module && env.locals != env.globals)) = false)
    (h : wpAny (model prog w) A (eval iter env) (CellSrc prog w A h₀ m env elt x y scope cl Q) E s)
    (hs : ∀ x, foldedSetIterable iter env x = pure x := by intro _; rfl) :
    wpAny (model prog w) A (exec (.Assign [.Name y py] (.ListComp elt [⟨.Name x px, iter, [], 0⟩] scope pos) spos) env) Q E s := by
  rw [exec_Assign_Name_used _ _ _ _ hsw]
  refine wpAny_bind (wpAny_standAt (wpAny_bind ?_))
  show wpAny _ A (do let _ ← comprehension (.ListComp elt [⟨.Name x px, iter, [], 0⟩] scope pos) scope env _ (newList []) false (eval iter env) (some (assign (.Name y py) env))) _ _ s
  refine wpAny_bind (wpAny_mono (wpAny_comprehension_free (use := some (assign (.Name y py) env)) (Q := fun _ s' => Q .next s') rfl hs hclos hkind hnames
    (wpAny_mono h (fun xv s₁ h₁ => ?_) fun _ _ e => e)) (fun _ s' hq => wpAny_pure (wpAny_pure hq)) fun _ _ e => e)
  obtain ⟨ax, its, news, J, rfl, F, N, hm, hsz, hJ0, step, fin⟩ := h₁
  have hget := (N _ hm).1
  have ht : s₁.heap.IsTuple ax its.toArray := ⟨_, hget, rfl, _, rfl⟩
  have hax : @LT.lt Nat _ ax s₁.heap.objs.size := Heap.lt_size hget
  have hLs : @LT.lt Nat _ env.locals s₁.heap.objs.size := F.ns.lt
  have hsize : its.toArray.size = its.length := by simp
  refine wpAny_pyIter_tuple ht ?_
  obtain ⟨I, hI⟩ : ∃ I : Nat, s₁.heap.objs.size = I := ⟨_, rfl⟩
  rw [hI] at hax hLs ⊢
  have hIit : (s₁.heap.push { cls := .type "tuple_iterator", data := .fields #[.ref ax, .int 0 0] }).IsTupleIter I ax 0 := ⟨_, hI ▸ Heap.get?_push_size _ rfl, rfl, rfl⟩
  have hIsz : (s₁.heap.push { cls := .type "tuple_iterator", data := .fields #[.ref ax, .int 0 0] }).objs.size = I + 1 := by rw [Heap.size_push, hI]
  have up1 : ∀ b o, s₁.heap.get? b = some o → (s₁.heap.push { cls := .type "tuple_iterator", data := .fields #[.ref ax, .int 0 0] }).get? b = some o := fun b o e => Heap.get?_push_of_some _ e
  generalize s₁.heap.push { cls := .type "tuple_iterator", data := .fields #[.ref ax, .int 0 0] } = H1 at *
  refine wpAny_newObj_type (env_one hn ?_)
  have hD : (H1.push (LCg.lst [])).get? (I + 1) = some (LCg.lst []) := by
    have := Heap.get?_push_size (h := H1) (o := LCg.lst []) rfl
    rw [hIsz] at this; exact this
  have hDsz : (H1.push (LCg.lst [])).objs.size = I + 2 := by rw [Heap.size_push, hIsz]
  have hDl : H1.objs.size = I + 1 := hIsz
  have up2 : ∀ b o, H1.get? b = some o → (H1.push (LCg.lst [])).get? b = some o := fun b o e => Heap.get?_push_of_some _ e
  have hC0n := Heap.Ns.new (H1.push (LCg.lst [])) (.type "dict")
  have hCsz : ((H1.push (LCg.lst [])).push { cls := .type "dict", data := .dict #[] }).objs.size = I + 3 := by rw [Heap.size_push, hDsz]
  have up3 : ∀ b o, (H1.push (LCg.lst [])).get? b = some o → ((H1.push (LCg.lst [])).push { cls := .type "dict", data := .dict #[] }).get? b = some o := fun b o e => Heap.get?_push_of_some _ e
  have hc0 : (((H1.push (LCg.lst [])).push { cls := .type "dict", data := .dict #[] }).push { cls := .type "cell", data := .cell none }).IsCell (I + 3) none := ⟨_, by have := Heap.get?_push_size (h := (H1.push (LCg.lst [])).push { cls := .type "dict", data := .dict #[] }) (o := { cls := .type "cell", data := .cell none }) rfl; rw [hCsz] at this; exact this, rfl⟩
  have up4 : ∀ b o, ((H1.push (LCg.lst [])).push { cls := .type "dict", data := .dict #[] }).get? b = some o → (((H1.push (LCg.lst [])).push { cls := .type "dict", data := .dict #[] }).push { cls := .type "cell", data := .cell none }).get? b = some o := fun b o e => Heap.get?_push_of_some _ e
  rw [hDsz] at hC0n
  have hgoal : codeAny (model prog w) A (.compStart (.ListComp elt [⟨.Name x px, iter, [], 0⟩] scope pos) 0 (.ref I) (.ref (I + 1)) (compEnvC scope ((x, I + 3) :: cl) (I + 2) env)) (compPost (model prog w) A E (some (assign (.Name y py) env)) (fun _ s' => Q .next s') (.ref (I + 1)) (I + 2))
      { s₁ with heap := ((H1.push (LCg.lst [])).push { cls := .type "dict", data := .dict #[] }).push { cls := .type "cell", data := .cell none } } := ?_
  · rw [hIsz]
    have hDsz' : (H1.push { cls := .type "list", data := .seq ([] : List Value).toArray }).objs.size = I + 2 := hDsz
    simp only [hDsz']
    exact hgoal
  have old0 : ∀ b o, s₁.heap.get? b = some o → (((H1.push (LCg.lst [])).push { cls := .type "dict", data := .dict #[] }).push { cls := .type "cell", data := .cell none }).get? b = some o := fun b o e => up4 _ _ (up3 _ _ (up2 _ _ (up1 _ _ e)))
  have hD4 := up4 _ _ (up3 _ _ hD)
  have hn4 := hC0n.at' (h' := ((H1.push (LCg.lst [])).push { cls := .type "dict", data := .dict #[] }).push { cls := .type "cell", data := .cell none }) fun o e => up4 _ o e
  have hI4 := hIit.at (h' := ((H1.push (LCg.lst [])).push { cls := .type "dict", data := .dict #[] }).push { cls := .type "cell", data := .cell none }) fun o e => up4 _ o (up3 _ o (up2 _ o e))
  generalize ((H1.push (LCg.lst [])).push { cls := .type "dict", data := .dict #[] }).push { cls := .type "cell", data := .cell none } = H4 at *
  have above : ∀ a : Nat, I ≤ a → h₀.get? a = none := fun a ha => Heap.get?_none_of_le (by have h1 : @LE.le Nat _ h₀.objs.size env.locals := F.above; show @LE.le Nat _ _ _; omega)
  have hlt9 : ∀ p ∈ news, @LT.lt Nat _ p.1 I := fun p hp => hI ▸ Heap.lt_size (N p hp).1
  have W := Walks.tuple (prog := prog) (w := w) hh I ax (neN (by omega)) its.toArray
  rw [hsize] at W
  have loop : codeAny (model prog w) A (.compLoop (.ListComp elt [⟨.Name x px, iter, [], 0⟩] scope pos) 0 (.ref I) (.ref (I + 1)) (compEnvC scope ((x, I + 3) :: cl) (I + 2) env)) (compPost (model prog w) A E (some (assign (.Name y py) env)) (fun _ s' => Q .next s') (.ref (I + 1)) (I + 2)) { s₁ with heap := H4 } := by
    refine codeAny_compLoop_tests (fun k s' => ∃ h' tk i m' ys co, s' = { s₁ with heap := h', toks := tk } ∧ i ≤ its.length ∧ ys.length = i ∧ k = its.length + 1 - i ∧ (h'.IsTupleIter I ax i ∧ h'.IsTuple ax its.toArray) ∧ Fr h₀ env.locals h' m ∧ h'.Ns (I + 2) m' ∧ h'.IsCell (I + 3) co ∧ News h₀ env.locals h' ((I + 1, LCg.lst ys) :: news) ∧ J i ys) ?_ (its.length + 1)
      ⟨H4, _, 0, _, [], none, rfl, Nat.zero_le _, rfl, rfl, ⟨hI4, ⟨_, old0 _ _ hget, rfl, _, rfl⟩⟩, F.keeps old0, hn4, hc0, fun p hp => ?_, hJ0⟩
    · rintro k s' ⟨h', tk, i, m', ys, co, rfl, hi, hyl, rfl, hst, F', hn', hc', N', hJ⟩
      by_cases hlt : i < its.length
      · refine W.item i _ _ _ hlt hst fun v h₂ tk₂ hPv hst₂ hk₂ => ?_
        have hv : its[i]? = some v := by simpa using hPv
        have k2 : ∀ b o, b ≠ I → h'.get? b = some o → h₂.get? b = some o := fun b o hb e => hk₂ b o (by simpa using hb) e
        have hc₂ : h₂.IsCell (I + 3) co := by
          obtain ⟨o, e, r⟩ := hc'
          exact ⟨o, k2 _ _ (neN (by omega)) e, r⟩
        refine wpAny_assign_Name (wpAny_storeName_cell (c := I + 3) hkind (hkx _ _) (by simp [compEnvC]) hc₂ fun h₃ hc₃ hs₃ => ?_)
        refine wpAny_tests_nil ?_
        simp only [if_true]
        have k3 : ∀ b o, b ≠ I + 3 → h₂.get? b = some o → h₃.get? b = some o := fun b o hb e => hs₃.extBut b o hb e
        have kk : ∀ b o, @Ne Nat b I → @Ne Nat b (I + 3) → h'.get? b = some o → h₃.get? b = some o := fun b o h1 h2 e => k3 b o h2 (k2 b o h1 e)
        have hst₃ : h₃.IsTupleIter I ax (i + 1) := hst₂.1.at fun o e => k3 _ o (neN (by omega)) e
        obtain ⟨oI, heI, hoI⟩ := id hst₃
        have hn₃ : h₃.Ns (I + 2) m' := hn'.at' fun o e => kk _ o (neN (by omega)) (neN (by omega)) e
        obtain ⟨oC, heC, hoC⟩ := LCg.ns_obj hn₃
        obtain ⟨oc, hec, hoc⟩ := hc₃
        have F₃ : Fr h₀ env.locals h₃ m := ⟨F'.ns.at' fun o e => kk _ o (neN (by omega)) (neN (by omega)) e, fun b o e => kk b o (fun hb => by rw [hb, above I (Nat.le_refl _)] at e; cases e) (fun hb => by rw [hb, above (I + 3) (by omega)] at e; cases e) (F'.keep b o e), F'.above⟩
        have N₃ : News h₀ env.locals h₃ ((I, oI) :: (I + 2, oC) :: (I + 3, oc) :: (I + 1, LCg.lst ys) :: news) := by
          intro p hp
          rcases List.mem_cons.mp hp with rfl | hp
          · exact ⟨heI, Nat.ne_of_gt hLs, above _ (Nat.le_refl _)⟩
          · rcases List.mem_cons.mp hp with rfl | hp
            · exact ⟨heC, by show @Ne Nat (I + 2) _; omega, above _ (by show @LE.le Nat _ I (I + 2); omega)⟩
            · rcases List.mem_cons.mp hp with rfl | hp
              · exact ⟨hec, by show @Ne Nat (I + 3) _; omega, above _ (by show @LE.le Nat _ I (I + 3); omega)⟩
              · have z := N' p hp
                have hb : @Ne Nat p.1 I ∧ @Ne Nat p.1 (I + 3) := by
                  rcases List.mem_cons.mp hp with rfl | hp
                  · exact ⟨by show @Ne Nat (I + 1) I; omega, by show @Ne Nat (I + 1) (I + 3); omega⟩
                  · have := hlt9 _ hp
                    exact ⟨by omega, by omega⟩
                exact ⟨kk _ _ hb.1 hb.2 z.1, z.2⟩
        refine wpAny_mono (step i v ys hv hJ I oI (I + 2) oC (I + 3) oc (I + 1) h₃ _ _ hoc F₃ N₃ hlt9 (by show @LT.lt Nat _ I (I + 1); omega) (by show @LT.lt Nat _ (I + 1) (I + 2); omega) (by show @LT.lt Nat _ (I + 2) (I + 3); omega)) (fun yv s₄ h₄ => ?_) fun _ _ e => e
        obtain ⟨h₄, tk₄, rfl, F₄, N₄, hJ₄⟩ := h₄
        have zI := (N₄ (I, oI) List.mem_cons_self).1
        have zC := (N₄ (I + 2, oC) (List.mem_cons_of_mem _ List.mem_cons_self)).1
        have zc := (N₄ (I + 3, oc) (List.mem_cons_of_mem _ (List.mem_cons_of_mem _ List.mem_cons_self))).1
        have zD := (N₄ (I + 1, LCg.lst ys) (List.mem_cons_of_mem _ (List.mem_cons_of_mem _ (List.mem_cons_of_mem _ List.mem_cons_self)))).1
        have N₄' : News h₀ env.locals h₄ news := fun p hp => N₄ p (List.mem_cons_of_mem _ (List.mem_cons_of_mem _ (List.mem_cons_of_mem _ (List.mem_cons_of_mem _ hp))))
        refine append_at (hsz := by show ys.toArray.size ≤ sizeLine; rw [List.size_toArray, hyl]; exact Nat.le_trans hi hsz) zD fun h₅ hs₅ hD₅ => ?_
        have k5 : ∀ b o, @Ne Nat b (I + 1) → h₄.get? b = some o → h₅.get? b = some o := fun b o hb e => hs₅.extBut b o hb e
        refine ⟨its.length + 1 - (i + 1), by omega, h₅, tk₄, i + 1, _, ys ++ [yv], some v, rfl, hlt, by rw [List.length_append, List.length_singleton, hyl], rfl,
          ⟨⟨oI, k5 _ _ (by omega) zI, hoI⟩, ⟨_, k5 _ _ (by omega) (N₄' _ hm).1, rfl, _, rfl⟩⟩, F₄.change hs₅ (by show @Ne Nat (I + 1) _; omega) (above _ (by show @LE.le Nat _ I (I + 1); omega)),
          hoC.ns (k5 _ _ (by omega) zC), ⟨oc, k5 _ _ (by omega) zc, hoc⟩, fun p hp => ?_, hJ₄⟩
        rcases List.mem_cons.mp hp with rfl | hp
        · exact ⟨hD₅.trans (congrArg some (LCg.lst_snoc ys yv)), by show @Ne Nat (I + 1) _; omega, above _ (by show @LE.le Nat _ I (I + 1); omega)⟩
        · exact ⟨k5 _ _ (by have := hlt9 _ hp; omega) (N₄' p hp).1, (N₄' p hp).2⟩
      · obtain rfl : i = its.length := by omega
        refine W.done _ _ _ hst fun h₂ tk₂ hk₂ => ?_
        have k2 : ∀ b o, b ≠ I → h'.get? b = some o → h₂.get? b = some o := fun b o hb e => hk₂ b o (by simpa using hb) e
        have F₂ : Fr h₀ env.locals h₂ m := ⟨F'.ns.at' fun o e => k2 _ o (neN (by omega)) e, fun b o e => k2 b o (fun hb => by rw [hb, above I (Nat.le_refl _)] at e; cases e) (F'.keep b o e), F'.above⟩
        show wpAny _ A (assign (.Name y py) env (.ref (I + 1))) _ _ _
        refine wpAny_assign_Name (wpAny_storeName_local hy F₂.ns (fun h₅ hn₅ hs₅ => ?_) hp)
        have F₅ : Fr h₀ env.locals h₅ (fun z => if z = y then some (.ref (I + 1)) else m z) := F₂.set hn₅ hs₅
        have N₅ : News h₀ env.locals h₅ ((I + 1, LCg.lst ys) :: news) := fun p hp => by
          have hb : @Ne Nat p.1 I := by
            rcases List.mem_cons.mp hp with rfl | hp
            · show @Ne Nat (I + 1) I; omega
            · have := hlt9 _ hp; omega
          exact ⟨hs₅.extBut _ _ (N' p hp).2.1 (k2 _ _ hb (N' p hp).1), (N' p hp).2⟩
        refine ⟨m', (hn'.at' fun o e => k2 _ o (neN (by omega)) e).sameBut hs₅ (by show @Ne Nat (I + 2) _; omega), fun h'' hs'' => ?_⟩
        show Q .next { s₁ with heap := h'', toks := tk₂ + 1 }
        refine fin ys hJ (I + 1) h'' (tk₂ + 1) (F₅.change hs'' (by show @Ne Nat (I + 2) _; omega) (above _ (by show @LE.le Nat _ I (I + 2); omega))) (fun p hp => ?_) fun p hp => by have := hlt9 p hp; exact ltN (by omega)
        have hb : @Ne Nat p.1 (I + 2) := by
          rcases List.mem_cons.mp hp with rfl | hp
          · show @Ne Nat (I + 1) (I + 2); omega
          · have := hlt9 _ hp; omega
        exact ⟨hs''.extBut _ _ hb (N₅ p hp).1, (N₅ p hp).2⟩
    · rcases List.mem_cons.mp hp with rfl | hp
      · exact ⟨hD4, by show @Ne Nat (I + 1) _; omega, above _ (by show @LE.le Nat _ I (I + 1); omega)⟩
      · exact ⟨old0 _ _ (N p hp).1, (N p hp).2⟩
  exact codeAny_compStart_list loop (W.self 0 _ _ _ ⟨hI4, ⟨_, old0 _ _ hget, rfl, _, rfl⟩⟩ loop)
end

/-- a ratio as the law draws it -/
def Rg (p q : Int) : Prop := ∃ t b : Int, 0 ≤ t ∧ t < 19 ∧ 0 ≤ b ∧ b < 6 ∧ p = qT (t - 9) (1 + b) ∧ q = qB (t - 9) (1 + b)
def RgA (p q : Int) : Prop := Rg p q
def RgB (p q : Int) : Prop := Rg p q
theorem rgA_out {t b : Int} (h1 : 0 ≤ t) (h2 : t < 19) (h3 : 0 ≤ b) (h4 : b < 6) {r : Value} {out : Led} (o : OTup2 ((t - 9).fdiv (gS (t - 9) (1 + b))) ((1 + b).fdiv (gS (t - 9) (1 + b))) r out) : ∃ p q, RgA p q ∧ OTup2 p q r out := ⟨_, _, ⟨t, b, h1, h2, h3, h4, rfl, rfl⟩, o⟩
theorem rgB_out (_ : ∃ p q, RgA p q) {t b : Int} (h1 : 0 ≤ t) (h2 : t < 19) (h3 : 0 ≤ b) (h4 : b < 6) {r : Value} {out : Led} (o : OTup2 ((t - 9).fdiv (gS (t - 9) (1 + b))) ((1 + b).fdiv (gS (t - 9) (1 + b))) r out) : ∃ p q, RgB p q ∧ OTup2 p q r out := ⟨_, _, ⟨t, b, h1, h2, h3, h4, rfl, rfl⟩, o⟩
/-- the primes that the law takes -/
def Pr4 (P0 P1 P2 P3 : Int) : Prop := ∃ n : Nat, n < 6 ∧ [P0, P1, P2, P3] = List.take 4 (List.drop n [7, 11, 13, 17, 19, 23] ++ List.take n [7, 11, 13, 17, 19, 23])
/-- all that the law asks, for two ratios and four primes -/
structure LawF (p1 q1 p2 q2 P0 P1 P2 P3 : Int) : Prop where
  p1a : -(2 ^ 20) < p1
  p1b : p1 < 2 ^ 20
  q1a : 0 < q1
  q1b : q1 < 2 ^ 20
  p2a : -(2 ^ 20) < p2
  p2b : p2 < 2 ^ 20
  q2a : 0 < q2
  q2b : q2 < 2 ^ 20
  P0a : 2 < P0
  P0b : P0 < 2 ^ 5
  P1a : 2 < P1
  P1b : P1 < 2 ^ 5
  P2a : 2 < P2
  P2b : P2 < 2 ^ 5
  P3a : 2 < P3
  P3b : P3 < 2 ^ 5
  rb1 : ∃ r0 r1 r2 r3 x0 x1 x2 x3, RbF p1 q1 P0 P1 P2 P3 r0 r1 r2 r3 x0 x1 x2 x3
  rb2 : ∃ r0 r1 r2 r3 x0 x1 x2 x3, RbF p2 q2 P0 P1 P2 P3 r0 r1 r2 r3 x0 x1 x2 x3
  rk0 : ∃ a b i1 ib, RkF p1 q1 p2 q2 P0 a b i1 ib
  rk1 : ∃ a b i1 ib, RkF p1 q1 p2 q2 P1 a b i1 ib
  rk2 : ∃ a b i1 ib, RkF p1 q1 p2 q2 P2 a b i1 ib
  rk3 : ∃ a b i1 ib, RkF p1 q1 p2 q2 P3 a b i1 ib
/-- all that the law's second half asks -/
structure TailF (p1 q1 p2 q2 P0 P1 P2 x1 x2 : Int) : Prop where
  p1a : -(2 ^ 20) < p1
  p1b : p1 < 2 ^ 20
  q1a : 0 < q1
  q1b : q1 < 2 ^ 20
  P0a : 2 < P0
  P0b : P0 < 2 ^ 5
  P1a : 2 < P1
  P1b : P1 < 2 ^ 5
  P2a : 2 < P2
  P2b : P2 < 2 ^ 5
  x1a : 0 ≤ x1
  x1b : x1 < P0 * P1 * P2
  x2a : 0 ≤ x2
  x2b : x2 < P0 * P1 * P2
  ra1 : RatIs x1 (P0 * P1 * P2) p1 q1
  ra2 : RatIs x2 (P0 * P1 * P2) p2 q2
  tot : ∀ r out, OCh2 ((x1 + x2).fmod (P0 * P1)) (P0 * P1) ((x1 + x2).fmod P2) P2 r out → OTup2 ((x1 + x2).fmod (P0 * P1 * P2)) (P0 * P1 * P2) r out
  sp : ∀ k, 0 ≤ k → k < P0 - 1 → ∃ y, 0 ≤ y ∧ y < P0 * P1 * P2 ∧ (∀ g, ChR (some (0, 1)) [(x1 + 1 + k, P0), (x1, P1), (x1, P2)] g → g = some (y, P0 * P1 * P2)) ∧
    (∀ B, ratF B y (P0 * P1 * P2) ≠ some (p1, q1)) ∧ (∀ g, ChR (some (0, 1)) [(x1 + 1 + k, P0), (x1, P1), (x1, P2), (x1, P0)] g → g = none)
  les1 : ∀ n, 0 ≤ n → n < P1 → (n * q1 - p1).fmod P1 = 0 → n = x1.fmod P1
  ex1 : ∃ k : Nat, (k : Int) < P1 ∧ ((k : Int) * q1 - p1).fmod P1 = 0
  les2 : ∀ n, 0 ≤ n → n < P2 → (n * q1 - p1).fmod P2 = 0 → n = x1.fmod P2
  ex2 : ∃ k : Nat, (k : Int) < P2 ∧ ((k : Int) * q1 - p1).fmod P2 = 0
/-- what the list of the two big rests holds -/
def RestJ (x1 x2 : Int) (i : Nat) (ys : List Value) : Prop := match i with
  | 0 => ys = []
  | 1 => ∃ t, ys = [.int x1 t]
  | 2 => ∃ t t', ys = [.int x1 t, .int x2 t']
  | _ => False
theorem row_step {oA oB : Addr} {p1 q1 p2 q2 P0 P1 P2 P3 r10 r11 r12 r13 x10 x11 x12 x13 r20 r21 r22 r23 x20 x21 x22 x23 : Int} {tA uA tB uB : Tok} {i : Nat} {v : Value} {ys : List Value} (lf : LawF p1 q1 p2 q2 P0 P1 P2 P3)
    (h1 : RbF p1 q1 P0 P1 P2 P3 r10 r11 r12 r13 x10 x11 x12 x13) (h2 : RbF p2 q2 P0 P1 P2 P3 r20 r21 r22 r23 x20 x21 x22 x23) (hv : [Value.ref oA, Value.ref oB][i]? = some v) (hJ : RestJ x12 x22 i ys) :
    ∃ o p q to uo r0 r1 r2 r3 x0 x1 x2 x3, v = .ref o ∧ (o, tup2 p to q uo) ∈ [(oB, tup2 p2 tB q2 uB), (oA, tup2 p1 tA q1 uA)] ∧ (-(2 ^ 20) < p ∧ p < 2 ^ 20 ∧ 0 < q ∧ q < 2 ^ 20) ∧ RbF p q P0 P1 P2 P3 r0 r1 r2 r3 x0 x1 x2 x3 ∧ ∀ t, RestJ x12 x22 (i + 1) (ys ++ [.int x2 t]) := by
  rcases i with _ | _ | i
  · injection hv with hv
    subst hv
    cases hJ
    exact ⟨oA, p1, q1, tA, uA, _, _, _, _, _, _, x12, _, rfl, by simp, ⟨lf.p1a, lf.p1b, lf.q1a, lf.q1b⟩, h1, fun t => ⟨t, rfl⟩⟩
  · injection hv with hv
    subst hv
    obtain ⟨t0, rfl⟩ := hJ
    exact ⟨oB, p2, q2, tB, uB, _, _, _, _, _, _, x22, _, rfl, by simp, ⟨lf.p2a, lf.p2b, lf.q2a, lf.q2b⟩, h2, fun t => ⟨t0, t, rfl⟩⟩
  · simp at hv
theorem two_mem {a b x : Addr × Obj} {N : Led} (h : x ∈ [a, b]) (ha : a ∈ N) (hb : b ∈ N) : x ∈ N := by
  rcases List.mem_cons.mp h with h | h
  · rw [h]; exact ha
  · rw [List.mem_singleton.mp h]; exact hb
/-- the pairs of one ratio's rests -/
def PrJ (nw : Led) (P0 P1 P2 r0 r1 r2 : Int) (i : Nat) (ys : List Value) (nx : Led) : Prop := match i with
  | 0 => ys = [] ∧ nx = nw
  | 1 => ∃ a0 k0 u0, ys = [.ref a0] ∧ nx = (a0, tup2 r0 k0 P0 u0) :: nw
  | 2 => ∃ a0 k0 u0 a1 k1 u1, ys = [.ref a0, .ref a1] ∧ nx = (a1, tup2 r1 k1 P1 u1) :: (a0, tup2 r0 k0 P0 u0) :: nw
  | 3 => ∃ a0 k0 u0 a1 k1 u1 a2 k2 u2, ys = [.ref a0, .ref a1, .ref a2] ∧ nx = (a2, tup2 r2 k2 P2 u2) :: (a1, tup2 r1 k1 P1 u1) :: (a0, tup2 r0 k0 P0 u0) :: nw
  | _ => False
section
variable {prog : Program} {w : World} {A : Around} {E : Value → Shared → Prop} {s : Shared} {env : Env} {h₀ : Heap} {x : Str} {body : List Stmt} {Q : Flow → Shared → Prop}
/-- a loop over a made list whose turn leaves everything as it stands -/
theorem same_iter {l : Addr} {vs : List Value} {nn : Nat} {m₀ : Str → Option Value} {news : Led} (hh : A.handled = none) (hl : (l, listOf vs.toArray nn) ∈ news) (F : Fr h₀ env.locals s.heap m₀) (N : News h₀ env.locals s.heap news)
    (turn : ∀ v h tk own, v ∈ vs → Fr h₀ env.locals h (fun y => if y = x then some v else m₀ y) → News h₀ env.locals h (news ++ own) → wpAny (model prog w) A (execs body env) (NextOut h₀ env.locals (fun y => if y = x then some v else m₀ y) (news ++ own) { s with heap := h, toks := tk }) E { s with heap := h, toks := tk })
    (done : ∀ u h tk, Fr h₀ env.locals h (fun y => if y = x then u else m₀ y) → News h₀ env.locals h news → Q .next { s with heap := h, toks := tk }) :
    wpAny (model prog w) A (pyIter (.ref l)) (fun it s₂ => LoopAtV prog w A h₀ env x body Q E it s₂) E s := by
  refine kdl_iter (fun _ m₁ nx => nx = news ∧ ∀ y, y ≠ x → m₁ y = m₀ y) hh hl F N ⟨rfl, fun _ _ => rfl⟩ ?_ ?_
  · rintro i v m₁ news₁ h tk own hv hoff hl₁ ⟨rfl, hm⟩ F₁ N₁
    have e : (fun y => if y = x then some v else m₁ y) = (fun y => if y = x then some v else m₀ y) := by
      funext y
      by_cases hy : y = x
      · rw [if_pos hy, if_pos hy]
      · rw [if_neg hy, if_neg hy, hm y hy]
    rw [e] at F₁
    refine wpAny_mono (turn v h tk own (List.mem_of_getElem? hv) F₁ N₁) (fun f s₂ p => ?_) fun _ _ x => x
    obtain ⟨rfl, h', tk', rfl, F', N'⟩ := p
    exact InvEndG.intro F' N' ⟨hl₁, rfl, fun y hy => if_neg hy⟩ hoff (fun p hp => List.mem_append_left _ hp) (fun p hp => List.mem_append_right _ hp)
  · rintro m₁ news₁ h tk ⟨rfl, hm⟩ F₁ N₁
    refine done (m₁ x) h tk ?_ N₁
    have e : (fun y => if y = x then m₁ x else m₀ y) = m₁ := by
      funext y
      by_cases hy : y = x
      · rw [if_pos hy, hy]
      · rw [if_neg hy, hm y hy]
    rw [e]; exact F₁
end
theorem exec_lit {K : Frag} {f : Addr} {name qual : Str} {params : Arguments} {body : List Stmt} {scope : Scope} {dV kV doc pm cdv ct oc : Value} {an od : Option Addr} {osl : Array (Option Value)} {name' qual' : Str} {params' : Arguments} {body' : List Stmt} {scope' : Scope} {dV' kV' doc' pm' cdv' ct' oc' : Value} {an' od' : Option Addr} {osl' : Array (Option Value)}
    (ho : K.lookup f = some ⟨oc, od, .func (fnOf name qual params body scope dV kV doc pm an cdv ct), osl⟩) (ho' : K.lookup f = some ⟨oc', od', .func (fnOf name' qual' params' body' scope' dV' kV' doc' pm' an' cdv' ct'), osl'⟩) {P : Str → List Stmt → Scope → Value → Prop} (h : P qual' body' scope' cdv') : P qual body scope cdv := by
  have e := ho.symm.trans ho'
  injection e with e
  injection e with _ _ e _
  injection e with e
  have h1 : qual' = qual := (congrArg FuncData.qualname e).symm
  have h2 : body' = body := by
    have := congrArg FuncData.body e
    injection this with this
    exact this.symm
  have h3 : scope' = scope := (congrArg FuncData.scope e).symm
  have h4 : cdv' = cdv := (congrArg FuncData.code e).symm
  subst h1 h2 h3 h4
  exact h
theorem primes_of {v : Int} {ws : List Value} (h0 : 0 ≤ v) (h1 : v < 6) (hi : IntsAre ws (List.take 4 (List.drop v.toNat [7, 11, 13, 17, 19, 23] ++ List.take v.toNat [7, 11, 13, 17, 19, 23]))) :
    ∃ P0 P1 P2 P3 k0 k1 k2 k3, ws = [Value.int P0 k0, .int P1 k1, .int P2 k2, .int P3 k3] ∧ Pr4 P0 P1 P2 P3 := by
  have hv : v.toNat < 6 := by omega
  generalize v.toNat = n at *
  have four : ∀ {a b c d : Int}, IntsAre ws [a, b, c, d] → ∃ P0 P1 P2 P3 k0 k1 k2 k3, ws = [Value.int P0 k0, .int P1 k1, .int P2 k2, .int P3 k3] ∧ [P0, P1, P2, P3] = [a, b, c, d] := by
    intro a b c d h
    cases h with
    | cons _ t0 h => cases h with
      | cons _ t1 h => cases h with
        | cons _ t2 h => cases h with
          | cons _ t3 h => cases h with
            | nil => exact ⟨a, b, c, d, t0, t1, t2, t3, rfl, rfl⟩
  rcases (show n = 0 ∨ n = 1 ∨ n = 2 ∨ n = 3 ∨ n = 4 ∨ n = 5 by omega) with rfl | rfl | rfl | rfl | rfl | rfl
  all_goals (simp only [List.drop, List.take, List.nil_append, List.cons_append] at hi; obtain ⟨P0, P1, P2, P3, k0, k1, k2, k3, e1, e2⟩ := four hi; exact ⟨P0, P1, P2, P3, k0, k1, k2, k3, e1, _, hv, e2⟩)

/-! plain facts of ints: no program in sight -/
theorem dv0 {a m : Int} (hm : 0 < m) : a.fmod m = 0 ↔ m ∣ a := by
  rw [fm hm]; exact ⟨Int.dvd_of_emod_eq_zero, Int.emod_eq_zero_of_dvd⟩
theorem cop_dvd {a b c : Int} (g : a.gcd c = 1) (h : c ∣ a * b) : c ∣ b := by
  rw [← Int.natAbs_dvd_natAbs] at h ⊢
  rw [Int.natAbs_mul] at h
  exact Nat.Coprime.dvd_of_dvd_mul_left (show Nat.gcd c.natAbs a.natAbs = 1 by rw [Nat.gcd_comm]; exact g) h
theorem cop_mul {a b z : Int} (g : a.gcd b = 1) (h1 : a ∣ z) (h2 : b ∣ z) : a * b ∣ z := by
  rw [← Int.natAbs_dvd_natAbs] at h1 h2 ⊢
  rw [Int.natAbs_mul]
  exact Nat.Coprime.mul_dvd_of_dvd_of_dvd g h1 h2
theorem uniq {x y N : Int} (h0 : 0 ≤ x) (h1 : x < N) (h : N ∣ x - y) : x = y.fmod N := by
  have e : x % N = y % N := Int.emod_eq_emod_iff_emod_sub_eq_zero.mpr (Int.emod_eq_zero_of_dvd h)
  rw [fm (by omega), ← e, Int.emod_eq_of_lt h0 h1]
theorem dv_mod {y N : Int} (hN : 0 < N) : N ∣ y - y.fmod N := by
  rw [fm hN]; exact Int.dvd_self_sub_emod
theorem mod_mod {y M N : Int} (hM : 0 < M) (hN : 0 < N) (h : M ∣ N) : (y.fmod N).fmod M = y.fmod M := by
  rw [fm hN, fm hM, fm hM]; exact Int.emod_emod_of_dvd y h
/-- a chain of moduli without a common factor, and what y leaves by each -/
def ProdL : Int → List (Int × Int) → Int
  | M, [] => M
  | M, p :: ps => ProdL (M * p.2) ps
def ChainC (y : Int) : Int → List (Int × Int) → Prop
  | _, [] => True
  | M, p :: ps => 0 < p.2 ∧ M.gcd p.2 = 1 ∧ p.2 ∣ y - p.1 ∧ ChainC y (M * p.2) ps
theorem both_mod {x y r M c : Int} (hM : 0 < M) (g : M.gcd c = 1) (h1 : M ∣ x - y.fmod M) (h2 : c ∣ x - r) (h : c ∣ y - r) (x0 : 0 ≤ x) (x1 : x < M * c) : x = y.fmod (M * c) := by
  refine uniq x0 x1 (cop_mul g ?_ ?_)
  · have := Int.dvd_sub h1 (dv_mod (y := y) hM)
    rwa [show x - y.fmod M - (y - y.fmod M) = x - y by omega] at this
  · have := Int.dvd_sub h2 h
    rwa [show x - r - (y - r) = x - y by omega] at this
theorem step_cop {y M : Int} {p : Int × Int} {f : Option (Int × Int)} (hM : 0 < M) (g : M.gcd p.2 = 1) (h : p.2 ∣ y - p.1) (hs : StepR (some (y.fmod M, M)) p f) : f = some (y.fmod (M * p.2), M * p.2) := by
  simp only [StepR, g] at hs
  have e : M.fdiv ((1 : Nat) : Int) = M := by simp
  rw [e] at hs
  rcases hs with ⟨_, x, h0, h1, h2, h3, rfl⟩ | ⟨hn, _⟩
  · rw [both_mod hM g h2 h3 h h0 h1]
  · exact absurd (by simp) hn
theorem chr_all {y : Int} : ∀ {ps : List (Int × Int)} {M : Int} {g : Option (Int × Int)}, 0 < M → ChainC y M ps → ChR (some (y.fmod M, M)) ps g → g = some (y.fmod (ProdL M ps), ProdL M ps)
  | [], _, _, _, _, h => h
  | p :: ps, M, _, hM, ⟨hc, g, hd, hr⟩, ⟨f, hs, ht⟩ => by
    rw [step_cop hM g hd hs] at ht
    exact chr_all (ps := ps) (M := M * p.2) (Int.mul_pos hM hc) hr ht
theorem chr_start {y : Int} {ps : List (Int × Int)} {g : Option (Int × Int)} (hc : ChainC y 1 ps) (h : ChR (some (0, 1)) ps g) : g = some (y.fmod (ProdL 1 ps), ProdL 1 ps) :=
  chr_all (by omega) hc (by rw [Int.fmod_one]; exact h)
/-- whatever rational_of gives has the number's rest -/
theorem rl_inv {W x : Int} : ∀ (j : Nat) (B a b c d : Int), W ∣ a - x * b → W ∣ c - x * d → W ∣ (rl j B a b c d).1 - x * (rl j B a b c d).2
  | 0, _, _, _, _, _, _, h => h
  | j + 1, B, a, b, c, d, h1, h2 => by
    unfold rl
    split
    · refine rl_inv j B c d _ _ h2 ?_
      have := Int.dvd_sub h1 (Int.dvd_trans h2 (Int.dvd_mul_left (a.fdiv c) (c - x * d)))
      rwa [show a - x * b - a.fdiv c * (c - x * d) = a - a.fdiv c * c - x * (b - a.fdiv c * d) by grind] at this
    · exact h2
theorem rat_inv {B x W u v : Int} (hW : 0 < W) (h : ratF B x W = some (u, v)) : W ∣ u - x * v := by
  have hi := rl_inv (W := W) (x := x) (x.fmod W).toNat B W 0 (x.fmod W) 1 (by simp) (by
    have := Int.dvd_neg.mpr (dv_mod (y := x) hW)
    rwa [show -(x - x.fmod W) = x.fmod W - x * 1 by omega] at this)
  unfold ratF ratE at h
  generalize (rl (x.fmod W).toNat B W 0 (x.fmod W) 1).1 = c at h hi
  generalize (rl (x.fmod W).toNat B W 0 (x.fmod W) 1).2 = d at h hi
  dsimp only at h
  by_cases hd : 0 < d
  · rw [if_pos hd, if_pos hd] at h
    split at h
    · cases h
    · injection h with h
      injection h with h1 h2
      subst h1 h2
      exact hi
  · rw [if_neg hd, if_neg hd] at h
    split at h
    · cases h
    · injection h with h
      injection h with h1 h2
      subst h1 h2
      have := Int.dvd_neg.mpr hi
      rwa [show -(c - x * d) = 0 - c - x * (0 - d) by grind] at this
theorem ratIs_of {B m a u v : Int} (h0 : 0 ≤ B) (h1 : B * B ≤ m.fdiv 2) (h2 : m.fdiv 2 < (B + 1) * (B + 1)) (h : ratF B a m = some (u, v)) : RatIs a m u v := by
  intro C c0 c1 c2
  have e : C = B := by
    by_cases hlt : C < B
    · have := Int.mul_le_mul (show C + 1 ≤ B by omega) (show C + 1 ≤ B by omega) (by omega) (by omega)
      omega
    · by_cases hgt : B < C
      · have := Int.mul_le_mul (show B + 1 ≤ C by omega) (show B + 1 ≤ C by omega) (by omega) (by omega)
        omega
      · omega
  rw [e]; exact h
/-- a prime, as it is used here -/
structure Pm (c : Int) : Prop where
  lo : 6 < c
  hi : c < 24
  pr : ∀ z : Int, c ∣ z ∨ z.gcd c = 1
theorem Pm.cop {c z : Int} (P : Pm c) (h : ¬ c ∣ z) : z.gcd c = 1 := (P.pr z).resolve_left h
theorem Pm.small {c q : Int} (P : Pm c) (h0 : 0 < q) (h1 : q < 7) : ¬ c ∣ q := fun h => by
  have := Int.le_of_dvd h0 h
  have := P.lo
  omega
theorem Pm.mul {c a b : Int} (P : Pm c) (h1 : ¬ c ∣ a) (h2 : ¬ c ∣ b) : ¬ c ∣ a * b := fun h => h2 (cop_dvd (P.cop h1) h)
theorem restF_dir {T Q c n : Int} (P : Pm c) (hQ : ¬ c ∣ Q) (hn : c ∣ n * Q - T) (n0 : 0 ≤ n) (n1 : n < c) (a1 : -(2 ^ 20) < T) (a2 : T < 2 ^ 20) (b1 : -(2 ^ 20) < Q) (b2 : Q < 2 ^ 20) : RestF T Q c n where
  pa := a1
  pb := a2
  qa := b1
  qb := b2
  ex := by
    have hc := P.lo
    refine ⟨n.toNat, by omega, ?_⟩
    rw [show ((n.toNat : Nat) : Int) = n by omega, dv0 (by omega)]
    exact hn
  les := fun m m0 m1 h => by
    have hc := P.lo
    rw [dv0 (by omega)] at h
    have h2 := Int.dvd_sub h hn
    rw [show m * Q - T - (n * Q - T) = Q * (m - n) by grind] at h2
    have h3 := cop_dvd (P.cop hQ) h2
    rw [uniq m0 m1 h3, ← uniq n0 n1 (by rw [Int.sub_self]; exact Int.dvd_zero c)]
theorem le_of_mul {T G t : Int} (h : T * G = t) (hG : G ≠ 0) {N : Int} (a1 : -N < t) (a2 : t < N) : -N < T ∧ T < N := by
  have e : T.natAbs * G.natAbs = t.natAbs := by rw [← Int.natAbs_mul, h]
  have g : 1 ≤ G.natAbs := by omega
  have := Nat.mul_le_mul_left T.natAbs g
  omega
theorem restF_of {t b c n : Int} (P : Pm c) (hb : ¬ c ∣ b) (hn : c ∣ n * b - t) (n0 : 0 ≤ n) (n1 : n < c) (a1 : -(2 ^ 20) < t) (a2 : t < 2 ^ 20) (b1 : -(2 ^ 20) < b) (b2 : b < 2 ^ 20) : RestF (qT t b) (qB t b) c n := by
  have hb0 : b ≠ 0 := fun e => hb (by rw [e]; exact Int.dvd_zero c)
  have hG : gS t b ≠ 0 ∧ gS t b ∣ t ∧ gS t b ∣ b := by
    have g0 : t.gcd b ≠ 0 := fun e => hb0 (Int.gcd_eq_zero_iff.mp e).2
    have d1 := Int.gcd_dvd_left t b
    have d2 := Int.gcd_dvd_right t b
    unfold gS
    split
    · exact ⟨by omega, d1, d2⟩
    · rw [show 0 - ((t.gcd b : Nat) : Int) = -((t.gcd b : Nat) : Int) by omega]
      exact ⟨by omega, Int.neg_dvd.mpr d1, Int.neg_dvd.mpr d2⟩
  obtain ⟨g0, d1, d2⟩ := hG
  have e1 : qT t b * gS t b = t := Int.fdiv_mul_cancel d1
  have e2 : qB t b * gS t b = b := Int.fdiv_mul_cancel d2
  generalize qT t b = T at *
  generalize qB t b = R at *
  generalize gS t b = G at *
  have hT := le_of_mul e1 g0 a1 a2
  have hR := le_of_mul e2 g0 b1 b2
  have hGc : ¬ c ∣ G := fun h => hb (Int.dvd_trans h d2)
  have hRc : ¬ c ∣ R := fun h => hb (by rw [← e2]; exact Int.dvd_trans h (Int.dvd_mul_right R G))
  refine restF_dir P hRc (cop_dvd (P.cop hGc) ?_) n0 n1 hT.1 hT.2 hR.1 hR.2
  rw [show G * (n * R - T) = n * (R * G) - T * G by grind, e1, e2]
  exact hn
theorem invF_of {x c i : Int} (P : Pm c) (hx : ¬ c ∣ x) (hi : c ∣ i * x - 1) (i0 : 0 ≤ i) (i1 : i < c) : InvF x c i where
  g := by
    have hc := P.lo
    refine P.cop fun h => hx ?_
    have := Int.dvd_add h (dv_mod (y := x) (N := c) (by omega))
    rwa [show x.fmod c + (x - x.fmod c) = x by omega] at this
  u := fun v v0 v1 h => by
    have hc := P.lo
    have h1 : c ∣ v * x - 1 := by
      have e1 := dv_mod (y := v * x) (N := c) (by omega)
      have e2 := dv_mod (y := 1) (N := c) (by omega)
      rw [h] at e1
      have := Int.dvd_sub e1 e2
      rwa [show v * x - (1 : Int).fmod c - (1 - (1 : Int).fmod c) = v * x - 1 by omega] at this
    have h2 := Int.dvd_sub h1 hi
    rw [show v * x - 1 - (i * x - 1) = x * (v - i) by grind] at h2
    have h3 := cop_dvd (P.cop hx) h2
    rw [uniq v0 v1 h3, ← uniq i0 i1 (by rw [Int.sub_self]; exact Int.dvd_zero c)]
  i0 := i0
  i1 := i1

/-- a prime's inverses: by power_mod, and of each rest -/
structure Pc (c : Int) : Prop where
  P : Pm c
  pw : ∀ q, 0 < q → q < 7 → c ∣ pmF (c - 2).toNat ((1 : Int).fmod c) (q.fmod c) (c - 2) c * q - 1 ∧ 0 ≤ pmF (c - 2).toNat ((1 : Int).fmod c) (q.fmod c) (c - 2) c ∧ pmF (c - 2).toNat ((1 : Int).fmod c) (q.fmod c) (c - 2) c < c
  iv : ∀ b, 0 < b → b < c → ∃ i, 0 ≤ i ∧ i < c ∧ c ∣ i * b - 1
def pcChk (c : Nat) : Bool :=
  decide (6 < c) && decide (c < 24) && ((List.range c).all fun z => z == 0 || Nat.gcd z c == 1) &&
  ((List.range 7).all fun q => q == 0 || (decide ((pmF ((c : Int) - 2).toNat ((1 : Int).fmod c) ((q : Int).fmod c) ((c : Int) - 2) c * (q : Int) - 1) % (c : Int) = 0) && decide (0 ≤ pmF ((c : Int) - 2).toNat ((1 : Int).fmod c) ((q : Int).fmod c) ((c : Int) - 2) c) && decide (pmF ((c : Int) - 2).toNat ((1 : Int).fmod c) ((q : Int).fmod c) ((c : Int) - 2) c < (c : Int)))) &&
  ((List.range c).all fun b => b == 0 || (List.range c).any fun i => decide (((i : Int) * (b : Int) - 1) % (c : Int) = 0))
theorem pc_of {c : Nat} (h : pcChk c = true) : Pc (c : Int) := by
  simp only [pcChk, Bool.and_eq_true, decide_eq_true_eq, List.all_eq_true, List.mem_range, Bool.or_eq_true, beq_iff_eq, List.any_eq_true] at h
  obtain ⟨⟨⟨⟨h1, h2⟩, h3⟩, h4⟩, h5⟩ := h
  refine ⟨⟨by omega, by omega, fun z => ?_⟩, fun q q0 q1 => ?_, fun b b0 b1 => ?_⟩
  · have r0 := Int.fmod_nonneg_of_pos z (show (0 : Int) < c by omega)
    have r1 := Int.fmod_lt_of_pos z (show (0 : Int) < c by omega)
    have hd := dv_mod (y := z) (N := (c : Int)) (by omega)
    generalize z.fmod c = r at r0 r1 hd
    obtain ⟨k, rfl⟩ := Int.eq_ofNat_of_zero_le r0
    rcases h3 k (by omega) with e | e
    · left
      subst e
      simpa using hd
    · right
      have g1 := Int.gcd_dvd_left z c
      have g2 := Int.gcd_dvd_right z c
      have g3 : ((z.gcd c : Nat) : Int) ∣ (k : Int) := by
        have := Int.dvd_sub g1 (Int.dvd_trans g2 hd)
        rwa [show z - (z - (k : Int)) = (k : Int) by omega] at this
      have g4 := Nat.dvd_gcd (Int.ofNat_dvd.mp g3) (Int.ofNat_dvd.mp g2)
      rw [e] at g4
      exact Nat.dvd_one.mp g4
  · obtain ⟨k, rfl⟩ := Int.eq_ofNat_of_zero_le (show 0 ≤ q by omega)
    rcases h4 k (by omega) with e | e
    · omega
    · exact ⟨Int.dvd_of_emod_eq_zero e.1.1, e.1.2, e.2⟩
  · obtain ⟨k, rfl⟩ := Int.eq_ofNat_of_zero_le (show 0 ≤ b by omega)
    rcases h5 k (by omega) with e | ⟨i, hi, e⟩
    · omega
    · exact ⟨i, by omega, by omega, Int.dvd_of_emod_eq_zero e⟩
theorem mb {a b : Int} (h1 : -100 < a) (h2 : a < 100) (h3 : -100 < b) (h4 : b < 100) : -10000 < a * b ∧ a * b < 10000 := by
  have := Int.natAbs_mul a b
  have := Nat.mul_le_mul (show a.natAbs ≤ 99 by omega) (show b.natAbs ≤ 99 by omega)
  omega
theorem rest_mul {p q c i : Int} (hc : 0 < c) (hi : c ∣ i * q - 1) : c ∣ (p * i).fmod c * q - p := by
  obtain ⟨k, hk⟩ := hi
  obtain ⟨l, hl⟩ := dv_mod (y := p * i) (N := c) hc
  generalize (p * i).fmod c = a at *
  exact ⟨p * k - l * q, by grind⟩
structure Bd (p q : Int) : Prop where
  p0 : -10 < p
  p1 : p < 10
  q0 : 0 < q
  q1 : q < 7
theorem rkF_of {p1 q1 p2 q2 c : Int} (C : Pc c) (b1 : Bd p1 q1) (b2 : Bd p2 q2) : ∃ a b i1 ib, RkF p1 q1 p2 q2 c a b i1 ib := by
  have P := C.P
  have hc := P.lo
  have hh := P.hi
  obtain ⟨iq1, i10, i11⟩ := C.pw q1 b1.q0 b1.q1
  obtain ⟨iq2, i20, i21⟩ := C.pw q2 b2.q0 b2.q1
  have e1 : pmF (c - 2).toNat ((1 : Int).fmod c) (q1.fmod c) (c - 2) c = pmF (c - 2).toNat ((1 : Int).fmod c) (q1.fmod c) (c - 2) c := rfl
  generalize hI : pmF (c - 2).toNat ((1 : Int).fmod c) (q1.fmod c) (c - 2) c = i1 at iq1 i10 i11
  generalize pmF (c - 2).toNat ((1 : Int).fmod c) (q2.fmod c) (c - 2) c = i2 at iq2 i20 i21
  have ha := rest_mul (p := p1) (by omega) iq1
  have hb := rest_mul (p := p2) (by omega) iq2
  have a0 := Int.fmod_nonneg_of_pos (p1 * i1) (show 0 < c by omega)
  have a1 := Int.fmod_lt_of_pos (p1 * i1) (show 0 < c by omega)
  have c0 := Int.fmod_nonneg_of_pos (p2 * i2) (show 0 < c by omega)
  have c1 := Int.fmod_lt_of_pos (p2 * i2) (show 0 < c by omega)
  have eA : (p1 * i1).fmod c = (p1 * i1).fmod c := rfl
  generalize hA : (p1 * i1).fmod c = a at ha a0 a1
  generalize (p2 * i2).fmod c = b at hb c0 c1
  have hq1 := P.small b1.q0 b1.q1
  have hq2 := P.small b2.q0 b2.q1
  obtain ⟨p10, p11, q10, q11⟩ := b1
  obtain ⟨p20, p21, q20, q21⟩ := b2
  have m1 := mb (a := p1) (b := q2) (by omega) (by omega) (by omega) (by omega)
  have m2 := mb (a := p2) (b := q1) (by omega) (by omega) (by omega) (by omega)
  have m3 := mb (a := q1) (b := q2) (by omega) (by omega) (by omega) (by omega)
  have m4 := mb (a := p1) (b := p2) (by omega) (by omega) (by omega) (by omega)
  have m5 := mb (a := q1) (b := p2) (by omega) (by omega) (by omega) (by omega)
  have hqq : ¬ c ∣ q1 * q2 := P.mul hq1 hq2
  have f0 : ∀ z : Int, 0 ≤ z.fmod c := fun z => Int.fmod_nonneg_of_pos z (by omega)
  have f1 : ∀ z : Int, z.fmod c < c := fun z => Int.fmod_lt_of_pos z (by omega)
  have qq : q1 * q2 ≠ 0 := fun e => hqq (by rw [e]; exact Int.dvd_zero c)
  have key : ∃ ib, (p2.fmod c = 0 → ¬ (b.fmod c).gcd c = 1) ∧ (p2.fmod c ≠ 0 → InvF b c ib ∧ q1 * p2 ≠ 0 ∧ -(2 ^ 28) < q1 * p2 ∧ q1 * p2 < 2 ^ 28 ∧ RestF (qT (p1 * q2) (q1 * p2)) (qB (p1 * q2) (q1 * p2)) c ((a * ib).fmod c)) := by
    by_cases hz : p2.fmod c = 0
    · refine ⟨0, fun _ hg => ?_, fun h => absurd hz h⟩
      rw [dv0 (by omega)] at hz
      have h1 := Int.dvd_add hb hz
      rw [show b * q2 - p2 + p2 = q2 * b by grind] at h1
      have h2 := cop_dvd (P.cop hq2) h1
      rw [(dv0 (by omega)).mpr h2, Int.gcd_zero_left] at hg
      omega
    · rw [dv0 (by omega)] at hz
      have hbz : ¬ c ∣ b := fun h => hz (by
        have := Int.dvd_sub (Int.dvd_trans h (Int.dvd_mul_right b q2)) hb
        rwa [show b * q2 - (b * q2 - p2) = p2 by omega] at this)
      have hb0 : b ≠ 0 := fun e => hbz (by rw [e]; exact Int.dvd_zero c)
      obtain ⟨ib, j0, j1, j2⟩ := C.iv b (by omega) c1
      have hqp : ¬ c ∣ q1 * p2 := P.mul hq1 hz
      refine ⟨ib, fun h => absurd ((dv0 (by omega)).mp h) hz, fun _ => ⟨invF_of P hbz j2 j0 j1, fun e => hqp (by rw [e]; exact Int.dvd_zero c), by omega, by omega, restF_of P hqp ?_ (f0 _) (f1 _) (by omega) (by omega) (by omega) (by omega)⟩⟩
      obtain ⟨k1, h1⟩ := ha
      obtain ⟨k2, h2⟩ := hb
      obtain ⟨k3, h3⟩ := dv_mod (y := a * ib) (N := c) (by omega)
      obtain ⟨k4, h4⟩ := j2
      generalize (a * ib).fmod c = n at *
      exact ⟨k1 * ib * p2 + p1 * (k4 * q2 - ib * k2) - k3 * q1 * p2, by grind⟩
  obtain ⟨ib, kz, kn⟩ := key
  refine ⟨a, b, i1, ib, ?_⟩
  exact {
    c1 := by omega, c2 := by omega, p1a := by omega, p1b := by omega, q1a := q10, q1b := by omega, p2a := by omega, p2b := by omega, q2a := q20, q2b := by omega
    a0 := a0, ac := a1, b0 := c0, bc := c1, qq := qq, qq1 := by omega, qq2 := by omega
    r1 := restF_dir P hq1 ha a0 a1 (by omega) (by omega) (by omega) (by omega)
    r2 := restF_dir P hq2 hb c0 c1 (by omega) (by omega) (by omega) (by omega)
    add := restF_of P hqq (by
      obtain ⟨k1, h1⟩ := ha
      obtain ⟨k2, h2⟩ := hb
      obtain ⟨k3, h3⟩ := dv_mod (y := a + b) (N := c) (by omega)
      generalize (a + b).fmod c = n at *
      exact ⟨k1 * q2 + k2 * q1 - k3 * q1 * q2, by grind⟩) (f0 _) (f1 _) (by omega) (by omega) (by omega) (by omega)
    sub := restF_of P hqq (by
      obtain ⟨k1, h1⟩ := ha
      obtain ⟨k2, h2⟩ := hb
      obtain ⟨k3, h3⟩ := dv_mod (y := a - b) (N := c) (by omega)
      generalize (a - b).fmod c = n at *
      exact ⟨k1 * q2 - k2 * q1 - k3 * q1 * q2, by grind⟩) (f0 _) (f1 _) (by omega) (by omega) (by omega) (by omega)
    mul := restF_of P hqq (by
      obtain ⟨k1, h1⟩ := ha
      obtain ⟨k2, h2⟩ := hb
      obtain ⟨k3, h3⟩ := dv_mod (y := a * b) (N := c) (by omega)
      generalize (a * b).fmod c = n at *
      exact ⟨k1 * b * q2 + p1 * k2 - k3 * q1 * q2, by grind⟩) (f0 _) (f1 _) (by omega) (by omega) (by omega) (by omega)
    inv := invF_of P hq1 iq1 i10 i11
    ai := hA.symm
    pw := hI.symm
    z := kz
    nz := kn }

/-- a product of primes, the bound of its half, and what undoes 1 .. 6 by it: every ratio whose square fits is rebuilt -/
def okW (W B : Int) (is : List Int) : Bool :=
  decide (1 < W) && decide (0 ≤ B) && decide (B * B ≤ W.fdiv 2) && decide (W.fdiv 2 < (B + 1) * (B + 1)) &&
  (List.range 6).all fun b => decide ((is.getD b 0 * ((b : Int) + 1) - 1) % W = 0) && decide (Int.gcd ((b : Int) + 1) W = 1) &&
    (List.range 19).all fun t => decide (Int.gcd ((t : Int) - 9) ((b : Int) + 1) ≠ 1) || decide (¬ 2 * wdF ((t : Int) - 9) ((b : Int) + 1) * wdF ((t : Int) - 9) ((b : Int) + 1) ≤ W) ||
      decide (ratF B ((((t : Int) - 9) * is.getD b 0).fmod W) W = some ((t : Int) - 9, (b : Int) + 1))
structure OkT (W : Int) : Prop where
  w1 : 1 < W
  g : ∀ q : Int, 0 < q → q < 7 → q.gcd W = 1
  i : ∀ q : Int, 0 < q → q < 7 → ∃ i, W ∣ i * q - 1
  r : ∀ p q x, Bd p q → p.gcd q = 1 → 2 * wdF p q * wdF p q ≤ W → W ∣ x * q - p → RatIs (x.fmod W) W p q
theorem okT_of {W B : Int} {is : List Int} (h : okW W B is = true) : OkT W := by
  simp only [okW, Bool.and_eq_true, decide_eq_true_eq, List.all_eq_true, List.mem_range, Bool.or_eq_true] at h
  obtain ⟨⟨⟨⟨h1, h2⟩, h3⟩, h4⟩, h5⟩ := h
  have all : ∀ q : Int, 0 < q → q < 7 → ∃ i, W ∣ i * q - 1 ∧ q.gcd W = 1 ∧ ∀ p, Bd p q → p.gcd q = 1 → 2 * wdF p q * wdF p q ≤ W → ratF B ((p * i).fmod W) W = some (p, q) := by
    intro q q0 q1
    obtain ⟨b, hb⟩ := Int.eq_ofNat_of_zero_le (show 0 ≤ q - 1 by omega)
    have e : q = (b : Int) + 1 := by omega
    subst e
    obtain ⟨⟨g1, g2⟩, g3⟩ := h5 b (by omega)
    refine ⟨_, Int.dvd_of_emod_eq_zero g1, g2, fun p bp hg hw => ?_⟩
    obtain ⟨t, ht⟩ := Int.eq_ofNat_of_zero_le (show 0 ≤ p + 9 by have := bp.p0; omega)
    have e : p = (t : Int) - 9 := by omega
    subst e
    rcases g3 t (by have := bp.p1; omega) with (g4 | g4) | g4
    · exact absurd hg g4
    · exact absurd hw g4
    · exact g4
  refine ⟨h1, fun q q0 q1 => ?_, fun q q0 q1 => ?_, fun p q x bp hg hw hx => ?_⟩
  · obtain ⟨i, _, g, _⟩ := all q q0 q1
    exact g
  · obtain ⟨i, g, _⟩ := all q q0 q1
    exact ⟨i, g⟩
  · obtain ⟨i, g1, g2, g3⟩ := all q bp.q0 bp.q1
    refine ratIs_of h2 h3 h4 ?_
    have e : x.fmod W = (p * i).fmod W := by
      refine uniq (Int.fmod_nonneg_of_pos _ (by omega)) (Int.fmod_lt_of_pos _ (by omega)) ?_
      have a1 : W ∣ q * (x - p * i) := by
        have := Int.dvd_sub hx (Int.dvd_trans g1 (Int.dvd_mul_left p (i * q - 1)))
        rwa [show x * q - p - p * (i * q - 1) = q * (x - p * i) by grind] at this
      have a2 := cop_dvd g2 a1
      have a3 := Int.dvd_sub a2 (dv_mod (y := x) (N := W) (by omega))
      rwa [show x - p * i - (x - x.fmod W) = x.fmod W - p * i by omega] at a3
    rw [e]
    exact g3 p bp hg hw
theorem okT_7 : OkT 7 := okT_of (B := 1) (is := [1, 4, 5, 2, 3, 6]) (by decide +kernel)
theorem okT_77 : OkT 77 := okT_of (B := 6) (is := [1, 39, 26, 58, 31, 13]) (by decide +kernel)
theorem okT_1001 : OkT 1001 := okT_of (B := 22) (is := [1, 501, 334, 751, 801, 167]) (by decide +kernel)
theorem okT_17017 : OkT 17017 := okT_of (B := 92) (is := [1, 8509, 11345, 12763, 6807, 14181]) (by decide +kernel)
theorem okT_11 : OkT 11 := okT_of (B := 2) (is := [1, 6, 4, 3, 9, 2]) (by decide +kernel)
theorem okT_143 : OkT 143 := okT_of (B := 8) (is := [1, 72, 48, 36, 86, 24]) (by decide +kernel)
theorem okT_2431 : OkT 2431 := okT_of (B := 34) (is := [1, 1216, 1621, 608, 1945, 2026]) (by decide +kernel)
theorem okT_46189 : OkT 46189 := okT_of (B := 151) (is := [1, 23095, 30793, 34642, 9238, 38491]) (by decide +kernel)
theorem okT_13 : OkT 13 := okT_of (B := 2) (is := [1, 7, 9, 10, 8, 11]) (by decide +kernel)
theorem okT_221 : OkT 221 := okT_of (B := 10) (is := [1, 111, 74, 166, 177, 37]) (by decide +kernel)
theorem okT_4199 : OkT 4199 := okT_of (B := 45) (is := [1, 2100, 1400, 1050, 840, 700]) (by decide +kernel)
theorem okT_96577 : OkT 96577 := okT_of (B := 219) (is := [1, 48289, 64385, 72433, 38631, 80481]) (by decide +kernel)
theorem okT_17 : OkT 17 := okT_of (B := 2) (is := [1, 9, 6, 13, 7, 3]) (by decide +kernel)
theorem okT_323 : OkT 323 := okT_of (B := 12) (is := [1, 162, 108, 81, 194, 54]) (by decide +kernel)
theorem okT_7429 : OkT 7429 := okT_of (B := 60) (is := [1, 3715, 4953, 5572, 1486, 6191]) (by decide +kernel)
theorem okT_52003 : OkT 52003 := okT_of (B := 161) (is := [1, 26002, 34669, 13001, 31202, 43336]) (by decide +kernel)
theorem okT_19 : OkT 19 := okT_of (B := 3) (is := [1, 10, 13, 5, 4, 16]) (by decide +kernel)
theorem okT_437 : OkT 437 := okT_of (B := 14) (is := [1, 219, 146, 328, 175, 73]) (by decide +kernel)
theorem okT_3059 : OkT 3059 := okT_of (B := 39) (is := [1, 1530, 1020, 765, 612, 510]) (by decide +kernel)
theorem okT_33649 : OkT 33649 := okT_of (B := 129) (is := [1, 16825, 22433, 25237, 6730, 28041]) (by decide +kernel)
theorem okT_23 : OkT 23 := okT_of (B := 3) (is := [1, 12, 8, 6, 14, 4]) (by decide +kernel)
theorem okT_161 : OkT 161 := okT_of (B := 8) (is := [1, 81, 54, 121, 129, 27]) (by decide +kernel)
theorem okT_1771 : OkT 1771 := okT_of (B := 29) (is := [1, 886, 1181, 443, 1417, 1476]) (by decide +kernel)
theorem okT_23023 : OkT 23023 := okT_of (B := 107) (is := [1, 11512, 15349, 5756, 13814, 19186]) (by decide +kernel)

/-- what holds of the four primes -/
structure PF (P0 P1 P2 P3 : Int) : Prop where
  c0 : Pc P0
  c1 : Pc P1
  c2 : Pc P2
  c3 : Pc P3
  w0 : OkT (1 * P0)
  w1 : OkT (1 * P0 * P1)
  w2 : OkT (1 * P0 * P1 * P2)
  w3 : OkT (1 * P0 * P1 * P2 * P3)
  b3 : 1 * P0 * P1 * P2 * P3 < 2 ^ 28
  b2 : 1 * P0 * P1 * P2 < 2 ^ 28
  b1 : 1 * P0 * P1 < 2 ^ 28
  big : 162 ≤ 1 * P0 * P1 * P2
  g1 : (1 * P0).gcd P1 = 1
  g2 : (1 * P0 * P1).gcd P2 = 1
  g3 : (1 * P0 * P1 * P2).gcd P3 = 1
  h10 : (1 * P1).gcd P0 = 1
  h21 : (1 * P2).gcd P1 = 1
  h210 : (1 * P2 * P1).gcd P0 = 1
  h32 : (1 * P3).gcd P2 = 1
  h321 : (1 * P3 * P2).gcd P1 = 1
  h3210 : (1 * P3 * P2 * P1).gcd P0 = 1
  n12 : ¬ P0 ∣ P1 * P2
theorem pc_7 : Pc 7 := pc_of (c := 7) (by decide +kernel)
theorem pc_11 : Pc 11 := pc_of (c := 11) (by decide +kernel)
theorem pc_13 : Pc 13 := pc_of (c := 13) (by decide +kernel)
theorem pc_17 : Pc 17 := pc_of (c := 17) (by decide +kernel)
theorem pc_19 : Pc 19 := pc_of (c := 19) (by decide +kernel)
theorem pc_23 : Pc 23 := pc_of (c := 23) (by decide +kernel)
theorem pf_0 : PF 7 11 13 17 := { c0 := pc_7, c1 := pc_11, c2 := pc_13, c3 := pc_17, w0 := okT_7, w1 := okT_77, w2 := okT_1001, w3 := okT_17017, b3 := by decide, b2 := by decide, b1 := by decide, big := by decide, g1 := by decide, g2 := by decide, g3 := by decide, h10 := by decide, h21 := by decide, h210 := by decide, h32 := by decide, h321 := by decide, h3210 := by decide, n12 := by decide }
theorem pf_1 : PF 11 13 17 19 := { c0 := pc_11, c1 := pc_13, c2 := pc_17, c3 := pc_19, w0 := okT_11, w1 := okT_143, w2 := okT_2431, w3 := okT_46189, b3 := by decide, b2 := by decide, b1 := by decide, big := by decide, g1 := by decide, g2 := by decide, g3 := by decide, h10 := by decide, h21 := by decide, h210 := by decide, h32 := by decide, h321 := by decide, h3210 := by decide, n12 := by decide }
theorem pf_2 : PF 13 17 19 23 := { c0 := pc_13, c1 := pc_17, c2 := pc_19, c3 := pc_23, w0 := okT_13, w1 := okT_221, w2 := okT_4199, w3 := okT_96577, b3 := by decide, b2 := by decide, b1 := by decide, big := by decide, g1 := by decide, g2 := by decide, g3 := by decide, h10 := by decide, h21 := by decide, h210 := by decide, h32 := by decide, h321 := by decide, h3210 := by decide, n12 := by decide }
theorem pf_3 : PF 17 19 23 7 := { c0 := pc_17, c1 := pc_19, c2 := pc_23, c3 := pc_7, w0 := okT_17, w1 := okT_323, w2 := okT_7429, w3 := okT_52003, b3 := by decide, b2 := by decide, b1 := by decide, big := by decide, g1 := by decide, g2 := by decide, g3 := by decide, h10 := by decide, h21 := by decide, h210 := by decide, h32 := by decide, h321 := by decide, h3210 := by decide, n12 := by decide }
theorem pf_4 : PF 19 23 7 11 := { c0 := pc_19, c1 := pc_23, c2 := pc_7, c3 := pc_11, w0 := okT_19, w1 := okT_437, w2 := okT_3059, w3 := okT_33649, b3 := by decide, b2 := by decide, b1 := by decide, big := by decide, g1 := by decide, g2 := by decide, g3 := by decide, h10 := by decide, h21 := by decide, h210 := by decide, h32 := by decide, h321 := by decide, h3210 := by decide, n12 := by decide }
theorem pf_5 : PF 23 7 11 13 := { c0 := pc_23, c1 := pc_7, c2 := pc_11, c3 := pc_13, w0 := okT_23, w1 := okT_161, w2 := okT_1771, w3 := okT_23023, b3 := by decide, b2 := by decide, b1 := by decide, big := by decide, g1 := by decide, g2 := by decide, g3 := by decide, h10 := by decide, h21 := by decide, h210 := by decide, h32 := by decide, h321 := by decide, h3210 := by decide, n12 := by decide }
theorem pf_of {P0 P1 P2 P3 : Int} (h : Pr4 P0 P1 P2 P3) : PF P0 P1 P2 P3 := by
  obtain ⟨n, hn, e⟩ := h
  rcases (show n = 0 ∨ n = 1 ∨ n = 2 ∨ n = 3 ∨ n = 4 ∨ n = 5 by omega) with rfl | rfl | rfl | rfl | rfl | rfl
  all_goals (simp only [List.drop, List.take, List.nil_append, List.cons_append, List.cons.injEq, and_true] at e; obtain ⟨rfl, rfl, rfl, rfl⟩ := e)
  · exact pf_0
  · exact pf_1
  · exact pf_2
  · exact pf_3
  · exact pf_4
  · exact pf_5
def rgChk : Bool := (List.range 19).all fun t => (List.range 6).all fun b => decide (-10 < qT ((t : Int) - 9) (1 + (b : Int))) && decide (qT ((t : Int) - 9) (1 + (b : Int)) < 10) && decide (0 < qB ((t : Int) - 9) (1 + (b : Int))) && decide (qB ((t : Int) - 9) (1 + (b : Int)) < 7) && decide ((qT ((t : Int) - 9) (1 + (b : Int))).gcd (qB ((t : Int) - 9) (1 + (b : Int))) = 1)
theorem rg_chk : rgChk = true := by decide +kernel
theorem rg_bd {p q : Int} (h : Rg p q) : Bd p q ∧ p.gcd q = 1 := by
  obtain ⟨t, b, t0, t1, b0, b1, rfl, rfl⟩ := h
  obtain ⟨t, rfl⟩ := Int.eq_ofNat_of_zero_le t0
  obtain ⟨b, rfl⟩ := Int.eq_ofNat_of_zero_le b0
  have h := rg_chk
  simp only [rgChk, Bool.and_eq_true, decide_eq_true_eq, List.all_eq_true, List.mem_range] at h
  obtain ⟨⟨⟨⟨h1, h2⟩, h3⟩, h4⟩, h5⟩ := h t (by omega) b (by omega)
  exact ⟨⟨h1, h2, h3, h4⟩, h5⟩
theorem prodL_eq : ∀ {ps : List (Int × Int)} {M : Int}, ProdL M ps = M * prodM ps
  | [], M => (Int.mul_one M).symm
  | p :: ps, M => by
    show ProdL (M * p.2) ps = M * (p.2 * prodM ps)
    rw [prodL_eq, Int.mul_assoc]
theorem wd_bd {p q : Int} (b : Bd p q) : 2 * wdF p q * wdF p q ≤ 162 := by
  obtain ⟨h1, h2, h3, h4⟩ := b
  have hw : 0 ≤ wdF p q ∧ wdF p q ≤ 9 := by unfold wdF; split <;> split <;> omega
  have := Int.mul_le_mul hw.2 hw.2 hw.1 (by omega)
  rw [Int.mul_assoc]
  omega
theorem turn_of {p q y c r x W : Int} {ps rs : List (Int × Int)} (C : Pc c) (b : Bd p q) (hg : p.gcd q = 1) (T : OkT W) (hr : r = y.fmod c) (hx : x = y.fmod W) (hy : W ∣ y * q - p) (hcW : c ∣ W) (w2 : W < 2 ^ 28)
    (hps : ∀ z ∈ ps, 0 < z.2 ∧ z.2 < 2 ^ 28 ∧ z.2 ∣ W ∧ z.1 = y.fmod z.2) (hrs : ∀ z ∈ rs, 0 < z.2 ∧ z.2 < 2 ^ 28 ∧ z.1 = y.fmod z.2) (hc : ChainC y 1 ps) (hcr : ChainC y 1 rs) (e : ProdL 1 ps = W) (er : ProdL 1 rs = W) : TurnF p q ps rs c r x W := by
  have w1 := T.w1
  have hlo := C.P.lo
  have hhi := C.P.hi
  have R : RestF p q c r := by
    refine restF_dir C.P (C.P.small b.q0 b.q1) ?_ (by rw [hr]; exact Int.fmod_nonneg_of_pos _ (by omega)) (by rw [hr]; exact Int.fmod_lt_of_pos _ (by omega)) (by have := b.p0; omega) (by have := b.p1; omega) (by have := b.q0; omega) (by have := b.q1; omega)
    rw [hr]
    obtain ⟨k, hk⟩ := Int.dvd_trans hcW hy
    obtain ⟨l, hl⟩ := dv_mod (y := y) (N := c) (by omega)
    generalize y.fmod c = z at *
    exact ⟨k - l * q, by grind⟩
  have x0 : 0 ≤ x := by rw [hx]; exact Int.fmod_nonneg_of_pos _ (by omega)
  have x1 : x < W := by rw [hx]; exact Int.fmod_lt_of_pos _ (by omega)
  have pq := prodL_eq (ps := ps) (M := 1)
  have pr := prodL_eq (ps := rs) (M := 1)
  have ok : ∀ {l : List (Int × Int)}, (∀ z ∈ l, 0 < z.2 ∧ z.2 < 2 ^ 28 ∧ z.1 = y.fmod z.2) → PairsOk l := by
    intro l h z hz
    obtain ⟨h1, h2, h3⟩ := h z hz
    have := Int.fmod_nonneg_of_pos y h1
    have := Int.fmod_lt_of_pos y h1
    rw [h3]
    exact ⟨by omega, by omega, h1⟩
  exact {
    c0 := by omega, c1 := by omega, les := R.les, ex := R.ex
    ok := ok fun z hz => ⟨(hps z hz).1, (hps z hz).2.1, (hps z hz).2.2.2⟩
    okr := ok hrs
    pr := by omega
    prr := by omega
    ch := fun g h => by rw [chr_start hc h, e, hx]
    chr := fun g h => by rw [chr_start hcr h, er, hx]
    rests := fun z hz => by
      obtain ⟨h1, h2, h3, h4⟩ := hps z hz
      rw [hx, mod_mod h1 (by omega) h3, h4]
    x0 := x0, x1 := x1, w1 := w1, w2 := w2
    rat1 := fun hw => by rw [hx]; exact T.r p q y b hg hw hy
    rat2 := fun B u v h => (dv0 (by omega)).mpr (rat_inv (by omega) h)
    sym := fun hq hw => by
      subst hq
      have ex : x.fmod W = x := (uniq x0 x1 (by rw [Int.sub_self]; exact Int.dvd_zero W)).symm
      unfold symF
      rw [ex]
      by_cases hp : p < 0
      · rw [if_pos hp] at hw
        have hz : p + W = x := by
          rw [hx]
          refine uniq (by omega) (by omega) ?_
          have := Int.dvd_sub (Int.dvd_refl W) hy
          rwa [show W - (y * 1 - p) = p + W - y by omega] at this
        rw [if_pos (by omega)]
        omega
      · rw [if_neg hp] at hw
        have hz : p = x := by
          rw [hx]
          refine uniq (by omega) (by omega) ?_
          have := Int.dvd_neg.mpr hy
          rwa [show -(y * 1 - p) = p - y by omega] at this
        rw [if_neg (by omega)]
        omega }
theorem pc_b {c : Int} (C : Pc c) : 0 < c ∧ c < 2 ^ 28 := by
  have := C.P.lo
  have := C.P.hi
  omega
theorem rb_of {p q P0 P1 P2 P3 : Int} (F : PF P0 P1 P2 P3) (b : Bd p q) (hg : p.gcd q = 1) : ∃ r0 r1 r2 r3 x0 x1 x2 x3, RbF p q P0 P1 P2 P3 r0 r1 r2 r3 x0 x1 x2 x3 := by
  obtain ⟨i, hi⟩ := F.w3.i q b.q0 b.q1
  have hy : 1 * P0 * P1 * P2 * P3 ∣ p * i * q - p := by
    have := Int.dvd_trans hi (Int.dvd_mul_left p (i * q - 1))
    rwa [show p * (i * q - 1) = p * i * q - p by grind] at this
  generalize p * i = y at hy
  have k0 := pc_b F.c0
  have k1 := pc_b F.c1
  have k2 := pc_b F.c2
  have k3 := pc_b F.c3
  have d2 : 1 * P0 * P1 * P2 ∣ 1 * P0 * P1 * P2 * P3 := Int.dvd_mul_right _ _
  have d1 : 1 * P0 * P1 ∣ 1 * P0 * P1 * P2 := Int.dvd_mul_right _ _
  have d0 : 1 * P0 ∣ 1 * P0 * P1 := Int.dvd_mul_right _ _
  have a0 : P0 ∣ 1 * P0 := Int.dvd_mul_left _ _
  have a1 : P1 ∣ 1 * P0 * P1 := Int.dvd_mul_left _ _
  have a2 : P2 ∣ 1 * P0 * P1 * P2 := Int.dvd_mul_left _ _
  have a3 : P3 ∣ 1 * P0 * P1 * P2 * P3 := Int.dvd_mul_left _ _
  have m0 := dv_mod (y := y) k0.1
  have m1 := dv_mod (y := y) k1.1
  have m2 := dv_mod (y := y) k2.1
  have m3 := dv_mod (y := y) k3.1
  have u : ∀ c : Int, (1 : Int).gcd c = 1 := fun c => by simp
  refine ⟨y.fmod P0, y.fmod P1, y.fmod P2, y.fmod P3, y.fmod (1 * P0), y.fmod (1 * P0 * P1), y.fmod (1 * P0 * P1 * P2), y.fmod (1 * P0 * P1 * P2 * P3), ?_, ?_, ?_, ?_⟩
  · refine turn_of F.c0 b hg F.w0 rfl rfl (Int.dvd_trans d0 (Int.dvd_trans d1 (Int.dvd_trans d2 hy))) a0 (by omega) ?_ ?_ ⟨k0.1, u _, m0, trivial⟩ ⟨k0.1, u _, m0, trivial⟩ rfl rfl
    · intro z hz
      simp only [List.mem_cons, List.not_mem_nil, or_false] at hz
      subst hz
      exact ⟨k0.1, k0.2, a0, rfl⟩
    · intro z hz
      simp only [List.mem_cons, List.not_mem_nil, or_false] at hz
      subst hz
      exact ⟨k0.1, k0.2, rfl⟩
  · refine turn_of F.c1 b hg F.w1 rfl rfl (Int.dvd_trans d1 (Int.dvd_trans d2 hy)) a1 F.b1 ?_ ?_ ⟨k0.1, u _, m0, k1.1, F.g1, m1, trivial⟩ ⟨k1.1, u _, m1, k0.1, F.h10, m0, trivial⟩ rfl (show 1 * P1 * P0 = 1 * P0 * P1 by grind)
    · intro z hz
      simp only [List.mem_cons, List.not_mem_nil, or_false] at hz
      rcases hz with rfl | rfl
      · exact ⟨k0.1, k0.2, Int.dvd_trans a0 d0, rfl⟩
      · exact ⟨k1.1, k1.2, a1, rfl⟩
    · intro z hz
      simp only [List.mem_cons, List.not_mem_nil, or_false] at hz
      rcases hz with rfl | rfl
      · exact ⟨k1.1, k1.2, rfl⟩
      · exact ⟨k0.1, k0.2, rfl⟩
  · refine turn_of F.c2 b hg F.w2 rfl rfl (Int.dvd_trans d2 hy) a2 F.b2 ?_ ?_ ⟨k0.1, u _, m0, k1.1, F.g1, m1, k2.1, F.g2, m2, trivial⟩ ⟨k2.1, u _, m2, k1.1, F.h21, m1, k0.1, F.h210, m0, trivial⟩ rfl (show 1 * P2 * P1 * P0 = 1 * P0 * P1 * P2 by grind)
    · intro z hz
      simp only [List.mem_cons, List.not_mem_nil, or_false] at hz
      rcases hz with rfl | rfl | rfl
      · exact ⟨k0.1, k0.2, Int.dvd_trans a0 (Int.dvd_trans d0 d1), rfl⟩
      · exact ⟨k1.1, k1.2, Int.dvd_trans a1 d1, rfl⟩
      · exact ⟨k2.1, k2.2, a2, rfl⟩
    · intro z hz
      simp only [List.mem_cons, List.not_mem_nil, or_false] at hz
      rcases hz with rfl | rfl | rfl
      · exact ⟨k2.1, k2.2, rfl⟩
      · exact ⟨k1.1, k1.2, rfl⟩
      · exact ⟨k0.1, k0.2, rfl⟩
  · refine turn_of F.c3 b hg F.w3 rfl rfl hy a3 F.b3 ?_ ?_ ⟨k0.1, u _, m0, k1.1, F.g1, m1, k2.1, F.g2, m2, k3.1, F.g3, m3, trivial⟩ ⟨k3.1, u _, m3, k2.1, F.h32, m2, k1.1, F.h321, m1, k0.1, F.h3210, m0, trivial⟩ rfl (show 1 * P3 * P2 * P1 * P0 = 1 * P0 * P1 * P2 * P3 by grind)
    · intro z hz
      simp only [List.mem_cons, List.not_mem_nil, or_false] at hz
      rcases hz with rfl | rfl | rfl | rfl
      · exact ⟨k0.1, k0.2, Int.dvd_trans a0 (Int.dvd_trans d0 (Int.dvd_trans d1 d2)), rfl⟩
      · exact ⟨k1.1, k1.2, Int.dvd_trans a1 (Int.dvd_trans d1 d2), rfl⟩
      · exact ⟨k2.1, k2.2, Int.dvd_trans a2 d2, rfl⟩
      · exact ⟨k3.1, k3.2, a3, rfl⟩
    · intro z hz
      simp only [List.mem_cons, List.not_mem_nil, or_false] at hz
      rcases hz with rfl | rfl | rfl | rfl
      · exact ⟨k3.1, k3.2, rfl⟩
      · exact ⟨k2.1, k2.2, rfl⟩
      · exact ⟨k1.1, k1.2, rfl⟩
      · exact ⟨k0.1, k0.2, rfl⟩
theorem pm_s {c : Int} (P : Pm c) : 2 < c ∧ c < 2 ^ 5 := by
  have := P.lo
  have := P.hi
  omega
theorem bd_s {p q : Int} (b : Bd p q) : -(2 ^ 20) < p ∧ p < 2 ^ 20 ∧ 0 < q ∧ q < 2 ^ 20 := by
  obtain ⟨h1, h2, h3, h4⟩ := b
  omega
theorem law_facts {p1 q1 p2 q2 P0 P1 P2 P3 : Int} (h1 : Rg p1 q1) (h2 : Rg p2 q2) (hP : Pr4 P0 P1 P2 P3) : LawF p1 q1 p2 q2 P0 P1 P2 P3 := by
  have F := pf_of hP
  obtain ⟨b1, g1⟩ := rg_bd h1
  obtain ⟨b2, g2⟩ := rg_bd h2
  have s1 := bd_s b1
  have s2 := bd_s b2
  have k0 := pm_s F.c0.P
  have k1 := pm_s F.c1.P
  have k2 := pm_s F.c2.P
  have k3 := pm_s F.c3.P
  exact {
    p1a := s1.1, p1b := s1.2.1, q1a := s1.2.2.1, q1b := s1.2.2.2, p2a := s2.1, p2b := s2.2.1, q2a := s2.2.2.1, q2b := s2.2.2.2
    P0a := k0.1, P0b := k0.2, P1a := k1.1, P1b := k1.2, P2a := k2.1, P2b := k2.2, P3a := k3.1, P3b := k3.2
    rb1 := rb_of F b1 g1, rb2 := rb_of F b2 g2
    rk0 := rkF_of F.c0 b1 b2, rk1 := rkF_of F.c1 b1 b2, rk2 := rkF_of F.c2 b1 b2, rk3 := rkF_of F.c3 b1 b2 }
theorem tail_facts {p1 q1 p2 q2 P0 P1 P2 P3 r10 r11 r12 r13 x10 x11 x12 x13 r20 r21 r22 r23 x20 x21 x22 x23 : Int} (h1 : Rg p1 q1) (h2 : Rg p2 q2) (hP : Pr4 P0 P1 P2 P3) (hr1 : RbF p1 q1 P0 P1 P2 P3 r10 r11 r12 r13 x10 x11 x12 x13) (hr2 : RbF p2 q2 P0 P1 P2 P3 r20 r21 r22 r23 x20 x21 x22 x23) : TailF p1 q1 p2 q2 P0 P1 P2 x12 x22 := by
  have F := pf_of hP
  obtain ⟨b1, g1⟩ := rg_bd h1
  obtain ⟨b2, g2⟩ := rg_bd h2
  have s1 := bd_s b1
  have k0 := pm_s F.c0.P
  have k1 := pm_s F.c1.P
  have k2 := pm_s F.c2.P
  have t1 := hr1.t2
  have t2 := hr2.t2
  have c0 := hr1.t0
  have c1 := hr1.t1
  have e0 : x12.fmod P0 = r10 := t1.rests (r10, P0) (by simp)
  have e1 : x12.fmod P1 = r11 := t1.rests (r11, P1) (by simp)
  have e2 : x12.fmod P2 = r12 := t1.rests (r12, P2) (by simp)
  have eW : 1 * P0 * P1 * P2 = P0 * P1 * P2 := by rw [Int.one_mul]
  have v1 := t1.x1
  have v2 := t2.x1
  have f1 := t1.rat1 (Int.le_trans (wd_bd b1) F.big)
  have f2 := t2.rat1 (Int.le_trans (wd_bd b2) F.big)
  have w1 := t1.w1
  rw [eW] at v1 v2 f1 f2 w1
  have gP : (P0 * P1).gcd P2 = 1 := by have := F.g2; rwa [Int.one_mul] at this
  have pP : 0 < P0 * P1 := Int.mul_pos (by omega) (by omega)
  have hP0 : P0 ∣ x12 * q1 - p1 := by
    obtain ⟨k, hk, hd⟩ := c0.ex
    have hr := c0.les k (by omega) hk hd
    rw [dv0 (by omega)] at hd
    obtain ⟨l, hl⟩ := hd
    obtain ⟨l2, hl2⟩ := dv_mod (y := x12) (N := P0) (by omega)
    rw [e0] at hl2
    rw [hr] at hl
    exact ⟨l + l2 * q1, by grind⟩
  exact {
    p1a := s1.1, p1b := s1.2.1, q1a := s1.2.2.1, q1b := s1.2.2.2
    P0a := k0.1, P0b := k0.2, P1a := k1.1, P1b := k1.2, P2a := k2.1, P2b := k2.2
    x1a := t1.x0, x1b := v1, x2a := t2.x0, x2b := v2, ra1 := f1, ra2 := f2
    tot := fun r out h => by
      simp only [OCh2, gP] at h
      have e : (P0 * P1).fdiv ((1 : Nat) : Int) = P0 * P1 := by simp
      rw [e, if_pos (by simp)] at h
      obtain ⟨x, h0, h1, h2, h3, o⟩ := h
      rw [both_mod (c := P2) pP gP h2 h3 (dv_mod (by omega)) h0 h1] at o
      exact o
    sp := fun k hk0 hk1 => by
      have hn : ¬ P0 ∣ (P1 * P2).fmod P0 := fun h => F.n12 (by
        have := Int.dvd_add h (dv_mod (y := P1 * P2) (N := P0) (by omega))
        rwa [show (P1 * P2).fmod P0 + (P1 * P2 - (P1 * P2).fmod P0) = P1 * P2 by omega] at this)
      have r0 := Int.fmod_nonneg_of_pos (P1 * P2) (show 0 < P0 by omega)
      have r1 := Int.fmod_lt_of_pos (P1 * P2) (show 0 < P0 by omega)
      have rn : (P1 * P2).fmod P0 ≠ 0 := fun e => hn (by rw [e]; exact Int.dvd_zero P0)
      obtain ⟨j, _, _, hj⟩ := F.c0.iv _ (by omega) r1
      obtain ⟨l, hl⟩ := hj
      obtain ⟨l2, hl2⟩ := dv_mod (y := P1 * P2) (N := P0) (by omega)
      have hY : ∃ Y, P0 ∣ Y - (x12 + 1 + k) ∧ P1 ∣ Y - x12 ∧ P2 ∣ Y - x12 := by
        generalize (P1 * P2).fmod P0 = z at *
        exact ⟨x12 + (1 + k) * (j * (P1 * P2)), ⟨(1 + k) * (l + j * l2), by grind⟩, ⟨(1 + k) * (j * P2), by grind⟩, ⟨(1 + k) * (j * P1), by grind⟩⟩
      obtain ⟨Y, y0, y1, y2⟩ := hY
      have hc : ChainC Y 1 [(x12 + 1 + k, P0), (x12, P1), (x12, P2)] := ⟨show 0 < P0 by omega, by simp, y0, show 0 < P1 by omega, F.g1, y1, show 0 < P2 by omega, F.g2, y2, trivial⟩
      have ch : ∀ g, ChR (some (0, 1)) [(x12 + 1 + k, P0), (x12, P1), (x12, P2)] g → g = some (Y.fmod (P0 * P1 * P2), P0 * P1 * P2) := fun g hg => by
        rw [chr_start hc hg, show ProdL 1 [(x12 + 1 + k, P0), (x12, P1), (x12, P2)] = P0 * P1 * P2 from eW]
      have dW : P0 ∣ P0 * P1 * P2 := ⟨P1 * P2, Int.mul_assoc _ _ _⟩
      have hyk : P0 ∣ Y.fmod (P0 * P1 * P2) - (x12 + 1 + k) := by
        have := Int.dvd_sub y0 (Int.dvd_trans dW (dv_mod (y := Y) (N := P0 * P1 * P2) (by omega)))
        rwa [show Y - (x12 + 1 + k) - (Y - Y.fmod (P0 * P1 * P2)) = Y.fmod (P0 * P1 * P2) - (x12 + 1 + k) by omega] at this
      have nk : ¬ P0 ∣ 1 + k := fun h => by
        have := Int.le_of_dvd (by omega) h
        omega
      refine ⟨Y.fmod (P0 * P1 * P2), Int.fmod_nonneg_of_pos _ (by omega), Int.fmod_lt_of_pos _ (by omega), ch, fun B hB => ?_, fun g hg => ?_⟩
      · have h3 := Int.dvd_trans dW (rat_inv (by omega) hB)
        generalize Y.fmod (P0 * P1 * P2) = y at *
        refine nk (cop_dvd (F.c0.P.cop (F.c0.P.small b1.q0 b1.q1)) ?_)
        obtain ⟨a, ha⟩ := hP0
        obtain ⟨b, hb⟩ := hyk
        obtain ⟨d, hd⟩ := h3
        exact ⟨-d - b * q1 - a, by grind⟩
      · obtain ⟨f1, s1, f2, s2, f3, s3, f4, s4, e⟩ := hg
        have hf := ch f3 ⟨f1, s1, f2, s2, f3, s3, rfl⟩
        rw [hf] at s4
        have gg : (P0 * P1 * P2).gcd P0 = P0.natAbs := by
          rw [show P0 * P1 * P2 = P0 * (P1 * P2) from Int.mul_assoc _ _ _, Int.gcd_mul_right_left]
        simp only [StepR, gg] at s4
        have en : ((P0.natAbs : Nat) : Int) = P0 := Int.natAbs_of_nonneg (by omega)
        rw [en] at s4
        rcases s4 with ⟨h5, _⟩ | ⟨_, h5⟩
        · rw [dv0 (by omega)] at h5
          have h6 := Int.dvd_neg.mpr (Int.dvd_add h5 hyk)
          exact absurd (by rwa [show -(x12 - Y.fmod (P0 * P1 * P2) + (Y.fmod (P0 * P1 * P2) - (x12 + 1 + k))) = 1 + k by omega] at h6) nk
        · rw [h5] at e
          exact e
    les1 := fun n n0 n1 h => by rw [e1]; exact c1.les n n0 n1 h
    ex1 := c1.ex
    les2 := fun n n0 n1 h => by rw [e2]; exact t1.les n n0 n1 h
    ex2 := t1.ex }

theorem tail_rat {p q y W : Int} (h : ∀ B, ratF B y W ≠ some (p, q)) {r : Value} {out : Led} (o : ORat y W r out) :
    (∃ u v a t1 t2, r = .ref a ∧ out = [(a, tup2 u t1 v t2)] ∧ ¬ (u = p ∧ v = q)) ∨ (r = .none ∧ out = []) := by
  obtain ⟨B, h0, h1, h2, h3⟩ := o
  cases e : ratF B y W with
  | none =>
    rw [e] at h3
    exact .inr ⟨h3.1, h3.2⟩
  | some z =>
    obtain ⟨u, v⟩ := z
    rw [e] at h3
    obtain ⟨a, t1, t2, e1, e2⟩ := h3
    refine .inl ⟨u, v, a, t1, t2, e1, e2, fun hx => h B ?_⟩
    rw [e, hx.1, hx.2]
theorem ch_none {ps : List (Int × Int)} (hc : ∀ g, ChR (some (0, 1)) ps g → g = none) {r : Value} {out : Led} (h : OCh ps r out) : r = .none ∧ out = [] := by
  obtain ⟨g, h1, h2⟩ := h
  rw [hc g h1] at h2
  exact h2
theorem tail_ok2 {x a b : Int} (h0 : 0 ≤ x) (h1 : x < 2 ^ 28) (ha : 0 < a) (hb : 0 < b) : PairsOk [(x, a), (x, b)] := by
  intro z hz
  simp only [List.mem_cons, List.not_mem_nil, or_false] at hz
  rcases hz with rfl | rfl
  · exact ⟨h0, h1, ha⟩
  · exact ⟨h0, h1, hb⟩
theorem tail_ok3 {x y a b c : Int} (g0 : 0 ≤ y) (g1 : y < 2 ^ 28) (h0 : 0 ≤ x) (h1 : x < 2 ^ 28) (ha : 0 < a) (hb : 0 < b) (hc : 0 < c) : PairsOk [(y, a), (x, b), (x, c)] := by
  intro z hz
  rcases List.mem_cons.mp hz with rfl | hz
  · exact ⟨g0, g1, ha⟩
  · exact tail_ok2 h0 h1 hb hc z hz
theorem tail_ok4 {x y a b c : Int} (g0 : 0 ≤ y) (g1 : y < 2 ^ 28) (h0 : 0 ≤ x) (h1 : x < 2 ^ 28) (ha : 0 < a) (hb : 0 < b) (hc : 0 < c) : PairsOk [(y, a), (x, b), (x, c), (x, a)] := by
  intro z hz
  rcases List.mem_cons.mp hz with rfl | hz
  · exact ⟨g0, g1, ha⟩
  · rcases List.mem_cons.mp hz with rfl | hz
    · exact ⟨h0, h1, hb⟩
    · exact tail_ok2 h0 h1 hc ha z hz
theorem tail_pr3 {y x z a b c : Int} (a1 : 2 < a) (a2 : a < 2 ^ 5) (b1 : 2 < b) (b2 : b < 2 ^ 5) (c1 : 2 < c) (c2 : c < 2 ^ 5) : prodM [(y, a), (x, b), (z, c)] < 2 ^ 28 := by
  simp only [prodM, Int.mul_one]
  have h1 : b * c < 2 ^ 10 := by have := Int.mul_lt_mul_of_pos_left c2 (show 0 < b by omega); omega
  have h0 : 0 < b * c := Int.mul_pos (by omega) (by omega)
  have := Int.mul_lt_mul_of_pos_right a2 h0
  omega
theorem tail_pr4 {y x z u a b c : Int} (a1 : 2 < a) (a2 : a < 2 ^ 5) (b1 : 2 < b) (b2 : b < 2 ^ 5) (c1 : 2 < c) (c2 : c < 2 ^ 5) : prodM [(y, a), (x, b), (z, c), (u, a)] < 2 ^ 28 := by
  simp only [prodM, Int.mul_one]
  have h1 : c * a < 2 ^ 10 := by have := Int.mul_lt_mul_of_pos_left a2 (show 0 < c by omega); omega
  have h0 : 0 < c * a := Int.mul_pos (by omega) (by omega)
  have h2 := Int.mul_lt_mul_of_pos_right b2 h0
  have h3 : 0 < b * (c * a) := Int.mul_pos (by omega) h0
  have := Int.mul_lt_mul_of_pos_right a2 h3
  omega
theorem tail_ch2 (w : World) (news : Led) (o1 o2 : Addr) {p1 q1 p2 q2 P0 P1 P2 x1 x2 : Int} (t1 u1 t2 u2 : Tok) (tf : TailF p1 q1 p2 q2 P0 P1 P2 x1 x2) (i1 : (o1, tup2 ((x1 + x2).fmod (P0 * P1)) t1 (P0 * P1) u1) ∈ news) (i2 : (o2, tup2 ((x1 + x2).fmod P2) t2 P2 u2) ∈ news) : Con w 56 2 news [.ref o1, .ref o2] (OTup2 ((x1 + x2).fmod (P0 * P1 * P2)) (P0 * P1 * P2)) := by
  have f0a := tf.P0a
  have f0b := tf.P0b
  have f1a := tf.P1a
  have f1b := tf.P1b
  have f2a := tf.P2a
  have f2b := tf.P2b
  have w1b : P0 * P1 < 2 ^ 10 := by have := Int.mul_lt_mul_of_pos_left f1b (show 0 < P0 by omega); omega
  have w1a : 0 < P0 * P1 := Int.mul_pos (by omega) (by omega)
  have a1 := Int.fmod_lt_of_pos (x1 + x2) w1a
  have a2 := Int.fmod_lt_of_pos (x1 + x2) (show 0 < P2 by omega)
  have a3 := Int.fmod_nonneg_of_pos (x1 + x2) w1a
  have a4 := Int.fmod_nonneg_of_pos (x1 + x2) (show 0 < P2 by omega)
  exact con_mono (ch2_con w news o1 o2 _ _ _ _ t1 u1 t2 u2 i1 i2 w1a (by omega) (by omega) (by omega) a3 (by omega) a4 (by omega)) tf.tot
theorem eq_tup_ne {prog : Program} {w : World} {A : Around} {E : Value → Shared → Prop} {s : Shared} {a b : Addr} {p q u v : Int} {as bs : List Addr} {Q : Value → Shared → Prop} (hne : ¬ (u = p ∧ v = q)) (ra : Reads s.heap (.ref a) (.tuple [.int u, .int v]) as) (rb : Reads s.heap (.ref b) (.tuple [.int p, .int q]) bs) (hu : A.units + 64 < cLine) (h : Q (.bool false) s) :
    wpAny (model prog w) A (compareOp .Eq (.ref a) (.ref b)) Q E s := by
  refine eq_dataH ra rb rfl rfl hu ?_
  have e : PyData.eqv (.tuple [.int u, .int v]) (.tuple [.int p, .int q]) = false := by
    simp only [PyData.eqv, PyData.eqvAll, Bool.and_true, Bool.and_eq_false_iff, beq_eq_false_iff_ne]
    by_cases h1 : u = p
    · exact .inr fun h2 => hne ⟨h1, h2⟩
    · exact .inl h1
  rw [e]
  exact h
theorem eq_none_tup {prog : Program} {w : World} {A : Around} {E : Value → Shared → Prop} {s : Shared} {b : Addr} {p q : Int} {bs : List Addr} {Q : Value → Shared → Prop} (rb : Reads s.heap (.ref b) (.tuple [.int p, .int q]) bs) (hu : A.units + 64 < cLine) (h : Q (.bool false) s) :
    wpAny (model prog w) A (compareOp .Eq .none (.ref b)) Q E s := eq_dataH Reads.none rb rfl rfl hu h
theorem tail_turn {p1 q1 p2 q2 P0 P1 P2 x1 x2 : Int} (tf : TailF p1 q1 p2 q2 P0 P1 P2 x1 x2) {z : Int × Int} (hz : z ∈ [(x1, P1), (x1, P2)]) :
    ∃ c, z = (x1, c) ∧ 0 < c ∧ c < 2 ^ 20 ∧ -(2 ^ 20) < q1 ∧ (∀ n, 0 ≤ n → n < c → (n * q1 - p1).fmod c = 0 → n = x1.fmod c) ∧ ∃ k : Nat, (k : Int) < c ∧ ((k : Int) * q1 - p1).fmod c = 0 := by
  have f1a := tf.P1a
  have f1b := tf.P1b
  have f2a := tf.P2a
  have f2b := tf.P2b
  have q := tf.q1a
  simp only [List.mem_cons, List.not_mem_nil, or_false] at hz
  rcases hz with rfl | rfl
  · exact ⟨P1, rfl, by omega, by omega, by omega, tf.les1, tf.ex1⟩
  · exact ⟨P2, rfl, by omega, by omega, by omega, tf.les2, tf.ex2⟩
/-- what rational_of gave is not the ratio: none, or a tuple that is another -/
def FoundNe (p q : Int) (v : Value) (a : Addr) (o : Obj) : Prop := v = .none ∨ (v = .ref a ∧ ∃ u t1 z t2, o = tup2 u t1 z t2 ∧ ¬ (u = p ∧ z = q))
theorem con_found {p q : Int} {w : World} {f : Addr} {d : Nat} {news : Led} {vs : List Value} {mean : ExcName → Option Value} {mg mb : Str → Option Value} {dp un : Nat} {gd : Option (List Code)} {cn : Str} {cs : Scope} {a : Addr} {ccd : Value} {cl : List (Str × Addr)} {outer : List Env} {A₀ : Around} {base h₀ : Heap} {L : Addr} {m : Str → Option Value} {s : Shared} {Q E : Value → Shared → Prop} {o1 : Addr} {ob : Obj}
    (C : Con w f d news vs fun r out => (∃ u v a t1 t2, r = .ref a ∧ out = [(a, tup2 u t1 v t2)] ∧ ¬ (u = p ∧ v = q)) ∨ (r = .none ∧ out = [])) (i1 : (o1, ob) ∈ news) (B : Below A₀ base outer h₀) (F : Fr h₀ L s.heap m) (X : (hd.heap_39 w.params).In h₀) (N : News h₀ L s.heap news) (T : Top vw (looseW vw []) mean mg mb h₀) (hk : cs.kind = .function) (hd : dp + d < recursionLimit) (hu : un + 8 * d < cLine)
    (ret : ∀ v a o h' tk', Fr h₀ L h' m → News h₀ L h' ((a, o) :: news) → FoundNe p q v a o → Q v { s with heap := h', toks := tk' }) :
    wpAny (model PySem.Challenge.rw_pf0033_01.row.prog w) (ktrTop dp un gd cn cs L a ccd cl outer) (call (.ref f) vs) Q E s := C _ _ _ _ _ _ _ _ _ _ _ _ _ _ _ _ _ _ _ _ B F X N T hk hd hu fun r out h' tk' F' N' _ o => by
  rcases o with ⟨u, v, a, t1, t2, rfl, rfl, hn⟩ | ⟨rfl, rfl⟩
  · exact ret _ a _ h' tk' F' N' (.inr ⟨rfl, u, t1, v, t2, rfl, hn⟩)
  · exact ret _ o1 ob h' tk' F' (news_sub N' (sub1 i1 fun _ h => h)) (.inl rfl)
theorem eq_found {prog : Program} {w : World} {A : Around} {E : Value → Shared → Prop} {s : Shared} {h₀ : Heap} {L : Addr} {led : Led} {a b : Addr} {o : Obj} {p q : Int} {v : Value} {bs : List Addr} {Q : Value → Shared → Prop} (hv : FoundNe p q v a o) (N : News h₀ L s.heap led) (hm : (a, o) ∈ led) (rb : Reads s.heap (.ref b) (.tuple [.int p, .int q]) bs) (hu : A.units + 64 < cLine) (h : Q (.bool false) s) :
    wpAny (model prog w) A (compareOp .Eq v (.ref b)) Q E s := by
  rcases hv with rfl | ⟨rfl, u, t1, z, t2, rfl, hn⟩
  · exact eq_none_tup rb hu h
  · exact eq_tup_ne hn (reads_tuple_at (News.get N hm) rfl rfl (.cons (.int _ _) (.cons (.int _ _) .nil))) rb hu h
theorem item_l {prog : Program} {w : World} {A : Around} {E : Value → Shared → Prop} {s : Shared} {h₀ : Heap} {L l : Addr} {news : Led} {vs : List Value} {n2 : Nat} {v : Value} {value slice : PySem.Expr} {k : Int} {u : Tok} {Q : Value → Shared → Prop} (N : News h₀ L s.heap news) (hm : (l, listOf vs.toArray n2) ∈ news) (h0 : 0 ≤ k) (hk2 : k < 2 ^ 63) (hv : vs[k.toNat]? = some v) (h : Q v s)
    (hs : subscripted slice false (.ref l) (.int k u) = operate [.ref l, .int k u] (getItem (.ref l) (.int k u))) : wpAny (model prog w) A (subscriptTail value slice (.ref l) (.int k u)) Q E s := by
  have hl : s.heap.IsList l vs.toArray := ⟨_, (N _ hm).1, rfl, _, rfl⟩
  exact tail_any hl.typeIs slot_list_getitem.lookup (wpAny_getItem_list hl h0 hk2 (x := v) (by simpa using hv) h) hs
theorem sum2 {prog : Program} {w : World} {A : Around} {E : Value → Shared → Prop} {s : Shared} {h₀ : Heap} {L : Addr} {m : Str → Option Value} {news : Led} {l : Addr} {x y : Int} {t u : Tok} {Q : Value → Shared → Prop} (hh : A.handled = none) (F : Fr h₀ L s.heap m) (N : News h₀ L s.heap news) (hm : (l, LCg.lst [Value.int x t, .int y u]) ∈ news)
    (h : ∀ h' tk t', Fr h₀ L h' m → News h₀ L h' news → Q (.int (x + y) t') { s with heap := h', toks := tk }) : wpAny (model prog w) A (call (.builtin "sum") [.ref l]) Q E s := by
  refine sumK (vs := [Value.int x t, .int y u]) (ns := [x, y]) hh F N ⟨_, (N _ hm).1, rfl, _, rfl⟩ (.cons _ _ (.cons _ _ .nil)) fun h' tk t' F' N' => ?_
  have := h h' tk t' F' N'
  rw [show [x, y].sum = x + y by simp]
  exact this
set_option maxRecDepth 100000 in
set_option maxHeartbeats 8000000 in
theorem law_tail (w : World) {name qual : Str} {params : Arguments} {body : List Stmt} {scope : Scope} {dV kV doc pm cdv ct oc cdv9 : Value} {an od : Option Addr} {osl : Array (Option Value)} (ho : (hd.heap_39 w.params).lookup 173 = some ⟨oc, od, .func (fnOf name qual params body scope dV kV doc pm an cdv ct), osl⟩)
    {mean : ExcName → Option Value} {mg mb : Str → Option Value} {h₀ : Heap} {L' fa : Addr} {m : Str → Option Value} {s : Shared} {Q : Flow → Shared → Prop} {E : Value → Shared → Prop} {ws : List Value} {ns : List Int} {oc1 oc2 : Obj}
    {oA oB bx lv lpr lrs : Addr} {p1 q1 p2 q2 P0 P1 P2 P3 x1 x2 : Int} {tA uA tB uB kp0 kp1 kp2 kp3 tx1 tx2 tW k5 : Tok} {n1 n2 n3 : Nat}
    (B : Below callerA h₀ [] h₀) (F : Fr h₀ L' s.heap m) (e1 : m (Str.ofString "whole") = some (.int (P0 * P1 * P2) tW)) (e2 : m (Str.ofString "rests") = some (.ref lrs)) (e3 : m (Str.ofString "other") = some (.ref oB)) (e4 : m (Str.ofString "box") = some (.ref bx)) (X : (hd.heap_39 w.params).In h₀)
    (N : News h₀ L' s.heap [(lrs, LCg.lst [Value.int x1 tx1, .int x2 tx2]), (lpr, listOf [Value.int P0 kp0, .int P1 kp1, .int P2 kp2, .int P3 kp3].toArray n1), (oB, tup2 p2 tB q2 uB), (oA, tup2 p1 tA q1 uA), (bx, listOf [Value.ref lv, .int (0 + 1 + 1 + 1 + 1 + 1) k5].toArray n2), (lv, listOf ws.toArray n3), (L' + 1 + 1, oc1), (L' + 1, oc2)])
    (d1 : oc1.data = .cell (some (.ref lpr))) (d2 : oc2.data = .cell (some (.ref oA))) (T : Top vw (looseW vw []) mean mg mb h₀) (hi : IntsAre ws ns) (hlen : ns.length ≤ 16)
    (l4 : @LT.lt Nat _ lpr lrs ∧ @LT.lt Nat _ oB lrs ∧ @LT.lt Nat _ oA lrs ∧ @LT.lt Nat _ bx lrs ∧ @LT.lt Nat _ lv lrs ∧ @LT.lt Nat _ (L' + 1 + 1) lrs ∧ @LT.lt Nat _ (L' + 1) lrs) (l3 : @LT.lt Nat _ oB lpr ∧ @LT.lt Nat _ oA lpr ∧ @LT.lt Nat _ bx lpr ∧ @LT.lt Nat _ lv lpr ∧ @LT.lt Nat _ (L' + 1 + 1) lpr ∧ @LT.lt Nat _ (L' + 1) lpr)
    (l2 : @LT.lt Nat _ oA oB ∧ @LT.lt Nat _ bx oB ∧ @LT.lt Nat _ lv oB ∧ @LT.lt Nat _ (L' + 1 + 1) oB ∧ @LT.lt Nat _ (L' + 1) oB) (l1 : @LT.lt Nat _ bx oA ∧ @LT.lt Nat _ lv oA ∧ @LT.lt Nat _ (L' + 1 + 1) oA ∧ @LT.lt Nat _ (L' + 1) oA) (l0 : @LT.lt Nat _ lv bx ∧ @LT.lt Nat _ (L' + 1 + 1) bx ∧ @LT.lt Nat _ (L' + 1) bx) (l00 : @LT.lt Nat _ (L' + 1 + 1) lv ∧ @LT.lt Nat _ (L' + 1) lv)
    (tf : TailF p1 q1 p2 q2 P0 P1 P2 x1 x2) (hret : ∀ h' tk' m', Fr h₀ L' h' m' → Q (.ret (.bool true)) { s with heap := h', toks := tk' }) :
    wpAny (model PySem.Challenge.rw_pf0033_01.row.prog w) (callerA.deeper (envOfC qual scope L' fa cdv9)) (execs (body.drop 9) (envOfC qual scope L' fa cdv9)) Q E s := by
  revert X
  k_fill
  intro X
  refine' exec_lit (P := fun qual body scope _ => wpAny (model PySem.Challenge.rw_pf0033_01.row.prog w) (callerA.deeper (envOfC qual scope L' fa cdv9)) (execs (body.drop 9) (envOfC qual scope L' fa cdv9)) Q E s) ho ?kk ?_
  (case kk => k_dflt k_is)
  clear ho
  (try dsimp only [List.drop])
  replace F := fr_say4 F e1 e2 e3 e4
  have f0a := tf.P0a
  have f0b := tf.P0b
  have f1a := tf.P1a
  have f1b := tf.P1b
  have f2a := tf.P2a
  have f2b := tf.P2b
  have w1b : P0 * P1 < 2 ^ 10 := by have := Int.mul_lt_mul_of_pos_left f1b (show 0 < P0 by omega); omega
  have w1a : 0 < P0 * P1 := Int.mul_pos (by omega) (by omega)
  have w2b : P0 * P1 * P2 < 2 ^ 15 := by have := Int.mul_lt_mul_of_pos_left f2b w1a; omega
  have w2a : 1 < P0 * P1 * P2 := by have := Int.mul_lt_mul_of_pos_left f2a w1a; omega
  have x1a := tf.x1a
  have x1b := tf.x1b
  have x2a := tf.x2a
  have x2b := tf.x2b
  (try k_fold)
  k_with_none
  k_with "my ord" => (first | assumption | exact ktn_ltOf (by assumption) | exact ktn_ltOf (And.right (by k_asm)) | exact ktn_ltOf (And.right (And.right (by k_asm))) | exact ktn_ltOf (And.right (And.right (And.right (by k_asm)))) | exact ktn_ltOf (And.right (And.right (And.right (And.right (by k_asm))))) | exact ktn_ltOf (And.right (And.right (And.right (And.right (And.right (by k_asm)))))))
  k_with "compareOp NotEq ref ref" => (k_here; (with_reducible show wpAny _ _ (compareOp CmpOp.NotEq (Value.ref _) (Value.ref _)) _ _ _); k_dflt ((refine ne_dataH (by ke_read) (by ke_read) (by ked_shaped) (by ked_shaped) (by ktr_units) ?_); ke_norm))
  k_with "compareOp Eq ref ref" => (k_here; (with_reducible show wpAny _ _ (compareOp CmpOp.Eq (Value.ref _) (Value.ref _)) _ _ _); k_dflt ((refine eq_dataH (by ke_read) (by ke_read) (by ked_shaped) (by ked_shaped) (by ktr_units) ?_); ke_norm))
  k_with "my suba" => (intro p hp; (repeat' first | exact hp | exact List.mem_append_left _ hp | exact List.mem_append_right _ hp | refine List.mem_cons_of_mem _ ?_))
  k_with "my sub" => (intro p hp; (repeat' first | exact hp | refine List.mem_cons_of_mem _ ?_))
  k_with "call ref" => (k_here; k_dflt (refine' conW_use (rats2_con w _ _ _ _ _ _ _ _ _ _ _ _ _ ?m1 tf.ra1 tf.ra2 w2a (by omega) x1a x2a) ?k1 ?k2 ?k3 ?k4 ?k5 ?kK ?kd ?ku ?_; (case k2 => k_asm); (case k4 => k_asm); (case m1 => k_mem); (case k1 => k_asm); (case k3 => k_asm); (case k5 => k_asm); (case kK => first | exact rfl | assumption); (case kd => first | exact room_ok hd (by decide) | ktr_room); (case ku => first | exact unit_ok hu (by decide) | ktr_units); intro r9 out9 h9 tk9 F9 N9 ho9; obtain ⟨lo, a1, a2, k1, k2, k3, k4, rfl, rfl⟩ := ho9; all_goals ((try dsimp only [List.nil_append, List.cons_append] at N9); (try k_sweep); (try dsimp only); (try k_fold))))
  k_with "call ref" => (k_here; k_dflt (refine' conW_use (rats0_con w _ _ _ _ _ ?m1) ?k1 ?k2 ?k3 ?k4 ?k5 ?kK ?kd ?ku ?_; (case k2 => k_asm); (case k4 => k_asm); (case m1 => k_mem); (case k1 => k_asm); (case k3 => k_asm); (case k5 => k_asm); (case kK => first | exact rfl | assumption); (case kd => first | exact room_ok hd (by decide) | ktr_room); (case ku => first | exact unit_ok hu (by decide) | ktr_units); intro r9 out9 h9 tk9 F9 N9 ho9; obtain ⟨lo, rfl, rfl⟩ := ho9; all_goals ((try dsimp only [List.nil_append, List.cons_append] at N9); (try k_sweep); (try dsimp only); (try k_fold))))
  k_with "call ref" => (k_here; k_dflt (refine' con_tup (tail_ch2 w _ _ _ _ _ _ _ tf ?m1 ?m2) ?k1 ?k2 ?k3 ?k4 ?k5 ?kK ?kd ?ku ?_; (case k2 => k_asm); (case k4 => k_asm); (case m1 => k_mem); (case m2 => k_mem); (case k1 => k_asm); (case k3 => k_asm); (case k5 => k_asm); (case kK => first | exact rfl | assumption); (case kd => first | exact room_ok hd (by decide) | ktr_room); (case ku => first | exact unit_ok hu (by decide) | ktr_units); intro ot tt ut h9 tk9 F9 N9 l9; (try k_lt l9); (try k_sweep); (try dsimp only); (try k_fold)))
  k_with "call ref" => (k_here; k_dflt (refine' con_int (con_mono (rest_con w _ oA p1 q1 cz tA uA _ ?m1 cz0 cz1 tf.p1a tf.p1b cz2 tf.q1b cze) (fun _ _ h => les_out czl h)) ?k1 ?k2 ?k3 ?k4 ?k5 ?kK ?kd ?ku ?_; (case k2 => k_asm); (case k4 => k_asm); (case m1 => k_mem); (case k1 => k_asm); (case k3 => k_asm); (case k5 => k_asm); (case kK => first | exact rfl | assumption); (case kd => first | exact room_ok hd (by decide) | ktr_room); (case ku => first | exact unit_ok hu (by decide) | ktr_units); intro tr9 h9 tk9 F9 N9; (try k_sweep); (try dsimp only); (try k_fold)))
  k_with "call ref" => (k_here; (with_unfolding_all show wpAny _ _ (call (Value.ref 77) _) _ _ _); k_dflt (refine' con_found (con_mono (rof_con w _ _ _ _ _ y0 w2a (by omega)) (fun _ _ h => tail_rat hrat h)) ?ki ?k1 ?k2 ?k3 ?k4 ?k5 ?kK ?kd ?ku ?_; (case k2 => k_asm); (case k4 => k_asm); (case ki => exact List.mem_cons_self); (case k1 => k_asm); (case k3 => k_asm); (case k5 => k_asm); (case kK => first | exact rfl | assumption); (case kd => ktr_room); (case ku => ktr_units); intro fv fa9 fo h9 tk9 F9 N9 hfv; (try k_sweep); (try dsimp only); (try k_fold)))
  k_with "call ref" => (k_here; k_dflt (refine' con_tup (con_mono (ch_con w _ _ _ _ _ ?m1 ?q1 hok3 hpr3) (fun _ _ h => ch_out hch h)) ?k1 ?k2 ?k3 ?k4 ?k5 ?kK ?kd ?ku ?_; (case k2 => k_asm); (case k4 => k_asm); (case m1 => k_mem); (case q1 => repeat' first | exact True.intro | (refine And.intro ⟨_, _, _, rfl, by k_mem⟩ ?_)); (case k1 => k_asm); (case k3 => k_asm); (case k5 => k_asm); (case kK => first | exact rfl | assumption); (case kd => first | exact room_ok hd (by decide) | ktr_room); (case ku => first | exact unit_ok hu (by decide) | ktr_units); intro ot tt ut h9 tk9 F9 N9 l9; (try k_lt l9); (try k_sweep); (try dsimp only); (try k_fold)))
  k_with "call ref" => (k_here; k_dflt (refine' con_val (con_mono (ch_con w _ _ _ _ _ ?m1 ?q1 hok4 hpr4) (fun _ _ h => ch_none hno h)) ?k1 ?k2 ?k3 ?k4 ?k5 ?kK ?kd ?ku ?_; (case k2 => k_asm); (case k4 => k_asm); (case m1 => k_mem); (case q1 => repeat' first | exact True.intro | (refine And.intro ⟨_, _, _, rfl, by k_mem⟩ ?_)); (case k1 => k_asm); (case k3 => k_asm); (case k5 => k_asm); (case kK => first | exact rfl | assumption); (case kd => first | exact room_ok hd (by decide) | ktr_room); (case ku => first | exact unit_ok hu (by decide) | ktr_units); intro h9 tk9 F9 N9; (try k_sweep); (try dsimp only); (try k_fold)))
  k_with "subscriptTail Name Constant ref int" => (k_here; k_dflt (refine' item_l ?zN ?zm ?z0 ?z1 ?zv ?_ ?zs; (case zN => k_asm); (case zm => k_mem); (case z0 => decide); (case z1 => decide); (case zv => exact rfl); (case zs => with_unfolding_all rfl)))
  k_with "call builtin:sum" => (k_here; k_dflt (refine sum2 (by rfl) (by k_asm) (by k_asm) (by k_mem) ?_; intro h' tk' t' F' N'; (try k_fold)))
  k_with "call ref" => (k_here; (with_unfolding_all show wpAny _ _ (call (Value.ref 151) _) _ _ _); k_dflt (
    have hlen9 := IntsAre.length (by assumption)
    refine' take_conU _ _ _ _ _ _ _ _ _ _ _ _ _ ?yl ?yU ?yb ?yi ?y1 ?y2 ?y3 ?y4 ?yn ?yB ?yF ?yX ?yN ?yT ?yk ?yd ?yu (fun v t t2 h' tk' b0 b1 F' N' => ?_)
    (case yF => k_asm)
    (case yN => k_asm)
    (case yU => k_updF)
    (case yl => k_mem)
    (case yb => (refine neN ?_; omega))
    (case yi => assumption)
    (case y1 => first | decide | omega)
    (case y2 => first | decide | omega)
    (case y3 => first | decide | omega)
    (case y4 => first | decide | omega)
    (case yn => (simp only [List.length_take] at *; omega))
    (case yB => k_asm)
    (case yX => k_asm)
    (case yT => k_asm)
    (case yk => first | exact rfl | assumption)
    (case yd => ktr_room)
    (case yu => ktr_units)
    (try dsimp only at N')
    clear hlen9
    obtain ⟨y, y0, y1, hch, hrat, hno⟩ := tf.sp v b0 b1
    have hok3 : PairsOk [(x1 + 1 + v, P0), (x1, P1), (x1, P2)] := tail_ok3 (by omega) (by omega) (by omega) (by omega) (by omega) (by omega) (by omega)
    have hpr3 : prodM [(x1 + 1 + v, P0), (x1, P1), (x1, P2)] < 2 ^ 28 := tail_pr3 f0a f0b f1a f1b f2a f2b
    have hok4 : PairsOk [(x1 + 1 + v, P0), (x1, P1), (x1, P2), (x1, P0)] := tail_ok4 (by omega) (by omega) (by omega) (by omega) (by omega) (by omega) (by omega)
    have hpr4 : prodM [(x1 + 1 + v, P0), (x1, P1), (x1, P2), (x1, P0)] < 2 ^ 28 := tail_pr4 f0a f0b f1a f1b f2a f2b
    (try k_sweep)
    (try dsimp only)
    (try k_fold)))
  k_with "compareOp NotEq int int" => (refine ne_eq rfl ?_)
  k_with "compareOp Eq" => (k_here; k_dflt (refine eq_found hfv (by k_asm) (by k_mem) (by ke_read) (by ktr_units) ?_))
  k_with "compareOp Eq none ref" => (k_here; (with_reducible show wpAny _ _ (compareOp CmpOp.Eq Value.none (Value.ref _)) _ _ _); k_dflt (refine eq_none_tup (by ke_read) (by ktr_units) ?_))
  k_with "compareOp Eq ref ref" => (k_here; (with_reducible show wpAny _ _ (compareOp CmpOp.Eq (Value.ref _) (Value.ref _)) _ _ _); k_dflt (refine eq_tup_ne hrne (by ke_read) (by ke_read) (by ktr_units) ?_))
  k_with "eval ListComp" => (k_here; k_dflt (refine pn_comp (by k_asm) (by rfl) (by with_unfolding_all rfl) (by decide) (by rfl) (by decide) (by rfl) (by rfl) (by decide) ?_))
  k_with "PnSrc" => (k_dflt (
    refine' pn_intro (ps := [(x1, P1), (x1, P2)]) (tail_ok2 x1a (by omega) (by omega) (by omega)) ?pf ?pn ?pm ?pin (fun z hz I oI C oC D m2 h2 tk2 t9 u9 E2 hC hx hx2 F2 N2 off ne => ?_) (fun D h2 tk2 F2 N2 l2 => ?_)
    (case pf => k_asm)
    (case pn => k_asm)
    (case pm => k_mem)
    (case pin => repeat' first | exact True.intro | (refine And.intro ⟨_, _, _, rfl, by k_mem⟩ ?_))
    rotate_left
    k_lt l2
    (try dsimp only)
    (try k_fold)
    rotate_left
    obtain ⟨cz, rfl, cz0, cz1, cz2, czl, cze⟩ := tail_turn tf hz
    clear hz
    (try k_fold)
    (try k_sweep)
    (try dsimp only)))
  k_with "exec If" => (k_here; k_dflt (refine if_cut (by k_asm) (by k_asm) (fun Q9 hq9 => ?_) (fun h9 tk9 F9 N9 => ?_); rotate_left; ((try k_sweep); (try dsimp only); (try k_fold)); rotate_left))
  k_with "NextOut" => (k_dflt (exact ⟨rfl, _, _, rfl, by assumption, news_sub (by assumption) (by k_extra "my sub")⟩))
  k_steps
  all_goals first
    | exact hq9 _ _ (by assumption) (news_sub (by assumption) (by k_extra "my sub"))
    | exact hret _ _ _ (by assumption)
    | assumption
    | exact news_sub (by assumption) (by k_extra "my sub")

theorem with_lit {K : Frag} {f : Addr} {name qual : Str} {params : Arguments} {body : List Stmt} {scope : Scope} {dV kV doc pm cdv ct oc : Value} {an od : Option Addr} {osl : Array (Option Value)} {G : Prop}
    (ho : K.lookup f = some ⟨oc, od, .func (fnOf name qual params body scope dV kV doc pm an cdv ct), osl⟩) (k : K.lookup f = some ⟨oc, od, .func (fnOf name qual params body scope dV kV doc pm an cdv ct), osl⟩ → G) : G := k ho
set_option maxRecDepth 100000 in
set_option maxHeartbeats 8000000 in
theorem law_exec (w : World) {name qual : Str} {params : Arguments} {body : List Stmt} {scope : Scope} {dV kV doc pm cdv ct oc cdv9 : Value} {an od : Option Addr} {osl : Array (Option Value)} (ho : (hd.heap_39 w.params).lookup 173 = some ⟨oc, od, .func (fnOf name qual params body scope dV kV doc pm an cdv ct), osl⟩)
    {mean : ExcName → Option Value} {mg mb : Str → Option Value} {h₀ : Heap} {L' fa sc : Addr} {m : Str → Option Value} {s : Shared} {Q : Flow → Shared → Prop} {E : Value → Shared → Prop} {vs : List Value} {ns : List Int} {oc1 oc2 : Obj} {v1 v2 : Option Value}
    (B : Below callerA h₀ [] h₀) (F : Fr h₀ L' s.heap m) (hsc : m (Str.ofString "script") = some (.ref sc)) (X : (hd.heap_39 w.params).In h₀) (N : News h₀ L' s.heap [(L' + 1 + 1, oc1), (L' + 1, oc2)]) (d1 : oc1.data = .cell v1) (d2 : oc2.data = .cell v2) (T : Top vw (looseW vw []) mean mg mb h₀) (hl : h₀.IsList sc vs.toArray) (hi : IntsAre vs ns) (hlen : ns.length ≤ 63)
    (hret : ∀ h' tk' m', Fr h₀ L' h' m' → Q (.ret (.bool true)) { s with heap := h', toks := tk' })
    (hPE : PassesOwn (model PySem.Challenge.rw_pf0033_01.row.prog w) (callerA.deeper (envOfC qual scope L' fa cdv9)) (envOfC qual scope L' fa cdv9) E) :
    wpAny (model PySem.Challenge.rw_pf0033_01.row.prog w) (callerA.deeper (envOfC qual scope L' fa cdv9)) (execs body (envOfC qual scope L' fa cdv9)) Q E s := by
  revert X
  k_fill
  intro X
  revert hPE
  refine' exec_lit (P := fun qual body scope _ => PassesOwn (model PySem.Challenge.rw_pf0033_01.row.prog w) (callerA.deeper (envOfC qual scope L' fa cdv9)) (envOfC qual scope L' fa cdv9) E → wpAny (model PySem.Challenge.rw_pf0033_01.row.prog w) (callerA.deeper (envOfC qual scope L' fa cdv9)) (execs body (envOfC qual scope L' fa cdv9)) Q E s) ho ?kk ?_
  (case kk => k_dflt k_is)
  clear ho
  intro hPE
  (try dsimp only)
  replace F := fr_say F hsc
  (try k_fold)
  k_with_none
  k_with "my ord" => (first | assumption | exact ktn_ltOf (by assumption) | exact ktn_ltOf (And.right (by k_asm)) | exact ktn_ltOf (And.right (And.right (by k_asm))) | exact ktn_ltOf (And.right (And.right (And.right (by k_asm)))) | exact ktn_ltOf (And.right (And.right (And.right (And.right (by k_asm))))) | exact ktn_ltOf (And.right (And.right (And.right (And.right (And.right (by k_asm)))))))
  k_with "compareOp NotEq ref ref" => (k_here; (with_reducible show wpAny _ _ (compareOp CmpOp.NotEq (Value.ref _) (Value.ref _)) _ _ _); k_dflt ((refine ne_dataH (by ke_read) (by ke_read) (by ked_shaped) (by ked_shaped) (by ktr_units) ?_); ke_norm))
  k_with "compareOp Eq ref ref" => (k_here; (with_reducible show wpAny _ _ (compareOp CmpOp.Eq (Value.ref _) (Value.ref _)) _ _ _); k_dflt ((refine eq_dataH (by ke_read) (by ke_read) (by ked_shaped) (by ked_shaped) (by ktr_units) ?_); ke_norm))
  k_with "my suba" => (intro p hp; (repeat' first | exact hp | exact List.mem_append_left _ hp | exact List.mem_append_right _ hp | refine List.mem_cons_of_mem _ ?_))
  k_with "my sub" => (intro p hp; (repeat' first | exact hp | refine List.mem_cons_of_mem _ ?_))
  k_with "call ref" => (k_here; k_dflt (refine' con_use (primes_con _ _) ?k1 ?k2 ?k3 ?k4 ?k5 ?kK ?kd ?ku ?_; (case k2 => k_asm); (case k4 => k_asm); (case k1 => k_asm); (case k3 => k_asm); (case k5 => k_asm); (case kK => first | exact rfl | assumption); (case kd => first | exact room_ok hd (by decide) | ktr_room); (case ku => first | exact unit_ok hu (by decide) | ktr_units); intro r9 out9 h9 tk9 F9 N9 l9 ho9; obtain ⟨lp, k0, k1, k2, k3, k4, k5, rfl, rfl⟩ := ho9; all_goals ((try dsimp only [List.nil_append, List.cons_append] at N9); (try (replace l9 := fun p hp => l9 p hp _ (List.mem_singleton_self _); k_lt l9)); (try k_sweep); (try dsimp only); (try k_fold))))
  k_with "call ref" => (k_here; k_dflt (refine' con_use (con_mono (ratio_con _ _ _ _ _ _ (by omega) (by omega) (by omega)) (fun _ _ h => rgA_out (by assumption) (by assumption) (by assumption) (by assumption) h)) ?k1 ?k2 ?k3 ?k4 ?k5 ?kK ?kd ?ku ?_; (case k2 => k_asm); (case k4 => k_asm); (case k1 => k_asm); (case k3 => k_asm); (case k5 => k_asm); (case kK => first | exact rfl | assumption); (case kd => first | exact room_ok hd (by decide) | ktr_room); (case ku => first | exact unit_ok hu (by decide) | ktr_units); intro r9 out9 h9 tk9 F9 N9 l9 ho9; obtain ⟨p1, q1, hg1, oA, tA, uA, rfl, rfl⟩ := ho9; all_goals ((try dsimp only [List.nil_append, List.cons_append] at N9); (try (replace l9 := fun p hp => l9 p hp _ (List.mem_singleton_self _); k_lt l9)); (try k_sweep); (try dsimp only); (try k_fold))))
  k_with "call ref" => (k_here; k_dflt (refine' con_use (con_mono (ratio_con _ _ _ _ _ _ (by omega) (by omega) (by omega)) (fun _ _ h => rgB_out ⟨_, _, hg1⟩ (by assumption) (by assumption) (by assumption) (by assumption) h)) ?k1 ?k2 ?k3 ?k4 ?k5 ?kK ?kd ?ku ?_; (case k2 => k_asm); (case k4 => k_asm); (case k1 => k_asm); (case k3 => k_asm); (case k5 => k_asm); (case kK => first | exact rfl | assumption); (case kd => first | exact room_ok hd (by decide) | ktr_room); (case ku => first | exact unit_ok hu (by decide) | ktr_units); intro r9 out9 h9 tk9 F9 N9 l9 ho9; obtain ⟨p2, q2, hg2, oB, tB, uB, rfl, rfl⟩ := ho9; all_goals ((try dsimp only [List.nil_append, List.cons_append] at N9); (try (replace l9 := fun p hp => l9 p hp _ (List.mem_singleton_self _); k_lt l9)); (try k_sweep); (try dsimp only); (try k_fold))))
  k_with "call ref" => (k_here; (with_unfolding_all show wpAny _ _ (call (Value.ref 151) _) _ _ _); k_dflt (
    have hlen9 := IntsAre.length (by assumption)
    refine' take_conU _ _ _ _ _ _ _ _ _ _ _ _ _ ?yl ?yU ?yb ?yi ?y1 ?y2 ?y3 ?y4 ?yn ?yB ?yF ?yX ?yN ?yT ?yk ?yd ?yu (fun v t t2 h' tk' b0 b1 F' N' => ?_)
    (case yF => k_asm)
    (case yN => k_asm)
    (case yU => k_updF)
    (case yl => k_mem)
    (case yb => (refine neN ?_; omega))
    (case yi => assumption)
    (case y1 => first | decide | omega)
    (case y2 => first | decide | omega)
    (case y3 => first | decide | omega)
    (case y4 => first | decide | omega)
    (case yn => (simp only [List.length_take] at *; omega))
    (case yB => k_asm)
    (case yX => k_asm)
    (case yT => k_asm)
    (case yk => first | exact rfl | assumption)
    (case yd => ktr_room)
    (case yu => ktr_units)
    (try dsimp only at N')
    clear hlen9
    (try k_sweep)
    (try dsimp only)
    (try k_fold)))
  k_with "call ref" => (k_here; k_dflt (refine' con_val (rb_con _ _ _ _ _ _ _ _ _ _ _ _ _ _ _ _ _ _ _ _ _ _ _ _ _ ?m1 ?m2 lf.p1a lf.p1b lf.q1a lf.q1b hrb1) ?k1 ?k2 ?k3 ?k4 ?k5 ?kK ?kd ?ku ?_; (case k2 => k_asm); (case k4 => k_asm); (case m1 => k_mem); (case m2 => k_mem); (case k1 => k_asm); (case k3 => k_asm); (case k5 => k_asm); (case kK => first | exact rfl | assumption); (case kd => first | exact room_ok hd (by decide) | ktr_room); (case ku => first | exact unit_ok hu (by decide) | ktr_units); intro h9 tk9 F9 N9; (try k_sweep); (try dsimp only); (try k_fold)))
  k_with "call ref" => (k_here; k_dflt (refine' con_val (rb_con _ _ _ _ _ _ _ _ _ _ _ _ _ _ _ _ _ _ _ _ _ _ _ _ _ ?m1 ?m2 lf.p2a lf.p2b lf.q2a lf.q2b hrb2) ?k1 ?k2 ?k3 ?k4 ?k5 ?kK ?kd ?ku ?_; (case k2 => k_asm); (case k4 => k_asm); (case m1 => k_mem); (case m2 => k_mem); (case k1 => k_asm); (case k3 => k_asm); (case k5 => k_asm); (case kK => first | exact rfl | assumption); (case kd => first | exact room_ok hd (by decide) | ktr_room); (case ku => first | exact unit_ok hu (by decide) | ktr_units); intro h9 tk9 F9 N9; (try k_sweep); (try dsimp only); (try k_fold)))
  k_with "call ref" => (k_here; k_dflt (refine' con_val (rk_con _ _ _ _ _ _ _ _ _ _ _ _ _ _ _ _ _ _ ?m1 ?m2 hrk0) ?k1 ?k2 ?k3 ?k4 ?k5 ?kK ?kd ?ku ?_; (case k2 => k_asm); (case k4 => k_asm); (case m1 => k_mem); (case m2 => k_mem); (case k1 => k_asm); (case k3 => k_asm); (case k5 => k_asm); (case kK => first | exact rfl | assumption); (case kd => first | exact room_ok hd (by decide) | ktr_room); (case ku => first | exact unit_ok hu (by decide) | ktr_units); intro h9 tk9 F9 N9; (try k_sweep); (try dsimp only); (try k_fold)))
  k_with "call ref" => (k_here; k_dflt (refine' con_val (rk_con _ _ _ _ _ _ _ _ _ _ _ _ _ _ _ _ _ _ ?m1 ?m2 hrk1) ?k1 ?k2 ?k3 ?k4 ?k5 ?kK ?kd ?ku ?_; (case k2 => k_asm); (case k4 => k_asm); (case m1 => k_mem); (case m2 => k_mem); (case k1 => k_asm); (case k3 => k_asm); (case k5 => k_asm); (case kK => first | exact rfl | assumption); (case kd => first | exact room_ok hd (by decide) | ktr_room); (case ku => first | exact unit_ok hu (by decide) | ktr_units); intro h9 tk9 F9 N9; (try k_sweep); (try dsimp only); (try k_fold)))
  k_with "call ref" => (k_here; k_dflt (refine' con_val (rk_con _ _ _ _ _ _ _ _ _ _ _ _ _ _ _ _ _ _ ?m1 ?m2 hrk2) ?k1 ?k2 ?k3 ?k4 ?k5 ?kK ?kd ?ku ?_; (case k2 => k_asm); (case k4 => k_asm); (case m1 => k_mem); (case m2 => k_mem); (case k1 => k_asm); (case k3 => k_asm); (case k5 => k_asm); (case kK => first | exact rfl | assumption); (case kd => first | exact room_ok hd (by decide) | ktr_room); (case ku => first | exact unit_ok hu (by decide) | ktr_units); intro h9 tk9 F9 N9; (try k_sweep); (try dsimp only); (try k_fold)))
  k_with "call ref" => (k_here; k_dflt (refine' con_val (rk_con _ _ _ _ _ _ _ _ _ _ _ _ _ _ _ _ _ _ ?m1 ?m2 hrk3) ?k1 ?k2 ?k3 ?k4 ?k5 ?kK ?kd ?ku ?_; (case k2 => k_asm); (case k4 => k_asm); (case m1 => k_mem); (case m2 => k_mem); (case k1 => k_asm); (case k3 => k_asm); (case k5 => k_asm); (case kK => first | exact rfl | assumption); (case kd => first | exact room_ok hd (by decide) | ktr_room); (case ku => first | exact unit_ok hu (by decide) | ktr_units); intro h9 tk9 F9 N9; (try k_sweep); (try dsimp only); (try k_fold)))
  k_with "NextOut" => (k_dflt (exact ⟨rfl, _, _, rfl, by assumption, news_sub (by assumption) (by k_extra "my sub")⟩))
  k_with "exec If" => (k_here; k_dflt (refine if_cut (by k_asm) (by k_asm) (fun Q9 hq9 => ?_) (fun h9 tk9 F9 N9 => ?_); rotate_left; ((try k_sweep); (try dsimp only); (try k_fold)); rotate_left))
  k_with "exec If" => (k_here; k_dflt (
    rename IntsAre _ (List.take 4 _) => hI9
    obtain ⟨P0, P1, P2, P3, kp0, kp1, kp2, kp3, hws, hP⟩ := primes_of b0 b1 hI9
    subst hws
    clear hI9
    have lf := law_facts hg1 hg2 hP
    have f0a := lf.P0a
    have f0b := lf.P0b
    have f1a := lf.P1a
    have f1b := lf.P1b
    have f2a := lf.P2a
    have f2b := lf.P2b
    have f3a := lf.P3a
    have f3b := lf.P3b
    have w1b : P0 * P1 < 2 ^ 10 := by have := Int.mul_lt_mul_of_pos_left f1b (show 0 < P0 by omega); omega
    have w1a : 0 < P0 * P1 := Int.mul_pos (by omega) (by omega)
    have w2a : 0 < P0 * P1 * P2 := Int.mul_pos w1a (by omega)
    have w2b : P0 * P1 * P2 < 2 ^ 15 := by have := Int.mul_lt_mul_of_pos_left f2b w1a; omega
    obtain ⟨r10, r11, r12, r13, x10, x11, x12, x13, hrb1⟩ := lf.rb1
    obtain ⟨r20, r21, r22, r23, x20, x21, x22, x23, hrb2⟩ := lf.rb2
    obtain ⟨ra0, rb0, ri0, rj0, hrk0⟩ := lf.rk0
    obtain ⟨ra1, rb1, ri1, rj1, hrk1⟩ := lf.rk1
    obtain ⟨ra2, rb2, ri2, rj2, hrk2⟩ := lf.rk2
    obtain ⟨ra3, rb3, ri3, rj3, hrk3⟩ := lf.rk3
    refine if_cut (by k_asm) (by k_asm) (fun Q9 hq9 => ?_) (fun h9 tk9 F9 N9 => ?_)
    rotate_left
    ((try k_sweep); (try dsimp only); (try k_fold))
    rotate_left))
  k_with "exec For Name Name cons nil" => (k_here; (with_reducible rename Fr _ _ _ _ => lF'); (with_unfolding_all refine' For_invVF (hE := hPE) lF' ?k1 ?k2 ?_; (case k1 => exact rfl); (case k2 => exact rfl)))
  k_with "pyIter ref" => (k_dflt (
    (with_reducible rename Fr _ _ _ _ => lF'); (with_reducible rename News _ _ _ _ => lN')
    refine' same_iter (by rfl) ?ym lF' lN' (fun v9 h9 tk9 own9 hv9 F9 N9 => ?yt) (fun u9 h9 tk9 F9 N9 => ?yf)
    (case ym => k_mem)
    case' yt => (
      clear lF' lN'
      simp only [List.mem_cons, List.not_mem_nil, or_false] at hv9
      rcases hv9 with rfl | rfl | rfl | rfl
      all_goals ((try simp only [List.cons_append, List.nil_append] at N9); (try k_fold)))
    case' yf => (clear lF' lN'; (try k_fold))))
  k_with "exec Assign cons ListComp" => (k_here; (with_reducible rename Fr _ _ _ _ => lF'); (with_unfolding_all refine' assign_comp_cell lF' ?k1 ?k2 ?k3 ?k4 ?k5 ?k6 ?k7 ?k8 ?k9 ?_; (case k1 => exact rfl); (case k2 => exact rfl); (case k3 => exact rfl); (case k4 => exact rfl); (case k5 => intro _ _; exact rfl); (case k6 => exact rfl); (case k7 => decide +kernel); (case k8 => exact rfl); (case k9 => exact rfl)))
  k_with "call ref" => (k_here; k_dflt (refine' con_int (con_mono (rest_con w _ o9 p9 q9 _ to9 uo9 _ ?m1 Tr.c0 Tr.c1 hpa hpb (by omega) hqb Tr.ex) (fun _ _ h => les_out Tr.les h)) ?k1 ?k2 ?k3 ?k4 ?k5 ?kK ?kd ?ku ?_; (case k2 => k_asm); (case k4 => k_asm); (case m1 => k_mem); (case k1 => k_asm); (case k3 => k_asm); (case k5 => k_asm); (case kK => first | exact rfl | assumption); (case kd => first | exact room_ok hd (by decide) | ktr_room); (case ku => first | exact unit_ok hu (by decide) | ktr_units); intro tr9 h9 tk9 F9 N9; (try k_sweep); (try dsimp only); (try k_fold)))
  k_with "call ref" => (k_here; k_dflt (refine' con_tup (con_mono (ch_con w _ _ _ _ _ ?m1 ?q1 T2.ok T2.pr) (fun _ _ h => ch_out T2.ch h)) ?k1 ?k2 ?k3 ?k4 ?k5 ?kK ?kd ?ku ?_; (case k2 => k_asm); (case k4 => k_asm); (case m1 => k_mem); (case q1 => repeat' first | exact True.intro | (refine And.intro ⟨_, _, _, rfl, by k_mem⟩ ?_)); (case k1 => k_asm); (case k3 => k_asm); (case k5 => k_asm); (case kK => first | exact rfl | assumption); (case kd => first | exact room_ok hd (by decide) | ktr_room); (case ku => first | exact unit_ok hu (by decide) | ktr_units); intro ot tt ut h9 tk9 F9 N9 l9; (try k_lt l9); (try k_sweep); (try dsimp only); (try k_fold)))
  k_with "eval ListComp" => (k_here; k_dflt (refine LCg.ListComp_U (F₀ := by k_asm) (by with_unfolding_all rfl) (by decide) (by rfl) (by decide) (by rfl) ?_))
  k_with "CompSrc" => (k_dflt (
    refine LCg.CompSrc.ledger (by rfl) (by k_asm) (by k_asm) (by k_mem) (by exact Nat.le_of_ble_eq_true rfl) ?_
    intro g9
    refine rest_ind (PrJ _ P0 P1 P2 r90 r91 r92) ⟨rfl, rfl⟩ (fun i ys nx hi hJ v I oI C oC D m2 h2 tk2 E2 hv hC hx F2 N2 off ne => ?zt) (fun ys nx hJ => ?zf)
    case' zt => (
      have hi2 : i < 3 := hi
      rcases (show i = 0 ∨ i = 1 ∨ i = 2 by omega) with rfl | rfl | rfl
      case' inl => (
        have hve : v = Value.int P0 kp0 := by simpa using hv.symm
        subst hve
        obtain ⟨rfl, rfl⟩ := hJ
        have Tr := hrb9.t0
        (try k_fold))
      case' inr.inl => (
        have hve : v = Value.int P1 kp1 := by simpa using hv.symm
        subst hve
        obtain ⟨a0, k0, u0, rfl, rfl⟩ := hJ
        have Tr := hrb9.t1
        (try k_fold))
      case' inr.inr => (
        have hve : v = Value.int P2 kp2 := by simpa using hv.symm
        subst hve
        obtain ⟨a0, k0, u0, a1, k1, u1, rfl, rfl⟩ := hJ
        have Tr := hrb9.t2
        (try k_fold)))
    case' zf => (
      obtain ⟨a0, k0, u0, a1, k1, u1, a2, k2, u2, rfl, rfl⟩ := hJ
      have T2 := hrb9.t2)))
  k_with "CellSrc" => (k_dflt (
    (with_reducible rename Fr _ _ _ _ => lF'); (with_reducible rename News _ _ _ _ => lN')
    refine' ⟨_, [Value.ref oA, Value.ref oB], _, RestJ x12 x22, rfl, lF', lN', ?cm, ?cz, rfl, (fun i v9 ys hv hJ I oI C oC c oc D h9 tk9 E9 hoc F9 N9 l9 i1 i2 i3 => ?ct), (fun ys hJ D h9 tk9 F9 N9 l9 => ?cf)⟩
    (case cm => k_mem)
    (case cz => exact Nat.le_of_ble_eq_true rfl)
    case' ct => (
      clear lF' lN'
      obtain ⟨o9, p9, q9, to9, uo9, r90, r91, r92, r93, x90, x91, x92, x93, rfl, hm9, ⟨hpa, hpb, hqa, hqb⟩, hrb9, hJ9⟩ := row_step (tA := tA) (uA := uA) (tB := tB) (uB := uB) lf hrb1 hrb2 hv hJ
      replace N9 := news_sub N9 (sub1 (two_mem hm9 (by k_mem) (by k_mem)) (fun _ h => h))
      (try dsimp only)
      clear hv hJ hm9 hg1 hg2 hP hrb1 hrb2 hrk0 hrk1 hrk2 hrk3 lf hPE
      (try k_fold))
    case' cf => (
      clear lF' lN'
      obtain ⟨tx1, tx2, rfl⟩ := hJ
      k_lt l9
      (try dsimp only)
      refine' with_lit (K := hd.heap_39 w.params) (f := 173) ?kz (fun hk9 => ?_)
      (case kz => k_dflt k_is)
      refine' law_tail w hk9 ?tB ?tF ?te1 ?te2 ?te3 ?te4 ?tX ?tN ?td1 ?td2 ?tT ?thi ?thl ?tl4 ?tl3 ?tl2 ?tl1 ?tl0 ?tl00 (tail_facts hg1 hg2 hP hrb1 hrb2) ?thr
      (case tF => exact F9)
      (case te1 => with_unfolding_all rfl)
      (case te2 => with_unfolding_all rfl)
      (case te3 => with_unfolding_all rfl)
      (case te4 => with_unfolding_all rfl)
      (case tN => refine news_sub N9 (sub1 (by k_mem) (sub1 (by k_mem) (sub1 (by k_mem) (sub1 (by k_mem) (sub1 (by k_mem) (sub1 (by k_mem) (sub1 (by k_mem) (sub1 (by k_mem) (fun _ h => nomatch h)))))))))) 
      (case tB => assumption)
      (case tX => assumption)
      (case td1 => assumption)
      (case td2 => assumption)
      (case tT => assumption)
      (case thi => assumption)
      (case thl => (rw [List.length_take]; exact Nat.min_le_left _ _))
      (case tl4 => (repeat' apply And.intro) <;> (with_reducible first | assumption | exact And.left (by assumption) | exact And.left (And.right (by assumption)) | exact And.right (by assumption) | exact And.left (And.right (And.right (by assumption))) | exact And.right (And.right (by assumption)) | exact And.left (And.right (And.right (And.right (by assumption)))) | exact And.right (And.right (And.right (by assumption))) | exact And.left (And.right (And.right (And.right (And.right (by assumption))))) | exact And.right (And.right (And.right (And.right (by assumption)))) | exact And.left (And.right (And.right (And.right (And.right (And.right (by assumption)))))) | exact And.right (And.right (And.right (And.right (And.right (by assumption))))) | exact And.left (And.right (And.right (And.right (And.right (And.right (And.right (by assumption))))))) | exact And.right (And.right (And.right (And.right (And.right (And.right (by assumption)))))) | exact And.left (And.right (And.right (And.right (And.right (And.right (And.right (And.right (by assumption)))))))) | exact And.right (And.right (And.right (And.right (And.right (And.right (And.right (by assumption))))))) | exact And.left (And.right (And.right (And.right (And.right (And.right (And.right (And.right (And.right (by assumption))))))))) | exact And.right (And.right (And.right (And.right (And.right (And.right (And.right (And.right (by assumption)))))))) | exact And.left (And.right (And.right (And.right (And.right (And.right (And.right (And.right (And.right (And.right (by assumption)))))))))) | exact And.right (And.right (And.right (And.right (And.right (And.right (And.right (And.right (And.right (by assumption))))))))) | exact And.left (And.right (And.right (And.right (And.right (And.right (And.right (And.right (And.right (And.right (And.right (by assumption))))))))))) | exact And.right (And.right (And.right (And.right (And.right (And.right (And.right (And.right (And.right (And.right (by assumption)))))))))) | exact And.left (And.right (And.right (And.right (And.right (And.right (And.right (And.right (And.right (And.right (And.right (And.right (by assumption)))))))))))) | exact And.right (And.right (And.right (And.right (And.right (And.right (And.right (And.right (And.right (And.right (And.right (by assumption))))))))))) | exact And.left (And.right (And.right (And.right (And.right (And.right (And.right (And.right (And.right (And.right (And.right (And.right (And.right (by assumption))))))))))))) | exact And.right (And.right (And.right (And.right (And.right (And.right (And.right (And.right (And.right (And.right (And.right (And.right (by assumption)))))))))))) | exact And.left (And.right (And.right (And.right (And.right (And.right (And.right (And.right (And.right (And.right (And.right (And.right (And.right (And.right (by assumption)))))))))))))) | exact And.right (And.right (And.right (And.right (And.right (And.right (And.right (And.right (And.right (And.right (And.right (And.right (And.right (by assumption))))))))))))) | exact And.left (And.right (And.right (And.right (And.right (And.right (And.right (And.right (And.right (And.right (And.right (And.right (And.right (And.right (And.right (by assumption))))))))))))))) | exact And.right (And.right (And.right (And.right (And.right (And.right (And.right (And.right (And.right (And.right (And.right (And.right (And.right (And.right (by assumption)))))))))))))) | exact And.left (And.right (And.right (And.right (And.right (And.right (And.right (And.right (And.right (And.right (And.right (And.right (And.right (And.right (And.right (And.right (by assumption)))))))))))))))) | exact And.right (And.right (And.right (And.right (And.right (And.right (And.right (And.right (And.right (And.right (And.right (And.right (And.right (And.right (And.right (by assumption))))))))))))))) | exact And.left (And.right (And.right (And.right (And.right (And.right (And.right (And.right (And.right (And.right (And.right (And.right (And.right (And.right (And.right (And.right (And.right (by assumption))))))))))))))))) | exact And.right (And.right (And.right (And.right (And.right (And.right (And.right (And.right (And.right (And.right (And.right (And.right (And.right (And.right (And.right (And.right (by assumption)))))))))))))))) | exact And.left (And.right (And.right (And.right (And.right (And.right (And.right (And.right (And.right (And.right (And.right (And.right (And.right (And.right (And.right (And.right (And.right (And.right (by assumption)))))))))))))))))) | exact And.right (And.right (And.right (And.right (And.right (And.right (And.right (And.right (And.right (And.right (And.right (And.right (And.right (And.right (And.right (And.right (And.right (by assumption)))))))))))))))))))
      (case tl3 => (repeat' apply And.intro) <;> (with_reducible first | assumption | exact And.left (by assumption) | exact And.left (And.right (by assumption)) | exact And.right (by assumption) | exact And.left (And.right (And.right (by assumption))) | exact And.right (And.right (by assumption)) | exact And.left (And.right (And.right (And.right (by assumption)))) | exact And.right (And.right (And.right (by assumption))) | exact And.left (And.right (And.right (And.right (And.right (by assumption))))) | exact And.right (And.right (And.right (And.right (by assumption)))) | exact And.left (And.right (And.right (And.right (And.right (And.right (by assumption)))))) | exact And.right (And.right (And.right (And.right (And.right (by assumption))))) | exact And.left (And.right (And.right (And.right (And.right (And.right (And.right (by assumption))))))) | exact And.right (And.right (And.right (And.right (And.right (And.right (by assumption)))))) | exact And.left (And.right (And.right (And.right (And.right (And.right (And.right (And.right (by assumption)))))))) | exact And.right (And.right (And.right (And.right (And.right (And.right (And.right (by assumption))))))) | exact And.left (And.right (And.right (And.right (And.right (And.right (And.right (And.right (And.right (by assumption))))))))) | exact And.right (And.right (And.right (And.right (And.right (And.right (And.right (And.right (by assumption)))))))) | exact And.left (And.right (And.right (And.right (And.right (And.right (And.right (And.right (And.right (And.right (by assumption)))))))))) | exact And.right (And.right (And.right (And.right (And.right (And.right (And.right (And.right (And.right (by assumption))))))))) | exact And.left (And.right (And.right (And.right (And.right (And.right (And.right (And.right (And.right (And.right (And.right (by assumption))))))))))) | exact And.right (And.right (And.right (And.right (And.right (And.right (And.right (And.right (And.right (And.right (by assumption)))))))))) | exact And.left (And.right (And.right (And.right (And.right (And.right (And.right (And.right (And.right (And.right (And.right (And.right (by assumption)))))))))))) | exact And.right (And.right (And.right (And.right (And.right (And.right (And.right (And.right (And.right (And.right (And.right (by assumption))))))))))) | exact And.left (And.right (And.right (And.right (And.right (And.right (And.right (And.right (And.right (And.right (And.right (And.right (And.right (by assumption))))))))))))) | exact And.right (And.right (And.right (And.right (And.right (And.right (And.right (And.right (And.right (And.right (And.right (And.right (by assumption)))))))))))) | exact And.left (And.right (And.right (And.right (And.right (And.right (And.right (And.right (And.right (And.right (And.right (And.right (And.right (And.right (by assumption)))))))))))))) | exact And.right (And.right (And.right (And.right (And.right (And.right (And.right (And.right (And.right (And.right (And.right (And.right (And.right (by assumption))))))))))))) | exact And.left (And.right (And.right (And.right (And.right (And.right (And.right (And.right (And.right (And.right (And.right (And.right (And.right (And.right (And.right (by assumption))))))))))))))) | exact And.right (And.right (And.right (And.right (And.right (And.right (And.right (And.right (And.right (And.right (And.right (And.right (And.right (And.right (by assumption)))))))))))))) | exact And.left (And.right (And.right (And.right (And.right (And.right (And.right (And.right (And.right (And.right (And.right (And.right (And.right (And.right (And.right (And.right (by assumption)))))))))))))))) | exact And.right (And.right (And.right (And.right (And.right (And.right (And.right (And.right (And.right (And.right (And.right (And.right (And.right (And.right (And.right (by assumption))))))))))))))) | exact And.left (And.right (And.right (And.right (And.right (And.right (And.right (And.right (And.right (And.right (And.right (And.right (And.right (And.right (And.right (And.right (And.right (by assumption))))))))))))))))) | exact And.right (And.right (And.right (And.right (And.right (And.right (And.right (And.right (And.right (And.right (And.right (And.right (And.right (And.right (And.right (And.right (by assumption)))))))))))))))) | exact And.left (And.right (And.right (And.right (And.right (And.right (And.right (And.right (And.right (And.right (And.right (And.right (And.right (And.right (And.right (And.right (And.right (And.right (by assumption)))))))))))))))))) | exact And.right (And.right (And.right (And.right (And.right (And.right (And.right (And.right (And.right (And.right (And.right (And.right (And.right (And.right (And.right (And.right (And.right (by assumption)))))))))))))))))))
      (case tl2 => (repeat' apply And.intro) <;> (with_reducible first | assumption | exact And.left (by assumption) | exact And.left (And.right (by assumption)) | exact And.right (by assumption) | exact And.left (And.right (And.right (by assumption))) | exact And.right (And.right (by assumption)) | exact And.left (And.right (And.right (And.right (by assumption)))) | exact And.right (And.right (And.right (by assumption))) | exact And.left (And.right (And.right (And.right (And.right (by assumption))))) | exact And.right (And.right (And.right (And.right (by assumption)))) | exact And.left (And.right (And.right (And.right (And.right (And.right (by assumption)))))) | exact And.right (And.right (And.right (And.right (And.right (by assumption))))) | exact And.left (And.right (And.right (And.right (And.right (And.right (And.right (by assumption))))))) | exact And.right (And.right (And.right (And.right (And.right (And.right (by assumption)))))) | exact And.left (And.right (And.right (And.right (And.right (And.right (And.right (And.right (by assumption)))))))) | exact And.right (And.right (And.right (And.right (And.right (And.right (And.right (by assumption))))))) | exact And.left (And.right (And.right (And.right (And.right (And.right (And.right (And.right (And.right (by assumption))))))))) | exact And.right (And.right (And.right (And.right (And.right (And.right (And.right (And.right (by assumption)))))))) | exact And.left (And.right (And.right (And.right (And.right (And.right (And.right (And.right (And.right (And.right (by assumption)))))))))) | exact And.right (And.right (And.right (And.right (And.right (And.right (And.right (And.right (And.right (by assumption))))))))) | exact And.left (And.right (And.right (And.right (And.right (And.right (And.right (And.right (And.right (And.right (And.right (by assumption))))))))))) | exact And.right (And.right (And.right (And.right (And.right (And.right (And.right (And.right (And.right (And.right (by assumption)))))))))) | exact And.left (And.right (And.right (And.right (And.right (And.right (And.right (And.right (And.right (And.right (And.right (And.right (by assumption)))))))))))) | exact And.right (And.right (And.right (And.right (And.right (And.right (And.right (And.right (And.right (And.right (And.right (by assumption))))))))))) | exact And.left (And.right (And.right (And.right (And.right (And.right (And.right (And.right (And.right (And.right (And.right (And.right (And.right (by assumption))))))))))))) | exact And.right (And.right (And.right (And.right (And.right (And.right (And.right (And.right (And.right (And.right (And.right (And.right (by assumption)))))))))))) | exact And.left (And.right (And.right (And.right (And.right (And.right (And.right (And.right (And.right (And.right (And.right (And.right (And.right (And.right (by assumption)))))))))))))) | exact And.right (And.right (And.right (And.right (And.right (And.right (And.right (And.right (And.right (And.right (And.right (And.right (And.right (by assumption))))))))))))) | exact And.left (And.right (And.right (And.right (And.right (And.right (And.right (And.right (And.right (And.right (And.right (And.right (And.right (And.right (And.right (by assumption))))))))))))))) | exact And.right (And.right (And.right (And.right (And.right (And.right (And.right (And.right (And.right (And.right (And.right (And.right (And.right (And.right (by assumption)))))))))))))) | exact And.left (And.right (And.right (And.right (And.right (And.right (And.right (And.right (And.right (And.right (And.right (And.right (And.right (And.right (And.right (And.right (by assumption)))))))))))))))) | exact And.right (And.right (And.right (And.right (And.right (And.right (And.right (And.right (And.right (And.right (And.right (And.right (And.right (And.right (And.right (by assumption))))))))))))))) | exact And.left (And.right (And.right (And.right (And.right (And.right (And.right (And.right (And.right (And.right (And.right (And.right (And.right (And.right (And.right (And.right (And.right (by assumption))))))))))))))))) | exact And.right (And.right (And.right (And.right (And.right (And.right (And.right (And.right (And.right (And.right (And.right (And.right (And.right (And.right (And.right (And.right (by assumption)))))))))))))))) | exact And.left (And.right (And.right (And.right (And.right (And.right (And.right (And.right (And.right (And.right (And.right (And.right (And.right (And.right (And.right (And.right (And.right (And.right (by assumption)))))))))))))))))) | exact And.right (And.right (And.right (And.right (And.right (And.right (And.right (And.right (And.right (And.right (And.right (And.right (And.right (And.right (And.right (And.right (And.right (by assumption)))))))))))))))))))
      (case tl1 => (repeat' apply And.intro) <;> (with_reducible first | assumption | exact And.left (by assumption) | exact And.left (And.right (by assumption)) | exact And.right (by assumption) | exact And.left (And.right (And.right (by assumption))) | exact And.right (And.right (by assumption)) | exact And.left (And.right (And.right (And.right (by assumption)))) | exact And.right (And.right (And.right (by assumption))) | exact And.left (And.right (And.right (And.right (And.right (by assumption))))) | exact And.right (And.right (And.right (And.right (by assumption)))) | exact And.left (And.right (And.right (And.right (And.right (And.right (by assumption)))))) | exact And.right (And.right (And.right (And.right (And.right (by assumption))))) | exact And.left (And.right (And.right (And.right (And.right (And.right (And.right (by assumption))))))) | exact And.right (And.right (And.right (And.right (And.right (And.right (by assumption)))))) | exact And.left (And.right (And.right (And.right (And.right (And.right (And.right (And.right (by assumption)))))))) | exact And.right (And.right (And.right (And.right (And.right (And.right (And.right (by assumption))))))) | exact And.left (And.right (And.right (And.right (And.right (And.right (And.right (And.right (And.right (by assumption))))))))) | exact And.right (And.right (And.right (And.right (And.right (And.right (And.right (And.right (by assumption)))))))) | exact And.left (And.right (And.right (And.right (And.right (And.right (And.right (And.right (And.right (And.right (by assumption)))))))))) | exact And.right (And.right (And.right (And.right (And.right (And.right (And.right (And.right (And.right (by assumption))))))))) | exact And.left (And.right (And.right (And.right (And.right (And.right (And.right (And.right (And.right (And.right (And.right (by assumption))))))))))) | exact And.right (And.right (And.right (And.right (And.right (And.right (And.right (And.right (And.right (And.right (by assumption)))))))))) | exact And.left (And.right (And.right (And.right (And.right (And.right (And.right (And.right (And.right (And.right (And.right (And.right (by assumption)))))))))))) | exact And.right (And.right (And.right (And.right (And.right (And.right (And.right (And.right (And.right (And.right (And.right (by assumption))))))))))) | exact And.left (And.right (And.right (And.right (And.right (And.right (And.right (And.right (And.right (And.right (And.right (And.right (And.right (by assumption))))))))))))) | exact And.right (And.right (And.right (And.right (And.right (And.right (And.right (And.right (And.right (And.right (And.right (And.right (by assumption)))))))))))) | exact And.left (And.right (And.right (And.right (And.right (And.right (And.right (And.right (And.right (And.right (And.right (And.right (And.right (And.right (by assumption)))))))))))))) | exact And.right (And.right (And.right (And.right (And.right (And.right (And.right (And.right (And.right (And.right (And.right (And.right (And.right (by assumption))))))))))))) | exact And.left (And.right (And.right (And.right (And.right (And.right (And.right (And.right (And.right (And.right (And.right (And.right (And.right (And.right (And.right (by assumption))))))))))))))) | exact And.right (And.right (And.right (And.right (And.right (And.right (And.right (And.right (And.right (And.right (And.right (And.right (And.right (And.right (by assumption)))))))))))))) | exact And.left (And.right (And.right (And.right (And.right (And.right (And.right (And.right (And.right (And.right (And.right (And.right (And.right (And.right (And.right (And.right (by assumption)))))))))))))))) | exact And.right (And.right (And.right (And.right (And.right (And.right (And.right (And.right (And.right (And.right (And.right (And.right (And.right (And.right (And.right (by assumption))))))))))))))) | exact And.left (And.right (And.right (And.right (And.right (And.right (And.right (And.right (And.right (And.right (And.right (And.right (And.right (And.right (And.right (And.right (And.right (by assumption))))))))))))))))) | exact And.right (And.right (And.right (And.right (And.right (And.right (And.right (And.right (And.right (And.right (And.right (And.right (And.right (And.right (And.right (And.right (by assumption)))))))))))))))) | exact And.left (And.right (And.right (And.right (And.right (And.right (And.right (And.right (And.right (And.right (And.right (And.right (And.right (And.right (And.right (And.right (And.right (And.right (by assumption)))))))))))))))))) | exact And.right (And.right (And.right (And.right (And.right (And.right (And.right (And.right (And.right (And.right (And.right (And.right (And.right (And.right (And.right (And.right (And.right (by assumption)))))))))))))))))))
      (case tl0 => (repeat' apply And.intro) <;> (with_reducible first | assumption | exact And.left (by assumption) | exact And.left (And.right (by assumption)) | exact And.right (by assumption) | exact And.left (And.right (And.right (by assumption))) | exact And.right (And.right (by assumption)) | exact And.left (And.right (And.right (And.right (by assumption)))) | exact And.right (And.right (And.right (by assumption))) | exact And.left (And.right (And.right (And.right (And.right (by assumption))))) | exact And.right (And.right (And.right (And.right (by assumption)))) | exact And.left (And.right (And.right (And.right (And.right (And.right (by assumption)))))) | exact And.right (And.right (And.right (And.right (And.right (by assumption))))) | exact And.left (And.right (And.right (And.right (And.right (And.right (And.right (by assumption))))))) | exact And.right (And.right (And.right (And.right (And.right (And.right (by assumption)))))) | exact And.left (And.right (And.right (And.right (And.right (And.right (And.right (And.right (by assumption)))))))) | exact And.right (And.right (And.right (And.right (And.right (And.right (And.right (by assumption))))))) | exact And.left (And.right (And.right (And.right (And.right (And.right (And.right (And.right (And.right (by assumption))))))))) | exact And.right (And.right (And.right (And.right (And.right (And.right (And.right (And.right (by assumption)))))))) | exact And.left (And.right (And.right (And.right (And.right (And.right (And.right (And.right (And.right (And.right (by assumption)))))))))) | exact And.right (And.right (And.right (And.right (And.right (And.right (And.right (And.right (And.right (by assumption))))))))) | exact And.left (And.right (And.right (And.right (And.right (And.right (And.right (And.right (And.right (And.right (And.right (by assumption))))))))))) | exact And.right (And.right (And.right (And.right (And.right (And.right (And.right (And.right (And.right (And.right (by assumption)))))))))) | exact And.left (And.right (And.right (And.right (And.right (And.right (And.right (And.right (And.right (And.right (And.right (And.right (by assumption)))))))))))) | exact And.right (And.right (And.right (And.right (And.right (And.right (And.right (And.right (And.right (And.right (And.right (by assumption))))))))))) | exact And.left (And.right (And.right (And.right (And.right (And.right (And.right (And.right (And.right (And.right (And.right (And.right (And.right (by assumption))))))))))))) | exact And.right (And.right (And.right (And.right (And.right (And.right (And.right (And.right (And.right (And.right (And.right (And.right (by assumption)))))))))))) | exact And.left (And.right (And.right (And.right (And.right (And.right (And.right (And.right (And.right (And.right (And.right (And.right (And.right (And.right (by assumption)))))))))))))) | exact And.right (And.right (And.right (And.right (And.right (And.right (And.right (And.right (And.right (And.right (And.right (And.right (And.right (by assumption))))))))))))) | exact And.left (And.right (And.right (And.right (And.right (And.right (And.right (And.right (And.right (And.right (And.right (And.right (And.right (And.right (And.right (by assumption))))))))))))))) | exact And.right (And.right (And.right (And.right (And.right (And.right (And.right (And.right (And.right (And.right (And.right (And.right (And.right (And.right (by assumption)))))))))))))) | exact And.left (And.right (And.right (And.right (And.right (And.right (And.right (And.right (And.right (And.right (And.right (And.right (And.right (And.right (And.right (And.right (by assumption)))))))))))))))) | exact And.right (And.right (And.right (And.right (And.right (And.right (And.right (And.right (And.right (And.right (And.right (And.right (And.right (And.right (And.right (by assumption))))))))))))))) | exact And.left (And.right (And.right (And.right (And.right (And.right (And.right (And.right (And.right (And.right (And.right (And.right (And.right (And.right (And.right (And.right (And.right (by assumption))))))))))))))))) | exact And.right (And.right (And.right (And.right (And.right (And.right (And.right (And.right (And.right (And.right (And.right (And.right (And.right (And.right (And.right (And.right (by assumption)))))))))))))))) | exact And.left (And.right (And.right (And.right (And.right (And.right (And.right (And.right (And.right (And.right (And.right (And.right (And.right (And.right (And.right (And.right (And.right (And.right (by assumption)))))))))))))))))) | exact And.right (And.right (And.right (And.right (And.right (And.right (And.right (And.right (And.right (And.right (And.right (And.right (And.right (And.right (And.right (And.right (And.right (by assumption)))))))))))))))))))
      (case tl00 => (repeat' apply And.intro) <;> (with_reducible first | assumption | exact And.left (by assumption) | exact And.left (And.right (by assumption)) | exact And.right (by assumption) | exact And.left (And.right (And.right (by assumption))) | exact And.right (And.right (by assumption)) | exact And.left (And.right (And.right (And.right (by assumption)))) | exact And.right (And.right (And.right (by assumption))) | exact And.left (And.right (And.right (And.right (And.right (by assumption))))) | exact And.right (And.right (And.right (And.right (by assumption)))) | exact And.left (And.right (And.right (And.right (And.right (And.right (by assumption)))))) | exact And.right (And.right (And.right (And.right (And.right (by assumption))))) | exact And.left (And.right (And.right (And.right (And.right (And.right (And.right (by assumption))))))) | exact And.right (And.right (And.right (And.right (And.right (And.right (by assumption)))))) | exact And.left (And.right (And.right (And.right (And.right (And.right (And.right (And.right (by assumption)))))))) | exact And.right (And.right (And.right (And.right (And.right (And.right (And.right (by assumption))))))) | exact And.left (And.right (And.right (And.right (And.right (And.right (And.right (And.right (And.right (by assumption))))))))) | exact And.right (And.right (And.right (And.right (And.right (And.right (And.right (And.right (by assumption)))))))) | exact And.left (And.right (And.right (And.right (And.right (And.right (And.right (And.right (And.right (And.right (by assumption)))))))))) | exact And.right (And.right (And.right (And.right (And.right (And.right (And.right (And.right (And.right (by assumption))))))))) | exact And.left (And.right (And.right (And.right (And.right (And.right (And.right (And.right (And.right (And.right (And.right (by assumption))))))))))) | exact And.right (And.right (And.right (And.right (And.right (And.right (And.right (And.right (And.right (And.right (by assumption)))))))))) | exact And.left (And.right (And.right (And.right (And.right (And.right (And.right (And.right (And.right (And.right (And.right (And.right (by assumption)))))))))))) | exact And.right (And.right (And.right (And.right (And.right (And.right (And.right (And.right (And.right (And.right (And.right (by assumption))))))))))) | exact And.left (And.right (And.right (And.right (And.right (And.right (And.right (And.right (And.right (And.right (And.right (And.right (And.right (by assumption))))))))))))) | exact And.right (And.right (And.right (And.right (And.right (And.right (And.right (And.right (And.right (And.right (And.right (And.right (by assumption)))))))))))) | exact And.left (And.right (And.right (And.right (And.right (And.right (And.right (And.right (And.right (And.right (And.right (And.right (And.right (And.right (by assumption)))))))))))))) | exact And.right (And.right (And.right (And.right (And.right (And.right (And.right (And.right (And.right (And.right (And.right (And.right (And.right (by assumption))))))))))))) | exact And.left (And.right (And.right (And.right (And.right (And.right (And.right (And.right (And.right (And.right (And.right (And.right (And.right (And.right (And.right (by assumption))))))))))))))) | exact And.right (And.right (And.right (And.right (And.right (And.right (And.right (And.right (And.right (And.right (And.right (And.right (And.right (And.right (by assumption)))))))))))))) | exact And.left (And.right (And.right (And.right (And.right (And.right (And.right (And.right (And.right (And.right (And.right (And.right (And.right (And.right (And.right (And.right (by assumption)))))))))))))))) | exact And.right (And.right (And.right (And.right (And.right (And.right (And.right (And.right (And.right (And.right (And.right (And.right (And.right (And.right (And.right (by assumption))))))))))))))) | exact And.left (And.right (And.right (And.right (And.right (And.right (And.right (And.right (And.right (And.right (And.right (And.right (And.right (And.right (And.right (And.right (And.right (by assumption))))))))))))))))) | exact And.right (And.right (And.right (And.right (And.right (And.right (And.right (And.right (And.right (And.right (And.right (And.right (And.right (And.right (And.right (And.right (by assumption)))))))))))))))) | exact And.left (And.right (And.right (And.right (And.right (And.right (And.right (And.right (And.right (And.right (And.right (And.right (And.right (And.right (And.right (And.right (And.right (And.right (by assumption)))))))))))))))))) | exact And.right (And.right (And.right (And.right (And.right (And.right (And.right (And.right (And.right (And.right (And.right (And.right (And.right (And.right (And.right (And.right (And.right (by assumption)))))))))))))))))))
      (case thr => exact fun h' tk' m' F' => hret h' tk' m' F'))))
  k_steps
  all_goals first
    | exact hq9 _ _ (by assumption) (news_sub (by assumption) (by k_extra "my sub"))
    | assumption
    | exact hJ9 _
    | exact news_sub (by assumption) (by k_extra "my sub")
    | have hx := (by assumption : @LT.lt Nat _ I _ ∧ @LT.lt Nat _ C _ ∧ @LT.lt Nat _ D _ ∧ _); refine LCg.CompEnd.intro (by assumption) (by assumption) _ (sub1 (by k_dflt k_mem) (sub1 (by k_dflt k_mem) (sub1 (by k_dflt k_mem) (sub1 (by k_dflt k_mem) (by k_extra "my sub"))))) (off3_cons hx.1 hx.2.1 hx.2.2.1 off) (.inr ⟨_, by k_dflt k_mem, rfl, _, rfl⟩) ⟨a0, k0, u0, a1, k1, u1, _, _, _, rfl, rfl⟩
    | have hx := (by assumption : @LT.lt Nat _ I _ ∧ @LT.lt Nat _ C _ ∧ @LT.lt Nat _ D _ ∧ _); refine LCg.CompEnd.intro (by assumption) (by assumption) _ (sub1 (by k_dflt k_mem) (sub1 (by k_dflt k_mem) (sub1 (by k_dflt k_mem) (sub1 (by k_dflt k_mem) (by k_extra "my sub"))))) (off3_cons hx.1 hx.2.1 hx.2.2.1 off) (.inr ⟨_, by k_dflt k_mem, rfl, _, rfl⟩) ⟨a0, k0, u0, _, _, _, rfl, rfl⟩
    | have hx := (by assumption : @LT.lt Nat _ I _ ∧ @LT.lt Nat _ C _ ∧ @LT.lt Nat _ D _ ∧ _); refine LCg.CompEnd.intro (by assumption) (by assumption) _ (sub1 (by k_dflt k_mem) (sub1 (by k_dflt k_mem) (sub1 (by k_dflt k_mem) (sub1 (by k_dflt k_mem) (by k_extra "my sub"))))) (off3_cons hx.1 hx.2.1 hx.2.2.1 off) (.inr ⟨_, by k_dflt k_mem, rfl, _, rfl⟩) ⟨_, _, _, rfl, rfl⟩
    | skip
end Mine
set_option maxRecDepth 100000 in
set_option maxHeartbeats 8000000 in
theorem PySem.Challenge.cw_pf0033_01_holds : PySem.Challenge.rw_pf0033_01.Holds := by
  exact Mine.hd (by
    k_go0
    (try k_fold)
    refine' Mine.law_exec _ ?xo ?xB ?xF ?xs ?xX ?xN ?xd1 ?xd2 ?xT ?xl ?xi ?xlen ?xr ?xp
    (case xF => assumption)
    (case xB => assumption)
    (case xX => assumption)
    (case xN => assumption)
    (case xd1 => assumption)
    (case xd2 => assumption)
    (case xT => assumption)
    (case xl => assumption)
    (case xi => assumption)
    (case xo => k_dflt k_is)
    (case xs => with_unfolding_all rfl)
    (case xlen => omega)
    (case xr => intro h' tk' m' F'; k_steps)
    (case xp => passes_own))
