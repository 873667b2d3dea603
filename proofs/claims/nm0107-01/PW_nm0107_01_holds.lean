import PyProof.Rows.All
import Wide.All
import OpenK.AllK
import Wide.FinOn
import Lean
import PySem.Challenge.RW_nm0107_01
set_option Elab.async false
set_option linter.all false
set_option maxRecDepth 100000
set_option maxHeartbeats 8000000
-- the head
section
open PySem PySem.W PyProof.Rows
namespace Mine
open_top hd for PySem.Challenge.rw_nm0107_01
end Mine
end
-- Base1
section
open PySem PySem.W PyProof.Rows
namespace Mine
def Con (w : World) (base : Heap) (k : Nat) (f : Addr) (args : List Value) (news : List (Addr × Obj)) (Post : Value → List (Addr × Obj) → Prop) : Prop :=
  ∀ (mean : ExcName → Option Value) (mg mb : Str → Option Value) (dp un : Nat) (gd : Option (List Code)) (cn : Str) (cs : Scope) (a : Addr) (ccd : Value) (cl : List (Str × Addr)) (outer : List Env) (A₀ : Around) (h₀ : Heap) (L : Addr) (m : Str → Option Value) (s : Shared) (Q E : Value → Shared → Prop),
    Below A₀ base outer h₀ → Fr h₀ L s.heap m → (Mine.hd.heap_39 w.params).In h₀ → News h₀ L s.heap news → Top Mine.hd.view_39 (looseW Mine.hd.view_39 []) mean mg mb h₀ → cs.kind = .function → dp + k < recursionLimit → un + 8 * k < cLine →
    (∀ r tl h' tk', Fr h₀ L h' m → News h₀ L h' (tl ++ news) → (∀ q ∈ news, ∀ p ∈ tl, q.1 < p.1) → Post r tl → Q r { s with heap := h', toks := tk' }) →
    wpAny (model PySem.Challenge.rw_nm0107_01.row.prog w) (ktrTop dp un gd cn cs L a ccd cl outer) (call (.ref f) args) Q E s

theorem con_use {w : World} {base : Heap} {k : Nat} {f : Addr} {args : List Value} {news : List (Addr × Obj)} {Post : Value → List (Addr × Obj) → Prop}
    (C : Con w base k f args news Post)
    {mean : ExcName → Option Value} {mg mb : Str → Option Value} {dp un : Nat} {gd : Option (List Code)} {cn : Str} {cs : Scope} {a : Addr} {ccd : Value} {cl : List (Str × Addr)} {outer : List Env} {A₀ : Around} {h₀ : Heap} {L : Addr} {m : Str → Option Value} {s : Shared} {Q E : Value → Shared → Prop}
    (B : Below A₀ base outer h₀) (F : Fr h₀ L s.heap m) (X : (Mine.hd.heap_39 w.params).In h₀) (N : News h₀ L s.heap news) (T : Top Mine.hd.view_39 (looseW Mine.hd.view_39 []) mean mg mb h₀) (hk : cs.kind = .function) (hd : dp + k < recursionLimit) (hu : un + 8 * k < cLine)
    (ret : ∀ r tl h' tk', Fr h₀ L h' m → News h₀ L h' (tl ++ news) → (∀ q ∈ news, ∀ p ∈ tl, q.1 < p.1) → Post r tl → Q r { s with heap := h', toks := tk' }) :
    wpAny (model PySem.Challenge.rw_nm0107_01.row.prog w) (ktrTop dp un gd cn cs L a ccd cl outer) (call (.ref f) args) Q E s :=
  C _ _ _ _ _ _ _ _ _ _ _ _ _ _ _ _ _ _ _ B F X N T hk hd hu ret
end Mine
end
-- CDef
section
open PySem PySem.W PyProof.Rows
namespace Mine
def optV : Option Int → Tok → Value
  | none, _ => .none
  | some i, t => .int i t
abbrev tupO (vs : List Value) : Obj := { cls := .type "tuple", data := .seq vs.toArray }
def digit (ns : List Int) (i : Int) : Int := if i < ns.length then ns.getD i.toNat 0 else 7 * i + 3
def fits (lo : Int) (mo : Option Int) (wl : Int) (wm : Option Int) : Bool :=
  decide (wl ≤ lo) && (match wm with
    | none => true
    | some b => match mo with
      | none => false
      | some a => decide (a ≤ b))
def Valid (lo : Int) (mo : Option Int) : Prop := ∀ b, mo = some b → lo ≤ b

def LimPost (r : Value) (tl : List (Addr × Obj)) : Prop := ∃ D lo mo t1 t2, r = .ref D ∧ tl = [(D, tupO [.int lo t1, optV mo t2])] ∧ Valid lo mo
end Mine
end
-- CDef2
section
open PySem PySem.W PyProof.Rows
namespace Mine
theorem lim_end {h₀ : Heap} {L : Addr} {m : Str → Option Value} {s : Shared} {news rest : List (Addr × Obj)} {Q : Value → Shared → Prop} {D : Addr} {lo : Int} {mo : Option Int} {t1 t2 : Tok} {h' : Heap} {tk' : Tok}
    (hret : ∀ r tl h' tk', Fr h₀ L h' m → News h₀ L h' (tl ++ news) → (∀ q ∈ news, ∀ p ∈ tl, q.1 < p.1) → LimPost r tl → Q r { s with heap := h', toks := tk' })
    (F : Fr h₀ L h' m) (N : News h₀ L h' ((D, tupO [.int lo t1, optV mo t2]) :: rest)) (hsub : ∀ p ∈ news, p ∈ rest) (hlt : AllLt D news) (hv : Valid lo mo) :
    Q (.ref D) { s with heap := h', toks := tk' } := by
  refine hret _ [(D, tupO [.int lo t1, optV mo t2])] _ _ F ?_ ?_ ⟨_, _, _, _, _, rfl, rfl, hv⟩
  · intro p hp
    rcases List.mem_append.mp hp with hp | hp
    · exact N p (List.mem_cons.mpr (.inl (List.mem_singleton.mp hp)))
    · exact N p (List.mem_cons.mpr (.inr (hsub p hp)))
  · intro q hq p hp
    rw [List.mem_singleton.mp hp]; exact ktn_ltOf hlt q hq
theorem lim_end_none {h₀ : Heap} {L : Addr} {m : Str → Option Value} {s : Shared} {news rest : List (Addr × Obj)} {Q : Value → Shared → Prop} {D : Addr} {lo : Int} {t1 : Tok} {h' : Heap} {tk' : Tok}
    (hret : ∀ r tl h' tk', Fr h₀ L h' m → News h₀ L h' (tl ++ news) → (∀ q ∈ news, ∀ p ∈ tl, q.1 < p.1) → LimPost r tl → Q r { s with heap := h', toks := tk' })
    (F : Fr h₀ L h' m) (N : News h₀ L h' ((D, { cls := .type "tuple", data := .seq #[.int lo t1, .none] }) :: rest)) (hsub : ∀ p ∈ news, p ∈ rest) (hlt : AllLt D news) :
    Q (.ref D) { s with heap := h', toks := tk' } := lim_end (mo := none) (t2 := t1) hret F N hsub hlt (fun _ e => nomatch e)
theorem lim_end_some {h₀ : Heap} {L : Addr} {m : Str → Option Value} {s : Shared} {news rest : List (Addr × Obj)} {Q : Value → Shared → Prop} {D : Addr} {lo b : Int} {t1 t2 : Tok} {h' : Heap} {tk' : Tok}
    (hret : ∀ r tl h' tk', Fr h₀ L h' m → News h₀ L h' (tl ++ news) → (∀ q ∈ news, ∀ p ∈ tl, q.1 < p.1) → LimPost r tl → Q r { s with heap := h', toks := tk' })
    (F : Fr h₀ L h' m) (N : News h₀ L h' ((D, { cls := .type "tuple", data := .seq #[.int lo t1, .int b t2] }) :: rest)) (hsub : ∀ p ∈ news, p ∈ rest) (hlt : AllLt D news) (hv : lo ≤ b) :
    Q (.ref D) { s with heap := h', toks := tk' } := lim_end (mo := some b) (t2 := t2) hret F N hsub hlt (fun _ e => by cases e; exact hv)
theorem unrEnd1 {h₀ : Heap} {L I : Addr} {it : Obj} {rest : (Str → Option Value) → List (Addr × Obj) → Prop} {s₁ : Shared} {h' : Heap} {tk : Nat} {m' : Str → Option Value} {e : Addr × Obj} {r : List (Addr × Obj)}
    (F : Fr h₀ L h' m') (N : News h₀ L h' (e :: (I, it) :: r)) (o1 : e.1 ≠ I) (o2 : ∀ p ∈ r, p.1 ≠ I) (k : rest m' (e :: r)) : UnrEnd h₀ L s₁ I it rest { s₁ with heap := h', toks := tk } :=
  UnrEnd.intro F N (e :: r) (fun p hp => by
    rcases List.mem_cons.mp hp with rfl | hp
    · exact .tail _ (.head _)
    · rcases List.mem_cons.mp hp with rfl | hp
      · exact .head _
      · exact .tail _ (.tail _ hp)) (fun p hp => by
    rcases List.mem_cons.mp hp with rfl | hp
    · exact o1
    · exact o2 p hp) k
theorem ne_all {d : Addr} {l : List (Addr × Obj)} (h : AllLt d l) : ∀ p ∈ l, p.1 ≠ d := fun p hp => Nat.ne_of_lt (ktn_ltOf h p hp)
structure Lm where
  a : Addr
  lo : Int
  mo : Option Int
  t1 : Tok
  t2 : Tok
abbrev Lm.ent (x : Lm) : Addr × Obj := (x.a, tupO [.int x.lo x.t1, optV x.mo x.t2])
def Lm.ok (x : Lm) : Prop := Valid x.lo x.mo
def LimsPost (r : Value) (tl : List (Addr × Obj)) : Prop := ∃ (D : Addr) (x0 x1 x2 x3 x4 : Lm) (n : Nat), r = .ref D ∧
  tl = [x4.ent, x3.ent, x2.ent, x1.ent, (D, W.listOf #[.ref x0.a, .ref x1.a, .ref x2.a, .ref x3.a, .ref x4.a] n), x0.ent] ∧ x0.ok ∧ x1.ok ∧ x2.ok ∧ x3.ok ∧ x4.ok
theorem ord_of {a : Addr} {o : Obj} {tl news : List (Addr × Obj)} (h : AllLt a news) (k : ∀ q ∈ news, ∀ p ∈ tl, q.1 < p.1) : ∀ q ∈ news, ∀ p ∈ (a, o) :: tl, q.1 < p.1 := by
  intro q hq p hp
  rcases List.mem_cons.mp hp with rfl | hp
  · exact ktn_ltOf h q hq
  · exact k q hq p hp
theorem ord_nil {news : List (Addr × Obj)} : ∀ q ∈ news, ∀ p ∈ ([] : List (Addr × Obj)), q.1 < p.1 := fun _ _ _ h => nomatch h
theorem news_junk {h₀ h : Heap} {L : Addr} {tl news : List (Addr × Obj)} {junk : Addr × Obj} (N : News h₀ L h (tl ++ (junk :: news))) : News h₀ L h (tl ++ news) :=
  fun p hp => N p ((List.mem_append.mp hp).elim (fun h => List.mem_append.mpr (.inl h)) fun h => List.mem_append.mpr (.inr (.tail _ h)))
theorem lims_end {h₀ : Heap} {L : Addr} {m : Str → Option Value} {s : Shared} {news : List (Addr × Obj)} {Q : Value → Shared → Prop} {D a0 a1 a2 a3 a4 : Addr} {l0 l1 l2 l3 l4 : Int} {m0 m1 m2 m3 m4 : Option Int} {t0 t1 t2 t3 t4 u0 u1 u2 u3 u4 : Tok} {h' : Heap} {tk' : Tok} {n : Nat} {junk : Addr × Obj}
    (hret : ∀ r tl h' tk', Fr h₀ L h' m → News h₀ L h' (tl ++ news) → (∀ q ∈ news, ∀ p ∈ tl, q.1 < p.1) → LimsPost r tl → Q r { s with heap := h', toks := tk' })
    (F : Fr h₀ L h' m) (N : News h₀ L h' ((a4, tupO [.int l4 t4, optV m4 u4]) :: (a3, tupO [.int l3 t3, optV m3 u3]) :: (a2, tupO [.int l2 t2, optV m2 u2]) :: (a1, tupO [.int l1 t1, optV m1 u1]) ::
      (D, W.listOf #[.ref a0, .ref a1, .ref a2, .ref a3, .ref a4] n) :: (a0, tupO [.int l0 t0, optV m0 u0]) :: junk :: news))
    (h4 : AllLt a4 news) (h3 : AllLt a3 news) (h2 : AllLt a2 news) (h1 : AllLt a1 news) (hD : AllLt D news) (h0 : AllLt a0 news)
    (v0 : Valid l0 m0) (v1 : Valid l1 m1) (v2 : Valid l2 m2) (v3 : Valid l3 m3) (v4 : Valid l4 m4) :
    Q (.ref D) { s with heap := h', toks := tk' } := by
  refine hret _ [(a4, tupO [.int l4 t4, optV m4 u4]), (a3, tupO [.int l3 t3, optV m3 u3]), (a2, tupO [.int l2 t2, optV m2 u2]), (a1, tupO [.int l1 t1, optV m1 u1]), (D, W.listOf #[.ref a0, .ref a1, .ref a2, .ref a3, .ref a4] n), (a0, tupO [.int l0 t0, optV m0 u0])] _ _ F (news_junk (junk := junk) N)
    (ord_of h4 (ord_of h3 (ord_of h2 (ord_of h1 (ord_of hD (ord_of h0 ord_nil))))))
    ⟨D, ⟨a0, l0, m0, t0, u0⟩, ⟨a1, l1, m1, t1, u1⟩, ⟨a2, l2, m2, t2, u2⟩, ⟨a3, l3, m3, t3, u3⟩, ⟨a4, l4, m4, t4, u4⟩, n, rfl, rfl, v0, v1, v2, v3, v4⟩
end Mine
end
-- CDigit
section
open PySem PySem.W PyProof.Rows
namespace Mine
theorem con_digit (w : World) (base : Heap) (l : Addr) (vs : List Value) (ns : List Int) (i : Int) (tk : Tok) (news : List (Addr × Obj))
    (hl : base.IsList l vs.toArray) (hi : IntsAre vs ns) (hn : ns.length ≤ 63) (h0 : 0 ≤ i) (h1 : i ≤ 100) :
    Con w base 1 35 [.ref l, .int i tk] news (fun r tl => tl = [] ∧ ∃ t, r = .int (digit ns i) t) := by
  unfold Con
  k_fill
  w_top off
  k_with_none
  intro mean mg mb dp un gd cn cs a ccd cl outer A₀ h₀ L m s Q E B F X N T hk hd hu hret
  refine wpAny_call ?_
  k_dflt cell_enter
  k_steps
  all_goals (refine hret _ [] _ _ (by k_asm) (by k_asm) (fun _ _ _ h => nomatch h) ⟨rfl, ?_⟩)
  all_goals first | (rw [digit, if_pos (by omega)]; exact ⟨_, rfl⟩) | (rw [digit, if_neg (by omega)]; exact ⟨_, rfl⟩) | skip
  all_goals trace_state
end Mine
end
-- CFits
section
open PySem PySem.W PyProof.Rows
namespace Mine
theorem con_fits (w : World) (base : Heap) (lo : Int) (mo : Option Int) (wl : Int) (wm : Option Int) (t1 t2 t3 t4 : Tok) (news : List (Addr × Obj)) :
    Con w base 1 21 [.int lo t1, optV mo t2, .int wl t3, optV wm t4] news (fun r tl => tl = [] ∧ r = .bool (fits lo mo wl wm)) := by
  unfold Con
  k_fill
  w_top off
  k_with_none
  intro mean mg mb dp un gd cn cs a ccd cl outer A₀ h₀ L m s Q E B F X N T hk hd hu hret
  cases mo <;> cases wm <;> simp only [optV]
  all_goals refine wpAny_call ?_
  all_goals (k_dflt cell_enter)
  all_goals k_steps
  all_goals (refine hret _ [] _ _ (by k_asm) (by k_asm) (fun _ _ _ h => nomatch h) ⟨rfl, ?_⟩; congr 1; simp_all [fits] <;> omega)
end Mine
end
-- CNear
section
open PySem PySem.W PyProof.Rows
namespace Mine

theorem con_near (w : World) (base : Heap) (x : Addr) (lo : Int) (mo : Option Int) (n : Int) (t1 t2 t3 : Tok) (news : List (Addr × Obj))
    (hx : (x, tupO [.int lo t1, optV mo t2]) ∈ news) (hv : Valid lo mo) :
    Con w base 1 42 [.ref x, .int n t3] news LimPost := by
  unfold Con
  k_fill
  w_top off
  k_with_none
  intro mean mg mb dp un gd cn cs a ccd cl outer A₀ h₀ L m s Q E B F X N T hk hd hu hret
  cases mo <;> simp only [optV] at hx
  all_goals refine wpAny_call ?_
  all_goals (k_dflt cell_enter)
  all_goals k_steps
  all_goals first
    | (refine lim_end_none hret (by assumption) (by assumption) ?_ ?_)
    | (refine lim_end_some hret (by assumption) (by assumption) ?_ ?_ ?_)
    | (exfalso; have hvv := hv _ rfl; omega)
  all_goals first
    | (intro p hp; first | exact hp | exact List.mem_cons.mpr (.inr hp) | exact List.mem_cons.mpr (.inr (List.mem_cons.mpr (.inr hp))))
    | assumption
    | exact allLt_of (by assumption)
    | exact And.right (by assumption)
    | (have hvv := hv _ rfl
       have hfl := fmod_lo n (n := _ - lo + 1) (by omega)
       have hfh := fmod_hi n (n := _ - lo + 1) (by omega)
       omega)
    | (simp only [AllLt] at *; omega)
    | skip
end Mine
end
-- CGrown
section
open PySem PySem.W PyProof.Rows
namespace Mine
theorem grown_le {lo b n : Int} (h : lo ≤ b) : lo + n.fmod (b - lo + 1) ≤ b := by
  have := fmod_hi n (n := b - lo + 1) (by omega)
  omega
theorem con_grown (w : World) (base : Heap) (x : Addr) (lo : Int) (mo : Option Int) (n : Int) (t1 t2 t3 : Tok) (news : List (Addr × Obj))
    (hx : (x, tupO [.int lo t1, optV mo t2]) ∈ news) (hv : Valid lo mo) :
    Con w base 1 56 [.ref x, .int n t3] news LimPost := by
  unfold Con
  k_fill
  w_top off
  k_with_none
  intro mean mg mb dp un gd cn cs a ccd cl outer A₀ h₀ L m s Q E B F X N T hk hd hu hret
  cases mo <;> simp only [optV] at hx
  all_goals refine wpAny_call ?_
  all_goals (k_dflt cell_enter)
  all_goals k_steps
  all_goals first
    | (refine lim_end_none hret (by assumption) (by assumption) ?_ ?_)
    | (refine lim_end_some hret (by assumption) (by assumption) ?_ ?_ ?_)
    | (exfalso; have hvv := hv _ rfl; omega)
  all_goals first
    | (intro p hp; first | exact hp | exact List.mem_cons.mpr (.inr hp) | exact List.mem_cons.mpr (.inr (List.mem_cons.mpr (.inr hp))))
    | assumption
    | exact allLt_of (by assumption)
    | exact And.right (by assumption)
    | exact grown_le (hv _ rfl)
    | (simp only [AllLt] at *; omega)
    | skip
end Mine
end
-- CLimits
section
open PySem PySem.W PyProof.Rows
namespace Mine
local macro_rules | `(tactic| walk_at "call ref") => `(tactic| k_extra "mycall")
local macro_rules | `(tactic| walk_at "allLt") => `(tactic| first | assumption | exact allLt_of (by assumption) | exact And.right (by assumption) | exact And.right (And.right (by assumption)) | exact And.right (And.right (And.right (by assumption))) | exact And.right (And.right (And.right (And.right (by assumption)))) | exact And.right (And.right (And.right (And.right (And.right (by assumption))))) | exact And.right (And.right (And.right (And.right (And.right (And.right (by assumption)))))) | exact And.right (And.right (And.right (And.right (And.right (And.right (And.right (by assumption))))))) | exact And.right (And.right (And.right (And.right (And.right (And.right (And.right (And.right (by assumption)))))))) | exact And.right (And.right (And.right (And.right (And.right (And.right (And.right (And.right (And.right (by assumption))))))))) | exact And.right (And.right (And.right (And.right (And.right (And.right (And.right (And.right (And.right (And.right (by assumption)))))))))) | exact And.right (And.right (And.right (And.right (And.right (And.right (And.right (And.right (And.right (And.right (And.right (by assumption))))))))))) | exact And.right (And.right (And.right (And.right (And.right (And.right (And.right (And.right (And.right (And.right (And.right (And.right (by assumption)))))))))))))
local macro_rules | `(tactic| walk_at "keepAll") => `(tactic| first | (refine ne_all ?_; walk_at "allLt") | (refine' List.forall_mem_cons.mpr ⟨?a, ?b⟩; (case a => k_ne); (case b => walk_at "keepAll")))
local macro_rules | `(tactic| walk_at "UnrEnd") => `(tactic| (refine unrEnd1 (by assumption) (by assumption) (by k_ne) (by walk_at "keepAll") ?_))
local macro_rules | `(tactic| walk_at "conprem") => `(tactic| (
  (case k1 => k_asm); (case k2 => k_asm); (case k3 => k_asm); (case k4 => k_asm); (case k5 => k_asm); (case kK => first | exact rfl | assumption); (case kd => ktr_room); (case ku => ktr_units)))
theorem valid_first {a b : Int} : Valid a (some (a + Int.fdiv (if b < 0 then -b else b) 3)) := by
  intro c e
  cases e
  have : 0 ≤ Int.fdiv (if b < 0 then -b else b) 3 := Int.fdiv_nonneg (by split <;> omega) (by omega)
  omega
theorem con_limits (w : World) (base : Heap) (l : Addr) (vs : List Value) (ns : List Int) (news : List (Addr × Obj))
    (hl : base.IsList l vs.toArray) (hi : IntsAre vs ns) (hn : ns.length ≤ 63) :
    Con w base 2 49 [.ref l] news LimsPost := by
  unfold Con
  k_fill
  w_top off
  k_with_none
  intro mean mg mb dp un gd cn cs a ccd cl outer A₀ h₀ L m s Q E B F X N T hk hd hu hret
  k_with_none
  k_with "mycall" => (refine' con_use (con_digit _ _ _ _ _ _ _ _ hl hi hn (by omega) (by omega)) ?k1 ?k2 ?k3 ?k4 ?k5 ?kK ?kd ?ku ?_
                      walk_at "conprem"
                      intro r9 tl9 h9 tk9 F9 N9 hl9 ho9
                      obtain ⟨ht9, t9, e9⟩ := ho9
                      subst ht9 e9
                      clear hl9
                      (try simp only [List.nil_append, List.cons_append, List.append_nil, List.append_assoc] at N9)
                      (try dsimp only)
                      (try k_fold))
  k_with "mycall" => (refine' con_use (con_near _ _ _ _ none _ _ 0 _ _ ?mm ?vv) ?k1 ?k2 ?k3 ?k4 ?k5 ?kK ?kd ?ku ?_
                      walk_at "conprem"
                      case mm => k_mem
                      case vv => exact fun b e => nomatch e
                      intro r9 tl9 h9 tk9 F9 N9 hl9 ho9
                      obtain ⟨D9, lo9, mo9, t9, u9, e9, ht9, hv9⟩ := ho9
                      subst ht9 e9
                      have l9 := allLt_of (fun p hp => hl9 p hp _ (.head _))
                      clear hl9
                      (try simp only [AllLt, and_true] at l9)
                      (try simp only [List.nil_append, List.cons_append, List.append_nil, List.append_assoc] at N9)
                      (try dsimp only)
                      (try k_fold))
  k_with "mycall" => (refine' con_use (con_near _ _ _ _ (some _) _ _ _ _ _ ?mm ?vv) ?k1 ?k2 ?k3 ?k4 ?k5 ?kK ?kd ?ku ?_
                      walk_at "conprem"
                      case mm => k_mem
                      case vv => exact valid_first
                      intro r9 tl9 h9 tk9 F9 N9 hl9 ho9
                      obtain ⟨D9, lo9, mo9, t9, u9, e9, ht9, hv9⟩ := ho9
                      subst ht9 e9
                      have l9 := allLt_of (fun p hp => hl9 p hp _ (.head _))
                      clear hl9
                      (try simp only [AllLt, and_true] at l9)
                      (try simp only [List.nil_append, List.cons_append, List.append_nil, List.append_assoc] at N9)
                      (try dsimp only)
                      (try k_fold))
  k_with "mycall" => (refine' con_use (con_near _ _ _ _ _ _ _ _ _ _ ?mm ?vv) ?k1 ?k2 ?k3 ?k4 ?k5 ?kK ?kd ?ku ?_
                      walk_at "conprem"
                      case mm => k_mem
                      case vv => assumption
                      intro r9 tl9 h9 tk9 F9 N9 hl9 ho9
                      obtain ⟨D9, lo9, mo9, t9, u9, e9, ht9, hv9⟩ := ho9
                      subst ht9 e9
                      have l9 := allLt_of (fun p hp => hl9 p hp _ (.head _))
                      clear hl9
                      (try simp only [AllLt, and_true] at l9)
                      (try simp only [List.nil_append, List.cons_append, List.append_nil, List.append_assoc] at N9)
                      (try dsimp only)
                      (try k_fold))
  refine wpAny_call ?_
  k_dflt cell_enter
  k_steps
  all_goals first
    | (refine lims_end hret (by assumption) (by assumption) ?_ ?_ ?_ ?_ ?_ ?_ ?_ ?_ ?_ ?_ ?_)
    | (refine lims_end (m0 := none) (u0 := 0) hret (by assumption) (by assumption) ?_ ?_ ?_ ?_ ?_ ?_ ?_ ?_ ?_ ?_ ?_)
    | (refine lims_end (m0 := some _) hret (by assumption) (by assumption) ?_ ?_ ?_ ?_ ?_ ?_ ?_ ?_ ?_ ?_ ?_)
  all_goals first | assumption | exact valid_first | exact (fun b e => nomatch e) | walk_at "allLt" | trace_state
end Mine
end
-- CComp
section
open PySem PySem.W PySem.Calls PyProof.Rows
namespace Mine
def ConN (w : World) (base : Heap) (k : Nat) (f : Addr) (args : List Value) (news : List (Addr × Obj)) (Post : Value → List (Addr × Obj) → Prop) : Prop :=
  ∀ (mean : ExcName → Option Value) (mg mb : Str → Option Value) (dp un : Nat) (gd : Option (List Code)) (cn : Str) (cs : Scope) (a : Addr) (ccd : Value) (cl : List (Str × Addr)) (outer : List Env) (A₀ : Around) (h₀ : Heap) (L : Addr) (m : Str → Option Value) (s : Shared) (Q E : Value → Shared → Prop),
    Below A₀ base outer h₀ → Fr h₀ L s.heap m → (Mine.hd.heap_39 w.params).In h₀ → News h₀ L s.heap news → Top Mine.hd.view_39 (looseW Mine.hd.view_39 []) mean mg mb h₀ → cs.kind = .function → dp + k < recursionLimit → un + 8 * k < cLine →
    (∀ r tl h' tk', Fr h₀ L h' m → News h₀ L h' (tl ++ news) → (∀ q ∈ news, ∀ p ∈ tl, q.1 ≠ p.1) → Post r tl → Q r { s with heap := h', toks := tk' }) →
    wpAny (model PySem.Challenge.rw_nm0107_01.row.prog w) (ktrTop dp un gd cn cs L a ccd cl outer) (call (.ref f) args) Q E s

theorem con_useN {w : World} {base : Heap} {k : Nat} {f : Addr} {args : List Value} {news : List (Addr × Obj)} {Post : Value → List (Addr × Obj) → Prop}
    (C : ConN w base k f args news Post)
    {mean : ExcName → Option Value} {mg mb : Str → Option Value} {dp un : Nat} {gd : Option (List Code)} {cn : Str} {cs : Scope} {a : Addr} {ccd : Value} {cl : List (Str × Addr)} {outer : List Env} {A₀ : Around} {h₀ : Heap} {L : Addr} {m : Str → Option Value} {s : Shared} {Q E : Value → Shared → Prop}
    (B : Below A₀ base outer h₀) (F : Fr h₀ L s.heap m) (X : (Mine.hd.heap_39 w.params).In h₀) (N : News h₀ L s.heap news) (T : Top Mine.hd.view_39 (looseW Mine.hd.view_39 []) mean mg mb h₀) (hk : cs.kind = .function) (hd : dp + k < recursionLimit) (hu : un + 8 * k < cLine)
    (ret : ∀ r tl h' tk', Fr h₀ L h' m → News h₀ L h' (tl ++ news) → (∀ q ∈ news, ∀ p ∈ tl, q.1 ≠ p.1) → Post r tl → Q r { s with heap := h', toks := tk' }) :
    wpAny (model PySem.Challenge.rw_nm0107_01.row.prog w) (ktrTop dp un gd cn cs L a ccd cl outer) (call (.ref f) args) Q E s :=
  C _ _ _ _ _ _ _ _ _ _ _ _ _ _ _ _ _ _ _ B F X N T hk hd hu ret
section
variable {prog : Program} {w : World} {A : Around} {h₀ : Heap} {L : Addr} {m : Str → Option Value} {env : Env} {ct elt : Expr} {x : Str} {scope : Scope} {cl : List (Str × Addr)} {s : Shared} {S : List (Addr × Obj) → Prop} {P : Nat → Value → Prop} {Fin : List Value → List (Addr × Obj) → Prop} {news : List (Addr × Obj)}
def Elt (news : List (Addr × Obj)) (Y : Value → Prop) (y : Value) (news' : List (Addr × Obj)) : Prop := news' = news ∧ Y y
theorem comp_rest {n : Nat} (Y : Nat → Value → Prop)
    (turn : ∀ i v I oI C oC D m₂ ys h tk (E' : Value → Shared → Prop), i < n → P i v → LCg.NsObj oC m₂ → m₂ x = some v → Fr h₀ L h m → News h₀ L h ((I, oI) :: (C, oC) :: (D, LCg.lst ys) :: news) → LCg.Off3 I C D news → ((@Ne Nat I C) ∧ (@Ne Nat I D) ∧ (@Ne Nat C D)) →
      wpAny (model prog w) A (eval elt (compEnvC scope cl C env)) (LCg.CompEnd h₀ L m { s with heap := h, toks := tk } I oI C oC D (LCg.lst ys) S (fun y news' => Elt news (Y i) y news')) E' { s with heap := h, toks := tk })
    (fin : ∀ ys, ys.length = n → (∀ i y, ys[i]? = some y → Y i y) → Fin ys news) : LCg.CompRest prog w A h₀ L m env elt x scope cl s S P Fin n 0 [] news := by
  have key : ∀ (j i : Nat) (ys : List Value), i + j = n → ys.length = i → (∀ i y, ys[i]? = some y → Y i y) → LCg.CompRest prog w A h₀ L m env elt x scope cl s S P Fin j i ys news := by
    intro j
    induction j with
    | zero => intro i ys hi hl hy; exact LCg.CompRest.zero (fin ys (by omega) hy)
    | succ j ih =>
      intro i ys hi hl hy
      refine LCg.CompRest.succ ?_
      intro v I oI C oC D m₂ h tk E' hv hC hx F N off ne
      refine wpAny_mono (turn i v I oI C oC D m₂ ys h tk E' (by omega) hv hC hx F N off ne) (fun y s₂ hq => ?_) fun _ _ e => e
      obtain ⟨h', tk', nw, e, F', N', off', hS, hn, hy'⟩ := hq
      rw [hn] at N' off' hS
      refine ⟨h', tk', news, e, F', N', off', hS, ih (i + 1) _ (by omega) (by rw [List.length_append, List.length_singleton, hl]) ?_⟩
      intro k z hz
      rcases Nat.lt_or_ge k ys.length with hk | hk
      · rw [List.getElem?_append_left hk] at hz; exact hy k z hz
      · rw [List.getElem?_append_right hk] at hz
        have : k - ys.length = 0 := by
          rcases Nat.eq_zero_or_pos (k - ys.length) with h | h
          · exact h
          · rw [List.getElem?_eq_none (by rw [List.length_singleton]; omega)] at hz; cases hz
        rw [this] at hz
        simp only [List.getElem?_cons_zero, Option.some.injEq] at hz
        subst hz
        have hki : k = i := by omega
        rw [hki]; exact hy'
  exact key n 0 [] (by omega) rfl (fun i y h => by simp at h)

def EltT (news : List (Addr × Obj)) (Y : List Value → Prop) (ys : List Value) (y : Value) (news' : List (Addr × Obj)) : Prop := news' = news ∧ Y (ys ++ [y])
def EltNo (news : List (Addr × Obj)) (Y : List Value → Prop) (ys : List Value) (news' : List (Addr × Obj)) : Prop := news' = news ∧ Y ys
theorem comp_restT {n : Nat} (Y : Nat → List Value → Prop) (y0 : Y 0 [])
    (turn : ∀ i v I oI C oC D m₂ ys h tk (E' : Value → Shared → Prop), i < n → Y i ys → P i v → LCg.NsObj oC m₂ → m₂ x = some v → Fr h₀ L h m → News h₀ L h ((I, oI) :: (C, oC) :: (D, LCg.lst ys) :: news) → LCg.Off3 I C D news → ((@Ne Nat I C) ∧ (@Ne Nat I D) ∧ (@Ne Nat C D)) →
      wpAny (model prog w) A (isTrue ct (compEnvC scope cl C env) (eval ct (compEnvC scope cl C env))) (fun b s' => if b = true then wpAny (model prog w) A (eval elt (compEnvC scope cl C env)) (LCg.CompEnd h₀ L m { s with heap := h, toks := tk } I oI C oC D (LCg.lst ys) S (fun y news' => EltT news (Y (i + 1)) ys y news')) E' s'
        else LCg.CompEnd h₀ L m { s with heap := h, toks := tk } I oI C oC D (LCg.lst ys) S (fun _ news' => EltNo news (Y (i + 1)) ys news') Value.none s') E' { s with heap := h, toks := tk })
    (fin : ∀ ys, Y n ys → Fin ys news) : LCt.CompRestT prog w A h₀ L m env ct elt x scope cl s S P Fin n 0 [] news := by
  have key : ∀ (j i : Nat) (ys : List Value), i + j = n → Y i ys → LCt.CompRestT prog w A h₀ L m env ct elt x scope cl s S P Fin j i ys news := by
    intro j
    induction j with
    | zero => intro i ys hi hy; exact LCt.CompRestT.zero (fin ys (by have : i = n := by omega
                                                                     rw [← this]; exact hy))
    | succ j ih =>
      intro i ys hi hy
      refine LCt.CompRestT.succ ?_
      intro v I oI C oC D m₂ h tk E' hv hC hx F N off ne
      refine wpAny_mono (turn i v I oI C oC D m₂ ys h tk E' (by omega) hy hv hC hx F N off ne) (fun b s₂ hq => ?_) fun _ _ e => e
      cases b with
      | true =>
        simp only [if_true] at hq ⊢
        refine wpAny_mono hq (fun y s₃ hr => ?_) fun _ _ e => e
        obtain ⟨h', tk', nw, e, F', N', off', hS, hn, hr'⟩ := hr
        rw [hn] at N' off' hS
        exact ⟨h', tk', news, e, F', N', off', hS, ih (i + 1) _ (by omega) hr'⟩
      | false =>
        simp only [Bool.false_eq_true, if_false] at hq ⊢
        obtain ⟨h', tk', nw, e, F', N', off', hS, hn, hr'⟩ := hq
        rw [hn] at N' off' hS
        exact ⟨h', tk', news, e, F', N', off', hS, ih (i + 1) _ (by omega) hr'⟩
  exact key n 0 [] (by omega) y0
end
end Mine
end
-- CLets
section
open PySem PySem.W PySem.Calls PyProof.Rows
namespace Mine
def adm (lo : Int) (mo : Option Int) (p : Int) : Bool := decide (lo ≤ p) && (match mo with
  | none => true
  | some b => decide (p ≤ b))
local macro_rules | `(tactic| walk_at "eval ListComp") => `(tactic| (k_dflt (refine LCg.ListComp_U (F₀ := by k_asm) (by with_unfolding_all rfl) (by decide) (by rfl) (by decide) (by rfl) ?_)))
local macro_rules | `(tactic| walk_at "CompSrc") => `(tactic| (k_extra "mysrc"))
local macro_rules | `(tactic| walk_at "CompEnd") => `(tactic| (refine LCg.CompEnd.intro (by assumption) (by assumption) _ (by kcf_all) (by assumption) (by first | lcg_src | assumption) ⟨rfl, ?_⟩))
local macro_rules | `(tactic| k_mem) => `(tactic| first | assumption | (refine List.mem_cons_of_mem _ ?_; k_mem))
theorem ne_all_lt {d d' : Addr} {l : List (Addr × Obj)} (h : AllLt d l) (hd : @LE.le Nat _ d d') : ∀ p ∈ l, p.1 ≠ d' := fun p hp => Nat.ne_of_lt (Nat.lt_of_lt_of_le (ktn_ltOf h p hp) hd)
local macro_rules | `(tactic| k_all) => `(tactic| first | exact ne_all_lt (allLt_of (by assumption)) (by omega) | exact ne_all_lt (by assumption) (by omega))
local macro_rules | `(tactic| walk_at "enter cells") => `(tactic| (
  refine' code_defC ?k1 ?k2 ?k3 ?k4 ?k5 ?kA ?kF ?kK ?k6 ?k7 ?k8 ?k9 ?kB ?kD ?_ ?c2 ?c3 ?c4
  (case kA => exact rfl); (case kF => exact rfl); (case kK => assumption)
  (case k1 => k_asm); (case k2 => k_asm); (case k3 => k_asm); (case k4 => k_asm); (case k5 => k_asm)
  (case k6 => k_is); (case k7 => k_is); (case k8 => ktr_room); (case k9 => exact BindsTo.of_eq rfl)
  (case kB => exact rfl); (case kD => decide +kernel); (case c2 => exact rfl); (case c3 => exact rfl); (case c4 => exact rfl)
  k_whole
  intro g' L' h' tk' cells' FG' F' N' Y' B' X' T' l1
  (try k_lt l1)
  k_cells Y'
  (try simp only [List.cons_append, List.nil_append] at N')
  (try dsimp only)
  (try k_lift B')
  (try k_fold)))
theorem lets_el {pns : List Int} {i : Nat} {k k' : Int} {lo : Int} {mo : Option Int} {c : Bool} (h : pns[i]? = some k') (h2 : pns[i]? = some k) (e : Value.bool c = Value.bool (adm lo mo k')) : Value.bool c = Value.bool (adm lo mo k) := by
  rw [h] at h2; cases h2; exact e
theorem lets_ys {ps ys : List Value} {pns : List Int} {g : Int → Value} (hi : IntsAre ps pns) (hl : ys.length = ps.toArray.size) (h : ∀ (i : Nat) (y : Value), ys[i]? = some y → ∀ k : Int, pns[i]? = some k → y = g k) : ys = pns.map g := by
  have e : pns.length = ys.length := by rw [hl, List.size_toArray]; exact hi.length.symm
  refine List.ext_getElem? fun i => ?_
  rw [List.getElem?_map]
  rcases Nat.lt_or_ge i ys.length with hlt | hge
  · obtain ⟨y, hy⟩ : ∃ y, ys[i]? = some y := ⟨_, List.getElem?_eq_getElem hlt⟩
    obtain ⟨k, hk⟩ : ∃ k, pns[i]? = some k := ⟨_, List.getElem?_eq_getElem (by omega)⟩
    rw [hy, hk, h i y hy k hk]; rfl
  · rw [List.getElem?_eq_none hge, List.getElem?_eq_none (by omega)]; rfl
def LetsPost (lo : Int) (mo : Option Int) (pns : List Int) (r : Value) (tl : List (Addr × Obj)) : Prop := ∃ D, r = .ref D ∧ tl = [(D, LCg.lst (pns.map fun p => .bool (adm lo mo p)))]
theorem lets_end {h₀ : Heap} {L : Addr} {m : Str → Option Value} {s : Shared} {news : List (Addr × Obj)} {Q : Value → Shared → Prop} {D : Addr} {lo : Int} {mo : Option Int} {pns : List Int} {ps ys : List Value} {h' : Heap} {tk' : Tok} {c1 c2 : Addr × Obj} {p1 p2 : Prop}
    (hi : IntsAre ps pns) (hret : ∀ r tl h' tk', Fr h₀ L h' m → News h₀ L h' (tl ++ news) → (∀ q ∈ news, ∀ p ∈ tl, q.1 ≠ p.1) → LetsPost lo mo pns r tl → Q r { s with heap := h', toks := tk' })
    (F : Fr h₀ L h' m) (N : News h₀ L h' ((D, LCg.lst ys) :: c1 :: c2 :: news)) (hl : ys.length = ps.toArray.size) (h : ∀ (i : Nat) (y : Value), ys[i]? = some y → ∀ k : Int, pns[i]? = some k → y = Value.bool (adm lo mo k))
    (o : p1 ∧ p2 ∧ LCg.Off1 D news) : Q (.ref D) { s with heap := h', toks := tk' } := by
  have e := lets_ys (g := fun k => Value.bool (adm lo mo k)) hi hl h
  subst e
  refine hret _ [(D, LCg.lst (pns.map fun p => .bool (adm lo mo p)))] _ _ F (news_junk (tl := [_]) (news_junk (tl := [_]) N)) ?_ ⟨D, rfl, rfl⟩
  intro q hq p hp
  rw [List.mem_singleton.mp hp]
  have off1 : ∀ {l : List (Addr × Obj)}, LCg.Off1 D l → ∀ q ∈ l, q.1 ≠ D := by
    intro l
    induction l with
    | nil => intro _ q hq; cases hq
    | cons a r ih =>
      intro h q hq
      rcases List.mem_cons.mp hq with rfl | hq
      · exact h.1
      · exact ih h.2 q hq
  exact off1 o.2.2 q hq
theorem con_lets (w : World) (base : Heap) (x : Addr) (lo : Int) (mo : Option Int) (t1 t2 : Tok) (P : Addr) (ps : List Value) (pns : List Int) (np : Nat) (news : List (Addr × Obj))
    (hx : (x, tupO [.int lo t1, optV mo t2]) ∈ news) (hp : (P, W.listOf ps.toArray np) ∈ news) (hi : IntsAre ps pns) (hn : ps.length ≤ 100) :
    ConN w base 1 61 [.ref x, .ref P] news (LetsPost lo mo pns) := by
  unfold ConN
  k_fill
  w_top off
  k_with_none
  intro mean mg mb dp un gd cn cs a ccd cl outer A₀ h₀ L m s Q E B F X N T hk hd hu hret
  k_with_none
  k_with "mysrc" =>
    k_dflt (
      refine LCg.CompSrc.ledger (by rfl) (by k_asm) (by k_asm) (by k_mem) (by (rw [PySem.sizeLine_eq, List.size_toArray]; omega)) ?_
      (intro g')
      refine comp_rest (fun (i : Nat) (y : Value) => ∀ k : Int, pns[i]? = some k → y = Value.bool (adm lo none k)) ?_ ?_
      intro i v I' oI' C' oC' D' m' ys' h' tk' E' hi' hP' hC' hx' F' N' off' ne'
      obtain ⟨k', t', e', hk'⟩ := IntsAre.at hi i v (by simpa using hP')
      subst e'
      clear hi')
  k_with "mysrc" =>
    k_dflt (
      refine LCg.CompSrc.ledger (by rfl) (by k_asm) (by k_asm) (by k_mem) (by (rw [PySem.sizeLine_eq, List.size_toArray]; omega)) ?_
      (intro g')
      refine comp_rest (fun (i : Nat) (y : Value) => ∀ k : Int, pns[i]? = some k → y = Value.bool (adm lo (some b) k)) ?_ ?_
      intro i v I' oI' C' oC' D' m' ys' h' tk' E' hi' hP' hC' hx' F' N' off' ne'
      obtain ⟨k', t', e', hk'⟩ := IntsAre.at hi i v (by simpa using hP')
      subst e'
      clear hi')
  rcases mo with _ | b <;> simp only [optV] at hx
  all_goals refine wpAny_call ?_
  all_goals (k_dflt (walk_at "enter cells"))
  all_goals k_steps
  all_goals first
    | (refine lets_el hk' (by assumption) ?_; first | (simp_all [adm]; done) | (simp_all [adm]; omega))
    | exact lets_end hi hret (by assumption) (by assumption) (by assumption) (by assumption) (by assumption)
end Mine
end
-- ZComp
section
open PySem PySem.W PySem.Calls PySem.Spec PyProof.Rows
namespace Mine
section
variable {prog : Program} {w : World} {A : Around} {E : Value → Shared → Prop} {s : Shared} {h₀ : Heap} {L : Addr} {m : Str → Option Value} {env : Env}
def ZipAfter (prog : Program) (w : World) (A : Around) (env : Env) (elt iter : Expr) (a b : Str) (pa pb tp : Pos) (kk : Nat) (scope : Scope) (cl : List (Str × Addr)) (pos : Pos) (Q : Value → Shared → Prop) (E : Value → Shared → Prop) (xv : Value) (s₁ : Shared) : Prop :=
  wpAny (model prog w) A (pyIter xv) (fun it s₂ => wpAny (model prog w) A (newList []) (fun acc s₃ =>
      wpAny (model prog w) A (newFunctionEnv scope env.globals cl [] env.qual none .none (some env)) (fun cenv s₄ =>
        codeAny (model prog w) A (.compStart (.ListComp elt [⟨.Tuple [.Name a pa, .Name b pb] kk tp, iter, [], 0⟩] scope pos) 0 it acc { cenv with scope := relabel scope env }) (compPost (model prog w) A E none Q acc cenv.locals) s₄) E s₃) E s₂) E s₁

theorem zip_ListComp {elt iter : Expr} {a b : Str} {pa pb tp : Pos} {kk : Nat} {scope : Scope} {cl : List (Str × Addr)} {pos : Pos} {Q : Value → Shared → Prop}
    (hclos : closureFor scope env = pure cl) (hkind : scope.kind = .function)
    (hnames : ∀ y ∈ scope.names, y.2 = .local → scope.names.lookup y.1 = some .local)
    (h : wpAny (model prog w) A (eval iter env) (ZipAfter prog w A env elt iter a b pa pb tp kk scope cl pos Q E) E s)
    (hs : ∀ x, foldedSetIterable iter env x = pure x := by intro _; rfl) :
    wpAny (model prog w) A (eval (.ListComp elt [⟨.Tuple [.Name a pa, .Name b pb] kk tp, iter, [], 0⟩] scope pos) env) Q E s := by
  rw [eval_ListComp]
  exact wpAny_comprehension_free (use := none) rfl hs hclos hkind hnames (wpAny_mono h (fun xv s₁ h₁ => h₁) fun _ _ e => e)

theorem zip_call {elt iter : Expr} {a b : Str} {pa pb tp : Pos} {kk : Nat} {scope : Scope} {cl : List (Str × Addr)} {pos : Pos} {Q : Value → Shared → Prop} {l1 l2 : Addr} {xs ys : List Value} {n1 n2 : Nat} {news : List (Addr × Obj)} (Y : Nat → Value → Prop)
    (hh : A.handled = none) (hcell : ∀ y ∈ scope.names, y.2 ≠ .cell) (hkind : scope.kind = .function) (hxa : scope.names.lookup a = some .local) (hxb : scope.names.lookup b = some .local) (hab : ¬ a = b)
    (F : Fr h₀ L s.heap m) (N : News h₀ L s.heap news) (hm1 : (l1, LCg.lst xs) ∈ news) (hm2 : (l2, LCg.lst ys) ∈ news) (hlen : ys.length = xs.length) (hsz : xs.length ≤ sizeLine)
    (turn : ∀ i x y C oC D m₂ zs h tk (E' : Value → Shared → Prop), xs[i]? = some x → ys[i]? = some y → LCg.NsObj oC m₂ → m₂ a = some x → m₂ b = some y → Fr h₀ L h m → News h₀ L h ((C, oC) :: (D, LCg.lst zs) :: news) →
      wpAny (model prog w) A (eval elt (compEnvC scope cl C env)) (fun z s' => ∃ tk', s' = { s with heap := h, toks := tk' } ∧ Y i z) E' { s with heap := h, toks := tk })
    (fin : ∀ D zs h tk, zs.length = xs.length → (∀ i z, zs[i]? = some z → Y i z) → Fr h₀ L h m → News h₀ L h ((D, LCg.lst zs) :: news) → (∀ p ∈ news, p.1 < D) → Q (.ref D) { s with heap := h, toks := tk }) :
    wpAny (model prog w) A (call (.type "zip") [.ref l1, .ref l2]) (ZipAfter prog w A env elt iter a b pa pb tp kk scope cl pos Q E) E s := by
  have hl1 : s.heap.IsList l1 xs.toArray := ⟨_, (N _ hm1).1, rfl, _, rfl⟩
  have hl2 : s.heap.IsList l2 ys.toArray := ⟨_, (N _ hm2).1, rfl, _, rfl⟩
  have hlt1 : l1 < s.heap.objs.size := Heap.lt_size (N _ hm1).1
  have hlt2 : l2 < s.heap.objs.size := Heap.lt_size (N _ hm2).1
  have hLs : L < s.heap.objs.size := F.ns.lt
  have Z : ZipApart (s.heap.objs.size + 4) (s.heap.objs.size + 2) (s.heap.objs.size + 3) s.heap.objs.size (s.heap.objs.size + 1) l1 l2 := zipApart_new hlt1 hlt2
  refine call_zip_2 hl1 hl2 fun h1 hz hTI hTO hi1 hi2 hsz1 hk1 => ?_
  unfold ZipAfter
  refine wpAny_pyIter_zip hz ?_
  refine wpAny_newObj_type (wpAny_newFunctionEnv hcell (by intro y hy; simp at hy) (fun h₁ hns₁ hsb₁ => ?_) hkind)
  dsimp only at hns₁ hsb₁ ⊢
  generalize hH2 : h1.push { cls := .type "list", dict := none, data := .seq ([] : List Value).toArray } = H2 at hns₁ hsb₁ ⊢
  have hD : h1.objs.size = s.heap.objs.size + 5 := hsz1
  have hC : H2.objs.size = s.heap.objs.size + 6 := by rw [← hH2, Heap.size_push, hD]
  have newN : ∀ c, s.heap.objs.size ≤ c → h₀.get? c = none := fun c hc => by
    cases e : h₀.get? c with
    | none => rfl
    | some o => exact absurd (Heap.lt_size (F.keep c o e)) (Nat.not_lt.mpr hc)
  have old : ∀ b o, h1.get? b = some o → h₁.get? b = some o := fun b o e => hsb₁.extBut b o (Nat.ne_of_lt (Nat.lt_of_lt_of_le (Heap.lt_size e) (by rw [hC, hD]; exact Nat.le_succ _))) (Heap.get?_push_of_some _ (hH2 ▸ Heap.get?_push_of_some _ e))
  have hacc : h₁.get? h1.objs.size = some (LCg.lst []) := hsb₁.extBut _ _ (Nat.ne_of_lt (by rw [hC, hD]; exact Nat.lt_succ_self _)) (Heap.get?_push_of_some _ (hH2 ▸ Heap.get?_push_size _ rfl))
  generalize hDe : h1.objs.size = D at hacc hD ⊢
  generalize hCe : H2.objs.size = C at hns₁ hC ⊢
  clear hsb₁
  generalize hz0 : s.heap.objs.size = z0 at *
  have W := KTurns.ofWalksU (elts := [.Name a pa, .Name b pb]) (k := kk) (pos := tp) (WalksT.zip2 (prog := prog) (w := w) hh _ _ _ _ _ _ _ Z xs.toArray ys.toArray).toU
  have hmin : min xs.toArray.size ys.toArray.size = xs.length := by rw [List.size_toArray, List.size_toArray, hlen]; omega
  rw [hmin] at W
  have hL0 : L < z0 := hLs
  have newsLt : ∀ p ∈ news, p.1 < z0 := fun p hp => hz0 ▸ Heap.lt_size (N p hp).1
  have loop : ∀ s₃ : Shared, s₃ = { s with heap := h₁, toks := s.toks + ([] : List (Str × Value)).length } →
      codeAny (model prog w) A (.compLoop (.ListComp elt [⟨.Tuple [.Name a pa, .Name b pb] kk tp, iter, [], 0⟩] scope pos) 0 (.ref (z0 + 4)) (.ref D) (compEnvC scope cl C env))
        (compPost (model prog w) A E none Q (.ref D) C) s₃ := by
    rintro s₃ rfl
    refine kcp_loop
      (fun k s' => ∃ h' tk i zs m', s' = { s with heap := h', toks := tk } ∧ i ≤ xs.length ∧ k = xs.length + 1 - i ∧ zs.length = i ∧
        (IsZip h' (z0 + 4) (z0 + 2) (z0 + 3) .none ∧ IsPair h' (z0 + 2) (.ref z0) (.ref (z0 + 1)) ∧ (∃ a b, IsPair h' (z0 + 3) a b) ∧ h'.IsListIter z0 l1 i ∧ h'.IsListIter (z0 + 1) l2 i ∧ h'.IsList l1 xs.toArray ∧ h'.IsList l2 ys.toArray) ∧
        (∀ b o, s.heap.get? b = some o → h'.get? b = some o) ∧ h'.Ns C m' ∧ h'.get? D = some (LCg.lst zs) ∧ (∀ i z, zs[i]? = some z → Y i z)) ?_ (xs.length + 1)
      ⟨h₁, _, 0, [], _, rfl, Nat.zero_le _, rfl, rfl, ⟨old _ _ hz, old _ _ hTI, ⟨_, _, old _ _ hTO⟩, hi1.at fun o e => old _ o e, hi2.at fun o e => old _ o e, hl1.at fun o e => old _ _ (hk1 _ o e), hl2.at fun o e => old _ _ (hk1 _ o e)⟩, fun b o e => old _ _ (hk1 _ _ e), hns₁, hacc, fun i z h => by simp at h⟩
    rintro k s' ⟨h', tk, i, zs, m', rfl, hi, rfl, hzl, st, keep, hn', hD', hY⟩
    have sub : ∀ b, b < z0 → b ∉ [z0 + 4, z0 + 3, z0, z0 + 1] := fun b hb hm => by
      have hm' : b = z0 + 4 ∨ b = z0 + 3 ∨ b = z0 ∨ b = z0 + 1 := by simpa using hm
      have hb' : @LT.lt Nat _ b z0 := hb
      rcases hm' with e | e | e | e <;> (have e' : @Eq Nat b _ := e; omega)
    have subC : C ∉ [z0 + 4, z0 + 3, z0, z0 + 1] := fun hm => by
      have hm' : C = z0 + 4 ∨ C = z0 + 3 ∨ C = z0 ∨ C = z0 + 1 := by simpa using hm
      have hb' : @Eq Nat C (z0 + 6) := hC
      rcases hm' with e | e | e | e <;> (have e' : @Eq Nat C _ := e; omega)
    have subD : D ∉ [z0 + 4, z0 + 3, z0, z0 + 1] := fun hm => by
      have hm' : D = z0 + 4 ∨ D = z0 + 3 ∨ D = z0 ∨ D = z0 + 1 := by simpa using hm
      have hb' : @Eq Nat D (z0 + 5) := hD
      rcases hm' with e | e | e | e <;> (have e' : @Eq Nat D _ := e; omega)
    by_cases hlt : i < xs.length
    · refine W.item i _ _ _ hlt st fun v h₂ tk₂ hMd hk₂ => ?_
      refine W.go i v _ _ _ hMd fun h₃ hP hst₃ hk₃ => ?_
      obtain ⟨T, vals, rfl, ⟨x, y, hx, hy, rfl⟩, hT⟩ := hP
      have up₃ : ∀ c o, c ∉ [z0 + 4, z0 + 3, z0, z0 + 1] → h'.get? c = some o → h₃.get? c = some o := fun c o hc e => hk₃ c o hc (hk₂ c o hc e)
      refine kcp_assign (env := compEnvC scope cl C env) hh hT (lookup_relabel_local hxa) (lookup_relabel_local hxb) (by simp [compEnvC, relabel, hkind]) (hn'.at' fun o e => up₃ _ o subC e) fun h₄ tk₄ hn₄ hs₄ => ?_
      have up : ∀ c o, c ∉ [z0 + 4, z0 + 3, z0, z0 + 1] → c ≠ C → h'.get? c = some o → h₄.get? c = some o := fun c o h1 h2 e => hs₄ c o h2 (up₃ c o h1 e)
      have neC : ∀ b, b < z0 → b ≠ C := fun b hb q => by
        have : @Eq Nat C (z0 + 6) := hC
        have hb' : @LT.lt Nat _ b z0 := hb
        have q' : @Eq Nat b C := q
        omega
      have neD : ∀ b, b < z0 → b ≠ D := fun b hb q => by
        have : @Eq Nat D (z0 + 5) := hD
        have hb' : @LT.lt Nat _ b z0 := hb
        have q' : @Eq Nat b D := q
        omega
      have hDC : D ≠ C := fun q => by
        have h1 : @Eq Nat D (z0 + 5) := hD
        have h2 : @Eq Nat C (z0 + 6) := hC
        have q' : @Eq Nat D C := q
        omega
      have keep₄ : ∀ b o, s.heap.get? b = some o → h₄.get? b = some o := fun b o e => up b o (sub b (hz0 ▸ Heap.lt_size e)) (neC b (hz0 ▸ Heap.lt_size e)) (keep b o e)
      obtain ⟨oC, heC, hoC⟩ := LCg.ns_obj hn₄
      have hD₄ : h₄.get? D = some (LCg.lst zs) := up D _ subD hDC hD'
      have hC₀ : h₀.get? C = none := newN C (hC ▸ Nat.le_add_right _ _)
      have hD₀ : h₀.get? D = none := newN D (hD ▸ Nat.le_add_right _ _)
      have F₄ := F.keeps keep₄
      have N₄ : News h₀ L h₄ ((C, oC) :: (D, LCg.lst zs) :: news) := fun q hq => by
        rcases List.mem_cons.mp hq with rfl | hq
        · exact ⟨heC, Ne.symm (neC L hL0), hC₀⟩
        · rcases List.mem_cons.mp hq with rfl | hq
          · exact ⟨hD₄, Ne.symm (neD L hL0), hD₀⟩
          · exact (N.grown keep₄) q hq
      refine wpAny_mono (turn i x y C oC D _ zs h₄ _ _ (by simpa using hx) (by simpa using hy) hoC (by simp [hab]) (by simp) F₄ N₄) (fun zv s₅ h₅ => ?_) fun _ _ e => e
      obtain ⟨tk₅, rfl, hYi⟩ := h₅
      refine append_at (hsz := by show zs.toArray.size ≤ sizeLine; rw [List.size_toArray, hzl]; exact Nat.le_trans hi hsz) hD₄ fun h₆ hs₆ hD₆ => ?_
      have st₆ := W.frame _ _ h₆ hst₃ fun b hb o e => by
        have hb' : b = z0 + 4 ∨ b = z0 + 2 ∨ b = z0 + 3 ∨ b = z0 ∨ b = z0 + 1 ∨ b = l1 ∨ b = l2 := by simpa using hb
        have h1 : @Eq Nat D (z0 + 5) := hD
        have h2 : @Eq Nat C (z0 + 6) := hC
        have h3 : @LT.lt Nat _ l1 z0 := hlt1
        have h4 : @LT.lt Nat _ l2 z0 := hlt2
        have nC : b ≠ C := fun q => by
          have q' : @Eq Nat b C := q
          rcases hb' with e | e | e | e | e | e | e <;> (have e' : @Eq Nat b _ := e; omega)
        have nD : b ≠ D := fun q => by
          have q' : @Eq Nat b D := q
          rcases hb' with e | e | e | e | e | e | e <;> (have e' : @Eq Nat b _ := e; omega)
        exact hs₆.extBut _ _ nD (hs₄ _ _ nC e)
      refine ⟨xs.length + 1 - (i + 1), by omega, h₆, tk₅, i + 1, zs ++ [zv], _, rfl, hlt, rfl, by rw [List.length_append, List.length_singleton, hzl], st₆, fun b o e => hs₆.extBut b o (neD b (hz0 ▸ Heap.lt_size e)) (keep₄ b o e), hn₄.sameBut hs₆ (Ne.symm hDC), hD₆.trans (congrArg some (LCg.lst_snoc zs zv)), ?_⟩
      intro j z hj
      rcases Nat.lt_or_ge j zs.length with hjl | hjl
      · rw [List.getElem?_append_left hjl] at hj; exact hY j z hj
      · have hj2 : j < (zs ++ [zv]).length := by
          rcases Nat.lt_or_ge j (zs ++ [zv]).length with h | h
          · exact h
          · rw [List.getElem?_eq_none h] at hj; cases hj
        rw [List.length_append, List.length_singleton] at hj2
        have : j = zs.length := by omega
        subst this
        rw [List.getElem?_append_right (Nat.le_refl _), Nat.sub_self] at hj
        simp only [List.getElem?_cons_zero, Option.some.injEq] at hj
        subst hj
        rw [hzl]; exact hYi
    · have hin : i = xs.length := Nat.le_antisymm hi (Nat.not_lt.mp hlt)
      subst hin
      refine W.done _ _ _ st fun h₂ tk₂ hk₂ => ?_
      refine ⟨m', hn'.at' fun o e => hk₂ _ o subC e, fun h'' hs'' => ?_⟩
      have neC : ∀ b, b < z0 → b ≠ C := fun b hb q => by
        have : @Eq Nat C (z0 + 6) := hC
        have hb' : @LT.lt Nat _ b z0 := hb
        have q' : @Eq Nat b C := q
        omega
      have hDC : D ≠ C := fun q => by
        have h1 : @Eq Nat D (z0 + 5) := hD
        have h2 : @Eq Nat C (z0 + 6) := hC
        have q' : @Eq Nat D C := q
        omega
      have keep₂ : ∀ b o, s.heap.get? b = some o → h''.get? b = some o := fun b o e => hs''.extBut b o (neC b (hz0 ▸ Heap.lt_size e)) (hk₂ b o (sub b (hz0 ▸ Heap.lt_size e)) (keep b o e))
      refine fin D zs h'' tk₂ hzl hY (F.keeps keep₂) (fun q hq => ?_) fun p hp => ?_
      · rcases List.mem_cons.mp hq with rfl | hq
        · refine ⟨hs''.extBut D _ hDC (hk₂ D _ subD hD'), fun q => ?_, newN D (hD ▸ Nat.le_add_right _ _)⟩
          have h1 : @Eq Nat D (z0 + 5) := hD
          have q' : @Eq Nat D L := q
          have h3 : @LT.lt Nat _ L z0 := hL0
          omega
        · exact (N.grown keep₂) q hq
      · have h1 : @Eq Nat D (z0 + 5) := hD
        have h2 : @LT.lt Nat _ p.1 z0 := newsLt p hp
        show @LT.lt Nat _ p.1 D
        omega
  exact codeAny_compStart_list (loop _ rfl) (wpAny_pyIter_zip (old _ _ hz) (loop _ rfl))
end
end Mine
end
-- CMatch
section
open PySem PySem.W PyProof.Rows
namespace Mine
local macro_rules | `(tactic| walk_at "dummy0") => `(tactic| fail)
local macro_rules | `(tactic| walk_at "dummy1") => `(tactic| fail)
local macro_rules | `(tactic| walk_at "call ref") => `(tactic| k_extra "mycall")
local macro_rules | `(tactic| walk_at "conprem") => `(tactic| (
  (case k1 => k_asm); (case k2 => k_asm); (case k3 => k_asm); (case k4 => k_asm); (case k5 => k_asm); (case kK => first | exact rfl | assumption); (case kd => ktr_room); (case ku => ktr_units)))
local macro_rules | `(tactic| walk_at "fitsrow") => `(tactic| (
                      walk_at "conprem"
                      intro r9 tl9 h9 tk9 F9 N9 hl9 ho9
                      obtain ⟨ht9, e9⟩ := ho9
                      subst ht9 e9
                      clear hl9
                      (try simp only [List.nil_append, List.cons_append, List.append_nil, List.append_assoc] at N9)
                      (try dsimp only)
                      (try k_fold)))
local macro_rules | `(tactic| walk_at "fitsrows") => `(tactic| (
  k_with "mycall" => (k_dflt (refine' con_use (con_fits _ _ _ none _ none _ 0 _ 0 _) ?k1 ?k2 ?k3 ?k4 ?k5 ?kK ?kd ?ku ?_); walk_at "fitsrow")
  k_with "mycall" => (k_dflt (refine' con_use (con_fits _ _ _ (some _) _ none _ _ _ 0 _) ?k1 ?k2 ?k3 ?k4 ?k5 ?kK ?kd ?ku ?_); walk_at "fitsrow")
  k_with "mycall" => (k_dflt (refine' con_use (con_fits _ _ _ none _ (some _) _ 0 _ _ _) ?k1 ?k2 ?k3 ?k4 ?k5 ?kK ?kd ?ku ?_); walk_at "fitsrow")
  k_with "mycall" => (k_dflt (refine' con_use (con_fits _ _ _ (some _) _ (some _) _ _ _ _ _) ?k1 ?k2 ?k3 ?k4 ?k5 ?kK ?kd ?ku ?_); walk_at "fitsrow")))
theorem con_match2 (w : World) (base : Heap) (x y : Addr) (lo : Int) (mo : Option Int) (wl : Int) (wm : Option Int) (t0 t1 t2 t3 t4 : Tok) (news : List (Addr × Obj))
    (hx : (x, tupO [.int lo t1, optV mo t2]) ∈ news) (hy : (y, tupO [.int wl t3, optV wm t4]) ∈ news) :
    Con w base 2 28 [.int 2 t0, .ref x, .ref y] news (fun r tl => tl = [] ∧ r = .bool (fits lo mo wl wm)) := by
  unfold Con
  k_fill
  w_top off
  k_with_none
  intro mean mg mb dp un gd cn cs a ccd cl outer A₀ h₀ L m s Q E B F X N T hk hd hu hret
  k_with_none
  walk_at "fitsrows"
  cases mo <;> cases wm <;> simp only [optV] at hx hy
  all_goals refine wpAny_call ?_
  all_goals (k_dflt cell_enter)
  all_goals k_steps
  all_goals exact hret _ [] _ _ (by k_asm) (by k_asm) (fun _ _ _ h => nomatch h) ⟨rfl, rfl⟩
theorem con_match1 (w : World) (base : Heap) (x y : Addr) (ra rb : Int) (lo : Int) (mo : Option Int) (wl : Int) (wm : Option Int) (t0 t1 t2 t3 t4 t5 t6 : Tok) (news : List (Addr × Obj))
    (hx : (x, tupO [.int ra t5, .int lo t1, optV mo t2]) ∈ news) (hy : (y, tupO [.int rb t6, .int wl t3, optV wm t4]) ∈ news) :
    Con w base 2 28 [.int 1 t0, .ref x, .ref y] news (fun r tl => tl = [] ∧ r = .bool (decide (ra = rb) && fits lo mo wl wm)) := by
  unfold Con
  k_fill
  w_top off
  k_with_none
  intro mean mg mb dp un gd cn cs a ccd cl outer A₀ h₀ L m s Q E B F X N T hk hd hu hret
  k_with_none
  walk_at "fitsrows"
  cases mo <;> cases wm <;> simp only [optV] at hx hy
  all_goals refine wpAny_call ?_
  all_goals (k_dflt cell_enter)
  all_goals k_steps
  all_goals (refine hret _ [] _ _ (by k_asm) (by k_asm) (fun _ _ _ h => nomatch h) ⟨rfl, ?_⟩; congr 1; simp_all)
end Mine
end
-- TupR
section
open PySem PySem.W PySem.Calls PyProof.Rows
namespace Mine
section
variable {prog : Program} {w : World} {A : Around} {E : Value → Shared → Prop} {s : Shared}
theorem tsl_adjust (lo hi : Option Int) (n : Nat) : Builtin.Slice.sliceAdjust lo hi 1 (n : Int) = (((kms_lo lo n : Nat) : Int), ((kms_hi hi n : Nat) : Int)) := by
  unfold Builtin.Slice.sliceAdjust
  have h1 : ¬ ((1 : Int) < 0) := by omega
  simp only [h1, if_false]
  congr 1
  · cases lo with
    | none => rfl
    | some x =>
      by_cases h : x < 0
      · simp only [kms_lo, if_pos h]; omega
      · simp only [kms_lo, if_neg h]; omega
  · cases hi with
    | none => rfl
    | some x =>
      by_cases h : x < 0
      · simp only [kms_hi, if_pos h]; omega
      · simp only [kms_hi, if_neg h]; omega
theorem tsl_places (a b : Nat) : Builtin.Slice.slicePlaces (a : Int) (b : Int) 1 = b - a := by
  unfold Builtin.Slice.slicePlaces
  have h1 : (1 : Int) > 0 := by omega
  simp only [h1, if_true, Int.ediv_one]
  split <;> omega
theorem kms_hi_le (hi : Option Int) (n : Nat) : kms_hi hi n ≤ n := by
  unfold kms_hi
  split
  · exact Nat.le_refl _
  · split <;> omega
theorem tsl_applied {sl : Addr} {n : Nat} {vl vu : Value} {lo hi : Option Int} {Q : Int × Int × Nat → Shared → Prop} (hs : s.heap.IsSliceOf sl vl vu .none) (pl : IsPart vl lo) (pu : IsPart vu hi)
    (h : Q (((kms_lo lo n : Nat) : Int), 1, kms_hi hi n - kms_lo lo n) s) :
    wpAny (model prog w) A (Builtin.Slice.sliceApplied (.ref sl) (pure (n : Int))) Q E s := by
  obtain ⟨os, hos, hcs, hds⟩ := id hs
  unfold Builtin.Slice.sliceApplied Builtin.Slice.sliceFields
  refine wpAny_bind (wpAny_bind (wpAny_field hos hds (x := vl) rfl (wpAny_bind (wpAny_field hos hds (x := vu) rfl (wpAny_bind (wpAny_field hos hds (x := .none) rfl (wpAny_pure ?_)))))))
  refine wpAny_bind (slicePart_none ?_)
  show wpAny _ _ (if ((1 : Int) == 0) = true then _ else _) _ _ s
  rw [if_neg (by decide)]
  have part : ∀ {v : Value} {o : Option Int} {R : Option Int → Shared → Prop}, IsPart v o → R o s → wpAny (model prog w) A (Builtin.Slice.slicePartIndex v) R E s := by
    intro v o R p hr
    cases p with
    | none => exact slicePart_none hr
    | int i t => exact slicePart_int hr
  refine wpAny_bind (part pl (wpAny_bind (part pu (wpAny_bind (wpAny_pure ?_)))))
  show wpAny _ _ (match Builtin.Slice.sliceAdjust lo hi 1 (n : Int) with | (lo, hi) => pure (lo, (1 : Int), Builtin.Slice.slicePlaces lo hi 1)) _ _ s
  rw [tsl_adjust]
  show wpAny _ _ (pure (((kms_lo lo n : Nat) : Int), (1 : Int), Builtin.Slice.slicePlaces ((kms_lo lo n : Nat) : Int) ((kms_hi hi n : Nat) : Int) 1)) _ _ s
  rw [tsl_places]
  exact wpAny_pure h
theorem tsl_pick (xs : Array Value) (a n : Nat) : ((List.range n).filterMap fun (k : Nat) => xs[((a : Int) + (k : Int) * 1).toNat]?).toArray = ((xs.toList.drop a).take n).toArray := by
  have e : (fun (k : Nat) => xs[((a : Int) + (k : Int) * 1).toNat]?) = fun k => xs[a + k]? := by
    funext k
    have : ((a : Int) + (k : Int) * 1).toNat = a + k := by omega
    rw [this]
  rw [e]
  have := pick_run xs a n
  rw [List.filterMap_map] at this
  have e2 : ((fun x => xs[x]?) ∘ fun x => a + x) = fun k => xs[a + k]? := rfl
  rw [e2] at this
  rw [this]
theorem tsl_getItem {t sl : Addr} {items : Array Value} {vl vu : Value} {lo hi : Option Int} {Q : Value → Shared → Prop} (ht : IsTup s.heap t items) (hs : s.heap.IsSliceOf sl vl vu .none) (pl : IsPart vl lo) (pu : IsPart vu hi)
    (hsame : kms_pick items.toList lo hi = items.toList → Q (.ref t) s)
    (hnew : Q (.ref s.heap.objs.size) { s with heap := s.heap.push { cls := .type "tuple", data := .seq (kms_pick items.toList lo hi).toArray } })
    (hsz : items.size ≤ sizeLine := by size_fits) : wpAny (model prog w) A (getItem (.ref t) (.ref sl)) Q E s := by
  have hpick : sizeOk (.seq (kms_pick items.toList lo hi).toArray) := by
    show (kms_pick items.toList lo hi).toArray.size ≤ sizeLine
    unfold kms_pick
    rw [List.size_toArray, List.length_take, List.length_drop, Array.length_toList]
    omega
  obtain ⟨os, hos, hcs, hds⟩ := id hs
  have hTs : s.TypeIs (.ref sl) "slice" := ⟨os, hos, hcs⟩
  unfold getItem
  try with_reducible refine wpAny_holding ?_
  first | refine wpAny_bind (wpAny_pure ?_) | skip
  refine wpAny_bind (wpAny_sequenceKey ht.typeIs (by decide) ?_)
  refine wpAny_bind (wpAny_callSpecial?_slot (name := Str.ofString "__getitem__") ht.typeIs slot_tuple_getitem
    (wpAny_call_entry slot_tuple_getitem ht.typeIs entry_tuple_getitem ?_ (args_tuple_getitem _ _)))
  show wpAny _ _ (Builtin.Tuple.tupleItemsOf (.ref t) >>= _) _ _ s
  refine wpAny_bind (tupleItemsOf_ ht ?_)
  refine wpAny_bind (wpAny_typeOf hTs ?_)
  rw [if_pos (by decide)]
  refine wpAny_bind (tsl_applied hs pl pu ?_)
  have e : kms_pick items.toList lo hi = (items.toList.drop (kms_lo lo items.size)).take (kms_hi hi items.size - kms_lo lo items.size) := by
    unfold kms_pick; rw [Array.length_toList]
  have new : wpAny (model prog w) A.in1 (do let v ← Builtin.Tuple.tupleExact ((List.range (kms_hi hi items.size - kms_lo lo items.size)).filterMap fun (k : Nat) => items[(((kms_lo lo items.size : Nat) : Int) + (k : Int) * 1).toNat]?).toArray; ret v) (fun fin s' => ∃ r, fin = .done (.ret r) ∧ wpAny (model prog w) A (pure r) Q E s') E s := by
    rw [tsl_pick, ← e]
    exact wpAny_bind (m := Builtin.Tuple.tupleExact _) (wpAny_newObj_type (wpAny_pure ⟨_, rfl, wpAny_pure hnew⟩) hpick)
  show wpAny _ _ (if ((((kms_lo lo items.size : Nat) : Int)) == 0 && (1 : Int) == 1 && (kms_hi hi items.size - kms_lo lo items.size) == items.size) = true then (Builtin.Tuple.tupleIsExact (.ref t) >>= fun b => if b = true then (rule "tuple.getitem.whole" >>= fun _ => ret (.ref t)) else _) else _) _ _ s
  by_cases hc : ((((kms_lo lo items.size : Nat) : Int)) == 0 && (1 : Int) == 1 && (kms_hi hi items.size - kms_lo lo items.size) == items.size) = true
  · rw [if_pos hc]
    unfold Builtin.Tuple.tupleIsExact
    refine wpAny_bind (wpAny_bind (wpAny_typeOf ht.typeIs (wpAny_pure ?_)))
    rw [if_pos (by simp)]
    refine wpAny_bind (wpAny_rule (wpAny_pure ⟨_, rfl, wpAny_pure (hsame ?_)⟩))
    simp only [Bool.and_eq_true, beq_iff_eq] at hc
    have h1 : kms_lo lo items.size = 0 := by omega
    have h2 : kms_hi hi items.size - kms_lo lo items.size = items.size := by omega
    rw [e, h2, h1, List.drop_zero, List.take_of_length_le (by simp)]
  · rw [if_neg hc]
    exact new
end
section
variable {prog : Program} {w : World} {A : Around} {E : Value → Shared → Prop} {s : Shared} {h₀ : Heap} {L : Addr} {m : Str → Option Value} {news : List (Addr × Obj)}
theorem news_dup {h : Heap} {x : Addr} {o : Obj} (N : News h₀ L h news) (hx : (x, o) ∈ news) : News h₀ L h ((x, o) :: news) := fun p hp => by
  rcases List.mem_cons.mp hp with rfl | hp
  · exact N _ hx
  · exact N p hp
theorem tup_slice {value slice : Expr} {t : Addr} {its zs : List Value} {vl vu : Value} {lo hi : Option Int} {Q : Value → Shared → Prop}
    (F : Fr h₀ L s.heap m) (N : News h₀ L s.heap news) (ht : (t, tupO its) ∈ news) (pl : IsPart vl lo) (pu : IsPart vu hi) (hz : kms_pick its lo hi = zs)
    (h : ∀ D h', Fr h₀ L h' m → News h₀ L h' ((D, tupO zs) :: news) → Q (.ref D) { s with heap := h' })
    (hs : subscripted slice false (.ref t) (.ref s.heap.objs.size) = operate [.ref s.heap.objs.size, .ref t] (getItem (.ref t) (.ref s.heap.objs.size))) (hg : ∀ r, letTemporaryGo value (.ref t) r = pure ())
    (hsz : its.length ≤ sizeLine) :
    wpAny (model prog w) A (subscriptTail value slice (.ref t) (.ref s.heap.objs.size)) Q E { s with heap := s.heap.push { cls := .type "slice", data := .fields #[vl, vu, .none] } } := by
  subst hz
  have N1 : News h₀ L (s.heap.push { cls := .type "slice", data := .fields #[vl, vu, .none] }) news := N.grown fun _ _ e => Heap.get?_push_of_some _ e
  have F1 := F.push { cls := .type "slice", data := .fields #[vl, vu, .none] }
  have ht' : IsTup (s.heap.push { cls := .type "slice", data := .fields #[vl, vu, .none] }) t its.toArray := ⟨_, (N1 _ ht).1, rfl, _, rfl⟩
  refine subscriptTail_ops (s := { s with heap := s.heap.push { cls := .type "slice", data := .fields #[vl, vu, .none] } }) ht'.typeIs slot_tuple_getitem.lookup
    (tsl_getItem ht' (Heap.IsSliceOf.new ..) pl pu (fun e => ?_) ?_ (by simpa using hsz)) hs hg
  · have e' : kms_pick its lo hi = its := e
    refine h t _ F1 ?_
    rw [e']
    exact news_dup N1 ht
  · exact h _ _ (F1.push _) (News.push F1 N1 _)
theorem tup_add {t b : Addr} {vs ws zs : List Value} {Q : Value → Shared → Prop} (F : Fr h₀ L s.heap m) (N : News h₀ L s.heap news) (ht : (t, tupO vs) ∈ news) (hb : (b, tupO ws) ∈ news) (hz : vs ++ ws = zs)
    (h : ∀ D h', Fr h₀ L h' m → News h₀ L h' ((D, tupO zs) :: news) → Q (.ref D) { s with heap := h' })
    (hsz : vs.length + ws.length ≤ sizeLine) :
    wpAny (model prog w) A (binaryOp .Add (.ref t) (.ref b)) Q E s := by
  subst hz
  refine add_tuples F N ⟨_, (N _ ht).1, rfl, _, rfl⟩ ⟨_, (N _ hb).1, rfl, _, rfl⟩ (fun e => ?_) (fun _ e => ?_) (fun _ _ h' F' N' => h _ h' F' N') hsz
  · subst e; exact h b _ F (news_dup N hb)
  · subst e; rw [List.append_nil] at h; exact h t _ F (news_dup N ht)
theorem tup_of {t : Addr} {its : List Value} {Q : Value → Shared → Prop} (N : News h₀ L s.heap news) (ht : (t, tupO its) ∈ news) (h : Q (.ref t) s) : wpAny (model prog w) A (call (.type "tuple") [.ref t]) Q E s :=
  call_tuple_same ⟨_, (N _ ht).1, rfl, _, rfl⟩ h
end
end Mine
end
-- CMatch3
section
open PySem PySem.W PySem.Calls PyProof.Rows
namespace Mine
structure Fn where
  a : Addr
  p : Addr
  r : Addr
  vp : List Value
  vr : List Value
  ps : List Int
  rs : List Int
structure Fn.at (f : Fn) (news : List (Addr × Obj)) : Prop where
  ha : (f.a, tupO [.ref f.p, .ref f.r]) ∈ news
  hp : (f.p, tupO f.vp) ∈ news
  hr : (f.r, tupO f.vr) ∈ news
  ip : IntsAre f.vp f.ps
  ir : IntsAre f.vr f.rs
theorem Fn.at.mono {f : Fn} {news news' : List (Addr × Obj)} (h : f.at news) (hs : ∀ p ∈ news, p ∈ news') : f.at news' := ⟨hs _ h.ha, hs _ h.hp, hs _ h.hr, h.ip, h.ir⟩
section
variable {prog : Program} {w : World} {A : Around} {E : Value → Shared → Prop} {s : Shared} {h₀ : Heap} {L : Addr} {m : Str → Option Value} {news : List (Addr × Obj)}
theorem readsAll_ints {h : Heap} : ∀ {vs : List Value} {ns : List Int}, IntsAre vs ns → ReadsAll h vs (ns.map PyData.int) []
  | _, _, .nil => .nil
  | _, _, .cons _ t r => .cons (as := []) (.int _ t) (readsAll_ints r)
def fnD (ps rs : List Int) : PyData := .tuple [.tuple (ps.map PyData.int), .tuple (rs.map PyData.int)]
theorem fn_reads {h : Heap} {f : Fn} (N : News h₀ L h news) (hf : f.at news) : Reads h (.ref f.a) (fnD f.ps f.rs) [] := by
  obtain ⟨h1, h2, h3, h4, h5⟩ := hf
  refine reads_tuple_at (N _ h1).1 rfl rfl (.cons (as := []) ?_ (.cons (as := []) ?_ .nil))
  · exact reads_tuple_at (N _ h2).1 rfl rfl (readsAll_ints h4)
  · exact reads_tuple_at (N _ h3).1 rfl rfl (readsAll_ints h5)
theorem fn_shaped (ps rs : List Int) : SeqAt.shaped (fnD ps rs) = true := by
  simp [fnD, SeqAt.shaped, PyData.canLay0, PyData.canLayAll0, PyData.depth, PyData.depthAll, ke_canLayAll0, ke_depthAll]
theorem fn_eqv (ps rs ps2 rs2 : List Int) : PyData.eqv (fnD ps rs) (fnD ps2 rs2) = decide (ps = ps2 ∧ rs = rs2) := by
  simp only [fnD, PyData.eqv, PyData.eqvAll, ked_eqvAll]
  by_cases h : ps = ps2 <;> by_cases h' : rs = rs2 <;> simp [h, h']
theorem fn_eq {f g : Fn} {Q : Value → Shared → Prop} (N : News h₀ L s.heap news) (hf : f.at news) (hg : g.at news) (hu : A.units + 64 < cLine) (h : Q (.bool (decide (f.ps = g.ps ∧ f.rs = g.rs))) s) :
    wpAny (model prog w) A (compareOp .Eq (.ref f.a) (.ref g.a)) Q E s :=
  eq_dataH (fn_reads N hf) (fn_reads N hg) (fn_shaped _ _) (fn_shaped _ _) hu (by rw [fn_eqv]; exact h)
theorem cell_eq {x y : Addr} {a1 b1 a2 b2 : Int} {t1 t2 t3 t4 : Tok} {Q : Value → Shared → Prop} (N : News h₀ L s.heap news) (hx : (x, tupO [.int a1 t1, .int b1 t2]) ∈ news) (hy : (y, tupO [.int a2 t3, .int b2 t4]) ∈ news)
    (hu : A.units + 64 < cLine) (h : Q (.bool (decide (a1 = a2) && decide (b1 = b2))) s) :
    wpAny (model prog w) A (compareOp .Eq (.ref x) (.ref y)) Q E s := by
  refine eq_dataH (da := .tuple [.int a1, .int b1]) (db := .tuple [.int a2, .int b2]) (reads_tuple_at (N _ hx).1 rfl rfl (.cons (as := []) (.int _ _) (.cons (as := []) (.int _ _) .nil))) (reads_tuple_at (N _ hy).1 rfl rfl (.cons (as := []) (.int _ _) (.cons (as := []) (.int _ _) .nil))) rfl rfl hu ?_
  have e : PyData.eqv (.tuple [.int a1, .int b1]) (.tuple [.int a2, .int b2]) = (decide (a1 = a2) && decide (b1 = b2)) := by
    simp only [PyData.eqv, PyData.eqvAll, Bool.and_true]
    by_cases h : a1 = a2 <;> by_cases h' : b1 = b2 <;> simp [h, h']
  rw [e]; exact h
end
local macro_rules | `(tactic| k_mem) => `(tactic| first | assumption | (refine List.mem_cons_of_mem _ ?_; k_mem))
local macro_rules | `(tactic| walk_at "subscriptTail Name Slice ref ref") => `(tactic| (k_here; k_dflt (refine' tup_slice ?F ?N ?l ?p ?q ?e ?_ ?s ?t ?z; (case F => k_asm); (case N => k_asm); (case l => k_mem); (case p => kmk_part); (case q => kmk_part); (case e => exact rfl); (case s => with_unfolding_all rfl); (case t => kmk_pure); (case z => exact Nat.le_of_ble_eq_true rfl)); intro D' h' F' N'; (try k_sweep)))
local macro_rules | `(tactic| walk_at "call type:tuple") => `(tactic| (k_here; k_dflt (refine' tup_of ?F ?N ?_; (case F => k_asm); (case N => first | exact List.mem_cons_self .. | k_mem))))
theorem sub0 {news : List (Addr × Obj)} : ∀ p ∈ news, p ∈ news := fun _ h => h
theorem sub1 {a : Addr × Obj} {news news' : List (Addr × Obj)} (h : ∀ p ∈ news, p ∈ news') : ∀ p ∈ news, p ∈ a :: news' := fun p hp => .tail _ (h p hp)
local macro_rules | `(tactic| walk_at "subs") => `(tactic| first | exact sub0 | (refine sub1 ?_; walk_at "subs"))
local macro_rules | `(tactic| walk_at "compareOp Eq ref ref") => `(tactic| (k_here; k_dflt (first
  | (refine' cell_eq ?F ?N ?M ?u ?_; (case F => k_asm); (case N => first | exact List.mem_cons_self .. | k_mem); (case M => first | exact List.mem_cons_self .. | k_mem); (case u => ke_room))
  | k_extra "fneq")))
theorem con_match3 (w : World) (base : Heap) (x y : Addr) (a1 b1 a2 b2 : Int) (t0 t1 t2 t3 t4 : Tok) (news : List (Addr × Obj))
    (hx : (x, tupO [.int a1 t1, .int b1 t2]) ∈ news) (hy : (y, tupO [.int a2 t3, .int b2 t4]) ∈ news) :
    Con w base 12 28 [.int 3 t0, .ref x, .ref y] news (fun r tl => tl = [] ∧ r = .bool (decide (a1 = a2) && decide (b1 = b2))) := by
  unfold Con
  k_fill
  w_top off
  k_with_none
  intro mean mg mb dp un gd cn cs a ccd cl outer A₀ h₀ L m s Q E B F X N T hk hd hu hret
  k_with_none
  refine wpAny_call ?_
  k_dflt cell_enter
  k_steps
  rename News _ _ _ _ => N9
  exact hret _ [] _ _ (by k_asm) (kst_newsOf N9 (by walk_at "subs")) (fun _ _ _ h => nomatch h) ⟨rfl, rfl⟩
theorem con_match0 (w : World) (base : Heap) (f g : Fn) (t0 : Tok) (news : List (Addr × Obj))
    (hf : f.at news) (hg : g.at news) :
    Con w base 12 28 [.int 0 t0, .ref f.a, .ref g.a] news (fun r tl => tl = [] ∧ r = .bool (decide (f.ps = g.ps ∧ f.rs = g.rs))) := by
  unfold Con
  k_fill
  w_top off
  k_with_none
  intro mean mg mb dp un gd cn cs a ccd cl outer A₀ h₀ L m s Q E B F X N T hk hd hu hret
  k_with_none
  have hfa := hf.ha
  have hga := hg.ha
  k_with "fneq" => (refine' fn_eq (f := { f with a := _ }) (g := { g with a := _ }) ?N ?f1 ?g1 ?u ?_
                    case N => k_asm
                    case f1 => exact ⟨by k_mem, by (have := hf.hp; k_mem), by (have := hf.hr; k_mem), hf.ip, hf.ir⟩
                    case g1 => exact ⟨by k_mem, by (have := hg.hp; k_mem), by (have := hg.hr; k_mem), hg.ip, hg.ir⟩
                    case u => ke_room)
  refine wpAny_call ?_
  k_dflt cell_enter
  k_steps
  rename News _ _ _ _ => N9
  exact hret _ [] _ _ (by k_asm) (kst_newsOf N9 (by walk_at "subs")) (fun _ _ _ h => nomatch h) ⟨rfl, rfl⟩
end Mine
end
-- TLoop
section
open PySem PySem.W PySem.Calls PySem.Spec PyProof.Rows
namespace Mine
section
variable {prog : Program} {w : World} {A : Around} {E : Value → Shared → Prop} {s : Shared} {env : Env} {h₀ : Heap} {x : Str} {body : List Stmt} {Q : Flow → Shared → Prop}
theorem take_snoc_range (n i : Nat) (hi : i < n) : (rangeKs 0 n).take (i + 1) = (rangeKs 0 n).take i ++ [(i : Int)] := by
  have hk : (rangeKs 0 n)[i]? = some ((i : Int)) := by simp [rangeKs, hi]
  simp [List.take_add_one, hk]
theorem take_range_len (n i : Nat) (hi : i ≤ n) : ((rangeKs 0 n).take i).length = i := by rw [List.length_take, rangeKs_length]; omega
/-- a for over a tuple of the ledger, the state told by letters -/
theorem tup_loop {σ : Type} {t : Addr} {its : List Value} {m₀ : Str → Option Value} (Led : σ → List (Addr × Obj)) (ps : σ → List (Str × Value)) (Facts : σ → Prop) (stored : List Str) (P : List Int → σ → Prop) (c₀ : σ)
    (hh : A.handled = none) (ht : ∀ c, (t, tupO its) ∈ Led c) (F : Fr h₀ env.locals s.heap m₀) (N : News h₀ env.locals s.heap (Led c₀)) (hf : Facts c₀) (hk : ∀ p ∈ ps c₀, m₀ p.1 = some p.2) (hp : P [] c₀)
    (turn : ∀ (c : σ) (pre : List Int) (v : Value) (u : Str → Option Value) h tk own, its[pre.length]? = some v → OwnOff own ((Led c₀).map (·.1)) → Facts c → P pre c →
      Fr h₀ env.locals h (fun y => if y = x then some v else kstB (fun z => if stored.contains z then u z else m₀ z) (ps c) y) → News h₀ env.locals h (Led c ++ own) →
      wpAny (model prog w) A (execs body env) (InvPostN h₀ env.locals (KstS Led ps Facts x stored m₀ P (pre ++ [(pre.length : Int)])) own ((Led c₀).map (·.1)) { s with heap := h, toks := tk } Q) E { s with heap := h, toks := tk })
    (done : ∀ (c : σ) (u : Str → Option Value) h tk, Facts c → P (rangeKs 0 its.length) c → Fr h₀ env.locals h (fun y => if y = x then u y else kstB (fun z => if stored.contains z then u z else m₀ z) (ps c) y) → News h₀ env.locals h (Led c) → Q .next { s with heap := h, toks := tk }) :
    wpAny (model prog w) A (pyIter (.ref t)) (fun it s₂ => LoopAtV prog w A h₀ env x body Q E it s₂) E s := by
  have hot : s.heap.get? t = some (tupO its) := (N _ (ht c₀)).1
  have hts : s.heap.IsTuple t its.toArray := ⟨_, hot, rfl, _, rfl⟩
  have hne : t ≠ s.heap.objs.size := Nat.ne_of_lt (Heap.lt_size hot)
  refine wpAny_pyIter_tuple hts ?_
  have W := Walks.tuple (prog := prog) (w := w) hh s.heap.objs.size t hne its.toArray
  have freshI : ∀ p ∈ Led c₀, p.1 ≠ s.heap.objs.size := fun p hp => Nat.ne_of_lt (Heap.lt_size (N p hp).1)
  let K : Nat → (Str → Option Value) → List (Addr × Obj) → Prop := fun i m nx => nx.map (·.1) = (Led c₀).map (·.1) ∧ KstS Led ps Facts x stored m₀ P ((rangeKs 0 its.length).take i) m nx
  refine ⟨_, _, _, _, _, _, m₀, Led c₀, K, rfl, W, ?_, ?_, ?_, ⟨⟨_, Heap.get?_push_size _ rfl, rfl, rfl⟩, hts.at fun o e => Heap.get?_push_of_some _ e⟩, F.push _, (fun p hp => ⟨Heap.get?_push_of_some _ (N p hp).1, (N p hp).2⟩),
    ⟨rfl, c₀, rfl, hf, hk, fun _ _ _ _ => rfl, by simpa using hp⟩, ?_, ?_⟩
  · intro hm
    rcases List.mem_cons.mp hm with e | hm
    · exact absurd F.ns.lt (e ▸ Nat.lt_irrefl _)
    · exact (N _ (ht c₀)).2.1 (List.mem_singleton.mp hm).symm
  · intro b hb
    rw [List.mem_singleton.mp hb]
    exact next_is_new F
  · intro p hp hI
    exact freshI p hp (List.mem_singleton.mp hI)
  · rintro i v m₁ nx s₁ own ⟨hh', tk', rfl⟩ hin hP ⟨hadr, c, rfl, hf', h1, h2, hp'⟩ hoff hown hget hfp _ F₁ N₁
    have hin' : i < its.length := by simpa using hin
    have hP' : its[i]? = some v := by simpa using hP
    have hlen := take_range_len its.length i (Nat.le_of_lt hin')
    let own' := own.filter fun p => decide (p.1 = s.heap.objs.size)
    have hsep : OwnOff own' ((Led c₀).map (·.1)) := by
      intro p hp b hb e
      obtain ⟨q, hq, rfl⟩ := List.mem_map.mp hb
      have : p.1 = s.heap.objs.size := by simpa using (List.mem_filter.mp hp).2
      exact freshI q hq (e ▸ this)
    have N₂ : News h₀ env.locals hh' (Led c ++ own') := fun p hp => N₁ p ((List.mem_append.mp hp).elim (fun h => List.mem_append.mpr (.inr h)) fun h => List.mem_append.mpr (.inl (List.mem_filter.mp h).1))
    have htt : hh'.get? t = some (tupO its) := (N₁ _ (List.mem_append.mpr (.inr (ht c)))).1
    have tn := turn c ((rangeKs 0 its.length).take i) v m₁ hh' tk' own' (by rw [hlen]; exact hP') hsep hf' hp' (kst_fr h1 h2 F₁) N₂
    rw [hlen, ← take_snoc_range _ _ hin'] at tn
    refine wpAny_mono tn (fun f s₂ p => ?_) fun _ _ e => e
    have fin : InvEndN h₀ env.locals (KstS Led ps Facts x stored m₀ P ((rangeKs 0 its.length).take (i + 1))) own' ((Led c₀).map (·.1)) { s with heap := hh', toks := tk' } s₂ →
        LoopStepU h₀ env.locals [s.heap.objs.size] own (K (i + 1)) { s with heap := hh', toks := tk' } .next s₂ := by
      rintro ⟨h', tk, m', news', nx, e, F', N', hn, ho, ha, hS⟩
      refine ⟨rfl, h', tk, m', nx, e, F', fun p hp => ?_, fun p hp hI => ?_, ha, hS⟩
      · rcases List.mem_append.mp hp with h | h
        · by_cases hI : p.1 = s.heap.objs.size
          · exact N' p (ho p (List.mem_filter.mpr ⟨h, by simpa using hI⟩))
          · have e1 : p.1 = t := by
              rcases List.mem_cons.mp (hown p h) with h2 | h2
              · exact absurd h2 hI
              · exact List.mem_singleton.mp h2
            have e2 : hh'.get? p.1 = some p.2 := hget p h
            rw [e1, htt] at e2
            rw [show p = (t, tupO its) from Prod.ext e1 (Option.some.inj e2).symm]
            obtain ⟨c', rfl, _⟩ := hS
            exact N' _ (hn _ (ht c'))
        · exact N' p (hn p h)
      · have e1 : p.1 ∈ nx.map (·.1) := List.mem_map.mpr ⟨p, hp, rfl⟩
        rw [ha] at e1
        obtain ⟨q, hq, e⟩ := List.mem_map.mp e1
        exact freshI q hq (e.trans (List.mem_singleton.mp hI))
    cases f with
    | ret v => exact .ret p
    | brk => exact .brk p
    | next => exact .next (fin p)
    | cont => exact .cont (fin p)
  · rintro h' tk m' nx F' N' _ ⟨_, c, rfl, hf', h1, h2, hp'⟩
    have hl : (rangeKs 0 its.length).take its.toArray.size = rangeKs 0 its.length := List.take_of_length_le (by rw [rangeKs_length, List.size_toArray]; exact Nat.le_refl _)
    rw [hl] at hp'
    exact done c m' h' tk hf' hp' (kst_frOut h1 h2 F') N'
end
end Mine
end
-- CNumber
section
open PySem PySem.W PySem.Calls PyProof.Rows
namespace Mine
def dgt (k : Int) : Int := if k = -1 then 1 else if k = -2 then 2 else if k = -16 then 3 else 4
def numSide (n : Int) (ks : List Int) : Int := ks.foldl (fun a k => 5 * a + dgt k) n
def numFn (ps rs : List Int) : Int := 5 * numSide (5 * numSide 1 ps) rs
def OkSide (ks : List Int) : Prop := ∀ k ∈ ks, k = -1 ∨ k = -2 ∨ k = -16 ∨ k = -17
def Fn.side (f : Fn) (i : Nat) : List Int := if i = 0 then f.ps else f.rs
def Fn.num (f : Fn) (i : Nat) : Int := if i = 0 then 1 else if i = 1 then 5 * numSide 1 f.ps else numFn f.ps f.rs
theorem num_step (f : Fn) {i : Nat} (hi : i < 2) : 5 * numSide (f.num i) (f.side i) = f.num (i + 1) := by
  rcases (by omega : i = 0 ∨ i = 1) with rfl | rfl <;> rfl
theorem side_at {f : Fn} {news : List (Addr × Obj)} (hf : f.at news) (hp : OkSide f.ps) (hr : OkSide f.rs) {i : Nat} {v : Value} (h : [Value.ref f.p, Value.ref f.r][i]? = some v) :
    i < 2 ∧ ∃ b vs, v = .ref b ∧ (b, tupO vs) ∈ news ∧ IntsAre vs (f.side i) ∧ OkSide (f.side i) := by
  have hi : i < 2 := by
    rcases Nat.lt_or_ge i 2 with h2 | h2
    · exact h2
    · rw [List.getElem?_eq_none (by simpa using h2)] at h; cases h
  rcases (by omega : i = 0 ∨ i = 1) with rfl | rfl
  · simp at h; subst h; exact ⟨by omega, _, _, rfl, hf.hp, hf.ip, hp⟩
  · simp at h; subst h; exact ⟨by omega, _, _, rfl, hf.hr, hf.ir, hr⟩
theorem numSide_snoc (n : Int) (ks : List Int) (i : Nat) (k : Int) (h : ks[i]? = some k) : numSide n (ks.take (i + 1)) = 5 * numSide n (ks.take i) + dgt k := by
  unfold numSide
  rw [List.take_add_one, h]
  simp
theorem one_at {vs : List Value} {ks : List Int} (hi : IntsAre vs ks) (ho : OkSide ks) {i : Nat} {v : Value} (h : vs[i]? = some v) : ∃ k t, v = .int k t ∧ ks[i]? = some k ∧ (k = -1 ∨ k = -2 ∨ k = -16 ∨ k = -17) := by
  obtain ⟨k, t, e, hk⟩ := IntsAre.at hi i v h
  exact ⟨k, t, e, hk, ho k (List.mem_of_getElem? hk)⟩
local macro_rules | `(tactic| walk_at "exec For Name Name cons nil") => `(tactic| (k_here; (rename Fr _ _ _ _ => lF'); (with_unfolding_all refine' For_invVF lF' ?k1 ?k2 ?_; (case k1 => exact rfl); (case k2 => exact rfl); k_whole)))
local macro_rules | `(tactic| walk_at "pyIter ref") => `(tactic| k_extra "myiter")
local macro_rules | `(tactic| walk_at "InvEndN") => `(tactic| k_extra "myend")
theorem all_ne_of {d : Addr} {l : List (Addr × Obj)} (h : ∀ p ∈ l, p.1 < d) : ∀ p ∈ l, p.1 ≠ d := fun p hp => Nat.ne_of_lt (h p hp)
local macro_rules | `(tactic| k_all) => `(tactic| assumption)
local macro_rules | `(tactic| walk_at "eval Dict") => `(tactic| (k_here; k_dflt (refine' kdn_eval (knd := PySem.intKind _ _) ?F ?N ?b ?a ?l ?e ?n ?_; (case F => k_asm); (case N => k_asm); (case b => exact Top.nolimit (by k_asm)); (case a => rfl); (case l => rfl); (case e => exact List.cons_ne_nil _ _); (case n => exact Nat.le_of_ble_eq_true rfl)); intro d' h' o' F' N' l1 lo' hd'; (replace l1 := all_ne_of l1)))
section
variable {prog : Program} {w : World} {A : Around} {E : Value → Shared → Prop} {s : Shared} {h₀ : Heap} {L d : Addr} {news : List (Addr × Obj)} {o : Obj} {kvs : List (Int × Value)} {k : Int} {key v : Value}
theorem dict_item {value slice : Expr} {Q : Value → Shared → Prop} (N : News h₀ L s.heap news) (hp : (d, o) ∈ news) (hd : o.IsDictOf (PySem.intKind prog w) kvs) (hkey : (PySem.intKind prog w).is k key = true) (hl : valueAt kvs k = some v) (h : Q v { s with toks := s.toks + 1 })
    (hs : subscripted slice false (.ref d) key = operate [.ref d, key] (getItem (.ref d) key)) :
    wpAny (model prog w) A (subscriptTail value slice (.ref d) key) Q E s :=
  have hD := kda_dict N hp hd
  tail_any hD.typeIs slot_dict_getitem.lookup (wpAny_getItem_of hkey hD.mapOf hl h) hs
end
local macro_rules | `(tactic| walk_at "subscriptTail") => `(tactic| (k_here; k_dflt (refine' dict_item ?N ?p ?d (intKind_is _ _ _ _) ?l ?_ ?s; (case N => k_asm); (case p => exact List.mem_cons_self ..); (case d => k_asm); (case l => exact rfl); (case s => with_unfolding_all rfl))))
theorem inner_end {n dN k : Int} {ks pre2 : List Int} (hk : ks[pre2.length]? = some k) (h : dN = numSide n (ks.take pre2.length)) : 5 * dN + dgt k = numSide n (ks.take (pre2 ++ [(pre2.length : Int)]).length) := by
  rw [List.length_append, List.length_singleton, numSide_snoc _ _ _ _ hk, ← h]
theorem outer_end {f : Fn} {dN : Int} {pre : List Int} {vs : List Value} (hI : IntsAre vs (f.side pre.length)) (hi : pre.length < 2) (h : dN = numSide (f.num pre.length) ((f.side pre.length).take (rangeKs 0 vs.length).length)) : 5 * dN = f.num (pre ++ [(pre.length : Int)]).length := by
  rw [List.length_append, List.length_singleton, ← num_step f hi, h, rangeKs_length, hI.length, List.take_length]
local macro_rules | `(tactic| walk_at "subs") => `(tactic| first | exact sub0 | (refine sub1 ?_; walk_at "subs"))
local macro_rules | `(tactic| walk_at "kstend") => `(tactic| (
    (rename News _ _ _ _ => nE')
    refine kst_end (σ := Int × Tok) (_, _) (by assumption) nE' (by intro p hp; kst_mem) (by intro p hp; kst_mem) (by rfl) True.intro (List.forall_mem_singleton.mpr (by with_unfolding_all rfl)) (by (intro z h1 h2 h3; have h4 := h2 _ (.head _); (simp only [List.contains_cons, List.contains_nil, Bool.or_false, Bool.or_eq_false_iff, beq_eq_false_iff_ne, ne_eq] at h3); dsimp only at h4; (simp [kstB, h1, h4, h3]; done))) ?_))
theorem con_number (w : World) (base : Heap) (f : Fn) (news : List (Addr × Obj))
    (hf : f.at news) (hp : OkSide f.ps) (hr : OkSide f.rs) (hl : f.ps.length + f.rs.length ≤ 8) :
    Con w base 12 80 [.ref f.a] news (fun r tl => tl = [] ∧ ∃ t, r = .int (numFn f.ps f.rs) t) := by
  unfold Con
  k_fill
  w_top off
  k_with_none
  intro mean mg mb dp un gd cn cs a ccd cl outer A₀ h₀ L m s Q E B F X N T hk hd hu hret
  k_with_none
  have hfa := hf.ha
  k_with "myiter" => (
    (rename Fr _ _ _ _ => lF')
    (rename News _ _ _ _ => lN')
    k_dflt (refine' tup_loop (σ := Int × Tok) (t := f.a) (its := [.ref f.p, .ref f.r]) (fun _ => news) (fun c => [(Str.ofString "number", .int c.1 c.2)]) (fun _ => True) [Str.ofString "one"] (fun pre c => c.1 = f.num pre.length) (1, _) (by rfl) (fun _ => hfa) lF' lN' True.intro (List.forall_mem_singleton.mpr rfl) rfl ?_ ?_)
    clear lF' lN'
    rintro ⟨cN, cT⟩ pre v u h9 tk9 own9 hv9 off9 - hP9 F9 N9
    obtain ⟨hi9, bS, vS, rfl, hb9, hI9, hO9⟩ := side_at hf hp hr hv9
    (try k_fold)
    rotate_left
    clear lF' lN'
    rintro ⟨cN, cT⟩ u h9 tk9 - hP9 F9 N9
    (try k_fold)
    rotate_right)
  k_with "myiter" => (
    (rename Fr _ _ _ _ => lF')
    (rename News _ _ _ _ => lN')
    k_dflt (refine' tup_loop (σ := Int × Tok) (t := bS) (its := vS) (fun _ => news ++ own9) (fun c => [(Str.ofString "number", .int c.1 c.2)]) (fun _ => True) [] (fun pre2 c => c.1 = numSide (f.num pre.length) ((f.side pre.length).take pre2.length)) (cN, cT) (by rfl) (fun _ => List.mem_append.mpr (.inl hb9)) lF' lN' True.intro (List.forall_mem_singleton.mpr rfl) hP9 ?_ ?_)
    rotate_left
    clear lF' lN'
    rintro ⟨dN, dT⟩ u2 h8 tk8 - hP8 F8 N8
    (try k_fold)
    rotate_right
    clear lF' lN'
    rintro ⟨dN, dT⟩ pre2 v2 u2 h8 tk8 own8 hv8 off8 - hP8 F8 N8
    obtain ⟨k8, t8, rfl, hk8, ho8⟩ := one_at hI9 hO9 hv8
    (try k_fold)
    rcases ho8 with rfl | rfl | rfl | rfl)
  k_with "myend" => (k_dflt (walk_at "kstend"; exact outer_end hI9 hi9 hP8))
  k_with "myend" => (k_dflt (walk_at "kstend"; exact inner_end hk8 hP8))
  refine wpAny_call ?_
  k_dflt cell_enter
  k_steps
  rename News _ _ _ _ => N9
  exact hret _ [] _ _ (by k_asm) (kst_newsOf N9 (by walk_at "subs")) (fun _ _ _ h => nomatch h) ⟨rfl, _, congrArg (Value.int · _) hP9⟩
end Mine
end
-- CFunc
section
open PySem PySem.W PySem.Calls PyProof.Rows
namespace Mine
local macro_rules | `(tactic| walk_at "dummy0") => `(tactic| fail)
local macro_rules | `(tactic| walk_at "dummy1") => `(tactic| fail)
def ConG (w : World) (base : Heap) (k : Nat) (f : Addr) (args : List Value) (news : List (Addr × Obj)) (Post : Value → List (Addr × Obj) → Prop) : Prop :=
  ∀ (mean : ExcName → Option Value) (mg mb : Str → Option Value) (dp un : Nat) (gd : Option (List Code)) (cn : Str) (cs : Scope) (a : Addr) (ccd : Value) (cl : List (Str × Addr)) (outer : List Env) (A₀ : Around) (h₀ : Heap) (L : Addr) (m : Str → Option Value) (s : Shared) (Q E : Value → Shared → Prop),
    Below A₀ base outer h₀ → Fr h₀ L s.heap m → (Mine.hd.heap_39 w.params).In h₀ → News h₀ L s.heap news → Top Mine.hd.view_39 (looseW Mine.hd.view_39 []) mean mg mb h₀ → cs.kind = .function → dp + k < recursionLimit → un + 8 * k < cLine →
    (∀ r tl h' tk', Fr h₀ L h' m → News h₀ L h' (tl ++ news) → Post r tl → Q r { s with heap := h', toks := tk' }) →
    wpAny (model PySem.Challenge.rw_nm0107_01.row.prog w) (ktrTop dp un gd cn cs L a ccd cl outer) (call (.ref f) args) Q E s
theorem con_useG {w : World} {base : Heap} {k : Nat} {f : Addr} {args : List Value} {news : List (Addr × Obj)} {Post : Value → List (Addr × Obj) → Prop}
    (C : ConG w base k f args news Post)
    {mean : ExcName → Option Value} {mg mb : Str → Option Value} {dp un : Nat} {gd : Option (List Code)} {cn : Str} {cs : Scope} {a : Addr} {ccd : Value} {cl : List (Str × Addr)} {outer : List Env} {A₀ : Around} {h₀ : Heap} {L : Addr} {m : Str → Option Value} {s : Shared} {Q E : Value → Shared → Prop}
    (B : Below A₀ base outer h₀) (F : Fr h₀ L s.heap m) (X : (Mine.hd.heap_39 w.params).In h₀) (N : News h₀ L s.heap news) (T : Top Mine.hd.view_39 (looseW Mine.hd.view_39 []) mean mg mb h₀) (hk : cs.kind = .function) (hd : dp + k < recursionLimit) (hu : un + 8 * k < cLine)
    (ret : ∀ r tl h' tk', Fr h₀ L h' m → News h₀ L h' (tl ++ news) → Post r tl → Q r { s with heap := h', toks := tk' }) :
    wpAny (model PySem.Challenge.rw_nm0107_01.row.prog w) (ktrTop dp un gd cn cs L a ccd cl outer) (call (.ref f) args) Q E s :=
  C _ _ _ _ _ _ _ _ _ _ _ _ _ _ _ _ _ _ _ B F X N T hk hd hu ret
structure Fn.ok (f : Fn) (n : Nat) : Prop where
  hp : OkSide f.ps
  hr : OkSide f.rs
  hl : f.ps.length + f.rs.length ≤ n
abbrev Fn.ents (f : Fn) : List (Addr × Obj) := [(f.a, tupO [.ref f.p, .ref f.r]), (f.p, tupO f.vp), (f.r, tupO f.vr)]
def FuncPost (n : Nat) (r : Value) (tl : List (Addr × Obj)) : Prop := ∃ g : Fn, r = .ref g.a ∧ tl = g.ents ∧ IntsAre g.vp g.ps ∧ IntsAre g.vr g.rs ∧ g.ok n
def pickI (l : List Int) (lo hi : Option Int) : List Int := (l.drop (kms_lo lo l.length)).take (kms_hi hi l.length - kms_lo lo l.length)
theorem ints_pick {vs : List Value} {ks : List Int} {lo hi : Option Int} (h : IntsAre vs ks) : IntsAre (kms_pick vs lo hi) (pickI ks lo hi) := by
  unfold kms_pick pickI
  rw [h.length]
  exact (h.drop _).take _
theorem ok_pick {ks : List Int} {lo hi : Option Int} (h : OkSide ks) : OkSide (pickI ks lo hi) := fun k hk => h k (List.mem_of_mem_drop (List.mem_of_mem_take hk))
theorem ok_app {ks ls : List Int} (h : OkSide ks) (h2 : OkSide ls) : OkSide (ks ++ ls) := fun k hk => (List.mem_append.mp hk).elim (h k) (h2 k)
theorem pick_len (vs : List Value) (lo hi : Option Int) : (kms_pick vs lo hi).length ≤ vs.length := by
  unfold kms_pick
  rw [List.length_take, List.length_drop]
  omega
theorem func_end {n : Nat} {h₀ : Heap} {L : Addr} {m : Str → Option Value} {s : Shared} {news led : List (Addr × Obj)} {Q : Value → Shared → Prop} {D p r : Addr} {vp vr : List Value} {ps rs : List Int} {h' : Heap} {tk' : Tok}
    (hret : ∀ r tl h' tk', Fr h₀ L h' m → News h₀ L h' (tl ++ news) → FuncPost n r tl → Q r { s with heap := h', toks := tk' })
    (F : Fr h₀ L h' m) (N : News h₀ L h' led) (ha : (D, tupO [.ref p, .ref r]) ∈ led) (hp : (p, tupO vp) ∈ led) (hr : (r, tupO vr) ∈ led) (hsub : ∀ p ∈ news, p ∈ led)
    (ip : IntsAre vp ps) (ir : IntsAre vr rs) (op : OkSide ps) (or : OkSide rs) (hl : ps.length + rs.length ≤ n) :
    Q (.ref D) { s with heap := h', toks := tk' } := by
  refine hret _ (Fn.ents ⟨D, p, r, vp, vr, ps, rs⟩) _ _ F (fun q hq => ?_) ⟨⟨D, p, r, vp, vr, ps, rs⟩, rfl, rfl, ip, ir, op, or, hl⟩
  rcases List.mem_append.mp hq with hq | hq
  · rcases List.mem_cons.mp hq with rfl | hq
    · exact N _ ha
    · rcases List.mem_cons.mp hq with rfl | hq
      · exact N _ hp
      · rw [List.mem_singleton.mp hq]; exact N _ hr
  · exact N _ (hsub _ hq)
theorem ints_sz {vs : List Value} {ks : List Int} {n : Nat} (h : IntsAre vs ks) (hl : ks.length ≤ n) (hn : n ≤ 1000) : vs.length ≤ sizeLine := by
  rw [h.length, sizeLine_eq]; omega
local macro_rules | `(tactic| k_mem) => `(tactic| first | assumption | (refine List.mem_cons_of_mem _ ?_; k_mem))
theorem pick_sz {vs : List Value} {lo hi : Option Int} {n : Nat} (h : vs.length ≤ n) : (kms_pick vs lo hi).length ≤ n := Nat.le_trans (pick_len _ _ _) h
theorem two_sz {vs ws : List Value} {a b : Nat} (h : vs.length ≤ a) (h2 : ws.length ≤ b) (hb : a + b ≤ 1000) : vs.length + ws.length ≤ sizeLine := by
  rw [sizeLine_eq]; omega
theorem one_sz {vs : List Value} {a : Nat} (h : vs.length ≤ a) (hb : a ≤ 1000) : vs.length ≤ sizeLine := by
  rw [sizeLine_eq]; omega
local macro_rules | `(tactic| walk_at "tsz0") => `(tactic| first | (with_reducible assumption) | (with_reducible exact pick_sz (by assumption)) | exact Nat.le_refl _)
local macro_rules | `(tactic| walk_at "tsz") => `(tactic| first | (refine' one_sz ?A ?B; (case A => walk_at "tsz0"); (case B => exact Nat.le_of_ble_eq_true rfl)) | (refine' two_sz ?A ?C ?B; (case A => walk_at "tsz0"); (case C => walk_at "tsz0"); (case B => exact Nat.le_of_ble_eq_true rfl)))
local macro_rules | `(tactic| walk_at "subscriptTail Name Slice ref ref") => `(tactic| (k_here; k_dflt (refine' tup_slice ?F ?N ?l ?p ?q ?e ?_ ?s ?t ?z; (case F => k_asm); (case N => k_asm); (case l => k_mem); (case p => kmk_part); (case q => kmk_part); (case e => exact rfl); (case s => with_unfolding_all rfl); (case t => kmk_pure); (case z => walk_at "tsz")); intro D' h' F' N'; (try k_sweep)))
local macro_rules | `(tactic| walk_at "binaryOp Add") => `(tactic| (k_here; (with_reducible show wpAny _ _ (binaryOp _ (Value.ref _) (Value.ref _)) _ _ _); k_dflt (refine' tup_add ?F ?N ?l ?p ?e ?_ ?z; (case F => k_asm); (case N => k_asm); (case l => first | exact List.mem_cons_self .. | k_mem); (case p => first | exact List.mem_cons_self .. | k_mem); (case e => exact rfl); (case z => walk_at "tsz")); intro D' h' F' N'; (try k_sweep)))
theorem ok_menu (i : Int) (h0 : 0 ≤ i) (h4 : i < 4) : OkSide [[-1, -2, -16, -17].getD i.toNat 0] := by
  intro k hk
  rw [List.mem_singleton.mp hk]
  rcases (by omega : i = 0 ∨ i = 1 ∨ i = 2 ∨ i = 3) with rfl | rfl | rfl | rfl <;> simp
local macro_rules | `(tactic| walk_at "subs") => `(tactic| first | exact sub0 | (refine sub1 ?_; walk_at "subs"))
local macro_rules | `(tactic| walk_at "tints") => `(tactic| first | (with_reducible assumption) | (with_reducible exact IntsAre.cons _ _ .nil) | ((with_reducible refine' IntsAre.append ?A ?B); (case A => walk_at "tints"); (case B => walk_at "tints")) | ((with_reducible refine' ints_pick ?A); (case A => walk_at "tints")))
local macro_rules | `(tactic| walk_at "toks") => `(tactic| first | (with_reducible assumption) | ((with_reducible refine' ok_app ?A ?B); (case A => walk_at "toks"); (case B => walk_at "toks")) | ((with_reducible refine' ok_pick ?A); (case A => walk_at "toks")) | exact ok_menu _ (Int.fmod_nonneg_of_pos _ (by decide)) (Int.fmod_lt_of_pos _ (by decide)))
theorem con_func (w : World) (base : Heap) (f : Fn) (number : Int) (t0 : Tok) (n : Nat) (news : List (Addr × Obj))
    (hf : f.at news) (ho : f.ok n) (hn : n ≤ 8) :
    ConG w base 12 68 [.ref f.a, .int number t0] news (FuncPost (n + 1)) := by
  unfold ConG
  k_fill
  w_top off
  k_with_none
  intro mean mg mb dp un gd cn cs a ccd cl outer A₀ h₀ L m s Q E B F X N T hk hd hu hret
  k_with_none
  obtain ⟨fa, fp, fr, vp, vr, ps, rs⟩ := f
  obtain ⟨hfa, hfp, hfr, hip, hir⟩ := hf
  dsimp only at hfa hfp hfr hip hir
  have zp : vp.length ≤ 20 := by have h1 := hip.length; have h2 := ho.hl; dsimp only at h2; omega
  have zr : vr.length ≤ 20 := by have h1 := hir.length; have h2 := ho.hl; dsimp only at h2; omega
  have hop : OkSide ps := ho.hp
  have hor : OkSide rs := ho.hr
  refine wpAny_call ?_
  k_dflt cell_enter
  k_steps
  all_goals (
    rename News _ _ _ _ => N9
    refine' func_end hret ?F N9 ?a ?b ?c ?d ?e ?f ?g ?h ?_
    (case F => assumption)
    (case a => k_mem)
    (case b => k_mem)
    (case c => k_mem)
    (case d => walk_at "subs")
    (case e => walk_at "tints")
    (case f => walk_at "tints")
    (case g => walk_at "toks")
    (case h => walk_at "toks")
    have hl := ho.hl
    (try dsimp only at hl)
    (try simp [pickI, kms_lo, kms_hi])
    omega)
end Mine
end
-- ItemR
section
open PySem PySem.W PySem.Calls PyProof.Rows
namespace Mine
def MenuInt (k : Int) : Prop := k = -1 ∨ k = -2 ∨ k = -16 ∨ k = -17
section
variable {prog : Program} {w : World} {A : Around} {E : Value → Shared → Prop} {s : Shared} {h₀ : Heap} {L : Addr} {m : Str → Option Value} {news : List (Addr × Obj)}
theorem list_item {value slice : Expr} {l : Addr} {vs : List Value} {n : Nat} {k : Int} {u : Tok} {Q : Value → Shared → Prop} (N : News h₀ L s.heap news) (hm : (l, W.listOf vs.toArray n) ∈ news)
    (h0 : 0 ≤ k) (hlt : k < vs.length) (hz : vs.length ≤ 1000) (h : ∀ v, vs[k.toNat]? = some v → Q v s)
    (hs : subscripted slice false (.ref l) (.int k u) = operate [.ref l, .int k u] (getItem (.ref l) (.int k u))) :
    wpAny (model prog w) A (subscriptTail value slice (.ref l) (.int k u)) Q E s := by
  have hl : s.heap.IsList l vs.toArray := ⟨_, (N _ hm).1, rfl, _, rfl⟩
  have hk : k.toNat < vs.length := by omega
  exact tail_any hl.typeIs slot_list_getitem.lookup (wpAny_getItem_list hl h0 (by omega) (by simpa using List.getElem?_eq_getElem hk) (h _ (List.getElem?_eq_getElem hk))) hs
theorem menu_item {value slice : Expr} {l : Addr} {t1 t2 t3 t4 : Tok} {n : Nat} {k : Int} {u : Tok} {Q : Value → Shared → Prop} (N : News h₀ L s.heap news) (hm : (l, W.listOf #[.int (-1) t1, .int (-2) t2, .int (-16) t3, .int (-17) t4] n) ∈ news)
    (h : ∀ x t, MenuInt x → Q (.int x t) s)
    (hs : subscripted slice false (.ref l) (.int (k.fmod 4) u) = operate [.ref l, .int (k.fmod 4) u] (getItem (.ref l) (.int (k.fmod 4) u))) :
    wpAny (model prog w) A (subscriptTail value slice (.ref l) (.int (k.fmod 4) u)) Q E s := by
  have h0 : 0 ≤ k.fmod 4 := Int.fmod_nonneg_of_pos _ (by decide)
  have h4 : k.fmod 4 < 4 := Int.fmod_lt_of_pos _ (by decide)
  generalize k.fmod 4 = i at h0 h4 hs ⊢
  refine list_item (vs := [.int (-1) t1, .int (-2) t2, .int (-16) t3, .int (-17) t4]) N hm h0 (by simpa using h4) (by simp) (fun v hv => ?_) hs
  rcases (by omega : i = 0 ∨ i = 1 ∨ i = 2 ∨ i = 3) with rfl | rfl | rfl | rfl
  · cases hv; exact h _ _ (.inl rfl)
  · cases hv; exact h _ _ (.inr (.inl rfl))
  · cases hv; exact h _ _ (.inr (.inr (.inl rfl)))
  · cases hv; exact h _ _ (.inr (.inr (.inr rfl)))
end
theorem four_ints {ys : List Value} (hl : ys.length = 4) (h : ∀ (i : Nat) (y : Value), ys[i]? = some y → ∃ k t, y = Value.int k t ∧ MenuInt k) :
    ∃ k0 t0 k1 t1 k2 t2 k3 t3, ys = [.int k0 t0, .int k1 t1, .int k2 t2, .int k3 t3] ∧ OkSide [k0, k1, k2, k3] := by
  match ys, hl with
  | [a, b, c, d], _ =>
    obtain ⟨k0, t0, rfl, m0⟩ := h 0 _ rfl
    obtain ⟨k1, t1, rfl, m1⟩ := h 1 _ rfl
    obtain ⟨k2, t2, rfl, m2⟩ := h 2 _ rfl
    obtain ⟨k3, t3, rfl, m3⟩ := h 3 _ rfl
    refine ⟨k0, t0, k1, t1, k2, t2, k3, t3, rfl, fun k hk => ?_⟩
    simp only [List.mem_cons, List.not_mem_nil, or_false] at hk
    rcases hk with rfl | rfl | rfl | rfl <;> assumption
theorem four_are {k0 k1 k2 k3 : Int} {t0 t1 t2 t3 : Tok} : IntsAre [.int k0 t0, .int k1 t1, .int k2 t2, .int k3 t3] [k0, k1, k2, k3] := .cons _ _ (.cons _ _ (.cons _ _ (.cons _ _ .nil)))
end Mine
end
-- GLoop
section
open PySem PySem.W PySem.Calls PySem.Spec PyProof.Rows
namespace Mine
section
variable {prog : Program} {w : World} {A : Around} {E : Value → Shared → Prop} {s : Shared} {env : Env} {h₀ : Heap} {x : Str} {body : List Stmt} {Q : Flow → Shared → Prop}
def GrJ {σ : Type} (Led : σ → List (Addr × Obj)) (x : Str) (stored : List Str) (m₀ : Str → Option Value) (P : Nat → σ → Prop) (i : Nat) (m : Str → Option Value) (nx : List (Addr × Obj)) : Prop :=
  ∃ c : σ, nx = Led c ∧ P i c ∧ ∀ z, z ≠ x → stored.contains z = false → m z = m₀ z
theorem gr_fr {L : Addr} {h : Heap} {stored : List Str} {m₀ m₁ : Str → Option Value} {v : Value} (h2 : ∀ z, z ≠ x → stored.contains z = false → m₁ z = m₀ z) (F : Fr h₀ L h (fun y => if y = x then some v else m₁ y)) :
    Fr h₀ L h (fun y => if y = x then some v else if stored.contains y then m₁ y else m₀ y) := by
  have e : (fun y => if y = x then some v else if stored.contains y then m₁ y else m₀ y) = fun y => if y = x then some v else m₁ y := by
    funext y
    by_cases h1 : y = x
    · rw [if_pos h1, if_pos h1]
    · rw [if_neg h1, if_neg h1]
      cases h3 : stored.contains y with
      | true => simp
      | false => simp only [Bool.false_eq_true, if_false]; exact (h2 y h1 h3).symm
  rw [e]; exact F
theorem gr_frOut {L : Addr} {h : Heap} {stored : List Str} {m₀ m₁ : Str → Option Value} (h2 : ∀ z, z ≠ x → stored.contains z = false → m₁ z = m₀ z) (F : Fr h₀ L h m₁) :
    Fr h₀ L h (fun y => if y = x then m₁ y else if stored.contains y then m₁ y else m₀ y) := by
  have e : (fun y => if y = x then m₁ y else if stored.contains y then m₁ y else m₀ y) = m₁ := by
    funext y
    by_cases h1 : y = x
    · rw [if_pos h1]
    · rw [if_neg h1]
      cases h3 : stored.contains y with
      | true => simp
      | false => simp only [Bool.false_eq_true, if_false]; exact (h2 y h1 h3).symm
  rw [e]; exact F
/-- a for over a range whose turn makes things that stay -/
theorem range_grow {σ : Type} {r : Addr} {b₀ : Int} {t₀ u₀ v₀ : Tok} {n : Nat} {m₀ : Str → Option Value} (Led : σ → List (Addr × Obj)) (stored : List Str) (P : Nat → σ → Prop) (c₀ : σ)
    (hh : A.handled = none) (hr : IsRange s.heap r 0 b₀ 1 t₀ u₀ v₀) (hsmall : Builtin.Range.small 0 b₀ 1 = true) (hn : Builtin.Range.rangeSize 0 b₀ 1 = (n : Int)) (F : Fr h₀ env.locals s.heap m₀) (N : News h₀ env.locals s.heap (Led c₀)) (hp : P 0 c₀)
    (turn : ∀ (c : σ) (i : Nat) t (u : Str → Option Value) h tk own, i < n → (∀ p ∈ own, p.2.cls = .type "range_iterator") → TbOff own (Led c) → P i c →
      Fr h₀ env.locals h (fun y => if y = x then some (.int (i : Int) t) else if stored.contains y then u y else m₀ y) → News h₀ env.locals h (Led c ++ own) →
      wpAny (model prog w) A (execs body env) (TbPost h₀ env.locals (GrJ Led x stored m₀ P (i + 1)) own { s with heap := h, toks := tk } Q) E { s with heap := h, toks := tk })
    (done : ∀ (c : σ) (u : Str → Option Value) h tk, P n c → Fr h₀ env.locals h (fun y => if y = x then u y else if stored.contains y then u y else m₀ y) → News h₀ env.locals h (Led c) → Q .next { s with heap := h, toks := tk }) :
    wpAny (model prog w) A (pyIter (.ref r)) (fun it s₂ => LoopAtV prog w A h₀ env x body Q E it s₂) E s := by
  refine wpAny_pyIter_range hr hsmall ?_
  have W : Walks prog w A s.heap.objs.size [s.heap.objs.size] [s.heap.objs.size] n (fun i v => i < n ∧ ∃ t, v = .int (0 + i * 1) t)
      (fun i h => IsRangeIter h s.heap.objs.size (0 + (i : Nat) * 1) ((n : Int) - (i : Nat)) 1) := (Walks.range hh _ 0 1 n).bound
  refine ⟨_, _, _, n, _, _, m₀, Led c₀, GrJ Led x stored m₀ P, rfl, W, ?_, ?_, ?_, (by show IsRangeIter _ _ _ _ _; rw [hn]; simpa using Heap.get?_push_size _ rfl), F.push _, (fun p hp => ⟨Heap.get?_push_of_some _ (N p hp).1, (N p hp).2⟩), ⟨c₀, rfl, hp, fun _ _ _ => rfl⟩, ?_, ?_⟩
  · intro hm
    exact absurd F.ns.lt ((List.mem_singleton.mp hm) ▸ Nat.lt_irrefl _)
  · intro b hb
    rw [List.mem_singleton.mp hb]
    exact next_is_new F
  · intro p hp hI
    exact absurd (Heap.lt_size (N p hp).1) ((List.mem_singleton.mp hI) ▸ Nat.lt_irrefl _)
  · rintro i v m₁ nx s₁ own ⟨hh', tk', rfl⟩ hin ⟨_, t, rfl⟩ ⟨c, rfl, hP, hm⟩ hoff hown hget hmem hst' F₁ N₁
    have e1 : (0 : Int) + (i : Int) * 1 = (i : Int) := by omega
    rw [e1] at F₁
    have hsep : TbOff own (Led c) := fun p hp q hq e => hoff q hq (e ▸ hown p hp)
    have hcls : ∀ p ∈ own, p.2.cls = .type "range_iterator" := by
      intro p hp
      have h1 := hget p hp
      rw [List.mem_singleton.mp (hown p hp), hst'] at h1
      rw [← Option.some.inj h1]
    have N₂ : News h₀ env.locals hh' (Led c ++ own) := fun p hp => N₁ p ((List.mem_append.mp hp).elim (fun h => List.mem_append.mpr (.inr h)) fun h => List.mem_append.mpr (.inl h))
    refine wpAny_mono (turn c i t m₁ hh' tk' own hin hcls hsep hP (gr_fr hm F₁) N₂) (fun f s₂ p => ?_) fun _ _ e => e
    have fin : TbEnd h₀ env.locals (GrJ Led x stored m₀ P (i + 1)) own { s with heap := hh', toks := tk' } s₂ → LoopStepU h₀ env.locals [s.heap.objs.size] own (GrJ Led x stored m₀ P (i + 1)) { s with heap := hh', toks := tk' } .next s₂ := by
      rintro ⟨h', tk, m', news', nx, e, F', N', hn, ho, ha, hm⟩
      refine ⟨rfl, h', tk, m', nx, e, F', fun p hp => N' p ((List.mem_append.mp hp).elim (ho p) (hn p)), fun p hp hq => ?_, hm⟩
      exact ha _ (hmem _ (.head _) (next_is_new F) _ hst') p hp (List.mem_singleton.mp hq).symm
    cases f with
    | ret v => exact .ret p
    | brk => exact .brk p
    | next => exact .next (fin p)
    | cont => exact .cont (fin p)
  · rintro h' tk m' nx F' N' _ ⟨c, rfl, hP, hm⟩
    exact done c m' h' tk hP (gr_frOut hm F') N'
theorem gr_end {σ : Type} {Led : σ → List (Addr × Obj)} {stored : List Str} {m₀ : Str → Option Value} {P : Nat → σ → Prop} {i : Nat} (c : σ) {L : Addr} {m' : Str → Option Value} {own news' : List (Addr × Obj)} {s₁ : Shared} {h' : Heap} {tk : Nat}
    (F : Fr h₀ L h' m') (N : News h₀ L h' news') (hn : ∀ p ∈ Led c, p ∈ news') (ho : ∀ p ∈ own, p ∈ news') (ha : TbOff own (Led c)) (hr : ∀ z, z ≠ x → stored.contains z = false → m' z = m₀ z) (hp : P i c) :
    TbEnd h₀ L (GrJ Led x stored m₀ P i) own s₁ { s₁ with heap := h', toks := tk } :=
  ⟨h', tk, m', news', Led c, rfl, F, N, hn, ho, ha, c, rfl, hp, hr⟩
end
section
variable {prog : Program} {w : World} {A : Around} {E : Value → Shared → Prop} {s : Shared} {h₀ : Heap} {L : Addr} {m : Str → Option Value} {led : List (Addr × Obj)}
theorem ne_by_cls {h : Heap} {a d : Addr} {o o' : Obj} (N : News h₀ L h led) (h1 : (a, o) ∈ led) (h2 : (d, o') ∈ led) (hc : o.cls ≠ o'.cls) : a ≠ d := fun e => by
  have q1 := (N _ h1).1
  have q2 := (N _ h2).1
  dsimp only at q1 q2
  rw [e, q2] at q1
  exact hc (congrArg Obj.cls (Option.some.inj q1)).symm
/-- append to a list of the ledger, the rest told anew -/
theorem app_here {D : Addr} {vs : List Value} {n : Nat} {v : Value} {Q : Value → Shared → Prop} (keep : List (Addr × Obj)) (F : Fr h₀ L s.heap m) (N : News h₀ L s.heap led) (hD : (D, W.listOf vs.toArray n) ∈ led) (hz : vs.length ≤ 1000)
    (hk : ∀ p ∈ keep, p ∈ led) (hne : ∀ p ∈ keep, p.1 ≠ D)
    (h : ∀ h', Fr h₀ L h' m → News h₀ L h' ((D, W.listOf (vs ++ [v]).toArray (n + 1)) :: keep) → Q .none { s with heap := h' }) :
    wpAny (model prog w) A (call (.builtin "list.append") [.ref D, v]) Q E s := by
  have N2 : News h₀ L s.heap ((D, W.listOf vs.toArray n) :: keep) := fun p hp => by
    rcases List.mem_cons.mp hp with rfl | hp
    · exact N _ hD
    · exact N p (hk p hp)
  refine append_K F N2 (.head hne) (fun h' F' N' => h h' F' ?_) (by rw [List.size_toArray, sizeLine_eq]; omega)
  rw [List.push_toArray] at N'
  exact N'
end
end Mine
end
-- FuncsL
section
open PySem PySem.W PySem.Calls PySem.Spec PyProof.Rows
namespace Mine
theorem len_first (k0 k1 k2 k3 m x : Int) : (pickI [k0, k1, k2, k3] none (some (m.fmod 3))).length + (pickI [k0, k1, k2, k3] (some 2) (some (2 + x.fmod 3))).length ≤ 4 := by
  have h1 : 0 ≤ m.fmod 3 := Int.fmod_nonneg_of_pos _ (by decide)
  have h2 : m.fmod 3 < 3 := Int.fmod_lt_of_pos _ (by decide)
  have h3 : 0 ≤ x.fmod 3 := Int.fmod_nonneg_of_pos _ (by decide)
  have h4 : x.fmod 3 < 3 := Int.fmod_lt_of_pos _ (by decide)
  generalize m.fmod 3 = a at *
  generalize x.fmod 3 = b at *
  simp only [pickI, List.length_take, List.length_drop, kms_lo, kms_hi, List.length_cons, List.length_nil]
  simp only [show ¬ ((2 : Int) < 0) from by decide, if_false]
  split <;> split <;> omega
def FuncsPost (r : Value) (tl : List (Addr × Obj)) : Prop := ∃ (D : Addr) (vals : List Value) (n : Nat), r = .ref D ∧ (D, W.listOf vals.toArray n) ∈ tl ∧ vals.length = 5 ∧ ∀ (i : Nat) v, vals[i]? = some v → ∃ g : Fn, v = .ref g.a ∧ g.at tl ∧ g.ok 8
theorem at_ents_of {g : Fn} {tl : List (Addr × Obj)} (hi : IntsAre g.vp g.ps) (hj : IntsAre g.vr g.rs) (hs : ∀ p ∈ g.ents, p ∈ tl) : g.at tl := ⟨hs _ (.head _), hs _ (.tail _ (.head _)), hs _ (.tail _ (.tail _ (.head _))), hi, hj⟩
theorem ents_news {led : List (Addr × Obj)} {g : Fn} (hg : g.at led) : ∀ p ∈ g.ents, p ∈ led := fun p hp => by
  rcases List.mem_cons.mp hp with rfl | hp
  · exact hg.ha
  · rcases List.mem_cons.mp hp with rfl | hp
    · exact hg.hp
    · rw [List.mem_singleton.mp hp]; exact hg.hr

abbrev FLed (D : Addr) (news : List (Addr × Obj)) (c : List Fn × Nat) : List (Addr × Obj) := (D, W.listOf (c.1.map fun f => Value.ref f.a).toArray c.2) :: (c.1.flatMap Fn.ents ++ news)
structure Fn.are (f : Fn) (n : Nat) : Prop where
  ip : IntsAre f.vp f.ps
  ir : IntsAre f.vr f.rs
  ok : f.ok n
def FState (i : Nat) (c : List Fn × Nat) : Prop := c.1.length = i + 1 ∧ ∀ f ∈ c.1, f.are (4 + i)
theorem ents_in {fs : List Fn} {f : Fn} (hf : f ∈ fs) : ∀ p ∈ f.ents, p ∈ fs.flatMap Fn.ents := fun p hp => List.mem_flatMap.mpr ⟨f, hf, hp⟩
theorem fled_at {D : Addr} {news own : List (Addr × Obj)} {c : List Fn × Nat} {f : Fn} {n : Nat} (hf : f ∈ c.1) (ha : f.are n) : f.at ((D, W.listOf (c.1.map fun f => Value.ref f.a).toArray c.2) :: (c.1.flatMap Fn.ents ++ news ++ own)) :=
  at_ents_of ha.ip ha.ir fun p hp => .tail _ (List.mem_append.mpr (.inl (List.mem_append.mpr (.inl (ents_in hf p hp)))))
theorem ents_cls {f : Fn} : ∀ p ∈ f.ents, p.2.cls = .type "tuple" := fun p hp => by
  rcases List.mem_cons.mp hp with rfl | hp
  · rfl
  · rcases List.mem_cons.mp hp with rfl | hp
    · rfl
    · rw [List.mem_singleton.mp hp]
theorem fs_cls {fs : List Fn} : ∀ p ∈ fs.flatMap Fn.ents, p.2.cls = .type "tuple" := fun p hp => by
  obtain ⟨f, _, h⟩ := List.mem_flatMap.mp hp
  exact ents_cls p h
section
variable {prog : Program} {w : World} {A : Around} {E : Value → Shared → Prop} {s : Shared} {env : Env} {h₀ : Heap} {x : Str} {body : List Stmt}
theorem funcs_app {L : Addr} {m : Str → Option Value} {D : Addr} {c : List Fn × Nat} {g : Fn} {news own led : List (Addr × Obj)} {i : Nat} {Q : Value → Shared → Prop} (F : Fr h₀ L s.heap m) (N : News h₀ L s.heap led)
    (hD : (D, W.listOf (c.1.map fun f => Value.ref f.a).toArray c.2) ∈ led) (hfs : ∀ p ∈ c.1.flatMap Fn.ents, p ∈ led) (hnews : ∀ p ∈ news, p ∈ led) (hown : ∀ p ∈ own, p ∈ led) (hg : ∀ p ∈ g.ents, p ∈ led)
    (hne : ∀ p ∈ news, p.1 ≠ D) (hcls : ∀ p ∈ own, p.2.cls = .type "range_iterator") (hoff : TbOff own (FLed D news c)) (hS : FState i c) (hi : i < 4) (ga : g.are (4 + i + 1))
    (h : ∀ h', Fr h₀ L h' m → News h₀ L h' (FLed D news (c.1 ++ [g], c.2 + 1) ++ own) → TbOff own (FLed D news (c.1 ++ [g], c.2 + 1)) → FState (i + 1) (c.1 ++ [g], c.2 + 1) → Q .none { s with heap := h' }) :
    wpAny (model prog w) A (call (.builtin "list.append") [.ref D, .ref g.a]) Q E s := by
  have hlist : (W.listOf (c.1.map fun f => Value.ref f.a).toArray c.2).cls = .type "list" := rfl
  have hflat : (c.1 ++ [g]).flatMap Fn.ents = c.1.flatMap Fn.ents ++ g.ents := by simp
  refine app_here ((c.1 ++ [g]).flatMap Fn.ents ++ (news ++ own)) F N hD (by rw [List.length_map, hS.1]; omega) ?_ ?_ fun h' F' N' => h h' F' ?_ ?_ ⟨by rw [List.length_append, hS.1]; rfl, fun f hf => ?_⟩
  · intro p hp
    rw [hflat] at hp
    rcases List.mem_append.mp hp with hp | hp
    · rcases List.mem_append.mp hp with hp | hp
      · exact hfs p hp
      · exact hg p hp
    · exact (List.mem_append.mp hp).elim (hnews p) (hown p)
  · intro p hp
    rcases List.mem_append.mp hp with hp | hp
    · have hc := fs_cls p hp
      have hm : p ∈ led := by
        rw [hflat] at hp
        exact (List.mem_append.mp hp).elim (hfs p) (hg p)
      exact ne_by_cls (o := p.2) N hm hD (by rw [hc, hlist]; decide)
    · rcases List.mem_append.mp hp with hp | hp
      · exact hne p hp
      · exact ne_by_cls (o := p.2) N (hown p hp) hD (by rw [hcls p hp, hlist]; decide)
  · rw [List.cons_append, List.map_append, List.append_assoc]
    exact N'
  · intro p hp q hq
    rcases List.mem_cons.mp hq with rfl | hq
    · exact hoff p hp (D, W.listOf (c.1.map fun f => Value.ref f.a).toArray c.2) (.head _)
    · rcases List.mem_append.mp hq with hq | hq
      · have hc := fs_cls q hq
        have hm : q ∈ led := by
          rw [hflat] at hq
          exact (List.mem_append.mp hq).elim (hfs q) (hg q)
        exact ne_by_cls (o := p.2) (o' := q.2) N (hown p hp) hm (by rw [hcls p hp, hc]; decide)
      · exact hoff p hp q (.tail _ (List.mem_append.mpr (.inr hq)))
  · rcases List.mem_append.mp hf with hf | hf
    · have := hS.2 f hf
      exact ⟨this.ip, this.ir, this.ok.hp, this.ok.hr, by have := this.ok.hl; omega⟩
    · rw [List.mem_singleton.mp hf]; exact ga
theorem funcs_loop {Q : Flow → Shared → Prop} {r : Addr} {t₀ u₀ v₀ : Tok} {m₀ : Str → Option Value} {D fa fp fr : Addr} {n0 : Nat} {vp vr : List Value} {ps rs : List Int} {news led : List (Addr × Obj)}
    (hh : A.handled = none) (hr : IsRange s.heap r 0 4 1 t₀ u₀ v₀) (F : Fr h₀ env.locals s.heap m₀) (N : News h₀ env.locals s.heap led)
    (hD : (D, W.listOf #[Value.ref fa] n0) ∈ led) (m1 : (fa, tupO [.ref fp, .ref fr]) ∈ led) (m2 : (fp, tupO vp) ∈ led) (m3 : (fr, tupO vr) ∈ led) (hnews : ∀ p ∈ news, p ∈ led)
    (i1 : IntsAre vp ps) (i2 : IntsAre vr rs) (o1 : OkSide ps) (o2 : OkSide rs) (o3 : ps.length + rs.length ≤ 4)
    (turn : ∀ (c : List Fn × Nat) (i : Nat) t h tk own, i < 4 → (∀ p ∈ own, p.2.cls = .type "range_iterator") → TbOff own (FLed D news c) → FState i c →
      Fr h₀ env.locals h (fun y => if y = x then some (.int (i : Int) t) else m₀ y) → News h₀ env.locals h ((D, W.listOf (c.1.map fun f => Value.ref f.a).toArray c.2) :: (c.1.flatMap Fn.ents ++ news ++ own)) →
      wpAny (model prog w) A (execs body env) (TbPost h₀ env.locals (GrJ (FLed D news) x [] m₀ FState (i + 1)) own { s with heap := h, toks := tk } Q) E { s with heap := h, toks := tk })
    (done : ∀ (c : List Fn × Nat) (u : Str → Option Value) h tk, FState 4 c → Fr h₀ env.locals h (fun y => if y = x then u y else m₀ y) → News h₀ env.locals h (FLed D news c) → Q .next { s with heap := h, toks := tk }) :
    wpAny (model prog w) A (pyIter (.ref r)) (fun it s₂ => LoopAtV prog w A h₀ env x body Q E it s₂) E s := by
  refine range_grow (n := 4) (FLed D news) [] FState ([⟨fa, fp, fr, vp, vr, ps, rs⟩], n0) hh hr (by decide) (by decide) F ?_ ?_ ?_ ?_
  · intro p hp
    rcases List.mem_cons.mp hp with rfl | hp
    · exact N _ hD
    · rcases List.mem_append.mp hp with hp | hp
      · have hp' : p ∈ [(fa, tupO [.ref fp, .ref fr]), (fp, tupO vp), (fr, tupO vr)] := by simpa using hp
        rcases List.mem_cons.mp hp' with rfl | hp
        · exact N _ m1
        · rcases List.mem_cons.mp hp with rfl | hp
          · exact N _ m2
          · rw [List.mem_singleton.mp hp]; exact N _ m3
      · exact N _ (hnews p hp)
  · exact ⟨rfl, fun f hf => by rw [List.mem_singleton.mp hf]; exact ⟨i1, i2, o1, o2, o3⟩⟩
  · intro c i t u h tk own hi hcls hoff hS F₁ N₁
    have e : (fun y => if y = x then some (Value.int (i : Int) t) else if ([] : List Str).contains y then u y else m₀ y) = fun y => if y = x then some (Value.int (i : Int) t) else m₀ y := by
      funext y; simp
    rw [e] at F₁
    rw [List.cons_append] at N₁
    exact turn c i t h tk own hi hcls hoff hS F₁ N₁
  · intro c u h tk hS F₁ N₁
    have e : (fun y => if y = x then u y else if ([] : List Str).contains y then u y else m₀ y) = fun y => if y = x then u y else m₀ y := by
      funext y; simp
    rw [e] at F₁
    exact done c u h tk hS F₁ N₁
end
theorem funcs_ret {h₀ : Heap} {L : Addr} {m : Str → Option Value} {s : Shared} {news led : List (Addr × Obj)} {Q : Value → Shared → Prop} {D : Addr} {c : List Fn × Nat} {h' : Heap} {tk' : Tok}
    (hret : ∀ r tl h' tk', Fr h₀ L h' m → News h₀ L h' (tl ++ news) → FuncsPost r tl → Q r { s with heap := h', toks := tk' })
    (hS : FState 4 c) (F : Fr h₀ L h' m) (N : News h₀ L h' led) (hD : ∀ p ∈ FLed D news c, p ∈ led) :
    Q (.ref D) { s with heap := h', toks := tk' } := by
  refine hret _ ((D, W.listOf (c.1.map fun f => Value.ref f.a).toArray c.2) :: c.1.flatMap Fn.ents) _ _ F (fun p hp => N p (hD p (by simpa using hp))) ⟨D, _, _, rfl, .head _, by rw [List.length_map, hS.1], fun i v hv => ?_⟩
  obtain ⟨f, hf, rfl⟩ : ∃ f ∈ c.1, v = Value.ref f.a := by
    obtain ⟨f, hf, rfl⟩ := List.mem_map.mp (List.mem_of_getElem? hv)
    exact ⟨f, hf, rfl⟩
  have := hS.2 f hf
  exact ⟨f, rfl, at_ents_of this.ip this.ir fun p hp => .tail _ (ents_in hf p hp), this.ok⟩
end Mine
end
-- CFuncs
section
open PySem PySem.W PySem.Calls PyProof.Rows
namespace Mine
local macro_rules | `(tactic| walk_at "call ref") => `(tactic| k_extra "mycall")
local macro_rules | `(tactic| walk_at "conprem") => `(tactic| (
  (case k1 => k_asm); (case k2 => k_asm); (case k3 => k_asm); (case k4 => k_asm); (case k5 => k_asm); (case kK => first | exact rfl | assumption); (case kd => ktr_room); (case ku => ktr_units)))
local macro_rules | `(tactic| walk_at "enter cells") => `(tactic| (
  refine' code_defC ?k1 ?k2 ?k3 ?k4 ?k5 ?kA ?kF ?kK ?k6 ?k7 ?k8 ?k9 ?kB ?kD ?_ ?c2 ?c3 ?c4
  (case kA => exact rfl); (case kF => exact rfl); (case kK => assumption)
  (case k1 => k_asm); (case k2 => k_asm); (case k3 => k_asm); (case k4 => k_asm); (case k5 => k_asm)
  (case k6 => k_is); (case k7 => k_is); (case k8 => ktr_room); (case k9 => exact BindsTo.of_eq rfl)
  (case kB => exact rfl); (case kD => decide +kernel); (case c2 => exact rfl); (case c3 => exact rfl); (case c4 => exact rfl)
  k_whole
  intro g' L' h' tk' cells' FG' F' N' Y' B' X' T' l1
  (try k_lt l1)
  k_cells Y'
  (try simp only [List.cons_append, List.nil_append] at N')
  (try dsimp only)
  (try k_lift B')
  (try k_fold)))
local macro_rules | `(tactic| k_all) => `(tactic| first | exact ne_all_lt (allLt_of (by assumption)) (by omega) | exact ne_all_lt (by assumption) (by omega))
local macro_rules | `(tactic| walk_at "CompSrc") => `(tactic| (k_extra "mysrc"))
local macro_rules | `(tactic| walk_at "CompEnd") => `(tactic| (refine LCg.CompEnd.intro (by assumption) (by assumption) _ (by kcf_all) (by assumption) (by first | lcg_src | assumption) ⟨rfl, ?_⟩))
local macro_rules | `(tactic| k_mem) => `(tactic| first | assumption | (refine List.mem_cons_of_mem _ ?_; k_mem))
theorem menu4 {i : Nat} {v : Value} {t : Tok} (h : v = .int (0 + (i : Int)) t) (hi : i < 4) : ∃ k : Int, v = .int k t ∧ (k = 0 ∨ k = 1 ∨ k = 2 ∨ k = 3) := ⟨(i : Int), by rw [h, Int.zero_add], by omega⟩
local macro_rules | `(tactic| walk_at "subscriptTail") => `(tactic| (k_here; (with_reducible show wpAny _ _ (subscriptTail _ _ (Value.ref _) (Value.int (Int.fmod _ 4) _)) _ _ _); k_dflt (refine' menu_item ?N ?p ?_ ?s; (case N => k_asm); (case p => first | exact List.mem_cons_self .. | k_mem); (case s => with_unfolding_all rfl)); intro x9 t9 hx9))
local macro_rules | `(tactic| walk_at "CompEnd") => `(tactic| (refine LCg.CompEnd.intro (by assumption) (by assumption) _ (by kcf_all) (by assumption) (by first | lcg_src | assumption) ⟨rfl, ⟨_, _, rfl, by assumption⟩⟩))
local macro_rules | `(tactic| walk_at "tsz0") => `(tactic| first | (with_reducible assumption) | (with_reducible exact pick_sz (by assumption)) | exact Nat.le_refl _)
local macro_rules | `(tactic| walk_at "tsz") => `(tactic| first | (refine' one_sz ?A ?B; (case A => walk_at "tsz0"); (case B => exact Nat.le_of_ble_eq_true rfl)) | (refine' two_sz ?A ?C ?B; (case A => walk_at "tsz0"); (case C => walk_at "tsz0"); (case B => exact Nat.le_of_ble_eq_true rfl)))
local macro_rules | `(tactic| walk_at "subscriptTail Name Slice ref ref") => `(tactic| (k_here; k_dflt (refine' tup_slice ?F ?N ?l ?p ?q ?e ?_ ?s ?t ?z; (case F => k_asm); (case N => k_asm); (case l => k_mem); (case p => kmk_part); (case q => kmk_part); (case e => exact rfl); (case s => with_unfolding_all rfl); (case t => kmk_pure); (case z => walk_at "tsz")); intro D' h' F' N'; (try k_sweep)))
local macro_rules | `(tactic| walk_at "binaryOp Add") => `(tactic| (k_here; (with_reducible show wpAny _ _ (binaryOp _ (Value.ref _) (Value.ref _)) _ _ _); k_dflt (refine' tup_add ?F ?N ?l ?p ?e ?_ ?z; (case F => k_asm); (case N => k_asm); (case l => first | exact List.mem_cons_self .. | k_mem); (case p => first | exact List.mem_cons_self .. | k_mem); (case e => exact rfl); (case z => walk_at "tsz")); intro D' h' F' N'; (try k_sweep)))
local macro_rules | `(tactic| walk_at "subs") => `(tactic| first | exact sub0 | (refine sub1 ?_; walk_at "subs"))
local macro_rules | `(tactic| walk_at "tints") => `(tactic| first | (with_reducible assumption) | (with_reducible exact IntsAre.cons _ _ .nil) | (with_reducible exact four_are) | ((with_reducible refine' IntsAre.append ?A ?B); (case A => walk_at "tints"); (case B => walk_at "tints")) | ((with_reducible refine' ints_pick ?A); (case A => walk_at "tints")))
local macro_rules | `(tactic| walk_at "toks") => `(tactic| first | (with_reducible assumption) | ((with_reducible refine' ok_app ?A ?B); (case A => walk_at "toks"); (case B => walk_at "toks")) | ((with_reducible refine' ok_pick ?A); (case A => walk_at "toks")) | exact ok_menu _ (Int.fmod_nonneg_of_pos _ (by decide)) (Int.fmod_lt_of_pos _ (by decide)))
local macro_rules | `(tactic| k_all) => `(tactic| first | assumption | exact ne_weaken (by assumption) (by walk_at "subs"))
local macro_rules | `(tactic| walk_at "newList") => `(tactic| (k_here; k_dflt (refine' newList_K ?k1 ?k2 ?_; (case k1 => k_asm); (case k2 => k_asm); k_whole); intro l' h' F' N' l1; (have lr9 := all_ne_of l1); (try k_lt l1); (try k_sweep)))
theorem ne_weaken {led news : List (Addr × Obj)} {d : Addr} (h : ∀ p ∈ led, p.1 ≠ d) (hs : ∀ p ∈ news, p ∈ led) : ∀ p ∈ news, p.1 ≠ d := fun p hp => h p (hs p hp)
theorem fstate_len {i : Nat} {c : List Fn × Nat} (h : FState i c) : c.1.length = i + 1 := h.1
theorem fstate_are {i : Nat} {c : List Fn × Nat} (h : FState i c) : ∀ f ∈ c.1, f.are (4 + i) := h.2
theorem fs_lt {i : Nat} {c : List Fn × Nat} (h : FState i c) : (i : Int) < ((c.1.map fun f => Value.ref f.a).length : Nat) := by rw [List.length_map, h.1]; omega
theorem fs_sz {i : Nat} {c : List Fn × Nat} (h : FState i c) (hi : i < 4) : (c.1.map fun f => Value.ref f.a).length ≤ 1000 := by rw [List.length_map, h.1]; omega
theorem fled_at_of {h₀ h : Heap} {L D : Addr} {news own : List (Addr × Obj)} {c : List Fn × Nat} {f : Fn} {n : Nat} (nu : News h₀ L h ((D, W.listOf (c.1.map fun f => Value.ref f.a).toArray c.2) :: (c.1.flatMap Fn.ents ++ news ++ own))) (hf : f ∈ c.1) (ha : f.are n) :
    f.at ((D, W.listOf (c.1.map fun f => Value.ref f.a).toArray c.2) :: (c.1.flatMap Fn.ents ++ news ++ own)) := fled_at hf ha
theorem fs_item {c : List Fn × Nat} {i : Nat} {v : Value} (h : (c.1.map fun f => Value.ref f.a)[((i : Int)).toNat]? = some v) : ∃ f ∈ c.1, v = Value.ref f.a := by
  obtain ⟨f, hf, rfl⟩ := List.mem_map.mp (List.mem_of_getElem? h)
  exact ⟨f, hf, rfl⟩
local macro_rules | `(tactic| walk_at "pyIter ref") => `(tactic| k_extra "myiter")
local macro_rules | `(tactic| walk_at "TbEnd") => `(tactic| k_extra "myend")
local macro_rules | `(tactic| walk_at "call builtin:list.append") => `(tactic| k_extra "myapp")
local macro_rules | `(tactic| walk_at "exec For Name Call cons nil") => `(tactic| (k_here; (rename Fr _ _ _ _ => lF'); (with_unfolding_all refine' For_invVF lF' ?k1 ?k2 ?_; (case k1 => exact rfl); (case k2 => exact rfl); k_whole)))
local macro_rules | `(tactic| walk_at "subscriptTail") => `(tactic| (k_extra "myitem"))
theorem con_funcs (w : World) (base : Heap) (l : Addr) (vs : List Value) (ns : List Int) (news : List (Addr × Obj))
    (hl : base.IsList l vs.toArray) (hi : IntsAre vs ns) (hn : ns.length ≤ 63) :
    ConG w base 14 73 [.ref l] news FuncsPost := by
  unfold ConG
  k_fill
  w_top off
  k_with_none
  intro mean mg mb dp un gd cn cs a ccd cl outer A₀ h₀ L m s Q E B F X N T hk hd hu hret
  k_with_none
  k_with "mysrc" =>
    k_dflt (
      refine LCg.CompSrc.range (by rfl) (by k_asm) (by k_asm) (by assumption) (by first | decide | rfl) (by first | rfl | decide) (by first | size_fits | exact Nat.le_of_ble_eq_true rfl) ?_
      (intro g')
      refine comp_rest (fun (i : Nat) (y : Value) => ∃ k t, y = Value.int k t ∧ MenuInt k) ?_ ?_
      intro i v I' oI' C' oC' D' m' ys' h' tk' E' hi' hP' hC' hx' F' N' off' ne'
      obtain ⟨t', hP'⟩ := hP'
      replace hi' : i < 4 := hi'
      obtain ⟨kk, hP', hi'⟩ := menu4 hP' hi'
      rcases hi' with rfl | rfl | rfl | rfl
      all_goals (try subst hP')
      rotate_left
      rotate_left
      rotate_left
      rotate_left
      intro ys9 hl9 hy9
      obtain ⟨k0, t0, k1, t1, k2, t2, k3, t3, e9, hm9⟩ := four_ints hl9 hy9
      subst e9
      rotate_right
      rotate_right
      rotate_right
      rotate_right)
  k_with "myiter" => (
    (rename Fr _ _ _ _ => lF')
    (rename News _ _ _ _ => lN')
    (rename IsRange _ _ _ _ _ _ _ _ => rgX)
    k_dflt (refine' funcs_loop (news := news) (by rfl) rgX lF' lN' ?lohD ?lom1 ?lom2 ?lom3 ?losb ?loi1 ?loi2 ?loo1 ?loo2 ?loo3 ?_ ?_)
    (case lohD => k_dflt (exact List.Mem.head _))
    (case lom1 => k_dflt k_mem)
    (case lom2 => k_dflt k_mem)
    (case lom3 => k_dflt k_mem)
    (case losb => k_dflt (walk_at "subs"))
    (case loi1 => walk_at "tints")
    (case loi2 => walk_at "tints")
    (case loo1 => walk_at "toks")
    (case loo2 => walk_at "toks")
    (case loo3 => k_dflt (exact len_first ..))
    clear lF' lN'
    rotate_left
    intro c9 u9 h9 tk9 hS9 F9 N9
    (try k_fold)
    rotate_right
    intro c9 i9 t9 h9 tk9 own9 hi9 hcls9 hoff9 hS9 F9 N9
    (try k_fold))
  k_with "myitem" => (
    k_here
    k_dflt (refine' list_item (vs := c9.1.map fun f => Value.ref f.a) ?itN ?itp ?ith0 ?ith1 ?ithz ?_ ?its)
    (case itN => k_asm)
    (case itp => exact List.mem_cons_self ..)
    (case ith0 => exact Int.natCast_nonneg _)
    (case ith1 => exact fs_lt hS9)
    (case ithz => exact fs_sz hS9 hi9)
    (case its => with_unfolding_all rfl)
    intro v9 hv9
    obtain ⟨f9, hf9, e9⟩ := fs_item hv9
    subst e9
    have hat9 := fled_at_of N9 hf9 (fstate_are hS9 f9 hf9))
  k_with "mycall" => (
                      k_dflt (refine' con_useG (con_func _ _ f9 _ _ (4 + i9) _ hat9 (fstate_are hS9 f9 hf9).ok ?fnhn) ?k1 ?k2 ?k3 ?k4 ?k5 ?kK ?kd ?ku ?_)
                      walk_at "conprem"
                      (case fnhn => omega)
                      intro r9 tl9 h9 tk9 F9 N9 ho9
                      obtain ⟨g9, e9, ht9, gi9, gj9, go9⟩ := ho9
                      subst ht9 e9
                      (try dsimp only)
                      (try k_fold))
  k_with "myapp" => (
    k_dflt (refine' funcs_app (c := c9) (g := g9) (news := news) (own := own9) ?apF ?apN ?aphD ?aphf ?aphn ?apho ?aphg ?aphne hcls9 hoff9 hS9 hi9 ⟨gi9, gj9, go9⟩ ?_)
    (case apF => k_asm)
    (case apN => k_asm)
    (case aphD => exact List.mem_append.mpr (.inr (List.Mem.head _)))
    (case aphf => exact fun p hp => List.mem_append.mpr (.inr (.tail _ (List.mem_append.mpr (.inl (List.mem_append.mpr (.inl hp)))))))
    (case aphn => exact fun p hp => List.mem_append.mpr (.inr (.tail _ (List.mem_append.mpr (.inl (List.mem_append.mpr (.inr hp)))))))
    (case apho => exact fun p hp => List.mem_append.mpr (.inr (.tail _ (List.mem_append.mpr (.inr hp)))))
    (case aphg => exact fun p hp => List.mem_append.mpr (.inl hp))
    (case aphne => exact ne_weaken (by assumption) (by walk_at "subs"))
    intro h8 F8 N8 hoff8 hS8
    (try dsimp only)
    (try k_fold))
  k_with "myend" => (k_dflt (exact gr_end (c9.1 ++ [g9], c9.2 + 1) F8 N8 (fun p hp => List.mem_append.mpr (.inl hp)) (fun p hp => List.mem_append.mpr (.inr hp)) hoff8 (by intro z h1 _; simp [h1]) hS8))
  k_with "mycall" => (refine' con_use (con_digit _ _ _ _ _ _ _ _ hl hi hn (by omega) (by omega)) ?k1 ?k2 ?k3 ?k4 ?k5 ?kK ?kd ?ku ?_
                      walk_at "conprem"
                      intro r9 tl9 h9 tk9 F9 N9 hl9 ho9
                      obtain ⟨ht9, t9, e9⟩ := ho9
                      subst ht9 e9
                      clear hl9
                      (try simp only [List.nil_append, List.cons_append, List.append_nil, List.append_assoc] at N9)
                      (try dsimp only)
                      (try k_fold))
  refine wpAny_call ?_
  k_dflt (walk_at "enter cells")
  k_steps
  rename News _ _ _ _ => NE
  exact funcs_ret hret hS9 (by assumption) NE (fun p hp => hp)
end Mine
end
-- CMake
section
open PySem PySem.W PySem.Calls PySem.Spec PyProof.Rows
namespace Mine
abbrev refsOf (ms : List (Addr × Obj)) : List Value := ms.map fun p => Value.ref p.1
theorem off3_of {I C D : Addr} : ∀ {l : List (Addr × Obj)}, (∀ p ∈ l, p.1 ≠ I ∧ p.1 ≠ C ∧ p.1 ≠ D) → LCg.Off3 I C D l
  | [], _ => trivial
  | a :: _, h => ⟨h a (.head _), off3_of fun p hp => h p (.tail _ hp)⟩
theorem off1_mem {D : Addr} : ∀ {l : List (Addr × Obj)}, LCg.Off1 D l → ∀ p ∈ l, p.1 ≠ D
  | [], _, _, h => nomatch h
  | _ :: _, x, p, h => by
    rcases List.mem_cons.mp h with rfl | h
    · exact x.1
    · exact off1_mem x.2 p h
section
variable {prog : Program} {w : World} {A : Around} {h₀ : Heap} {L : Addr} {m : Str → Option Value} {env : Env} {elt : Expr} {x : Str} {scope : Scope} {cl : List (Str × Addr)} {s : Shared} {S : List (Addr × Obj) → Prop} {P : Nat → Value → Prop} {Fin : List Value → List (Addr × Obj) → Prop} {news : List (Addr × Obj)}
def CmJ (Ok : Nat → Addr × Obj → Prop) (news : List (Addr × Obj)) (i : Nat) (ys : List Value) (nw : List (Addr × Obj)) : Prop :=
  ∃ ms : List (Addr × Obj), ms.length = i ∧ ys = refsOf ms ∧ nw = ms ++ news ∧ ∀ k p, ms[k]? = some p → Ok k p
/-- a comprehension whose element makes one thing that stays -/
theorem comp_make {n : Nat} (Ok : Nat → Addr × Obj → Prop)
    (turn : ∀ i v I oI C oC D m₂ (ms : List (Addr × Obj)) h tk (E' : Value → Shared → Prop), i < n → ms.length = i → (∀ k p, ms[k]? = some p → Ok k p) → P i v → LCg.NsObj oC m₂ → m₂ x = some v → Fr h₀ L h m →
      News h₀ L h ((I, oI) :: (C, oC) :: (D, LCg.lst (refsOf ms)) :: (ms ++ news)) → LCg.Off3 I C D (ms ++ news) → ((@Ne Nat I C) ∧ (@Ne Nat I D) ∧ (@Ne Nat C D)) →
      wpAny (model prog w) A (eval elt (compEnvC scope cl C env)) (LCg.CompEnd h₀ L m { s with heap := h, toks := tk } I oI C oC D (LCg.lst (refsOf ms)) S (fun y nw => CmJ Ok news (i + 1) (refsOf ms ++ [y]) nw)) E' { s with heap := h, toks := tk })
    (fin : ∀ ms : List (Addr × Obj), ms.length = n → (∀ k p, ms[k]? = some p → Ok k p) → Fin (refsOf ms) (ms ++ news)) : LCg.CompRest prog w A h₀ L m env elt x scope cl s S P Fin n 0 [] news := by
  have key : ∀ (j i : Nat) (ys : List Value) (nw : List (Addr × Obj)), i + j = n → CmJ Ok news i ys nw → LCg.CompRest prog w A h₀ L m env elt x scope cl s S P Fin j i ys nw := by
    intro j
    induction j with
    | zero =>
      rintro i ys nw hi ⟨ms, hl, rfl, rfl, hk⟩
      exact LCg.CompRest.zero (fin ms (by omega) hk)
    | succ j ih =>
      rintro i ys nw hi ⟨ms, hl, rfl, rfl, hk⟩
      refine LCg.CompRest.succ ?_
      intro v I oI C oC D m₂ h tk E' hv hC hx F N off ne
      refine wpAny_mono (turn i v I oI C oC D m₂ ms h tk E' (by omega) hl hk hv hC hx F N off ne) (fun y s₂ hq => ?_) fun _ _ e => e
      obtain ⟨h', tk', nw', e, F', N', off', hS, hJ⟩ := hq
      exact ⟨h', tk', nw', e, F', N', off', hS, ih (i + 1) _ nw' (by omega) hJ⟩
  exact key n 0 [] news (by omega) ⟨[], rfl, rfl, rfl, fun k p h => by simp at h⟩
theorem comp_make_end {Ok : Nat → Addr × Obj → Prop} {I C D : Addr} {oI oC : Obj} {ms all : List (Addr × Obj)} {p : Addr × Obj} {i : Nat} {h' : Heap} {tk : Nat} {s₁ : Shared} (hl : ms.length = i) (hk : ∀ k p, ms[k]? = some p → Ok k p)
    (F : Fr h₀ L h' m) (N : News h₀ L h' all) (sub : ∀ q ∈ p :: (I, oI) :: (C, oC) :: (D, LCg.lst (refsOf ms)) :: (ms ++ news), q ∈ all) (off : LCg.Off3 I C D (ms ++ news)) (hne : p.1 ≠ I ∧ p.1 ≠ C ∧ p.1 ≠ D)
    (hS : S ((ms ++ [p]) ++ news)) (ok : Ok i p) :
    LCg.CompEnd h₀ L m s₁ I oI C oC D (LCg.lst (refsOf ms)) S (fun y nw => CmJ Ok news (i + 1) (refsOf ms ++ [y]) nw) (.ref p.1) { s₁ with heap := h', toks := tk } := by
  refine LCg.CompEnd.intro F N ((ms ++ [p]) ++ news) (fun q hq => sub q ?_) (off3_of fun q hq => ?_) hS ⟨ms ++ [p], by rw [List.length_append, hl]; rfl, by simp [refsOf], rfl, fun k q hq => ?_⟩
  · rcases List.mem_cons.mp hq with rfl | hq
    · exact .tail _ (.head _)
    rcases List.mem_cons.mp hq with rfl | hq
    · exact .tail _ (.tail _ (.head _))
    rcases List.mem_cons.mp hq with rfl | hq
    · exact .tail _ (.tail _ (.tail _ (.head _)))
    rcases List.mem_append.mp hq with hq | hq
    · rcases List.mem_append.mp hq with hq | hq
      · exact .tail _ (.tail _ (.tail _ (.tail _ (List.mem_append.mpr (.inl hq)))))
      · rw [List.mem_singleton.mp hq]; exact .head _
    · exact .tail _ (.tail _ (.tail _ (.tail _ (List.mem_append.mpr (.inr hq)))))
  · rcases List.mem_append.mp hq with hq | hq
    · rcases List.mem_append.mp hq with hq | hq
      · exact off.mem q (List.mem_append.mpr (.inl hq))
      · rw [List.mem_singleton.mp hq]; exact hne
    · exact off.mem q (List.mem_append.mpr (.inr hq))
  · rcases Nat.lt_or_ge k ms.length with h | h
    · rw [List.getElem?_append_left h] at hq; exact hk k q hq
    · rw [List.getElem?_append_right h] at hq
      have hk0 : k - ms.length = 0 := by
        rcases Nat.eq_zero_or_pos (k - ms.length) with h | h
        · exact h
        · rw [List.getElem?_eq_none (by rw [List.length_singleton]; omega)] at hq; cases hq
      rw [hk0] at hq
      simp only [List.getElem?_cons_zero, Option.some.injEq] at hq
      subst hq
      have : k = i := by omega
      rw [this]; exact ok
end
end Mine
end
-- ToldL
section
open PySem PySem.W PySem.Calls PySem.Spec PyProof.Rows
namespace Mine
def LimIs (p : Addr × Obj) (lo : Int) (mo : Option Int) : Prop := ∃ t1 t2, p.2 = tupO [.int lo t1, optV mo t2]
def LimObj (p : Addr × Obj) : Prop := ∃ lo mo, LimIs p lo mo ∧ Valid lo mo
theorem lim_same {p : Addr × Obj} {lo lo' : Int} {mo mo' : Option Int} (h : LimIs p lo mo) (h' : LimIs p lo' mo') : lo = lo' ∧ mo = mo' := by
  obtain ⟨t1, t2, e⟩ := h
  obtain ⟨t1', t2', e'⟩ := h'
  rw [e] at e'
  injection e' with _ _ e3
  injection e3 with e4
  have e5 : [Value.int lo t1, optV mo t2] = [Value.int lo' t1', optV mo' t2'] := by simpa using congrArg Array.toList e4
  injection e5 with a b
  injection b with c
  injection a with d
  refine ⟨d, ?_⟩
  cases mo with
  | none => cases mo' with
    | none => rfl
    | some b' => simp [optV] at c
  | some b => cases mo' with
    | none => simp [optV] at c
    | some b' => simp [optV] at c; rw [c.1]
theorem lims_open {r : Value} {tl : List (Addr × Obj)} (h : LimsPost r tl) : ∃ (D : Addr) (x0 x1 x2 x3 x4 : Lm) (n : Nat), r = .ref D ∧
  tl = [(x4.a, tupO [.int x4.lo x4.t1, optV x4.mo x4.t2]), (x3.a, tupO [.int x3.lo x3.t1, optV x3.mo x3.t2]), (x2.a, tupO [.int x2.lo x2.t1, optV x2.mo x2.t2]), (x1.a, tupO [.int x1.lo x1.t1, optV x1.mo x1.t2]), (D, W.listOf #[.ref x0.a, .ref x1.a, .ref x2.a, .ref x3.a, .ref x4.a] n), (x0.a, tupO [.int x0.lo x0.t1, optV x0.mo x0.t2])] ∧ (x0.ok ∧ x1.ok ∧ x2.ok ∧ x3.ok ∧ x4.ok) := h
theorem ltl_of {tl news : List (Addr × Obj)} (h : ∀ q ∈ news, ∀ p ∈ tl, q.1 < p.1) : ∀ p ∈ tl, AllLt p.1 news := fun p hp => allLt_of fun q hq => h q hq p hp
theorem lm_obj {x : Lm} (h : x.ok) : LimObj (x.a, tupO [.int x.lo x.t1, optV x.mo x.t2]) := ⟨x.lo, x.mo, ⟨_, _, rfl⟩, h⟩
section
variable {prog : Program} {w : World} {A : Around} {E : Value → Shared → Prop} {s : Shared} {h₀ : Heap} {L : Addr} {m : Str → Option Value} {env : Env} {elt : Expr} {x : Str} {scope : Scope} {cl : List (Str × Addr)} {Fin : Shared → List Value → List (Addr × Obj) → Prop} {s₁ : Shared}
/-- the comprehension that grows the five wanted limits -/
theorem grown_src {led : List (Addr × Obj)} {r wD : Addr} {t₀ u₀ v₀ : Tok} {wn : Nat} {x0 x1 x2 x3 x4 : Lm} (rest : List (Addr × Obj))
    (hh : A.handled = none) (F : Fr h₀ L s₁.heap m) (N : News h₀ L s₁.heap led) (hr : IsRange s₁.heap r 0 5 1 t₀ u₀ v₀)
    (hD : (wD, W.listOf #[.ref x0.a, .ref x1.a, .ref x2.a, .ref x3.a, .ref x4.a] wn) ∈ led)
    (m0 : (x0.a, tupO [.int x0.lo x0.t1, optV x0.mo x0.t2]) ∈ led) (m1 : (x1.a, tupO [.int x1.lo x1.t1, optV x1.mo x1.t2]) ∈ led) (m2 : (x2.a, tupO [.int x2.lo x2.t1, optV x2.mo x2.t2]) ∈ led)
    (m3 : (x3.a, tupO [.int x3.lo x3.t1, optV x3.mo x3.t2]) ∈ led) (m4 : (x4.a, tupO [.int x4.lo x4.t1, optV x4.mo x4.t2]) ∈ led)
    (ok : x0.ok ∧ x1.ok ∧ x2.ok ∧ x3.ok ∧ x4.ok) (hrest : ∀ p ∈ rest, p ∈ led)
    (turn : ∀ (ws : List (Addr × Obj)) (i : Nat) t I oI C oC D m₂ (ms : List (Addr × Obj)) h tk (E' : Value → Shared → Prop) (g : Heap), ws.length = 5 → (∀ p ∈ ws, LimObj p) → i < 5 → ms.length = i → (∀ (k : Nat) p, ms[k]? = some p → LimObj p) → LCg.NsObj oC m₂ → m₂ x = some (.int (i : Int) t) → Fr h₀ L h m →
      News h₀ L h ((I, oI) :: (C, oC) :: (D, LCg.lst (refsOf ms)) :: (ms ++ ((wD, W.listOf (refsOf ws).toArray wn) :: (ws ++ rest)))) → LCg.Off3 I C D (ms ++ ((wD, W.listOf (refsOf ws).toArray wn) :: (ws ++ rest))) → ((@Ne Nat I C) ∧ (@Ne Nat I D) ∧ (@Ne Nat C D)) →
      wpAny (model prog w) A (eval elt (compEnvC scope cl C env)) (LCg.CompEnd h₀ L m { s₁ with heap := h, toks := tk } I oI C oC D (LCg.lst (refsOf ms)) (fun _ => True) (fun y nw => CmJ (fun _ => LimObj) ((wD, W.listOf (refsOf ws).toArray wn) :: (ws ++ rest)) (i + 1) (refsOf ms ++ [y]) nw)) E' { s₁ with heap := h, toks := tk })
    (fin : ∀ (ws ms : List (Addr × Obj)) (g : Heap), ws.length = 5 → (∀ p ∈ ws, LimObj p) → ms.length = 5 → (∀ p ∈ ms, LimObj p) → Fin { s₁ with heap := g } (refsOf ms) (ms ++ ((wD, W.listOf (refsOf ws).toArray wn) :: (ws ++ rest)))) :
    LCg.CompSrc prog w A h₀ L m env elt x scope cl Fin (.ref r) s₁ := by
  obtain ⟨o0, o1, o2, o3, o4⟩ := ok
  let ws : List (Addr × Obj) := [(x0.a, tupO [.int x0.lo x0.t1, optV x0.mo x0.t2]), (x1.a, tupO [.int x1.lo x1.t1, optV x1.mo x1.t2]), (x2.a, tupO [.int x2.lo x2.t1, optV x2.mo x2.t2]), (x3.a, tupO [.int x3.lo x3.t1, optV x3.mo x3.t2]), (x4.a, tupO [.int x4.lo x4.t1, optV x4.mo x4.t2])]
  have hws : ws.length = 5 := rfl
  have hwo : ∀ p ∈ ws, LimObj p := by
    intro p hp
    simp only [ws, List.mem_cons, List.not_mem_nil, or_false] at hp
    rcases hp with rfl | rfl | rfl | rfl | rfl <;> exact lm_obj (by assumption)
  have N2 : News h₀ L s₁.heap ((wD, W.listOf (refsOf ws).toArray wn) :: (ws ++ rest)) := by
    intro p hp
    rcases List.mem_cons.mp hp with rfl | hp
    · exact N _ hD
    · rcases List.mem_append.mp hp with hp | hp
      · simp only [ws, List.mem_cons, List.not_mem_nil, or_false] at hp
        rcases hp with rfl | rfl | rfl | rfl | rfl
        · exact N _ m0
        · exact N _ m1
        · exact N _ m2
        · exact N _ m3
        · exact N _ m4
      · exact N p (hrest p hp)
  refine LCg.CompSrc.range (n := 5) hh F N2 hr (by decide) (by decide) (by decide) fun g => ?_
  refine comp_make (fun _ => LimObj) ?_ ?_
  · rintro i v I oI C oC D m₂ ms h tk E' hi hml hmk ⟨t, rfl⟩ hC hx F' N' off ne
    rw [Int.zero_add] at hx
    exact turn ws i t I oI C oC D m₂ ms h tk E' g hws hwo hi hml hmk hC hx F' N' off ne
  · intro ms hml hmk
    refine fin ws ms g hws hwo hml fun p hp => ?_
    obtain ⟨k, hk⟩ := List.getElem?_of_mem hp
    exact hmk k p hk
theorem grown_srcN {r wD : Addr} {t₀ u₀ v₀ : Tok} {wn : Nat} {x0 x1 x2 x3 x4 : Lm} {rest : List (Addr × Obj)}
    (hh : A.handled = none) (F : Fr h₀ L s₁.heap m) (N : News h₀ L s₁.heap ((x4.a, tupO [.int x4.lo x4.t1, optV x4.mo x4.t2]) :: (x3.a, tupO [.int x3.lo x3.t1, optV x3.mo x3.t2]) :: (x2.a, tupO [.int x2.lo x2.t1, optV x2.mo x2.t2]) :: (x1.a, tupO [.int x1.lo x1.t1, optV x1.mo x1.t2]) ::
      (wD, W.listOf #[.ref x0.a, .ref x1.a, .ref x2.a, .ref x3.a, .ref x4.a] wn) :: (x0.a, tupO [.int x0.lo x0.t1, optV x0.mo x0.t2]) :: rest)) (hr : IsRange s₁.heap r 0 5 1 t₀ u₀ v₀)
    (ok : x0.ok ∧ x1.ok ∧ x2.ok ∧ x3.ok ∧ x4.ok)
    (turn : ∀ (ws : List (Addr × Obj)) (i : Nat) t I oI C oC D m₂ (ms : List (Addr × Obj)) h tk (E' : Value → Shared → Prop) (gu : Heap), ws.length = 5 → (∀ p ∈ ws, LimObj p) → i < 5 → ms.length = i → (∀ (k : Nat) p, ms[k]? = some p → LimObj p) → LCg.NsObj oC m₂ → m₂ x = some (.int (i : Int) t) → Fr h₀ L h m →
      News h₀ L h ((I, oI) :: (C, oC) :: (D, LCg.lst (refsOf ms)) :: (ms ++ ((wD, W.listOf (refsOf ws).toArray wn) :: (ws ++ rest)))) → LCg.Off3 I C D (ms ++ ((wD, W.listOf (refsOf ws).toArray wn) :: (ws ++ rest))) → ((@Ne Nat I C) ∧ (@Ne Nat I D) ∧ (@Ne Nat C D)) →
      wpAny (model prog w) A (eval elt (compEnvC scope cl C env)) (LCg.CompEnd h₀ L m { s₁ with heap := h, toks := tk } I oI C oC D (LCg.lst (refsOf ms)) (fun _ => True) (fun y nw => CmJ (fun _ => LimObj) ((wD, W.listOf (refsOf ws).toArray wn) :: (ws ++ rest)) (i + 1) (refsOf ms ++ [y]) nw)) E' { s₁ with heap := h, toks := tk })
    (fin : ∀ (ws ms : List (Addr × Obj)) (g : Heap), ws.length = 5 → (∀ p ∈ ws, LimObj p) → ms.length = 5 → (∀ p ∈ ms, LimObj p) → Fin { s₁ with heap := g } (refsOf ms) (ms ++ ((wD, W.listOf (refsOf ws).toArray wn) :: (ws ++ rest)))) :
    LCg.CompSrc prog w A h₀ L m env elt x scope cl Fin (.ref r) s₁ :=
  grown_src rest hh F N hr (.tail _ (.tail _ (.tail _ (.tail _ (.head _))))) (.tail _ (.tail _ (.tail _ (.tail _ (.tail _ (.head _)))))) (.tail _ (.tail _ (.tail _ (.head _)))) (.tail _ (.tail _ (.head _))) (.tail _ (.head _)) (.head _) ok
    (sub1 (sub1 (sub1 (sub1 (sub1 (sub1 sub0)))))) turn fin
theorem grown_item {ws : List (Addr × Obj)} {i : Nat} {v : Value} (hw : ∀ p ∈ ws, LimObj p) (h : (refsOf ws)[((i : Int)).toNat]? = some v) :
    ∃ a lo mo t1 t2, v = .ref a ∧ (a, tupO [.int lo t1, optV mo t2]) ∈ ws ∧ Valid lo mo := by
  obtain ⟨p, hp, rfl⟩ := List.mem_map.mp (List.mem_of_getElem? h)
  obtain ⟨lo, mo, ⟨t1, t2, e⟩, hv⟩ := hw p hp
  exact ⟨p.1, lo, mo, t1, t2, rfl, e ▸ hp, hv⟩
end
end Mine
end
-- ToldL2
section
open PySem PySem.W PySem.Calls PySem.Spec PyProof.Rows
namespace Mine
theorem refs_val (x : Int) : -16 - x.fmod 2 = -16 ∨ -16 - x.fmod 2 = -17 := by
  have h1 : 0 ≤ x.fmod 2 := Int.fmod_nonneg_of_pos _ (by decide)
  have h2 : x.fmod 2 < 2 := Int.fmod_lt_of_pos _ (by decide)
  omega
theorem refs_at {hs : List (Addr × Obj)} {i : Nat} {v : Value} (h : (refsOf hs).toArray[i]? = some v) : ∃ p, hs[i]? = some p ∧ v = .ref p.1 := by
  have h' : (refsOf hs)[i]? = some v := by simpa using h
  rw [refsOf, List.getElem?_map] at h'
  cases e : hs[i]? with
  | none => rw [e] at h'; cases h'
  | some p => rw [e] at h'; cases h'; exact ⟨p, rfl, rfl⟩
theorem lim_at {hs : List (Addr × Obj)} {i : Nat} {v : Value} (hw : ∀ p ∈ hs, LimObj p) (h : (refsOf hs).toArray[i]? = some v) :
    ∃ a lo mo t1 t2, v = .ref a ∧ hs[i]? = some (a, tupO [.int lo t1, optV mo t2]) ∧ (a, tupO [.int lo t1, optV mo t2]) ∈ hs ∧ Valid lo mo := by
  obtain ⟨p, hp, rfl⟩ := refs_at h
  obtain ⟨lo, mo, ⟨t1, t2, e⟩, hv⟩ := hw p (List.mem_of_getElem? hp)
  exact ⟨p.1, lo, mo, t1, t2, rfl, e ▸ hp, e ▸ List.mem_of_getElem? hp, hv⟩
section
variable {prog : Program} {w : World} {A : Around} {E : Value → Shared → Prop} {s : Shared} {h₀ : Heap} {L : Addr} {m : Str → Option Value} {news led : List (Addr × Obj)}
theorem list_add {a b : Addr} {xs ys : List Value} {na nb : Nat} {Q : Value → Shared → Prop} (F : Fr h₀ L s.heap m) (N : News h₀ L s.heap led) (ha : (a, W.listOf xs.toArray na) ∈ led) (hb : (b, W.listOf ys.toArray nb) ∈ led) (hz : xs.length + ys.length ≤ 1000)
    (h : ∀ D h', Fr h₀ L h' m → News h₀ L h' ((D, W.listOf (xs ++ ys).toArray 0) :: led) → (∀ p ∈ led, p.1 < D) → Q (.ref D) { s with heap := h' }) :
    wpAny (model prog w) A (binaryOp .Add (.ref a) (.ref b)) Q E s :=
  add_lists F N ⟨_, (N _ ha).1, rfl, _, rfl⟩ ⟨_, (N _ hb).1, rfl, _, rfl⟩ (fun h' F' N' => h _ h' F' N' fun p hp => Heap.lt_size (N p hp).1) (by rw [sizeLine_eq]; omega)
theorem have_add {wD G : Addr} {ws ms : List (Addr × Obj)} {wn : Nat} {c1 c2 c3 : Addr} {o1 o2 o3 : Obj} {v3 : Option Value} {Q : Value → Shared → Prop} (F : Fr h₀ L s.heap m)
    (N : News h₀ L s.heap ((G, LCg.lst (refsOf ms)) :: (ms ++ ((wD, W.listOf (refsOf ws).toArray wn) :: (ws ++ ((c3, o3) :: (c2, o2) :: (c1, o1) :: news))))))
    (hd3 : o3.data = .cell v3) (hn3 : ∀ p ∈ news, p.1 ≠ c3)
    (hws : ws.length = 5) (hwo : ∀ p ∈ ws, LimObj p) (hml : ms.length = 5) (hmo : ∀ p ∈ ms, LimObj p)
    (h : ∀ H (hs : List (Addr × Obj)) h', hs.length = 10 → (∀ p ∈ hs, LimObj p) → (∀ j : Nat, j < 5 → ws[j]? = hs[j]?) → (∀ p ∈ hs ++ news, p.1 ≠ c3) → (∀ p ∈ hs ++ news, p.1 < H) → @LT.lt Nat _ wD H ∧ @LT.lt Nat _ c3 H ∧ @LT.lt Nat _ c2 H ∧ @LT.lt Nat _ c1 H → @Ne Nat wD c3 → Fr h₀ L h' m →
      News h₀ L h' ((H, W.listOf (refsOf hs).toArray 0) :: (wD, W.listOf (refsOf ws).toArray wn) :: (c3, o3) :: (c2, o2) :: (c1, o1) :: (hs ++ news)) → Q (.ref H) { s with heap := h' }) :
    wpAny (model prog w) A (binaryOp .Add (.ref wD) (.ref G)) Q E s := by
  let led := ((G, LCg.lst (refsOf ms)) :: (ms ++ ((wD, W.listOf (refsOf ws).toArray wn) :: (ws ++ ((c3, o3) :: (c2, o2) :: (c1, o1) :: news)))))
  have inM : ∀ p ∈ ms, p ∈ led := fun p hp => .tail _ (List.mem_append.mpr (.inl hp))
  have inD : (wD, W.listOf (refsOf ws).toArray wn) ∈ led := .tail _ (List.mem_append.mpr (.inr (.head _)))
  have inW : ∀ p ∈ ws, p ∈ led := fun p hp => .tail _ (List.mem_append.mpr (.inr (.tail _ (List.mem_append.mpr (.inl hp)))))
  have inR : ∀ p ∈ (c3, o3) :: (c2, o2) :: (c1, o1) :: news, p ∈ led := fun p hp => .tail _ (List.mem_append.mpr (.inr (.tail _ (List.mem_append.mpr (.inr hp)))))
  have inH : ∀ p ∈ ws ++ ms, p ∈ led := fun p hp => (List.mem_append.mp hp).elim (inW p) (inM p)
  have c3l : (c3, o3) ∈ led := inR _ (.head _)
  have neData : ∀ (b : Addr) (o : Obj) xs n, (b, o) ∈ led → o.data = .seq xs n → b ≠ c3 := fun b o xs n hb hd e => by
    have q1 := (N _ hb).1
    have q2 := (N _ c3l).1
    dsimp only at q1 q2
    rw [e, q2] at q1
    rw [← Option.some.inj q1, hd3] at hd
    cases hd
  have hHo : ∀ p ∈ ws ++ ms, LimObj p := fun p hp => (List.mem_append.mp hp).elim (hwo p) (hmo p)
  refine list_add F N inD (.head _) (by simp [refsOf, hws, hml]) fun H h' F' N' l1 => ?_
  have e : refsOf ws ++ refsOf ms = refsOf (ws ++ ms) := by simp [refsOf]
  rw [e] at N'
  refine h H (ws ++ ms) h' (by rw [List.length_append, hws, hml]) hHo (fun j hj => (List.getElem?_append_left (by omega)).symm) ?_ ?_ ⟨l1 _ inD, l1 _ c3l, l1 _ (inR _ (.tail _ (.head _))), l1 _ (inR _ (.tail _ (.tail _ (.head _))))⟩ (neData _ _ _ _ inD rfl) F' fun p hp => ?_
  · intro p hp
    rcases List.mem_append.mp hp with hp | hp
    · obtain ⟨lo, mo, ⟨t1, t2, e⟩, _⟩ := hHo p hp
      exact neData p.1 p.2 _ _ (inH p hp) (by rw [e])
    · exact hn3 p hp
  · intro p hp
    rcases List.mem_append.mp hp with hp | hp
    · exact l1 p (inH p hp)
    · exact l1 p (inR p (.tail _ (.tail _ (.tail _ hp))))
  · rcases List.mem_cons.mp hp with rfl | hp
    · exact N' _ (.head _)
    refine N' p (.tail _ ?_)
    rcases List.mem_cons.mp hp with rfl | hp
    · exact inD
    rcases List.mem_cons.mp hp with rfl | hp
    · exact c3l
    rcases List.mem_cons.mp hp with rfl | hp
    · exact inR _ (.tail _ (.head _))
    rcases List.mem_cons.mp hp with rfl | hp
    · exact inR _ (.tail _ (.tail _ (.head _)))
    rcases List.mem_append.mp hp with hp | hp
    · exact inH p hp
    · exact inR _ (.tail _ (.tail _ (.tail _ hp)))
theorem tup_item {value slice : Expr} {t : Addr} {its : List Value} {k : Int} {u : Tok} {v : Value} {Q : Value → Shared → Prop} (N : News h₀ L s.heap led) (ht : (t, tupO its) ∈ led) (h0 : 0 ≤ k) (hk : k < 1000) (hx : its[k.toNat]? = some v) (h : Q v s)
    (hs : subscripted slice false (.ref t) (.int k u) = operate [.ref t, .int k u] (getItem (.ref t) (.int k u))) :
    wpAny (model prog w) A (subscriptTail value slice (.ref t) (.int k u)) Q E s := by
  have hT : IsTup s.heap t its.toArray := ⟨_, (N _ ht).1, rfl, _, rfl⟩
  have hlt : k.toNat < its.length := by
    rcases Nat.lt_or_ge k.toNat its.length with h | h
    · exact h
    · rw [List.getElem?_eq_none h] at hx; cases hx
  exact tail_any hT.typeIs slot_tuple_getitem.lookup (PyProof.Rows.getItem_tuple hT (by omega) (by omega) (seqIndex_of h0 (by rw [List.size_toArray]; omega)) (by simpa using hx) h) hs
end
/-- what the points hold -/
def LoAt (hs : List (Addr × Obj)) (i : Nat) (y : Value) : Prop := ∃ p lo mo t, hs[i]? = some p ∧ LimIs p lo mo ∧ y = .int lo t
def MoAt (hs : List (Addr × Obj)) (i : Nat) (ys : List Value) : Prop := ∃ ns, IntsAre ys ns ∧ ys.length ≤ i ∧ ∀ k, k < i → ∀ p lo b, hs[k]? = some p → LimIs p lo (some b) → b ∈ ns
theorem lo_ints {hs : List (Addr × Obj)} {ys : List Value} (hl : ys.length = hs.length) (h : ∀ (i : Nat) (y : Value), ys[i]? = some y → LoAt hs i y) : ∃ ns, IntsAre ys ns ∧ ∀ (k : Nat) p lo mo, hs[k]? = some p → LimIs p lo mo → lo ∈ ns := by
  have key : ∀ (j : Nat), j ≤ ys.length → ∃ ns, IntsAre (ys.take j) ns ∧ ∀ (k : Nat), k < j → ∀ p lo mo, hs[k]? = some p → LimIs p lo mo → lo ∈ ns := by
    intro j
    induction j with
    | zero => exact fun _ => ⟨[], .nil, fun k h => absurd h (Nat.not_lt_zero _)⟩
    | succ j ih =>
      intro hj
      obtain ⟨ns, hi, hm⟩ := ih (by omega)
      have hy : ys[j]? = some ys[j] := List.getElem?_eq_getElem (by omega)
      obtain ⟨p, lo, mo, t, hp, hL, hv⟩ := h j _ hy
      refine ⟨ns ++ [lo], ?_, ?_⟩
      · rw [List.take_add_one, hy, hv]
        exact hi.append (.cons _ _ .nil)
      · intro k hk p' lo' mo' hp' hL'
        rcases Nat.lt_or_ge k j with h | h
        · exact List.mem_append.mpr (.inl (hm k h p' lo' mo' hp' hL'))
        · have : k = j := by omega
          subst this
          rw [hp] at hp'
          cases hp'
          rw [(lim_same hL hL').1]
          exact List.mem_append.mpr (.inr (.head _))
  obtain ⟨ns, hi, hm⟩ := key ys.length (Nat.le_refl _)
  rw [List.take_length] at hi
  refine ⟨ns, hi, fun k p lo mo hp hL => hm k ?_ p lo mo hp hL⟩
  rcases Nat.lt_or_ge k hs.length with h | h
  · omega
  · rw [List.getElem?_eq_none h] at hp; cases hp
theorem mo_zero {hs : List (Addr × Obj)} : MoAt hs 0 [] := ⟨[], .nil, Nat.le_refl _, fun k h => absurd h (Nat.not_lt_zero _)⟩
theorem mo_skip {hs : List (Addr × Obj)} {i : Nat} {ys : List Value} {a : Addr} {lo : Int} {t1 t2 : Tok} (h : MoAt hs i ys) (hp : hs[i]? = some (a, tupO [.int lo t1, optV none t2])) : MoAt hs (i + 1) ys := by
  obtain ⟨ns, hi, hl, hm⟩ := h
  refine ⟨ns, hi, by omega, fun k hk p lo' b hp' hL => ?_⟩
  rcases Nat.lt_or_ge k i with h | h
  · exact hm k h p lo' b hp' hL
  · have : k = i := by omega
    subst this
    rw [hp] at hp'
    cases hp'
    have q := (lim_same (p := (a, tupO [.int lo t1, optV none t2])) (lo := lo) (mo := none) ⟨t1, t2, rfl⟩ hL).2
    cases q
theorem mo_step {hs : List (Addr × Obj)} {i : Nat} {ys : List Value} {a : Addr} {lo c : Int} {t1 t2 t : Tok} (h : MoAt hs i ys) (hp : hs[i]? = some (a, tupO [.int lo t1, optV (some c) t2])) : MoAt hs (i + 1) (ys ++ [.int c t]) := by
  obtain ⟨ns, hi, hl, hm⟩ := h
  refine ⟨ns ++ [c], hi.append (.cons _ _ .nil), by rw [List.length_append, List.length_singleton]; omega, fun k hk p lo' b hp' hL => ?_⟩
  rcases Nat.lt_or_ge k i with h | h
  · exact List.mem_append.mpr (.inl (hm k h p lo' b hp' hL))
  · have : k = i := by omega
    subst this
    rw [hp] at hp'
    cases hp'
    have q := (lim_same (p := (a, tupO [.int lo t1, optV (some c) t2])) (lo := lo) (mo := some c) ⟨t1, t2, rfl⟩ hL).2
    cases q
    exact List.mem_append.mpr (.inr (.head _))
/-- the points: every least, every most, and one beyond -/
structure Pts (hs : List (Addr × Obj)) (pns : List Int) : Prop where
  lo : ∀ (k : Nat) p lo mo, hs[k]? = some p → LimIs p lo mo → lo ∈ pns
  mo : ∀ (k : Nat) p lo b, hs[k]? = some p → LimIs p lo (some b) → b ∈ pns
  top : ∃ T ∈ pns, (∀ (k : Nat) p lo mo, hs[k]? = some p → LimIs p lo mo → lo ≤ T) ∧ ∀ (k : Nat) p lo b, hs[k]? = some p → LimIs p lo (some b) → b < T
theorem pts_of {hs : List (Addr × Obj)} {n1 n2 : List Int} {M : Int} (h1 : ∀ (k : Nat) p lo mo, hs[k]? = some p → LimIs p lo mo → lo ∈ n1) (h2 : ∀ (k : Nat) p lo b, hs[k]? = some p → LimIs p lo (some b) → b ∈ n2) (hM : ∀ a, a ∈ n1 ++ n2 → a ≤ M) :
    Pts hs (n1 ++ n2 ++ [M + 1]) := by
  refine ⟨fun k p lo mo hp hL => ?_, fun k p lo b hp hL => ?_, M + 1, ?_, fun k p lo mo hp hL => ?_, fun k p lo b hp hL => ?_⟩
  · exact List.mem_append.mpr (.inl (List.mem_append.mpr (.inl (h1 k p lo mo hp hL))))
  · exact List.mem_append.mpr (.inl (List.mem_append.mpr (.inr (h2 k p lo b hp hL))))
  · exact List.mem_append.mpr (.inr (.head _))
  · have := hM _ (List.mem_append.mpr (.inl (h1 k p lo mo hp hL))); omega
  · have := hM _ (List.mem_append.mpr (.inr (h2 k p lo b hp hL))); omega
/-- the plain law of the limits -/
theorem fits_told {hs : List (Addr × Obj)} {pns : List Int} (P : Pts hs pns) {i j : Nat} {p q : Addr × Obj} {lo wl : Int} {mo wm : Option Int} (hp : hs[i]? = some p) (hq : hs[j]? = some q) (hl : LimIs p lo mo) (hw : LimIs q wl wm) (hv : Valid lo mo) :
    (pns.all fun x => adm wl wm x || !adm lo mo x) = fits lo mo wl wm := by
  rw [Bool.eq_iff_iff, List.all_eq_true]
  constructor
  · intro h
    have hlo := h lo (P.lo i p lo mo hp hl)
    obtain ⟨T, hT, hT1, hT2⟩ := P.top
    have hTT := h T hT
    have a1 := hT1 i p lo mo hp hl
    cases mo with
    | none =>
      cases wm with
      | none => simp [adm, fits] at hlo ⊢; omega
      | some b =>
        have := hT2 j q wl b hq hw
        simp [adm, fits] at hTT ⊢; omega
    | some c =>
      have hc := h c (P.mo i p lo c hp hl)
      have hvc := hv c rfl
      cases wm with
      | none => simp [adm, fits] at hlo ⊢; omega
      | some b => simp [adm, fits] at hlo hc ⊢; omega
  · intro h x _
    cases mo with
    | none => cases wm with
      | none => simp [adm, fits] at h ⊢; omega
      | some b => simp [fits] at h
    | some c => cases wm with
      | none => simp [adm, fits] at h ⊢; omega
      | some b => simp [adm, fits] at h ⊢; omega
end Mine
end
-- ToldL3
section
open PySem PySem.W PySem.Calls PySem.Spec PyProof.Rows
namespace Mine
section
variable {prog : Program} {w : World} {A : Around} {E : Value → Shared → Prop} {s : Shared} {env : Env} {h₀ : Heap} {x : Str} {body : List Stmt} {Q : Flow → Shared → Prop}
def RkJ (led : List (Addr × Obj)) (x : Str) (stored : List Str) (m₀ m : Str → Option Value) (nx : List (Addr × Obj)) : Prop := nx = led ∧ ∀ z, z ≠ x → stored.contains z = false → m z = m₀ z
/-- a for over a range whose turns keep nothing -/
theorem range_keep {r : Addr} {b₀ : Int} {t₀ u₀ v₀ : Tok} {n : Nat} {m₀ : Str → Option Value} {led : List (Addr × Obj)} (stored : List Str)
    (hh : A.handled = none) (hr : IsRange s.heap r 0 b₀ 1 t₀ u₀ v₀) (hsmall : Builtin.Range.small 0 b₀ 1 = true) (hn : Builtin.Range.rangeSize 0 b₀ 1 = (n : Int)) (F : Fr h₀ env.locals s.heap m₀) (N : News h₀ env.locals s.heap led)
    (turn : ∀ (i : Nat) t (u : Str → Option Value) h tk own, i < n → OwnOff own (led.map (·.1)) →
      Fr h₀ env.locals h (fun y => if y = x then some (.int (i : Int) t) else if stored.contains y then u y else m₀ y) → News h₀ env.locals h (led ++ own) →
      wpAny (model prog w) A (execs body env) (InvPostN h₀ env.locals (RkJ led x stored m₀) own (led.map (·.1)) { s with heap := h, toks := tk } Q) E { s with heap := h, toks := tk })
    (done : ∀ (u : Str → Option Value) h tk, Fr h₀ env.locals h (fun y => if y = x then u y else if stored.contains y then u y else m₀ y) → News h₀ env.locals h led → Q .next { s with heap := h, toks := tk }) :
    wpAny (model prog w) A (pyIter (.ref r)) (fun it s₂ => LoopAtV prog w A h₀ env x body Q E it s₂) E s := by
  refine wpAny_pyIter_range hr hsmall ?_
  have W : Walks prog w A s.heap.objs.size [s.heap.objs.size] [s.heap.objs.size] n (fun i v => i < n ∧ ∃ t, v = .int (0 + i * 1) t)
      (fun i h => IsRangeIter h s.heap.objs.size (0 + (i : Nat) * 1) ((n : Int) - (i : Nat)) 1) := (Walks.range hh _ 0 1 n).bound
  refine loop_invN (fun _ m nx => RkJ led x stored m₀ m nx) W ?_ ?_ ?_ ?_ (by show IsRangeIter _ _ _ _ _; rw [hn]; simpa using Heap.get?_push_size _ rfl) (F.push _) (fun p hp => ⟨Heap.get?_push_of_some _ (N p hp).1, (N p hp).2⟩) ⟨rfl, fun _ _ _ => rfl⟩ ?_ ?_
  · intro hm
    exact absurd F.ns.lt ((List.mem_singleton.mp hm) ▸ Nat.lt_irrefl _)
  · intro b hb
    rw [List.mem_singleton.mp hb]
    exact next_is_new F
  · intro p hp hI
    exact absurd (Heap.lt_size (N p hp).1) ((List.mem_singleton.mp hI) ▸ Nat.lt_irrefl _)
  · intro p hp hI
    exact absurd (Heap.lt_size (N p hp).1) ((List.mem_singleton.mp hI) ▸ Nat.lt_irrefl _)
  · rintro i v m₁ nx h tk own hi ⟨_, t, rfl⟩ _ hoff ⟨rfl, hm⟩ F₁ N₁
    have e1 : (0 : Int) + (i : Int) * 1 = (i : Int) := by omega
    rw [e1] at F₁
    exact turn i t m₁ h tk own hi hoff (gr_fr hm F₁) N₁
  · rintro m₁ nx h tk ⟨rfl, hm⟩ F₁ N₁
    exact done m₁ h tk (gr_frOut hm F₁) N₁
/-- a for over a list of ints of the ledger whose turns keep nothing -/
theorem list_keep {l : Addr} {vs : List Value} {ns : List Int} {nn : Nat} {m₀ : Str → Option Value} {led : List (Addr × Obj)} (stored : List Str)
    (hh : A.handled = none) (hl : (l, W.listOf vs.toArray nn) ∈ led) (hi : IntsAre vs ns) (F : Fr h₀ env.locals s.heap m₀) (N : News h₀ env.locals s.heap led)
    (turn : ∀ (n : Int) t (u : Str → Option Value) h tk own, n ∈ ns → OwnOff own (led.map (·.1)) →
      Fr h₀ env.locals h (fun y => if y = x then some (.int n t) else if stored.contains y then u y else m₀ y) → News h₀ env.locals h (led ++ own) →
      wpAny (model prog w) A (execs body env) (InvPostN h₀ env.locals (RkJ led x stored m₀) own (led.map (·.1)) { s with heap := h, toks := tk } Q) E { s with heap := h, toks := tk })
    (done : ∀ (u : Str → Option Value) h tk, Fr h₀ env.locals h (fun y => if y = x then u y else if stored.contains y then u y else m₀ y) → News h₀ env.locals h led → Q .next { s with heap := h, toks := tk }) :
    wpAny (model prog w) A (pyIter (.ref l)) (fun it s₂ => LoopAtV prog w A h₀ env x body Q E it s₂) E s := by
  refine iter_invNL (fun _ m nx => RkJ led x stored m₀ m nx) hh hl hi F N ⟨rfl, fun _ _ _ => rfl⟩ ?_ ?_
  · rintro i n t m₁ nx h tk own hn _ hoff _ ⟨rfl, hm⟩ F₁ N₁
    refine wpAny_mono (turn n t m₁ h tk own (List.mem_of_getElem? hn) hoff (gr_fr hm F₁) N₁) (fun f s₂ p => ?_) fun _ _ e => e
    have up : InvEndN h₀ env.locals (RkJ nx x stored m₀) own (nx.map (·.1)) { s with heap := h, toks := tk } s₂ →
        InvEndN h₀ env.locals (fun m' nx' => (l, W.listOf vs.toArray nn) ∈ nx' ∧ RkJ nx x stored m₀ m' nx') own (nx.map (·.1)) { s with heap := h, toks := tk } s₂ := by
      rintro ⟨h', tk', m', news', nx', e', F', N', hn', ho', ha, hJ, hJ2⟩
      exact ⟨h', tk', m', news', nx', e', F', N', hn', ho', ha, hJ ▸ hl, hJ, hJ2⟩
    cases f with
    | ret v => exact p
    | brk => exact p
    | next => exact up p
    | cont => exact up p
  · rintro m₁ nx h tk _ ⟨rfl, hm⟩ F₁ N₁
    exact done m₁ h tk (gr_frOut hm F₁) N₁
theorem rk_end {led : List (Addr × Obj)} {stored : List Str} {m₀ : Str → Option Value} {L : Addr} {m' : Str → Option Value} {own news' : List (Addr × Obj)} {s₁ : Shared} {h' : Heap} {tk : Nat}
    (F : Fr h₀ L h' m') (N : News h₀ L h' news') (hn : ∀ p ∈ led, p ∈ news') (ho : ∀ p ∈ own, p ∈ news') (hr : ∀ z, z ≠ x → stored.contains z = false → m' z = m₀ z) :
    InvEndN h₀ L (RkJ led x stored m₀) own (led.map (·.1)) s₁ { s₁ with heap := h', toks := tk } := InvEndN.intro F N ⟨rfl, hr⟩ rfl hn ho
end
section
variable {prog : Program} {w : World} {A : Around} {E : Value → Shared → Prop} {s : Shared} {h₀ : Heap} {L : Addr} {m : Str → Option Value} {led : List (Addr × Obj)}
theorem list_item_at {value slice : Expr} {l : Addr} {vs : List Value} {n : Nat} {k : Int} {u : Tok} {v : Value} {Q : Value → Shared → Prop} (N : News h₀ L s.heap led) (hm : (l, W.listOf vs.toArray n) ∈ led)
    (h0 : 0 ≤ k) (hz : vs.length ≤ 1000) (hx : vs[k.toNat]? = some v) (h : Q v s)
    (hs : subscripted slice false (.ref l) (.int k u) = operate [.ref l, .int k u] (getItem (.ref l) (.int k u))) :
    wpAny (model prog w) A (subscriptTail value slice (.ref l) (.int k u)) Q E s := by
  have hlt : k.toNat < vs.length := by
    rcases Nat.lt_or_ge k.toNat vs.length with h | h
    · exact h
    · rw [List.getElem?_eq_none h] at hx; cases hx
  refine list_item N hm h0 (by omega) hz (fun v' hv' => ?_) hs
  rw [hx] at hv'
  cases hv'
  exact h
end
theorem refs_get {hs : List (Addr × Obj)} {i : Nat} {a : Addr} {o : Obj} (h : hs[i]? = some (a, o)) : (refsOf hs)[((i : Int)).toNat]? = some (Value.ref a) := by
  show (refsOf hs)[i]? = _
  rw [refsOf, List.getElem?_map, h]; rfl
theorem lim_get {hs : List (Addr × Obj)} {n i : Nat} (hl : hs.length = n) (ho : ∀ p ∈ hs, LimObj p) (hi : i < n) :
    ∃ a lo mo t1 t2, hs[i]? = some (a, tupO [.int lo t1, optV mo t2]) ∧ (a, tupO [.int lo t1, optV mo t2]) ∈ hs ∧ Valid lo mo := by
  obtain ⟨p, hp⟩ : ∃ p, hs[i]? = some p := ⟨_, List.getElem?_eq_getElem (by omega)⟩
  obtain ⟨lo, mo, ⟨t1, t2, e⟩, hv⟩ := ho p (List.mem_of_getElem? hp)
  exact ⟨p.1, lo, mo, t1, t2, e ▸ hp, e ▸ List.mem_of_getElem? hp, hv⟩
def LetAt (hs : List (Addr × Obj)) (pns : List Int) (i : Nat) (q : Addr × Obj) : Prop := ∃ p lo mo, hs[i]? = some p ∧ LimIs p lo mo ∧ q.2 = LCg.lst (pns.map fun x => .bool (adm lo mo x))
theorem let_get {hs lt : List (Addr × Obj)} {pns : List Int} {n i : Nat} {a : Addr} {lo : Int} {mo : Option Int} {t1 t2 : Tok} (hl : lt.length = n) (ho : ∀ k p, lt[k]? = some p → LetAt hs pns k p) (hi : i < n) (hp : hs[i]? = some (a, tupO [.int lo t1, optV mo t2])) :
    ∃ b, lt[i]? = some (b, LCg.lst (pns.map fun x => .bool (adm lo mo x))) ∧ (b, LCg.lst (pns.map fun x => .bool (adm lo mo x))) ∈ lt := by
  obtain ⟨q, hq⟩ : ∃ q, lt[i]? = some q := ⟨_, List.getElem?_eq_getElem (by omega)⟩
  obtain ⟨p, lo', mo', hp', hL, e⟩ := ho i q hq
  rw [hp] at hp'
  cases hp'
  obtain ⟨rfl, rfl⟩ := lim_same hL ⟨t1, t2, rfl⟩
  exact ⟨q.1, e ▸ hq, e ▸ List.mem_of_getElem? hq⟩
theorem ref_get {rys : List Value} {i : Nat} (hl : rys.length = 5) (hy : ∀ (i : Nat) (y : Value), rys[i]? = some y → ∃ k t, y = Value.int k t ∧ (k = -16 ∨ k = -17)) :
    ∃ r t, rys[(((i : Int)).fmod 5).toNat]? = some (Value.int r t) ∧ (r = -16 ∨ r = -17) := by
  have h0 : 0 ≤ ((i : Int)).fmod 5 := Int.fmod_nonneg_of_pos _ (by decide)
  have h5 : ((i : Int)).fmod 5 < 5 := Int.fmod_lt_of_pos _ (by decide)
  obtain ⟨v, hv⟩ : ∃ v, rys[(((i : Int)).fmod 5).toNat]? = some v := ⟨_, List.getElem?_eq_getElem (by omega)⟩
  obtain ⟨k, t, rfl, hk⟩ := hy _ _ hv
  exact ⟨k, t, hv, hk⟩
theorem fmod5_nonneg (i : Nat) : 0 ≤ ((i : Int)).fmod 5 := Int.fmod_nonneg_of_pos _ (by decide)
/-- what the comprehension over the pairs of lets gives -/
def ZAt (lo : Int) (mo : Option Int) (wl : Int) (wm : Option Int) (pns : List Int) (i : Nat) (z : Value) : Prop := ∀ k : Int, pns[i]? = some k → z = Value.bool (adm wl wm k || !adm lo mo k)
theorem z_ys {lo wl : Int} {mo wm : Option Int} {pns : List Int} {zs : List Value} (hl : zs.length = pns.length) (h : ∀ i z, zs[i]? = some z → ZAt lo mo wl wm pns i z) : LSm.BoolsAre zs (pns.map fun k => adm wl wm k || !adm lo mo k) := by
  have e : zs = pns.map fun k => Value.bool (adm wl wm k || !adm lo mo k) := by
    refine List.ext_getElem? fun i => ?_
    rw [List.getElem?_map]
    rcases Nat.lt_or_ge i zs.length with hlt | hge
    · obtain ⟨z, hz⟩ : ∃ z, zs[i]? = some z := ⟨_, List.getElem?_eq_getElem hlt⟩
      obtain ⟨k, hk⟩ : ∃ k, pns[i]? = some k := ⟨_, List.getElem?_eq_getElem (by omega)⟩
      rw [hz, hk, h i z hz k hk]; rfl
    · rw [List.getElem?_eq_none hge, List.getElem?_eq_none (by omega)]; rfl
  rw [e]
  clear e h hl
  induction pns with
  | nil => exact .nil
  | cons a r ih => exact .cons _ ih
theorem all_told {hs : List (Addr × Obj)} {pns : List Int} (P : Pts hs pns) {i j : Nat} {a b : Addr} {lo wl : Int} {mo wm : Option Int} {t1 t2 t3 t4 : Tok} (hp : hs[i]? = some (a, tupO [.int lo t1, optV mo t2])) (hq : hs[j]? = some (b, tupO [.int wl t3, optV wm t4])) (hv : Valid lo mo) :
    (pns.map fun k => adm wl wm k || !adm lo mo k).all id = fits lo mo wl wm := by
  rw [← fits_told P hp hq ⟨_, _, rfl⟩ ⟨_, _, rfl⟩ hv, List.all_map]
  rfl
section
variable {prog : Program} {w : World} {A : Around} {E : Value → Shared → Prop} {s : Shared} {h₀ : Heap} {L : Addr} {m : Str → Option Value} {env : Env}
def ZEnd (s : Shared) (h : Heap) (Y : Value → Prop) (z : Value) (s' : Shared) : Prop := ∃ tk', s' = { s with heap := h, toks := tk' } ∧ Y z
theorem zip_pairs {elt iter : Expr} {a b : Str} {pa pb tp : Pos} {kk : Nat} {scope : Scope} {cl : List (Str × Addr)} {pos : Pos} {Q : Value → Shared → Prop} {l1 l2 : Addr} {n1 n2 : Nat} {led : List (Addr × Obj)} {lo wl : Int} {mo wm : Option Int} {pns : List Int}
    (hh : A.handled = none) (hcell : ∀ y ∈ scope.names, y.2 ≠ .cell) (hkind : scope.kind = .function) (hxa : scope.names.lookup a = some .local) (hxb : scope.names.lookup b = some .local) (hab : ¬ a = b)
    (F : Fr h₀ L s.heap m) (N : News h₀ L s.heap led) (hm1 : (l1, LCg.lst (pns.map fun x => Value.bool (adm lo mo x))) ∈ led) (hm2 : (l2, LCg.lst (pns.map fun x => Value.bool (adm wl wm x))) ∈ led) (hsz : pns.length ≤ 1000)
    (turn : ∀ p q C oC D m₂ zs h tk (E' : Value → Shared → Prop), LCg.NsObj oC m₂ → m₂ a = some (.bool p) → m₂ b = some (.bool q) → Fr h₀ L h m → News h₀ L h ((C, oC) :: (D, LCg.lst zs) :: led) →
      wpAny (model prog w) A (eval elt (compEnvC scope cl C env)) (ZEnd s h (fun z => z = .bool (q || !p))) E' { s with heap := h, toks := tk })
    (fin : ∀ D zs h tk, LSm.BoolsAre zs (pns.map fun k => adm wl wm k || !adm lo mo k) → Fr h₀ L h m → News h₀ L h ((D, LCg.lst zs) :: led) → Q (.ref D) { s with heap := h, toks := tk }) :
    wpAny (model prog w) A (call (.type "zip") [.ref l1, .ref l2]) (ZipAfter prog w A env elt iter a b pa pb tp kk scope cl pos Q E) E s := by
  refine zip_call (n1 := n1) (n2 := n2) (ZAt lo mo wl wm pns) hh hcell hkind hxa hxb hab F N hm1 hm2 (by rw [List.length_map, List.length_map]) (by rw [List.length_map, sizeLine_eq]; omega) ?_ ?_
  · intro i x y C oC D m₂ zs h tk E' hx hy hC ha hb F' N'
    rw [List.getElem?_map] at hx hy
    cases e : pns[i]? with
    | none => rw [e] at hx; cases hx
    | some k =>
      rw [e] at hx hy
      cases hx
      cases hy
      refine wpAny_mono (turn _ _ C oC D m₂ zs h tk E' hC ha hb F' N') (fun z s' hz => ?_) fun _ _ e => e
      obtain ⟨tk', e1, e2⟩ := hz
      refine ⟨tk', e1, fun k' hk' => ?_⟩
      rw [e] at hk'
      cases hk'
      exact e2
  · intro D zs h tk hl hz F' N' _
    exact fin D zs h tk (z_ys (by rw [hl, List.length_map]) hz) F' N'
end
end Mine
end
-- CTold
section
open PySem PySem.W PySem.Calls PySem.Spec PyProof.Rows
namespace Mine
local macro_rules | `(tactic| walk_at "call ref") => `(tactic| k_extra "mycall")
local macro_rules | `(tactic| walk_at "CompSrc") => `(tactic| (k_extra "mysrc"))
local macro_rules | `(tactic| walk_at "CompSrcT") => `(tactic| (k_extra "mysrct"))
local macro_rules | `(tactic| walk_at "CompEnd") => `(tactic| (k_extra "mycend"))
local macro_rules | `(tactic| k_mem) => `(tactic| first | exact List.Mem.head _ | (with_reducible assumption) | (refine List.mem_cons_of_mem _ ?_; k_mem) | (refine List.mem_append_right _ ?_; k_mem) | (refine List.mem_append_left _ ?_; k_mem))
local macro_rules | `(tactic| walk_at "subs") => `(tactic| first | exact sub0 | (refine sub1 ?_; walk_at "subs"))
local macro_rules | `(tactic| walk_at "conprem") => `(tactic| (
  (case k1 => k_asm); (case k2 => k_asm); (case k3 => k_asm); (case k4 => k_asm); (case k5 => k_asm); (case kK => first | exact rfl | assumption); (case kd => ktr_room); (case ku => ktr_units)))
local macro_rules | `(tactic| k_all) => `(tactic| first | exact ne_all_lt (allLt_of (by assumption)) (by omega) | exact ne_all_lt (by assumption) (by omega))
local macro_rules | `(tactic| walk_at "subscriptTail") => `(tactic| (k_extra "myitem"))
theorem grown_open {r : Value} {tl : List (Addr × Obj)} (h : LimPost r tl) : ∃ D lo mo t1 t2, r = .ref D ∧ tl = [(D, tupO [.int lo t1, optV mo t2])] ∧ Valid lo mo := h
theorem new_ne {news : List (Addr × Obj)} {D : Addr} {o : Obj} (h : ∀ q ∈ news, ∀ p ∈ [(D, o)], q.1 < p.1) : ∀ q ∈ news, q.1 ≠ D := fun q hq => Nat.ne_of_lt (h q hq _ (.head _))
theorem new_off {I C D p : Addr} {oI oC oD : Obj} {r : List (Addr × Obj)} (h : ∀ q ∈ (I, oI) :: (C, oC) :: (D, oD) :: r, q.1 ≠ p) : p ≠ I ∧ p ≠ C ∧ p ≠ D := ⟨(h _ (.head _)).symm, (h _ (.tail _ (.head _))).symm, (h _ (.tail _ (.tail _ (.head _)))).symm⟩
local macro_rules | `(tactic| walk_at "binaryOp Add") => `(tactic| (k_extra "myadd"))
theorem range_item {i : Nat} {v : Value} (h : ∃ t, v = Value.int (0 + (i : Int)) t) : ∃ t, v = Value.int (i : Int) t := by
  obtain ⟨t, h⟩ := h
  exact ⟨t, by rw [h, Int.zero_add]⟩
theorem hs_sz {hs : List (Addr × Obj)} {n : Nat} (h : hs.length = n) (hn : n ≤ 1000) : (refsOf hs).toArray.size ≤ sizeLine := by
  rw [List.size_toArray, List.length_map, h, sizeLine_eq]; omega
theorem mo_open {hs : List (Addr × Obj)} {n : Nat} {ys : List Value} (h : MoAt hs n ys) (hn : hs.length ≤ n) : ∃ ns, IntsAre ys ns ∧ ys.length ≤ n ∧ ∀ (k : Nat) p lo b, hs[k]? = some p → LimIs p lo (some b) → b ∈ ns := by
  obtain ⟨ns, hi, hl, hm⟩ := h
  refine ⟨ns, hi, hl, fun k p lo b hp hL => hm k ?_ p lo b hp hL⟩
  rcases Nat.lt_or_ge k hs.length with h | h
  · omega
  · rw [List.getElem?_eq_none h] at hp; cases hp
theorem lo_open {hs : List (Addr × Obj)} {ys : List Value} (hl : ys.length = (refsOf hs).toArray.size) (h : ∀ (i : Nat) (y : Value), ys[i]? = some y → LoAt hs i y) : ∃ ns, IntsAre ys ns ∧ ys.length = hs.length ∧ ∀ (k : Nat) p lo mo, hs[k]? = some p → LimIs p lo mo → lo ∈ ns := by
  have hl' : ys.length = hs.length := by rw [hl, List.size_toArray, List.length_map]
  obtain ⟨ns, a, b⟩ := lo_ints hl' h
  exact ⟨ns, a, hl', b⟩
theorem lo_at {hs : List (Addr × Obj)} {i : Nat} {a : Addr} {lo : Int} {mo : Option Int} {t1 t2 t : Tok} (h : hs[i]? = some (a, tupO [.int lo t1, optV mo t2])) : LoAt hs i (.int lo t) := ⟨_, lo, mo, t, h, ⟨t1, t2, rfl⟩, rfl⟩
theorem subl {hs n : List (Addr × Obj)} : ∀ p ∈ hs, p ∈ hs ++ n := fun _ h => List.mem_append.mpr (.inl h)
theorem subr {hs n a : List (Addr × Obj)} (h : ∀ p ∈ hs, p ∈ n) : ∀ p ∈ hs, p ∈ a ++ n := fun p hp => List.mem_append.mpr (.inr (h p hp))
local macro_rules | `(tactic| walk_at "subh") => `(tactic| first | exact subl | (refine sub1 ?_; walk_at "subh") | (refine subr ?_; walk_at "subh"))
theorem refs_lt {ws : List (Addr × Obj)} {n i : Nat} (h : ws.length = n) (hi : i < n) : (i : Int) < ((refsOf ws).length : Nat) := by rw [List.length_map, h]; omega
theorem refs_le {ws : List (Addr × Obj)} {n : Nat} (h : ws.length = n) (hi : n ≤ 1000) : (refsOf ws).length ≤ 1000 := by rw [List.length_map, h]; exact hi
section
variable {prog : Program} {w : World} {A : Around} {E : Value → Shared → Prop} {s : Shared} {h₀ : Heap} {L : Addr} {led : List (Addr × Obj)}
theorem tup_itemS {value slice : Expr} {t : Addr} {its : List Value} {k : Int} {u : Tok} {v : Value} {Q : Value → Shared → Prop} (hs : List (Addr × Obj)) (N : News h₀ L s.heap led) (sub : ∀ p ∈ hs, p ∈ led) (ht : (t, tupO its) ∈ hs) (h0 : 0 ≤ k) (hk : k < 1000) (hx : its[k.toNat]? = some v) (h : Q v s)
    (hs : subscripted slice false (.ref t) (.int k u) = operate [.ref t, .int k u] (getItem (.ref t) (.int k u))) :
    wpAny (model prog w) A (subscriptTail value slice (.ref t) (.int k u)) Q E s := tup_item N (sub _ ht) h0 hk hx h hs
end
local macro_rules | `(tactic| walk_at "subscriptTail Name Constant ref int") => `(tactic| (k_extra "myitem"))
local macro_rules | `(tactic| walk_at "subscriptTail Name Name ref int") => `(tactic| (k_extra "myitem"))
theorem mo_openS {hs : List (Addr × Obj)} {ys : List Value} (h : MoAt hs (refsOf hs).toArray.size ys) : ∃ ns, IntsAre ys ns ∧ ys.length ≤ hs.length ∧ ∀ (k : Nat) p lo b, hs[k]? = some p → LimIs p lo (some b) → b ∈ ns := by
  have e : (refsOf hs).toArray.size = hs.length := by rw [List.size_toArray, List.length_map]
  rw [e] at h
  exact mo_open h (Nat.le_refl _)
theorem pts_sz {hs : List (Addr × Obj)} {xs ys : List Value} (h : hs.length = 10) (h1 : xs.length = hs.length) (h2 : ys.length ≤ hs.length) : xs.length + ys.length ≤ 1000 := by omega
theorem pts_szA {hs : List (Addr × Obj)} {xs ys : List Value} (h : hs.length = 10) (h1 : xs.length = hs.length) (h2 : ys.length ≤ hs.length) : (xs ++ ys).length ≤ 1000 := by rw [List.length_append]; omega
theorem pts_szB {hs : List (Addr × Obj)} {xs ys : List Value} {v : Value} (h : hs.length = 10) (h1 : xs.length = hs.length) (h2 : ys.length ≤ hs.length) : (xs ++ ys ++ [v]).length ≤ 100 := by rw [List.length_append, List.length_append, List.length_singleton]; omega
theorem pts_ne {hs : List (Addr × Obj)} {xs ys : List Value} {n1 n2 : List Int} (i1 : IntsAre xs n1) (i2 : IntsAre ys n2) (h : hs.length = 10) (h1 : xs.length = hs.length) : 0 < (n1 ++ n2).length := by
  have := i1.length
  rw [List.length_append]; omega
theorem ne_weak {led news : List (Addr × Obj)} {d : Addr} (h : ∀ p ∈ led, p.1 < d) (hs : ∀ p ∈ news, p ∈ led) : ∀ p ∈ news, p.1 ≠ d := fun p hp => Nat.ne_of_lt (h p (hs p hp))
section
variable {prog : Program} {w : World} {A : Around} {E : Value → Shared → Prop} {s : Shared} {h₀ : Heap} {L : Addr} {m : Str → Option Value} {keep : List (Addr × Obj)}
theorem app_head {D : Addr} {vs : List Value} {n : Nat} {v : Value} {Q : Value → Shared → Prop} (F : Fr h₀ L s.heap m) (N : News h₀ L s.heap ((D, W.listOf vs.toArray n) :: keep)) (hz : vs.length ≤ 1000) (hne : ∀ p ∈ keep, p.1 ≠ D)
    (h : ∀ h', Fr h₀ L h' m → News h₀ L h' ((D, W.listOf (vs ++ [v]).toArray (n + 1)) :: keep) → Q .none { s with heap := h' }) :
    wpAny (model prog w) A (call (.builtin "list.append") [.ref D, v]) Q E s := app_here keep F N (.head _) hz (fun _ hp => .tail _ hp) hne h
end
theorem lets_open {lo : Int} {mo : Option Int} {pns : List Int} {r : Value} {tl : List (Addr × Obj)} (h : LetsPost lo mo pns r tl) : ∃ D, r = .ref D ∧ tl = [(D, LCg.lst (pns.map fun p => .bool (adm lo mo p)))] := h
theorem lets_ne {news : List (Addr × Obj)} {D : Addr} {o : Obj} (h : ∀ q ∈ news, ∀ p ∈ [(D, o)], q.1 ≠ p.1) : ∀ q ∈ news, q.1 ≠ D := fun q hq => h q hq _ (.head _)
local macro_rules | `(tactic| k_all) => `(tactic| assumption)
local macro_rules | `(tactic| walk_at "memr") => `(tactic| first | (with_reducible exact List.mem_cons_self ..) | (with_reducible refine List.mem_cons_of_mem _ ?_; walk_at "memr") | (with_reducible refine List.mem_append_right _ ?_; walk_at "memr") | (with_reducible exact List.mem_append_left _ (by assumption)))
local macro_rules | `(tactic| walk_at "call builtin:max") => `(tactic| (k_extra "mymax"))
local macro_rules | `(tactic| walk_at "call builtin:list.append") => `(tactic| (k_extra "myapp"))
local macro_rules | `(tactic| walk_at "binaryOp Add ref ref") => `(tactic| (k_extra "myadd"))
theorem pts_names {h₀ h : Heap} {L P : Addr} {xs ys : List Value} {n1 n2 : List Int} {a : Int} {t : Tok} {n : Nat} {keep : List (Addr × Obj)} (nu : News h₀ L h ((P, W.listOf (xs ++ ys ++ [Value.int a t]).toArray n) :: keep)) (i1 : IntsAre xs n1) (i2 : IntsAre ys n2) :
    IntsAre (xs ++ ys ++ [Value.int a t]) (n1 ++ n2 ++ [a]) := (i1.append i2).append (IntsAre.cons a t .nil)
local macro_rules | `(tactic| walk_at "pyIter ref") => `(tactic| (k_extra "myiter"))
local macro_rules | `(tactic| walk_at "InvEndN") => `(tactic| (k_extra "myend"))
local macro_rules | `(tactic| walk_at "eval ListComp") => `(tactic| (k_extra "mylc"))
local macro_rules | `(tactic| walk_at "call type:zip") => `(tactic| (k_extra "myzip"))
local macro_rules | `(tactic| walk_at "ZEnd") => `(tactic| (k_extra "myzend"))
local macro_rules | `(tactic| walk_at "call builtin:all") => `(tactic| (k_extra "myall"))
theorem told_led {h₀ h : Heap} {L LT P H wD Dm Dl Dr : Addr} {hs ws lt news : List (Addr × Obj)} {ps mys lys rys : List Value} {np wn : Nat} {c3 c2 c1 : Addr × Obj}
    (N : News h₀ L h ((LT, LCg.lst (refsOf lt)) :: (lt ++ ((P, W.listOf ps.toArray np) :: (Dm, LCg.lst mys) :: (Dl, LCg.lst lys) :: (Dr, LCg.lst rys) :: (H, W.listOf (refsOf hs).toArray 0) :: (wD, W.listOf (refsOf ws).toArray wn) :: c3 :: c2 :: c1 :: (hs ++ news))))) :
    ∃ led, News h₀ L h led ∧ (LT, LCg.lst (refsOf lt)) ∈ led ∧ (∀ p ∈ lt, p ∈ led) ∧ (Dr, LCg.lst rys) ∈ led ∧ (H, W.listOf (refsOf hs).toArray 0) ∈ led ∧ (wD, W.listOf (refsOf ws).toArray wn) ∈ led ∧ (∀ p ∈ hs, p ∈ led) ∧ (∀ p ∈ news, p ∈ led) ∧ c2 ∈ led := by
  refine ⟨_, N, .head _, fun p hp => .tail _ (List.mem_append.mpr (.inl hp)), ?_, ?_, ?_, fun p hp => ?_, fun p hp => ?_, ?_⟩
  · exact .tail _ (List.mem_append.mpr (.inr (.tail _ (.tail _ (.tail _ (.head _))))))
  · exact .tail _ (List.mem_append.mpr (.inr (.tail _ (.tail _ (.tail _ (.tail _ (.head _)))))))
  · exact .tail _ (List.mem_append.mpr (.inr (.tail _ (.tail _ (.tail _ (.tail _ (.tail _ (.head _))))))))
  · exact .tail _ (List.mem_append.mpr (.inr (.tail _ (.tail _ (.tail _ (.tail _ (.tail _ (.tail _ (.tail _ (.tail _ (.tail _ (List.mem_append.mpr (.inl hp)))))))))))))
  · exact .tail _ (List.mem_append.mpr (.inr (.tail _ (.tail _ (.tail _ (.tail _ (.tail _ (.tail _ (.tail _ (.tail _ (.tail _ (List.mem_append.mpr (.inr hp)))))))))))))
  · exact .tail _ (List.mem_append.mpr (.inr (.tail _ (.tail _ (.tail _ (.tail _ (.tail _ (.tail _ (.tail _ (.head _))))))))))
theorem lt_ten {hs lt : List (Addr × Obj)} (h : hs.length = 10) (hl : lt.length = (refsOf hs).toArray.size) : lt.length = 10 := by rw [hl, List.size_toArray, List.length_map, h]
theorem pns_sz {ps : List Value} {pns : List Int} (i : IntsAre ps pns) (h : ps.length ≤ 100) : pns.length ≤ 1000 := by rw [← i.length]; omega
theorem ten_of {j : Nat} (h : j < 5) : j < 10 := by omega
theorem five_sz {rys : List Value} (h : rys.length = 5) : rys.length ≤ 1000 := by omega
local macro_rules | `(tactic| walk_at "memL") => `(tactic| first | (with_reducible assumption) | (with_reducible exact List.mem_cons_self ..) | (with_reducible refine List.mem_append_left _ ?_; walk_at "memL") | (with_reducible refine List.mem_cons_of_mem _ ?_; walk_at "memL"))
theorem subA {led a b : List (Addr × Obj)} (h : ∀ p ∈ led, p ∈ a) : ∀ p ∈ led, p ∈ a ++ b := fun p hp => List.mem_append.mpr (.inl (h p hp))
local macro_rules | `(tactic| walk_at "subL") => `(tactic| first | exact sub0 | (refine sub1 ?_; walk_at "subL") | exact subr sub0 | (refine subA ?_; walk_at "subL"))
local macro_rules | `(tactic| walk_at "KCj") => `(tactic| k_dflt (refine' kcj_end (t := (0 : Nat)) ?kce ?kcv rfl ?kF ?kN ?kA; (case kcv => rfl); (case kF => assumption); (case kN => assumption); (case kA => walk_at "subL"); (case kce => rfl)))
theorem two_kinds {t1 t2 : Tok} : IntsAre [Value.int (-16) t1, Value.int (-17) t2] [-16, -17] := .cons _ _ (.cons _ _ .nil)
theorem kind_of {n : Int} (h : n ∈ [(-16 : Int), -17]) : n = -16 ∨ n = -17 := by simpa using h
local macro_rules | `(tactic| walk_at "subscriptTail Subscript Name Name Constant ref int") => `(tactic| (k_extra "myitem"))
local macro_rules | `(tactic| walk_at "subscriptTail Name BinOp ref int") => `(tactic| (k_extra "myitem"))
local macro_rules | `(tactic| walk_at "allLt") => `(tactic| first | assumption | exact allLt_of (by assumption) | exact And.right (by assumption) | exact And.right (And.right (by assumption)) | exact And.right (And.right (And.right (by assumption))) | exact And.right (And.right (And.right (And.right (by assumption)))) | exact And.right (And.right (And.right (And.right (And.right (by assumption))))) | exact And.right (And.right (And.right (And.right (And.right (And.right (by assumption)))))) | exact And.right (And.right (And.right (And.right (And.right (And.right (And.right (by assumption))))))) | exact And.right (And.right (And.right (And.right (And.right (And.right (And.right (And.right (by assumption)))))))) | exact And.right (And.right (And.right (And.right (And.right (And.right (And.right (And.right (And.right (by assumption))))))))) | exact And.right (And.right (And.right (And.right (And.right (And.right (And.right (And.right (And.right (And.right (by assumption)))))))))) | exact And.right (And.right (And.right (And.right (And.right (And.right (And.right (And.right (And.right (And.right (And.right (by assumption))))))))))) | exact And.right (And.right (And.right (And.right (And.right (And.right (And.right (And.right (And.right (And.right (And.right (And.right (by assumption)))))))))))))
local macro_rules | `(tactic| walk_at "enter cells") => `(tactic| (
  refine' code_defC ?k1 ?k2 ?k3 ?k4 ?k5 ?kA ?kF ?kK ?k6 ?k7 ?k8 ?k9 ?kB ?kD ?_ ?c2 ?c3 ?c4
  (case kA => exact rfl); (case kF => exact rfl); (case kK => assumption)
  (case k1 => k_asm); (case k2 => k_asm); (case k3 => k_asm); (case k4 => k_asm); (case k5 => k_asm)
  (case k6 => k_is); (case k7 => k_is); (case k8 => ktr_room); (case k9 => exact BindsTo.of_eq rfl)
  (case kB => exact rfl); (case kD => decide +kernel); (case c2 => exact rfl); (case c3 => exact rfl); (case c4 => exact rfl)
  k_whole
  intro g' L' h' tk' cells' FG' F' N' Y' B' X' T' l1
  (try k_lt l1)
  k_cells Y'
  (try simp only [List.cons_append, List.nil_append] at N')
  (try dsimp only)
  (try k_lift B')
  (try k_fold)))
theorem con_told (w : World) (base : Heap) (l : Addr) (vs : List Value) (ns : List Int) (news : List (Addr × Obj))
    (hl : base.IsList l vs.toArray) (hi : IntsAre vs ns) (hn : ns.length ≤ 63) :
    ConG w base 16 85 [.ref l] news (fun r tl => tl = [] ∧ r = .bool true) := by
  unfold ConG
  k_fill
  w_top off
  k_with_none
  intro mean mg mb dp un gd cn cs a ccd cl outer A₀ h₀ L m s Q E B F X N T hk hd hu hret
  k_with_none
  k_with "mycall" => (
                      k_dflt (refine' con_use (con_limits _ _ _ _ _ _ hl hi hn) ?k1 ?k2 ?k3 ?k4 ?k5 ?kK ?kd ?ku ?_)
                      walk_at "conprem"
                      intro r9 tl9 h9 tk9 F9 N9 hl9 ho9
                      obtain ⟨wD, x0, x1, x2, x3, x4, wn, e9, ht9, wok⟩ := lims_open ho9
                      subst ht9 e9
                      have l9 := ltl_of hl9
                      clear hl9 ho9
                      simp only [List.mem_cons, List.not_mem_nil, or_false, forall_eq_or_imp, forall_eq, AllLt, and_true] at l9
                      (try simp only [List.nil_append, List.cons_append, List.append_nil, List.append_assoc] at N9)
                      (try dsimp only)
                      (try k_fold))
  k_with "mysrc" => (
    (with_reducible show LCg.CompSrc _ _ _ _ _ _ _ (Expr.Call (Expr.Name (Str.ofString "_law_grown") _) _ _ _) _ _ _ _ _ _)
    k_dflt (refine' grown_srcN (by rfl) ?gsF ?gsN ?gsR wok ?_ ?_)
    (case gsF => k_asm)
    (case gsN => k_asm)
    (case gsR => assumption)
    rotate_left
    intro ws ms9 gh hws hwo hml9 hmo9
    (try k_fold)
    rotate_right
    intro ws i9 t9 I9 oI9 C9 oC9 D9 m9 ms9 h9 tk9 E9 gh hws hwo hi9 hml9 hmk9 hC9 hx9 F9 N9 off9 ne9
    (try k_fold))
  k_with "myitem" => (
    k_here
    (k_dflt (show wpAny _ _ (subscriptTail _ _ _ _) _ _ _))
    (with_reducible show wpAny _ _ (subscriptTail (Expr.Name (Str.ofString "wanted") _) _ (Value.ref _) (Value.int (Nat.cast i9) _)) _ _ _)
    k_dflt (refine' list_item (vs := refsOf ws) ?itN ?itp ?ith0 ?ith1 ?itz ?_ ?its)
    (case itN => k_asm)
    (case itp => k_dflt (exact List.Mem.tail _ (List.Mem.tail _ (List.Mem.tail _ (List.mem_append_right _ (List.Mem.head _))))))
    (case ith0 => exact Int.natCast_nonneg _)
    (case ith1 => exact refs_lt hws hi9)
    (case itz => exact refs_le hws (by decide))
    (case its => with_unfolding_all rfl)
    intro v9 hv9
    obtain ⟨xa9, xlo9, xmo9, xt9, xu9, e9, xm9, xv9⟩ := grown_item hwo hv9
    subst e9)
  k_with "mycall" => (
                      k_dflt (refine' con_use (con_grown _ _ xa9 xlo9 xmo9 _ xt9 xu9 _ _ ?grm xv9) ?k1 ?k2 ?k3 ?k4 ?k5 ?kK ?kd ?ku ?_)
                      walk_at "conprem"
                      (case grm => k_dflt k_mem)
                      intro r9 tl9 h9 tk9 F9 N9 hl9 ho9
                      obtain ⟨gD9, glo9, gmo9, gt9, gu9, e9, ht9, gv9⟩ := grown_open ho9
                      subst ht9 e9
                      have gne9 := new_ne hl9
                      clear ho9
                      (try simp only [List.nil_append, List.cons_append, List.append_nil] at N9)
                      (try dsimp only)
                      (try k_fold))
  k_with "mycend" => (k_dflt (exact comp_make_end (p := (gD9, tupO [.int glo9 gt9, optV gmo9 gu9])) hml9 hmk9 F9 N9 (fun q hq => hq) off9 (new_off gne9) trivial ⟨glo9, gmo9, ⟨_, _, rfl⟩, gv9⟩))
  k_with "myadd" => (
    k_dflt (refine' have_add ?hvF ?hvN ?hvd ?hvn hws hwo hml9 hmo9 ?_)
    (case hvF => k_asm)
    (case hvN => k_asm)
    (case hvd => assumption)
    (case hvn => k_all)
    intro H9 hs h9 hhl hho hpre hcel hHlt hHc hwc F9 N9
    obtain ⟨hHc1, hHc2, hHc3, hHc4⟩ := hHc
    (try k_fold))
  k_with "mysrc" => (
    (with_reducible show LCg.CompSrc _ _ _ _ _ _ _ (Expr.BinOp _ _ _ _) _ _ _ _ _ _)
    k_dflt (refine' LCg.CompSrc.range (n := 5) (by rfl) ?rsF ?rsN ?rsR ?rsS ?rsn ?rsz ?_)
    (case rsF => k_asm)
    (case rsN => k_asm)
    (case rsR => assumption)
    (case rsS => decide)
    (case rsn => decide)
    (case rsz => decide)
    intro gr
    k_dflt (refine' comp_rest (fun (i : Nat) (y : Value) => ∃ k t, y = Value.int k t ∧ (k = -16 ∨ k = -17)) ?_ ?_)
    rotate_left
    intro rys hrl hry
    (try k_fold)
    rotate_right
    intro i9 v9 I9 oI9 C9 oC9 D9 m9 ys9 h9 tk9 E9 hi9 hP9 hC9 hx9 F9 N9 off9 ne9
    obtain ⟨t9, hv9⟩ := range_item hP9
    subst hv9
    (try k_fold))
  k_with "mycend" => (k_dflt (exact LCg.CompEnd.intro F9 N9 _ (fun p hp => hp) off9 trivial ⟨rfl, ⟨_, _, rfl, refs_val _⟩⟩))
  k_with "mysrc" => (
    (with_reducible show LCg.CompSrc _ _ _ _ _ _ _ (Expr.Subscript _ (Expr.Constant (Const.int 0) _ _) _) _ _ _ _ _ _)
    k_dflt (refine' LCg.CompSrc.ledger (its := (refsOf hs).toArray) (k := 0) (by rfl) ?lsF ?lsN ?lsM (hs_sz hhl (by decide)) ?_)
    (case lsF => k_asm)
    (case lsN => k_asm)
    (case lsM => k_dflt k_mem)
    intro gl
    k_dflt (refine' comp_rest (LoAt hs) ?_ ?_)
    rotate_left
    intro lys hll hly
    obtain ⟨n1, hn1, hl1, hm1⟩ := lo_open hll hly
    (try k_fold)
    rotate_right
    intro i9 v9 I9 oI9 C9 oC9 D9 m9 ys9 h9 tk9 E9 hi9 hP9 hC9 hx9 F9 N9 off9 ne9
    obtain ⟨la, llo, lmo, lt1, lt2, e9, hat9, hmem9, hval9⟩ := lim_at hho hP9
    subst e9
    (try k_fold))
  k_with "mycend" => (k_dflt (exact LCg.CompEnd.intro F9 N9 _ (fun p hp => hp) off9 (by lcg_src) ⟨rfl, lo_at hat9⟩))
  k_with "myitem" => (
    k_here
    (k_dflt (show wpAny _ _ (subscriptTail _ _ _ _) _ _ _))
    k_dflt (refine' tup_itemS (its := [Value.int llo lt1, optV lmo lt2]) hs ?tiN ?tim hmem9 ?ti0 ?ti1 ?tix ?_ ?tis)
    (case tiN => k_asm)
    (case tim => walk_at "subh")
    (case ti0 => decide)
    (case ti1 => decide)
    (case tix => k_dflt (exact rfl))
    (case tis => with_unfolding_all rfl))
  k_with "myitem" => (
    k_here
    (k_dflt (show wpAny _ _ (subscriptTail _ _ _ _) _ _ _))
    k_dflt (refine' tup_itemS (its := [Value.int llo lt1, optV none lt2]) hs ?taN ?tam hmem9 ?ta0 ?ta1 ?tax ?_ ?tas)
    (case taN => k_asm)
    (case tam => walk_at "subh")
    (case ta0 => decide)
    (case ta1 => decide)
    (case tax => k_dflt (exact rfl))
    (case tas => with_unfolding_all rfl)
    (try dsimp only [optV]))
  k_with "myitem" => (
    k_here
    (k_dflt (show wpAny _ _ (subscriptTail _ _ _ _) _ _ _))
    k_dflt (refine' tup_itemS (its := [Value.int llo lt1, optV (some lb) lt2]) hs ?tbN ?tbm hmem9 ?tb0 ?tb1 ?tbx ?_ ?tbs)
    (case tbN => k_asm)
    (case tbm => walk_at "subh")
    (case tb0 => decide)
    (case tb1 => decide)
    (case tbx => k_dflt (exact rfl))
    (case tbs => with_unfolding_all rfl)
    (try dsimp only [optV]))
  k_with "mycend" => (k_dflt (exact LCg.CompEnd.intro F9 N9 _ (fun p hp => hp) off9 (by lcg_src) ⟨rfl, mo_step hY9 hat9⟩))
  k_with "mycend" => (k_dflt (exact LCg.CompEnd.intro F9 N9 _ (fun p hp => hp) off9 (by lcg_src) ⟨rfl, mo_skip hY9 hat9⟩))
  k_with "mysrct" => (
    k_dflt (refine' LCt.CompSrcT.ledger (its := (refsOf hs).toArray) (k := 0) (by rfl) ?ltF ?ltN ?ltM (hs_sz hhl (by decide)) ?_)
    (case ltF => k_asm)
    (case ltN => k_asm)
    (case ltM => k_dflt k_mem)
    intro gt
    k_dflt (refine' comp_restT (MoAt hs) mo_zero ?_ ?_)
    rotate_left
    intro mys hmy
    obtain ⟨n2, hn2, hl2, hm2⟩ := mo_openS hmy
    (try k_fold)
    rotate_right
    intro i9 v9 I9 oI9 C9 oC9 D9 m9 ys9 h9 tk9 E9 hi9 hY9 hP9 hC9 hx9 F9 N9 off9 ne9
    obtain ⟨la, llo, lmo, lt1, lt2, e9, hat9, hmem9, hval9⟩ := lim_at hho hP9
    subst e9
    rcases lmo with _ | lb
    all_goals (try k_fold))
  k_with "myadd" => (
    k_dflt (refine' list_add (xs := lys) (ys := mys) ?laF ?laN ?laa ?lab (pts_sz hhl hl1 hl2) ?_)
    (case laF => k_asm)
    (case laN => k_asm)
    (case laa => k_dflt k_mem)
    (case lab => k_dflt k_mem)
    intro P9 h9 F9 N9 l9p
    have hPt := ne_weak (news := hs ++ news) l9p (by walk_at "subs")
    k_lt l9p
    (try k_fold))
  k_with "mymax" => (
    k_dflt (refine' kso_max ?mxF ?mxN ?mxl (hn1.append hn2) (pts_ne hn1 hn2 hhl hl1) (by rfl) ?_)
    (case mxF => k_asm)
    (case mxN => k_asm)
    (case mxl => k_dflt (exact News.isList (by k_asm) (List.Mem.head _)))
    intro h9 M9 t9 tk9 F9 N9 hMm hMx
    (try k_fold))
  k_with "myapp" => (
    k_dflt (refine' app_head (vs := lys ++ mys) ?apF ?apN (pts_szA hhl hl1 hl2) ?apn ?_)
    (case apF => k_asm)
    (case apN => k_asm)
    (case apn => k_dflt k_all)
    intro h9 F9 N9
    have hpi := pts_names N9 hn1 hn2
    (try k_fold))
  k_with "mysrc" => (
    (with_reducible show LCg.CompSrc _ _ _ _ _ _ _ (Expr.Call (Expr.Name (Str.ofString "_law_lets") _) _ _ _) _ _ _ _ _ _)
    k_dflt (refine' LCg.CompSrc.ledger (its := (refsOf hs).toArray) (k := 0) (by rfl) ?lvF ?lvN ?lvM (hs_sz hhl (by decide)) ?_)
    (case lvF => k_asm)
    (case lvN => k_asm)
    (case lvM => k_dflt k_mem)
    intro gv
    have hpts := pts_of hm1 hm2 hMx
    k_dflt (refine' comp_make (LetAt hs (n1 ++ n2 ++ [M9 + 1])) ?_ ?_)
    rotate_left
    intro lt hltl hlto
    (try k_fold)
    rotate_right
    intro i9 v9 I9 oI9 C9 oC9 D9 m9 ms9 h9 tk9 E9 hi9 hml9 hmk9 hP9 hC9 hx9 F9 N9 off9 ne9
    obtain ⟨la, llo, lmo, lt1, lt2, e9, hat9, hmem9, hval9⟩ := lim_at hho hP9
    subst e9
    (try k_fold))
  k_with "mycall" => (
                      k_dflt (refine' con_useN (con_lets _ _ la llo lmo lt1 lt2 P9 _ _ _ _ ?lex ?lep hpi (pts_szB hhl hl1 hl2)) ?k1 ?k2 ?k3 ?k4 ?k5 ?kK ?kd ?ku ?_)
                      walk_at "conprem"
                      (case lex => exact (by walk_at "subh" : ∀ p ∈ hs, p ∈ _) _ hmem9)
                      (case lep => walk_at "memr")
                      intro r9 tl9 h9 tk9 F9 N9 hl9 ho9
                      obtain ⟨qD9, e9, ht9⟩ := lets_open ho9
                      subst ht9 e9
                      have gne9 := lets_ne hl9
                      clear ho9 hl9
                      (try simp only [List.nil_append, List.cons_append, List.append_nil] at N9)
                      (try dsimp only)
                      (try k_fold))
  k_with "mycend" => (k_dflt (exact comp_make_end (p := (qD9, LCg.lst ((n1 ++ n2 ++ [M9 + 1]).map fun x => .bool (adm llo lmo x)))) hml9 hmk9 F9 N9 (fun q hq => hq) off9 (new_off gne9) (.inr ⟨_, by walk_at "memr", rfl, _, rfl⟩) ⟨_, llo, lmo, hat9, ⟨lt1, lt2, rfl⟩, rfl⟩))
  k_with "myiter" => (
    (rename Fr _ _ _ _ => lF')
    (rename News _ _ _ _ => lN')
    (rename IsRange _ _ _ _ _ _ _ _ => rgX)
    obtain ⟨led, NL, mLT, mlt, mR, mH, mW, mhs, mnews, mc2⟩ := told_led lN'
    k_dflt (refine' range_keep (n := 5) [Str.ofString "i", Str.ofString "due", Str.ofString "table", Str.ofString "kind"] (by rfl) rgX ?orS ?orn lF' NL ?_ ?_)
    (case orS => decide)
    (case orn => decide)
    clear lF' lN' NL
    rotate_left
    intro u8 h8 tk8 F8 N8
    (try k_fold)
    rotate_right
    intro j9 tj9 u9 h9 tk9 ownj hj9 offj F9 N9
    obtain ⟨ja, jlo, jmo, jt1, jt2, hja, hjm, hjv⟩ := lim_get hhl hho (ten_of hj9)
    obtain ⟨jq, hjq, hjqm⟩ := let_get (lt_ten hhl hltl) hlto (ten_of hj9) hja
    have hjw := (hpre j9 hj9).trans hja
    replace hjm := mhs _ hjm
    replace hjqm := mlt _ hjqm
    (try k_fold))
  k_with "myiter" => (
    (rename Fr _ _ _ _ => lF')
    (rename News _ _ _ _ => lN')
    (rename IsRange _ _ _ _ _ _ _ _ => rgX)
    k_dflt (refine' range_keep (n := 10) [Str.ofString "due", Str.ofString "table", Str.ofString "kind"] (by rfl) rgX ?irS ?irn lF' lN' ?_ ?_)
    (case irS => decide)
    (case irn => decide)
    clear lF' lN'
    rotate_left
    intro u8 h8 tk8 F8 N8
    (try k_fold)
    rotate_right
    intro i9 ti9 u9 h9 tk9 owni hi9 offi F9 N9
    obtain ⟨ia, ilo, imo, it1, it2, hia, him, hiv⟩ := lim_get hhl hho hi9
    obtain ⟨iq, hiq, hiqm⟩ := let_get (lt_ten hhl hltl) hlto hi9 hia
    obtain ⟨r9, rt9, hrv9, hr9⟩ := ref_get (i := i9) hrl hry
    replace him := mhs _ him
    replace hiqm := mlt _ hiqm
    (try k_fold))
  k_with "myiter" => (
    (rename Fr _ _ _ _ => lF')
    (rename News _ _ _ _ => lN')
    k_dflt (refine' list_keep (vs := [Value.int (-16) _, Value.int (-17) _]) (nn := 0) [] (by rfl) ?krl two_kinds lF' lN' ?_ ?_)
    (case krl => k_dflt (exact List.Mem.head _))
    clear lF' lN'
    rotate_left
    intro u8 h8 tk8 F8 N8
    (try k_fold)
    rotate_right
    intro kk9 tk9k u9 h9 tk9 ownk hkk offk F9 N9
    rcases kind_of hkk with rfl | rfl
    all_goals (try k_fold))
  k_with "mylc" => (
    (with_reducible show wpAny _ _ (eval (Expr.ListComp _ [⟨Expr.Tuple [Expr.Name _ _, Expr.Name _ _] _ _, _, _, _⟩] _ _) _) _ _ _)
    k_dflt (refine' zip_ListComp ?zlc ?zlk ?zln ?_)
    (case zlc => with_unfolding_all rfl)
    (case zlk => rfl)
    (case zln => decide))
  k_with "myzip" => (
    k_dflt (refine' zip_pairs (lo := ilo) (mo := imo) (wl := jlo) (wm := jmo) (pns := n1 ++ n2 ++ [M9 + 1]) (n1 := 0) (n2 := 0) (by rfl) ?zpc ?zpk ?zpa ?zpb ?zpn ?zpF ?zpN ?zp1 ?zp2 (pns_sz hpi (pts_szB hhl hl1 hl2)) ?_ ?_)
    (case zpc => decide)
    (case zpk => rfl)
    (case zpa => rfl)
    (case zpb => rfl)
    (case zpn => decide)
    (case zpF => k_asm)
    (case zpN => k_asm)
    (case zp1 => exact (by walk_at "subL" : ∀ p ∈ led, p ∈ _) _ hiqm)
    (case zp2 => exact (by walk_at "subL" : ∀ p ∈ led, p ∈ _) _ hjqm)
    rotate_left
    intro zD zs h7 tk7 hzb F7 N7
    (try k_fold)
    rotate_right
    intro zp zq C7 oC7 D7 m7 zs7 h7 tk7 E7 hC7 hxa7 hxb7 F7 N7
    (try k_fold))
  k_with "myzend" => (k_dflt (refine ⟨_, rfl, ?_⟩; (cases zq <;> cases zp <;> first | rfl | simp_all)))
  k_with "myall" => (
    k_dflt (refine' LSm.all_bools ?alF ?alN (by rfl) ?all hzb ?_)
    (case alF => k_asm)
    (case alN => k_asm)
    (case all => k_dflt (exact News.isList (by k_asm) (List.Mem.head _)))
    intro h7 tk7 F7 N7
    rw [all_told hpts hia hja hiv]
    (rcases hb9 : fits ilo imo jlo jmo with _ | _)
    all_goals (try k_fold))
  k_with "myitem" => (
    k_here
    (k_dflt (show wpAny _ _ (subscriptTail _ _ _ _) _ _ _))
    (with_reducible show wpAny _ _ (subscriptTail (Expr.Name (Str.ofString "lets") _) _ (Value.ref _) (Value.int (Nat.cast i9) _)) _ _ _)
    k_dflt (refine' list_item_at (vs := refsOf lt) (k := (i9 : Int)) ?iaN ?iam ?ia0 (refs_le (lt_ten hhl hltl) (by decide)) (refs_get hiq) ?_ ?ias)
    (case iaN => k_asm)
    (case iam => exact (by walk_at "subL" : ∀ p ∈ led, p ∈ _) _ mLT)
    (case ia0 => first | exact Int.natCast_nonneg _ | exact fmod5_nonneg _)
    (case ias => with_unfolding_all rfl))
  k_with "myitem" => (
    k_here
    (k_dflt (show wpAny _ _ (subscriptTail _ _ _ _) _ _ _))
    (with_reducible show wpAny _ _ (subscriptTail (Expr.Name (Str.ofString "lets") _) _ (Value.ref _) (Value.int (Nat.cast j9) _)) _ _ _)
    k_dflt (refine' list_item_at (vs := refsOf lt) (k := (j9 : Int)) ?ibN ?ibm ?ib0 (refs_le (lt_ten hhl hltl) (by decide)) (refs_get hjq) ?_ ?ibs)
    (case ibN => k_asm)
    (case ibm => exact (by walk_at "subL" : ∀ p ∈ led, p ∈ _) _ mLT)
    (case ib0 => first | exact Int.natCast_nonneg _ | exact fmod5_nonneg _)
    (case ibs => with_unfolding_all rfl))
  k_with "myitem" => (
    k_here
    (k_dflt (show wpAny _ _ (subscriptTail _ _ _ _) _ _ _))
    (with_reducible show wpAny _ _ (subscriptTail (Expr.Name (Str.ofString "have") _) _ (Value.ref _) (Value.int (Nat.cast i9) _)) _ _ _)
    k_dflt (refine' list_item_at (vs := refsOf hs) (k := (i9 : Int)) ?icN ?icm ?ic0 (refs_le hhl (by decide)) (refs_get hia) ?_ ?ics)
    (case icN => k_asm)
    (case icm => exact (by walk_at "subL" : ∀ p ∈ led, p ∈ _) _ mH)
    (case ic0 => first | exact Int.natCast_nonneg _ | exact fmod5_nonneg _)
    (case ics => with_unfolding_all rfl))
  k_with "myitem" => (
    k_here
    (k_dflt (show wpAny _ _ (subscriptTail _ _ _ _) _ _ _))
    (with_reducible show wpAny _ _ (subscriptTail (Expr.Name (Str.ofString "wanted") _) _ (Value.ref _) (Value.int (Nat.cast j9) _)) _ _ _)
    k_dflt (refine' list_item_at (vs := refsOf ws) (k := (j9 : Int)) ?idN ?idm ?id0 (refs_le hws (by decide)) (refs_get hjw) ?_ ?ids)
    (case idN => k_asm)
    (case idm => exact (by walk_at "subL" : ∀ p ∈ led, p ∈ _) _ mW)
    (case id0 => first | exact Int.natCast_nonneg _ | exact fmod5_nonneg _)
    (case ids => with_unfolding_all rfl))
  k_with "myitem" => (
    k_here
    (k_dflt (show wpAny _ _ (subscriptTail _ _ _ _) _ _ _))
    (with_reducible show wpAny _ _ (subscriptTail (Expr.Name (Str.ofString "refs") _) _ (Value.ref _) (Value.int (Int.fmod _ _) _)) _ _ _)
    k_dflt (refine' list_item_at (vs := rys) (k := ((i9 : Int).fmod 5)) ?ieN ?iem ?ie0 (five_sz hrl) hrv9 ?_ ?ies)
    (case ieN => k_asm)
    (case iem => exact (by walk_at "subL" : ∀ p ∈ led, p ∈ _) _ mR)
    (case ie0 => first | exact Int.natCast_nonneg _ | exact fmod5_nonneg _)
    (case ies => with_unfolding_all rfl))
  k_with "myitem" => (
    k_here
    (k_dflt (show wpAny _ _ (subscriptTail _ _ _ _) _ _ _))
    (with_reducible show wpAny _ _ (subscriptTail (Expr.Name (Str.ofString "refs") _) _ (Value.ref _) (Value.int (Int.fmod _ _) _)) _ _ _)
    k_dflt (refine' list_item_at (vs := rys) (k := ((i9 : Int).fmod 5)) ?ie2N ?ie2m ?ie20 (five_sz hrl) hrv9 ?_ ?ie2s)
    (case ie2N => k_asm)
    (case ie2m => exact (by walk_at "subL" : ∀ p ∈ led, p ∈ _) _ mR)
    (case ie20 => first | exact Int.natCast_nonneg _ | exact fmod5_nonneg _)
    (case ie2s => with_unfolding_all rfl)
    (rcases hr9 with rfl | rfl)
    all_goals (try k_fold))
  k_with "myitem" => (
    k_here
    (k_dflt (show wpAny _ _ (subscriptTail _ _ _ _) _ _ _))
    (with_reducible show wpAny _ _ (subscriptTail _ _ (Value.ref ia) _) _ _ _)
    k_dflt (refine' tup_item (t := ia) (its := [Value.int ilo it1, optV imo it2]) ?iuN ?ium ?iu0 ?iu1 ?iux ?_ ?ius)
    (case iuN => k_asm)
    (case ium => exact (by walk_at "subL" : ∀ p ∈ led, p ∈ _) _ him)
    (case iu0 => decide)
    (case iu1 => decide)
    (case iux => k_dflt (exact rfl))
    (case ius => with_unfolding_all rfl))
  k_with "myitem" => (
    k_here
    (k_dflt (show wpAny _ _ (subscriptTail _ _ _ _) _ _ _))
    (with_reducible show wpAny _ _ (subscriptTail _ _ (Value.ref ja) _) _ _ _)
    k_dflt (refine' tup_item (t := ja) (its := [Value.int jlo jt1, optV jmo jt2]) ?jtN ?jtm ?jt0 ?jt1 ?jtx ?_ ?jts)
    (case jtN => k_asm)
    (case jtm => exact (by walk_at "subL" : ∀ p ∈ led, p ∈ _) _ hjm)
    (case jt0 => decide)
    (case jt1 => decide)
    (case jtx => k_dflt (exact rfl))
    (case jts => with_unfolding_all rfl))
  k_with "mycall" => (
                      k_dflt (refine' con_use (con_fits _ _ ilo imo jlo jmo _ _ _ _ _) ?k1 ?k2 ?k3 ?k4 ?k5 ?kK ?kd ?ku ?_)
                      walk_at "conprem"
                      intro r9 tl9 h9 tk9 F9 N9 hl9 ho9
                      obtain ⟨ht9, e9⟩ := ho9
                      (try simp only [hb9] at e9)
                      (try simp at e9)
                      subst ht9 e9
                      clear hl9
                      (try simp only [List.nil_append] at N9)
                      (try dsimp only)
                      (try k_fold))
  k_with "mycall" => (
                      k_dflt (refine' con_use (con_match2 _ _ ia ja ilo imo jlo jmo _ it1 it2 jt1 jt2 _ ?mtx ?mty) ?k1 ?k2 ?k3 ?k4 ?k5 ?kK ?kd ?ku ?_)
                      walk_at "conprem"
                      (case mtx => exact (by walk_at "subL" : ∀ p ∈ led, p ∈ _) _ him)
                      (case mty => exact (by walk_at "subL" : ∀ p ∈ led, p ∈ _) _ hjm)
                      intro r9 tl9 h9 tk9 F9 N9 hl9 ho9
                      obtain ⟨ht9, e9⟩ := ho9
                      (try simp only [hb9] at e9)
                      (try simp at e9)
                      subst ht9 e9
                      clear hl9
                      (try simp only [List.nil_append] at N9)
                      (try dsimp only)
                      (try k_fold))
  k_with "mycall" => (
                      k_dflt (refine' con_use (con_match1 _ _ _ _ _ _ ilo imo jlo jmo _ _ _ _ _ _ _ _ ?mox ?moy) ?k1 ?k2 ?k3 ?k4 ?k5 ?kK ?kd ?ku ?_)
                      k_dflt (walk_at "conprem")
                      (case mox => first | k_dflt (exact List.Mem.tail _ (List.mem_append_left _ (List.Mem.tail _ (List.Mem.head _)))) | k_dflt (exact List.Mem.tail _ (List.Mem.tail _ (List.Mem.head _))) | walk_at "memL")
                      (case moy => first | k_dflt (exact List.Mem.head _) | walk_at "memL")
                      intro r9 tl9 h9 tk9 F9 N9 hl9 ho9
                      obtain ⟨ht9, e9⟩ := ho9
                      (try simp only [hb9] at e9)
                      (try simp at e9)
                      subst ht9 e9
                      clear hl9
                      (try simp only [List.nil_append] at N9)
                      (try dsimp only)
                      (try k_fold))
  k_with "myend" => (k_dflt (
    (rename News _ _ _ _ => nE')
    (rename Fr _ _ _ _ => fE')
    exact rk_end fE' nE' (by walk_at "subL") (by walk_at "subL") (by intro z h1 h2; (simp only [List.contains_cons, List.contains_nil, Bool.or_false, Bool.or_eq_false_iff, beq_eq_false_iff_ne, ne_eq] at h2); (simp [h1, h2]; done))))
  k_with "mycall" => (
                      k_dflt (refine' con_use (con_digit _ _ _ _ _ _ _ _ hl hi hn ?dg0 ?dg1) ?k1 ?k2 ?k3 ?k4 ?k5 ?kK ?kd ?ku ?_)
                      (case dg0 => omega)
                      (case dg1 => omega)
                      walk_at "conprem"
                      intro r9 tl9 h9 tk9 F9 N9 hl9 ho9
                      obtain ⟨ht9, t9, e9⟩ := ho9
                      subst ht9 e9
                      clear hl9
                      (try simp only [List.nil_append, List.cons_append, List.append_nil, List.append_assoc] at N9)
                      (try dsimp only)
                      (try k_fold))
  refine wpAny_call ?_
  k_dflt (walk_at "enter cells")
  k_steps
  rename News _ _ _ _ => NE
  exact hret _ [] _ _ (by assumption) (kst_newsOf NE mnews) ⟨rfl, rfl⟩
end Mine
end
-- NumLaw
section
namespace Mine
def nfold (n : Int) (ds : List Int) : Int := ds.foldl (fun a d => 5 * a + d) n
def Dig (ds : List Int) : Prop := ∀ d ∈ ds, 0 ≤ d ∧ d < 5
theorem nfold_snoc (n : Int) (ds : List Int) (d : Int) : nfold n (ds ++ [d]) = 5 * nfold n ds + d := by simp [nfold]
theorem nfold_pos {ds : List Int} (h : Dig ds) : ∀ n : Int, 1 ≤ n → n ≤ nfold n ds := by
  induction ds with
  | nil => intro n _; exact Int.le_refl _
  | cons d r ih =>
    intro n hn
    have hd := h d (.head _)
    have := ih (fun x hx => h x (.tail _ hx)) (5 * n + d) (by omega)
    show n ≤ nfold (5 * n + d) r
    omega
theorem dig_snoc {ds : List Int} {d : Int} (h : Dig (ds ++ [d])) : Dig ds ∧ 0 ≤ d ∧ d < 5 := ⟨fun x hx => h x (List.mem_append.mpr (.inl hx)), h d (List.mem_append.mpr (.inr (.head _)))⟩
theorem nfold_inj : ∀ (k : Nat) (xs ys : List Int), xs.length ≤ k → Dig xs → Dig ys → nfold 1 xs = nfold 1 ys → xs = ys := by
  intro k
  induction k with
  | zero =>
    intro xs ys hx _ hy e
    have hx0 : xs = [] := List.length_eq_zero_iff.mp (by omega)
    subst hx0
    rcases List.eq_nil_or_concat ys with rfl | ⟨ys', d, rfl⟩
    · rfl
    · rw [List.concat_eq_append] at hy e
      obtain ⟨hy', h0, h5⟩ := dig_snoc hy
      rw [nfold_snoc] at e
      have := nfold_pos hy' 1 (Int.le_refl _)
      have e1 : nfold 1 [] = 1 := rfl
      omega
  | succ k ih =>
    intro xs ys hx hxd hyd e
    rcases List.eq_nil_or_concat xs with rfl | ⟨xs', c, rfl⟩
    · rcases List.eq_nil_or_concat ys with rfl | ⟨ys', d, rfl⟩
      · rfl
      · rw [List.concat_eq_append] at hyd e
        obtain ⟨hy', h0, h5⟩ := dig_snoc hyd
        rw [nfold_snoc] at e
        have := nfold_pos hy' 1 (Int.le_refl _)
        have e1 : nfold 1 [] = 1 := rfl
        omega
    · rw [List.concat_eq_append] at hxd e hx ⊢
      obtain ⟨hx', c0, c5⟩ := dig_snoc hxd
      rw [nfold_snoc] at e
      rcases List.eq_nil_or_concat ys with rfl | ⟨ys', d, rfl⟩
      · have := nfold_pos hx' 1 (Int.le_refl _)
        have e1 : nfold 1 [] = 1 := rfl
        omega
      · rw [List.concat_eq_append] at hyd e ⊢
        obtain ⟨hy', d0, d5⟩ := dig_snoc hyd
        rw [nfold_snoc] at e
        have ec : c = d := by omega
        have en : nfold 1 xs' = nfold 1 ys' := by omega
        rw [List.length_append, List.length_singleton] at hx
        rw [ec, ih xs' ys' (by omega) hx' hy' en]
theorem dgt_dig {k : Int} : 1 ≤ dgt k ∧ dgt k < 5 := by
  unfold dgt
  split
  · omega
  · split
    · omega
    · split <;> omega
theorem dgt_inj {a b : Int} (ha : a = -1 ∨ a = -2 ∨ a = -16 ∨ a = -17) (hb : b = -1 ∨ b = -2 ∨ b = -16 ∨ b = -17) (h : dgt a = dgt b) : a = b := by
  rcases ha with rfl | rfl | rfl | rfl <;> rcases hb with rfl | rfl | rfl | rfl <;> first | rfl | (exact absurd h (by decide))
theorem numSide_nfold (ks : List Int) : ∀ n : Int, numSide n ks = nfold n (ks.map dgt) := by
  induction ks with
  | nil => intro n; rfl
  | cons k r ih => intro n; exact ih (5 * n + dgt k)
def word (ps rs : List Int) : List Int := ps.map dgt ++ [0] ++ rs.map dgt ++ [0]
theorem nfold_app (n : Int) (xs ys : List Int) : nfold n (xs ++ ys) = nfold (nfold n xs) ys := by simp [nfold, List.foldl_append]
theorem numFn_nfold (ps rs : List Int) : numFn ps rs = nfold 1 (word ps rs) := by
  unfold numFn word
  rw [numSide_nfold, numSide_nfold, nfold_snoc, nfold_app, nfold_snoc, Int.add_zero, Int.add_zero]
theorem word_dig (ps rs : List Int) : Dig (word ps rs) := by
  intro d hd
  simp only [word, List.mem_append, List.mem_map, List.mem_singleton] at hd
  rcases hd with ((⟨k, _, rfl⟩ | rfl) | ⟨k, _, rfl⟩) | rfl
  · have := dgt_dig (k := k); omega
  · omega
  · have := dgt_dig (k := k); omega
  · omega
theorem map_dgt_inj : ∀ {ps qs : List Int}, OkSide ps → OkSide qs → ps.map dgt = qs.map dgt → ps = qs
  | [], [], _, _, _ => rfl
  | [], _ :: _, _, _, h => by simp at h
  | _ :: _, [], _, _, h => by simp at h
  | a :: r, b :: t, ha, hb, h => by
    simp only [List.map_cons, List.cons.injEq] at h
    rw [dgt_inj (ha a (.head _)) (hb b (.head _)) h.1, map_dgt_inj (fun k hk => ha k (.tail _ hk)) (fun k hk => hb k (.tail _ hk)) h.2]
theorem split_zero : ∀ {xs ys us vs : List Int}, (∀ d ∈ xs, d ≠ 0) → (∀ d ∈ ys, d ≠ 0) → xs ++ 0 :: us = ys ++ 0 :: vs → xs = ys ∧ us = vs
  | [], [], _, _, _, _, h => by simp at h; exact ⟨rfl, h⟩
  | [], b :: _, _, _, _, hy, h => by
    simp only [List.nil_append, List.cons_append, List.cons.injEq] at h
    exact absurd h.1.symm (hy b (.head _))
  | a :: _, [], _, _, hx, _, h => by
    simp only [List.nil_append, List.cons_append, List.cons.injEq] at h
    exact absurd h.1 (hx a (.head _))
  | a :: r, b :: t, us, vs, hx, hy, h => by
    simp only [List.cons_append, List.cons.injEq] at h
    obtain ⟨h1, h2⟩ := split_zero (fun d hd => hx d (.tail _ hd)) (fun d hd => hy d (.tail _ hd)) h.2
    exact ⟨by rw [h.1, h1], h2⟩
theorem numFn_inj {ps rs qs ts : List Int} (h1 : OkSide ps) (h2 : OkSide rs) (h3 : OkSide qs) (h4 : OkSide ts) (h : numFn ps rs = numFn qs ts) : ps = qs ∧ rs = ts := by
  rw [numFn_nfold, numFn_nfold] at h
  have e := nfold_inj _ _ _ (Nat.le_refl _) (word_dig _ _) (word_dig _ _) h
  unfold word at e
  have nz : ∀ (ks : List Int), ∀ d ∈ ks.map dgt, d ≠ 0 := fun ks d hd => by
    obtain ⟨k, _, rfl⟩ := List.mem_map.mp hd
    have := dgt_dig (k := k); omega
  simp only [List.append_assoc, List.cons_append, List.nil_append] at e
  obtain ⟨e1, e2⟩ := split_zero (nz ps) (nz qs) e
  obtain ⟨e3, _⟩ := split_zero (nz rs) (nz ts) e2
  exact ⟨map_dgt_inj h1 h3 e1, map_dgt_inj h2 h4 e3⟩
theorem num_told {ps rs qs ts : List Int} (h1 : OkSide ps) (h2 : OkSide rs) (h3 : OkSide qs) (h4 : OkSide ts) : decide (ps = qs ∧ rs = ts) = (numFn ps rs == numFn qs ts) := by
  rw [Bool.eq_iff_iff, decide_eq_true_iff, beq_iff_eq]
  exact ⟨fun h => by rw [h.1, h.2], numFn_inj h1 h2 h3 h4⟩
end Mine
end
-- LawL
section
open PySem PySem.W PySem.Calls PySem.Spec PyProof.Rows
namespace Mine
def CellObj (p : Addr × Obj) : Prop := ∃ a b t1 t2, p.2 = tupO [.int a t1, .int b t2] ∧ 0 ≤ b ∧ b < 2
abbrev CLed (D : Addr) (rest : List (Addr × Obj)) (c : List (Addr × Obj) × Nat) : List (Addr × Obj) := (D, W.listOf (refsOf c.1).toArray c.2) :: (c.1 ++ rest)
def CState (i : Nat) (c : List (Addr × Obj) × Nat) : Prop := c.1.length = i ∧ ∀ p ∈ c.1, CellObj p
theorem cell_cls {p : Addr × Obj} (h : CellObj p) : p.2.cls = .type "tuple" := by
  obtain ⟨a, b, t1, t2, e, _⟩ := h
  rw [e]
theorem par_two (x : Int) : 0 ≤ x.fmod 2 ∧ x.fmod 2 < 2 := ⟨Int.fmod_nonneg_of_pos _ (by decide), Int.fmod_lt_of_pos _ (by decide)⟩
section
variable {prog : Program} {w : World} {A : Around} {E : Value → Shared → Prop} {s : Shared} {env : Env} {h₀ : Heap} {x : Str} {body : List Stmt}
theorem cells_app {L : Addr} {m : Str → Option Value} {D g : Addr} {a b : Int} {t1 t2 : Tok} {c : List (Addr × Obj) × Nat} {rest own led : List (Addr × Obj)} {i : Nat} {Q : Value → Shared → Prop} (F : Fr h₀ L s.heap m) (N : News h₀ L s.heap led)
    (hD : (D, W.listOf (refsOf c.1).toArray c.2) ∈ led) (hfs : ∀ p ∈ c.1, p ∈ led) (hrest : ∀ p ∈ rest, p ∈ led) (hown : ∀ p ∈ own, p ∈ led) (hg : (g, tupO [.int a t1, .int b t2]) ∈ led)
    (hne : ∀ p ∈ rest, p.1 ≠ D) (hcls : ∀ p ∈ own, p.2.cls = .type "range_iterator") (hoff : TbOff own (CLed D rest c)) (hS : CState i c) (hi : i < 5) (hb : 0 ≤ b ∧ b < 2)
    (h : ∀ h', Fr h₀ L h' m → News h₀ L h' (CLed D rest (c.1 ++ [(g, tupO [.int a t1, .int b t2])], c.2 + 1) ++ own) → TbOff own (CLed D rest (c.1 ++ [(g, tupO [.int a t1, .int b t2])], c.2 + 1)) → CState (i + 1) (c.1 ++ [(g, tupO [.int a t1, .int b t2])], c.2 + 1) → Q .none { s with heap := h' }) :
    wpAny (model prog w) A (call (.builtin "list.append") [.ref D, .ref g]) Q E s := by
  have hlist : (W.listOf (refsOf c.1).toArray c.2).cls = .type "list" := rfl
  have inl : ∀ p ∈ c.1 ++ [(g, tupO [.int a t1, .int b t2])], p ∈ led ∧ p.2.cls = .type "tuple" := fun p hp => by
    rcases List.mem_append.mp hp with hp | hp
    · exact ⟨hfs p hp, cell_cls (hS.2 p hp)⟩
    · rw [List.mem_singleton.mp hp]; exact ⟨hg, rfl⟩
  refine app_here ((c.1 ++ [(g, tupO [.int a t1, .int b t2])]) ++ (rest ++ own)) F N hD (by rw [List.length_map, hS.1]; omega) ?_ ?_ fun h' F' N' => h h' F' ?_ ?_ ⟨by rw [List.length_append, hS.1]; rfl, fun p hp => ?_⟩
  · intro p hp
    rcases List.mem_append.mp hp with hp | hp
    · exact (inl p hp).1
    · exact (List.mem_append.mp hp).elim (hrest p) (hown p)
  · intro p hp
    rcases List.mem_append.mp hp with hp | hp
    · exact ne_by_cls (o := p.2) N (inl p hp).1 hD (by rw [(inl p hp).2, hlist]; decide)
    · rcases List.mem_append.mp hp with hp | hp
      · exact hne p hp
      · exact ne_by_cls (o := p.2) N (hown p hp) hD (by rw [hcls p hp, hlist]; decide)
  · have e : refsOf (c.1 ++ [(g, tupO [.int a t1, .int b t2])]) = refsOf c.1 ++ [Value.ref g] := by simp [refsOf]
    show News h₀ L h' ((D, W.listOf (refsOf (c.1 ++ [(g, tupO [.int a t1, .int b t2])])).toArray (c.2 + 1)) :: ((c.1 ++ [(g, tupO [.int a t1, .int b t2])]) ++ rest ++ own))
    rw [e, List.append_assoc]
    exact N'
  · intro p hp q hq
    rcases List.mem_cons.mp hq with rfl | hq
    · exact hoff p hp (D, W.listOf (refsOf c.1).toArray c.2) (.head _)
    · rcases List.mem_append.mp hq with hq | hq
      · exact ne_by_cls (o := p.2) (o' := q.2) N (hown p hp) (inl q hq).1 (by rw [hcls p hp, (inl q hq).2]; decide)
      · exact hoff p hp q (.tail _ (List.mem_append.mpr (.inr hq)))
  · rcases List.mem_append.mp hp with hp | hp
    · exact hS.2 p hp
    · rw [List.mem_singleton.mp hp]; exact ⟨a, b, t1, t2, rfl, hb⟩
theorem cells_loop {Q : Flow → Shared → Prop} {r : Addr} {t₀ u₀ v₀ : Tok} {m₀ : Str → Option Value} {D : Addr} {n0 : Nat} {rest : List (Addr × Obj)} (stored : List Str)
    (hh : A.handled = none) (hr : IsRange s.heap r 0 5 1 t₀ u₀ v₀) (F : Fr h₀ env.locals s.heap m₀) (N : News h₀ env.locals s.heap ((D, W.listOf #[] n0) :: rest))
    (turn : ∀ (c : List (Addr × Obj) × Nat) (i : Nat) t (u : Str → Option Value) h tk own, i < 5 → (∀ p ∈ own, p.2.cls = .type "range_iterator") → TbOff own (CLed D rest c) → CState i c →
      Fr h₀ env.locals h (fun y => if y = x then some (.int (i : Int) t) else if stored.contains y then u y else m₀ y) → News h₀ env.locals h ((D, W.listOf (refsOf c.1).toArray c.2) :: (c.1 ++ rest ++ own)) →
      wpAny (model prog w) A (execs body env) (TbPost h₀ env.locals (GrJ (CLed D rest) x stored m₀ CState (i + 1)) own { s with heap := h, toks := tk } Q) E { s with heap := h, toks := tk })
    (done : ∀ (c : List (Addr × Obj) × Nat) (u : Str → Option Value) h tk, CState 5 c → Fr h₀ env.locals h (fun y => if y = x then u y else if stored.contains y then u y else m₀ y) → News h₀ env.locals h (CLed D rest c) → Q .next { s with heap := h, toks := tk }) :
    wpAny (model prog w) A (pyIter (.ref r)) (fun it s₂ => LoopAtV prog w A h₀ env x body Q E it s₂) E s := by
  refine range_grow (n := 5) (CLed D rest) stored CState ([], n0) hh hr (by decide) (by decide) F N ⟨rfl, fun _ h => nomatch h⟩ ?_ done
  intro c i t u h tk own hi hcls hoff hS F₁ N₁
  rw [List.cons_append] at N₁
  exact turn c i t u h tk own hi hcls hoff hS F₁ N₁
end
theorem cell_get {cs : List (Addr × Obj)} {n i : Nat} (hl : cs.length = n) (ho : ∀ p ∈ cs, CellObj p) (hi : i < n) :
    ∃ a x y t1 t2, cs[i]? = some (a, tupO [.int x t1, .int y t2]) ∧ (a, tupO [.int x t1, .int y t2]) ∈ cs ∧ 0 ≤ y ∧ y < 2 := by
  obtain ⟨p, hp⟩ : ∃ p, cs[i]? = some p := ⟨_, List.getElem?_eq_getElem (by omega)⟩
  obtain ⟨x, y, t1, t2, e, h0, h2⟩ := ho p (List.mem_of_getElem? hp)
  exact ⟨p.1, x, y, t1, t2, e ▸ hp, e ▸ List.mem_of_getElem? hp, h0, h2⟩
theorem cells_told {a b c d : Int} (h1 : 0 ≤ b ∧ b < 2) (h2 : 0 ≤ d ∧ d < 2) : (decide (a = c) && decide (b = d)) = (2 * a + b == 2 * c + d) := by
  rw [Bool.eq_iff_iff, Bool.and_eq_true, decide_eq_true_iff, decide_eq_true_iff, beq_iff_eq]
  omega
theorem funcs_get {tl : List (Addr × Obj)} {vals : List Value} {i : Nat} (hl : vals.length = 5) (h : ∀ (i : Nat) v, vals[i]? = some v → ∃ g : Fn, v = .ref g.a ∧ g.at tl ∧ g.ok 8) (hi : i < 5) : ∃ g : Fn, vals[i]? = some (.ref g.a) ∧ g.at tl ∧ g.ok 8 := by
  have hv : vals[i]? = some vals[i] := List.getElem?_eq_getElem (by omega)
  obtain ⟨g, e, hg, ho⟩ := h i _ hv
  exact ⟨g, by rw [hv, e], hg, ho⟩
theorem funcs_open {r : Value} {tl : List (Addr × Obj)} (h : FuncsPost r tl) : ∃ (D : Addr) (vals : List Value) (n : Nat), r = .ref D ∧ (D, W.listOf vals.toArray n) ∈ tl ∧ vals.length = 5 ∧ ∀ (i : Nat) v, vals[i]? = some v → ∃ g : Fn, v = .ref g.a ∧ g.at tl ∧ g.ok 8 := h
end Mine
end
-- CLaw
section
open PySem PySem.W PySem.Calls PySem.Spec PyProof.Rows
namespace Mine
local macro_rules | `(tactic| walk_at "call ref") => `(tactic| k_extra "mycall")
local macro_rules | `(tactic| walk_at "pyIter ref") => `(tactic| (k_extra "myiter"))
local macro_rules | `(tactic| walk_at "InvEndN") => `(tactic| (k_extra "myend"))
local macro_rules | `(tactic| walk_at "TbEnd") => `(tactic| k_extra "mytend")
local macro_rules | `(tactic| walk_at "call builtin:list.append") => `(tactic| (k_extra "myapp"))
local macro_rules | `(tactic| walk_at "subscriptTail") => `(tactic| (k_extra "myitem"))
local macro_rules | `(tactic| walk_at "subscriptTail Name Name ref int") => `(tactic| (k_extra "myitem"))
local macro_rules | `(tactic| walk_at "subscriptTail Subscript Constant ref int") => `(tactic| (k_extra "myitem"))
local macro_rules | `(tactic| k_mem) => `(tactic| first | exact List.Mem.head _ | (with_reducible assumption) | (refine List.mem_cons_of_mem _ ?_; k_mem) | (refine List.mem_append_right _ ?_; k_mem) | (refine List.mem_append_left _ ?_; k_mem))
theorem subAL {led a b : List (Addr × Obj)} (h : ∀ p ∈ led, p ∈ a) : ∀ p ∈ led, p ∈ a ++ b := fun p hp => List.mem_append.mpr (.inl (h p hp))
theorem subRL {hs n a : List (Addr × Obj)} (h : ∀ p ∈ hs, p ∈ n) : ∀ p ∈ hs, p ∈ a ++ n := fun p hp => List.mem_append.mpr (.inr (h p hp))
local macro_rules | `(tactic| walk_at "subL") => `(tactic| first | exact sub0 | (refine sub1 ?_; walk_at "subL") | exact subRL sub0 | (refine subAL ?_; walk_at "subL"))
local macro_rules | `(tactic| walk_at "conprem") => `(tactic| (
  (case k1 => first | exact below_caller _ | k_asm); (case k2 => k_asm); (case k3 => k_asm); (case k4 => k_asm); (case k5 => k_asm); (case kK => first | exact rfl | assumption); (case kd => first | exact of_decide_eq_true rfl | ktr_room); (case ku => first | exact of_decide_eq_true rfl | ktr_units)))
theorem law_led {h₀ h : Heap} {L D : Addr} {cs tl : List (Addr × Obj)} {n : Nat} (N : News h₀ L h ((D, W.listOf (refsOf cs).toArray n) :: (cs ++ tl))) :
    ∃ led, News h₀ L h led ∧ (D, W.listOf (refsOf cs).toArray n) ∈ led ∧ (∀ p ∈ cs, p ∈ led) ∧ (∀ p ∈ tl, p ∈ led) :=
  ⟨_, N, .head _, fun p hp => .tail _ (List.mem_append.mpr (.inl hp)), fun p hp => .tail _ (List.mem_append.mpr (.inr hp))⟩
theorem bne_self_no (b : Bool) : ¬ ((b != b) = true) := by simp
theorem cstate_open {c : List (Addr × Obj) × Nat} (h : CState 5 c) : c.1.length = 5 ∧ ∀ p ∈ c.1, CellObj p := h
theorem five_le {vals : List Value} (h : vals.length = 5) : vals.length ≤ 1000 := by omega
local macro_rules | `(tactic| walk_at "ite") => `(tactic| (k_dflt (refine ite_neg (bne_self_no _) ?_)))
theorem hgil0 {g : Fn} {tl led : List (Addr × Obj)} (h : g.at tl) (hs : ∀ p ∈ tl, p ∈ led) : g.at led := h.mono hs
theorem refs_leL {cs : List (Addr × Obj)} (h : cs.length = 5) : (refsOf cs).length ≤ 1000 := by rw [List.length_map, h]; omega
theorem law_all : PySem.Challenge.rw_nm0107_01.Holds := Mine.hd (by
  w_top off
  k_go0
  (all_goals try k_fold)
  k_with_none
  k_with "mycall" => (
    k_dflt (refine' con_useG (con_told _ _ _ _ _ _ ?thl ?thi ?thn) ?k1 ?k2 ?k3 ?k4 ?k5 ?kK ?kd ?ku ?_)
    walk_at "conprem"
    (case thl => assumption)
    (case thi => assumption)
    (case thn => omega)
    intro r9 tl9 h9 tk9 F9 N9 ho9
    obtain ⟨ht9, e9⟩ := ho9
    subst ht9 e9
    (try simp only [List.nil_append] at N9)
    (try dsimp only)
    (try k_fold))
  k_with "mycall" => (
    k_dflt (refine' con_useG (con_funcs _ _ _ _ _ _ ?fhl ?fhi ?fhn) ?k1 ?k2 ?k3 ?k4 ?k5 ?kK ?kd ?ku ?_)
    walk_at "conprem"
    (case fhl => assumption)
    (case fhi => assumption)
    (case fhn => omega)
    intro r9 tl9 h9 tk9 F9 N9 ho9
    obtain ⟨fD, fvals, fn9, e9, hfD, hfl, hfa⟩ := funcs_open ho9
    subst e9
    (try simp only [List.append_nil] at N9)
    (try dsimp only)
    (try k_fold))
  k_with "myiter" => (
    (rename Fr _ _ _ _ => lF')
    (rename News _ _ _ _ => lN')
    (rename IsRange _ _ _ _ _ _ _ _ => rgX)
    obtain ⟨led, NL, mD, mcs, mtl⟩ := law_led lN'
    k_dflt (refine' range_keep (n := 5) [Str.ofString "j", Str.ofString "due"] (by rfl) rgX ?orS ?orn lF' NL ?_ ?_)
    (case orS => decide)
    (case orn => decide)
    clear lF' lN' NL
    rotate_left
    intro u8 h8 tk8 F8 N8
    (try dsimp only [PyProof.Rows.envOf] at F8 N8)
    (try k_fold)
    rotate_right
    intro i9 ti9 u9 h9 tk9 owni hi9 offi F9 N9
    (try dsimp only [PyProof.Rows.envOf] at F9 N9)
    obtain ⟨gi, hgi, hgia, hgio⟩ := funcs_get hfl hfa hi9
    obtain ⟨ia, ix, iy, it1, it2, hia, him, hi0, hi2⟩ := cell_get hcl hco hi9
    replace him := mcs _ him
    (try k_fold))
  k_with "myiter" => (
    (rename Fr _ _ _ _ => lF')
    (rename News _ _ _ _ => lN')
    (rename IsRange _ _ _ _ _ _ _ _ => rgX)
    k_dflt (refine' range_keep (n := 5) [Str.ofString "due"] (by rfl) rgX ?irS ?irn lF' lN' ?_ ?_)
    (case irS => decide)
    (case irn => decide)
    have hgil := hgil0 hgia mtl
    clear lF' lN'
    rotate_left
    intro u8 h8 tk8 F8 N8
    (try dsimp only [PyProof.Rows.envOf] at F8 N8)
    (try k_fold)
    rotate_right
    intro j9 tj9 u9 h9 tk9 ownj hj9 offj F9 N9
    (try dsimp only [PyProof.Rows.envOf] at F9 N9)
    obtain ⟨gj, hgj, hgja, hgjo⟩ := funcs_get hfl hfa hj9
    obtain ⟨ja, jx, jy, jt1, jt2, hja, hjm, hj0, hj2⟩ := cell_get hcl hco hj9
    replace hjm := mcs _ hjm
    have hgjl := hgil0 hgja mtl
    (try k_fold))
  k_with "myiter" => (
    (rename Fr _ _ _ _ => lF')
    (rename News _ _ _ _ => lN')
    (rename IsRange _ _ _ _ _ _ _ _ => rgX)
    k_dflt (refine' cells_loop [Str.ofString "number"] (by rfl) rgX lF' lN' ?_ ?_)
    clear lF' lN'
    rotate_left
    intro cc ud hd9 tkd hSd F9 N9
    obtain ⟨hcl, hco⟩ := cstate_open hSd
    (try k_fold)
    rotate_right
    intro c9 k9 t9 u9 h9 tk9 own9 hk9 hcls9 hoff9 hS9 F9 N9
    (try k_fold))
  k_with "myapp" => (
    k_dflt (refine' cells_app (c := c9) (own := own9) ?apF ?apN ?apD ?apf ?apr ?apo ?apg ?apn hcls9 hoff9 hS9 hk9 (par_two _) ?_)
    (case apF => k_asm)
    (case apN => k_asm)
    (case apD => k_dflt k_mem)
    (case apg => k_dflt (exact List.Mem.head _))
    (case apf => walk_at "subL")
    (case apo => walk_at "subL")
    (case apr => walk_at "subL")
    (case apn => exact all_ne_of (by assumption))
    intro h8 F8 N8 hoff8 hS8
    (try dsimp only)
    (try k_fold))
  k_with "mytend" => (k_dflt (exact gr_end _ F8 N8 (fun p hp => List.mem_append.mpr (.inl hp)) (fun p hp => List.mem_append.mpr (.inr hp)) hoff8 (by intro z h1 h2; (simp only [List.contains_cons, List.contains_nil, Bool.or_false, Bool.or_eq_false_iff, beq_eq_false_iff_ne, ne_eq] at h2); (simp [h1, h2]; done)) hS8))
  k_with "myitem" => (
    k_here
    (k_dflt (show wpAny _ _ (subscriptTail _ _ _ _) _ _ _))
    (with_reducible show wpAny _ _ (subscriptTail _ _ (Value.ref _) (Value.int (Int.fmod _ 4) _)) _ _ _)
    k_dflt (refine' menu_item ?miN ?mip ?_ ?mis)
    (case miN => k_asm)
    (case mip => k_dflt (exact List.Mem.head _))
    (case mis => with_unfolding_all rfl)
    intro x9 xt9 hx9)
  k_with "myend" => (k_dflt (
    (rename News _ _ _ _ => nE')
    (rename Fr _ _ _ _ => fE')
    exact rk_end fE' nE' (by walk_at "subL") (by walk_at "subL") (by intro z h1 h2; (simp only [List.contains_cons, List.contains_nil, Bool.or_false, Bool.or_eq_false_iff, beq_eq_false_iff_ne, ne_eq] at h2); (simp [h1, h2]; done))))
  k_with "myitem" => (
    k_here
    (k_dflt (show wpAny _ _ (subscriptTail _ _ _ _) _ _ _))
    (with_reducible show wpAny _ _ (subscriptTail (Expr.Name (Str.ofString "funcs") _) _ (Value.ref _) (Value.int (Nat.cast i9) _)) _ _ _)
    k_dflt (refine' list_item_at (vs := fvals) (k := (i9 : Int)) ?iaN ?iam (Int.natCast_nonneg _) (five_le hfl) hgi ?_ ?ias)
    (case iaN => k_asm)
    (case iam => exact (by walk_at "subL" : ∀ p ∈ led, p ∈ _) _ (mtl _ hfD))
    (case ias => with_unfolding_all rfl))
  k_with "myitem" => (
    k_here
    (k_dflt (show wpAny _ _ (subscriptTail _ _ _ _) _ _ _))
    (with_reducible show wpAny _ _ (subscriptTail (Expr.Name (Str.ofString "funcs") _) _ (Value.ref _) (Value.int (Nat.cast j9) _)) _ _ _)
    k_dflt (refine' list_item_at (vs := fvals) (k := (j9 : Int)) ?ibN ?ibm (Int.natCast_nonneg _) (five_le hfl) hgj ?_ ?ibs)
    (case ibN => k_asm)
    (case ibm => exact (by walk_at "subL" : ∀ p ∈ led, p ∈ _) _ (mtl _ hfD))
    (case ibs => with_unfolding_all rfl))
  k_with "myitem" => (
    k_here
    (k_dflt (show wpAny _ _ (subscriptTail _ _ _ _) _ _ _))
    (with_reducible show wpAny _ _ (subscriptTail (Expr.Name (Str.ofString "cells") _) _ (Value.ref _) (Value.int (Nat.cast i9) _)) _ _ _)
    k_dflt (refine' list_item_at (vs := refsOf cc.1) (k := (i9 : Int)) ?icN ?icm (Int.natCast_nonneg _) (refs_leL hcl) (refs_get hia) ?_ ?ics)
    (case icN => k_asm)
    (case icm => exact (by walk_at "subL" : ∀ p ∈ led, p ∈ _) _ mD)
    (case ics => with_unfolding_all rfl))
  k_with "myitem" => (
    k_here
    (k_dflt (show wpAny _ _ (subscriptTail _ _ _ _) _ _ _))
    (with_reducible show wpAny _ _ (subscriptTail (Expr.Name (Str.ofString "cells") _) _ (Value.ref _) (Value.int (Nat.cast j9) _)) _ _ _)
    k_dflt (refine' list_item_at (vs := refsOf cc.1) (k := (j9 : Int)) ?idN ?idm (Int.natCast_nonneg _) (refs_leL hcl) (refs_get hja) ?_ ?ids)
    (case idN => k_asm)
    (case idm => exact (by walk_at "subL" : ∀ p ∈ led, p ∈ _) _ mD)
    (case ids => with_unfolding_all rfl))
  k_with "myitem" => (
    k_here
    (k_dflt (show wpAny _ _ (subscriptTail _ _ _ _) _ _ _))
    (with_reducible show wpAny _ _ (subscriptTail _ _ (Value.ref ia) _) _ _ _)
    k_dflt (refine' tup_item (t := ia) (its := [Value.int ix it1, Value.int iy it2]) ?iuN ?ium ?iu0 ?iu1 ?iux ?_ ?ius)
    (case iuN => k_asm)
    (case ium => exact (by walk_at "subL" : ∀ p ∈ led, p ∈ _) _ him)
    (case iu0 => decide)
    (case iu1 => decide)
    (case iux => k_dflt (exact rfl))
    (case ius => with_unfolding_all rfl))
  k_with "myitem" => (
    k_here
    (k_dflt (show wpAny _ _ (subscriptTail _ _ _ _) _ _ _))
    (with_reducible show wpAny _ _ (subscriptTail _ _ (Value.ref ja) _) _ _ _)
    k_dflt (refine' tup_item (t := ja) (its := [Value.int jx jt1, Value.int jy jt2]) ?jtN ?jtm ?jt0 ?jt1 ?jtx ?_ ?jts)
    (case jtN => k_asm)
    (case jtm => exact (by walk_at "subL" : ∀ p ∈ led, p ∈ _) _ hjm)
    (case jt0 => decide)
    (case jt1 => decide)
    (case jtx => k_dflt (exact rfl))
    (case jts => with_unfolding_all rfl))
  k_with "mycall" => (
    (try dsimp only)
    k_here
    (k_dflt (show wpAny _ _ (call _ _) _ _ _))
    k_dflt (refine' con_use (con_match0 _ _ gi gj _ _ ?m0x ?m0y) ?k1 ?k2 ?k3 ?k4 ?k5 ?kK ?kd ?ku ?_)
    walk_at "conprem"
    (case m0x => exact hgil.mono (by walk_at "subL"))
    (case m0y => exact hgjl.mono (by walk_at "subL"))
    intro r9 tl9 h9 tk9 F9 N9 hl9 ho9
    obtain ⟨ht9, e9⟩ := ho9
    rw [num_told hgio.hp hgio.hr hgjo.hp hgjo.hr] at e9
    subst ht9 e9
    clear hl9
    (try simp only [List.nil_append] at N9)
    (try dsimp only)
    (try k_fold))
  k_with "mycall" => (
    (try dsimp only)
    k_here
    (k_dflt (show wpAny _ _ (call _ _) _ _ _))
    k_dflt (refine' con_use (con_match3 _ _ ia ja ix iy jx jy _ it1 it2 jt1 jt2 _ ?m3x ?m3y) ?k1 ?k2 ?k3 ?k4 ?k5 ?kK ?kd ?ku ?_)
    walk_at "conprem"
    (case m3x => exact (by walk_at "subL" : ∀ p ∈ led, p ∈ _) _ him)
    (case m3y => exact (by walk_at "subL" : ∀ p ∈ led, p ∈ _) _ hjm)
    intro r9 tl9 h9 tk9 F9 N9 hl9 ho9
    obtain ⟨ht9, e9⟩ := ho9
    rw [cells_told ⟨hi0, hi2⟩ ⟨hj0, hj2⟩] at e9
    subst ht9 e9
    clear hl9
    (try simp only [List.nil_append] at N9)
    (try dsimp only)
    (try k_fold))
  k_with "mycall" => (
    (try dsimp only)
    k_here
    (k_dflt (show wpAny _ _ (call _ _) _ _ _))
    k_dflt (refine' con_use (con_number _ _ gi _ ?nmx hgio.hp hgio.hr hgio.hl) ?k1 ?k2 ?k3 ?k4 ?k5 ?kK ?kd ?ku ?_)
    walk_at "conprem"
    (case nmx => exact hgil.mono (by walk_at "subL"))
    intro r9 tl9 h9 tk9 F9 N9 hl9 ho9
    obtain ⟨ht9, t9, e9⟩ := ho9
    subst ht9 e9
    clear hl9
    (try simp only [List.nil_append] at N9)
    (try dsimp only)
    (try k_fold))
  k_with "mycall" => (
    (try dsimp only)
    k_here
    (k_dflt (show wpAny _ _ (call _ _) _ _ _))
    k_dflt (refine' con_use (con_number _ _ gj _ ?nmy hgjo.hp hgjo.hr hgjo.hl) ?k1 ?k2 ?k3 ?k4 ?k5 ?kK ?kd ?ku ?_)
    walk_at "conprem"
    (case nmy => exact hgjl.mono (by walk_at "subL"))
    intro r9 tl9 h9 tk9 F9 N9 hl9 ho9
    obtain ⟨ht9, t9, e9⟩ := ho9
    subst ht9 e9
    clear hl9
    (try simp only [List.nil_append] at N9)
    (try dsimp only)
    (try k_fold))
  k_with "mycall" => (
    (try dsimp only)
    k_here
    (k_dflt (show wpAny _ _ (call _ _) _ _ _))
    k_dflt (refine' con_use (con_digit _ _ _ _ _ _ _ _ ?dhl ?dhi ?dhn ?dg0 ?dg1) ?k1 ?k2 ?k3 ?k4 ?k5 ?kK ?kd ?ku ?_)
    walk_at "conprem"
    (case dhl => assumption)
    (case dhi => assumption)
    (case dhn => omega)
    (case dg0 => omega)
    (case dg1 => omega)
    intro r9 tl9 h9 tk9 F9 N9 hl9 ho9
    obtain ⟨ht9, t9, e9⟩ := ho9
    subst ht9 e9
    clear hl9
    (try simp only [List.nil_append] at N9)
    (try dsimp only)
    (try k_fold))
  k_steps)
end Mine
end
theorem PySem.Challenge.cw_nm0107_01_holds : PySem.Challenge.rw_nm0107_01.Holds :=
  Mine.law_all
