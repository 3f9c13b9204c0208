import PyProof.Rows.All
import Wide.All
import OpenK.AllK
import Wide.FinOn
import KE.RegKSuper
import KE.KSuper
import PyProof.ExcInit
import PyProof.ExcBaseAll.Exception
import PySem.Challenge.RW_pf0366_01
set_option Elab.async false
set_option maxRecDepth 100000
set_option rowWalk.seconds 0
set_option compiler.extract_closed false
namespace Mine

section P_HD
open PySem PySem.W PyProof.Rows
set_option maxRecDepth 100000
set_option maxHeartbeats 8000000
noncomputable def onlyDefs : List Stmt → List Stmt
  | [] => []
  | .Assign .. :: r => onlyDefs r
  | s :: r => s :: onlyDefs r
noncomputable abbrev viewOf (p : Program) : Program := { p with main := { p.main with body := onlyDefs p.main.body } }
section
local macro_rules | `(tactic| o_law) => `(tactic| refine holds_law (l := PySem.Challenge.rw_pf0366_01) (by rw [PySem.W.Fast.te9446332074065402090]; kernel_rfl) fun said => ?_)
local macro_rules | `(tactic| o_head $H) => `(tactic| (
  refine holds_open (q := Mine.viewOf PySem.Challenge.rw_pf0366_01.row.prog) (loose := [Str.ofString "SnobolError"]) (Xt := fun s => xlAt (Mine.viewOf PySem.Challenge.rw_pf0366_01.row.prog) [] s && recOk [] s) (XP := XL (Mine.viewOf PySem.Challenge.rw_pf0366_01.row.prog) []) (Yf := Hook.obs $H) (Ya := Hook.val $H) (YP := Hook.says $H) (N := 1864) ?hl (Hook.of $H) (Hook.keeps $H) (fun s e => xl_of s (Bool.and_eq_true_iff.mp e).1) XL.keeps (by rfl) (by rfl) (by rfl) (fun s e => recFacts_of (Bool.and_eq_true_iff.mp e).2) (by rfl) (by first | assumption | decide +kernel) (by decide +kernel) ⟨rfl, rfl, rfl, rfl, rfl, by decide +kernel⟩ ?hw ?hc
  case hl => exact fun w => by (unfold openEnds fencedOpening topFrom; rw [PySem.W.Fast.te10274390034422433532, PySem.W.Fast.te1435165496053646825, PySem.W.Fast.te14289696077712309145, PySem.W.Fast.te14082659384304107361, PySem.W.Fast.te5923862056798008813]; kernel_rfl)))
open_top hd for PySem.Challenge.rw_pf0366_01
end
end P_HD

section P_T0
open PySem PySem.W PyProof.Rows PySem.Calls PySem.Spec
set_option maxRecDepth 100000
noncomputable abbrev Led := List (Addr × Obj)
noncomputable abbrev tupOf (its : Array Value) (n : Nat) : Obj := { cls := .type "tuple", data := .seq its n }
noncomputable abbrev Apart (d : Addr) (l : Led) : Prop := ∀ p ∈ l, p.1 ≠ d

inductive Tr where
  | name (a : Addr) (x : Str)
  | text (a : Addr)
  | whole (a : Addr) (k : Int)
  | null (a : Addr)
  | join (a : Addr) (l r : Tr)
  | bin (a : Addr) (op : Str) (l r : Tr)
  | un (a : Addr) (op : Str) (x : Tr)
  | call0 (a : Addr) (f : Str)
  | call1 (a : Addr) (f : Str) (x : Tr)
  | call2 (a : Addr) (f : Str) (x y : Tr)
  | item1 (a : Addr) (h x : Tr)
  | item2 (a : Addr) (h x y : Tr)
  | item3 (a : Addr) (h x y z : Tr)

noncomputable def Tr.ad : Tr → Addr
  | .name a _ | .text a | .whole a _ | .null a | .join a _ _ | .bin a _ _ _ | .un a _ _ | .call0 a _ | .call1 a _ _ | .call2 a _ _ _ | .item1 a _ _ | .item2 a _ _ _ | .item3 a _ _ _ _ => a
noncomputable abbrev Tr.val (t : Tr) : Value := .ref t.ad

noncomputable def Tr.height : Tr → Nat
  | .name .. | .text .. | .whole .. | .null .. | .call0 .. => 1
  | .join _ l r | .bin _ _ l r => max l.height r.height + 1
  | .un _ _ x | .call1 _ _ x => x.height + 1
  | .call2 _ _ x y | .item1 _ x y => max x.height y.height + 1
  | .item2 _ x y z => max x.height (max y.height z.height) + 1
  | .item3 _ h x y z => max (max h.height x.height) (max y.height z.height) + 1

noncomputable def names3 : List Str := [Str.ofString "X", Str.ofString "Z", Str.ofString "Y"]
noncomputable def binOps : List Str := [Str.ofString "+", Str.ofString ".", Str.ofString "$", Str.ofString "|"]
noncomputable def unOps : List Str := [Str.ofString "~", Str.ofString "$", Str.ofString ".", Str.ofString "-", Str.ofString "@", Str.ofString "*", Str.ofString "&", Str.ofString "?"]
noncomputable def callNames : List Str := [Str.ofString "F", Str.ofString "NO"]

/-- the ledger bears the tree -/
inductive TIn (led : Led) : Tr → Prop where
  | name {a x n k1 k2} : (a, tupOf #[.str (Str.ofString "name") k1, .str x k2] n) ∈ led → x ∈ names3 → TIn led (.name a x)
  | text {a n k1 k2} : (a, tupOf #[.str (Str.ofString "text") k1, .str (Str.ofString "t") k2] n) ∈ led → TIn led (.text a)
  | whole {a k n k1 k2} : (a, tupOf #[.str (Str.ofString "whole") k1, .int k k2] n) ∈ led → TIn led (.whole a k)
  | null {a n k1} : (a, tupOf #[.str (Str.ofString "null") k1] n) ∈ led → TIn led (.null a)
  | join {a l r n k1} : (a, tupOf #[.str (Str.ofString "join") k1, .ref l.ad, .ref r.ad] n) ∈ led → TIn led l → TIn led r → TIn led (.join a l r)
  | bin {a op l r n k1 k2} : (a, tupOf #[.str (Str.ofString "binary") k1, .str op k2, .ref l.ad, .ref r.ad] n) ∈ led → op ∈ binOps → TIn led l → TIn led r → TIn led (.bin a op l r)
  | un {a op x n k1 k2} : (a, tupOf #[.str (Str.ofString "unary") k1, .str op k2, .ref x.ad] n) ∈ led → op ∈ unOps → TIn led x → TIn led (.un a op x)
  | call0 {a f b n n2 k1 k2} : (a, tupOf #[.str (Str.ofString "call") k1, .str f k2, .ref b] n) ∈ led → f ∈ callNames → (b, tupOf #[] n2) ∈ led → TIn led (.call0 a f)
  | call1 {a f b x n n2 k1 k2} : (a, tupOf #[.str (Str.ofString "call") k1, .str f k2, .ref b] n) ∈ led → f ∈ callNames → (b, tupOf #[.ref x.ad] n2) ∈ led → TIn led x → TIn led (.call1 a f x)
  | call2 {a f b x y n n2 k1 k2} : (a, tupOf #[.str (Str.ofString "call") k1, .str f k2, .ref b] n) ∈ led → f ∈ callNames → (b, tupOf #[.ref x.ad, .ref y.ad] n2) ∈ led → TIn led x → TIn led y → TIn led (.call2 a f x y)
  | item1 {a b h x n n2 k1} : (a, tupOf #[.str (Str.ofString "item") k1, .ref h.ad, .ref b] n) ∈ led → (b, tupOf #[.ref x.ad] n2) ∈ led → TIn led h → TIn led x → TIn led (.item1 a h x)
  | item2 {a b h x y n n2 k1} : (a, tupOf #[.str (Str.ofString "item") k1, .ref h.ad, .ref b] n) ∈ led → (b, tupOf #[.ref x.ad, .ref y.ad] n2) ∈ led → TIn led h → TIn led x → TIn led y → TIn led (.item2 a h x y)
  | item3 {a b h x y z n n2 k1} : (a, tupOf #[.str (Str.ofString "item") k1, .ref h.ad, .ref b] n) ∈ led → (b, tupOf #[.ref x.ad, .ref y.ad, .ref z.ad] n2) ∈ led → TIn led h → TIn led x → TIn led y → TIn led z → TIn led (.item3 a h x y z)

theorem TIn.mono {l l' : Led} (hs : ∀ p ∈ l, p ∈ l') {t : Tr} (h : TIn l t) : TIn l' t := by
  induction h with
  | name h1 h2 => exact .name (hs _ h1) h2
  | text h1 => exact .text (hs _ h1)
  | whole h1 => exact .whole (hs _ h1)
  | null h1 => exact .null (hs _ h1)
  | join h1 _ _ i1 i2 => exact .join (hs _ h1) i1 i2
  | bin h1 h2 _ _ i1 i2 => exact .bin (hs _ h1) h2 i1 i2
  | un h1 h2 _ i1 => exact .un (hs _ h1) h2 i1
  | call0 h1 h2 h3 => exact .call0 (hs _ h1) h2 (hs _ h3)
  | call1 h1 h2 h3 _ i1 => exact .call1 (hs _ h1) h2 (hs _ h3) i1
  | call2 h1 h2 h3 _ _ i1 i2 => exact .call2 (hs _ h1) h2 (hs _ h3) i1 i2
  | item1 h1 h2 _ _ i1 i2 => exact .item1 (hs _ h1) (hs _ h2) i1 i2
  | item2 h1 h2 _ _ _ i1 i2 i3 => exact .item2 (hs _ h1) (hs _ h2) i1 i2 i3
  | item3 h1 h2 _ _ _ _ i1 i2 i3 i4 => exact .item3 (hs _ h1) (hs _ h2) i1 i2 i3 i4

theorem mem_hd {p : Addr × Obj} {l : Led} : p ∈ p :: l := .head _
theorem mem_tl {p q : Addr × Obj} {l : Led} (h : p ∈ l) : p ∈ q :: l := .tail _ h
theorem mem_sub {p : Addr × Obj} {l l' : Led} (h : ∀ q ∈ l, q ∈ l') (hp : p ∈ l) : p ∈ l' := h p hp
theorem apart_of_lt {d : Addr} {l : Led} (h : AllLt d l) : ∀ p ∈ l, p.1 ≠ d := fun p hp => Nat.ne_of_lt (ktn_ltOf h p hp)
/-! order of the ledger -/
noncomputable def Newer (old tl : Led) : Prop := ∀ q ∈ old, ∀ p ∈ tl, q.1 < p.1
theorem allLt_app {d : Addr} {a b : Led} : AllLt d (a ++ b) ↔ AllLt d a ∧ AllLt d b := by
  induction a with
  | nil => simp [AllLt]
  | cons p r ih => simp only [List.cons_append, AllLt, ih, and_assoc]
theorem allLt_sub {d : Addr} {l l' : Led} (h : AllLt d l) (hs : ∀ p ∈ l', p ∈ l) : AllLt d l' := allLt_of fun p hp => ktn_ltOf h p (hs p hp)
theorem allLt_cons {d a : Addr} {o : Obj} {l : Led} (h : @LT.lt Nat _ a d) (r : AllLt d l) : AllLt d ((a, o) :: l) := ⟨h, r⟩
theorem apart_new {old tl : Led} {d : Addr} {o : Obj} (h : Newer old tl) (hm : (d, o) ∈ old) : ∀ p ∈ tl, p.1 ≠ d := fun p hp => Nat.ne_of_gt (h _ hm p hp)
theorem apart_app {d : Addr} {a b : Led} (h1 : ∀ p ∈ a, p.1 ≠ d) (h2 : ∀ p ∈ b, p.1 ≠ d) : ∀ p ∈ a ++ b, p.1 ≠ d := fun p hp => (List.mem_append.mp hp).elim (h1 p) (h2 p)
theorem apart_off1 {d : Addr} {l l' : Led} (h : LCg.Off1 d l) (hs : ∀ p ∈ l', p ∈ l) : ∀ p ∈ l', p.1 ≠ d := by
  intro p hp
  have := hs p hp
  clear hp hs
  induction l with
  | nil => cases this
  | cons q r ih =>
    rcases List.mem_cons.mp this with rfl | hq
    · exact h.1
    · exact ih h.2 hq
theorem ltm {d a : Addr} {o : Obj} {l : Led} (h : AllLt d l) (m : (a, o) ∈ l) : @LT.lt Nat _ a d := ktn_ltOf h _ m
theorem nem1 {d a : Addr} {o : Obj} {l : Led} (h : AllLt d l) (m : (a, o) ∈ l) : a ≠ d := Nat.ne_of_lt (ktn_ltOf h _ m)
theorem nem2 {d a : Addr} {o : Obj} {l : Led} (h : AllLt d l) (m : (a, o) ∈ l) : d ≠ a := Nat.ne_of_gt (ktn_ltOf h _ m)
theorem newer_nil {old : Led} : Newer old [] := fun _ _ _ h => nomatch h
theorem newer_cons {old tl : Led} {a : Addr} {o : Obj} (h : AllLt a old) (r : Newer old tl) : Newer old ((a, o) :: tl) := by
  intro q hq p hp
  rcases List.mem_cons.mp hp with rfl | hp
  · exact ktn_ltOf h q hq
  · exact r q hq p hp
theorem newer_app {old t tl : Led} (h : Newer old t) (r : Newer old tl) : Newer old (t ++ tl) := fun q hq p hp => (List.mem_append.mp hp).elim (h q hq p) (r q hq p)
theorem newer_old {a : Addr} {o : Obj} {old t : Led} (h : ∀ p ∈ t, a < p.1) (r : Newer old t) : Newer ((a, o) :: old) t := by
  intro q hq p hp
  rcases List.mem_cons.mp hq with rfl | hq
  · exact h p hp
  · exact r q hq p hp
theorem newer_of {a : Addr} {o : Obj} {old t : Led} (h : Newer old t) (hm : (a, o) ∈ old) : ∀ p ∈ t, a < p.1 := fun p hp => h _ hm p hp
theorem newer_sub {old old' t : Led} (h : Newer old t) (hs : ∀ p ∈ old', p ∈ old) : Newer old' t := fun q hq p hp => h q (hs q hq) p hp
theorem mem_l {p : Addr × Obj} {a b : Led} (h : p ∈ a) : p ∈ a ++ b := List.mem_append_left _ h
theorem mem_r {p : Addr × Obj} {a b : Led} (h : p ∈ b) : p ∈ a ++ b := List.mem_append_right _ h
theorem upd_app {d : Addr} {o o' : Obj} {t l l' : Led} (h : ∀ p ∈ t, p.1 ≠ d) (U : Upd d o o' l l') : Upd d o o' (t ++ l) (t ++ l') := by
  induction t with
  | nil => exact U
  | cons p r ih => exact .tail (h p (.head _)) (ih fun q hq => h q (.tail _ hq))
theorem updF_app {d : Addr} {o : Obj} {t l : Led} {g : Obj → Led} (h : ∀ p ∈ t, p.1 ≠ d) (U : UpdF d o l g) : UpdF d o (t ++ l) (fun o' => t ++ g o') := by
  induction t with
  | nil => exact U
  | cons p r ih => exact .tail (h p (.head _)) (ih fun q hq => h q (.tail _ hq))
/-- the ledger bears tl, then (d, o), then imm; lists that a comprehension made are passed over -/
inductive Suf (d : Addr) (o : Obj) (imm : Led) : Led → Led → Prop
  | head : Suf d o imm ((d, o) :: imm) []
  | skip {a ys l tl} : Suf d o imm l tl → Suf d o imm ((a, LCg.lst ys) :: l) tl
  | cons {p l tl} : Suf d o imm l tl → Suf d o imm (p :: l) (p :: tl)
  | app {t l tl} : Suf d o imm l tl → Suf d o imm (t ++ l) (t ++ tl)
theorem Suf.sub {d : Addr} {o : Obj} {imm l tl : Led} (S : Suf d o imm l tl) : ∀ p ∈ tl ++ ((d, o) :: imm), p ∈ l := by
  induction S with
  | head => exact fun p hp => hp
  | skip _ ih => exact fun p hp => .tail _ (ih p hp)
  | cons _ ih =>
    intro p hp
    rcases List.mem_cons.mp hp with rfl | hp
    · exact .head _
    · exact .tail _ (ih p hp)
  | app _ ih =>
    intro p hp
    rw [List.append_assoc] at hp
    rcases List.mem_append.mp hp with hp | hp
    · exact List.mem_append_left _ hp
    · exact List.mem_append_right _ (ih p hp)
theorem off3_app {I C D : Addr} {a b : Led} : LCg.Off3 I C D (a ++ b) ↔ LCg.Off3 I C D a ∧ LCg.Off3 I C D b := by
  induction a with
  | nil => simp [LCg.Off3]
  | cons p r ih => simp only [List.cons_append, LCg.Off3, ih, and_assoc]
theorem off3_of {I C D : Addr} {l l' : Led} (h : LCg.Off3 I C D l) (e : l'.map (·.1) = l.map (·.1)) : LCg.Off3 I C D l' := by
  refine LCg.Off3.of fun p hp => ?_
  have : p.1 ∈ l.map (·.1) := e ▸ List.mem_map_of_mem hp
  obtain ⟨q, hq, e'⟩ := List.mem_map.mp this
  rw [← e']
  exact h.mem q hq
theorem off1_app {D : Addr} {a b : Led} : LCg.Off1 D (a ++ b) ↔ LCg.Off1 D a ∧ LCg.Off1 D b := by
  induction a with
  | nil => simp [LCg.Off1]
  | cons p r ih => simp only [List.cons_append, LCg.Off1, ih, and_assoc]
theorem comp_end {h₀ : Heap} {L I C D : Addr} {m : Str → Option Value} {s₁ : Shared} {oI oC oD : Obj} {S : List (Addr × Obj) → Prop} {rest : Value → List (Addr × Obj) → Prop} {y : Value} {h' : Heap} {tk : Nat} {l tl nw : Led}
    (F : Fr h₀ L h' m) (N : News h₀ L h' (tl ++ ((I, oI) :: (C, oC) :: (D, oD) :: nw))) (nwr : Newer l tl) {o1 o2 o3 : Obj} (hI : (I, o1) ∈ l) (hC : (C, o2) ∈ l) (hD : (D, o3) ∈ l) (off : LCg.Off3 I C D nw) (hS : S (tl ++ nw)) (r : rest y (tl ++ nw)) :
    LCg.CompEnd h₀ L m s₁ I oI C oC D oD S rest y { s₁ with heap := h', toks := tk } := by
  refine LCg.CompEnd.intro F N (tl ++ nw) ?_ ?_ hS r
  · intro p hp
    rcases List.mem_cons.mp hp with rfl | hp
    · exact List.mem_append_right _ (.head _)
    rcases List.mem_cons.mp hp with rfl | hp
    · exact List.mem_append_right _ (.tail _ (.head _))
    rcases List.mem_cons.mp hp with rfl | hp
    · exact List.mem_append_right _ (.tail _ (.tail _ (.head _)))
    rcases List.mem_append.mp hp with hp | hp
    · exact List.mem_append_left _ hp
    · exact List.mem_append_right _ (.tail _ (.tail _ (.tail _ hp)))
  · rw [off3_app]
    exact ⟨LCg.Off3.of fun p hp => ⟨Nat.ne_of_gt (nwr _ hI p hp), Nat.ne_of_gt (nwr _ hC p hp), Nat.ne_of_gt (nwr _ hD p hp)⟩, off⟩
end P_T0

section P_N1
open PySem PySem.W PyProof.Rows PySem.Calls PySem.Spec
set_option maxRecDepth 100000
set_option maxHeartbeats 8000000
local macro_rules | `(tactic| k_mem) => `(tactic| first | with_reducible assumption | exact mem_hd | (refine' mem_tl ?_; k_mem))
local macro_rules | `(tactic| news_mem) => `(tactic| k_mem)
local macro_rules | `(tactic| k_all) => `(tactic| first | with_reducible assumption | exact apart_of_lt (by with_reducible assumption))
noncomputable abbrev feedO (ca : Addr) (t : Int) (k : Tok) (ef : Nat) : Obj := listOf #[.ref ca, .int t k] ef

theorem next_core {w : World} {p : Program} {loose : List Str} {mean : ExcName → Option Value} {mg mb : Str → Option Value} {dp un : Nat} {gd : Option (List Code)} {cn : Str} {cs : Scope} {a : Addr} {ccd : Value} {cl : List (Str × Addr)} {outer : List Env} {A₀ : Around} {base h₀ : Heap} {L : Addr} {m : Str → Option Value} {news : List (Addr × Obj)} {s : Shared}
    {Q E : Value → Shared → Prop} {fd ca : Addr} {vs : List Value} {ns : List Int} {nc ef : Nat} {t many : Int} {tk0 tkm : Tok}
    (B : Below A₀ base outer h₀) (F : Fr h₀ L s.heap m) (X : (hd.heap_1 w.params).In h₀) (N : News h₀ L s.heap ((fd, feedO ca t tk0 ef) :: news)) (T : Top p loose mean mg mb h₀) (hk : cs.kind = .function)
    (hd1 : dp + 3 < recursionLimit)
    (hca : (ca, listOf vs.toArray nc) ∈ news) (hvs : IntsAre vs ns) (hlen : ns.length ≤ 63) (ht0 : 0 ≤ t) (ht1 : t < 1000) (hm0 : 0 < many) (hm1 : many < 1000) (hne : ∀ p ∈ news, p.1 ≠ fd)
    (hret : ∀ r tkr t' h' tk', 0 ≤ r → r < many → Fr h₀ L h' m → News h₀ L h' ((fd, feedO ca (t + 1) t' ef) :: news) → Q (.int r tkr) { s with heap := h', toks := tk' }) :
    wpAny (model PySem.Challenge.rw_pf0366_01.row.prog w) (ktrTop dp un gd cn cs L a ccd cl outer) (call (.ref 89) [.ref fd, .int many tkm]) Q E s := by
  revert X; k_fill; intro X
  refine wpAny_call ?_
  k_dflt ktr_enter
  k_steps
  all_goals exact hret _ _ _ _ _ (fmod_lo _ hm0) (fmod_hi _ hm0) (by k_asm) (by k_asm)

theorem next_use {w : World} {p : Program} {loose : List Str} {mean : ExcName → Option Value} {mg mb : Str → Option Value} {dp un : Nat} {gd : Option (List Code)} {cn : Str} {cs : Scope} {a : Addr} {ccd : Value} {cl : List (Str × Addr)} {outer : List Env} {A₀ : Around} {base h₀ : Heap} {L : Addr} {m : Str → Option Value} {news : List (Addr × Obj)} {s : Shared}
    {Q E : Value → Shared → Prop} {fd ca : Addr} {vs : List Value} {ns : List Int} {nc ef : Nat} {t many : Int} {tk0 tkm : Tok} {g : Obj → Led}
    (B : Below A₀ base outer h₀) (F : Fr h₀ L s.heap m) (X : (hd.heap_1 w.params).In h₀) (N : News h₀ L s.heap news) (T : Top p loose mean mg mb h₀) (hk : cs.kind = .function)
    (hd1 : dp + 3 < recursionLimit)
    (U : UpdF fd (feedO ca t tk0 ef) news g) (hca : (ca, listOf vs.toArray nc) ∈ news) (hvs : IntsAre vs ns) (hcf : ca ≠ fd) (hlen : ns.length ≤ 63) (ht0 : 0 ≤ t) (ht1 : t < 1000) (hm0 : 0 < many) (hm1 : many < 1000)
    (hret : ∀ r tkr t' h' tk', 0 ≤ r → r < many → Fr h₀ L h' m → News h₀ L h' (g (feedO ca (t + 1) t' ef)) → Q (.int r tkr) { s with heap := h', toks := tk' }) :
    wpAny (model PySem.Challenge.rw_pf0366_01.row.prog w) (ktrTop dp un gd cn cs L a ccd cl outer) (call (.ref 89) [.ref fd, .int many tkm]) Q E s := by
  obtain ⟨own, rest, rfl, hg, h1, h2⟩ := U.split
  refine next_core (news := own ++ rest) (ca := ca) (vs := vs) (nc := nc) (ef := ef) (t := t) (tk0 := tk0) B F X (fun q hq => N q ?_) T hk hd1 ?_ hvs hlen ht0 ht1 hm0 hm1 ?_ ?_
  · rcases List.mem_cons.mp hq with rfl | hq
    · exact List.mem_append_right _ (.head _)
    · rcases List.mem_append.mp hq with hq | hq
      · exact List.mem_append_left _ hq
      · exact List.mem_append_right _ (.tail _ hq)
  · rcases List.mem_append.mp hca with hq | hq
    · exact List.mem_append_left _ hq
    · rcases List.mem_cons.mp hq with e | hq
      · exact absurd (congrArg Prod.fst e) hcf
      · exact List.mem_append_right _ hq
  · intro q hq
    rcases List.mem_append.mp hq with hq | hq
    · exact h1 q hq
    · exact h2 q hq
  · intro r tkr t' h' tk' hr0 hr1 F' N'
    refine hret r tkr t' h' tk' hr0 hr1 F' ?_
    rw [hg]
    intro q hq
    refine N' q ?_
    rcases List.mem_append.mp hq with hq | hq
    · exact .tail _ (List.mem_append_left _ hq)
    · rcases List.mem_cons.mp hq with rfl | hq
      · exact .head _
      · exact .tail _ (List.mem_append_right _ hq)
end P_N1

section P_P0
open PySem PySem.W PyProof.Rows PySem.Calls PySem.Spec
set_option maxRecDepth 100000
noncomputable def Tr.isNm (x : Str) : Tr → Bool
  | .name _ y => y == x
  | _ => false
noncomputable def Tr.isNeg : Tr → Bool
  | .un _ op _ => op == Str.ofString "~"
  | _ => false
noncomputable def Tr.isNo : Tr → Bool
  | .call0 _ f | .call1 _ f _ | .call2 _ f _ _ => f == Str.ofString "NO"
  | _ => false
noncomputable def headOf : Tr → Str
  | .name _ x => Str.ofString "name" ++ (Str.ofString " " ++ x)
  | .text _ => Str.ofString "text" ++ (Str.ofString " " ++ Str.ofString "t")
  | .whole _ _ => Str.ofString "whole" ++ Str.ofString ""
  | .null _ => Str.ofString "null" ++ Str.ofString ""
  | .join _ _ _ => Str.ofString "join" ++ Str.ofString ""
  | .bin _ op _ _ => Str.ofString "binary" ++ (Str.ofString " " ++ op)
  | .un _ op _ => Str.ofString "unary" ++ (Str.ofString " " ++ op)
  | .call0 _ f | .call1 _ f _ | .call2 _ f _ _ => Str.ofString "call" ++ (Str.ofString " " ++ f)
  | .item1 _ _ _ | .item2 _ _ _ _ | .item3 _ _ _ _ _ => Str.ofString "item" ++ Str.ofString ""
noncomputable def bangOf : Bool → Str
  | true => Str.ofString "!"
  | false => Str.ofString ""
noncomputable def saidStr (t : Tr) (w : Bool) (n : Nat) : Str := headOf t ++ bangOf w ++ Str.ofString "(" ++ Str.ofString (toString ((n : Nat) : Int)) ++ Str.ofString ")"
noncomputable def saidOf (t : Tr) (w : Bool) (os : List (Option Str)) : Option Str :=
  if t.isNeg = true then (match os with | none :: _ => some (Str.ofString "~") | _ => none)
  else if t.isNm (Str.ofString "Z") = true ∧ w = false then none
  else if t.isNo = true then none
  else some (saidStr t w os.length)
noncomputable def VIs (v : Value) : Option Str → Prop
  | none => v = .none
  | some x => ∃ k, v = .str x k
inductive ValsAre : List Value → List (Option Str) → Prop where
  | nil : ValsAre [] []
  | cons {v o vs os} : VIs v o → ValsAre vs os → ValsAre (v :: vs) (o :: os)
theorem ValsAre.length {vs : List Value} {os : List (Option Str)} (h : ValsAre vs os) : vs.length = os.length := by
  induction h with
  | nil => rfl
  | cons _ _ ih => rw [List.length_cons, List.length_cons, ih]
theorem VIs.none' : VIs .none none := rfl
theorem VIs.some' {x : Str} {k : Tok} : VIs (.str x k) (some x) := ⟨k, rfl⟩
theorem news_drop {h₀ h : Heap} {L : Addr} {l l' : Led} (N : News h₀ L h l) (hs : ∀ p ∈ l', p ∈ l) : News h₀ L h l' := fun p hp => N p (hs p hp)
theorem digit_len {n : Nat} (h : n ≤ 4) : (Str.ofString (toString ((n : Nat) : Int))).length ≤ 1 := by
  match n, h with
  | 0, _ => decide
  | 1, _ => decide
  | 2, _ => decide
  | 3, _ => decide
  | 4, _ => decide
  | n + 5, h => exact absurd h (by omega)
theorem len_names3 {x : Str} (h : x ∈ names3) : x.length ≤ 1 := by
  simp only [names3, List.mem_cons, List.not_mem_nil, or_false] at h
  rcases h with rfl | rfl | rfl <;> decide
theorem len_binOps {x : Str} (h : x ∈ binOps) : x.length ≤ 1 := by
  simp only [binOps, List.mem_cons, List.not_mem_nil, or_false] at h
  rcases h with rfl | rfl | rfl | rfl <;> decide
theorem len_unOps {x : Str} (h : x ∈ unOps) : x.length ≤ 1 := by
  simp only [unOps, List.mem_cons, List.not_mem_nil, or_false] at h
  rcases h with rfl | rfl | rfl | rfl | rfl | rfl | rfl | rfl <;> decide
theorem len_callNames {x : Str} (h : x ∈ callNames) : x.length ≤ 2 := by
  simp only [callNames, List.mem_cons, List.not_mem_nil, or_false] at h
  rcases h with rfl | rfl <;> decide
theorem ll_name : (Str.ofString "name").length = 4 := by decide
theorem ll_text : (Str.ofString "text").length = 4 := by decide
theorem ll_whole : (Str.ofString "whole").length = 5 := by decide
theorem ll_null : (Str.ofString "null").length = 4 := by decide
theorem ll_join : (Str.ofString "join").length = 4 := by decide
theorem ll_binary : (Str.ofString "binary").length = 6 := by decide
theorem ll_unary : (Str.ofString "unary").length = 5 := by decide
theorem ll_call : (Str.ofString "call").length = 4 := by decide
theorem ll_item : (Str.ofString "item").length = 4 := by decide
theorem ll_sp : (Str.ofString " ").length = 1 := by decide
theorem ll_t : (Str.ofString "t").length = 1 := by decide
theorem ll_em : (Str.ofString "").length = 0 := by decide
theorem ll_ba : (Str.ofString "!").length = 1 := by decide
theorem ll_op : (Str.ofString "(").length = 1 := by decide
theorem ll_cl : (Str.ofString ")").length = 1 := by decide
noncomputable def Tr.parts : Tr → List (Tr × Bool)
  | .name _ _ | .text _ | .whole _ _ | .null _ | .call0 _ _ => []
  | .join _ l r => [(l, false), (r, false)]
  | .bin _ op l r => [(l, false), (r, op == Str.ofString "." || op == Str.ofString "$")]
  | .un _ op x => if (op == Str.ofString "*" || op == Str.ofString "&") = true then [] else [(x, op == Str.ofString "." || op == Str.ofString "@")]
  | .call1 _ _ x => [(x, false)]
  | .call2 _ _ x y => [(x, false), (y, false)]
  | .item1 _ h x => [(h, false), (x, false)]
  | .item2 _ h x y => [(h, false), (x, false), (y, false)]
  | .item3 _ h x y z => [(h, false), (x, false), (y, false), (z, false)]
inductive PairsIn (led : Led) : List Value → List (Tr × Bool) → Prop where
  | nil : PairsIn led [] []
  | cons {a n t b vs ps} : (a, tupOf #[.ref t.ad, .bool b] n) ∈ led → PairsIn led vs ps → PairsIn led (.ref a :: vs) ((t, b) :: ps)
theorem PairsIn.mono {l l' : Led} (hs : ∀ p ∈ l, p ∈ l') {vs : List Value} {ps : List (Tr × Bool)} (h : PairsIn l vs ps) : PairsIn l' vs ps := by
  induction h with
  | nil => exact .nil
  | cons hm _ ih => exact .cons (hs _ hm) ih
theorem PairsIn.length {l : Led} {vs : List Value} {ps : List (Tr × Bool)} (h : PairsIn l vs ps) : vs.length = ps.length := by
  induction h with
  | nil => rfl
  | cons _ _ ih => rw [List.length_cons, List.length_cons, ih]
/-- the ledger bears tl, then imm; lists that a comprehension made are passed over -/
inductive Sel (imm : Led) : Led → Led → Prop
  | head : Sel imm imm []
  | skip {a ys l tl} : Sel imm l tl → Sel imm ((a, LCg.lst ys) :: l) tl
  | cons {p l tl} : Sel imm l tl → Sel imm (p :: l) (p :: tl)
  | app {t l tl} : Sel imm l tl → Sel imm (t ++ l) (t ++ tl)
theorem newer_cons' {old tl : Led} {a : Addr} {o : Obj} (h : AllLt a old) (r : Newer old tl) : Newer old ((a, o) :: tl) := newer_cons h r
end P_P0

section P_EQ
open PySem PySem.W PyProof.Rows PySem.Calls PySem.Spec PySem.SeqAt
set_option maxRecDepth 100000
set_option maxHeartbeats 8000000
theorem TIn.tup {led : Led} {t : Tr} (h : TIn led t) : ∃ its n, (t.ad, tupOf its n) ∈ led := by
  cases h <;> exact ⟨_, _, by assumption⟩
theorem isTuple_of {h₀ h : Heap} {L a : Addr} {its : Array Value} {n : Nat} {led : Led} (N : News h₀ L h led) (hm : (a, tupOf its n) ∈ led) : h.IsTuple a its := ⟨_, (N _ hm).1, rfl, n, rfl⟩
section
variable {A : Around} {s : Shared} {h₀ : Heap} {L : Addr} {led : Led}
theorem eqAt_tr_str {t : Tr} {x : Str} {k : Tok} (N : News h₀ L s.heap led) (h : TIn led t) (hu : A.units < cLine) : EqAt A s (.ref t.ad) (.str x k) false := by
  obtain ⟨its, n, hm⟩ := h.tup
  exact EqAt.tuple_str x k (isTuple_of N hm) hu
noncomputable def twoOf (b0 b1 : Bool) : List Value → Bool
  | [_] => b0 && b1
  | _ => false
theorem two_all {r : List Value} {v0 w0 w1 : Value} {b0 b1 : Bool} : ((List.range (min (v0 :: r).toArray.size [w0, w1].toArray.size)).all (fun j => if j = 0 then b0 else b1) && (v0 :: r).toArray.size == [w0, w1].toArray.size) = twoOf b0 b1 r := by
  match r with
  | [] => simp [twoOf]
  | [x] => simp [twoOf, List.range_succ]
  | x :: y :: z => simp [twoOf]
theorem rc_two {a D : Addr} {r : List Value} {v0 w0 w1 : Value} {b0 b1 : Bool} (ha : s.heap.IsTuple a (v0 :: r).toArray) (hD : s.heap.IsTuple D [w0, w1].toArray) (hu : A.units < cLine)
    (h0 : EqAt A.in1 s v0 w0 b0) (h1 : ∀ v1 r', r = v1 :: r' → EqAt A.in1 s v1 w1 b1) : RcAt A s (.ref a) (.ref D) (twoOf b0 b1 r) := by
  rw [← two_all (v0 := v0) (w0 := w0) (w1 := w1)]
  refine RcAt.tuples ha hD hu fun j h2 h3 => ?_
  match j with
  | 0 => exact h0
  | 1 =>
    match r, h1 with
    | [], _ => exact absurd h2 (by simp)
    | v1 :: r', h1 => exact h1 v1 r' rfl
  | j + 2 => exact absurd h3 (by simp)
theorem rcNe_two {a D : Addr} {r : List Value} {v0 w0 w1 : Value} {b0 b1 : Bool} (ha : s.heap.IsTuple a (v0 :: r).toArray) (hD : s.heap.IsTuple D [w0, w1].toArray) (hu : A.units < cLine)
    (h0 : EqAt A.in1 s v0 w0 b0) (h1 : ∀ v1 r', r = v1 :: r' → EqAt A.in1 s v1 w1 b1) : RcNeAt A s (.ref a) (.ref D) (!twoOf b0 b1 r) := by
  rw [← two_all (v0 := v0) (w0 := w0) (w1 := w1)]
  refine RcNeAt.tuples ha hD hu fun j h2 h3 => ?_
  match j with
  | 0 => exact h0
  | 1 =>
    match r, h1 with
    | [], _ => exact absurd h2 (by simp)
    | v1 :: r', h1 => exact h1 v1 r' rfl
  | j + 2 => exact absurd h3 (by simp)
/-- the tree at which the walk looks -/
structure Foc (led : Led) (t : Tr) : Prop where
  h : TIn led t
theorem twoOf_ff {b1 : Bool} {r : List Value} {b0 : Bool} (h : b0 = false) : twoOf b0 b1 r = false := by
  subst h
  match r with
  | [] => rfl
  | [_] => rfl
  | _ :: _ :: _ => rfl
theorem rc_name {t : Tr} {x : Str} {D : Addr} {n : Nat} {k1 k2 : Tok} (N : News h₀ L s.heap led) (h : TIn led t) (hu : A.units + 1 < cLine) (hD : (D, tupOf #[.str (Str.ofString "name") k1, .str x k2] n) ∈ led) : RcAt A s (.ref t.ad) (.ref D) (t.isNm x) := by
  have hD' := isTuple_of N hD
  have hu' : A.units < cLine := Nat.lt_of_succ_lt hu
  have hu1 : A.in1.units < cLine := hu
  cases h with
  | name hm _ =>
    have := rc_two (isTuple_of N hm) hD' hu' (EqAt.str_str _ _ _ _) (fun v1 r' e => by cases e; exact EqAt.str_str _ _ _ _)
    simpa [twoOf, Tr.isNm, Tr.ad] using this
  | text hm =>
    have := rc_two (isTuple_of N hm) hD' hu' (EqAt.str_str _ _ _ _) (fun v1 r' e => by cases e; exact EqAt.str_str _ _ _ _)
    rw [twoOf_ff (by decide)] at this; exact this
  | whole hm =>
    have := rc_two (isTuple_of N hm) hD' hu' (EqAt.str_str _ _ _ _) (fun v1 r' e => by cases e; exact EqAt.int_str _ _ _ _)
    rw [twoOf_ff (by decide)] at this; exact this
  | null hm =>
    have := rc_two (b1 := false) (isTuple_of N hm) hD' hu' (EqAt.str_str _ _ _ _) (fun v1 r' e => by cases e)
    rw [twoOf_ff (by decide)] at this; exact this
  | join hm h1 h2 =>
    have := rc_two (isTuple_of N hm) hD' hu' (EqAt.str_str _ _ _ _) (fun v1 r' e => by cases e; exact eqAt_tr_str N h1 hu1)
    rw [twoOf_ff (by decide)] at this; exact this
  | bin hm _ h1 h2 =>
    have := rc_two (isTuple_of N hm) hD' hu' (EqAt.str_str _ _ _ _) (fun v1 r' e => by cases e; exact EqAt.str_str _ _ _ _)
    rw [twoOf_ff (by decide)] at this; exact this
  | un hm _ h1 =>
    have := rc_two (isTuple_of N hm) hD' hu' (EqAt.str_str _ _ _ _) (fun v1 r' e => by cases e; exact EqAt.str_str _ _ _ _)
    rw [twoOf_ff (by decide)] at this; exact this
  | call0 hm _ _ =>
    have := rc_two (isTuple_of N hm) hD' hu' (EqAt.str_str _ _ _ _) (fun v1 r' e => by cases e; exact EqAt.str_str _ _ _ _)
    rw [twoOf_ff (by decide)] at this; exact this
  | call1 hm _ _ =>
    have := rc_two (isTuple_of N hm) hD' hu' (EqAt.str_str _ _ _ _) (fun v1 r' e => by cases e; exact EqAt.str_str _ _ _ _)
    rw [twoOf_ff (by decide)] at this; exact this
  | call2 hm _ _ =>
    have := rc_two (isTuple_of N hm) hD' hu' (EqAt.str_str _ _ _ _) (fun v1 r' e => by cases e; exact EqAt.str_str _ _ _ _)
    rw [twoOf_ff (by decide)] at this; exact this
  | item1 hm _ h1 _ =>
    have := rc_two (isTuple_of N hm) hD' hu' (EqAt.str_str _ _ _ _) (fun v1 r' e => by cases e; exact eqAt_tr_str N h1 hu1)
    rw [twoOf_ff (by decide)] at this; exact this
  | item2 hm _ h1 _ =>
    have := rc_two (isTuple_of N hm) hD' hu' (EqAt.str_str _ _ _ _) (fun v1 r' e => by cases e; exact eqAt_tr_str N h1 hu1)
    rw [twoOf_ff (by decide)] at this; exact this
  | item3 hm _ h1 _ =>
    have := rc_two (isTuple_of N hm) hD' hu' (EqAt.str_str _ _ _ _) (fun v1 r' e => by cases e; exact eqAt_tr_str N h1 hu1)
    rw [twoOf_ff (by decide)] at this; exact this
theorem cmp_name {M' : Program} {w : World} {E : Value → Shared → Prop} {Q : Value → Shared → Prop} {t : Tr} {x : Str} {a D : Addr} {n : Nat} {k1 k2 : Tok} {led0 : Led} (N : News h₀ L s.heap led) (h : Foc led0 t) (sub : ∀ p ∈ led0, p ∈ led) (e : t.ad = a) (hu : A.units + 1 < cLine) (hD : (D, tupOf #[.str (Str.ofString "name") k1, .str x k2] n) ∈ led)
    (hQ : Q (.bool (t.isNm x)) s) : wpAny (model M' w) A (compareOp .Eq (.ref a) (.ref D)) Q E s := by
  subst e
  exact rc_name N (h.h.mono sub) hu hD M' w E Q hQ
end
end P_EQ

section P_LT
open PySem PySem.W PyProof.Rows PySem.Calls PySem.Spec
set_option maxRecDepth 100000
set_option maxHeartbeats 8000000
/-- a comprehension's source that is a tuple of the ledger -/
noncomputable def SrcTup (prog : Program) (w : World) (A : Around) (h₀ : Heap) (L : Addr) (m : Str → Option Value) (env : Env) (elt : PySem.Expr) (x : Str) (scope : Scope) (cl : List (Str × Addr)) (Q : Value → Shared → Prop) (xv : Value) (s₁ : Shared) : Prop :=
  ∃ (ax : Addr) (vs : List Value) (n : Nat) (led : Led), xv = .ref ax ∧ A.handled = none ∧ Fr h₀ L s₁.heap m ∧ News h₀ L s₁.heap led ∧ (ax, tupOf vs.toArray n) ∈ led ∧ vs.length ≤ 100 ∧
    ∀ g, LCg.CompRest prog w A h₀ L m env elt x scope cl { s₁ with heap := g } (fun l => (ax, tupOf vs.toArray n) ∈ l) (fun i v => vs[i]? = some v) (LCg.FinE h₀ L m { s₁ with heap := g } Q) vs.length 0 [] led
theorem SrcTup.intro {prog : Program} {w : World} {A : Around} {h₀ : Heap} {L : Addr} {m : Str → Option Value} {env : Env} {elt : PySem.Expr} {x : Str} {scope : Scope} {cl : List (Str × Addr)} {Q : Value → Shared → Prop} {s₁ : Shared} {ax : Addr} {vs : List Value} {n : Nat} {led : Led}
    (hh : A.handled = none) (F : Fr h₀ L s₁.heap m) (N : News h₀ L s₁.heap led) (hm : (ax, tupOf vs.toArray n) ∈ led) (hz : vs.length ≤ 100)
    (h : ∀ g, LCg.CompRest prog w A h₀ L m env elt x scope cl { s₁ with heap := g } (fun l => (ax, tupOf vs.toArray n) ∈ l) (fun i v => vs[i]? = some v) (LCg.FinE h₀ L m { s₁ with heap := g } Q) vs.length 0 [] led) :
    SrcTup prog w A h₀ L m env elt x scope cl Q (.ref ax) s₁ := ⟨ax, vs, n, led, rfl, hh, F, N, hm, hz, h⟩
theorem ListComp_tup {prog : Program} {w : World} {A : Around} {E : Value → Shared → Prop} {s : Shared} {h₀ : Heap} {L : Addr} {m : Str → Option Value} {env : Env} {elt iter : PySem.Expr} {x : Str} {px : Pos} {scope : Scope} {cl : List (Str × Addr)} {pos : Pos} {Q : Value → Shared → Prop} (_F₀ : Fr h₀ L s.heap m)
    (hclos : closureFor scope env = pure cl) (hcell : ∀ y ∈ scope.names, y.2 ≠ .cell) (hkind : scope.kind = .function)
    (hnames : ∀ y ∈ scope.names, y.2 = .local → scope.names.lookup y.1 = some .local) (hx : scope.names.lookup x = some .local)
    (h : wpAny (model prog w) A (eval iter env) (SrcTup prog w A h₀ L m env elt x scope cl Q) E s)
    (hs : ∀ x, foldedSetIterable iter env x = pure x := by intro _; rfl) :
    wpAny (model prog w) A (eval (.ListComp elt [⟨.Name x px, iter, [], 0⟩] scope pos) env) Q E s := by
  rw [eval_ListComp]
  refine wpAny_comprehension_free (use := none) rfl hs hclos hkind hnames (wpAny_mono h ?_ fun _ _ e => e)
  rintro _ s₁ ⟨ax, vs, n, led, rfl, hh, F, N, hm, hz, R⟩
  have hax := (N _ hm).1
  have hT : s₁.heap.IsTuple ax vs.toArray := ⟨_, hax, rfl, n, rfl⟩
  have hlt : ax < s₁.heap.objs.size := Heap.lt_size hax
  have hne : ax ≠ s₁.heap.objs.size := Nat.ne_of_lt hlt
  have up : ∀ b o, s₁.heap.get? b = some o → (s₁.heap.push { cls := .type "tuple_iterator", data := .fields #[.ref ax, .int 0 0] }).get? b = some o := fun b o e => Heap.get?_push_of_some _ e
  refine wpAny_pyIter_tuple hT ?_
  have W := Walks.tuple (prog := prog) (w := w) (A := A) hh s₁.heap.objs.size ax hne vs.toArray
  have hsize : vs.toArray.size = vs.length := by simp
  rw [hsize] at W
  refine LCg.block_U (P := fun i v => vs[i]? = some v) (S := fun l => (ax, tupOf vs.toArray n) ∈ l) (n := vs.length)
    ⟨W.sub, W.frame, fun i s Q E hi st hQ => W.item i s Q E hi st fun v h' tk hP => hQ v h' tk (by simpa using hP), W.done, W.self⟩
    (Nat.le_trans hz (by decide)) (fun i h st => by obtain ⟨o, e, _⟩ := st.1; exact ⟨o, e⟩) ?_ hcell hkind hx ⟨⟨_, Heap.get?_push_size _ rfl, rfl, rfl⟩, hT.push _⟩ ?_
    (F.keeps up) (N.grown up) (Nat.ne_of_lt F.ns.lt) (next_is_new F) (fun p hp => Nat.ne_of_lt (Heap.lt_size (N p hp).1)) hm (R _) ?_
  · intro i h h' o nw st e e' _ N' hS
    refine ⟨?_, ⟨_, (N' _ hS).1, rfl, n, rfl⟩⟩
    obtain ⟨o', q, r⟩ := st.1
    rw [e] at q
    cases q
    exact ⟨o, e', r⟩
  · intro b hb
    rw [show (s₁.heap.push _).objs.size = s₁.heap.objs.size + 1 from Heap.size_push ..]
    rcases List.mem_cons.mp hb with rfl | hb
    · exact Nat.lt_succ_self _
    · rw [List.mem_singleton.mp hb]
      exact Nat.lt_succ_of_lt hlt
  · intro D C h tk m' ys led' F' N' o1 hn hC₀ hD₀ hCL hDL hCD offC fin
    refine ⟨m', hn, fun h'' hs'' => fin D h'' tk (F'.change hs'' hCL hC₀) (fun p hp => ⟨hs''.extBut _ _ ?_ (N' p hp).1, (N' p hp).2⟩) o1⟩
    rcases List.mem_cons.mp hp with rfl | hp
    · exact Ne.symm hCD
    · exact offC p hp
end P_LT

section P_R0
open PySem PySem.W PyProof.Rows PySem.Calls PySem.Spec
set_option maxRecDepth 100000
set_option maxHeartbeats 8000000
theorem item_at {w : World} {M' : Program} {A : Around} {E : Value → Shared → Prop} {h₀ : Heap} {L : Addr} {s : Shared} {news : Led} {value slice : PySem.Expr} {l : Addr} {items : Array Value} {n : Nat} {k : Int} {u : Tok} {x : Value} {Q : Value → Shared → Prop} (N : News h₀ L s.heap news) (hm : (l, listOf items n) ∈ news)
    (h0 : 0 ≤ k) (h1 : k < 2 ^ 63) (hx : items[k.toNat]? = some x) (h : Q x s)
    (hs : subscripted slice false (.ref l) (.int k u) = operate [.ref l, .int k u] (getItem (.ref l) (.int k u)) := by with_unfolding_all rfl) :
    wpAny (model M' w) A (subscriptTail value slice (.ref l) (.int k u)) Q E s :=
  tail_any (News.isList N hm).typeIs slot_list_getitem.lookup (wpAny_getItem_list (News.isList N hm) h0 h1 hx h) hs
theorem item_at0 {w : World} {M' : Program} {A : Around} {E : Value → Shared → Prop} {h₀ : Heap} {L : Addr} {s : Shared} {news : Led} {value slice : PySem.Expr} {l : Addr} {x0 : Value} {r : List Value} {n : Nat} {u : Tok} {Q : Value → Shared → Prop} (N : News h₀ L s.heap news) (hm : (l, listOf (List.toArray (x0 :: r)) n) ∈ news) (h : Q x0 s)
    (hs : subscripted slice false (.ref l) (.int 0 u) = operate [.ref l, .int 0 u] (getItem (.ref l) (.int 0 u)) := by with_unfolding_all rfl) :
    wpAny (model M' w) A (subscriptTail value slice (.ref l) (.int 0 u)) Q E s := item_at N hm (by decide) (by decide) (by simp) h hs
theorem item_at1 {w : World} {M' : Program} {A : Around} {E : Value → Shared → Prop} {h₀ : Heap} {L : Addr} {s : Shared} {news : Led} {value slice : PySem.Expr} {l : Addr} {x0 x1 : Value} {r : List Value} {n : Nat} {u : Tok} {Q : Value → Shared → Prop} (N : News h₀ L s.heap news) (hm : (l, listOf (List.toArray (x0 :: x1 :: r)) n) ∈ news) (h : Q x1 s)
    (hs : subscripted slice false (.ref l) (.int 1 u) = operate [.ref l, .int 1 u] (getItem (.ref l) (.int 1 u)) := by with_unfolding_all rfl) :
    wpAny (model M' w) A (subscriptTail value slice (.ref l) (.int 1 u)) Q E s := item_at N hm (by decide) (by decide) (by simp) h hs
theorem item_at2 {w : World} {M' : Program} {A : Around} {E : Value → Shared → Prop} {h₀ : Heap} {L : Addr} {s : Shared} {news : Led} {value slice : PySem.Expr} {l : Addr} {x0 x1 x2 : Value} {r : List Value} {n : Nat} {u : Tok} {Q : Value → Shared → Prop} (N : News h₀ L s.heap news) (hm : (l, listOf (List.toArray (x0 :: x1 :: x2 :: r)) n) ∈ news) (h : Q x2 s)
    (hs : subscripted slice false (.ref l) (.int 2 u) = operate [.ref l, .int 2 u] (getItem (.ref l) (.int 2 u)) := by with_unfolding_all rfl) :
    wpAny (model M' w) A (subscriptTail value slice (.ref l) (.int 2 u)) Q E s := item_at N hm (by decide) (by decide) (by simp) h hs
theorem ite_yes {c : Prop} [Decidable c] {p q : Prop} (hc : c) (h : p) : if c then p else q := by rw [if_pos hc]; exact h
theorem ite_no {c : Prop} [Decidable c] {p q : Prop} (hc : ¬ c) (h : q) : if c then p else q := by rw [if_neg hc]; exact h
section
variable {M' : Program} {w : World} {A : Around} {E : Value → Shared → Prop} {s : Shared} {h₀ : Heap} {L t b : Addr} {m : Str → Option Value} {news : Led} {x y z u : Value} {n1 n2 : Nat} {Q : Value → Shared → Prop}
end
section
variable {w : World} {M' : Program} {A : Around} {E : Value → Shared → Prop} {h₀ : Heap} {L : Addr} {s : Shared} {news : Led} {value slice : PySem.Expr} {l : Addr} {n : Nat} {u : Tok} {Q : Value → Shared → Prop}
theorem tup_at0 {x0 : Value} {r : List Value} (N : News h₀ L s.heap news) (hm : (l, tupOf (List.toArray (x0 :: r)) n) ∈ news) (h : Q x0 s)
    (hs : subscripted slice false (.ref l) (.int 0 u) = operate [.ref l, .int 0 u] (getItem (.ref l) (.int 0 u)) := by with_unfolding_all rfl) :
    wpAny (model M' w) A (subscriptTail value slice (.ref l) (.int 0 u)) Q E s := item_tupleT (j := 0) (News.isTup N hm) (by decide) (by decide) (by simp [seqIndex?] <;> omega) (by simp) h hs
end
theorem ite_yes' {c : Prop} [Decidable c] {p q : Prop} (hc : c) (h : p) : if c then p else q := by rw [if_pos hc]; exact h
theorem ite_no' {c : Prop} [Decidable c] {p q : Prop} (hc : ¬ c) (h : q) : if c then p else q := by rw [if_neg hc]; exact h
theorem ite_nob' {b : Bool} {p q : Prop} (hc : b = false) (h : q) : if b = true then p else q := by rw [hc]; exact h
theorem len_any {w : World} {M' : Program} {A : Around} {E : Value → Shared → Prop} {h₀ : Heap} {L : Addr} {s : Shared} {news : Led} {l : Addr} {vs : List Value} {n : Nat} {Q : Value → Shared → Prop} (N : News h₀ L s.heap news) (hm : (l, listOf vs.toArray n) ∈ news) (hz : vs.length ≤ 1000000)
    (h : ∀ t tk, Q (.int ((vs.length : Nat) : Int) t) { s with toks := tk }) : wpAny (model M' w) A (call (.builtin "len") [.ref l]) Q E s :=
  Calls.call_len_list (News.isList N hm) (by rw [List.size_toArray]; omega) (by rw [List.size_toArray]; exact h _ _)
theorem str_nat {w : World} {M' : Program} {A : Around} {E : Value → Shared → Prop} {s : Shared} {n : Nat} {t : Tok} {Q : Value → Shared → Prop} (hn : n ≤ 1000) (h : ∀ t tk, Q (.str (Str.ofString (toString ((n : Nat) : Int))) t) { s with toks := tk }) : wpAny (model M' w) A (call (.type "str") [.int ((n : Nat) : Int) t]) Q E s :=
  str_of_int_fit (N := 2000) (by split <;> omega) (by decide) fun _ => h _ _
end P_R0

section P_D0
open PySem PySem.W PyProof.Rows PySem.Calls PySem.Spec
noncomputable abbrev Note := Tr × Bool × List (Option Str)
noncomputable def Tr.isName : Tr → Bool
  | .name _ _ => true
  | _ => false
/-- a tree that may be wanted by name -/
noncomputable def Tr.nameable : Tr → Bool
  | .name _ _ | .call0 _ _ | .call1 _ _ _ | .call2 _ _ _ _ | .item1 _ _ _ | .item2 _ _ _ _ | .item3 _ _ _ _ _ => true
  | .un _ op x => op == Str.ofString "$" || (op == Str.ofString "&" && x.isName)
  | _ => false
noncomputable def Tr.isKey : Tr → Bool
  | .un _ op _ => op == Str.ofString "&"
  | _ => false
noncomputable def bad (t : Tr) (w : Bool) : Bool := (w || t.isKey) && !t.nameable
/-- none: the error; some none: a failed part; else the values -/
noncomputable abbrev Out (α : Type) := Option (Option α)
noncomputable def dueL (rec : Tr → Bool → List Note × Out Str) (neg : Bool) : List (Tr × Bool) → List Note × Out (List (Option Str))
  | [] => ([], some (some []))
  | (p, w) :: r =>
    match (rec p w).2 with
    | none => ((rec p w).1, none)
    | some v =>
      if v = none ∧ neg = false then ((rec p w).1, some none)
      else ((rec p w).1 ++ (dueL rec neg r).1, (dueL rec neg r).2.map (·.map (v :: ·)))
noncomputable def due : Nat → Tr → Bool → List Note × Out Str
  | 0, _, _ => ([], none)
  | n + 1, t, w =>
    if bad t w = true then ([], none)
    else match (dueL (due n) t.isNeg t.parts).2 with
      | none => ((dueL (due n) t.isNeg t.parts).1, none)
      | some none => ((dueL (due n) t.isNeg t.parts).1, some none)
      | some (some vs) => ((dueL (due n) t.isNeg t.parts).1 ++ [(t, w, vs)], some (saidOf t w vs))
noncomputable def cap : Nat → Nat
  | 0 => 0
  | n + 1 => 1 + 4 * cap n
theorem Tr.parts_len (t : Tr) : t.parts.length ≤ 4 := by
  cases t with
  | un a op x =>
    show (if (op == Str.ofString "*" || op == Str.ofString "&") = true then [] else [(x, op == Str.ofString "." || op == Str.ofString "@")] : List (Tr × Bool)).length ≤ 4
    split <;> exact Nat.le_of_ble_eq_true rfl
  | _ => exact Nat.le_of_ble_eq_true rfl
inductive NotesIn (led : Led) : List Value → List Note → Prop where
  | nil : NotesIn led [] []
  | cons {a b n n2 t w vs os its ns} : (a, tupOf #[.ref (Tr.ad t), .bool w, .ref b] n) ∈ led → (b, listOf vs.toArray n2) ∈ led → ValsAre vs os → NotesIn led its ns → NotesIn led (.ref a :: its) ((t, w, os) :: ns)
theorem NotesIn.mono {l l' : Led} (hs : ∀ p ∈ l, p ∈ l') {its : List Value} {ns : List Note} (h : NotesIn l its ns) : NotesIn l' its ns := by
  induction h with
  | nil => exact .nil
  | cons h1 h2 h3 _ ih => exact .cons (hs _ h1) (hs _ h2) h3 ih
theorem NotesIn.app {l : Led} {i1 i2 : List Value} {n1 n2 : List Note} (h : NotesIn l i1 n1) (r : NotesIn l i2 n2) : NotesIn l (i1 ++ i2) (n1 ++ n2) := by
  induction h with
  | nil => exact r
  | cons h1 h2 h3 _ ih => exact .cons h1 h2 h3 ih
theorem NotesIn.length {l : Led} {i1 : List Value} {n1 : List Note} (h : NotesIn l i1 n1) : i1.length = n1.length := by
  induction h with
  | nil => rfl
  | cons _ _ _ _ ih => rw [List.length_cons, List.length_cons, ih]
theorem ValsAre.app {i1 i2 : List Value} {n1 n2 : List (Option Str)} (h : ValsAre i1 n1) (r : ValsAre i2 n2) : ValsAre (i1 ++ i2) (n1 ++ n2) := by
  induction h with
  | nil => exact r
  | cons h1 _ ih => exact .cons h1 ih
noncomputable def DIs (v : Value) : Out Str → Prop
  | none => ∃ k, v = .int 8 k
  | some o => VIs v o
theorem dueL_len {rec : Tr → Bool → List Note × Out Str} {neg : Bool} {c : Nat} (h : ∀ t w, (rec t w).1.length ≤ c) (l : List (Tr × Bool)) : (dueL rec neg l).1.length ≤ l.length * c := by
  induction l with
  | nil => simp [dueL]
  | cons q r ih =>
    obtain ⟨p, w⟩ := q
    have := h p w
    simp only [dueL, List.length_cons, Nat.succ_mul]
    split
    · simp only; omega
    · split
      · simp only; omega
      · simp only [List.length_append]; omega
theorem due_len : ∀ n t w, (due n t w).1.length ≤ cap n
  | 0, _, _ => Nat.le_refl 0
  | n + 1, t, w => by
    have h := dueL_len (rec := due n) (neg := t.isNeg) (c := cap n) (due_len n) t.parts
    have h2 := Nat.mul_le_mul_right (cap n) t.parts_len
    simp only [due, cap]
    split
    · simp
    · split <;> simp only [List.length_append, List.length_cons, List.length_nil] <;> omega
theorem hp_cons {x : Tr} {w : Bool} {c : Nat} {l : List (Tr × Bool)} (h : x.height ≤ c) (r : ∀ q ∈ l, q.1.height + 1 ≤ c + 1) : ∀ q ∈ (x, w) :: l, q.1.height + 1 ≤ c + 1 := List.forall_mem_cons.mpr ⟨Nat.succ_le_succ h, r⟩
theorem hp_nil {c : Nat} : ∀ q ∈ ([] : List (Tr × Bool)), q.1.height + 1 ≤ c := fun _ h => nomatch h
theorem hp_two {l r : Tr} {v w : Bool} : ∀ q ∈ [(l, v), (r, w)], q.1.height + 1 ≤ max l.height r.height + 1 := hp_cons (Nat.le_max_left _ _) (hp_cons (Nat.le_max_right _ _) hp_nil)
theorem parts_height_all (t : Tr) : ∀ q ∈ t.parts, q.1.height + 1 ≤ t.height := by
  cases t with
  | join a l r => exact hp_two
  | bin a op l r => exact hp_two
  | un a op x =>
    show ∀ q ∈ (if (op == Str.ofString "*" || op == Str.ofString "&") = true then [] else [(x, op == Str.ofString "." || op == Str.ofString "@")] : List (Tr × Bool)), _
    split
    · exact hp_nil
    · exact hp_cons (Nat.le_refl _) hp_nil
  | call1 a f x => exact hp_cons (Nat.le_refl _) hp_nil
  | call2 a f x y => exact hp_two
  | item1 a x y => exact hp_two
  | item2 a x y z => exact hp_cons (Nat.le_max_left _ _) (hp_cons (Nat.le_trans (Nat.le_max_left _ _) (Nat.le_max_right _ _)) (hp_cons (Nat.le_trans (Nat.le_max_right _ _) (Nat.le_max_right _ _)) hp_nil))
  | item3 a h x y z => exact hp_cons (Nat.le_trans (Nat.le_max_left _ _) (Nat.le_max_left _ _)) (hp_cons (Nat.le_trans (Nat.le_max_right _ _) (Nat.le_max_left _ _)) (hp_cons (Nat.le_trans (Nat.le_max_left _ _) (Nat.le_max_right _ _)) (hp_cons (Nat.le_trans (Nat.le_max_right _ _) (Nat.le_max_right _ _)) hp_nil)))
  | _ => exact hp_nil
theorem parts_height {t : Tr} {q : Tr × Bool} (h : q ∈ t.parts) : q.1.height + 1 ≤ t.height := parts_height_all t q h
theorem pi_cons {led : Led} {x : Tr} {w : Bool} {l : List (Tr × Bool)} (h : TIn led x) (r : ∀ q ∈ l, TIn led q.1) : ∀ q ∈ (x, w) :: l, TIn led q.1 := List.forall_mem_cons.mpr ⟨h, r⟩
theorem pi_nil {led : Led} : ∀ q ∈ ([] : List (Tr × Bool)), TIn led q.1 := fun _ h => nomatch h
theorem parts_in {led : Led} {t : Tr} (hT : TIn led t) : ∀ q ∈ t.parts, TIn led q.1 := by
  cases hT with
  | join _ h1 h2 => exact pi_cons h1 (pi_cons h2 pi_nil)
  | bin _ _ h1 h2 => exact pi_cons h1 (pi_cons h2 pi_nil)
  | @un a op x n k1 k2 _ _ h1 =>
    show ∀ q ∈ (if (op == Str.ofString "*" || op == Str.ofString "&") = true then [] else [(x, op == Str.ofString "." || op == Str.ofString "@")] : List (Tr × Bool)), _
    split
    · exact pi_nil
    · exact pi_cons h1 pi_nil
  | call1 _ _ _ h1 => exact pi_cons h1 pi_nil
  | call2 _ _ _ h1 h2 => exact pi_cons h1 (pi_cons h2 pi_nil)
  | item1 _ _ h1 h2 => exact pi_cons h1 (pi_cons h2 pi_nil)
  | item2 _ _ h1 h2 h3 => exact pi_cons h1 (pi_cons h2 (pi_cons h3 pi_nil))
  | item3 _ _ h1 h2 h3 h4 => exact pi_cons h1 (pi_cons h2 (pi_cons h3 (pi_cons h4 pi_nil)))
  | _ => exact pi_nil
theorem dueL_vals {rec : Tr → Bool → List Note × Out Str} {neg : Bool} (l : List (Tr × Bool)) {vs : List (Option Str)} (h : (dueL rec neg l).2 = some (some vs)) : vs.length = l.length := by
  induction l generalizing vs with
  | nil => simp only [dueL, Option.some.injEq] at h; subst h; rfl
  | cons q r ih =>
    obtain ⟨p, w⟩ := q
    simp only [dueL] at h
    split at h
    · cases h
    · split at h
      · cases h
      · simp only [Option.map_eq_some_iff] at h
        obtain ⟨a, ha, b, hb, rfl⟩ := h
        subst hb
        rw [List.length_cons, List.length_cons, ih ha]
end P_D0

section P_SL
open PySem PySem.W PyProof.Rows PySem.Calls PySem.Spec PySem.SeqAt
set_option maxRecDepth 100000
section
variable {prog : Program} {w : World} {A : Around} {E : Value → Shared → Prop} {s : Shared}
theorem applied_two {sl : Addr} {n : Nat} {u : Tok} {Q : Int × Int × Nat → Shared → Prop} (hs : s.heap.IsSliceOf sl .none (.int 2 u) .none) (h : Q (0, 1, min 2 n) s) :
    wpAny (model prog w) A (Builtin.Slice.sliceApplied (.ref sl) (pure (n : Int))) Q E s := by
  obtain ⟨os, hos, hcs, hds⟩ := id hs
  unfold Builtin.Slice.sliceApplied Builtin.Slice.sliceFields
  refine wpAny_bind (wpAny_bind (wpAny_field hos hds (x := .none) rfl (wpAny_bind (wpAny_field hos hds (x := .int 2 u) rfl (wpAny_bind (wpAny_field hos hds (x := .none) rfl (wpAny_pure ?_)))))))
  refine wpAny_bind (slicePart_none ?_)
  show wpAny _ _ (if ((1 : Int) == 0) = true then _ else _) _ _ s
  rw [if_neg (by decide)]
  refine wpAny_bind (slicePart_none (wpAny_bind (slicePart_int (wpAny_bind (wpAny_pure ?_)))))
  show wpAny _ _ (match Builtin.Slice.sliceAdjust none (some (2 : Int)) 1 (n : Int) with | (lo, hi) => pure (lo, (1 : Int), Builtin.Slice.slicePlaces lo hi 1)) _ _ s
  have e1 : Builtin.Slice.sliceAdjust none (some (2 : Int)) 1 (n : Int) = (0, ((min 2 n : Nat) : Int)) := by
    unfold Builtin.Slice.sliceAdjust
    have h1 : ¬ ((1 : Int) < 0) := by omega
    have h2 : ¬ ((2 : Int) < 0) := by omega
    simp only [h1, h2, if_false]
    congr 1
    omega
  have e2 : Builtin.Slice.slicePlaces 0 ((min 2 n : Nat) : Int) 1 = min 2 n := by
    unfold Builtin.Slice.slicePlaces
    have h1 : (1 : Int) > 0 := by omega
    simp only [h1, if_true, Int.ediv_one]
    split <;> omega
  rw [e1]
  show wpAny _ _ (pure ((0 : Int), (1 : Int), Builtin.Slice.slicePlaces 0 ((min 2 n : Nat) : Int) 1)) _ _ s
  rw [e2]
  exact wpAny_pure h
theorem pick_two (xs : Array Value) (h : 2 ≤ xs.size) : ((List.range 2).filterMap fun (k : Nat) => xs[((0 : Int) + (k : Int) * 1).toNat]?).toArray = (xs.toList.take 2).toArray := by
  have h0 : 0 < xs.size := by omega
  have h1 : 1 < xs.size := by omega
  apply Array.ext'
  match xs, h with
  | ⟨a :: b :: r⟩, _ => simp [List.range_succ]
  | ⟨[a]⟩, h => exact absurd h (by simp)
  | ⟨[]⟩, h => exact absurd h (by simp)
theorem getItem_two {t sl : Addr} {items : Array Value} {u : Tok} {Q : Value → Shared → Prop} (ht : IsTup s.heap t items) (hs : s.heap.IsSliceOf sl .none (.int 2 u) .none)
    (ha : items.size ≤ 2 → Q (.ref t) s)
    (h : 2 < items.size → Q (.ref s.heap.objs.size) { s with heap := s.heap.push { cls := .type "tuple", data := .seq (items.toList.take 2).toArray } }) : wpAny (model prog w) A (getItem (.ref t) (.ref sl)) Q E s := by
  have hdrop : sizeOk (.seq (items.toList.take 2).toArray) := by
    show (items.toList.take 2).toArray.size ≤ sizeLine
    rw [List.size_toArray, List.length_take]
    exact Nat.le_trans (Nat.min_le_left _ _) (by decide)
  obtain ⟨os, hos, hcs, hds⟩ := id hs
  have hTs : s.TypeIs (.ref sl) "slice" := ⟨os, hos, hcs⟩
  unfold getItem
  try with_reducible refine wpAny_holding ?_
  first | refine wpAny_bind (wpAny_pure ?_) | skip
  refine wpAny_bind (wpAny_sequenceKey ht.typeIs (by decide) ?_)
  refine wpAny_bind (wpAny_callSpecial?_slot (name := Str.ofString "__getitem__") ht.typeIs slot_tuple_getitem
    (wpAny_call_entry slot_tuple_getitem ht.typeIs entry_tuple_getitem ?_ (args_tuple_getitem _ _)))
  show wpAny _ _ (Builtin.Tuple.tupleItemsOf (.ref t) >>= _) _ _ s
  refine wpAny_bind (tupleItemsOf_ ht ?_)
  refine wpAny_bind (wpAny_typeOf hTs ?_)
  rw [if_pos (by decide)]
  refine wpAny_bind (applied_two hs ?_)
  by_cases hc : items.size ≤ 2
  · have hyes : (((0 : Int) == 0 && (1 : Int) == 1 && (min 2 items.size) == items.size) = true) := by
      rw [Nat.min_eq_right hc]; simp
    show wpAny _ _ (if ((0 : Int) == 0 && (1 : Int) == 1 && (min 2 items.size) == items.size) = true then _ else _) _ _ s
    rw [if_pos hyes]
    refine wpAny_bind (m := Builtin.Tuple.tupleIsExact (.ref t)) ?_
    unfold Builtin.Tuple.tupleIsExact
    refine wpAny_bind (wpAny_typeOf ht.typeIs (wpAny_pure ?_))
    have ha := ha hc
    dsimp only
    rw [if_pos (show ((Value.type "tuple" == Value.type "tuple") = true) from beq_self_eq_true _)]
    refine wpAny_bind (wpAny_rule ?_)
    exact wpAny_pure ⟨_, rfl, wpAny_pure ha⟩
  · have hno : ¬ (((0 : Int) == 0 && (1 : Int) == 1 && (min 2 items.size) == items.size) = true) := by
      simp; omega
    show wpAny _ _ (if ((0 : Int) == 0 && (1 : Int) == 1 && (min 2 items.size) == items.size) = true then _ else _) _ _ s
    rw [if_neg hno, Nat.min_eq_left (by omega), pick_two items (by omega)]
    have h := h (by omega)
    first
      | exact wpAny_bind (m := Builtin.Tuple.tupleExact _) (wpAny_newObj_type (wpAny_pure ⟨_, rfl, wpAny_pure h⟩) hdrop)
      | exact wpAny_bind (m := Builtin.Tuple.tupleExact _) (wpAny_newObj_type (wpAny_bind (wpAny_pure (wpAny_pure ⟨_, rfl, wpAny_pure h⟩))) hdrop)
      | exact wpAny_bind (wpAny_bind (m := Builtin.Tuple.tupleExact _) (wpAny_newObj_type (wpAny_pure (wpAny_pure ⟨_, rfl, wpAny_pure h⟩)) hdrop))
      | exact wpAny_bind (wpAny_bind (m := Builtin.Tuple.tupleExact _) (wpAny_newObj_type (wpAny_pure ⟨_, rfl, wpAny_pure h⟩) hdrop))
end
noncomputable def Tr.kind : Tr → Str
  | .name _ _ => Str.ofString "name"
  | .text _ => Str.ofString "text"
  | .whole _ _ => Str.ofString "whole"
  | .null _ => Str.ofString "null"
  | .join _ _ _ => Str.ofString "join"
  | .bin _ _ _ _ => Str.ofString "binary"
  | .un _ _ _ => Str.ofString "unary"
  | .call0 _ _ | .call1 _ _ _ | .call2 _ _ _ _ => Str.ofString "call"
  | .item1 _ _ _ | .item2 _ _ _ _ | .item3 _ _ _ _ _ => Str.ofString "item"
noncomputable def Tr.isUn (o : Str) : Tr → Bool
  | .un _ op _ => op == o
  | _ => false
theorem TIn.head {led : Led} {t : Tr} (h : TIn led t) : ∃ k r n, (t.ad, tupOf (List.toArray (.str t.kind k :: r)) n) ∈ led := by
  cases h <;> exact ⟨_, _, _, by assumption⟩
/-- the first two places of a tree -/
inductive Seconds (led : Led) : List Value → Prop
  | nil : Seconds led []
  | str {x k} : Seconds led [.str x k]
  | int {x k} : Seconds led [.int x k]
  | tr {t} : TIn led t → Seconds led [.ref (Tr.ad t)]
structure Two (led : Led) (t : Tr) (D : Addr) : Prop where
  un : t.kind = Str.ofString "unary" → ∃ n k1 op k2, (D, tupOf #[.str (Str.ofString "unary") k1, .str op k2] n) ∈ led ∧ ∀ o, t.isUn o = (op == o)
  no : t.kind ≠ Str.ofString "unary" → (∀ o, t.isUn o = false) ∧ ∃ n k r, (D, tupOf (List.toArray (.str t.kind k :: r)) n) ∈ led ∧ Seconds led r
section
variable {prog : Program} {w : World} {A : Around} {E : Value → Shared → Prop} {s : Shared} {h₀ : Heap} {L : Addr} {m : Str → Option Value} {led led0 : Led}
theorem TIn.two {t : Tr} (h : TIn led t) : (∃ its n, (t.ad, tupOf its n) ∈ led ∧ its.size ≤ 2 ∧ Two led t t.ad) ∨
    (∃ its n, (t.ad, tupOf its n) ∈ led ∧ 2 < its.size ∧ ∀ D, Two ((D, tupOf (its.toList.take 2).toArray 0) :: led) t D) := by
  cases h with
  | name hm _ => exact .inl ⟨_, _, hm, by simp, ⟨fun e => absurd e (by dsimp only [Tr.kind]; decide), fun _ => ⟨fun _ => rfl, _, _, _, hm, .str⟩⟩⟩
  | text hm => exact .inl ⟨_, _, hm, by simp, ⟨fun e => absurd e (by dsimp only [Tr.kind]; decide), fun _ => ⟨fun _ => rfl, _, _, _, hm, .str⟩⟩⟩
  | whole hm => exact .inl ⟨_, _, hm, by simp, ⟨fun e => absurd e (by dsimp only [Tr.kind]; decide), fun _ => ⟨fun _ => rfl, _, _, _, hm, .int⟩⟩⟩
  | null hm => exact .inl ⟨_, _, hm, by simp, ⟨fun e => absurd e (by dsimp only [Tr.kind]; decide), fun _ => ⟨fun _ => rfl, _, _, _, hm, .nil⟩⟩⟩
  | join hm h1 _ => exact .inr ⟨_, _, hm, by simp, fun D => ⟨fun e => absurd e (by dsimp only [Tr.kind]; decide), fun _ => ⟨fun _ => rfl, 0, _, _, .head _, .tr (h1.mono fun _ hp => .tail _ hp)⟩⟩⟩
  | bin hm _ h1 _ => exact .inr ⟨_, _, hm, by simp, fun D => ⟨fun e => absurd e (by dsimp only [Tr.kind]; decide), fun _ => ⟨fun _ => rfl, 0, _, _, .head _, .str⟩⟩⟩
  | un hm _ h1 => exact .inr ⟨_, _, hm, by simp, fun D => ⟨fun _ => ⟨0, _, _, _, .head _, fun _ => rfl⟩, fun e => absurd rfl e⟩⟩
  | call0 hm _ _ => exact .inr ⟨_, _, hm, by simp, fun D => ⟨fun e => absurd e (by dsimp only [Tr.kind]; decide), fun _ => ⟨fun _ => rfl, 0, _, _, .head _, .str⟩⟩⟩
  | call1 hm _ _ => exact .inr ⟨_, _, hm, by simp, fun D => ⟨fun e => absurd e (by dsimp only [Tr.kind]; decide), fun _ => ⟨fun _ => rfl, 0, _, _, .head _, .str⟩⟩⟩
  | call2 hm _ _ => exact .inr ⟨_, _, hm, by simp, fun D => ⟨fun e => absurd e (by dsimp only [Tr.kind]; decide), fun _ => ⟨fun _ => rfl, 0, _, _, .head _, .str⟩⟩⟩
  | item1 hm _ h1 _ => exact .inr ⟨_, _, hm, by simp, fun D => ⟨fun e => absurd e (by dsimp only [Tr.kind]; decide), fun _ => ⟨fun _ => rfl, 0, _, _, .head _, .tr (h1.mono fun _ hp => .tail _ hp)⟩⟩⟩
  | item2 hm _ h1 _ => exact .inr ⟨_, _, hm, by simp, fun D => ⟨fun e => absurd e (by dsimp only [Tr.kind]; decide), fun _ => ⟨fun _ => rfl, 0, _, _, .head _, .tr (h1.mono fun _ hp => .tail _ hp)⟩⟩⟩
  | item3 hm _ h1 _ => exact .inr ⟨_, _, hm, by simp, fun D => ⟨fun e => absurd e (by dsimp only [Tr.kind]; decide), fun _ => ⟨fun _ => rfl, 0, _, _, .head _, .tr (h1.mono fun _ hp => .tail _ hp)⟩⟩⟩
theorem Seconds.mono {l l' : Led} (hs : ∀ p ∈ l, p ∈ l') {r : List Value} (h : Seconds l r) : Seconds l' r := by
  cases h with
  | nil => exact .nil
  | str => exact .str
  | int => exact .int
  | tr h => exact .tr (h.mono hs)
theorem Two.mono {l l' : Led} (hs : ∀ p ∈ l, p ∈ l') {t : Tr} {D : Addr} (h : Two l t D) : Two l' t D :=
  ⟨fun e => let ⟨n, k1, op, k2, hm, r⟩ := h.un e; ⟨n, k1, op, k2, hs _ hm, r⟩, fun e => let ⟨a, n, k, r, hm, c⟩ := h.no e; ⟨a, n, k, r, hs _ hm, c.mono hs⟩⟩
/-- tree[:2] -/
theorem slice_two {value slice : PySem.Expr} {a : Addr} {t : Tr} {u : Tok} {Q : Value → Shared → Prop}
    (F : Fr h₀ L s.heap m) (N : News h₀ L s.heap led) (h : Foc led0 t) (sub : ∀ p ∈ led0, p ∈ led) (e : t.ad = a)
    (ha : ∀ h', Fr h₀ L h' m → News h₀ L h' led → Two led t a → Q (.ref a) { s with heap := h' })
    (hb : ∀ D its h', Fr h₀ L h' m → News h₀ L h' ((D, tupOf its 0) :: led) → (∀ p ∈ led, p.1 < D) → Two ((D, tupOf its 0) :: led) t D → Q (.ref D) { s with heap := h' })
    (hs : subscripted slice false (.ref a) (.ref s.heap.objs.size) = operate [.ref s.heap.objs.size, .ref a] (getItem (.ref a) (.ref s.heap.objs.size)) := by with_unfolding_all rfl)
    (hg : ∀ r, letTemporaryGo value (.ref a) r = pure () := by intro _; with_unfolding_all rfl) :
    wpAny (model prog w) A (subscriptTail value slice (.ref a) (.ref s.heap.objs.size)) Q E { s with heap := s.heap.push { cls := .type "slice", data := .fields #[.none, .int 2 u, .none] } } := by
  subst e
  have hT := h.h.mono sub
  have push : ∀ b o, s.heap.get? b = some o → (s.heap.push { cls := .type "slice", data := .fields #[.none, .int 2 u, .none] }).get? b = some o := fun _ _ e => Heap.get?_push_of_some _ e
  have key : ∀ its n, (t.ad, tupOf its n) ∈ led → (its.size ≤ 2 → Two led t t.ad) → (2 < its.size → ∀ D, Two ((D, tupOf (its.toList.take 2).toArray 0) :: led) t D) → wpAny (model prog w) A (subscriptTail value slice (.ref t.ad) (.ref s.heap.objs.size)) Q E { s with heap := s.heap.push { cls := .type "slice", data := .fields #[.none, .int 2 u, .none] } } := by
    intro its n hm k1 k2
    have ht' : IsTup (s.heap.push { cls := .type "slice", data := .fields #[.none, .int 2 u, .none] }) t.ad its := (News.isTup N hm).keeps push
    refine subscriptTail_ops (s := { s with heap := s.heap.push { cls := .type "slice", data := .fields #[.none, .int 2 u, .none] } }) ht'.typeIs slot_tuple_getitem.lookup
      (getItem_two ht' (Heap.IsSliceOf.new ..) (fun hz => ha _ (F.push _) (N.grown push) (k1 hz)) (fun hz => ?_)) hs hg
    have N1 := News.push (F.push { cls := .type "slice", data := .fields #[.none, .int 2 u, .none] }) (N.grown push) { cls := .type "tuple", data := .seq (its.toList.take 2).toArray }
    rw [Heap.size_push] at N1
    show Q (.ref (s.heap.push _).objs.size) _
    rw [Heap.size_push]
    exact hb _ _ _ ((F.push _).push _) N1 (fun p hp => Nat.lt_succ_of_lt (Heap.lt_size (N p hp).1)) (k2 hz _)
  rcases hT.two with ⟨its, n, hm, hz, T2⟩ | ⟨its, n, hm, hz, T2⟩
  · exact key its n hm (fun _ => T2) (fun hz' => absurd hz' (by omega))
  · exact key its n hm (fun hz' => absurd hz' (by omega)) (fun _ => T2)
theorem rcNe_un {t : Tr} {x : Str} {D D2 : Addr} {n : Nat} {k1 k2 : Tok} (N : News h₀ L s.heap led) (T2 : Two led t D) (hu : A.units + 1 < cLine) (hD : (D2, tupOf #[.str (Str.ofString "unary") k1, .str x k2] n) ∈ led) : RcNeAt A s (.ref D) (.ref D2) (!t.isUn x) := by
  have hD' := isTuple_of N hD
  have hu' : A.units < cLine := Nat.lt_of_succ_lt hu
  have hu1 : A.in1.units < cLine := hu
  by_cases ek : t.kind = Str.ofString "unary"
  · obtain ⟨n', k1', op, k2', hm, e⟩ := T2.un ek
    have := rcNe_two (isTuple_of N hm) hD' hu' (EqAt.str_str _ _ _ _) (fun v1 r' e => by cases e; exact EqAt.str_str _ _ _ _)
    simpa [twoOf, e] using this
  · obtain ⟨e0, n', k, r, hm, hr⟩ := T2.no ek
    rw [e0]
    have hb : (t.kind == Str.ofString "unary") = false := beq_eq_false_iff_ne.mpr ek
    cases hr with
    | nil =>
      have := rcNe_two (b1 := false) (isTuple_of N hm) hD' hu' (EqAt.str_str _ _ _ _) (fun v1 r' e => by cases e)
      rw [twoOf_ff hb] at this; exact this
    | str =>
      have := rcNe_two (isTuple_of N hm) hD' hu' (EqAt.str_str _ _ _ _) (fun v1 r' e => by cases e; exact EqAt.str_str _ _ _ _)
      rw [twoOf_ff hb] at this; exact this
    | int =>
      have := rcNe_two (isTuple_of N hm) hD' hu' (EqAt.str_str _ _ _ _) (fun v1 r' e => by cases e; exact EqAt.int_str _ _ _ _)
      rw [twoOf_ff hb] at this; exact this
    | tr h =>
      have := rcNe_two (isTuple_of N hm) hD' hu' (EqAt.str_str _ _ _ _) (fun v1 r' e => by cases e; exact eqAt_tr_str N h hu1)
      rw [twoOf_ff hb] at this; exact this
theorem cmp_un {M' : Program} {Q : Value → Shared → Prop} {t : Tr} {x : Str} {D D2 : Addr} {n : Nat} {k1 k2 : Tok} (N : News h₀ L s.heap led) (T2 : Two led0 t D) (sub : ∀ p ∈ led0, p ∈ led) (hu : A.units + 1 < cLine) (hD : (D2, tupOf #[.str (Str.ofString "unary") k1, .str x k2] n) ∈ led)
    (hQ : Q (.bool (!t.isUn x)) s) : wpAny (model M' w) A (compareOp .NotEq (.ref D) (.ref D2)) Q E s :=
  rcNe_un N (T2.mono sub) hu hD M' w E Q hQ
/-- the part of a tree at which the walk looks -/
structure FocX (led : Led) (t : Tr) : Prop where
  h : TIn led t
structure IsNmT (t : Tr) : Prop where
  h : t.isName = true
structure NotNmT (t : Tr) : Prop where
  h : t.isName = false
theorem isName_kind (x : Tr) : x.isName = (x.kind == Str.ofString "name") := by
  cases x <;> simp only [Tr.isName, Tr.kind] <;> decide
end
end P_SL

section P_FU
open PySem PySem.W PyProof.Rows PySem.Calls PySem.Spec
set_option maxRecDepth 100000
section
variable {prog : Program} {w : World} {A : Around} {E : Value → Shared → Prop} {hp h₀ : Heap} {gs : Array GenState} {dr : Drawn} {tk : Nat} {os : OsState} {L a : Addr} {m : Str → Option Value} {led : Led} {cn : Str} {cs : Scope} {ccd : Value} {cl : List (Str × Addr)}
  {x : Str} {ta : Addr} {r : List Value} {n : Nat} {i : Nat} {v : Value} {k1 k2 : Nat} {p1 p2 p3 p4 p5 : Pos} {y z : Str} {kz : Tok} {b : Bool}
theorem sub_tup {Q : Value → Shared → Prop} (F : Fr h₀ L hp m) (N : News h₀ L hp led) (hv : m x = some (.ref ta)) (hm : (ta, tupOf r.toArray n) ∈ led) (hi : r[i]? = some v) (h : ∀ tk, Q v ⟨hp, gs, dr, tk, os⟩)
    (hk : cs.kind = .function := by rfl) (hx : (envX cn cs L a ccd cl).kindOf x = some .local := by rfl) (hd : (x == ("__debug__" : Str)) = false := by decide) (hi9 : i < 9 := by decide) :
    wpAny (model prog w) A (eval (.Subscript (.Name x p1) (.Constant (.int (i : Nat)) k1 p2) p3) (envX cn cs L a ccd cl)) Q E ⟨hp, gs, dr, tk, os⟩ := by
  have hl : i < r.length := (List.getElem?_eq_some_iff.mp hi).1
  refine Subscript_ (nameX_L F hv (wpAny_Constant_int ?_) hk hx hd)
  refine item_tupleT (j := i) (News.isTup N hm) (by omega) (by omega) ?_ hi (h _)
  unfold seqIndex?
  simp
  omega
theorem test_eq {Q : Bool → Shared → Prop} {whole : Sem Value} (F : Fr h₀ L hp m) (N : News h₀ L hp led) (hv : m x = some (.ref ta)) (hm : (ta, tupOf r.toArray n) ∈ led) (hi : r[i]? = some (.str z kz)) (hb : (z.cps.toList == y.cps.toList) = b) (h : ∀ tk, Q b ⟨hp, gs, dr, tk, os⟩)
    (hk : cs.kind = .function := by rfl) (hx : (envX cn cs L a ccd cl).kindOf x = some .local := by rfl) (hd : (x == ("__debug__" : Str)) = false := by decide) (hi9 : i < 9 := by decide) :
    wpAny (model prog w) A (isTrue (.Compare (.Subscript (.Name x p1) (.Constant (.int (i : Nat)) k1 p2) p3) [.Eq] [.Constant (.str y) k2 p4] p5) (envX cn cs L a ccd cl) whole) Q E ⟨hp, gs, dr, tk, os⟩ :=
  wpAny_isTrue_Compare1 (sub_tup F N hv hm hi (fun tk => Constant_str (P.eq_str (wpAny_truthy_bool (by rw [hb]; exact h _)))) hk hx hd hi9)
theorem val_eq {Q : Value → Shared → Prop} (F : Fr h₀ L hp m) (N : News h₀ L hp led) (hv : m x = some (.ref ta)) (hm : (ta, tupOf r.toArray n) ∈ led) (hi : r[i]? = some (.str z kz)) (hb : (z.cps.toList == y.cps.toList) = b) (h : ∀ tk, Q (.bool b) ⟨hp, gs, dr, tk, os⟩)
    (hk : cs.kind = .function := by rfl) (hx : (envX cn cs L a ccd cl).kindOf x = some .local := by rfl) (hd : (x == ("__debug__" : Str)) = false := by decide) (hi9 : i < 9 := by decide) :
    wpAny (model prog w) A (eval (.Compare (.Subscript (.Name x p1) (.Constant (.int (i : Nat)) k1 p2) p3) [.Eq] [.Constant (.str y) k2 p4] p5) (envX cn cs L a ccd cl)) Q E ⟨hp, gs, dr, tk, os⟩ :=
  wpAny_Compare1 (sub_tup F N hv hm hi (fun tk => Constant_str (P.eq_str (by rw [hb]; exact h _))) hk hx hd hi9)
theorem test_ne {Q : Bool → Shared → Prop} {whole : Sem Value} (F : Fr h₀ L hp m) (N : News h₀ L hp led) (hv : m x = some (.ref ta)) (hm : (ta, tupOf r.toArray n) ∈ led) (hi : r[i]? = some (.str z kz)) (hb : (z.cps.toList != y.cps.toList) = b) (h : ∀ tk, Q b ⟨hp, gs, dr, tk, os⟩)
    (hk : cs.kind = .function := by rfl) (hx : (envX cn cs L a ccd cl).kindOf x = some .local := by rfl) (hd : (x == ("__debug__" : Str)) = false := by decide) (hi9 : i < 9 := by decide) :
    wpAny (model prog w) A (isTrue (.Compare (.Subscript (.Name x p1) (.Constant (.int (i : Nat)) k1 p2) p3) [.NotEq] [.Constant (.str y) k2 p4] p5) (envX cn cs L a ccd cl) whole) Q E ⟨hp, gs, dr, tk, os⟩ :=
  wpAny_isTrue_Compare1 (sub_tup F N hv hm hi (fun tk => Constant_str (P.ne_str (wpAny_truthy_bool (by rw [hb]; exact h _)))) hk hx hd hi9)
end
end P_FU

section P_FV
open PySem PySem.W PyProof.Rows PySem.Calls PySem.Spec
set_option maxRecDepth 100000
structure NeS (z y : Str) : Prop where
  h : (z.cps.toList == y.cps.toList) = false
theorem NeS.ne {z y : Str} (H : NeS z y) : (z.cps.toList != y.cps.toList) = true := by rw [bne, H.h]; rfl
theorem eq_ne {M' : Program} {w : World} {A : Around} {E : Value → Shared → Prop} {s : Shared} {x y : Str} {t u : Tok} {Q : Value → Shared → Prop} (H : NeS x y) (h : Q (.bool false) s) : wpAny (model M' w) A (compareOp .Eq (.str x t) (.str y u)) Q E s := P.eq_str (by rw [H.h]; exact h)
theorem cps_ne {x y : Str} (h : x ≠ y) : (x.cps.toList == y.cps.toList) = false := by
  rw [beq_eq_false_iff_ne]
  intro e
  apply h
  cases x; cases y
  simp only [Str.mk.injEq]
  exact Array.toList_inj.mp e
end P_FV

section P_V0
open PySem PySem.W PyProof.Rows PySem.Calls PySem.Spec
set_option maxRecDepth 100000
/-- a value, as far as it is known: a tuple with its items -/
inductive SV where
  | v (x : Value)
  | tup (a : Addr) (its : List SV)
noncomputable def SV.val : SV → Value
  | .v x => x
  | .tup a _ => .ref a
inductive SV.Ok (led : Led) : SV → Prop
  | v {x : Value} : SV.Ok led (.v x)
  | tup {a : Addr} {its : List SV} {n : Nat} : (a, tupOf (its.map SV.val).toArray n) ∈ led → (∀ i ∈ its, SV.Ok led i) → SV.Ok led (.tup a its)
/-- objects that no statement turns: tuples, and cells (stored once) -/
noncomputable def Fixed (o : Obj) : Prop := (∃ its n, o = tupOf its n) ∨ ∃ v, o.data = .cell v
/-- such objects stay -/
noncomputable def Keeps (l l' : Led) : Prop := ∀ a o, Fixed o → (a, o) ∈ l → (a, o) ∈ l'
theorem Keeps.rfl {l : Led} : Keeps l l := fun _ _ _ h => h
theorem Keeps.trans {a b c : Led} (h : Keeps a b) (k : Keeps b c) : Keeps a c := fun _ _ f x => k _ _ f (h _ _ f x)
theorem Keeps.cons {l : Led} {p : Addr × Obj} : Keeps l (p :: l) := fun _ _ _ h => .tail _ h
theorem Keeps.sub {l l' : Led} (h : ∀ p ∈ l, p ∈ l') : Keeps l l' := fun _ _ _ x => h _ x
theorem Fixed.notList {its : Array Value} {n : Nat} : ¬ Fixed (listOf its n) := by
  rintro (⟨its, n, e⟩ | ⟨v, e⟩)
  · exact absurd (congrArg (fun o : Obj => o.cls) e) (by show ¬ (Value.type "list" = Value.type "tuple"); decide)
  · cases e
theorem Keeps.upd {fd : Addr} {its its' : Array Value} {n n' : Nat} {l : Led} {g : Obj → Led} (U : UpdF fd (listOf its n) l g) : Keeps l (g (listOf its' n')) := by
  obtain ⟨own, rest, rfl, hg, _, _⟩ := U.split
  rw [hg]
  intro a o f hm
  rcases List.mem_append.mp hm with hm | hm
  · exact List.mem_append_left _ hm
  · rcases List.mem_cons.mp hm with e | hm
    · cases e; exact absurd f Fixed.notList
    · exact List.mem_append_right _ (.tail _ hm)
theorem SV.Ok.keep {l l' : Led} (h : Keeps l l') {x : SV} (o : SV.Ok l x) : SV.Ok l' x := by
  induction o with
  | v => exact .v
  | tup hm _ ih => exact .tup (h _ _ (.inl ⟨_, _, Eq.refl _⟩) hm) ih
noncomputable abbrev Vars := List (Str × SV)
noncomputable def lk (vars : Vars) : Str → Option Value := fun y => (vars.lookup y).map SV.val
theorem lk_set {vars : Vars} {x : Str} {v : SV} : (fun y => if y = x then some v.val else lk vars y) = lk ((x, v) :: vars) := by
  funext y
  show _ = (List.lookup y ((x, v) :: vars)).map SV.val
  rw [List.lookup]
  by_cases h : y = x
  · subst h; simp
  · rw [if_neg h, beq_eq_false_iff_ne.mpr h]; rfl
structure Cx where
  w : World
  A : Around
  cn : Str
  L : Addr
  a : Addr
  ccd : Value
  cl : List (Str × Addr)
  h₀ : Heap
  E : Value → Shared → Prop
  gs : Array GenState
  dr : Drawn
  os : OsState
noncomputable abbrev Cx.env (c : Cx) (cs : Scope) : Env := envX c.cn cs c.L c.a c.ccd c.cl
inductive Fl where
  | next | brk | cont
  | ret (v : SV)
noncomputable def Fl.flow : Fl → Flow
  | .next => .next
  | .brk => .brk
  | .cont => .cont
  | .ret v => .ret v.val
noncomputable def Fl.Ok (led : Led) : Fl → Prop
  | .ret v => v.Ok led
  | _ => True
/-- the names' values: locals as they are seen, cells by the ledger -/
noncomputable def VarsOk (c : Cx) (cs : Scope) (cv : List (Str × Value)) (vars : Vars) (led : Led) : Prop :=
  (∀ x v, vars.lookup x = some v → cs.names.lookup x = some .local ∧ (x == ("__debug__" : Str)) = false ∧ v.Ok led) ∧
  ∀ x v, cv.lookup x = some v → (cs.names.lookup x = some .cell ∨ cs.names.lookup x = some .free ∧ (x == ("__classdict__" : Str)) = false) ∧ (x == ("__debug__" : Str)) = false ∧ ∃ a o, c.cl.lookup x = some a ∧ (a, o) ∈ led ∧ o.data = .cell (some v)
theorem VarsOk.keep {c : Cx} {cs : Scope} {cv : List (Str × Value)} {vars : Vars} {l l' : Led} (h : VarsOk c cs cv vars l) (k : Keeps l l') : VarsOk c cs cv vars l' :=
  ⟨fun x v e => ⟨(h.1 x v e).1, (h.1 x v e).2.1, (h.1 x v e).2.2.keep k⟩, fun x v e => let ⟨h1, h2, a, o, h3, h4, h5⟩ := h.2 x v e; ⟨h1, h2, a, o, h3, k _ _ (.inr ⟨_, h5⟩) h4, h5⟩⟩
/-- the module's names that the walks read -/
noncomputable def glob : List (Str × Value) := [(Str.ofString "is_fail", .ref 58), (Str.ofString "need_nameable", .ref 65), (Str.ofString "parts_of", .ref 70), (Str.ofString "is_negation", .ref 77), (Str.ofString "worked", .ref 82), (Str.ofString "_law_next", .ref 89), (Str.ofString "_law_tree", .ref 94), (Str.ofString "_law_head", .ref 101), (Str.ofString "_law_said", .ref 108), (Str.ofString "_law_parts", .ref 113), (Str.ofString "_law_due", .ref 120), (Str.ofString "_law_chain", .ref 127), (Str.ofString "Failure", .ref 47), (Str.ofString "SnobolError", .ref 34)]
theorem glob_keep (w : World) : ∀ y ∈ glob, keepIn (hd.heap_1 w.params) y.2 = true := by
  intro y hy
  simp only [glob, List.mem_cons, List.not_mem_nil, or_false] at hy
  rcases hy with rfl | rfl | rfl | rfl | rfl | rfl | rfl | rfl | rfl | rfl | rfl | rfl | rfl | rfl <;> rfl
theorem glob_ns (w : World) : ∀ y ∈ glob, nsIn (hd.heap_1 w.params) mainGlobals y.1 = some (some y.2) := by
  intro y hy
  simp only [glob, List.mem_cons, List.not_mem_nil, or_false] at hy
  rcases hy with rfl | rfl | rfl | rfl | rfl | rfl | rfl | rfl | rfl | rfl | rfl | rfl | rfl | rfl <;> rfl
theorem glob_dbg : ∀ y ∈ glob, (y.1 == ("__debug__" : Str)) = false := by
  intro y hy
  simp only [glob, List.mem_cons, List.not_mem_nil, or_false] at hy
  rcases hy with rfl | rfl | rfl | rfl | rfl | rfl | rfl | rfl | rfl | rfl | rfl | rfl | rfl | rfl <;> decide
/-- the built-in names that the walks read -/
noncomputable def bglob : List (Str × Value) := [(Str.ofString "len", .builtin "len"), (Str.ofString "str", .type "str"), (Str.ofString "abs", .builtin "abs"), (Str.ofString "isinstance", .builtin "isinstance"), (Str.ofString "tuple", .type "tuple"), (Str.ofString "range", .type "range")]
theorem bglob_ok (w : World) : ∀ y ∈ bglob, nsIn (hd.heap_1 w.params) mainGlobals y.1 = some none ∧ bootBuiltins y.1 = some y.2 ∧ y.1 ≠ "__name__" ∧ (y.1 == ("__debug__" : Str)) = false ∧ ((∃ i, y.2 = .builtin i) ∨ ∃ i, y.2 = .type i) := by
  intro y hy
  simp only [bglob, List.mem_cons, List.not_mem_nil, or_false] at hy
  rcases hy with rfl | rfl | rfl | rfl | rfl | rfl <;> exact ⟨rfl, (by boot_by_name : bootBuiltins (Str.ofString _) = some _), by decide, by decide, by first | exact .inl ⟨_, rfl⟩ | exact .inr ⟨_, rfl⟩⟩
end P_V0

section P_V1
open PySem PySem.W PyProof.Rows PySem.Calls PySem.Spec
set_option maxRecDepth 100000
inductive Rq where
  | E (e : PySem.Expr) (k : SV → Led → Prop)
  | B (e : PySem.Expr) (k : Bool → Led → Prop)
  | Bo (op : PySem.BoolOp) (es : List PySem.Expr) (k : SV → Led → Prop)
  | Bb (op : PySem.BoolOp) (es : List PySem.Expr) (k : Bool → Led → Prop)
  | C (l : PySem.Expr) (op : CmpOp) (r : PySem.Expr) (k : Bool → Led → Prop)
  | Es (es : List PySem.Expr) (k : List SV → Led → Prop)
  | X (ss : List Stmt) (k : Fl → Vars → Led → Prop)
noncomputable def WpT {α : Type} (c : Cx) (vars : Vars) (led : Led) (T : Sem α) (k : α → Led → Prop) : Prop :=
  ∀ hp tk (Q : α → Shared → Prop), Fr c.h₀ c.L hp (lk vars) → News c.h₀ c.L hp led →
    (∀ v led' hp' tk', Fr c.h₀ c.L hp' (lk vars) → News c.h₀ c.L hp' led' → Keeps led led' → k v led' → Q v ⟨hp', c.gs, c.dr, tk', c.os⟩) →
    wpAny (model PySem.Challenge.rw_pf0366_01.row.prog c.w) c.A T Q c.E ⟨hp, c.gs, c.dr, tk, c.os⟩
noncomputable def WpV (c : Cx) (vars : Vars) (led : Led) (T : Sem Value) (k : SV → Led → Prop) : Prop :=
  WpT c vars led T fun v led' => ∃ x : SV, x.val = v ∧ x.Ok led' ∧ k x led'
noncomputable def WpX (c : Cx) (cs : Scope) (cv : List (Str × Value)) (vars : Vars) (led : Led) (T : Sem Flow) (k : Fl → Vars → Led → Prop) : Prop :=
  ∀ hp tk (Q : Flow → Shared → Prop), Fr c.h₀ c.L hp (lk vars) → News c.h₀ c.L hp led →
    (∀ f vars' led' hp' tk', Fr c.h₀ c.L hp' (lk vars') → News c.h₀ c.L hp' led' → Keeps led led' → VarsOk c cs cv vars' led' → f.Ok led' → k f vars' led' → Q f.flow ⟨hp', c.gs, c.dr, tk', c.os⟩) →
    (∀ v led' hp' tk' m', Fr c.h₀ c.L hp' m' → News c.h₀ c.L hp' led' → k (.ret (.v v)) [] led' → Q (.ret v) ⟨hp', c.gs, c.dr, tk', c.os⟩) →
    wpAny (model PySem.Challenge.rw_pf0366_01.row.prog c.w) c.A T Q c.E ⟨hp, c.gs, c.dr, tk, c.os⟩
/-- what is left to a hand-made rule -/
inductive RawX (c : Cx) (cs : Scope) (cv : List (Str × Value)) (vars : Vars) (led : Led) (st : Stmt) (k : Fl → Vars → Led → Prop) : Prop
  | of (h : VarsOk c cs cv vars led → WpX c cs cv vars led (exec st (c.env cs)) k)
inductive RawE (c : Cx) (cs : Scope) (cv : List (Str × Value)) (vars : Vars) (led : Led) (e : PySem.Expr) (k : SV → Led → Prop) : Prop
  | of (h : VarsOk c cs cv vars led → WpV c vars led (eval e (c.env cs)) k)
inductive CallP (c : Cx) (vars : Vars) (led : Led) (f : Value) (vs : List SV) (k : SV → Led → Prop) : Prop
  | of (h : (∀ x ∈ vs, x.Ok led) → WpV c vars led (call f (vs.map SV.val)) k)
inductive SubP (c : Cx) (vars : Vars) (led : Led) (e i : PySem.Expr) (v : SV) (j : Nat) (k : SV → Led → Prop) : Prop
  | of (h : v.Ok led → ∀ t, WpV c vars led (subscriptTail e i v.val (.int (j : Int) t)) k)
inductive SubW (c : Cx) (vars : Vars) (led : Led) (e i : PySem.Expr) (v w : SV) (k : SV → Led → Prop) : Prop
  | of (h : v.Ok led → w.Ok led → WpV c vars led (subscriptTail e i v.val w.val) k)
inductive AddP (c : Cx) (vars : Vars) (led : Led) (op : Operator) (a b : SV) (k : SV → Led → Prop) : Prop
  | of (h : a.Ok led → b.Ok led → WpV c vars led (binaryOp op a.val b.val) k)
inductive RawB (c : Cx) (cs : Scope) (cv : List (Str × Value)) (vars : Vars) (led : Led) (e : PySem.Expr) (k : Bool → Led → Prop) : Prop
  | of (h : VarsOk c cs cv vars led → WpT c vars led (isTrue e (c.env cs) (eval e (c.env cs))) k)
noncomputable def onS {α : Type} (o : Option α) (f : α → Prop) : Prop := match o with
  | some a => f a
  | none => False
noncomputable def orR {α : Type} (o : Option α) (f : α → Prop) (r : Prop) : Prop := match o with
  | some a => f a
  | none => r
noncomputable def onB (b : Bool) (p q : Prop) : Prop := match b with
  | true => p
  | false => q
noncomputable def thenK (f : Fl) (p q : Prop) : Prop := match f with
  | .next => p
  | _ => q
theorem onS.out {α : Type} {o : Option α} {f : α → Prop} (h : onS o f) : ∃ a, o = some a ∧ f a := by
  cases o with
  | none => exact h.elim
  | some a => exact ⟨a, rfl, h⟩
theorem orR.out {α : Type} {o : Option α} {f : α → Prop} {r : Prop} (h : orR o f r) : (∃ a, o = some a ∧ f a) ∨ r := by
  cases o with
  | none => exact .inr h
  | some a => exact .inl ⟨a, rfl, h⟩
theorem onB.out {b : Bool} {p : Prop} (h : onB b p False) : b = true ∧ p := by
  cases b with
  | true => exact ⟨rfl, h⟩
  | false => exact h.elim
inductive Sh where
  | nm (x : Str)
  | cst (d : Const)
  | tup (es : List PySem.Expr)
  | star | comp | sl | ot
noncomputable def sh : PySem.Expr → Sh
  | .Name x _ => .nm x
  | .Constant d _ _ => .cst d
  | .Tuple es _ _ => .tup es
  | .Starred _ _ => .star
  | .ListComp .. | .SetComp .. | .DictComp .. => .comp
  | .Slice .. => .sl
  | _ => .ot
noncomputable def SV.bool? : SV → Option Bool
  | .v (.bool b) => some b
  | _ => none
noncomputable def SV.str? : SV → Option Str
  | .v (.str x _) => some x
  | _ => none
noncomputable def SV.its? : SV → Option (List SV)
  | .tup _ its => some its
  | _ => none
noncomputable def strC : Const → Option Str
  | .str y => some y
  | _ => none
noncomputable def natC : Const → Option Nat
  | .int (.ofNat j) => some j
  | _ => none
noncomputable def cstOf (e : PySem.Expr) : Option Const := match sh e with
  | .cst d => some d
  | _ => none
noncomputable def litStrs : List PySem.Expr → Option (List Str)
  | [] => some []
  | e :: es => (cstOf e).bind fun d => (strC d).bind fun y => (litStrs es).bind fun ys => some (y :: ys)
noncomputable def strsOf (e : PySem.Expr) : Option (List Str) := match sh e with
  | .tup es => (litStrs es).bind fun ys => match Nat.ble ys.length 64 with
    | true => some ys
    | false => none
  | _ => none
/-- a sign sought in one of the two texts of signs -/
noncomputable def inStr (y x : Str) : Option Bool := match unOps.any (· == y), x == Str.ofString "~$-?.@", x == Str.ofString ".@" with
  | true, true, _ => some (!(y == Str.ofString "*" || y == Str.ofString "&"))
  | true, false, true => some (y == Str.ofString "." || y == Str.ofString "@")
  | _, _, _ => none
theorem inStr_ok {y x : Str} {b : Bool} (h : inStr y x = some b) : (!(Builtin.Str.occurrences x y 0 x.length 1).isEmpty) = b := by
  unfold inStr at h
  split at h
  · rename_i h1 h2
    simp only [unOps, List.any_cons, List.any_nil, Bool.or_false, Bool.or_eq_true, beq_iff_eq] at h1
    cases beq_iff_eq.mp h2
    cases h
    rcases h1 with rfl | rfl | rfl | rfl | rfl | rfl | rfl | rfl <;> decide +kernel
  · rename_i h1 _ h2
    simp only [unOps, List.any_cons, List.any_nil, Bool.or_false, Bool.or_eq_true, beq_iff_eq] at h1
    cases beq_iff_eq.mp h2
    cases h
    rcases h1 with rfl | rfl | rfl | rfl | rfl | rfl | rfl | rfl <;> decide +kernel
  · cases h
noncomputable def SV.int? : SV → Option Int
  | .v (.int a _) => some a
  | _ => none
noncomputable def SV.eqInt (v : SV) (b : Int) : Option Bool := match v with
  | .v (.int a _) => some (a == b)
  | .v .none => some false
  | .v (.str _ _) => some false
  | _ => none
noncomputable def intC : Const → Option Int
  | .int a => some a
  | _ => none
/-- a comparison with a written constant -/
noncomputable def cmpLit (op : CmpOp) (v : SV) (d : Const) : Option Bool := match op with
  | .Eq => match intC d with
    | some b => v.eqInt b
    | none => v.str?.bind fun x => (strC d).bind fun y => some (x == y)
  | .NotEq => v.str?.bind fun x => (strC d).bind fun y => some (x != y)
  | .In => v.str?.bind fun y => (strC d).bind fun x => inStr y x
  | .Lt => v.int?.bind fun a => (intC d).bind fun b => some (decide (a < b))
  | .Is => match d with
    | .none => some (v.val == .none)
    | _ => none
  | _ => none
noncomputable def opOk : CmpOp → Bool
  | .Eq | .NotEq | .In | .Lt | .Is => true
  | _ => false
noncomputable def cmpIn (op : CmpOp) (v : SV) (ys : List Str) : Option Bool := match op with
  | .In => v.str?.bind fun x => some (ys.any (· == x))
  | .NotIn => v.str?.bind fun x => some (!(ys.any (· == x)))
  | _ => none
noncomputable def idxOf (e : PySem.Expr) : Option Nat := (cstOf e).bind fun d => (natC d).bind fun j => match Nat.ble j 8 with
  | true => some j
  | false => none
noncomputable def isSl (e : PySem.Expr) : Bool := match sh e with
  | .sl => true
  | _ => false
noncomputable def isStar (e : PySem.Expr) : Bool := match sh e with
  | .star => true
  | _ => false
noncomputable def noComp (e : PySem.Expr) : Bool := match sh e with
  | .comp => false
  | _ => true
noncomputable def isNot : UnaryOp → Bool
  | .Not => true
  | _ => false
noncomputable def goesOn : PySem.BoolOp → Bool → Bool
  | .And, b => b
  | .Or, b => !b
noncomputable def plainArgs : List PySem.Expr → Bool
  | [] => true
  | e :: es => !isStar e && plainArgs es
/-- a name of the module that no local hides -/
noncomputable def globOf (cs : Scope) (vars : Vars) (e : PySem.Expr) : Option Value := match sh e with
  | .nm x => match cs.names.lookup x, vars.lookup x with
    | some .globalImplicit, none => (match glob.find? (·.1 == x) with
      | some y => some y.2
      | none => (bglob.find? (·.1 == x)).bind fun y => some y.2)
    | _, _ => none
  | _ => none
noncomputable def callOf (cs : Scope) (vars : Vars) (f : PySem.Expr) (as : List PySem.Expr) (kws : List Keyword) : Option Value := match as, kws with
  | _ :: _, [] => match plainArgs as with
    | true => globOf cs vars f
    | false => none
  | _, _ => none
noncomputable def cmp1 : List CmpOp → List PySem.Expr → Option (CmpOp × PySem.Expr)
  | [op], [r] => match cstOf r with
    | some _ => match opOk op with
      | true => some (op, r)
      | false => none
    | none => (strsOf r).bind fun ys => (cmpIn op (.v (.str (Str.ofString "") 0)) ys).bind fun _ => some (op, r)
  | _, _ => none
noncomputable def nameTo (cs : Scope) : List PySem.Expr → PySem.Expr → Option Str
  | [t], e => match sh t, noComp e with
    | .nm x, true => match cs.names.lookup x, (x == ("__debug__" : Str)) with
      | some .local, false => some x
      | _, _ => none
    | _, _ => none
  | _, _ => none
noncomputable def vcS (c : Cx) (cs : Scope) (cv : List (Str × Value)) (go : Vars → Led → Rq → Prop) (vars : Vars) (led : Led) : Rq → Prop
  | .E e k => match e with
    | .Name x p => orR (vars.lookup x) (fun v => k v led) (orR (cv.lookup x) (fun v => k (.v v) led) (orR (globOf cs vars (.Name x p)) (fun g => k (.v g) led) (RawE c cs cv vars led (.Name x p) k)))
    | .Constant d _ _ => match d with
      | .str y => ∀ t, k (.v (.str y t)) led
      | .int i => ∀ t, k (.v (.int i t)) led
      | .bool b => k (.v (.bool b)) led
      | .none => k (.v .none) led
      | _ => False
    | .Tuple es _ _ => go vars led (.Es es fun vs led' => onB (Nat.ble vs.length 64) (∀ D, (∀ p ∈ led', p.1 < D) → k (.tup D vs) ((D, tupOf (vs.map SV.val).toArray 0) :: led')) False)
    | .List es _ => go vars led (.Es es fun vs led' => onB (Nat.ble vs.length 64) (∀ D, (∀ p ∈ led', p.1 < D) → k (.v (.ref D)) ((D, listOf (vs.map SV.val).toArray 0) :: led')) False)
    | .Subscript e i pos => orR (idxOf i) (fun j => go vars led (.E e fun v led' => orR v.its? (fun its => onS its[j]? fun x => k x led') (SubP c vars led' e i v j k))) (onB (isSl i) (RawE c cs cv vars led (.Subscript e i pos) k) (go vars led (.E e fun v led' => go vars led' (.E i fun w led'' => SubW c vars led'' e i v w k))))
    | .Compare l ops rs pos => orR (cmp1 ops rs) (fun y => go vars led (.C l y.1 y.2 fun b => k (.v (.bool b)))) (RawE c cs cv vars led (.Compare l ops rs pos) k)
    | .BoolOp op es _ => go vars led (.Bo op es k)
    | .IfExp t a b _ => go vars led (.B t fun x led' => onB x (go vars led' (.E a k)) (go vars led' (.E b k)))
    | .Call f as kws pos => orR (callOf cs vars f as kws) (fun g => go vars led (.Es as fun vs led' => CallP c vars led' g vs k)) (RawE c cs cv vars led (.Call f as kws pos) k)
    | .BinOp l op r _ => go vars led (.E l fun a led' => go vars led' (.E r fun b led'' => AddP c vars led'' op a b k))
    | e => RawE c cs cv vars led e k
  | .B e k => match e with
    | .BoolOp op es _ => go vars led (.Bb op es k)
    | .UnaryOp op x _ => onB (isNot op) (go vars led (.B x fun b led' => k (!b) led')) False
    | .Compare l ops rs pos => orR (cmp1 ops rs) (fun y => go vars led (.C l y.1 y.2 k)) (RawB c cs cv vars led (.Compare l ops rs pos) k)
    | .Name x p => go vars led (.E (.Name x p) fun v led' => onS v.bool? fun b => k b led')
    | .Call f as kws pos => go vars led (.E (.Call f as kws pos) fun v led' => onS v.bool? fun b => k b led')
    | e => RawB c cs cv vars led e k
  | .Bb op es k => match es with
    | [] => k (goesOn op true) led
    | e :: es => go vars led (.B e fun b led' => onB (goesOn op b) (go vars led' (.Bb op es k)) (k b led'))
  | .Bo op es k => match es with
    | [] => False
    | e :: es => match es with
      | [] => go vars led (.E e k)
      | e2 :: es => go vars led (.E e fun v led' => onS v.bool? fun b => onB (goesOn op b) (go vars led' (.Bo op (e2 :: es) k)) (k (.v (.bool b)) led'))
  | .C l op r k => orR (cstOf r) (fun d => go vars led (.E l fun v led' => onS (cmpLit op v d) fun b => k b led'))
      (onS (strsOf r) fun ys => go vars led (.E l fun v led' => onS (cmpIn op v ys) fun b => k b led'))
  | .Es es k => match es with
    | [] => k [] led
    | e :: es => onB (!isStar e) (go vars led (.E e fun v led' => go vars led' (.Es es fun vs led'' => k (v :: vs) led''))) False
  | .X ss k => match ss with
    | [] => k .next vars led
    | s :: rest => match s with
      | .Assign ts e pos => orR (nameTo cs ts e) (fun x => go vars led (.E e fun v led' => go ((x, v) :: vars) led' (.X rest k)))
          (RawX c cs cv vars led (.Assign ts e pos) fun f vars' led' => thenK f (go vars' led' (.X rest k)) (k f vars' led'))
      | .Return o _ => match o with
        | some e => go vars led (.E e fun v led' => k (.ret v) vars led')
        | none => k (.ret (.v .none)) vars led
      | .If t a b _ => go vars led (.B t fun x led' => go vars led' (.X (cond x a b) fun f vars' led'' => thenK f (go vars' led'' (.X rest k)) (k f vars' led'')))
      | .Expr e _ => onB (noComp e) (go vars led (.E e fun _ led' => go vars led' (.X rest k))) False
      | .Continue _ => k .cont vars led
      | s => RawX c cs cv vars led s fun f vars' led' => thenK f (go vars' led' (.X rest k)) (k f vars' led')
noncomputable def vc (c : Cx) (cs : Scope) (cv : List (Str × Value)) (n : Nat) : Vars → Led → Rq → Prop := Nat.rec (motive := fun _ => Vars → Led → Rq → Prop) (fun _ _ _ => False) (fun _ go => vcS c cs cv go) n
end P_V1

section P_V2
open PySem PySem.W PyProof.Rows PySem.Calls PySem.Spec
set_option maxRecDepth 100000
noncomputable def Rq.Sem (c : Cx) (cs : Scope) (cv : List (Str × Value)) (vars : Vars) (led : Led) : Rq → Prop
  | .E e k => WpV c vars led (eval e (c.env cs)) k
  | .B e k => WpT c vars led (isTrue e (c.env cs) (eval e (c.env cs))) k
  | .Bo op es k => ∀ pos, WpV c vars led (eval (.BoolOp op es pos) (c.env cs)) k
  | .Bb op es k => ∀ pos whole, WpT c vars led (isTrue (.BoolOp op es pos) (c.env cs) whole) k
  | .C l op r k => ∀ hp tk (Q : Value → Shared → Prop), Fr c.h₀ c.L hp (lk vars) → News c.h₀ c.L hp led →
      (∀ b led' hp' tk', Fr c.h₀ c.L hp' (lk vars) → News c.h₀ c.L hp' led' → Keeps led led' → k b led' → Q (.bool b) ⟨hp', c.gs, c.dr, tk', c.os⟩) →
      wpAny (model PySem.Challenge.rw_pf0366_01.row.prog c.w) c.A (eval l (c.env cs)) (fun a s₁ => wpAny (model PySem.Challenge.rw_pf0366_01.row.prog c.w) c.A (eval r (c.env cs)) (fun b s₂ =>
        wpAny (model PySem.Challenge.rw_pf0366_01.row.prog c.w) c.A (compareOp op a b) Q c.E s₂) c.E s₁) c.E ⟨hp, c.gs, c.dr, tk, c.os⟩
  | .Es es k => ∀ pos, WpT c vars led (spliced (backTo pos (starEach es (c.env cs)))) fun vs led' => ∃ xs : List SV, xs.map SV.val = vs ∧ (∀ x ∈ xs, x.Ok led') ∧ k xs led'
  | .X ss k => WpX c cs cv vars led (execs ss (c.env cs)) k
structure Rdy (c : Cx) (cs : Scope) : Prop where
  kind : cs.kind = .function
  X : (hd.heap_1 c.w.params).In c.h₀
  T : ∃ p loose mg mb, TopRead p loose mg mb c.h₀
noncomputable def SndG (c : Cx) (cs : Scope) (cv : List (Str × Value)) (go : Vars → Led → Rq → Prop) : Prop := ∀ vars led r, VarsOk c cs cv vars led → go vars led r → r.Sem c cs cv vars led
noncomputable def ShOut (e : PySem.Expr) : Sh → Prop
  | .nm x => ∃ p, e = .Name x p
  | .cst d => ∃ k p, e = .Constant d k p
  | .tup es => ∃ k p, e = .Tuple es k p
  | _ => True
theorem sh_out (e : PySem.Expr) : ShOut e (sh e) := by
  cases e <;> first | exact ⟨_, rfl⟩ | exact ⟨_, _, rfl⟩ | exact True.intro
theorem sh_nm {e : PySem.Expr} {x : Str} (h : sh e = .nm x) : ∃ p, e = .Name x p := (congrArg (ShOut e) h).mp (sh_out e)
theorem sh_cst {e : PySem.Expr} {d : Const} (h : sh e = .cst d) : ∃ k p, e = .Constant d k p := (congrArg (ShOut e) h).mp (sh_out e)
theorem sh_tup {e : PySem.Expr} {es : List PySem.Expr} (h : sh e = .tup es) : ∃ k p, e = .Tuple es k p := (congrArg (ShOut e) h).mp (sh_out e)
theorem star_no {e : PySem.Expr} {es : List PySem.Expr} (env : Env) (h : (!isStar e) = true) : starEach (e :: es) env = (false, eval e env) :: starEach es env := by
  cases e <;> first | rfl | cases h
theorem no_swap {e : PySem.Expr} (h : noComp e = true) (t : Option PySem.Expr) (l : Nat) (env : Env) : swapsWith e t l env = pure false := by
  cases e <;> first | rfl | cases h
theorem bind_out {α β : Type} {o : Option α} {f : α → Option β} {b : β} (h : o.bind f = some b) : ∃ a, o = some a ∧ f a = some b := by
  cases o with
  | none => cases h
  | some a => exact ⟨a, rfl, h⟩
theorem cstOf_out {e : PySem.Expr} {d : Const} (h : cstOf e = some d) : ∃ k p, e = .Constant d k p := by
  unfold cstOf at h
  cases hs : sh e with
  | cst d' => rw [hs] at h; cases h; exact sh_cst hs
  | _ => rw [hs] at h; cases h
theorem strC_out {d : Const} {y : Str} (h : strC d = some y) : d = .str y := by
  cases d <;> cases h; rfl
theorem str_out {v : SV} {x : Str} (h : v.str? = some x) : ∃ t, v = .v (.str x t) := by
  cases v with
  | tup a its => cases h
  | v u => cases u <;> cases h; exact ⟨_, rfl⟩
theorem bool_out {v : SV} {b : Bool} (h : v.bool? = some b) : v = .v (.bool b) := by
  cases v with
  | tup a its => cases h
  | v u => cases u <;> cases h; rfl
theorem int_out {v : SV} {a : Int} (h : v.int? = some a) : ∃ t, v = .v (.int a t) := by
  cases v with
  | tup a its => cases h
  | v u => cases u <;> cases h; exact ⟨_, rfl⟩
theorem intC_out {d : Const} {a : Int} (h : intC d = some a) : d = .int a := by
  cases d <;> cases h; rfl
theorem its_out {v : SV} {its : List SV} (h : v.its? = some its) : ∃ a, v = .tup a its := by
  cases v with
  | tup a its => cases h; exact ⟨_, rfl⟩
  | v u => cases h
theorem natC_out {d : Const} {i : Nat} (h : natC d = some i) : d = .int (i : Int) := by
  cases d with
  | int z => cases z with
    | ofNat j => cases h; rfl
    | negSucc j => cases h
  | _ => cases h
theorem idxOf_out {e : PySem.Expr} {j : Nat} (h : idxOf e = some j) : ∃ k p, e = .Constant (.int (j : Int)) k p ∧ j ≤ 8 := by
  obtain ⟨d, hd9, h2⟩ := bind_out h
  obtain ⟨i, hi, h3⟩ := bind_out h2
  clear h h2
  obtain ⟨k, p, rfl⟩ := cstOf_out hd9
  have hd8 : d = .int (i : Int) := natC_out hi
  subst hd8
  cases hb : Nat.ble i 8 with
  | true =>
    rw [hb] at h3
    cases h3
    exact ⟨k, p, rfl, Nat.le_of_ble_eq_true hb⟩
  | false => rw [hb] at h3; cases h3
@[elab_as_elim] theorem svx (v : Value) {led : Led} {k : SV → Prop} (h : ∃ x : SV, x.val = v ∧ x.Ok led ∧ k x) {P : Value → Prop} (f : ∀ x : SV, x.Ok led → k x → P x.val) : P v := by
  obtain ⟨x, rfl, a, b⟩ := h
  exact f x a b
@[elab_as_elim] theorem esx (vs : List Value) {led : Led} {k : List SV → Prop} (h : ∃ xs : List SV, xs.map SV.val = vs ∧ (∀ x ∈ xs, x.Ok led) ∧ k xs) {P : List Value → Prop} (f : ∀ xs : List SV, (∀ x ∈ xs, x.Ok led) → k xs → P (xs.map SV.val)) : P vs := by
  obtain ⟨x, rfl, a, b⟩ := h
  exact f x a b
theorem onS.el {α : Type} {o : Option α} {f : α → Prop} (h : onS o f) {P : Prop} (g : ∀ a, o = some a → f a → P) : P := by
  obtain ⟨a, b, c⟩ := h.out
  exact g a b c
@[elab_as_elim] theorem onS.bool (v : SV) {f : Bool → Prop} (h : onS v.bool? f) {P : SV → Prop} (g : ∀ b, f b → P (.v (.bool b))) : P v := by
  obtain ⟨b, hb, h⟩ := h.out
  cases bool_out hb
  exact g b h
theorem bind_el {α β : Type} {o : Option α} {f : α → Option β} {b : β} (h : o.bind f = some b) {P : Prop} (g : ∀ a, o = some a → f a = some b → P) : P := by
  obtain ⟨a, h1, h2⟩ := bind_out h
  exact g a h1 h2
@[elab_as_elim] theorem str_el {v : SV} {x : Str} (h : v.str? = some x) {P : SV → Prop} (g : ∀ t, P (.v (.str x t))) : P v := by
  obtain ⟨t, rfl⟩ := str_out h
  exact g t
@[elab_as_elim] theorem int_el {v : SV} {x : Int} (h : v.int? = some x) {P : SV → Prop} (g : ∀ t, P (.v (.int x t))) : P v := by
  obtain ⟨t, rfl⟩ := int_out h
  exact g t
@[elab_as_elim] theorem strC_el {d : Const} {y : Str} (h : strC d = some y) {P : Const → Prop} (g : P (.str y)) : P d := strC_out h ▸ g
@[elab_as_elim] theorem intC_el {d : Const} {y : Int} (h : intC d = some y) {P : Const → Prop} (g : P (.int y)) : P d := intC_out h ▸ g
@[elab_as_elim] theorem cst_el {e : PySem.Expr} {d : Const} (h : cstOf e = some d) {P : PySem.Expr → Prop} (g : ∀ k p, P (.Constant d k p)) : P e := by
  obtain ⟨k, p, rfl⟩ := cstOf_out h
  exact g k p
theorem orR.el {α : Type} {o : Option α} {f : α → Prop} {r : Prop} (h : orR o f r) {P : Prop} (g : ∀ a, o = some a → f a → P) (g2 : r → P) : P := by
  rcases h.out with ⟨a, b, c⟩ | h
  · exact g a b c
  · exact g2 h
section
variable {c : Cx} {cs : Scope} {cv : List (Str × Value)} {vars : Vars} {led : Led} {go : Vars → Led → Rq → Prop}
theorem plain_any {pos : Pos} {env : Env} : ∀ {es : List PySem.Expr}, plainArgs es = true → (backTo pos (starEach es env)).any (·.1) = false
  | [], _ => rfl
  | e :: es, h => by
    obtain ⟨h1, h2⟩ := Bool.and_eq_true_iff.mp h
    rw [star_no env h1]
    exact plain_any h2
theorem snd_Es (I : SndG c cs cv go) (V : VarsOk c cs cv vars led) {es : List PySem.Expr} {k : List SV → Led → Prop} (h : vcS c cs cv go vars led (.Es es k)) : Rq.Sem c cs cv vars led (.Es es k) := by
  intro pos hp tk Q F N hQ
  cases es with
  | nil => exact args_nil (hQ _ _ _ _ F N .rfl ⟨[], rfl, fun _ hx => (nomatch hx), h⟩)
  | cons e es =>
    obtain ⟨hs, h⟩ := onB.out h
    refine args_cons (I _ _ (.E ..) V h hp tk _ F N fun v led' hp' tk' F' N' K' hv => ?_) (star_no _ hs)
    obtain ⟨x, rfl, ok, hx⟩ := hv
    refine I _ _ (.Es ..) (V.keep K') hx pos hp' tk' _ F' N' fun vs led'' hp'' tk'' F'' N'' K'' hv => ?_
    obtain ⟨xs, rfl, oks, hxs⟩ := hv
    exact hQ _ _ _ _ F'' N'' (K'.trans K'') ⟨x :: xs, rfl, fun y hy => (List.mem_cons.mp hy).elim (fun e => e ▸ ok.keep K'') (oks y), hxs⟩
theorem snd_Bb (I : SndG c cs cv go) (V : VarsOk c cs cv vars led) {op : PySem.BoolOp} {es : List PySem.Expr} {k : Bool → Led → Prop} (h : vcS c cs cv go vars led (.Bb op es k)) : Rq.Sem c cs cv vars led (.Bb op es k) := by
  intro pos whole hp tk Q F N hQ
  cases es with
  | nil => cases op with
    | And => exact isTrue_and_nil (hQ _ _ _ _ F N .rfl h)
    | Or => exact isTrue_or_nil (hQ _ _ _ _ F N .rfl h)
  | cons e es =>
    have both : ∀ {b : Bool} {led' : Led} {hp' : Heap} {tk' : Nat}, Fr c.h₀ c.L hp' (lk vars) → News c.h₀ c.L hp' led' → Keeps led led' → go vars led' (.Bb op es k) →
        wpAny (model PySem.Challenge.rw_pf0366_01.row.prog c.w) c.A (isTrue (.BoolOp op es pos) (c.env cs) whole) Q c.E ⟨hp', c.gs, c.dr, tk', c.os⟩ :=
      fun F' N' K' hb => I _ _ (.Bb ..) (V.keep K') hb pos whole _ _ _ F' N' fun b led'' hp'' tk'' F'' N'' K'' hb => hQ _ _ _ _ F'' N'' (K'.trans K'') hb
    cases op with
    | And =>
      refine isTrue_and (I _ _ (.B ..) V h hp tk _ F N fun b led' hp' tk' F' N' K' hb => ?_)
      cases b with
      | false => exact hQ _ _ _ _ F' N' K' hb
      | true => exact both (b := true) F' N' K' hb
    | Or =>
      refine isTrue_or (I _ _ (.B ..) V h hp tk _ F N fun b led' hp' tk' F' N' K' hb => ?_)
      cases b with
      | true => exact hQ _ _ _ _ F' N' K' hb
      | false => exact both (b := true) F' N' K' hb
theorem snd_Bo (I : SndG c cs cv go) (V : VarsOk c cs cv vars led) {op : PySem.BoolOp} {es : List PySem.Expr} {k : SV → Led → Prop} (h : vcS c cs cv go vars led (.Bo op es k)) : Rq.Sem c cs cv vars led (.Bo op es k) := by
  intro pos hp tk Q F N hQ
  cases es with
  | nil => exact h.elim
  | cons e es => cases es with
    | nil => exact BoolOp_one (I _ _ (.E ..) V h hp tk Q F N hQ)
    | cons e2 es =>
      have both : ∀ {led' : Led} {hp' : Heap} {tk' : Nat}, Fr c.h₀ c.L hp' (lk vars) → News c.h₀ c.L hp' led' → Keeps led led' → go vars led' (.Bo op (e2 :: es) k) →
          wpAny (model PySem.Challenge.rw_pf0366_01.row.prog c.w) c.A (eval (.BoolOp op (e2 :: es) pos) (c.env cs)) Q c.E ⟨hp', c.gs, c.dr, tk', c.os⟩ :=
        fun F' N' K' hb => I _ _ (.Bo ..) (V.keep K') hb pos _ _ _ F' N' fun b led'' hp'' tk'' F'' N'' K'' hb => hQ _ _ _ _ F'' N'' (K'.trans K'') hb
      cases op with
      | And =>
        refine BoolOp_and (I _ _ (.E ..) V h hp tk _ F N fun v led' hp' tk' F' N' K' hv => ?_)
        obtain ⟨x, rfl, ok, hx⟩ := hv
        obtain ⟨b, hb, hx⟩ := onS.out hx
        cases bool_out hb
        refine wpAny_truthy_bool ?_
        cases b with
        | true => exact both F' N' K' hx
        | false => exact hQ _ _ _ _ F' N' K' ⟨_, rfl, .v, hx⟩
      | Or =>
        refine BoolOp_or (I _ _ (.E ..) V h hp tk _ F N fun v led' hp' tk' F' N' K' hv => ?_)
        obtain ⟨x, rfl, ok, hx⟩ := hv
        obtain ⟨b, hb, hx⟩ := onS.out hx
        cases bool_out hb
        refine wpAny_truthy_bool ?_
        cases b with
        | false => exact both F' N' K' hx
        | true => exact hQ _ _ _ _ F' N' K' ⟨_, rfl, .v, hx⟩
theorem strs_of {env : Env} {es : List PySem.Expr} : ∀ {ys : List Str}, litStrs es = some ys → ∀ {M : Model} {A : Around} {E : Value → Shared → Prop} {pos : Pos} {hp : Heap} {gs : Array GenState} {dr : Drawn} {os : OsState} {tk : Nat} {Q : List Value → Shared → Prop},
    (∀ vs tk', StrsAre vs ys → Q vs ⟨hp, gs, dr, tk', os⟩) → wpAny M A (spliced (backTo pos (starEach es env))) Q E ⟨hp, gs, dr, tk, os⟩ := by
  induction es with
  | nil =>
    intro ys h M A E pos hp gs dr os tk Q hQ
    cases h
    exact args_nil (hQ _ _ .nil)
  | cons e es ih =>
    intro ys h M A E pos hp gs dr os tk Q hQ
    obtain ⟨d, h1, g1⟩ := bind_out h
    obtain ⟨y, h2, g2⟩ := bind_out g1
    obtain ⟨zs, h3, g3⟩ := bind_out g2
    clear h g1 g2
    obtain ⟨kk, pp, rfl⟩ := cstOf_out h1
    cases strC_out h2
    cases g3
    exact args_cons (Constant_str (ih h3 fun vs tk' hv => hQ _ _ (.cons _ _ hv))) rfl
theorem StrsAre_len {vs : List Value} {ys : List Str} (h : StrsAre vs ys) : vs.length = ys.length := by
  induction h with
  | nil => rfl
  | cons _ _ _ ih => rw [List.length_cons, List.length_cons, ih]
theorem strsOf_out {r : PySem.Expr} {ys : List Str} (h : strsOf r = some ys) : ∃ es k p, r = .Tuple es k p ∧ litStrs es = some ys ∧ ys.length ≤ 64 := by
  unfold strsOf at h
  cases hs : sh r with
  | tup es =>
    rw [hs] at h
    obtain ⟨zs, h1, h2⟩ := bind_out h
    clear h
    cases hb : Nat.ble zs.length 64 with
    | true =>
      rw [hb] at h2
      cases h2
      obtain ⟨k, p, e⟩ := sh_tup hs
      exact ⟨es, k, p, e, h1, Nat.le_of_ble_eq_true hb⟩
    | false => rw [hb] at h2; cases h2
  | _ => rw [hs] at h; cases h
theorem cps_beq {x y : Str} : (x == y) = (x.cps.toList == y.cps.toList) := by
  rw [Bool.eq_iff_iff, beq_iff_eq, beq_iff_eq]
  cases x; cases y
  simp only [Str.mk.injEq]
  exact Array.toList_inj.symm
theorem cps_bne {x y : Str} : (x != y) = (x.cps.toList != y.cps.toList) := by
  rw [bne, bne, cps_beq]
section
variable {w : World} {A : Around} {E Q : Value → Shared → Prop} {env : Env} {hp : Heap} {gs : Array GenState} {dr : Drawn} {os : OsState} {tk : Nat} {b : Bool}
theorem eqInt_ok {x : SV} {b0 : Int} {kk : Nat} {pp : Pos} (hb : x.eqInt b0 = some b) (hQ : ∀ tk', Q (.bool b) ⟨hp, gs, dr, tk', os⟩) :
    wpAny (model PySem.Challenge.rw_pf0366_01.row.prog w) A (eval (.Constant (.int b0) kk pp) env) (fun v s₂ => wpAny (model PySem.Challenge.rw_pf0366_01.row.prog w) A (compareOp .Eq x.val v) Q E s₂) E ⟨hp, gs, dr, tk, os⟩ := by
  cases x with
  | tup _ _ => cases hb
  | v u =>
    cases u with
    | none => cases hb; exact wpAny_Constant_int (EqNone.eq_none_int (hQ _))
    | int a t => cases hb; exact wpAny_Constant_int (PyProof.Rows.eq_int (hQ _))
    | str a t => cases hb; exact wpAny_Constant_int (EqMixed.eq_str_int (hQ _))
    | _ => cases hb
theorem cmpLit_ok {op : CmpOp} {x : SV} {d : Const} {kk : Nat} {pp : Pos} (hb : cmpLit op x d = some b) (hQ : ∀ tk', Q (.bool b) ⟨hp, gs, dr, tk', os⟩) :
    wpAny (model PySem.Challenge.rw_pf0366_01.row.prog w) A (eval (.Constant d kk pp) env) (fun v s₂ => wpAny (model PySem.Challenge.rw_pf0366_01.row.prog w) A (compareOp op x.val v) Q E s₂) E ⟨hp, gs, dr, tk, os⟩ := by
  cases op with
  | Eq =>
    cases hi : intC d with
    | some b0 =>
      have hb : x.eqInt b0 = some b := by simpa only [cmpLit, hi] using hb
      cases intC_out hi
      exact eqInt_ok hb hQ
    | none =>
      have hb : (x.str?.bind fun x => (strC d).bind fun y => some (x == y)) = some b := by simpa only [cmpLit, hi] using hb
      refine bind_el hb fun z hz hb => ?_
      refine bind_el hb fun y hy hb => ?_
      refine str_el hz fun t => ?_
      refine strC_el hy ?_
      cases hb
      exact Constant_str (P.eq_str (cps_beq ▸ hQ _))
  | Lt =>
    refine bind_el hb fun z hz hb => ?_
    refine bind_el hb fun y hy hb => ?_
    refine int_el hz fun t => ?_
    refine intC_el hy ?_
    cases hb
    exact wpAny_Constant_int (PyProof.Rows.lt_int (hQ _))
  | NotEq =>
    refine bind_el hb fun z hz hb => ?_
    refine bind_el hb fun y hy hb => ?_
    refine str_el hz fun t => ?_
    refine strC_el hy ?_
    cases hb
    exact Constant_str (P.ne_str (cps_bne ▸ hQ _))
  | In =>
    refine bind_el hb fun z hz hb => ?_
    refine bind_el hb fun y hy hb => ?_
    refine str_el hz fun t => ?_
    refine strC_el hy ?_
    exact Constant_str (P.in_str (inStr_ok hb ▸ hQ _))
  | Is =>
    cases d with
    | none => cases hb; exact PyProof.Rows.Constant_none (is_none_gen (hQ _))
    | _ => cases hb
  | _ => cases hb
theorem cmpIn_ok {op : CmpOp} {x : SV} {ys : List Str} {D : Addr} {vs : List Value} (hb : cmpIn op x ys = some b) (T : IsTup hp D vs.toArray) (hs : StrsAre vs ys) (hQ : ∀ tk', Q (.bool b) ⟨hp, gs, dr, tk', os⟩) :
    wpAny (model PySem.Challenge.rw_pf0366_01.row.prog w) A (compareOp op x.val (.ref D)) Q E ⟨hp, gs, dr, tk, os⟩ := by
  cases op with
  | In =>
    refine bind_el hb fun z hz hb => ?_
    refine str_el hz fun t => ?_
    cases hb
    exact in_tuple_strs T (show StrsAre vs.toArray.toList ys from hs) (hQ _)
  | NotIn =>
    refine bind_el hb fun z hz hb => ?_
    refine str_el hz fun t => ?_
    cases hb
    exact notin_tuple_strs T (show StrsAre vs.toArray.toList ys from hs) (hQ _)
  | _ => cases hb
end
theorem snd_C (I : SndG c cs cv go) (V : VarsOk c cs cv vars led) {l : PySem.Expr} {op : CmpOp} {r : PySem.Expr} {k : Bool → Led → Prop} (h : vcS c cs cv go vars led (.C l op r k)) : Rq.Sem c cs cv vars led (.C l op r k) := by
  intro hp tk Q F N hQ
  refine orR.el h (fun d hd9 h => ?_) fun h => onS.el h fun ys hys h => ?_
  · refine cst_el hd9 fun kk pp => ?_
    refine I _ _ (.E ..) V h hp tk _ F N fun v led' hp' tk' F' N' K' hv => ?_
    refine svx v hv fun x ok hx => ?_
    refine onS.el hx fun b hb hx => ?_
    exact cmpLit_ok hb fun tk'' => hQ _ _ _ tk'' F' N' K' hx
  · refine I _ _ (.E ..) V h hp tk _ F N fun v led' hp' tk' F' N' K' hv => ?_
    refine svx v hv fun x ok hx => ?_
    refine onS.el hx fun b hb hx => ?_
    obtain ⟨es, kk, pp, rfl, hl, hle⟩ := strsOf_out hys
    exact Tuple_ (strs_of hl fun vs tk'' hs => kup_newTuple F' N' (fun D h' F'' N'' lt => cmpIn_ok hb (News.isTup N'' (.head _)) hs fun tk'' => hQ _ _ _ tk'' F'' (fun p hp => N'' p (.tail _ hp)) K' hx) (Nat.le_trans (StrsAre_len hs ▸ hle : vs.length ≤ 64) (by decide)))
theorem cmp1_out {ops : List CmpOp} {rs : List PySem.Expr} {y : CmpOp × PySem.Expr} (h : cmp1 ops rs = some y) : ops = [y.1] ∧ rs = [y.2] ∧ behindInMarks y.1 y.2 = false := by
  cases ops with
  | nil => cases h
  | cons op ops => cases ops with
    | cons _ _ => cases rs <;> cases h
    | nil => cases rs with
      | nil => cases h
      | cons r rs => cases rs with
        | cons _ _ => cases h
        | nil =>
          cases hc : cstOf r with
          | some d =>
            have : y = (op, r) := by
              cases ho : opOk op with
              | true => simp only [cmp1, hc, ho] at h; cases h; rfl
              | false => simp only [cmp1, hc, ho] at h; cases h
            subst this
            obtain ⟨_, _, rfl⟩ := cstOf_out hc
            exact ⟨rfl, rfl, rfl⟩
          | none =>
            have h2 : ((strsOf r).bind fun ys => (cmpIn op (.v (.str (Str.ofString "") 0)) ys).bind fun _ => some (op, r)) = some y := by simpa only [cmp1, hc] using h
            obtain ⟨ys, hs, h3⟩ := bind_out h2
            obtain ⟨_, _, h4⟩ := bind_out h3
            clear h h2 h3
            cases h4
            obtain ⟨_, _, _, rfl, _⟩ := strsOf_out hs
            exact ⟨rfl, rfl, rfl⟩
theorem rawB (V : VarsOk c cs cv vars led) {e : PySem.Expr} {k : Bool → Led → Prop} (h : RawB c cs cv vars led e k) : Rq.Sem c cs cv vars led (.B e k) := match h with
  | .of h => h V
theorem plainB (I : SndG c cs cv go) (V : VarsOk c cs cv vars led) {e : PySem.Expr} {k : Bool → Led → Prop} (he : isTrue e (c.env cs) (eval e (c.env cs)) = (do let v ← eval e (c.env cs); standAt e.pos; holding [v] (truthy v))) (h : go vars led (.E e fun v led' => onS v.bool? fun b => k b led')) : Rq.Sem c cs cv vars led (.B e k) :=
  fun hp tk Q F N hQ => by
    refine isTrue_plain (I _ _ (.E ..) V h hp tk _ F N fun v led' hp' tk' F' N' K' hv => ?_) he
    refine svx v hv fun x ok hx => ?_
    refine onS.bool x hx fun b hx => ?_
    exact wpAny_truthy_bool (hQ _ _ _ _ F' N' K' hx)
theorem snd_B (I : SndG c cs cv go) (V : VarsOk c cs cv vars led) {e : PySem.Expr} {k : Bool → Led → Prop} (h : vcS c cs cv go vars led (.B e k)) : Rq.Sem c cs cv vars led (.B e k) := by
  cases e with
  | BoolOp op es pos => exact fun hp tk Q F N hQ => I _ _ (.Bb ..) V h pos _ hp tk Q F N hQ
  | UnaryOp op x pos =>
    cases op with
    | Not => exact fun hp tk Q F N hQ => isTrue_not (I _ _ (.B ..) V h hp tk _ F N fun b led' hp' tk' F' N' K' hb => hQ _ _ _ _ F' N' K' hb)
    | _ => exact h.elim
  | Compare l ops rs pos =>
    refine orR.el h (fun y hy hh => ?_) (rawB V)
    obtain ⟨rfl, rfl, hm⟩ := cmp1_out hy
    exact fun hp tk Q F N hQ => wpAny_isTrue_Compare1 (I _ _ (.C ..) V hh hp tk (fun v s => wpAny _ _ (truthy v) Q _ s) F N fun b led' hp' tk' F' N' K' hb => wpAny_truthy_bool (hQ _ _ _ _ F' N' K' hb)) hm
  | Name x p => exact plainB I V rfl h
  | Call f as kws pos => exact plainB I V rfl h
  | _ => exact rawB V h
/-- a name of the module's, or a built-in one: its value, and its call -/
structure Gl (c : Cx) (cs : Scope) (vars : Vars) (f : PySem.Expr) (g : Value) : Prop where
  nm : ∃ x p, f = .Name x p
  ev : ∀ {hp : Heap} {tk : Nat} {Q : Value → Shared → Prop}, Fr c.h₀ c.L hp (lk vars) → Q g ⟨hp, c.gs, c.dr, tk, c.os⟩ → wpAny (model PySem.Challenge.rw_pf0366_01.row.prog c.w) c.A (eval f (c.env cs)) Q c.E ⟨hp, c.gs, c.dr, tk, c.os⟩
  cw : ∀ {pos : Pos} {e : PySem.Expr} {es : List PySem.Expr} {Q : Value → Shared → Prop} {s : Shared}, starEach (e :: es) (c.env cs) = (false, eval e (c.env cs)) :: starEach es (c.env cs) → (backTo pos (starEach es (c.env cs))).any (·.1) = false →
    wpAny (model PySem.Challenge.rw_pf0366_01.row.prog c.w) c.A (spliced (backTo pos (starEach (e :: es) (c.env cs)))) (fun vs s₁ => (hd.heap_1 c.w.params).In s₁.heap ∧ wpAny (model PySem.Challenge.rw_pf0366_01.row.prog c.w) c.A (call g vs) Q c.E s₁) c.E s →
    wpAny (model PySem.Challenge.rw_pf0366_01.row.prog c.w) c.A (callWith pos g [] (backTo pos (starEach (e :: es) (c.env cs))) []) Q c.E s
theorem glob_of (R : Rdy c cs) {f : PySem.Expr} {g : Value} (h : globOf cs vars f = some g) : Gl c cs vars f g := by
  obtain ⟨q, lo, mg, mb, T⟩ := R.T
  unfold globOf at h
  split at h
  · rename_i x hx
    obtain ⟨p, rfl⟩ := sh_nm hx
    split at h
    · rename_i hk _
      split at h
      · rename_i y hy
        cases h
        have hm := List.mem_of_find?_eq_some hy
        have he : y.1 = x := by simpa using List.find?_some hy
        subst he
        exact ⟨⟨_, _, rfl⟩, fun F hQ => nameX_K F R.X T (glob_ns c.w y hm) hQ R.kind hk (glob_dbg y hm), fun h1 h2 hQ => callWith_K (first := []) R.X (glob_keep c.w y hm) hQ h1 h2⟩
      · obtain ⟨y, hy, h2⟩ := bind_out h
        clear h
        cases h2
        have hm := List.mem_of_find?_eq_some hy
        have he : y.1 = x := by simpa using List.find?_some hy
        subst he
        obtain ⟨e1, e2, e3, e4, e5⟩ := bglob_ok c.w y hm
        refine ⟨⟨_, _, rfl⟩, fun F hQ => nameX_B F R.X T e1 e2 e3 hQ R.kind hk e4, fun {pos e es Q s} h1 h2 hQ => ?_⟩
        have hQ := wpAny_mono hQ (fun _ _ x => x.2) fun _ _ x => x
        have hp : (backTo pos (starEach (e :: es) (c.env cs))).any (·.1) = false := by rw [h1]; exact h2
        have ea := fun {Q : Args → Shared → Prop} (hQ : wpAny (model PySem.Challenge.rw_pf0366_01.row.prog c.w) c.A (spliced (backTo pos (starEach (e :: es) (c.env cs)))) (fun vs s' => Q ⟨vs, []⟩ s') c.E s) => show wpAny (model PySem.Challenge.rw_pf0366_01.row.prog c.w) c.A (evalArgs y.2 true (backTo pos (starEach (e :: es) (c.env cs))) []) Q c.E s by
          rw [h1] at hQ ⊢
          exact evalArgs_plain hQ
        rcases e5 with ⟨i, e5⟩ | ⟨i, e5⟩
        · rw [e5] at hQ ea ⊢
          exact Calls.callWith_builtin hp (ea hQ)
        · rw [e5] at hQ ea ⊢
          exact PyProof.Rows.callWith_type hp (ea hQ)
    · cases h
  · cases h
theorem callOf_out {f : PySem.Expr} {as : List PySem.Expr} {kws : List Keyword} {g : Value} (h : callOf cs vars f as kws = some g) : kws = [] ∧ plainArgs as = true ∧ (∃ a r, as = a :: r) ∧ globOf cs vars f = some g := by
  cases as with
  | nil => cases h
  | cons a r => cases kws with
    | cons _ _ => cases h
    | nil =>
      cases hp : plainArgs (a :: r) with
      | true => simp only [callOf, hp] at h; exact ⟨rfl, rfl, ⟨a, r, rfl⟩, h⟩
      | false => simp only [callOf, hp] at h; cases h
theorem rawE (V : VarsOk c cs cv vars led) {e : PySem.Expr} {k : SV → Led → Prop} (h : RawE c cs cv vars led e k) : Rq.Sem c cs cv vars led (.E e k) := match h with
  | .of h => h V
theorem sE_Name (R : Rdy c cs) (I : SndG c cs cv go) (V : VarsOk c cs cv vars led) {x : Str} {p : Pos} {k : SV → Led → Prop} (h : vcS c cs cv go vars led (.E (.Name x p) k)) : Rq.Sem c cs cv vars led (.E (.Name x p) k) := by
  refine orR.el h (fun v hv h => ?_) fun h => orR.el h (fun v hv h => ?_) fun h => orR.el h (fun g hg h => ?_) (rawE V)
  · obtain ⟨h1, h2, h3⟩ := V.1 x v hv
    exact fun hp tk Q F N hQ => nameX_L F (by show (vars.lookup x).map SV.val = some v.val; rw [hv]; rfl) (hQ _ _ _ _ F N .rfl ⟨v, rfl, h3, h⟩) R.kind h1 h2
  · obtain ⟨h1, h2, a, o, h3, h4, h5⟩ := V.2 x v hv
    rcases h1 with h1 | ⟨h1, h6⟩
    · exact fun hp tk Q F N hQ => nameX_C N h3 h4 h5 (hQ _ _ _ _ F N .rfl ⟨_, rfl, .v, h⟩) R.kind h1 h2
    · exact fun hp tk Q F N hQ => nameX_F N h3 h4 h5 (hQ _ _ _ _ F N .rfl ⟨_, rfl, .v, h⟩) R.kind h1 h2 h6
  · exact fun hp tk Q F N hQ => (glob_of R hg).ev F (hQ _ _ _ _ F N .rfl ⟨_, rfl, .v, h⟩)
theorem sE_Const (R : Rdy c cs) (I : SndG c cs cv go) (V : VarsOk c cs cv vars led) {d : Const} {kk : Nat} {p : Pos} {k : SV → Led → Prop} (h : vcS c cs cv go vars led (.E (.Constant d kk p) k)) : Rq.Sem c cs cv vars led (.E (.Constant d kk p) k) := by
  cases d with
  | str y => exact fun hp tk Q F N hQ => Constant_str (hQ _ _ _ _ F N .rfl ⟨_, rfl, .v, h _⟩)
  | int y => exact fun hp tk Q F N hQ => wpAny_Constant_int (hQ _ _ _ _ F N .rfl ⟨_, rfl, .v, h _⟩)
  | bool y => exact fun hp tk Q F N hQ => PyProof.Rows.Constant_bool (hQ _ _ _ _ F N .rfl ⟨_, rfl, .v, h⟩)
  | none => exact fun hp tk Q F N hQ => PyProof.Rows.Constant_none (hQ _ _ _ _ F N .rfl ⟨_, rfl, .v, h⟩)
  | _ => exact h.elim
theorem len_ok {xs : List SV} (h : Nat.ble xs.length 64 = true) {n : Nat} (hn : 64 ≤ n) : (xs.map SV.val).length ≤ n := by
  rw [List.length_map]
  exact Nat.le_trans (Nat.le_of_ble_eq_true h) hn
theorem item_ok {led : Led} {h₀ : Heap} {L : Addr} {hp : Heap} {a : Addr} {its : List SV} {j : Nat} {y : SV} {w : World} {A : Around} {E Q : Value → Shared → Prop} {gs : Array GenState} {dr : Drawn} {os : OsState} {tk : Nat} {e : PySem.Expr} {kk : Nat} {pp : Pos} {t : Tok} (N : News h₀ L hp led) (ok : (SV.tup a its).Ok led) (hy : its[j]? = some y) (hj : j ≤ 8)
    (hQ : y.Ok led → Q y.val ⟨hp, gs, dr, tk, os⟩) : wpAny (model PySem.Challenge.rw_pf0366_01.row.prog w) A (subscriptTail e (.Constant (.int (j : Int)) kk pp) (SV.tup a its).val (.int (j : Int) t)) Q E ⟨hp, gs, dr, tk, os⟩ := by
  cases ok with
  | tup hm oks =>
    have hl : j < its.length := (List.getElem?_eq_some_iff.mp hy).1
    refine item_tupleT (j := j) (News.isTup N hm) (by omega) (by omega) ?_ ?_ (hQ (oks y (List.mem_of_getElem? hy)))
    · unfold seqIndex?
      simp
      omega
    · simp [hy]
theorem sE_Sub (R : Rdy c cs) (I : SndG c cs cv go) (V : VarsOk c cs cv vars led) {e i : PySem.Expr} {pos : Pos} {k : SV → Led → Prop} (h : vcS c cs cv go vars led (.E (.Subscript e i pos) k)) : Rq.Sem c cs cv vars led (.E (.Subscript e i pos) k) := by
  refine orR.el h (fun j hj hh => ?_) fun h => ?_
  · obtain ⟨kk, pp, rfl, hj'⟩ := idxOf_out hj
    refine fun hp tk Q F N hQ => Subscript_ (I _ _ (.E ..) V hh hp tk _ F N fun v led' hp' tk' F' N' K' hv => ?_)
    refine svx v hv fun x ok hx => ?_
    refine wpAny_Constant_int ?_
    refine orR.el hx (fun its hi hx1 => ?_) fun hx1 => ?_
    · obtain ⟨a, rfl⟩ := its_out hi
      exact onS.el (show onS its[j]? (fun x => k x led') from hx1) fun y hy hx2 => item_ok N' ok hy hj' fun oky => hQ _ _ _ _ F' N' K' ⟨y, rfl, oky, hx2⟩
    · cases hx1 with
      | of hx1 => exact hx1 ok _ hp' _ Q F' N' fun v led'' hp'' tk'' F'' N'' K'' hv => hQ _ _ _ _ F'' N'' (K'.trans K'') hv
  · cases hsl : isSl i with
    | true => rw [hsl] at h; exact rawE V h
    | false =>
      rw [hsl] at h
      refine fun hp tk Q F N hQ => Subscript_ (I _ _ (.E ..) V h hp tk _ F N fun v led' hp' tk' F' N' K' hv => ?_)
      refine svx v hv fun x ok hx => ?_
      refine I _ _ (.E ..) (V.keep K') hx hp' tk' _ F' N' fun w led'' hp'' tk'' F'' N'' K'' hw => ?_
      refine svx w hw fun y ok2 hy => ?_
      cases hy with
      | of hy => exact hy (ok.keep K'') ok2 hp'' tk'' Q F'' N'' fun v l3 h3 t3 F3 N3 K3 hv => hQ _ _ _ _ F3 N3 ((K'.trans K'').trans K3) hv
theorem sE_Call (R : Rdy c cs) (I : SndG c cs cv go) (V : VarsOk c cs cv vars led) {f : PySem.Expr} {as : List PySem.Expr} {kws : List Keyword} {pos : Pos} {k : SV → Led → Prop} (h : vcS c cs cv go vars led (.E (.Call f as kws pos) k)) : Rq.Sem c cs cv vars led (.E (.Call f as kws pos) k) := by
  refine orR.el h (fun g hg hh => ?_) (rawE V)
  obtain ⟨rfl, hp9, ⟨a, r, rfl⟩, hg2⟩ := callOf_out hg
  have G := glob_of R hg2
  obtain ⟨fx, fp, rfl⟩ := G.nm
  obtain ⟨h1, h2⟩ := Bool.and_eq_true_iff.mp hp9
  refine fun hp tk Q F N hQ => Call_ (G.ev F (G.cw (star_no _ h1) (plain_any h2) (I _ _ (.Es ..) V hh pos hp tk _ F N fun vs led' hp' tk' F' N' K' hv => ?_))) rfl
  refine esx vs hv fun xs oks hx => ?_
  cases hx with
  | of hx => exact ⟨R.X.keeps F'.keep, hx oks hp' tk' Q F' N' fun v led'' hp'' tk'' F'' N'' K'' hv => hQ _ _ _ _ F'' N'' (K'.trans K'') hv⟩
theorem sE_Bin (R : Rdy c cs) (I : SndG c cs cv go) (V : VarsOk c cs cv vars led) {l r : PySem.Expr} {op : Operator} {pos : Pos} {k : SV → Led → Prop} (h : vcS c cs cv go vars led (.E (.BinOp l op r pos) k)) : Rq.Sem c cs cv vars led (.E (.BinOp l op r pos) k) := by
  refine fun hp tk Q F N hQ => wpAny_BinOp (I _ _ (.E ..) V h hp tk _ F N fun v led' hp' tk' F' N' K' hv => ?_)
  refine svx v hv fun x ok hx => ?_
  refine I _ _ (.E ..) (V.keep K') hx hp' tk' _ F' N' fun v led'' hp'' tk'' F'' N'' K'' hv => ?_
  refine svx v hv fun y ok2 hy => ?_
  cases hy with
  | of hy => exact hy (ok.keep K'') ok2 hp'' tk'' Q F'' N'' fun v l3 h3 t3 F3 N3 K3 hv => hQ _ _ _ _ F3 N3 ((K'.trans K'').trans K3) hv
theorem snd_E (R : Rdy c cs) (I : SndG c cs cv go) (V : VarsOk c cs cv vars led) {e : PySem.Expr} {k : SV → Led → Prop} (h : vcS c cs cv go vars led (.E e k)) : Rq.Sem c cs cv vars led (.E e k) := by
  cases e with
  | Name x p => exact sE_Name R I V h
  | Constant d kk p => exact sE_Const R I V h
  | Tuple es kk p =>
    refine fun hp tk Q F N hQ => Tuple_ (I _ _ (.Es ..) V h p hp tk _ F N fun vs led' hp' tk' F' N' K' hv => ?_)
    refine esx vs hv fun xs oks hx => ?_
    obtain ⟨hle, hx⟩ := onB.out hx
    exact kup_newTuple F' N' (fun D h' F'' N'' lt => hQ _ _ _ _ F'' N'' (K'.trans .cons) ⟨_, rfl, .tup (.head _) fun i hi => (oks i hi).keep .cons, hx D lt⟩) (len_ok hle (by decide))
  | List es p =>
    refine fun hp tk Q F N hQ => List_ (I _ _ (.Es ..) V h p hp tk _ F N fun vs led' hp' tk' F' N' K' hv => ?_)
    refine esx vs hv fun xs oks hx => ?_
    obtain ⟨hle, hx⟩ := onB.out hx
    exact newList_K F' N' (fun D h' F'' N'' lt => hQ _ _ _ _ F'' N'' (K'.trans .cons) ⟨_, rfl, .v, hx D lt⟩) (len_ok hle (by decide))
  | Subscript e i pos => exact sE_Sub R I V h
  | Compare l ops rs pos =>
    refine orR.el h (fun y hy hh => ?_) (rawE V)
    obtain ⟨rfl, rfl, hm⟩ := cmp1_out hy
    exact fun hp tk Q F N hQ => wpAny_Compare1 (I _ _ (.C ..) V hh hp tk Q F N fun b led' hp' tk' F' N' K' hb => hQ _ _ _ _ F' N' K' ⟨_, rfl, .v, hb⟩) hm
  | BoolOp op es pos => exact I _ _ (.Bo ..) V h pos
  | IfExp t a b pos =>
    refine fun hp tk Q F N hQ => IfExp_ (I _ _ (.B ..) V h hp tk _ F N fun x led' hp' tk' F' N' K' hx => ?_)
    cases x with
    | true => exact I _ _ (.E ..) (V.keep K') hx hp' tk' Q F' N' fun v led'' hp'' tk'' F'' N'' K'' hv => hQ _ _ _ _ F'' N'' (K'.trans K'') hv
    | false => exact I _ _ (.E ..) (V.keep K') hx hp' tk' Q F' N' fun v led'' hp'' tk'' F'' N'' K'' hv => hQ _ _ _ _ F'' N'' (K'.trans K'') hv
  | Call f as kws pos => exact sE_Call R I V h
  | BinOp l op r pos => exact sE_Bin R I V h
  | _ => exact rawE V h
theorem nameTo_out {ts : List PySem.Expr} {e : PySem.Expr} {x : Str} (h : nameTo cs ts e = some x) : (∃ p, ts = [.Name x p]) ∧ noComp e = true ∧ cs.names.lookup x = some .local ∧ (x == ("__debug__" : Str)) = false := by
  unfold nameTo at h
  split at h
  · split at h
    · rename_i hs hc
      obtain ⟨p, rfl⟩ := sh_nm hs
      split at h
      · rename_i h1 h2
        cases h
        exact ⟨⟨p, rfl⟩, hc, h1, h2⟩
      · cases h
    · cases h
  · cases h
theorem VarsOk.set (V : VarsOk c cs cv vars led) {x : Str} {v : SV} (h1 : cs.names.lookup x = some .local) (h2 : (x == ("__debug__" : Str)) = false) (ok : v.Ok led) : VarsOk c cs cv ((x, v) :: vars) led := by
  refine ⟨fun z w e => ?_, V.2⟩
  rw [List.lookup] at e
  split at e
  · rename_i hz
    cases e
    cases beq_iff_eq.mp hz
    exact ⟨h1, h2, ok⟩
  · exact V.1 z w e
theorem X_cons (I : SndG c cs cv go) {s : Stmt} {rest : List Stmt} {k : Fl → Vars → Led → Prop} (h : WpX c cs cv vars led (exec s (c.env cs)) fun f vars' led' => thenK f (go vars' led' (.X rest k)) (k f vars' led')) : WpX c cs cv vars led (execs (s :: rest) (c.env cs)) k := by
  intro hp tk Q F N hQ hR
  refine wpAny_execs_cons (h hp tk _ F N (fun f vars' led' hp' tk' F' N' K' V' ok hf => ?_) fun v l3 h3 t3 m3 F3 N3 h => hR v l3 h3 t3 m3 F3 N3 h)
  cases f with
  | next => exact I _ _ (.X ..) V' hf hp' tk' Q F' N' (fun f vars'' led'' hp'' tk'' F'' N'' K'' V'' ok hf => hQ _ _ _ _ _ F'' N'' (K'.trans K'') V'' ok hf) fun v l3 h3 t3 m3 F3 N3 h => hR v l3 h3 t3 m3 F3 N3 h
  | brk => exact hQ .brk _ _ _ _ F' N' K' V' ok hf
  | cont => exact hQ .cont _ _ _ _ F' N' K' V' ok hf
  | ret v => exact hQ (.ret v) _ _ _ _ F' N' K' V' ok hf
theorem rawX (V : VarsOk c cs cv vars led) {s : Stmt} {K : Fl → Vars → Led → Prop} (h : RawX c cs cv vars led s K) : WpX c cs cv vars led (exec s (c.env cs)) K := match h with
  | .of h => h V
theorem sX_Assign (R : Rdy c cs) (I : SndG c cs cv go) (V : VarsOk c cs cv vars led) {ts : List PySem.Expr} {e : PySem.Expr} {pos : Pos} {K : Fl → Vars → Led → Prop} (h : orR (nameTo cs ts e) (fun x => go vars led (.E e fun v led' => K .next ((x, v) :: vars) led')) (RawX c cs cv vars led (.Assign ts e pos) K)) : WpX c cs cv vars led (exec (.Assign ts e pos) (c.env cs)) K := by
  refine orR.el h (fun x hx9 hh => ?_) (rawX V)
  obtain ⟨⟨p, rfl⟩, hc, hx, hd9⟩ := nameTo_out hx9
  refine fun hp tk Q F N hQ _ => wpAny_Assign_Name (I _ _ (.E ..) V hh hp tk _ F N fun v led' hp' tk' F' N' K' hv => ?_) (no_swap hc _ _ _)
  refine svx v hv fun y ok hy => ?_
  refine storeX_L F' N' (fun h'' F'' N'' => ?_) R.kind hx
  rw [lk_set] at F''
  exact hQ .next _ _ _ _ F'' N'' K' ((V.keep K').set hx hd9 ok) trivial hy
theorem sX_Expr (R : Rdy c cs) (I : SndG c cs cv go) (V : VarsOk c cs cv vars led) {e : PySem.Expr} {pos : Pos} {K : Fl → Vars → Led → Prop} (h : onB (noComp e) (go vars led (.E e fun _ led' => K .next vars led')) False) : WpX c cs cv vars led (exec (.Expr e pos) (c.env cs)) K := by
  obtain ⟨hc, h⟩ := onB.out h
  refine fun hp tk Q F N hQ _ => wpAny_Expr_any (I _ _ (.E ..) V h hp tk _ F N fun v led' hp' tk' F' N' K' hv => ?_) ?_ (no_swap hc _ _ _)
  · refine svx v hv fun y ok hy => ?_
    exact hQ .next _ _ _ _ F' N' K' (V.keep K') trivial hy
  · show (cs.kind == .module && _) = false
    rw [R.kind]; rfl
theorem sX_Ret (I : SndG c cs cv go) (V : VarsOk c cs cv vars led) {e : PySem.Expr} {pos : Pos} {K : Fl → Vars → Led → Prop} (h : go vars led (.E e fun v led' => K (.ret v) vars led')) : WpX c cs cv vars led (exec (.Return (some e) pos) (c.env cs)) K := by
  refine fun hp tk Q F N hQ _ => wpAny_Return_some (I _ _ (.E ..) V h hp tk _ F N fun v led' hp' tk' F' N' K' hv => ?_)
  refine svx v hv fun y ok hy => ?_
  exact hQ (.ret y) _ _ _ _ F' N' K' (V.keep K') ok hy
theorem sX_If (I : SndG c cs cv go) (V : VarsOk c cs cv vars led) {t : PySem.Expr} {a b : List Stmt} {pos : Pos} {K : Fl → Vars → Led → Prop} (h : go vars led (.B t fun x led' => go vars led' (.X (cond x a b) K))) : WpX c cs cv vars led (exec (.If t a b pos) (c.env cs)) K := by
  refine fun hp tk Q F N hQ hR => wpAny_If (I _ _ (.B ..) V h hp tk _ F N fun x led' hp' tk' F' N' K' hx => ?_)
  have both : ∀ (ss : List Stmt), go vars led' (.X ss K) → wpAny (model PySem.Challenge.rw_pf0366_01.row.prog c.w) c.A (execs ss (c.env cs)) Q c.E ⟨hp', c.gs, c.dr, tk', c.os⟩ := fun ss hx =>
    I _ _ (.X ..) (V.keep K') hx hp' tk' _ F' N' (fun f vars'' led'' hp'' tk'' F'' N'' K'' V'' ok hf => hQ _ _ _ _ _ F'' N'' (K'.trans K'') V'' ok hf) hR
  cases x with
  | true => exact both a hx
  | false => exact both b hx
theorem snd_X (R : Rdy c cs) (I : SndG c cs cv go) (V : VarsOk c cs cv vars led) {ss : List Stmt} {k : Fl → Vars → Led → Prop} (h : vcS c cs cv go vars led (.X ss k)) : Rq.Sem c cs cv vars led (.X ss k) := by
  cases ss with
  | nil => exact fun hp tk Q F N hQ hR => wpAny_execs_nil (hQ .next _ _ _ _ F N .rfl V trivial h)
  | cons s rest =>
    refine X_cons I ?_
    cases s with
    | Assign ts e pos => exact sX_Assign R I V h
    | Return o pos =>
      cases o with
      | some e => exact sX_Ret I V h
      | none => exact fun hp tk Q F N hQ hR => wpAny_Return_none (hQ (.ret (.v .none)) _ _ _ _ F N .rfl V .v h)
    | If t a b pos => exact sX_If I V h
    | Expr e pos => exact sX_Expr R I V h
    | Continue pos => exact fun hp tk Q F N hQ hR => wpAny_Continue (hQ .cont _ _ _ _ F N .rfl V trivial h)
    | _ => exact rawX V h
theorem snd_all (R : Rdy c cs) (I : SndG c cs cv go) : SndG c cs cv (vcS c cs cv go) := fun vars led r V h => by
  cases r with
  | E e k => exact snd_E R I V h
  | B e k => exact snd_B I V h
  | Bo op es k => exact snd_Bo I V h
  | Bb op es k => exact snd_Bb I V h
  | C l op r k => exact snd_C I V h
  | Es es k => exact snd_Es I V h
  | X ss k => exact snd_X R I V h
theorem vc_sound (R : Rdy c cs) : ∀ n, SndG c cs cv (vc c cs cv n)
  | 0 => fun _ _ _ _ h => h.elim
  | n + 1 => snd_all R (vc_sound R n)
end
end P_V2

section P_V3
open PySem PySem.W PyProof.Rows PySem.Calls PySem.Spec
set_option maxRecDepth 100000
/-- a frame from which the text's functions may be called -/
structure Can (c : Cx) (cs : Scope) (p : Program) (loose : List Str) (mean : ExcName → Option Value) (mg mb : Str → Option Value) (dp un : Nat) : Prop where
  top : ∃ gd outer A₀ base, c.A = ktrTop dp un gd c.cn cs c.L c.a c.ccd c.cl outer ∧ Below A₀ base outer c.h₀
  X : (hd.heap_1 c.w.params).In c.h₀
  T : Top p loose mean mg mb c.h₀
  kind : cs.kind = .function
  own : PassesOwn (model PySem.Challenge.rw_pf0366_01.row.prog c.w) c.A (c.env cs) c.E
theorem Can.rdy {c : Cx} {cs : Scope} {p : Program} {loose : List Str} {mean : ExcName → Option Value} {mg mb : Str → Option Value} {dp un : Nat} (C : Can c cs p loose mean mg mb dp un) : Rdy c cs := ⟨C.kind, C.X, _, _, _, _, topRead_of C.T⟩
noncomputable def Fl.out : Fl → SV
  | .ret v => v
  | _ => .v .none
theorem lk_map {vars : Vars} {binds : List (Str × Value)} (h : vars.map (fun y => (y.1, y.2.val)) = binds) : (fun y => binds.lookup y) = lk vars := by
  subst h
  funext y
  show _ = (vars.lookup y).map SV.val
  induction vars with
  | nil => rfl
  | cons x r ih =>
    simp only [List.map_cons, List.lookup]
    cases y == x.1 <;> first | exact ih | rfl
theorem lk_val {vars vars' : Vars} (h : vars.map (fun y => (y.1, y.2.val)) = vars'.map fun y => (y.1, y.2.val)) : lk vars = lk vars' := (lk_map h).symm.trans (lk_map rfl)
theorem enterW {w : World} {p : Program} {loose : List Str} {mean : ExcName → Option Value} {mg mb : Str → Option Value} {dp un : Nat} {gd : Option (List Code)} {cn : Str} {cs : Scope} {a : Addr} {ccd : Value} {cl : List (Str × Addr)} {outer : List Env} {A₀ : Around} {base h₀ : Heap} {L : Addr} {m : Str → Option Value} {led : Led} {s : Shared}
    {Q E : Value → Shared → Prop} {f : Addr} {args : List Value} {name qual : Str} {params : Arguments} {body : List Stmt} {scope : Scope} {dV kV doc pm cdv ct oc : Value} {an od : Option Addr} {osl : Array (Option Value)} {binds : List (Str × Value)}
    (B : Below A₀ base outer h₀) (F : Fr h₀ L s.heap m) (X : (hd.heap_1 w.params).In h₀) (N : News h₀ L s.heap led) (T : Top p loose mean mg mb h₀) (hk : cs.kind = .function)
    (ho : (hd.heap_1 w.params).lookup f = some ⟨oc, od, .func (fnOf name qual params body scope dV kV doc pm an cdv ct), osl⟩) (hcd : codeIn (hd.heap_1 w.params) cdv qual = true)
    (hroom : dp < recursionLimit) (hbind : bindArgs (fnOf name qual params body scope dV kV doc pm an cdv ct) ⟨args, []⟩ = pure binds) (hloc : ∀ y ∈ binds, scope.names.lookup y.1 = some .local)
    (hsc : scope.isCoroutine = false ∧ scope.isGenerator = false ∧ scope.kind = .function) (hcell : ∀ x ∈ scope.names, x.2 ≠ .cell)
    (vars : Vars) (R : SV → Led → Prop) (hv : vars.map (fun y => (y.1, y.2.val)) = binds.reverse) (hok : ∀ c, VarsOk c scope [] vars led)
    (h : ∀ c : Cx, c.w = w → Can c scope p loose mean mg mb (dp + 1) (un + 3) → VarsOk c scope [] vars led → WpX c scope [] vars led (execs body (c.env scope)) fun f _ led' => R f.out led')
    (hret : ∀ v led' h' tk', R v led' → Fr h₀ L h' m → News h₀ L h' led' → Q v.val { s with heap := h', toks := tk' }) :
    wpAny (model PySem.Challenge.rw_pf0366_01.row.prog w) (ktrTop dp un gd cn cs L a ccd cl outer) (call (.ref f) args) Q E s := by
  refine wpAny_call (code_def B F X N T rfl rfl hk ho hcd hroom (.of_eq hbind) hloc (fun g L' h₁ FG F' N' B' X' T' => ?_) hsc.1 hsc.2.1 hsc.2.2 hcell)
  rw [lk_map hv] at F'
  let c : Cx := ⟨w, (ktrTop dp un gd cn cs L a ccd cl outer).deeper (envOf qual scope L' f cdv), qual, L', f, cdv, [], g, fun e s' => wpAny (model PySem.Challenge.rw_pf0366_01.row.prog w) ((ktrTop dp un gd cn cs L a ccd cl outer).deeper (envOf qual scope L' f cdv)) (leaving (envOf qual scope L' f cdv) e) (fun _ s'' => E e s'') (fun e' s'' => E e' s'') s', s.gens, s.drawn, s.os⟩
  have C : Can c scope p loose mean mg mb (dp + 1) (un + 3) := ⟨⟨gd, envX cn cs L a ccd cl :: outer, _, base, rfl, B'⟩, X', T', hsc.2.2, by passes_own⟩
  refine h c rfl C (hok c) h₁ (s.toks + binds.length) _ F' N' (fun f vars' led' hp' tk' F'' N'' K' V' ok hR => ?_) fun v led' hp' tk' m' F'' N'' hR => leaveK_ F'' N'' fun Fo No => hret (.v v) led' hp' tk' hR Fo No
  cases f with
  | ret v => exact leaveK_ F'' N'' fun Fo No => hret v led' hp' tk' hR Fo No
  | _ => exact leaveK_ F'' N'' fun Fo No => hret (.v .none) led' hp' tk' hR Fo No
theorem enter {w : World} {p : Program} {loose : List Str} {mean : ExcName → Option Value} {mg mb : Str → Option Value} {dp un : Nat} {gd : Option (List Code)} {cn : Str} {cs : Scope} {a : Addr} {ccd : Value} {cl : List (Str × Addr)} {outer : List Env} {A₀ : Around} {base h₀ : Heap} {L : Addr} {m : Str → Option Value} {led : Led} {s : Shared}
    {Q E : Value → Shared → Prop} {f : Addr} {args : List Value} {name qual : Str} {params : Arguments} {body : List Stmt} {scope : Scope} {dV kV doc pm cdv ct oc : Value} {an od : Option Addr} {osl : Array (Option Value)} {binds : List (Str × Value)}
    (B : Below A₀ base outer h₀) (F : Fr h₀ L s.heap m) (X : (hd.heap_1 w.params).In h₀) (N : News h₀ L s.heap led) (T : Top p loose mean mg mb h₀) (hk : cs.kind = .function)
    (ho : (hd.heap_1 w.params).lookup f = some ⟨oc, od, .func (fnOf name qual params body scope dV kV doc pm an cdv ct), osl⟩) (hcd : codeIn (hd.heap_1 w.params) cdv qual = true)
    (hroom : dp < recursionLimit) (hbind : bindArgs (fnOf name qual params body scope dV kV doc pm an cdv ct) ⟨args, []⟩ = pure binds) (hloc : ∀ y ∈ binds, scope.names.lookup y.1 = some .local)
    (hsc : scope.isCoroutine = false ∧ scope.isGenerator = false ∧ scope.kind = .function) (hcell : ∀ x ∈ scope.names, x.2 ≠ .cell)
    (n : Nat) (vars : Vars) (R : SV → Led → Prop) (hv : vars.map (fun y => (y.1, y.2.val)) = binds.reverse) (hok : ∀ c, VarsOk c scope [] vars led)
    (h : ∀ c : Cx, c.w = w → Can c scope p loose mean mg mb (dp + 1) (un + 3) → vc c scope [] n vars led (.X body fun f _ led' => R f.out led'))
    (hret : ∀ v led' h' tk', R v led' → Fr h₀ L h' m → News h₀ L h' led' → Q v.val { s with heap := h', toks := tk' }) :
    wpAny (model PySem.Challenge.rw_pf0366_01.row.prog w) (ktrTop dp un gd cn cs L a ccd cl outer) (call (.ref f) args) Q E s :=
  enterW B F X N T hk ho hcd hroom hbind hloc hsc hcell vars R hv hok (fun c hw C V => vc_sound C.rdy n vars led (.X ..) V (h c hw C)) hret
section
variable {c : Cx} {cs : Scope} {cv : List (Str × Value)} {vars : Vars} {led : Led}
theorem WpX.ifF {t : PySem.Expr} {a rest : List Stmt} {pos : Pos} {k : Fl → Vars → Led → Prop} (hB : WpT c vars led (isTrue t (c.env cs) (eval t (c.env cs))) fun b led' => b = false ∧ led' = led)
    (h : WpX c cs cv vars led (execs rest (c.env cs)) k) : WpX c cs cv vars led (execs (.If t a [] pos :: rest) (c.env cs)) k := by
  refine fun hp tk Q F N hQ hR => wpAny_execs_cons (wpAny_If (hB hp tk _ F N fun b led' hp' tk' F' N' K' hb => ?_))
  obtain ⟨rfl, rfl⟩ := hb
  exact wpAny_execs_nil (h hp' tk' Q F' N' hQ hR)
theorem execs_app {M : Model} {A : Around} {E : Value → Shared → Prop} {env : Env} {rest : List Stmt} {Q : Flow → Shared → Prop} (ss : List Stmt) {s : Shared}
    (h : wpAny M A (execs ss env) (fun f s' => match f with | .next => wpAny M A (execs rest env) Q E s' | f => Q f s') E s) : wpAny M A (execs (ss ++ rest) env) Q E s := by
  intro Γ p hΓ
  have key : ∀ (ss : List Stmt) (p : Pos) (s : Shared), Sem.wp M Γ (execs ss env) (fun f _ s' => match f with | .next => wpAny M A (execs rest env) Q E s' | f => Q f s') (fun e _ s' => E e s') p s → Sem.wp M Γ (execs (ss ++ rest) env) (fun f _ s' => Q f s') (fun e _ s' => E e s') p s := by
    intro ss
    induction ss with
    | nil => exact fun p s h => (show wpAny M A (execs rest env) Q E s from h) Γ p hΓ
    | cons x ss ih =>
      intro p s h
      rw [List.cons_append, execs_cons, Sem.wp_bind']
      rw [execs_cons, Sem.wp_bind'] at h
      refine Sem.wp_mono M Γ _ (fun f p' s' h' => ?_) (fun _ _ _ h' => h') _ _ h
      cases f with
      | next => exact ih _ _ h'
      | _ => exact h'
  exact key ss p s (h Γ p hΓ)
/-- a block in two parts -/
theorem WpX.cut {ss rest : List Stmt} {k : Fl → Vars → Led → Prop} (J : Vars → Led → Prop) (h1 : WpX c cs cv vars led (execs ss (c.env cs)) fun f vars' led' => thenK f (J vars' led') (k f vars' led'))
    (h2 : ∀ vars' led', VarsOk c cs cv vars' led' → Keeps led led' → J vars' led' → WpX c cs cv vars' led' (execs rest (c.env cs)) k) : WpX c cs cv vars led (execs (ss ++ rest) (c.env cs)) k := by
  refine fun hp tk Q F N hQ hR => execs_app ss (h1 hp tk _ F N (fun f vars' led' hp' tk' F' N' K' V' ok hf => ?_) fun v l3 h3 t3 m3 F3 N3 h => hR v l3 h3 t3 m3 F3 N3 h)
  cases f with
  | next => exact h2 _ _ V' K' hf hp' tk' Q F' N' (fun f vars'' led'' hp'' tk'' F'' N'' K'' V'' ok hf => hQ f vars'' led'' hp'' tk'' F'' N'' (K'.trans K'') V'' ok hf) hR
  | brk => exact hQ .brk _ _ _ _ F' N' K' V' ok hf
  | cont => exact hQ .cont _ _ _ _ F' N' K' V' ok hf
  | ret v => exact hQ (.ret v) _ _ _ _ F' N' K' V' ok hf
theorem WpX.cut3 {x y z : Stmt} {rest : List Stmt} {k : Fl → Vars → Led → Prop} (J : Vars → Led → Prop) (h1 : WpX c cs cv vars led (execs [x, y, z] (c.env cs)) fun f vars' led' => thenK f (J vars' led') (k f vars' led'))
    (h2 : ∀ vars' led', VarsOk c cs cv vars' led' → Keeps led led' → J vars' led' → WpX c cs cv vars' led' (execs rest (c.env cs)) k) : WpX c cs cv vars led (execs (x :: y :: z :: rest) (c.env cs)) k := WpX.cut (ss := [x, y, z]) J h1 h2
end
end P_V3

section P_V4
open PySem PySem.W PyProof.Rows PySem.Calls PySem.Spec
set_option maxRecDepth 100000
/-- a tree as its tuples are seen -/
inductive TV : Tr → SV → Prop
  | name {a x k1 k2} : x ∈ names3 → TV (.name a x) (.tup a [.v (.str (Str.ofString "name") k1), .v (.str x k2)])
  | text {a k1 k2} : TV (.text a) (.tup a [.v (.str (Str.ofString "text") k1), .v (.str (Str.ofString "t") k2)])
  | whole {a k k1 k2} : TV (.whole a k) (.tup a [.v (.str (Str.ofString "whole") k1), .v (.int k k2)])
  | null {a k1} : TV (.null a) (.tup a [.v (.str (Str.ofString "null") k1)])
  | join {a l r k1 vl vr} : TV l vl → TV r vr → TV (.join a l r) (.tup a [.v (.str (Str.ofString "join") k1), vl, vr])
  | bin {a op l r k1 k2 vl vr} : op ∈ binOps → TV l vl → TV r vr → TV (.bin a op l r) (.tup a [.v (.str (Str.ofString "binary") k1), .v (.str op k2), vl, vr])
  | un {a op x k1 k2 vx} : op ∈ unOps → TV x vx → TV (.un a op x) (.tup a [.v (.str (Str.ofString "unary") k1), .v (.str op k2), vx])
  | call0 {a f b k1 k2} : f ∈ callNames → TV (.call0 a f) (.tup a [.v (.str (Str.ofString "call") k1), .v (.str f k2), .tup b []])
  | call1 {a f b x k1 k2 vx} : f ∈ callNames → TV x vx → TV (.call1 a f x) (.tup a [.v (.str (Str.ofString "call") k1), .v (.str f k2), .tup b [vx]])
  | call2 {a f b x y k1 k2 vx vy} : f ∈ callNames → TV x vx → TV y vy → TV (.call2 a f x y) (.tup a [.v (.str (Str.ofString "call") k1), .v (.str f k2), .tup b [vx, vy]])
  | item1 {a b h x k1 vh vx} : TV h vh → TV x vx → TV (.item1 a h x) (.tup a [.v (.str (Str.ofString "item") k1), vh, .tup b [vx]])
  | item2 {a b h x y k1 vh vx vy} : TV h vh → TV x vx → TV y vy → TV (.item2 a h x y) (.tup a [.v (.str (Str.ofString "item") k1), vh, .tup b [vx, vy]])
  | item3 {a b h x y z k1 vh vx vy vz} : TV h vh → TV x vx → TV y vy → TV z vz → TV (.item3 a h x y z) (.tup a [.v (.str (Str.ofString "item") k1), vh, .tup b [vx, vy, vz]])
theorem TV.val {t : Tr} {v : SV} (h : TV t v) : v.val = .ref t.ad := by cases h <;> rfl
theorem oks_nil {led : Led} : ∀ x ∈ ([] : List SV), x.Ok led := fun _ h => nomatch h
theorem oks_cons {led : Led} {v : SV} {r : List SV} (h : v.Ok led) (g : ∀ x ∈ r, x.Ok led) : ∀ x ∈ v :: r, x.Ok led := fun x hx => (List.mem_cons.mp hx).elim (fun e => e ▸ h) (g x)
theorem ok_tup {led : Led} {a : Addr} {its : List SV} {vs : List Value} {n : Nat} (hm : (a, tupOf vs.toArray n) ∈ led) (e : its.map SV.val = vs) (g : ∀ x ∈ its, x.Ok led) : (SV.tup a its).Ok led := by
  subst e
  exact .tup hm g
theorem TIn.tv {led : Led} {t : Tr} (h : TIn led t) : ∃ v, TV t v ∧ v.Ok led := by
  induction h with
  | name hm hx => exact ⟨_, .name hx, ok_tup hm rfl (oks_cons .v (oks_cons .v oks_nil))⟩
  | text hm => exact ⟨_, .text, ok_tup hm rfl (oks_cons .v (oks_cons .v oks_nil))⟩
  | whole hm => exact ⟨_, .whole, ok_tup hm rfl (oks_cons .v (oks_cons .v oks_nil))⟩
  | null hm => exact ⟨_, .null, ok_tup hm rfl (oks_cons .v oks_nil)⟩
  | join hm _ _ i1 i2 =>
    obtain ⟨v1, t1, o1⟩ := i1
    obtain ⟨v2, t2, o2⟩ := i2
    exact ⟨_, .join t1 t2, ok_tup hm (by rw [List.map, List.map, List.map, List.map, t1.val, t2.val]; rfl) (oks_cons .v (oks_cons o1 (oks_cons o2 oks_nil)))⟩
  | bin hm hx _ _ i1 i2 =>
    obtain ⟨v1, t1, o1⟩ := i1
    obtain ⟨v2, t2, o2⟩ := i2
    exact ⟨_, .bin hx t1 t2, ok_tup hm (by rw [List.map, List.map, List.map, List.map, List.map, t1.val, t2.val]; rfl) (oks_cons .v (oks_cons .v (oks_cons o1 (oks_cons o2 oks_nil))))⟩
  | un hm hx _ i1 =>
    obtain ⟨v1, t1, o1⟩ := i1
    exact ⟨_, .un hx t1, ok_tup hm (by rw [List.map, List.map, List.map, List.map, t1.val]; rfl) (oks_cons .v (oks_cons .v (oks_cons o1 oks_nil)))⟩
  | call0 hm hx hb => exact ⟨_, .call0 hx, ok_tup hm rfl (oks_cons .v (oks_cons .v (oks_cons (ok_tup hb rfl oks_nil) oks_nil)))⟩
  | call1 hm hx hb _ i1 =>
    obtain ⟨v1, t1, o1⟩ := i1
    exact ⟨_, .call1 hx t1, ok_tup hm rfl (oks_cons .v (oks_cons .v (oks_cons (ok_tup hb (by rw [List.map, List.map, t1.val]) (oks_cons o1 oks_nil)) oks_nil)))⟩
  | call2 hm hx hb _ _ i1 i2 =>
    obtain ⟨v1, t1, o1⟩ := i1
    obtain ⟨v2, t2, o2⟩ := i2
    exact ⟨_, .call2 hx t1 t2, ok_tup hm rfl (oks_cons .v (oks_cons .v (oks_cons (ok_tup hb (by rw [List.map, List.map, List.map, t1.val, t2.val]) (oks_cons o1 (oks_cons o2 oks_nil))) oks_nil)))⟩
  | item1 hm hb _ _ i0 i1 =>
    obtain ⟨v0, t0, o0⟩ := i0
    obtain ⟨v1, t1, o1⟩ := i1
    exact ⟨_, .item1 t0 t1, ok_tup hm (by rw [List.map, List.map, List.map, List.map, t0.val]; rfl) (oks_cons .v (oks_cons o0 (oks_cons (ok_tup hb (by rw [List.map, List.map, t1.val]) (oks_cons o1 oks_nil)) oks_nil)))⟩
  | item2 hm hb _ _ _ i0 i1 i2 =>
    obtain ⟨v0, t0, o0⟩ := i0
    obtain ⟨v1, t1, o1⟩ := i1
    obtain ⟨v2, t2, o2⟩ := i2
    exact ⟨_, .item2 t0 t1 t2, ok_tup hm (by rw [List.map, List.map, List.map, List.map, t0.val]; rfl) (oks_cons .v (oks_cons o0 (oks_cons (ok_tup hb (by rw [List.map, List.map, List.map, t1.val, t2.val]) (oks_cons o1 (oks_cons o2 oks_nil))) oks_nil)))⟩
  | item3 hm hb _ _ _ _ i0 i1 i2 i3 =>
    obtain ⟨v0, t0, o0⟩ := i0
    obtain ⟨v1, t1, o1⟩ := i1
    obtain ⟨v2, t2, o2⟩ := i2
    obtain ⟨v3, t3, o3⟩ := i3
    exact ⟨_, .item3 t0 t1 t2 t3, ok_tup hm (by rw [List.map, List.map, List.map, List.map, t0.val]; rfl) (oks_cons .v (oks_cons o0 (oks_cons (ok_tup hb (by rw [List.map, List.map, List.map, List.map, t1.val, t2.val, t3.val]) (oks_cons o1 (oks_cons o2 (oks_cons o3 oks_nil)))) oks_nil)))⟩
theorem VarsOk.nil {c : Cx} {cs : Scope} {led : Led} : VarsOk c cs [] [] led := ⟨fun _ _ h => (nomatch h), fun _ _ h => (nomatch h)⟩
end P_V4

section P_V5
open PySem PySem.W PyProof.Rows PySem.Calls PySem.Spec
set_option maxRecDepth 100000
/-- what [(one, False) for one in its] makes -/
inductive CP (tl : Led) : List Value → List SV → Prop where
  | nil : CP tl [] []
  | cons {a v ys its} : (a, tupOf #[SV.val v, .bool false] 0) ∈ tl → CP tl ys its → CP tl (.ref a :: ys) (v :: its)
theorem CP.mono {l l' : Led} (hs : ∀ p ∈ l, p ∈ l') {ys : List Value} {its : List SV} (h : CP l ys its) : CP l' ys its := by
  induction h with
  | nil => exact .nil
  | cons h _ ih => exact .cons (hs _ h) ih
theorem CP.snoc {l : Led} {ys : List Value} {its : List SV} (h : CP l ys its) {a : Addr} {v : SV} (hm : (a, tupOf #[v.val, .bool false] 0) ∈ l) : CP l (ys ++ [.ref a]) (its ++ [v]) := by
  induction h with
  | nil => exact .cons hm .nil
  | cons h _ ih => exact .cons h ih
section
variable {prog : Program} {w : World} {A : Around} {h₀ : Heap} {L : Addr} {m : Str → Option Value} {env : Env} {x : Str} {scope : Scope} {cl : List (Str × Addr)} {s : Shared} {p1 p2 p3 : Pos} {k1 k2 : Nat}
theorem rest_pairs {ax : Addr} {vs : List Value} {k0 : Nat} {led : Led} {IT : List SV} {Fin : List Value → Led → Prop} (hk : ∀ C, (compEnvC scope cl C env).scope.kind = .function) (hx : ∀ C, (compEnvC scope cl C env).kindOf x = some .local) (hd9 : (x == ("__debug__" : Str)) = false) (hvs : IT.map SV.val = vs) (hm : (ax, tupOf vs.toArray k0) ∈ led)
    (fin : ∀ ys tlc, CP tlc ys IT → Newer led tlc → Fin ys (tlc ++ led)) : ∀ (its pre : List SV) (ys : List Value) (tlc : Led), pre ++ its = IT → CP tlc ys pre → Newer led tlc →
    LCg.CompRest prog w A h₀ L m env (.Tuple [.Name x p1, .Constant (.bool false) k1 p2] k2 p3) x scope cl s (fun l => (ax, tupOf vs.toArray k0) ∈ l) (fun i v => vs[i]? = some v) Fin its.length pre.length ys (tlc ++ led)
  | [], pre, ys, tlc, e, hn, hw => by
    rw [List.append_nil] at e
    subst e
    exact LCg.CompRest.zero (fin ys tlc hn hw)
  | v :: its, pre, ys, tlc, e, hn, hw => by
    refine LCg.CompRest.succ fun v' I oI C oC D m₂ h tk E' hv' hC hm₂ F N off ne => ?_
    have e1 : vs[pre.length]? = some v.val := by
      subst hvs
      rw [← e]
      simp
    obtain rfl : v' = v.val := Option.some.inj (hv'.symm.trans e1)
    refine Tuple_ (args_cons (LCgL.ld_own N (.tail _ (.head _)) hC hm₂ (args_cons (PyProof.Rows.Constant_bool (args_nil (kup_newTuple F N (fun T h' F' N' lt => ?_) (by show 2 ≤ sizeLine; decide)))) rfl) (hk C) (hx C) hd9) rfl)
    refine LCg.CompEnd.intro F' N' ((T, tupOf #[v.val, .bool false] 0) :: (tlc ++ led)) ?_ ⟨⟨Nat.ne_of_gt (lt _ (.head _)), Nat.ne_of_gt (lt _ (.tail _ (.head _))), Nat.ne_of_gt (lt _ (.tail _ (.tail _ (.head _))))⟩, off⟩ (.tail _ (List.mem_append_right _ hm)) ?_
    · intro p hp
      simp only [List.mem_cons] at hp ⊢
      rcases hp with h1 | h1 | h1 | h1 | h1
      · exact .inr (.inl h1)
      · exact .inr (.inr (.inl h1))
      · exact .inr (.inr (.inr (.inl h1)))
      · exact .inl h1
      · exact .inr (.inr (.inr (.inr h1)))
    · have ih := rest_pairs hk hx hd9 hvs hm fin its (pre ++ [v]) (ys ++ [.ref T]) ((T, tupOf #[v.val, .bool false] 0) :: tlc) (by rw [← e]; simp) ((hn.mono fun _ h => .tail _ h).snoc (.head _))
        (newer_cons (allLt_of fun p hp => lt p (.tail _ (.tail _ (.tail _ (List.mem_append_right _ hp))))) hw)
      rw [List.length_append, List.length_singleton] at ih
      exact ih
end
theorem comp_pairs {c : Cx} {cs : Scope} {cv : List (Str × Value)} {vars : Vars} {led : Led} {n : Nat} {iter : PySem.Expr} {x : Str} {px p1 p2 p3 pos : Pos} {k1 k2 : Nat} {scope : Scope} {cl : List (Str × Addr)} {k : SV → Led → Prop} (R : Rdy c cs) (hh : c.A.handled = none)
    (hclos : closureFor scope (c.env cs) = pure cl) (hcell : ∀ y ∈ scope.names, y.2 ≠ .cell) (hkind : scope.kind = .function)
    (hnames : ∀ y ∈ scope.names, y.2 = .local → scope.names.lookup y.1 = some .local) (hx : scope.names.lookup x = some .local) (hd9 : (x == ("__debug__" : Str)) = false)
    (hk9 : ∀ C, (compEnvC scope cl C (c.env cs)).scope.kind = .function) (hx9 : ∀ C, (compEnvC scope cl C (c.env cs)).kindOf x = some .local)
    (h : vc c cs cv n vars led (.E iter fun v led' => onS v.its? fun its => onB (Nat.ble its.length 64) (∀ D ys tl, (∀ p ∈ led', p.1 ≠ D) → Newer led' tl → CP tl ys its → k (.v (.ref D)) ((D, LCg.lst ys) :: (tl ++ led'))) False))
    (hs : ∀ v, foldedSetIterable iter (c.env cs) v = pure v := by intro _; rfl) :
    RawE c cs cv vars led (.ListComp (.Tuple [.Name x p1, .Constant (.bool false) k1 p2] k2 p3) [⟨.Name x px, iter, [], 0⟩] scope pos) k := by
  refine .of fun V hp tk Q F N hQ => ?_
  refine ListComp_tup F hclos hcell hkind hnames hx (vc_sound R n _ _ (.E ..) V h hp tk _ F N fun v led' hp' tk' F' N' K' hv => ?_) hs
  obtain ⟨y, rfl, ok, hy⟩ := hv
  obtain ⟨its, hi, hy2⟩ := onS.out hy
  obtain ⟨hle, hy3⟩ := onB.out hy2
  obtain ⟨a, rfl⟩ := its_out hi
  cases ok with
  | tup hm oks =>
    have hle' := Nat.le_of_ble_eq_true hle
    refine SrcTup.intro hh F' N' hm (by rw [List.length_map]; omega) fun g => ?_
    rw [List.length_map]
    refine rest_pairs hk9 hx9 hd9 rfl hm (fun ys tlc hc hw => ?_) its [] [] [] rfl .nil newer_nil
    intro D h'' tk'' F'' N'' o1
    have hap : ∀ p ∈ tlc ++ led', p.1 ≠ D := apart_off1 o1 fun _ h => h
    exact hQ _ _ _ tk'' F'' N'' (K'.trans (.sub fun _ h => .tail _ (List.mem_append_right _ h))) ⟨_, rfl, .v, hy3 D ys tlc (fun p hp => hap p (List.mem_append_right _ hp)) hw hc⟩
theorem add_tups {c : Cx} {vars : Vars} {led : Led} {a b : List SV} {x y : Addr} {k : SV → Led → Prop} (ha : a.map SV.val ≠ []) (hb : b.map SV.val ≠ []) (hz : a.length + b.length ≤ 16384)
    (h : ∀ D, (∀ p ∈ led, p.1 < D) → k (.tup D (a ++ b)) ((D, tupOf ((a ++ b).map SV.val).toArray 0) :: led)) : AddP c vars led .Add (.tup x a) (.tup y b) k := by
  refine .of fun o1 o2 hp tk Q F N hQ => ?_
  cases o1 with
  | tup m1 g1 => cases o2 with
    | tup m2 g2 =>
      refine kde_addT F N (News.isTup N m1) (News.isTup N m2) ha hb (by simpa using hz) (zs := (a ++ b).map SV.val) (by simp) fun D h' F' N' lt => hQ _ _ _ _ F' N' .cons ⟨_, rfl, ?_, h D lt⟩
      exact .tup (.head _) fun i hi => ((List.mem_append.mp hi).elim (g1 i) (g2 i)).keep .cons
theorem add_lists2 {c : Cx} {vars : Vars} {led : Led} {xs ys : List Value} {x y : Addr} {n1 n2 : Nat} {k : SV → Led → Prop} (m1 : (x, listOf xs.toArray n1) ∈ led) (m2 : (y, listOf ys.toArray n2) ∈ led) (hz : xs.length + ys.length ≤ 16384)
    (h : ∀ D, (∀ p ∈ led, p.1 < D) → k (.v (.ref D)) ((D, listOf (xs ++ ys).toArray 0) :: led)) : AddP c vars led .Add (.v (.ref x)) (.v (.ref y)) k :=
  .of fun _ _ hp tk Q F N hQ => kmk_add_lit F N (News.isList N m1) (News.isList N m2) (zs := xs ++ ys) rfl (fun D h' F' N' lt => hQ _ _ _ _ F' N' .cons ⟨_, rfl, .v, h D lt⟩) (Nat.le_trans hz (by decide))
theorem onB_of {b : Bool} {p : Prop} (e : b = true) (h : p) : onB b p False := by
  subst e
  exact h
theorem Can.handled {c : Cx} {cs : Scope} {p : Program} {loose : List Str} {mean : ExcName → Option Value} {mg mb : Str → Option Value} {dp un : Nat} (C : Can c cs p loose mean mg mb dp un) : c.A.handled = none := by
  obtain ⟨gd, outer, A₀, base, e, _⟩ := C.top
  rw [e]
section
variable {c : Cx} {cs : Scope} {cv : List (Str × Value)} {vars : Vars} {led : Led} {k : SV → Led → Prop}
theorem add_strs {x y : Str} {t u : Tok} (hz : x.length + y.length ≤ 1000) (h : ∀ t, k (.v (.str (x ++ y) t)) led) : AddP c vars led .Add (.v (.str x t)) (.v (.str y u)) k :=
  .of fun _ _ hp tk Q F N hQ => PyProof.Rows.add_str (fun t' tk' => hQ _ _ _ _ F N .rfl ⟨_, rfl, .v, h t'⟩) (Nat.le_trans hz (by decide))
theorem len_list {l : Addr} {vs : List Value} {n : Nat} (hm : (l, listOf vs.toArray n) ∈ led) (hz : vs.length ≤ 1000000) (h : ∀ t, k (.v (.int ((vs.length : Nat) : Int) t)) led) : CallP c vars led (.builtin "len") [.v (.ref l)] k :=
  .of fun _ hp tk Q F N hQ => len_any N hm hz fun t tk' => hQ _ _ _ _ F N .rfl ⟨_, rfl, .v, h t⟩
theorem str_int {n : Nat} {t : Tok} (hn : n ≤ 1000) (h : ∀ t, k (.v (.str (Str.ofString (toString ((n : Nat) : Int))) t)) led) : CallP c vars led (.type "str") [.v (.int ((n : Nat) : Int) t)] k :=
  .of fun _ hp tk Q F N hQ => str_nat hn fun t tk' => hQ _ _ _ _ F N .rfl ⟨_, rfl, .v, h t⟩
theorem sub_list {e : PySem.Expr} {kk : Nat} {pp : Pos} {l : Addr} {vs : List Value} {n j : Nat} {x : Value} (hm : (l, listOf vs.toArray n) ∈ led) (hj : j ≤ 8) (hx : vs[j]? = some x) (h : k (.v x) led) : SubP c vars led e (.Constant (.int (j : Int)) kk pp) (.v (.ref l)) j k :=
  .of fun _ t hp tk Q F N hQ => item_at (x := x) N hm (by omega) (by omega) (by simpa using hx) (hQ _ _ _ _ F N .rfl ⟨_, rfl, .v, h⟩)
end
end P_V5

section P_V6
open PySem PySem.W PyProof.Rows PySem.Calls PySem.Spec
set_option maxRecDepth 100000
/-- a call of a def whose two parameters are cells -/
theorem vars2 {c : Cx} {scope : Scope} {x y : Str} {vx vy : Value} {C1 C2 : Addr} {o1 o2 : Obj} {led : Led} (hkx : scope.names.lookup x = some .cell) (hky : scope.names.lookup y = some .cell) (hyx : y ≠ x) (hx9 : (x == ("__debug__" : Str)) = false) (hy9 : (y == ("__debug__" : Str)) = false)
    (hc : c.cl = [(y, C2), (x, C1)]) (e1 : o1.data = .cell (some vx)) (e2 : o2.data = .cell (some vy)) : VarsOk c scope [(x, vx), (y, vy)] [] ((C2, o2) :: (C1, o1) :: led) := by
  refine ⟨fun _ _ h => (nomatch h), fun z v hz => ?_⟩
  rw [hc]
  clear hc
  rw [List.lookup] at hz
  split at hz
  · rename_i hq
    cases hz
    cases beq_iff_eq.mp hq
    exact ⟨.inl hkx, hx9, _, o1, by simp [List.lookup, beq_eq_false_iff_ne.mpr (Ne.symm hyx)], .tail _ (.head _), e1⟩
  · rw [List.lookup] at hz
    split at hz
    · rename_i hq
      cases hz
      cases beq_iff_eq.mp hq
      exact ⟨.inl hky, hy9, _, o2, by simp [List.lookup], .head _, e2⟩
    · cases hz
theorem enterC2 {w : World} {p : Program} {loose : List Str} {mean : ExcName → Option Value} {mg mb : Str → Option Value} {dp un : Nat} {gd : Option (List Code)} {cn : Str} {cs : Scope} {a : Addr} {ccd : Value} {cl : List (Str × Addr)} {outer : List Env} {A₀ : Around} {base h₀ : Heap} {L : Addr} {m : Str → Option Value} {led : Led} {s : Shared}
    {Q E : Value → Shared → Prop} {f : Addr} {args : List Value} {name qual : Str} {params : Arguments} {body : List Stmt} {scope : Scope} {dV kV doc pm cdv ct oc : Value} {an od : Option Addr} {osl : Array (Option Value)} {x y : Str} {vx vy : Value}
    (B : Below A₀ base outer h₀) (F : Fr h₀ L s.heap m) (X : (hd.heap_1 w.params).In h₀) (N : News h₀ L s.heap led) (T : Top p loose mean mg mb h₀) (hk : cs.kind = .function)
    (ho : (hd.heap_1 w.params).lookup f = some ⟨oc, od, .func (fnOf name qual params body scope dV kV doc pm an cdv ct), osl⟩) (hcd : codeIn (hd.heap_1 w.params) cdv qual = true)
    (hroom : dp < recursionLimit) (hbind : bindArgs (fnOf name qual params body scope dV kV doc pm an cdv ct) ⟨args, []⟩ = pure [(x, vx), (y, vy)])
    (hkx : scope.names.lookup x = some .cell) (hky : scope.names.lookup y = some .cell) (hxy : (y == x) = false) (hx9 : (x == ("__debug__" : Str)) = false) (hy9 : (y == ("__debug__" : Str)) = false)
    (hcl : ∀ L' : Addr, cellsFrom (L' + 1) scope.names [] = [(y, L' + 1 + 1), (x, L' + 1)]) (hnd : ((cellsFrom 0 scope.names []).map (·.1)).Nodup)
    (hsc : scope.isCoroutine = false ∧ scope.isGenerator = false ∧ scope.kind = .function) (R : SV → Led → Prop)
    (h : ∀ (c : Cx) (C1 C2 : Addr) (o1 o2 : Obj), c.w = w → c.cl = [(y, C2), (x, C1)] → o1.data = .cell (some vx) → o2.data = .cell (some vy) → Can c scope p loose mean mg mb (dp + 1) (un + 3) → (∀ p ∈ led, p.1 < C1) → C1 < C2 → VarsOk c scope [(x, vx), (y, vy)] [] ((C2, o2) :: (C1, o1) :: led) → WpX c scope [(x, vx), (y, vy)] [] ((C2, o2) :: (C1, o1) :: led) (execs body (c.env scope)) fun f _ led' => R f.out led')
    (hret : ∀ v led' h' tk', R v led' → Fr h₀ L h' m → News h₀ L h' led' → Q v.val { s with heap := h', toks := tk' }) :
    wpAny (model PySem.Challenge.rw_pf0366_01.row.prog w) (ktrTop dp un gd cn cs L a ccd cl outer) (call (.ref f) args) Q E s := by
  refine wpAny_call (code_defC B F X N T rfl rfl hk ho hcd hroom (.of_eq hbind) (by simp [hkx, hky]) hnd (fun g L' h₁ tk cells FG F' N' Y B' X' T' lt => ?_) hsc.1 hsc.2.1 hsc.2.2)
  let c : Cx := ⟨w, (ktrTop dp un gd cn cs L a ccd cl outer).deeper (envOfC qual scope L' f cdv), qual, L', f, cdv, cellsFrom (L' + 1) scope.names [], g, fun e s' => wpAny (model PySem.Challenge.rw_pf0366_01.row.prog w) ((ktrTop dp un gd cn cs L a ccd cl outer).deeper (envOfC qual scope L' f cdv)) (leaving (envOfC qual scope L' f cdv) e) (fun _ s'' => E e s'') (fun e' s'' => E e' s'') s', s.gens, s.drawn, s.os⟩
  have C : Can c scope p loose mean mg mb (dp + 1) (un + 3) := ⟨⟨gd, envX cn cs L a ccd cl :: outer, _, base, rfl, B'⟩, X', T', hsc.2.2, by passes_own⟩
  have kx : (envOfC qual scope L' f cdv).kindOf x = some .cell := hkx
  have ky : (envOfC qual scope L' f cdv).kindOf y = some .cell := hky
  have hF : Fr g L' h₁ (lk []) := by
    simp only [bindL, kx, ky] at F'
    exact F'
  rw [hcl] at Y
  obtain ⟨o2, o1, rfl, d2, d1⟩ := Y.two
  simp only [bindC, kx, ky] at d1 d2
  have hyx : y ≠ x := beq_eq_false_iff_ne.mp hxy
  have e1 : o1.data = .cell (some vx) := by simpa [Ne.symm hyx] using d1
  have e2 : o2.data = .cell (some vy) := by simpa using d2
  have V : VarsOk c scope [(x, vx), (y, vy)] [] ((L' + 1 + 1, o2) :: (L' + 1, o1) :: led) := vars2 hkx hky hyx hx9 hy9 (hcl L') e1 e2
  refine h c (L' + 1) (L' + 1 + 1) o1 o2 rfl (hcl L') e1 e2 C (fun p hp => Nat.lt_succ_of_lt (lt p hp)) (Nat.lt_succ_self _) V h₁ tk _ hF N' (fun f vars' led' hp' tk' F'' N'' K' V' ok hR => ?_) fun v led' hp' tk' m' F'' N'' hR => leaveK_ F'' N'' fun Fo No => hret (.v v) led' hp' tk' hR Fo No
  cases f with
  | ret v => exact leaveK_ F'' N'' fun Fo No => hret v led' hp' tk' hR Fo No
  | _ => exact leaveK_ F'' N'' fun Fo No => hret (.v .none) led' hp' tk' hR Fo No
section
variable {c : Cx} {cs : Scope} {cv : List (Str × Value)} {vars : Vars} {led : Led} {k : SV → Led → Prop}
theorem cell_val (V : VarsOk c cs cv vars led) {x : Str} {v : Value} (h : cv.lookup x = some v) (R : Rdy c cs) {hp : Heap} {tk : Nat} {Q : Value → Shared → Prop} {pos : Pos} (N : News c.h₀ c.L hp led) (hQ : Q v ⟨hp, c.gs, c.dr, tk, c.os⟩) :
    wpAny (model PySem.Challenge.rw_pf0366_01.row.prog c.w) c.A (eval (.Name x pos) (c.env cs)) Q c.E ⟨hp, c.gs, c.dr, tk, c.os⟩ := by
  obtain ⟨h1, h2, a, o, h3, h4, h5⟩ := V.2 x v h
  rcases h1 with h1 | ⟨h1, h6⟩
  · exact nameX_C N h3 h4 h5 hQ R.kind h1 h2
  · exact nameX_F N h3 h4 h5 hQ R.kind h1 h2 h6
/-- depth > 0 -/
theorem gt_cell {k : Bool → Led → Prop} {x : Str} {n : Int} {t : Tok} {p1 p2 pos : Pos} {k1 : Nat} (R : Rdy c cs) (hl : cv.lookup x = some (.int n t)) (h : k (decide (0 < n)) led) : RawB c cs cv vars led (.Compare (.Name x p1) [.Gt] [.Constant (.int 0) k1 p2] pos) k :=
  .of fun V hp tk Q F N hQ => wpAny_isTrue_Compare1 (cell_val V hl R N (wpAny_Constant_int (PyProof.Rows.gt_int (wpAny_truthy_bool (hQ _ _ _ _ F N .rfl h))))) rfl
/-- depth - 1 -/
theorem sub_ev {a b : Int} {t u : Tok} (h : ∀ t, k (.v (.int (a - b) t)) led) : AddP c vars led .Sub (.v (.int a t)) (.v (.int b u)) k :=
  .of fun _ _ hp tk Q F N hQ => PyProof.Rows.sub_int (hQ _ _ _ _ F N .rfl ⟨_, rfl, .v, h _⟩)
theorem subw_list {e i : PySem.Expr} {l : Addr} {vs : List Value} {n : Nat} {j : Int} {t : Tok} {x : Value} (hm : (l, listOf vs.toArray n) ∈ led) (h0 : 0 ≤ j) (h1 : j < 1000) (hx : vs[j.toNat]? = some x)
    (hs : subscripted i false (.ref l) (.int j t) = operate [.ref l, .int j t] (getItem (.ref l) (.int j t))) (h : k (.v x) led) : SubW c vars led e i (.v (.ref l)) (.v (.int j t)) k :=
  .of fun _ _ hp tk Q F N hQ => item_at (x := x) N hm h0 (by omega) (by simpa using hx) (hQ _ _ _ _ F N .rfl ⟨_, rfl, .v, h⟩) hs
end
end P_V6

section P_KD
open PySem PySem.W PyProof.Rows PySem.Calls PySem.Spec
open Sem (wp)
/-- every object keeps its dict's address -/
noncomputable def DK (h h' : Heap) : Prop := ∀ b o, h.get? b = some o → ∃ o', h'.get? b = some o' ∧ o'.dict = o.dict
theorem DK.refl (h : Heap) : DK h h := fun _ o e => ⟨o, e, rfl⟩
theorem DK.trans {a b c : Heap} (x : DK a b) (y : DK b c) : DK a c := fun p o e =>
  let ⟨_, e1, r1⟩ := x p o e; let ⟨o2, e2, r2⟩ := y p _ e1; ⟨o2, e2, r2.trans r1⟩
theorem DK.of_keeps {h h' : Heap} (k : ∀ b o, h.get? b = some o → h'.get? b = some o) : DK h h' := fun b o e => ⟨o, k b o e, rfl⟩
/-- a tree whose stores leave the dicts' addresses, and that calls nothing -/
noncomputable def KeepsD {α : Type} : Sem α → Prop
  | .rule _ k => KeepsD (k ())
  | .at _ k => KeepsD (k ())
  | .load _ _ k => ∀ o, KeepsD (k o)
  | .update _ _ f k => (∀ o : Obj, (f o).dict = o.dict ∧ (o.isFreed = false → (f o).isFreed = false)) ∧ KeepsD (k ())
  | .alloc _ k => ∀ a, KeepsD (k a)
  | .loadIfAlive _ k => ∀ o, KeepsD (k o)
  | .point _ k => KeepsD (k ())
  | .fresh k => ∀ t, KeepsD (k t)
  | .ask k => ∀ t, KeepsD (k t)
  | .choose _ _ k => ∀ t, KeepsD (k t)
  | .os _ _ k => ∀ t, KeepsD (k t)
  | .call .. => False
  | .handled _ k => ∀ t, KeepsD (k t)
  | .genState _ k => ∀ t, KeepsD (k t)
  | .newGen _ k => ∀ t, KeepsD (k t)
  | .resume .. => False
  | .stack k => ∀ t, KeepsD (k t)
  | .thread k => ∀ t, KeepsD (k t)
  | _ => True
theorem dk_update {h : Heap} {a : Addr} {f : Obj → Obj} (hf : ∀ o : Obj, (f o).dict = o.dict ∧ (o.isFreed = false → (f o).isFreed = false)) : DK h (h.update a f) := by
  intro b o e
  by_cases hb : a = b
  · subst hb
    exact ⟨f o, Heap.get?_update_self f e ((hf o).2 (Heap.get?_some_iff.mp e).2), (hf o).1⟩
  · exact ⟨o, (Heap.get?_update_other h f hb).trans e, rfl⟩
theorem wp_keepsD {α : Type} {M : Model} {Γ : PySem.Ctx} : ∀ (t : Sem α), KeepsD t → ∀ (Q : α → Pos → Shared → Prop) (E : Value → Pos → Shared → Prop) (p : Pos) (s : Shared), wp M Γ t Q E p s →
    wp M Γ t (fun a p' s' => Q a p' s' ∧ DK s.heap s'.heap) (fun a p' s' => E a p' s' ∧ DK s.heap s'.heap) p s := by
  intro t
  induction t with
  | pure a => intro _ Q E p s h; simp only [wp] at h ⊢; exact ⟨h, DK.refl _⟩
  | raise e => intro _ Q E p s h; simp only [wp] at h ⊢; exact ⟨h, DK.refl _⟩
  | unsupported w => intro _ Q E p s h; simp only [wp] at h
  | finish e => intro _ Q E p s h; simp only [wp] at h
  | rule t k ih => intro hk Q E p s h; simp only [wp] at h ⊢; exact ih () hk Q E p s h
  | «at» pos k ih => intro hk Q E p s h; simp only [wp] at h ⊢; exact ih () hk Q E _ s h
  | load a part k ih => intro hk Q E p s h; simp only [wp] at h ⊢; obtain ⟨o, ho, h⟩ := h; exact ⟨o, ho, ih o (hk o) Q E p s h⟩
  | update a part f k ih =>
    intro hk Q E p s h
    simp only [wp] at h ⊢
    refine ⟨h.1, Sem.wp_mono M Γ _ (fun a p' s' x => ⟨x.1, (dk_update hk.1).trans x.2⟩) (fun a p' s' x => ⟨x.1, (dk_update hk.1).trans x.2⟩) _ _ (ih () hk.2 Q E p _ h.2)⟩
  | alloc o k ih =>
    intro hk Q E p s h
    simp only [wp] at h ⊢
    have up : DK s.heap (s.heap.push o) := DK.of_keeps fun b o' e => Heap.get?_push_of_some o e
    exact Sem.wp_mono M Γ _ (fun a p' s' x => ⟨x.1, up.trans x.2⟩) (fun a p' s' x => ⟨x.1, up.trans x.2⟩) _ _ (ih _ (hk _) Q E p _ h)
  | loadIfAlive a k ih => intro hk Q E p s h; simp only [wp] at h ⊢; exact ih _ (hk _) Q E p s h
  | point l k ih => intro hk Q E p s h; simp only [wp] at h ⊢; exact ih () hk Q E p s h
  | register a k ih => intro hk Q E p s h; simp only [wp] at h
  | fresh k ih => intro hk Q E p s h; simp only [wp] at h ⊢; exact ih _ (hk _) Q E p _ h
  | ask k ih => intro hk Q E p s h; simp only [wp] at h ⊢; exact ih _ (hk _) Q E p s h
  | choose src n k ih => intro hk Q E p s h; simp only [wp] at h ⊢; exact ⟨h.1, ih _ (hk _) Q E p _ h.2⟩
  | os q l k ih => intro hk Q E p s h; simp only [wp] at h ⊢; exact ih _ (hk _) Q E p _ h
  | call c hd g l k ih => intro hk; exact hk.elim
  | handled o k ih => intro hk Q E p s h; simp only [wp] at h ⊢; exact ih _ (hk _) Q E p s h
  | newGen c k ih => intro hk Q E p s h; simp only [wp] at h ⊢; exact ih _ (hk _) Q E p _ h
  | genState g k ih => intro hk Q E p s h; simp only [wp] at h ⊢; obtain ⟨st, hs, h⟩ := h; exact ⟨st, hs, ih _ (hk _) Q E p s h⟩
  | resume g r l k ih => intro hk; exact hk.elim
  | yield v g l k ih => intro hk Q E p s h; simp only [wp] at h
  | stack k ih => intro hk Q E p s h; simp only [wp] at h ⊢; exact ih _ (hk _) Q E p s h
  | fork c k ih => intro hk Q E p s h; simp only [wp] at h
  | thread k ih => intro hk Q E p s h; simp only [wp] at h ⊢; exact ih _ (hk _) Q E p s h
  | await a t d l k ih => intro hk Q E p s h; simp only [wp] at h
theorem wpAny_keepsD {α : Type} {M : Model} {A : Around} {t : Sem α} {Q : α → Shared → Prop} {E : Value → Shared → Prop} {s : Shared} (hk : KeepsD t) (h : wpAny M A t Q E s) : wpAny M A t (fun a s' => Q a s' ∧ DK s.heap s'.heap) (fun e s' => E e s' ∧ DK s.heap s'.heap) s :=
  fun Γ p hΓ => wp_keepsD t hk _ _ p s (h Γ p hΓ)
theorem keepsD_bind {α β : Type} : ∀ (t : Sem α) (f : α → Sem β), KeepsD t → (∀ a, KeepsD (f a)) → KeepsD (t >>= f) := by
  intro t f
  show KeepsD t → _ → KeepsD (Sem.bind t f)
  induction t with
  | pure a => exact fun _ h => h a
  | raise e => exact fun _ _ => trivial
  | unsupported w => exact fun _ _ => trivial
  | finish e => exact fun _ _ => trivial
  | rule t k ih => exact fun hk h => ih () hk h
  | «at» pos k ih => exact fun hk h => ih () hk h
  | load a part k ih => exact fun hk h o => ih o (hk o) h
  | update a part f k ih => exact fun hk h => ⟨hk.1, ih () hk.2 h⟩
  | alloc o k ih => exact fun hk h a => ih a (hk a) h
  | loadIfAlive a k ih => exact fun hk h o => ih o (hk o) h
  | point l k ih => exact fun hk h => ih () hk h
  | register a k ih => exact fun _ _ => trivial
  | fresh k ih => exact fun hk h a => ih a (hk a) h
  | ask k ih => exact fun hk h a => ih a (hk a) h
  | choose src n k ih => exact fun hk h a => ih a (hk a) h
  | os q l k ih => exact fun hk h a => ih a (hk a) h
  | call c hd g l k ih => exact fun hk _ => hk.elim
  | handled o k ih => exact fun hk h a => ih a (hk a) h
  | newGen c k ih => exact fun hk h a => ih a (hk a) h
  | genState g k ih => exact fun hk h a => ih a (hk a) h
  | resume g r l k ih => exact fun hk _ => hk.elim
  | yield v g l k ih => exact fun _ _ => trivial
  | stack k ih => exact fun hk h a => ih a (hk a) h
  | fork c k ih => exact fun _ _ => trivial
  | thread k ih => exact fun hk h a => ih a (hk a) h
  | await a t d l k ih => exact fun _ _ => trivial
theorem kd_pure {α : Type} (a : α) : KeepsD (pure a : Sem α) := trivial
theorem kd_uns {α : Type} (w : String) : KeepsD (unsupported w : Sem α) := trivial
theorem kd_load (a : Addr) : KeepsD (load a) := fun _ => trivial
theorem kd_stack : KeepsD stack := fun _ => trivial
theorem kd_map (a : Addr) (f : Array Value → Array Value) : KeepsD (update a (Obj.mapFields f)) := by
  refine ⟨fun o => ?_, trivial⟩
  obtain ⟨c, d, dt, sl⟩ := o
  cases dt <;> exact ⟨rfl, fun h => h⟩
theorem kd_fieldsOf (v : Value) : KeepsD (fieldsOf v) := by
  unfold fieldsOf
  cases v <;> try exact kd_uns _
  refine keepsD_bind _ _ (kd_load _) fun o => ?_
  cases o.data <;> first | exact kd_pure _ | exact kd_uns _
theorem kd_field (v : Value) (i : Nat) : KeepsD (field v i) := by
  unfold field
  refine keepsD_bind _ _ (kd_fieldsOf v) fun vs => ?_
  split <;> first | exact kd_pure _ | exact kd_uns _
theorem kd_setField (v : Value) (i : Nat) (x : Value) : KeepsD (setField v i x) := by
  unfold setField
  cases v <;> try exact kd_uns _
  unfold updateField
  refine keepsD_bind _ _ (kd_load _) fun o => ?_
  split
  · split
    · exact kd_map _ _
    · exact kd_uns _
  · exact kd_uns _
theorem kd_setFlight (v : Value) (f : Option Addr) : KeepsD (setFlight v f) := by
  unfold setFlight
  refine keepsD_bind _ _ (kd_field _ _) fun tb => ?_
  split
  · exact kd_setField _ _ _
  · exact kd_pure _
theorem kd_keptBack (env : Env) (i : Bool) (l : List Env) : KeepsD (keptBack env i l) := by
  unfold keptBack
  cases l with
  | nil =>
    dsimp only
    split
    · exact kd_pure _
    · refine keepsD_bind _ _ ?_ fun _ => kd_pure _
      unfold underTheClaimsCaller
      exact keepsD_bind _ _ kd_stack fun _ => kd_pure _
  | cons c r => exact kd_pure _
theorem kd_behind (env : Env) (l : List Env) : KeepsD (behindIsImport env l) := by
  unfold behindIsImport
  split
  · exact kd_pure _
  · split
    · exact kd_pure _
    · exact keepsD_bind _ _ (kd_field _ _) fun _ => kd_pure _
theorem kd_ready : ∀ l, KeepsD (readyFrames l)
  | [] => kd_pure _
  | env :: outer => by
    unfold readyFrames
    split
    · refine keepsD_bind _ _ (kd_load _) fun o => ?_
      split
      · exact kd_pure _
      · refine keepsD_bind _ _ (kd_behind _ _) fun i => keepsD_bind _ _ (kd_keptBack _ _ _) fun back => keepsD_bind _ _ ?_ fun _ => kd_ready outer
        refine ⟨fun o => ?_, trivial⟩
        obtain ⟨c, d, dt, sl⟩ := o
        cases dt <;> exact ⟨rfl, fun h => h⟩
    · exact kd_uns _
theorem kd_frameOf (env : Env) : KeepsD (PySem.frameOf env) := by
  unfold PySem.frameOf
  refine keepsD_bind _ _ ?_ fun l => keepsD_bind _ _ ?_ fun r => ?_
  · unfold frameEnvs
    exact keepsD_bind _ _ kd_stack fun _ => kd_pure _
  · unfold frameObject
    split
    · exact kd_pure _
    · exact keepsD_bind _ _ (kd_ready _) fun _ => kd_pure _
  · split
    · exact kd_pure _
    · exact kd_uns _
theorem kd_place (f : Addr) (b : Bool) : KeepsD (entryPlaceOf f b) := by
  unfold entryPlaceOf
  refine keepsD_bind _ _ kd_stack fun acts => ?_
  split <;> exact kd_pure _
theorem kd_newEntry (a b c d e : Value) (l : List Value) : KeepsD (EntryCells.newEntry a b c d e l) := by
  unfold EntryCells.newEntry newFields newObj
  have h : ∀ cls data, KeepsD (newObjAsIs (.type cls) data) := fun cls data => by
    unfold newObjAsIs
    exact keepsD_bind _ _ (fun _ => trivial) fun _ => kd_pure _
  have h2 : ∀ (vs : Array Value), KeepsD (if vs.size > sizeLine + 2 then do
      unsupported "record:memory"
      newObjAsIs (Value.type "traceback") (Data.fields vs)
    else newObjAsIs (Value.type "traceback") (Data.fields vs)) := fun vs => by
    by_cases hc : vs.size > sizeLine + 2
    · rw [if_pos hc]; exact keepsD_bind _ _ (kd_uns _) fun _ => h _ _
    · rw [if_neg hc]; exact h _ _
  exact h2 _
theorem kd_noteFrame (e : Value) (env : Env) : KeepsD (noteFrame e env) := by
  unfold noteFrame
  split
  · refine keepsD_bind _ _ (kd_field _ _) fun head => ?_
    have fin : ∀ f, KeepsD (do setField e 1 (← EntryCells.newEntry head (← PySem.frameOf env) .none (rawInt f) .none (← entryPlaceOf f (head != .none)))) := fun f =>
      keepsD_bind _ _ (kd_frameOf _) fun _ => keepsD_bind _ _ (kd_place _ _) fun _ => keepsD_bind _ _ (kd_newEntry _ _ _ _ _ _) fun _ => kd_setField _ _ _
    split
    · refine keepsD_bind _ _ (kd_field _ _) fun x => ?_
      split
      · exact kd_pure _
      · exact keepsD_bind _ _ (kd_setField _ _ _) fun _ => fin _
    · exact fin _
  · exact kd_uns _
theorem kd_leaving (env : Env) (e : Value) : KeepsD (leaving env e) := by
  unfold leaving
  exact keepsD_bind _ _ (kd_noteFrame _ _) fun _ => kd_setFlight _ _
end P_KD

open PySem PySem.W PyProof.Rows PySem.Calls PySem.Spec
local macro_rules | `(tactic| walk_at $s:str) => `(tactic| k_extra $s)
local macro_rules | `(tactic| tb_rel) => `(tactic| first
  | with_reducible exact mem_hd
  | (with_reducible refine' mem_tl ?_; tb_rel)
  | (with_reducible refine' mem_l ?_; with_reducible assumption)
  | (with_reducible refine' mem_r ?_; tb_rel)
  | with_reducible assumption)
local macro_rules | `(tactic| k_mem) => `(tactic| tb_rel)
local macro_rules | `(tactic| news_mem) => `(tactic| tb_rel)
local macro_rules | `(tactic| k_lt $h) => `(tactic| replace $h := allLt_of $h)
local macro_rules | `(tactic| k_ne) => `(tactic| k_extra "k_ne")
local macro_rules | `(tactic| tb_start) => `(tactic| first
  | exact Suf.head
  | (with_reducible refine' Suf.skip ?a; (case a => tb_start))
  | (with_reducible refine' Suf.cons ?a; (case a => tb_start))
  | (with_reducible refine' Suf.app ?a; (case a => tb_start))
  | with_reducible exact Sel.head
  | (with_reducible refine' Sel.skip ?a; (case a => tb_start))
  | (with_reducible refine' Sel.cons ?a; (case a => tb_start))
  | (with_reducible refine' Sel.app ?a; (case a => tb_start))
  | exact newer_nil
  | (with_reducible refine' newer_cons (allLt_cons ?x ?y) ?b; (case x => first | exact ltm (by with_reducible assumption) (by tb_rel) | omega); (case y => exact allLt_sub (by with_reducible assumption) (by (intro p9 hp9; tb_rel))); (case b => tb_start))
  | (with_reducible refine' newer_cons ?x ?b; (case x => exact allLt_sub (by with_reducible assumption) (by (intro p9 hp9; tb_rel))); (case b => tb_start))
  | (with_reducible refine' newer_app (newer_sub ?z ?u) ?b; (case z => with_reducible assumption); (case u => (intro p9 hp9; tb_rel)); (case b => tb_start))
  | (with_reducible refine' newer_app (newer_old (newer_of ?x ?y) (newer_sub ?z ?u)) ?b; (case x => with_reducible assumption); (case y => tb_rel); (case z => with_reducible assumption); (case u => (intro p9 hp9; tb_rel)); (case b => tb_start)))
local macro_rules | `(tactic| ktr_rel) => `(tactic| first
  | with_reducible assumption
  | (with_reducible refine' List.forall_mem_cons.mpr ⟨?a, ?b⟩; (case a => k_ne); (case b => ktr_rel))
  | (with_reducible refine' apart_app ?a ?b; (case a => ktr_rel); (case b => ktr_rel))
  | exact apart_new (by with_reducible assumption) (by tb_rel)
  | exact apart_of_lt (by with_reducible assumption)
  | exact apart_of_lt (allLt_sub (by with_reducible assumption) (by (intro p9 hp9; tb_rel)))
  | exact apart_off1 (by with_reducible assumption) (by (intro p9 hp9; tb_rel)))
local macro_rules | `(tactic| k_all) => `(tactic| ktr_rel)
local macro_rules | `(tactic| k_upd) => `(tactic| (with_reducible refine' upd_app ?a ?b; (case a => k_all); (case b => k_upd)))
local macro_rules | `(tactic| k_updF) => `(tactic| (with_reducible refine' updF_app ?a ?b; (case a => k_all); (case b => k_updF)))
local macro_rules | `(tactic| walk_at "ite") => `(tactic| first | refine ite_yes' (by decide) ?_ | refine ite_no' (by decide) ?_ | refine ite_yes' (by with_reducible assumption) ?_ | refine ite_no' (by with_reducible assumption) ?_ | refine ite_nob' (by with_reducible assumption) ?_ | refine ite_nob' (by k_dflt exact rfl) ?_ | refine ite_yes' (by k_dflt exact rfl) ?_ | refine ite_yes' (by decide +kernel) ?_ | refine ite_no' (by decide +kernel) ?_)

section P_TR
open PySem PySem.W PyProof.Rows PySem.Calls PySem.Spec
set_option maxRecDepth 100000
set_option maxHeartbeats 8000000
noncomputable def cost : Nat → Nat
  | 0 => 2
  | d + 1 => 3 + 3 * cost d
noncomputable def TreeRet (fd ca : Addr) (ef : Nat) (imm : Led) (h₀ : Heap) (L : Addr) (m : Str → Option Value) (d : Nat) (t : Int) (tk0 : Tok) (Q : Value → Shared → Prop) (s : Shared) : Prop :=
  ∀ T tl t' tk' h' tkk, Fr h₀ L h' m → News h₀ L h' (tl ++ ((fd, feedO ca t' tk' ef) :: imm)) → Newer ((fd, feedO ca t tk0 ef) :: imm) tl → TIn tl T → T.height ≤ d + 1 → 0 ≤ t' → t' ≤ t + (cost d : Nat) → Q (.ref T.ad) { s with heap := h', toks := tkk }
noncomputable def TreeOK (w : World) (p : Program) (loose : List Str) (mean : ExcName → Option Value) (mg mb : Str → Option Value) (fd ca : Addr) (vs : List Value) (nc ef : Nat) (d : Nat) : Prop :=
  ∀ (dp un : Nat) (gd : Option (List Code)) (cn : Str) (cs : Scope) (a : Addr) (ccd : Value) (cl : List (Str × Addr)) (outer : List Env) (A₀ : Around) (base h₀ : Heap) (L : Addr) (m : Str → Option Value) (imm : Led) (s : Shared) (t : Int) (tk0 tkd : Tok)
    (Q E : Value → Shared → Prop),
    Below A₀ base outer h₀ → Fr h₀ L s.heap m → (hd.heap_1 w.params).In h₀ → News h₀ L s.heap ((fd, feedO ca t tk0 ef) :: imm) → Top p loose mean mg mb h₀ → cs.kind = .function → dp + 3 * d + 10 < recursionLimit → un + 20 * d + 40 < cLine →
    (ca, listOf vs.toArray nc) ∈ imm → 0 ≤ t → t + (cost d : Nat) < 1000 → Apart fd imm → TreeRet fd ca ef imm h₀ L m d t tk0 Q s →
    wpAny (model PySem.Challenge.rw_pf0366_01.row.prog w) (ktrTop dp un gd cn cs L a ccd cl outer) (call (.ref 94) [.ref fd, .int d tkd]) Q E s
/-- the new part stands above the feed and all that was -/
noncomputable def NW (fd : Addr) (imm tl : Led) : Prop := ∀ p ∈ tl, @LT.lt Nat _ fd p.1 ∧ ∀ q ∈ imm, @LT.lt Nat _ q.1 p.1
section
variable {fd ca : Addr} {vs : List Value} {ns : List Int} {nc ef : Nat} {imm tl : Led} {t : Int} {tk : Tok}
theorem NW.nil : NW fd imm [] := fun _ h => nomatch h
theorem NW.cons {D : Addr} {o o' : Obj} (h : NW fd imm tl) (l : ∀ p ∈ tl ++ (fd, o') :: imm, p.1 < D) : NW fd imm ((D, o) :: tl) := by
  intro p hp
  rcases List.mem_cons.mp hp with rfl | hp
  · exact ⟨l _ (List.mem_append_right _ (.head _)), fun q hq => l q (List.mem_append_right _ (.tail _ hq))⟩
  · exact h p hp
theorem NW.app {tl' : Led} {o' : Obj} (h : NW fd imm tl) (n : Newer (tl ++ (fd, o') :: imm) tl') : NW fd imm (tl' ++ tl) := by
  intro p hp
  rcases List.mem_append.mp hp with hp | hp
  · exact ⟨n _ (List.mem_append_right _ (.head _)) p hp, fun q hq => n q (List.mem_append_right _ (.tail _ hq)) p hp⟩
  · exact h p hp
theorem NW.newer {o : Obj} (h : NW fd imm tl) : Newer ((fd, o) :: imm) tl := by
  intro q hq p hp
  rcases List.mem_cons.mp hq with rfl | hq
  · exact (h p hp).1
  · exact (h p hp).2 q hq
theorem NW.upd {o : Obj} (h : NW fd imm tl) (hap : Apart fd imm) : UpdF fd o (tl ++ (fd, o) :: imm) (fun o' => tl ++ (fd, o') :: imm) := updF_app (fun p hp => Nat.ne_of_gt (h p hp).1) (.head hap)
/-- what does not change while a tree is made -/
structure Fd (fd ca : Addr) (vs : List Value) (ns : List Int) (nc : Nat) (imm : Led) : Prop where
  hvs : IntsAre vs ns
  hlen : ns.length ≤ 63
  hcf : ca ≠ fd
  hca : (ca, listOf vs.toArray nc) ∈ imm
  hap : Apart fd imm
variable {c : Cx} {cs : Scope} {vars : Vars} {k : SV → Led → Prop} {p : Program} {loose : List Str} {mean : ExcName → Option Value} {mg mb : Str → Option Value} {dp un : Nat}
theorem next_ev (C : Can c cs p loose mean mg mb dp un) (Z : Fd fd ca vs ns nc imm) (hd : dp + 3 < recursionLimit) {many : Int} {tkm : Tok} (nw : NW fd imm tl) (ht0 : 0 ≤ t) (ht1 : t < 1000) (hm0 : 0 < many) (hm1 : many < 1000)
    (h : ∀ r tkr tk', 0 ≤ r → r < many → k (.v (.int r tkr)) (tl ++ (fd, feedO ca (t + 1) tk' ef) :: imm)) : CallP c vars (tl ++ (fd, feedO ca t tk ef) :: imm) (.ref 89) [.v (.ref fd), .v (.int many tkm)] k := by
  refine .of fun _ hp tk0 Q F N hQ => ?_
  obtain ⟨gd, outer, A₀, base, hA, B⟩ := C.top
  rw [hA]
  exact next_use B F C.X N C.T C.kind hd (nw.upd Z.hap) (List.mem_append_right _ (.tail _ Z.hca)) Z.hvs Z.hcf Z.hlen ht0 ht1 hm0 hm1 fun r tkr t' h' tk' h0 h1 F' N' => hQ _ _ h' tk' F' N' (.upd (nw.upd Z.hap)) ⟨_, rfl, .v, h r tkr t' h0 h1⟩
theorem tree_call {w : World} {gd : Option (List Code)} {cn : Str} {a : Addr} {ccd : Value} {cl : List (Str × Addr)} {outer : List Env} {A₀ : Around} {base h₀ : Heap} {L : Addr} {m : Str → Option Value} {led : List (Addr × Obj)} {s : Shared}
    {Q E : Value → Shared → Prop} {d : Nat} {dv : Int} {tk0 tkd : Tok} {g : Obj → Led} (C : TreeOK w p loose mean mg mb fd ca vs nc ef d)
    (B : Below A₀ base outer h₀) (F : Fr h₀ L s.heap m) (X : (hd.heap_1 w.params).In h₀) (N : News h₀ L s.heap led) (T : Top p loose mean mg mb h₀) (hk : cs.kind = .function) (hd1 : dp + 3 * d + 10 < recursionLimit) (hu1 : un + 20 * d + 40 < cLine)
    (U : UpdF fd (feedO ca t tk0 ef) led g) (hca : (ca, listOf vs.toArray nc) ∈ led) (hcf : ca ≠ fd) (ht0 : 0 ≤ t) (ht1 : t + (cost d : Nat) < 1000) (he : dv = d)
    (hret : ∀ T tl t' tk' h' tkk, Fr h₀ L h' m → News h₀ L h' (tl ++ g (feedO ca t' tk' ef)) → Newer led tl → TIn tl T → T.height ≤ d + 1 → 0 ≤ t' → t' ≤ t + (cost d : Nat) → Q (.ref T.ad) { s with heap := h', toks := tkk }) :
    wpAny (model PySem.Challenge.rw_pf0366_01.row.prog w) (ktrTop dp un gd cn cs L a ccd cl outer) (call (.ref 94) [.ref fd, .int dv tkd]) Q E s := by
  subst he
  obtain ⟨own, rest, rfl, hg, h1, h2⟩ := U.split
  have hto : ∀ q, q ∈ (fd, feedO ca t tk0 ef) :: (own ++ rest) ↔ q ∈ own ++ (fd, feedO ca t tk0 ef) :: rest := fun q => by simp [List.mem_cons, List.mem_append]; grind
  refine C dp un gd cn cs a ccd cl outer A₀ base h₀ L m (own ++ rest) s t tk0 tkd Q E B F X (fun q hq => N q ((hto q).mp hq)) T hk hd1 hu1 ?_ ht0 ht1 ?_ ?_
  · rcases List.mem_cons.mp ((hto _).mpr hca) with e | hq
    · exact absurd (congrArg Prod.fst e) hcf
    · exact hq
  · exact apart_app h1 h2
  · intro T tl t' tk' h' tkk F' N' nw hT hh h0' h1'
    refine hret T tl t' tk' h' tkk F' ?_ (fun q hq => nw q ((hto q).mpr hq)) hT hh h0' h1'
    rw [hg]
    intro q hq
    refine N' q ?_
    simp only [List.mem_append, List.mem_cons] at hq ⊢
    grind
theorem tree_ev {d : Nat} {dv : Int} {tkd : Tok} (I : TreeOK c.w p loose mean mg mb fd ca vs nc ef d) (C : Can c cs p loose mean mg mb dp un) (Z : Fd fd ca vs ns nc imm) (hd : dp + 3 * d + 10 < recursionLimit) (hu : un + 20 * d + 40 < cLine) (nw : NW fd imm tl) (ht0 : 0 ≤ t) (ht1 : t + (cost d : Nat) < 1000) (he : dv = d)
    (h : ∀ T tl' t' tk', NW fd imm (tl' ++ tl) → TIn tl' T → T.height ≤ d + 1 → 0 ≤ t' → t' ≤ t + (cost d : Nat) → k (.v (.ref T.ad)) ((tl' ++ tl) ++ (fd, feedO ca t' tk' ef) :: imm)) : CallP c vars (tl ++ (fd, feedO ca t tk ef) :: imm) (.ref 94) [.v (.ref fd), .v (.int dv tkd)] k := by
  refine .of fun _ hp tk0 Q F N hQ => ?_
  obtain ⟨gd, outer, A₀, base, hA, B⟩ := C.top
  rw [hA]
  refine tree_call I B F C.X N C.T C.kind hd hu (nw.upd Z.hap) (List.mem_append_right _ (.tail _ Z.hca)) Z.hcf ht0 ht1 he fun T tl' t' tk' h' tkk F' N' nw' hT hh h0 h1 => ?_
  refine hQ _ ((tl' ++ tl) ++ (fd, feedO ca t' tk' ef) :: imm) h' tkk F' (by rw [List.append_assoc]; exact N') ?_ ⟨_, rfl, .v, h T tl' t' tk' (nw.app nw') hT hh h0 h1⟩
  refine (Keeps.upd (its' := #[.ref ca, .int t' tk']) (n' := ef) (nw.upd Z.hap)).trans (.sub fun q hq => ?_)
  rw [List.append_assoc]
  exact List.mem_append_right _ hq
/-- what the call comes to -/
noncomputable def TreeR (fd ca : Addr) (ef : Nat) (imm : Led) (d : Nat) (t : Int) (v : SV) (led : Led) : Prop :=
  ∃ T tl t' tk', v.val = .ref (Tr.ad T) ∧ (∀ p ∈ tl ++ ((fd, feedO ca t' tk' ef) :: imm), p ∈ led) ∧ NW fd imm tl ∧ TIn tl T ∧ T.height ≤ d + 1 ∧ 0 ≤ t' ∧ t' ≤ t + (cost d : Nat)
theorem TreeR.of {d : Nat} {v : SV} {t' : Int} {tk' : Tok} (T : Tr) (e : v.val = .ref T.ad) (nw : NW fd imm tl) (hT : TIn tl T) (hh : T.height ≤ d + 1) (h0 : 0 ≤ t') (h1 : t' ≤ t + (cost d : Nat)) : TreeR fd ca ef imm d t v (tl ++ (fd, feedO ca t' tk' ef) :: imm) :=
  ⟨T, tl, t', tk', e, fun _ h => h, nw, hT, hh, h0, h1⟩
end
@[elab_as_elim] theorem cases10 {P : Int → Prop} (r : Int) (h0 : 0 ≤ r) (h1 : r < 10) (p0 : P 0) (p1 : P 1) (p2 : P 2) (p3 : P 3) (p4 : P 4) (p5 : P 5) (p6 : P 6) (p7 : P 7) (p8 : P 8) (p9 : P 9) : P r := by
  have hl : ∀ x ∈ ([0, 1, 2, 3, 4, 5, 6, 7, 8, 9] : List Int), P x := List.forall_mem_cons.mpr ⟨p0, List.forall_mem_cons.mpr ⟨p1, List.forall_mem_cons.mpr ⟨p2, List.forall_mem_cons.mpr ⟨p3, List.forall_mem_cons.mpr ⟨p4, List.forall_mem_cons.mpr ⟨p5, List.forall_mem_cons.mpr ⟨p6, List.forall_mem_cons.mpr ⟨p7, List.forall_mem_cons.mpr ⟨p8, List.forall_mem_cons.mpr ⟨p9, fun _ h => nomatch h⟩⟩⟩⟩⟩⟩⟩⟩⟩⟩
  cases r with
  | ofNat k => exact hl _ ((by decide +kernel : ∀ k, k < 10 → Int.ofNat k ∈ ([0, 1, 2, 3, 4, 5, 6, 7, 8, 9] : List Int)) k (Int.ofNat_lt.mp h1))
  | negSucc k => exact absurd h0 (by exact Int.not_le.mpr (Int.negSucc_lt_zero k))
@[elab_as_elim] theorem cases4 {P : Int → Prop} (r : Int) (h0 : 0 ≤ r) (h1 : r < 4) (p0 : P 0) (p1 : P 1) (p2 : P 2) (p3 : P 3) : P r := by
  have hl : ∀ x ∈ ([0, 1, 2, 3] : List Int), P x := List.forall_mem_cons.mpr ⟨p0, List.forall_mem_cons.mpr ⟨p1, List.forall_mem_cons.mpr ⟨p2, List.forall_mem_cons.mpr ⟨p3, fun _ h => nomatch h⟩⟩⟩⟩
  cases r with
  | ofNat k => exact hl _ ((by decide +kernel : ∀ k, k < 4 → Int.ofNat k ∈ ([0, 1, 2, 3] : List Int)) k (Int.ofNat_lt.mp h1))
  | negSucc k => exact absurd h0 (by exact Int.not_le.mpr (Int.negSucc_lt_zero k))
@[elab_as_elim] theorem cases3 {P : Int → Prop} (r : Int) (h0 : 0 ≤ r) (h1 : r < 3) (p0 : P 0) (p1 : P 1) (p2 : P 2) : P r := by
  have hl : ∀ x ∈ ([0, 1, 2] : List Int), P x := List.forall_mem_cons.mpr ⟨p0, List.forall_mem_cons.mpr ⟨p1, List.forall_mem_cons.mpr ⟨p2, fun _ h => nomatch h⟩⟩⟩
  cases r with
  | ofNat k => exact hl _ ((by decide +kernel : ∀ k, k < 3 → Int.ofNat k ∈ ([0, 1, 2] : List Int)) k (Int.ofNat_lt.mp h1))
  | negSucc k => exact absurd h0 (by exact Int.not_le.mpr (Int.negSucc_lt_zero k))
/-- how far the feed is -/
noncomputable def Up (d : Nat) (t t' : Int) (j k : Nat) : Prop := 0 ≤ t' ∧ t' ≤ t + j + (k * cost d : Nat)
theorem Up.start {d : Nat} {t : Int} (h : 0 ≤ t) : Up d t t 0 0 := ⟨h, by omega⟩
theorem Up.next {d : Nat} {t t' : Int} {j k : Nat} (U : Up d t t' j k) : Up d t (t' + 1) (j + 1) k := ⟨Int.le_trans U.1 (Int.le_add_of_nonneg_right (by decide)), by have := U.2; omega⟩
theorem Up.tree {d : Nat} {t t' t2 : Int} {j k : Nat} (U : Up d t t' j k) (h0 : 0 ≤ t2) (h1 : t2 ≤ t' + (cost d : Nat)) : Up d t t2 j (k + 1) := ⟨h0, by have := U.2; rw [Nat.succ_mul]; omega⟩
theorem Up.done {d : Nat} {t t' : Int} {j k : Nat} (U : Up d t t' j k) (hj : j ≤ 3) (hk : k ≤ 3) : t' ≤ t + (cost (d + 1) : Nat) := by
  have h1 := U.2
  have h2 := Nat.mul_le_mul_right (cost d) hk
  simp only [cost]
  omega
theorem Up.lt {d : Nat} {t t' : Int} {j k : Nat} (U : Up d t t' j k) (H : t + (cost (d + 1) : Nat) < 1000) (hj : j ≤ 3) (hk : k ≤ 3) : t' < 1000 := Int.lt_of_le_of_lt (U.done hj hk) H
theorem Up.room {d : Nat} {t t' : Int} {j k : Nat} (U : Up d t t' j k) (H : t + (cost (d + 1) : Nat) < 1000) (hj : j ≤ 3) (hk : k ≤ 2) : t' + (cost d : Nat) < 1000 := (U.tree (Int.le_trans U.1 (Int.le_add_of_nonneg_right (Int.natCast_nonneg _))) (Int.le_refl _)).lt H hj (Nat.succ_le_succ hk)
/-- texts out of a list -/
noncomputable def Picks (vs : List Value) (ops : List Str) : Prop := ∀ v ∈ vs, ∃ x k, v = .str x k ∧ x ∈ ops
theorem Picks.nil {ops : List Str} : Picks [] ops := fun _ h => nomatch h
theorem Picks.cons {x : Str} {k : Tok} {vs : List Value} {ops : List Str} (h : x ∈ ops) (g : Picks vs ops) : Picks (.str x k :: vs) ops := fun v hv => (List.mem_cons.mp hv).elim (fun e => ⟨x, k, e, h⟩) (g v)
section
variable {c : Cx} {vars : Vars} {led : Led} {k : SV → Led → Prop}
theorem subw_pick {e i : PySem.Expr} {l : Addr} {vs : List Value} {n : Nat} {j m : Int} {t : Tok} {ops : List Str} (hm : (l, listOf vs.toArray n) ∈ led) (h0 : 0 ≤ j) (h1 : j < m) (hz : m = vs.length) (hz9 : m ≤ 9) (P : Picks vs ops)
    (hs : subscripted i false (.ref l) (.int j t) = operate [.ref l, .int j t] (getItem (.ref l) (.int j t))) (h : ∀ x k', x ∈ ops → k (.v (.str x k')) led) : SubW c vars led e i (.v (.ref l)) (.v (.int j t)) k := by
  have hl : j.toNat < vs.length := by omega
  obtain ⟨x, k', e', hx⟩ := P _ (List.getElem_mem hl)
  exact subw_list hm h0 (by omega) ((List.getElem?_eq_getElem hl).trans (congrArg some e')) hs (h x k' hx)
theorem gt_cell0 {cs : Scope} {cv : List (Str × Value)} {kb : Bool → Led → Prop} {x : Str} {t : Tok} {p1 p2 pos : Pos} {k1 : Nat} (R : Rdy c cs) (hl : cv.lookup x = some (.int ((0 : Nat) : Int) t)) (h : kb false led) : RawB c cs cv vars led (.Compare (.Name x p1) [.Gt] [.Constant (.int 0) k1 p2] pos) kb := gt_cell R hl h
theorem gt_cell1 {cs : Scope} {cv : List (Str × Value)} {kb : Bool → Led → Prop} {x : Str} {d : Nat} {t : Tok} {p1 p2 pos : Pos} {k1 : Nat} (R : Rdy c cs) (hl : cv.lookup x = some (.int ((d + 1 : Nat) : Int) t)) (h : kb true led) : RawB c cs cv vars led (.Compare (.Name x p1) [.Gt] [.Constant (.int 0) k1 p2] pos) kb := gt_cell R hl (by rw [decide_eq_true (Int.natCast_pos.mpr (Nat.succ_pos d))]; exact h)
end
section
variable {fd ca : Addr} {ef : Nat} {imm : Led} {d : Nat} {t t' : Int} {tk' : Tok} {tl : Led}
theorem TreeR.name {D : Addr} {x : Str} {k1 k2 : Tok} {n : Nat} (nw : NW fd imm tl) (l : ∀ p ∈ tl ++ (fd, feedO ca t' tk' ef) :: imm, p.1 < D) (hx : x ∈ names3) (h0 : 0 ≤ t') (h1 : t' ≤ t + (cost d : Nat)) :
    TreeR fd ca ef imm d t (.tup D [.v (.str (Str.ofString "name") k1), .v (.str x k2)]) ((D, tupOf #[.str (Str.ofString "name") k1, .str x k2] n) :: (tl ++ (fd, feedO ca t' tk' ef) :: imm)) :=
  .of (tl := _ :: tl) (.name D x) rfl (.cons nw l) (.name (.head _) hx) (Nat.le_add_left 1 _) h0 h1
end
section
variable {fd ca : Addr} {vs : List Value} {ns : List Int} {nc ef : Nat} {imm : Led} {d : Nat} {c : Cx} {cs : Scope} {p : Program} {loose : List Str} {mean : ExcName → Option Value} {mg mb : Str → Option Value} {dp un : Nat}
theorem rest_trees {x : Str} {scope : Scope} {cl : List (Str × Addr)} {a1 a2 : Addr} {o1 o2 : Obj} {tkd : Tok} {N j : Nat} {t : Int} {tl : Led} {Fin : List Value → Led → Prop} {PP : Nat → Value → Prop} {p1 p2 p3 p4 p5 p6 : Pos} {kk : Nat} {s : Shared} {vars : Vars}
    (I : TreeOK c.w p loose mean mg mb fd ca vs nc ef d) (C : Can c cs p loose mean mg mb dp un) (Z : Fd fd ca vs ns nc imm) (hd : dp + 3 * d + 10 < recursionLimit) (hu : un + 20 * d + 40 < cLine) (H : t + (cost (d + 1) : Nat) < 1000)
    (hl1 : cl.lookup (Str.ofString "feed") = some a1) (hl2 : cl.lookup (Str.ofString "depth") = some a2) (m1 : (a1, o1) ∈ tl) (m2 : (a2, o2) ∈ tl) (e1 : o1.data = .cell (some (.ref fd))) (e2 : o2.data = .cell (some (.int ((d + 1 : Nat) : Int) tkd)))
    (hk : ∀ C, (compEnvC scope cl C (c.env cs)).scope.kind = .function) (k1 : ∀ C, (compEnvC scope cl C (c.env cs)).kindOf (Str.ofString "feed") = some .cell) (k2 : ∀ C, (compEnvC scope cl C (c.env cs)).kindOf (Str.ofString "depth") = some .cell) (k3 : ∀ C, (compEnvC scope cl C (c.env cs)).kindOf (Str.ofString "_law_tree") = some .globalImplicit) (hj : j ≤ 3) (hN : N ≤ 2)
    (fin : ∀ (Ts : List Tr) (tl' : Led) (t' : Int) (tk' : Tok), Ts.length = N → NW fd imm tl' → (∀ q ∈ tl, q ∈ tl') → (∀ T ∈ Ts, TIn tl' T ∧ T.height ≤ d + 1) → Up d t t' j N → Fin (Ts.map fun T => .ref (Tr.ad T)) (tl' ++ (fd, feedO ca t' tk' ef) :: imm)) :
    ∀ (n i : Nat) (Ts : List Tr) (tl' : Led) (t' : Int) (tk' : Tok), Ts.length + n = N → NW fd imm tl' → (∀ q ∈ tl, q ∈ tl') → (∀ T ∈ Ts, TIn tl' T ∧ T.height ≤ d + 1) → Up d t t' j Ts.length →
    LCg.CompRest PySem.Challenge.rw_pf0366_01.row.prog c.w c.A c.h₀ c.L (lk vars) (c.env cs) (.Call (.Name (Str.ofString "_law_tree") p1) [.Name (Str.ofString "feed") p2, .BinOp (.Name (Str.ofString "depth") p3) .Sub (.Constant (.int 1) kk p4) p5] [] p6) x scope cl s (fun _ => True) PP Fin n i (Ts.map fun T => .ref (Tr.ad T)) (tl' ++ (fd, feedO ca t' tk' ef) :: imm)
  | 0, i, Ts, tl', t', tk', hn, nw, hs, hT, U => LCg.CompRest.zero (fin Ts tl' t' tk' hn nw hs hT (hn ▸ U))
  | n + 1, i, Ts, tl', t', tk', hn, nw, hs, hT, U => by
    refine LCg.CompRest.succ fun v I' oI C' oC D m₂ h tk E' hv hC hm₂ F N off ne => ?_
    obtain ⟨gd, outer, A₀, base, hA, B⟩ := C.top
    have hf : (fd, feedO ca t' tk' ef) ∈ tl' ++ (fd, feedO ca t' tk' ef) :: imm := List.mem_append_right _ (.head _)
    obtain ⟨n1, n2, n3⟩ := off.mem _ hf
    have UU : UpdF fd (feedO ca t' tk' ef) ((I', oI) :: (C', oC) :: (D, LCg.lst (Ts.map fun T => .ref (Tr.ad T))) :: (tl' ++ (fd, feedO ca t' tk' ef) :: imm)) (fun o' => (I', oI) :: (C', oC) :: (D, LCg.lst (Ts.map fun T => .ref (Tr.ad T))) :: (tl' ++ (fd, o') :: imm)) := .tail (Ne.symm n1) (.tail (Ne.symm n2) (.tail (Ne.symm n3) (nw.upd Z.hap)))
    refine Call_ (LCgL.ld_global F C.X C.T rfl (callWith_K (first := []) C.X rfl (args_cons (kcf_cell (s := { s with heap := h, toks := tk }) N hl1 (.tail _ (.tail _ (.tail _ (List.mem_append_left _ (hs _ m1))))) e1 (args_cons (wpAny_BinOp (kcf_cell (s := { s with heap := h, toks := tk }) N hl2 (.tail _ (.tail _ (.tail _ (List.mem_append_left _ (hs _ m2))))) e2 (wpAny_Constant_int (PyProof.Rows.sub_int (args_nil ⟨C.X.keeps F.keep, ?_⟩))) (hk _) (k2 _))) rfl) (hk _) (k1 _)) rfl) rfl rfl) rfl (hk _) (k3 _)) rfl
    rw [hA]
    refine tree_call I B F C.X N C.T C.kind hd hu UU (.tail _ (.tail _ (.tail _ (List.mem_append_right _ (.tail _ Z.hca))))) Z.hcf U.1 (U.room H hj (by omega)) (by omega) fun T tl2 t2 h2 tk2 tkk F2 N2 nw2 hT2 hh2 h02 h12 => ?_
    refine comp_end F2 N2 nw2 (.head _) (.tail _ (.head _)) (.tail _ (.tail _ (.head _))) (off3_of off (by simp)) trivial ?_
    have e9 : (Ts.map fun T => Value.ref (Tr.ad T)) ++ [.ref T.ad] = (Ts ++ [T]).map fun T => .ref (Tr.ad T) := by rw [List.map_append]; rfl
    rw [e9, ← List.append_assoc, ← hA]
    exact rest_trees (fin := fin) I C Z hd hu H hl1 hl2 m1 m2 e1 e2 hk k1 k2 k3 hj hN n (i + 1) (Ts ++ [T]) (tl2 ++ tl') t2 h2 (by rw [List.length_append, ← hn]; simp; omega) (nw.app fun q hq => nw2 q (.tail _ (.tail _ (.tail _ hq)))) (fun q hq => List.mem_append_right _ (hs q hq))
      (fun T' hT' => by
        rcases List.mem_append.mp hT' with h' | h'
        · exact ⟨(hT T' h').1.mono fun q hq => List.mem_append_right _ hq, (hT T' h').2⟩
        · cases List.mem_singleton.mp h'
          exact ⟨hT2.mono fun q hq => List.mem_append_left _ hq, hh2⟩) (by rw [List.length_append]; exact U.tree h02 h12)
variable {cv : List (Str × Value)} {vars : Vars} {k : SV → Led → Prop}
theorem comp_trees {n : Nat} {e1 : PySem.Expr} {x : Str} {scope : Scope} {cl : List (Str × Addr)} {a1 a2 : Addr} {o1 o2 : Obj} {tkd tk0 : Tok} {j : Nat} {t t0 : Int} {tl : Led} {p1 p2 p3 p4 p5 p6 px pr pc pos : Pos} {kk : Nat}
    (I : TreeOK c.w p loose mean mg mb fd ca vs nc ef d) (C : Can c cs p loose mean mg mb dp un) (Z : Fd fd ca vs ns nc imm) (hd : dp + 3 * d + 10 < recursionLimit) (hu : un + 20 * d + 40 < cLine) (H : t + (cost (d + 1) : Nat) < 1000)
    (hclos : closureFor scope (c.env cs) = pure cl) (hcell : ∀ y ∈ scope.names, y.2 ≠ .cell) (hkind : scope.kind = .function)
    (hnames : ∀ y ∈ scope.names, y.2 = .local → scope.names.lookup y.1 = some .local) (hx : scope.names.lookup x = some .local)
    (hl1 : cl.lookup (Str.ofString "feed") = some a1) (hl2 : cl.lookup (Str.ofString "depth") = some a2) (m1 : (a1, o1) ∈ tl) (m2 : (a2, o2) ∈ tl) (d1 : o1.data = .cell (some (.ref fd))) (d2 : o2.data = .cell (some (.int ((d + 1 : Nat) : Int) tkd)))
    (hk : ∀ C, (compEnvC scope cl C (c.env cs)).scope.kind = .function) (k1 : ∀ C, (compEnvC scope cl C (c.env cs)).kindOf (Str.ofString "feed") = some .cell) (k2 : ∀ C, (compEnvC scope cl C (c.env cs)).kindOf (Str.ofString "depth") = some .cell) (k3 : ∀ C, (compEnvC scope cl C (c.env cs)).kindOf (Str.ofString "_law_tree") = some .globalImplicit) (hj : j ≤ 3)
    (hg : globOf cs vars (.Name (Str.ofString "range") pr) = some (.type "range")) (hst : starEach [e1] (c.env cs) = (false, eval e1 (c.env cs)) :: starEach [] (c.env cs)) (hs : ∀ v, foldedSetIterable (.Call (.Name (Str.ofString "range") pr) [e1] [] pc) (c.env cs) v = pure v)
    (nw : NW fd imm tl) (U : Up d t (t0 + 1) j 0)
    (h : vc c cs cv n vars (tl ++ (fd, feedO ca t0 tk0 ef) :: imm) (.E e1 fun v led' => ∃ r tkr tk', v = .v (.int r tkr) ∧ 0 ≤ r ∧ r < 3 ∧ led' = tl ++ (fd, feedO ca (t0 + 1) tk' ef) :: imm))
    (hkk : ∀ D (Ts : List Tr) tl' t' tk', Ts.length ≤ 2 → NW fd imm tl' → (∀ q ∈ tl, q ∈ tl') → (∀ T ∈ Ts, TIn tl' T ∧ T.height ≤ d + 1) → Up d t t' j 2 → k (.v (.ref D)) ((D, LCg.lst (Ts.map fun T => .ref (Tr.ad T))) :: (tl' ++ (fd, feedO ca t' tk' ef) :: imm))) :
    RawE c cs cv vars (tl ++ (fd, feedO ca t0 tk0 ef) :: imm) (.ListComp (.Call (.Name (Str.ofString "_law_tree") p1) [.Name (Str.ofString "feed") p2, .BinOp (.Name (Str.ofString "depth") p3) .Sub (.Constant (.int 1) kk p4) p5] [] p6) [⟨.Name x px, .Call (.Name (Str.ofString "range") pr) [e1] [] pc, [], 0⟩] scope pos) k := by
  refine .of fun V hp tk Q F N hQ => ?_
  have G := glob_of C.rdy hg
  refine LCg.ListComp_U F hclos hcell hkind hnames hx (Call_ (G.ev F (G.cw hst rfl (args_cons (vc_sound C.rdy n _ _ (.E ..) V h hp tk _ F N fun v led' hp' tk' F' N' K' hv => ?_) hst))) rfl) hs
  obtain ⟨_, rfl, _, r, tkr, tk', rfl, h0, h1, rfl⟩ := hv
  refine args_nil ⟨C.X.keeps F'.keep, range1_rows F' N' fun h' tk1 t₁ u₁ v₁ hr F2 N2 keep => ?_⟩
  obtain ⟨M, rfl, hM⟩ : ∃ M : Nat, r = M ∧ M ≤ 2 := ⟨r.toNat, by omega, by omega⟩
  have q : Builtin.Range.small 0 (M : Int) 1 = true ∧ Builtin.Range.rangeSize 0 (M : Int) 1 = M := by
    have : M = 0 ∨ M = 1 ∨ M = 2 := by omega
    rcases this with rfl | rfl | rfl <;> exact ⟨rfl, rfl⟩
  refine LCg.CompSrc.range C.handled F2 N2 hr q.1 q.2 (Nat.le_trans hM (by decide)) fun g => ?_
  refine rest_trees (N := M) (fin := ?_) I C Z hd hu H hl1 hl2 m1 m2 d1 d2 hk k1 k2 k3 hj hM M 0 [] tl (t0 + 1) tk' (Nat.zero_add _) nw (fun _ h => h) (fun _ h => nomatch h) U
  intro Ts tl' t' tk2 hl nw' hs' hT U' D h'' tk'' F'' N'' o1
  refine hQ _ _ _ tk'' F'' N'' ?_ ⟨_, rfl, .v, hkk D Ts tl' t' tk2 (hl ▸ hM) nw' hs' hT ⟨U'.1, Int.le_trans U'.2 (Int.add_le_add_left (Int.ofNat_le.mpr (Nat.mul_le_mul_right _ hM)) _)⟩⟩
  refine (Keeps.upd (its' := #[.ref ca, .int t' tk2]) (n' := ef) (nw.upd Z.hap)).trans (.sub fun q hq => .tail _ ?_)
  rcases List.mem_append.mp hq with h' | h'
  · exact List.mem_append_left _ (hs' q h')
  · exact List.mem_append_right _ h'
theorem tuple_ev {led : Led} {D : Addr} {its : List SV} {ys : List Value} (e : its.map SV.val = ys) (ok : ∀ i ∈ its, i.Ok led) (hz : ys.length ≤ 16384) (h : ∀ T, (∀ q ∈ led, q.1 < T) → k (.tup T its) ((T, tupOf ys.toArray 0) :: led)) : CallP c vars ((D, LCg.lst ys) :: led) (.type "tuple") [.v (.ref D)] k := by
  refine .of fun _ hp tk Q F N hQ => ?_
  subst e
  have hl := (List.Mem.head led : (D, LCg.lst (its.map SV.val)) ∈ (D, LCg.lst (its.map SV.val)) :: led)
  unfold LCg.lst at hl
  refine kde_tupleOf F N (items := (its.map SV.val).toArray) (News.isList N hl) (by simpa using hz) (zs := its.map SV.val) (by simp) fun T h' F' N' lt => ?_
  refine hQ _ ((T, tupOf (its.map SV.val).toArray 0) :: led) _ _ F' (fun q hq => N' q ((List.mem_cons.mp hq).elim (fun e => e ▸ .head _) fun h => .tail _ (.tail _ h))) (fun a o f hm => ?_) ⟨_, rfl, .tup (.head _) fun i hi => (ok i hi).keep .cons, h T fun q hq => lt q (.tail _ hq)⟩
  rcases List.mem_cons.mp hm with h1 | h1
  · cases h1
    exact absurd f Fixed.notList
  · exact .tail _ h1
theorem add_tup0 {led : Led} {b : List SV} {x y : Addr} (hz : b.length ≤ 16384) (h : k (.tup y b) led) : AddP c vars led .Add (.tup x []) (.tup y b) k := by
  refine .of fun o1 o2 hp tk Q F N hQ => ?_
  cases o1 with
  | tup m1 g1 => cases o2 with
    | tup m2 g2 => exact kde_addT0 F N (News.isTup N m1) (News.isTup N m2) rfl (by simpa using hz) (hQ _ _ _ _ F N .rfl ⟨_, rfl, .tup m2 g2, h⟩)
theorem close8 {tl : Led} {Ts : List Tr} {f : Str} {b D : Addr} {k1 k2 tk' : Tok} {t t' : Int} {n n2 : Nat} {its : List SV} (nw : NW fd imm tl) (hT : ∀ T ∈ Ts, TIn tl T ∧ T.height ≤ d + 1) (hl : Ts.length ≤ 2) (hf : f ∈ callNames) (hb : (b, tupOf (Ts.map fun T => Value.ref (Tr.ad T)).toArray n2) ∈ tl)
    (l : ∀ q ∈ tl ++ (fd, feedO ca t' tk' ef) :: imm, q.1 < D) (h0 : 0 ≤ t') (h1 : t' ≤ t + (cost (d + 1) : Nat)) : TreeR fd ca ef imm (d + 1) t (.tup D [.v (.str (Str.ofString "call") k1), .v (.str f k2), .tup b its]) ((D, tupOf #[.str (Str.ofString "call") k1, .str f k2, .ref b] n) :: (tl ++ (fd, feedO ca t' tk' ef) :: imm)) := by
  have up : ∀ T ∈ Ts, TIn ((D, tupOf #[.str (Str.ofString "call") k1, .str f k2, .ref b] n) :: tl) T ∧ T.height ≤ d + 1 := fun T h => ⟨(hT T h).1.mono fun q hq => .tail _ hq, (hT T h).2⟩
  rcases Ts with _ | ⟨x, _ | ⟨y, _ | ⟨z, r⟩⟩⟩
  · exact .of (tl := _ :: tl) (.call0 D f) rfl (.cons nw l) (.call0 (.head _) hf (.tail _ hb)) (Nat.succ_le_succ (Nat.zero_le _)) h0 h1
  · obtain ⟨x1, x2⟩ := up x (.head _)
    exact .of (tl := _ :: tl) (.call1 D f x) rfl (.cons nw l) (.call1 (.head _) hf (.tail _ hb) x1) (Nat.succ_le_succ x2) h0 h1
  · obtain ⟨x1, x2⟩ := up x (.head _)
    obtain ⟨y1, y2⟩ := up y (.tail _ (.head _))
    exact .of (tl := _ :: tl) (.call2 D f x y) rfl (.cons nw l) (.call2 (.head _) hf (.tail _ hb) x1 y1) (Nat.succ_le_succ (Nat.max_le.mpr ⟨x2, y2⟩)) h0 h1
  · exact absurd hl (by simp)
end
theorem tree_zero {w : World} {p : Program} {loose : List Str} {mean : ExcName → Option Value} {mg mb : Str → Option Value} {fd ca : Addr} {vs : List Value} {ns : List Int} {nc ef : Nat}
    (hvs : IntsAre vs ns) (hlen : ns.length ≤ 63) (hcf : ca ≠ fd) : TreeOK w p loose mean mg mb fd ca vs nc ef 0 := by
  intro dp un gd cn cs a ccd cl outer A₀ base h₀ L m imm s t tk0 tkd Q E B F X N T hk hd1 hu1 hca ht0 ht1 hap hret
  have Z : Fd fd ca vs ns nc imm := ⟨hvs, hlen, hcf, hca, hap⟩
  revert X; k_fill; intro X
  refine enterC2 B F X N T hk (by k_is) (by k_is) (by omega) rfl rfl rfl rfl rfl rfl (fun _ => rfl) (by decide +kernel) ⟨rfl, rfl, rfl⟩ (TreeR fd ca ef imm 0 t) (fun c C1 C2 o1 o2 hw hcl d1 d2 C l1 l2 V => vc_sound C.rdy 60 _ _ (.X ..) V ?_) ?_
  · have nw : NW fd imm [(C2, o2), (C1, o1)] := (NW.cons (tl := [(C1, o1)]) (o' := feedO ca t tk0 ef) (NW.cons NW.nil l1) (fun p hp => by rcases List.mem_cons.mp hp with rfl | hp; exact l2; exact Nat.lt_trans (l1 p hp) l2))
    have hd3 : dp + 1 + 3 < recursionLimit := by omega
    have a0 : t < 1000 := by simp only [cost] at ht1; omega
    have a1 : 0 ≤ t + 1 := by omega
    have a2 : t + 1 < 1000 := by simp only [cost] at ht1; omega
    have a3 : t + 1 ≤ t + (cost 0 : Nat) := by simp only [cost]; omega
    have a4 : 0 ≤ t + 1 + 1 := by omega
    have a5 : t + 1 + 1 ≤ t + (cost 0 : Nat) := by simp only [cost]; omega
    clear hret N F B T X V l1 l2
    refine gt_cell0 C.rdy rfl fun tkm => next_ev (tl := [_, _]) C Z hd3 nw ht0 a0 (by decide) (by decide) fun r tkr tk' h0 h1 => cases4 r h0 h1 ?_ ?_ ?_ ?_
    · exact fun t1 t2 t3 t4 D l => subw_list (.head _) (by decide) (by decide) rfl rfl fun D2 l2 => TreeR.name (tl := _ :: [_, _]) (.cons nw l) l2 (by decide) a1 a3
    · exact fun t1 t2 t3 t4 D l => subw_list (.head _) (by decide) (by decide) rfl rfl fun D2 l2 => TreeR.name (tl := _ :: [_, _]) (.cons nw l) l2 (by decide) a1 a3
    · exact fun t1 t2 t3 t4 D l => subw_list (.head _) (by decide) (by decide) rfl rfl fun D2 l2 => TreeR.name (tl := _ :: [_, _]) (.cons nw l) l2 (by decide) a1 a3
    · refine fun t1 t2 D1 l1 t3 t4 D2 l2 t5 D3 l3 D4 l4 t6 => ?_
      have n4 := fun o => NW.cons (o := o) (tl := [_, _, _, _, _]) (.cons (tl := [_, _, _, _]) (.cons (tl := [_, _, _]) (.cons (tl := [_, _]) nw l1) l2) l3) l4
      clear l1 l2 l3 l4
      refine next_ev (tl := [_, _, _, _, _, _]) C Z hd3 (n4 _) a1 a2 (by decide) (by decide) fun r tkr tk' h0 h1 => cases3 r h0 h1 ?_ ?_ ?_
      · exact subw_list (.head _) (by decide) (by decide) rfl rfl (.of (tl := [_, _, _, _, _, _]) (.text D1) rfl (n4 _) (.text (.tail _ (.tail _ (.tail _ (.head _))))) (Nat.le_add_left 1 _) a4 a5)
      · exact subw_list (.head _) (by decide) (by decide) rfl rfl (.of (tl := [_, _, _, _, _, _]) (.whole D2 7) rfl (n4 _) (.whole (.tail _ (.tail _ (.head _)))) (Nat.le_add_left 1 _) a4 a5)
      · exact subw_list (.head _) (by decide) (by decide) rfl rfl (.of (tl := [_, _, _, _, _, _]) (.null D3) rfl (n4 _) (.null (.tail _ (.head _))) (Nat.le_add_left 1 _) a4 a5)
  · rintro v led' h' tk' ⟨T, tl, t', tk2, e, hs, nw, hT, hh, h0, h1⟩ F' N'
    rw [e]
    exact hret T tl t' tk2 h' tk' F' (fun p hp => N' p (hs p hp)) nw.newer hT hh h0 h1
theorem tree_succ {w : World} {p : Program} {loose : List Str} {mean : ExcName → Option Value} {mg mb : Str → Option Value} {fd ca : Addr} {vs : List Value} {ns : List Int} {nc ef d : Nat}
    (hvs : IntsAre vs ns) (hlen : ns.length ≤ 63) (hcf : ca ≠ fd) (IH : TreeOK w p loose mean mg mb fd ca vs nc ef d) : TreeOK w p loose mean mg mb fd ca vs nc ef (d + 1) := by
  intro dp un gd cn cs a ccd cl outer A₀ base h₀ L m imm s t tk0 tkd Q E B F X N T hk hd1 hu1 hca ht0 ht1 hap hret
  have Z : Fd fd ca vs ns nc imm := ⟨hvs, hlen, hcf, hca, hap⟩
  revert X; k_fill; intro X
  refine enterC2 B F X N T hk (by k_is) (by k_is) (by omega) rfl rfl rfl rfl rfl rfl (fun _ => rfl) (by decide +kernel) ⟨rfl, rfl, rfl⟩ (TreeR fd ca ef imm (d + 1) t) (fun c C1 C2 o1 o2 hw hcl d1 d2 C l1 l2 V => vc_sound C.rdy 60 _ _ (.X ..) V ?_) ?_
  · have nw : NW fd imm [(C2, o2), (C1, o1)] := (NW.cons (tl := [(C1, o1)]) (o' := feedO ca t tk0 ef) (NW.cons NW.nil l1) (fun p hp => by rcases List.mem_cons.mp hp with rfl | hp; exact l2; exact Nat.lt_trans (l1 p hp) l2))
    have hd3 : dp + 1 + 3 < recursionLimit := by omega
    have I : TreeOK c.w p loose mean mg mb fd ca vs nc ef d := by rw [hw]; exact IH
    have hd4 : dp + 1 + 3 * d + 10 < recursionLimit := by omega
    have hu4 : un + 3 + 20 * d + 40 < cLine := by omega
    have U1 := (Up.start (d := d) ht0).next
    have a3 := U1.done (by decide) (by decide)
    have a5 := U1.next.done (by decide) (by decide)
    have hc1 : ((d + 1 : Nat) : Int) - 1 = d := by omega
    clear hret N F B T X V l1 l2
    refine gt_cell1 C.rdy rfl fun tkm => next_ev (tl := [_, _]) C Z hd3 nw ht0 ((Up.start (d := d) ht0).lt ht1 (by decide) (by decide)) (by decide) (by decide) fun r tkr tk' h0 h1 => cases10 r h0 h1 ?_ ?_ ?_ ?_ ?_ ?_ ?_ ?_ ?_ ?_
    · exact fun t1 t2 t3 t4 D l => subw_list (.head _) (by decide) (by decide) rfl rfl fun D2 l2 => TreeR.name (tl := _ :: [_, _]) (.cons nw l) l2 (by decide) U1.1 a3
    · exact fun t1 t2 t3 t4 D l => subw_list (.head _) (by decide) (by decide) rfl rfl fun D2 l2 => TreeR.name (tl := _ :: [_, _]) (.cons nw l) l2 (by decide) U1.1 a3
    · exact fun t1 t2 t3 t4 D l => subw_list (.head _) (by decide) (by decide) rfl rfl fun D2 l2 => TreeR.name (tl := _ :: [_, _]) (.cons nw l) l2 (by decide) U1.1 a3
    · refine fun t1 t2 D1 l1 t3 t4 D2 l2 t5 D3 l3 D4 l4 t6 => ?_
      have n4 := fun o => NW.cons (o := o) (tl := [_, _, _, _, _]) (.cons (tl := [_, _, _, _]) (.cons (tl := [_, _, _]) (.cons (tl := [_, _]) nw l1) l2) l3) l4
      clear l1 l2 l3 l4
      refine next_ev (tl := [_, _, _, _, _, _]) C Z hd3 (n4 _) U1.1 (U1.lt ht1 (by decide) (by decide)) (by decide) (by decide) fun r tkr tk' h0 h1 => cases3 r h0 h1 ?_ ?_ ?_
      · exact subw_list (.head _) (by decide) (by decide) rfl rfl (.of (tl := [_, _, _, _, _, _]) (.text D1) rfl (n4 _) (.text (.tail _ (.tail _ (.tail _ (.head _))))) (Nat.le_add_left 1 _) U1.next.1 a5)
      · exact subw_list (.head _) (by decide) (by decide) rfl rfl (.of (tl := [_, _, _, _, _, _]) (.whole D2 7) rfl (n4 _) (.whole (.tail _ (.tail _ (.head _)))) (Nat.le_add_left 1 _) U1.next.1 a5)
      · exact subw_list (.head _) (by decide) (by decide) rfl rfl (.of (tl := [_, _, _, _, _, _]) (.null D3) rfl (n4 _) (.null (.tail _ (.head _))) (Nat.le_add_left 1 _) U1.next.1 a5)
    · exact fun t1 t2 => sub_ev fun _ => tree_ev (tl := [_, _]) I C Z hd4 hu4 nw U1.1 (U1.room ht1 (by decide) (by decide)) hc1 fun T1 tl1 u1 k1 nw1 hT1 hh1 h01 h11 t3 => sub_ev fun _ => tree_ev (tl := tl1 ++ [_, _]) I C Z hd4 hu4 nw1 h01 ((U1.tree h01 h11).room ht1 (by decide) (by decide)) hc1 fun T2 tl2 u2 k2 nw2 hT2 hh2 h02 h12 D l =>
        .of (tl := _ :: (tl2 ++ (tl1 ++ [_, _]))) (.join D T1 T2) rfl (.cons nw2 l) (.join (.head _) (hT1.mono fun q hq => .tail _ (List.mem_append_right _ (List.mem_append_left _ hq))) (hT2.mono fun q hq => .tail _ (List.mem_append_left _ hq))) (Nat.succ_le_succ (Nat.max_le.mpr ⟨hh1, hh2⟩)) h02 (((U1.tree h01 h11).tree h02 h12).done (by decide) (by decide))
    · refine fun t1 t2 t3 t4 D0 l0 t5 => next_ev (tl := [_, _, _]) C Z hd3 (.cons (tl := [_, _]) nw l0) U1.1 (U1.lt ht1 (by decide) (by decide)) (by decide) (by decide) fun r tkr tk' h0 h1 => subw_pick (ops := binOps) (.head _) h0 h1 rfl (by decide) (.cons (by decide) (.cons (by decide) (.cons (by decide) (.cons (by decide) .nil)))) rfl fun op k9 hop => ?_
      exact fun t1 t2 => sub_ev fun _ => tree_ev (tl := [_, _, _]) I C Z hd4 hu4 (.cons (tl := [_, _]) nw l0) U1.next.1 (U1.next.room ht1 (by decide) (by decide)) hc1 fun T1 tl1 u1 k1 nw1 hT1 hh1 h01 h11 t3 => sub_ev fun _ => tree_ev (tl := tl1 ++ [_, _, _]) I C Z hd4 hu4 nw1 h01 ((U1.next.tree h01 h11).room ht1 (by decide) (by decide)) hc1 fun T2 tl2 u2 k2 nw2 hT2 hh2 h02 h12 D l =>
        .of (tl := _ :: (tl2 ++ (tl1 ++ [_, _, _]))) (.bin D op T1 T2) rfl (.cons nw2 l) (.bin (.head _) hop (hT1.mono fun q hq => .tail _ (List.mem_append_right _ (List.mem_append_left _ hq))) (hT2.mono fun q hq => .tail _ (List.mem_append_left _ hq))) (Nat.succ_le_succ (Nat.max_le.mpr ⟨hh1, hh2⟩)) h02 (((U1.next.tree h01 h11).tree h02 h12).done (by decide) (by decide))
    · refine fun tu t1 t2 t3 t4 t5 t6 t7 t8 t9 D0 l0 ta => next_ev (tl := [_, _, _]) C Z hd3 (.cons (tl := [_, _]) nw l0) U1.1 (U1.lt ht1 (by decide) (by decide)) (by decide) (by decide) fun r tkr tk' h0 h1 => subw_pick (ops := unOps) (.head _) h0 h1 rfl (by decide) (.cons (by decide) (.cons (by decide) (.cons (by decide) (.cons (by decide) (.cons (by decide) (.cons (by decide) (.cons (by decide) (.cons (by decide) (.cons (by decide) .nil))))))))) rfl fun op k9 hop => ?_
      exact fun t2 => sub_ev fun _ => tree_ev (tl := [_, _, _]) I C Z hd4 hu4 (.cons (tl := [_, _]) nw l0) U1.next.1 (U1.next.room ht1 (by decide) (by decide)) hc1 fun T1 tl1 u1 k1 nw1 hT1 hh1 h01 h11 D l =>
        .of (tl := _ :: (tl1 ++ [_, _, _])) (.un D op T1) rfl (.cons nw1 l) (.un (.head _) hop (hT1.mono fun q hq => .tail _ (List.mem_append_left _ hq))) (Nat.succ_le_succ hh1) h01 ((U1.next.tree h01 h11).done (by decide) (by decide))
    · refine fun tu t1 t2 t3 t4 t5 t6 t7 t8 t9 D0 l0 ta => next_ev (tl := [_, _, _]) C Z hd3 (.cons (tl := [_, _]) nw l0) U1.1 (U1.lt ht1 (by decide) (by decide)) (by decide) (by decide) fun r tkr tk' h0 h1 => subw_pick (ops := unOps) (.head _) h0 h1 rfl (by decide) (.cons (by decide) (.cons (by decide) (.cons (by decide) (.cons (by decide) (.cons (by decide) (.cons (by decide) (.cons (by decide) (.cons (by decide) (.cons (by decide) .nil))))))))) rfl fun op k9 hop => ?_
      exact fun t2 => sub_ev fun _ => tree_ev (tl := [_, _, _]) I C Z hd4 hu4 (.cons (tl := [_, _]) nw l0) U1.next.1 (U1.next.room ht1 (by decide) (by decide)) hc1 fun T1 tl1 u1 k1 nw1 hT1 hh1 h01 h11 D l =>
        .of (tl := _ :: (tl1 ++ [_, _, _])) (.un D op T1) rfl (.cons nw1 l) (.un (.head _) hop (hT1.mono fun q hq => .tail _ (List.mem_append_left _ hq))) (Nat.succ_le_succ hh1) h01 ((U1.next.tree h01 h11).done (by decide) (by decide))
    · refine comp_trees (n := 40) (tl := [_, _]) (j := 2) (cl := [(Str.ofString "feed", C1), (Str.ofString "depth", C2)]) (t := t) I C Z hd4 hu4 ht1 (by rw [Cx.env, hcl]; rfl) (by decide) rfl (by decide) rfl rfl rfl (.tail _ (.head _)) (.head _) d1 d2 (fun _ => rfl) (fun _ => rfl) (fun _ => rfl) (fun _ => rfl) (by decide) rfl rfl (fun _ => rfl) nw U1.next
        (fun ta => next_ev (tl := [_, _]) C Z hd3 nw U1.1 (U1.lt ht1 (by decide) (by decide)) (by decide) (by decide) fun r tkr tk' h0 h1 => ⟨r, tkr, tk', rfl, h0, h1, rfl⟩) ?_
      intro D Ts tl' t' tk' hl nw' hs' hT U'
      refine tuple_ev (its := Ts.map fun T => .v (.ref (Tr.ad T))) (by rw [List.map_map]; rfl) (fun i hi => by obtain ⟨T, _, rfl⟩ := List.mem_map.mp hi; exact .v) (by rw [List.length_map]; omega) ?_
      intro TT lT
      refine fun t1 t2 t3 D0 l0 t4 => next_ev (tl := _ :: _ :: tl') C Z hd3 (.cons (tl := _ :: tl') (.cons nw' lT) l0) U'.1 (U'.lt ht1 (by decide) (by decide)) (by decide) (by decide) fun r tkr tk' h0 h1 => subw_pick (ops := callNames) (.head _) h0 h1 rfl (by decide) (.cons (by decide) (.cons (by decide) .nil)) rfl fun f k9 hf D2 l2 => ?_
      exact close8 (tl := _ :: _ :: tl') (.cons (tl := _ :: tl') (.cons nw' lT) l0) (fun T h => ⟨(hT T h).1.mono fun q hq => .tail _ (.tail _ hq), (hT T h).2⟩) hl hf (.tail _ (.head _)) l2 U'.next.1 (U'.next.done (by decide) (by decide))
    · refine comp_trees (n := 40) (tl := [_, _]) (j := 2) (cl := [(Str.ofString "feed", C1), (Str.ofString "depth", C2)]) (t := t) I C Z hd4 hu4 ht1 (by rw [Cx.env, hcl]; rfl) (by decide) rfl (by decide) rfl rfl rfl (.tail _ (.head _)) (.head _) d1 d2 (fun _ => rfl) (fun _ => rfl) (fun _ => rfl) (fun _ => rfl) (by decide) rfl rfl (fun _ => rfl) nw U1.next
        (fun ta => next_ev (tl := [_, _]) C Z hd3 nw U1.1 (U1.lt ht1 (by decide) (by decide)) (by decide) (by decide) fun r tkr tk' h0 h1 => ⟨r, tkr, tk', rfl, h0, h1, rfl⟩) ?_
      intro D Ts tl' t' tk' hl nw' hs' hT U'
      refine tuple_ev (its := Ts.map fun T => .v (.ref (Tr.ad T))) (by rw [List.map_map]; rfl) (fun i hi => by obtain ⟨T, _, rfl⟩ := List.mem_map.mp hi; exact .v) (by rw [List.length_map]; omega) ?_
      intro TT lT
      refine fun t1 t2 => sub_ev fun _ => tree_ev (tl := _ :: tl') I C Z hd4 hu4 (.cons nw' lT) U'.1 (U'.room ht1 (by decide) (by decide)) hc1 fun T1 tl1 u1 k1 nw1 hT1 hh1 h01 h11 t3 t4 D1 l1 D2 l2 => ?_
      have b0 := (U'.tree h01 h11).done (by decide) (by decide)
      have n2 := fun o => NW.cons (o := o) (tl := _ :: (tl1 ++ (_ :: tl'))) (.cons (tl := tl1 ++ (_ :: tl')) nw1 l1) l2
      have w1 : (Tr.whole D1 1).height ≤ d + 1 := Nat.succ_le_succ (Nat.zero_le _)
      rcases Ts with _ | ⟨x, _ | ⟨y, _ | ⟨z, r⟩⟩⟩
      · exact add_tup0 (by simp) fun D4 l4 => .of (tl := _ :: _ :: _ :: (tl1 ++ (_ :: tl'))) (.item1 D4 T1 (.whole D1 1)) rfl (.cons (tl := _ :: _ :: (tl1 ++ (_ :: tl'))) (n2 _) l4) (.item1 (.head _) (.tail _ (.head _)) (hT1.mono fun q hq => .tail _ (.tail _ (.tail _ (List.mem_append_left _ hq)))) (.whole (.tail _ (.tail _ (.head _))))) (Nat.succ_le_succ (Nat.max_le.mpr ⟨hh1, w1⟩)) h01 b0
      · obtain ⟨x1, x2⟩ := hT x (.head _)
        exact add_tups (by simp) (by simp) (by simp) fun D3 l3 D4 l4 => .of (tl := _ :: _ :: _ :: _ :: (tl1 ++ (_ :: tl'))) (.item2 D4 T1 x (.whole D1 1)) rfl (.cons (tl := _ :: _ :: _ :: (tl1 ++ (_ :: tl'))) (.cons (tl := _ :: _ :: (tl1 ++ (_ :: tl'))) (n2 _) l3) l4) (.item2 (.head _) (.tail _ (.head _)) (hT1.mono fun q hq => .tail _ (.tail _ (.tail _ (.tail _ (List.mem_append_left _ hq))))) (x1.mono fun q hq => .tail _ (.tail _ (.tail _ (.tail _ (List.mem_append_right _ (.tail _ hq)))))) (.whole (.tail _ (.tail _ (.tail _ (.head _)))))) (Nat.succ_le_succ (Nat.max_le.mpr ⟨hh1, Nat.max_le.mpr ⟨x2, w1⟩⟩)) h01 b0
      · obtain ⟨x1, x2⟩ := hT x (.head _)
        obtain ⟨y1, y2⟩ := hT y (.tail _ (.head _))
        exact add_tups (by simp) (by simp) (by simp) fun D3 l3 D4 l4 => .of (tl := _ :: _ :: _ :: _ :: (tl1 ++ (_ :: tl'))) (.item3 D4 T1 x y (.whole D1 1)) rfl (.cons (tl := _ :: _ :: _ :: (tl1 ++ (_ :: tl'))) (.cons (tl := _ :: _ :: (tl1 ++ (_ :: tl'))) (n2 _) l3) l4) (.item3 (.head _) (.tail _ (.head _)) (hT1.mono fun q hq => .tail _ (.tail _ (.tail _ (.tail _ (List.mem_append_left _ hq))))) (x1.mono fun q hq => .tail _ (.tail _ (.tail _ (.tail _ (List.mem_append_right _ (.tail _ hq)))))) (y1.mono fun q hq => .tail _ (.tail _ (.tail _ (.tail _ (List.mem_append_right _ (.tail _ hq)))))) (.whole (.tail _ (.tail _ (.tail _ (.head _)))))) (Nat.succ_le_succ (Nat.max_le.mpr ⟨Nat.max_le.mpr ⟨hh1, x2⟩, Nat.max_le.mpr ⟨y2, w1⟩⟩)) h01 b0
      · exact absurd hl (by simp)
  · rintro v led' h' tk' ⟨T, tl, t', tk2, e, hs, nw, hT, hh, h0, h1⟩ F' N'
    rw [e]
    exact hret T tl t' tk2 h' tk' F' (fun p hp => N' p (hs p hp)) nw.newer hT hh h0 h1
theorem tree_ok {w : World} {p : Program} {loose : List Str} {mean : ExcName → Option Value} {mg mb : Str → Option Value} {fd ca : Addr} {vs : List Value} {ns : List Int} {nc ef : Nat}
    (hvs : IntsAre vs ns) (hlen : ns.length ≤ 63) (hcf : ca ≠ fd) : ∀ d, TreeOK w p loose mean mg mb fd ca vs nc ef d
  | 0 => tree_zero hvs hlen hcf
  | d + 1 => tree_succ hvs hlen hcf (tree_ok hvs hlen hcf d)
end P_TR

section P_SA
open PySem PySem.W PyProof.Rows PySem.Calls PySem.Spec
set_option maxRecDepth 100000
set_option maxHeartbeats 8000000
/-- the head's two ways -/
inductive HV : SV → Str → Prop where
  | two {a kd sd k k2 r} : kd ∈ [Str.ofString "name", Str.ofString "text", Str.ofString "binary", Str.ofString "unary", Str.ofString "call"] → sd.length ≤ 2 → HV (.tup a (.v (.str kd k) :: .v (.str sd k2) :: r)) (kd ++ (Str.ofString " " ++ sd))
  | one {a kd k r} : kd ∈ [Str.ofString "whole", Str.ofString "null", Str.ofString "join", Str.ofString "item"] → HV (.tup a (.v (.str kd k) :: r)) (kd ++ Str.ofString "")
theorem TV.hv {t : Tr} {v : SV} (h : TV t v) : HV v (headOf t) := by
  cases h with
  | name hx => exact .two (by simp) (Nat.le_trans (len_names3 hx) (by decide))
  | text => exact .two (by simp) (by decide)
  | bin hx => exact .two (by simp) (Nat.le_trans (len_binOps hx) (by decide))
  | un hx => exact .two (by simp) (Nat.le_trans (len_unOps hx) (by decide))
  | call0 hx => exact .two (by simp) (len_callNames hx)
  | call1 hx => exact .two (by simp) (len_callNames hx)
  | call2 hx => exact .two (by simp) (len_callNames hx)
  | _ => exact .one (by simp)
theorem len_cat {x y : Str} {a b : Nat} (h : x.length ≤ a) (g : y.length ≤ b) : (x ++ y).length ≤ a + b := by
  rw [PySem.Str.length_append]
  omega
theorem HV.len {v : SV} {x : Str} (h : HV v x) : x.length ≤ 9 := by
  cases h with
  | two h1 h2 =>
    refine len_cat (a := 6) ?_ (len_cat (a := 1) (by decide) h2)
    simp only [List.mem_cons, List.not_mem_nil, or_false] at h1
    rcases h1 with rfl | rfl | rfl | rfl | rfl <;> decide
  | one h1 =>
    refine len_cat (a := 9) (b := 0) ?_ (by decide)
    simp only [List.mem_cons, List.not_mem_nil, or_false] at h1
    rcases h1 with rfl | rfl | rfl | rfl <;> decide
section
variable {c : Cx} {cs : Scope} {cv : List (Str × Value)} {vars : Vars} {led : Led} {p : Program} {loose : List Str} {mean : ExcName → Option Value} {mg mb : Str → Option Value} {dp un : Nat}
theorem cat_strs {k : SV → Led → Prop} {x y : Str} {t u : Tok} {a b : Nat} (hx : x.length ≤ a) (hy : y.length ≤ b) (hz : a + b ≤ 1000) (h : ∀ t, k (.v (.str (x ++ y) t)) led) : AddP c vars led .Add (.v (.str x t)) (.v (.str y u)) k :=
  add_strs (Nat.le_trans (Nat.add_le_add hx hy) hz) h
theorem head_call {k : SV → Led → Prop} {v : SV} {hs : Str} (C : Can c cs p loose mean mg mb dp un) (hd : dp < recursionLimit) (hv : HV v hs) (h : ∀ t, k (.v (.str hs t)) led) : CallP c vars led (.ref 101) [v] k := by
  refine .of fun ok hp tk Q F N hQ => ?_
  obtain ⟨gd, outer, A₀, base, hA, B⟩ := C.top
  have X := C.X
  have T := C.T
  have hk := C.kind
  rw [hA]
  revert X; k_fill; intro X
  refine enter B F X N T hk (by k_is) (by k_is) hd rfl (locs rfl) ⟨rfl, rfl, rfl⟩ (by decide) 60 [(Str.ofString "tree", v)] (fun v led' => (∃ t, v = .v (.str hs t)) ∧ led' = led) rfl (fun _ => VarsOk.nil.set rfl rfl (ok _ (.head _))) (fun c _ C => ?_) ?_
  · cases hv with
    | two h1 h2 =>
      simp only [List.mem_cons, List.not_mem_nil, or_false] at h1
      rcases h1 with rfl | rfl | rfl | rfl | rfl <;> exact fun t => cat_strs (a := 1) (by decide) h2 (by decide) fun t => cat_strs (a := 6) (b := 3) (by decide) (len_cat (a := 1) (by decide) h2) (by decide) fun t => ⟨⟨_, rfl⟩, rfl⟩
    | one h1 =>
      simp only [List.mem_cons, List.not_mem_nil, or_false] at h1
      rcases h1 with rfl | rfl | rfl | rfl <;> exact fun t => cat_strs (a := 6) (b := 0) (by decide) (by decide) (by decide) fun t => ⟨⟨_, rfl⟩, rfl⟩
  · rintro _ _ h' tk' ⟨⟨t, rfl⟩, rfl⟩ F' N'
    exact hQ _ _ h' tk' F' N' .rfl ⟨_, rfl, .v, h t⟩
/-- tree == ('name', 'Z') -/
theorem nm_test {k : Bool → Led → Prop} {x : Str} {v : SV} {t : Tr} {led0 : Led} {p1 p2 p3 p4 pos : Pos} {k1 k2 k3 : Nat} (R : Rdy c cs) (hT : TIn led0 t) (sub : ∀ p ∈ led0, p ∈ led) (e : v.val = .ref t.ad) (hu : c.A.units + 1 < cLine) (hl : vars.lookup x = some v) (h : k (t.isNm (Str.ofString "Z")) led) :
    RawB c cs cv vars led (.Compare (.Name x p1) [.Eq] [.Tuple [.Constant (.str (Str.ofString "name")) k1 p2, .Constant (.str (Str.ofString "Z")) k2 p3] k3 p4] pos) k := by
  refine .of fun V hp tk Q F N hQ => ?_
  obtain ⟨h1, h2, h3⟩ := V.1 x v hl
  refine wpAny_isTrue_Compare1 (nameX_L (v := .ref t.ad) F (by show (vars.lookup x).map SV.val = _; rw [hl, ← e]; rfl) ?_ R.kind h1 h2) rfl
  refine Tuple_ (args_cons (Constant_str (args_cons (Constant_str (args_nil (kup_newTuple F N (fun D h' F' N' lt => ?_) (by show 2 ≤ sizeLine; decide)))) rfl)) rfl)
  exact cmp_name N' ⟨hT⟩ (fun p hp => .tail _ (sub p hp)) rfl hu (.head _) (wpAny_truthy_bool (hQ _ _ _ _ F' (fun p hp => N' p (.tail _ hp)) .rfl h))
end
/-- the trees as _law_said tells them apart -/
inductive SK (t : Tr) : SV → Prop
  | un {a op k1 k2 r} : op ∈ unOps → t.isNeg = (op == Str.ofString "~") → t.isNo = false → t.isNm (Str.ofString "Z") = false → SK t (.tup a (.v (.str (Str.ofString "unary") k1) :: .v (.str op k2) :: r))
  | call {a f k1 k2 r} : f ∈ callNames → t.isNeg = false → t.isNo = (f == Str.ofString "NO") → t.isNm (Str.ofString "Z") = false → SK t (.tup a (.v (.str (Str.ofString "call") k1) :: .v (.str f k2) :: r))
  | oth {a kd k1 r} : kd ∈ [Str.ofString "name", Str.ofString "text", Str.ofString "whole", Str.ofString "null", Str.ofString "join", Str.ofString "binary", Str.ofString "item"] → t.isNeg = false → t.isNo = false → SK t (.tup a (.v (.str kd k1) :: r))
theorem TV.sk {t : Tr} {v : SV} (h : TV t v) : SK t v := by
  cases h with
  | un hx => exact .un hx rfl rfl rfl
  | call0 hx => exact .call hx rfl rfl rfl
  | call1 hx => exact .call hx rfl rfl rfl
  | call2 hx => exact .call hx rfl rfl rfl
  | _ => exact .oth (by simp) rfl rfl
noncomputable def SaidRet (t : Tr) (wb : Bool) (os : List (Option Str)) (h₀ : Heap) (L : Addr) (m : Str → Option Value) (news : Led) (Q : Value → Shared → Prop) (s : Shared) : Prop :=
  ∀ v h' tk', VIs v (saidOf t wb os) → Fr h₀ L h' m → News h₀ L h' news → Q v { s with heap := h', toks := tk' }
theorem bang_len (wb : Bool) : (bangOf wb).length ≤ 1 := by cases wb <;> decide
theorem said_spec {w : World} {p : Program} {loose : List Str} {mean : ExcName → Option Value} {mg mb : Str → Option Value} {dp un : Nat} {gd : Option (List Code)} {cn : Str} {cs : Scope} {a : Addr} {ccd : Value} {cl : List (Str × Addr)} {outer : List Env} {A₀ : Around} {base h₀ : Heap} {L : Addr} {m : Str → Option Value} {news : List (Addr × Obj)} {s : Shared}
    {Q E : Value → Shared → Prop} {t : Tr} {wb : Bool} {lv : Addr} {vs : List Value} {os : List (Option Str)} {n : Nat}
    (B : Below A₀ base outer h₀) (F : Fr h₀ L s.heap m) (X : (hd.heap_1 w.params).In h₀) (N : News h₀ L s.heap news) (T : Top p loose mean mg mb h₀) (hk : cs.kind = .function)
    (hd1 : dp + 10 < recursionLimit) (hu1 : un + 40 < cLine) (hT : TIn news t) (hv : (lv, listOf vs.toArray n) ∈ news) (hvo : ValsAre vs os) (hl : vs.length ≤ 4) (hneg : t.isNeg = true → vs.length = 1)
    (hret : SaidRet t wb os h₀ L m news Q s) :
    wpAny (model PySem.Challenge.rw_pf0366_01.row.prog w) (ktrTop dp un gd cn cs L a ccd cl outer) (call (.ref 108) [t.val, .bool wb, .ref lv]) Q E s := by
  obtain ⟨v, ht, ok⟩ := hT.tv
  rw [show t.val = v.val from ht.val.symm]
  revert X; k_fill; intro X
  refine enterW B F X N T hk (by k_is) (by k_is) (by omega) rfl (locs rfl) ⟨rfl, rfl, rfl⟩ (by decide) [(Str.ofString "values", .v (.ref lv)), (Str.ofString "wants", .v (.bool wb)), (Str.ofString "tree", v)] (fun v led' => VIs v.val (saidOf t wb os) ∧ led' = news) rfl
    (fun _ => ((VarsOk.nil.set rfl rfl ok).set rfl rfl .v).set rfl rfl .v) (fun c _ C V => ?_) (fun v led' h' tk' h F' N' => hret _ h' tk' h.1 F' (h.2 ▸ N'))
  have hdl := digit_len hl
  have hlo := hvo.length
  have hh := ht.hv
  have hu : c.A.units + 1 < cLine := by
    obtain ⟨_, _, _, _, e, _⟩ := C.top
    rw [e]
    exact Nat.lt_of_le_of_lt (by show un + 3 + 1 ≤ un + 40; omega) hu1
  have hdp : dp + 1 < recursionLimit := by omega
  clear hu1 hd1
  generalize hw : saidOf t wb os = o
  have hs := ht.sk
  have e := ht.val
  have nm := fun {k : Bool → Led → Prop} {vars : Vars} {x : Str} {p1 p2 p3 p4 pos : Pos} {k1 k2 k3 : Nat} (hl : vars.lookup x = some v) (h : k (t.isNm (Str.ofString "Z")) news) => nm_test (c := c) (cv := []) (p1 := p1) (p2 := p2) (p3 := p3) (p4 := p4) (pos := pos) (k1 := k1) (k2 := k2) (k3 := k3) (x := x) (vars := vars) C.rdy hT (fun _ h => h) e hu hl h
  have sd := fun {k : Fl → Vars → Led → Prop} {ss : List Stmt} => vc_sound C.rdy 60 _ _ (.X ss k) V
  have tst := fun {k : Bool → Led → Prop} {e : PySem.Expr} => vc_sound C.rdy 40 _ _ (.B e k) V
  cases e1 : t.isNeg with
  | true =>
    have h1 := hneg e1
    cases hvo with
    | nil => cases h1
    | @cons x o1 xs os1 hx hr =>
      cases hr with
      | cons _ _ => cases h1
      | nil =>
        refine sd ?_
        clear nm sd tst V hh ok ht hT e
        cases hs with
        | un hx' e1' =>
          cases eq_of_beq (e1'.symm.trans e1)
          cases o1 with
          | none =>
            cases hx
            have hsaid : o = some (Str.ofString "~") := by rw [← hw]; unfold saidOf; rw [if_pos e1]
            subst hsaid
            exact sub_list hv (by decide) rfl fun _ => ⟨⟨_, rfl⟩, rfl⟩
          | some y =>
            obtain ⟨k, rfl⟩ := hx
            have hsaid : o = none := by rw [← hw]; unfold saidOf; rw [if_pos e1]
            subst hsaid
            exact sub_list hv (by decide) rfl ⟨rfl, rfl⟩
        | call _ e1' => cases e1'.symm.trans e1
        | oth _ e1' => cases e1'.symm.trans e1
  | false =>
    refine WpX.ifF (tst ?_) ?_
    · clear nm sd tst V hh ok ht hT e hw
      cases hs with
      | un hx e1' =>
        simp only [unOps, List.mem_cons, List.not_mem_nil, or_false] at hx
        rcases hx with rfl | rfl | rfl | rfl | rfl | rfl | rfl | rfl <;> first | exact ⟨rfl, rfl⟩ | cases e1.symm.trans e1'
      | call => exact ⟨rfl, rfl⟩
      | oth hx =>
        simp only [List.mem_cons, List.not_mem_nil, or_false] at hx
        rcases hx with rfl | rfl | rfl | rfl | rfl | rfl | rfl <;> exact ⟨rfl, rfl⟩
    cases e3 : (t.isNm (Str.ofString "Z") && !wb || t.isNo) with
    | true =>
      have hsaid : o = none := by
        rw [← hw]
        unfold saidOf
        rw [if_neg (by rw [e1]; decide)]
        revert e3
        cases t.isNm (Str.ofString "Z") <;> cases wb <;> cases t.isNo <;> simp
      subst hsaid
      refine sd ?_
      clear sd tst V hh ok ht hT e hw
      cases hs with
      | un _ _ e2 e4 =>
        rw [e2, e4] at e3
        cases e3
      | call hx _ e2 e4 =>
        refine nm (by rfl) ?_
        rw [e4]
        simp only [callNames, List.mem_cons, List.not_mem_nil, or_false] at hx
        rcases hx with rfl | rfl
        · rw [e2, e4] at e3
          cases e3
        · exact ⟨rfl, rfl⟩
      | oth hx _ e2 =>
        rw [e2] at e3
        cases e4 : t.isNm (Str.ofString "Z") with
        | false =>
          rw [e4] at e3
          cases e3
        | true =>
          cases wb with
          | true =>
            rw [e4] at e3
            cases e3
          | false =>
            refine nm (by rfl) ?_
            rw [e4]
            simp only [List.mem_cons, List.not_mem_nil, or_false] at hx
            rcases hx with rfl | rfl | rfl | rfl | rfl | rfl | rfl <;> exact ⟨rfl, rfl⟩
    | false =>
      have hsaid : o = some (saidStr t wb vs.length) := by
        rw [← hw]
        unfold saidOf
        rw [if_neg (by rw [e1]; decide), hlo]
        revert e3
        cases t.isNm (Str.ofString "Z") <;> cases wb <;> cases t.isNo <;> simp
      subst hsaid
      refine WpX.ifF (tst (nm (by rfl) ?_)) (sd ?_)
      · clear nm sd tst V hh ok ht hT e hw
        cases hs with
        | un hx _ e2 e4 =>
          simp only [unOps, List.mem_cons, List.not_mem_nil, or_false] at hx
          rw [e4]
          exact ⟨rfl, rfl⟩
        | call hx _ e2 e4 =>
          rw [e4]
          simp only [callNames, List.mem_cons, List.not_mem_nil, or_false] at hx
          rcases hx with rfl | rfl
          · exact ⟨rfl, rfl⟩
          · rw [e2] at e3
            cases (Bool.or_eq_false_iff.mp e3).2
        | oth hx _ e2 =>
          simp only [List.mem_cons, List.not_mem_nil, or_false] at hx
          cases e4 : t.isNm (Str.ofString "Z") with
          | false => rcases hx with rfl | rfl | rfl | rfl | rfl | rfl | rfl <;> exact ⟨rfl, rfl⟩
          | true =>
            rw [e4] at e3
            cases wb with
            | false => cases (Bool.or_eq_false_iff.mp e3).1
            | true => rcases hx with rfl | rfl | rfl | rfl | rfl | rfl | rfl <;> exact ⟨rfl, rfl⟩
      · cases wb <;> exact head_call C hdp hh fun _ => fun _ => cat_strs hh.len (b := 1) (by decide) (by decide) fun _ => fun _ => cat_strs (len_cat hh.len (b := 1) (by decide)) (b := 1) (by decide) (by decide) fun _ => len_list hv (by omega) fun _ => str_int (by omega) fun _ =>
        cat_strs (len_cat (len_cat hh.len (b := 1) (by decide)) (b := 1) (by decide)) hdl (by decide) fun _ => fun _ => cat_strs (len_cat (len_cat (len_cat hh.len (b := 1) (by decide)) (b := 1) (by decide)) hdl) (b := 1) (by decide) (by decide) fun _ => ⟨⟨_, rfl⟩, rfl⟩
end P_SA

section P_LP
open PySem PySem.W PyProof.Rows PySem.Calls PySem.Spec
set_option maxRecDepth 100000
set_option maxHeartbeats 8000000
noncomputable def PartsRet (t : Tr) (h₀ : Heap) (L : Addr) (m : Str → Option Value) (news : Led) (Q : Value → Shared → Prop) (s : Shared) : Prop :=
  ∀ D n tl vs h' tk', Fr h₀ L h' m → News h₀ L h' ((D, listOf vs.toArray n) :: (tl ++ news)) → (∀ p ∈ news, p.1 ≠ D) → Newer news tl → PairsIn tl vs t.parts → Q (.ref D) { s with heap := h', toks := tk' }
/-- what the parts come to -/
noncomputable def PaR (t : Tr) (news : Led) (v : SV) (led : Led) : Prop :=
  ∃ D n tl vs, v = .v (.ref D) ∧ (∀ p ∈ (D, listOf vs.toArray n) :: (tl ++ news), p ∈ led) ∧ (∀ p ∈ news, p.1 ≠ D) ∧ Newer news tl ∧ PairsIn tl vs t.parts
theorem PaR.ret {t : Tr} {h₀ : Heap} {L : Addr} {m : Str → Option Value} {news : Led} {Q : Value → Shared → Prop} {s : Shared} (R : PartsRet t h₀ L m news Q s) {v : SV} {led : Led} {h' : Heap} {tk' : Nat} (h : PaR t news v led) (F : Fr h₀ L h' m) (N : News h₀ L h' led) :
    Q v.val { s with heap := h', toks := tk' } := by
  obtain ⟨D, n, tl, vs, rfl, hs, ha, hw, hp⟩ := h
  exact R D n tl vs h' tk' F (fun p hp => N p (hs p hp)) ha hw hp
theorem lt_ne {D : Addr} {l : Led} (h : ∀ p ∈ l, p.1 < D) : ∀ p ∈ l, p.1 ≠ D := fun p hp => Nat.ne_of_lt (h p hp)
theorem PaR.zero {t : Tr} {news : Led} {D : Addr} {n : Nat} (e : t.parts = []) (l : ∀ p ∈ news, p.1 < D) : PaR t news (.v (.ref D)) ((D, listOf #[] n) :: news) :=
  ⟨D, n, [], [], rfl, fun _ h => h, lt_ne l, newer_nil, e ▸ .nil⟩
theorem PaR.one {t a : Tr} {b : Bool} {va : SV} {news : Led} {D D1 : Addr} {n n1 : Nat} (e : t.parts = [(a, b)]) (ha : TV a va) (l1 : ∀ p ∈ news, p.1 < D1) (l : ∀ p ∈ (D1, tupOf #[va.val, .bool b] n1) :: news, p.1 < D) :
    PaR t news (.v (.ref D)) ((D, listOf #[.ref D1] n) :: (D1, tupOf #[va.val, .bool b] n1) :: news) :=
  ⟨D, n, [(D1, tupOf #[va.val, .bool b] n1)], [.ref D1], rfl, fun _ h => h, fun p hp => lt_ne l p (.tail _ hp), newer_cons (allLt_of l1) newer_nil, by rw [e]; exact .cons (n := n1) (by rw [← ha.val]; exact .head _) .nil⟩
theorem PaR.two {t x y : Tr} {b1 b2 : Bool} {vx vy : SV} {news : Led} {D D1 D2 : Addr} {n n1 n2 : Nat} (e : t.parts = [(x, b1), (y, b2)]) (hx : TV x vx) (hy : TV y vy) (l1 : ∀ p ∈ news, p.1 < D1) (l2 : ∀ p ∈ (D1, tupOf #[vx.val, .bool b1] n1) :: news, p.1 < D2)
    (l : ∀ p ∈ (D2, tupOf #[vy.val, .bool b2] n2) :: (D1, tupOf #[vx.val, .bool b1] n1) :: news, p.1 < D) :
    PaR t news (.v (.ref D)) ((D, listOf #[.ref D1, .ref D2] n) :: (D2, tupOf #[vy.val, .bool b2] n2) :: (D1, tupOf #[vx.val, .bool b1] n1) :: news) :=
  ⟨D, n, [(D2, tupOf #[vy.val, .bool b2] n2), (D1, tupOf #[vx.val, .bool b1] n1)], [.ref D1, .ref D2], rfl, fun _ h => h, fun p hp => lt_ne l p (.tail _ (.tail _ hp)),
    newer_cons (allLt_of fun p hp => l2 p (.tail _ hp)) (newer_cons (allLt_of l1) newer_nil), by rw [e]; exact .cons (n := n1) (by rw [← hx.val]; exact .tail _ (.head _)) (.cons (n := n2) (by rw [← hy.val]; exact .head _) .nil)⟩
/-- trees and their views, side by side -/
inductive TVs : List Tr → List SV → Prop
  | nil : TVs [] []
  | cons {t v ts vs} : TV t v → TVs ts vs → TVs (t :: ts) (v :: vs)
theorem CP.pairs {tl : Led} {ts : List Tr} {vs : List SV} (T : TVs ts vs) : ∀ {ys : List Value}, CP tl ys vs → PairsIn tl ys (ts.map fun t => (t, false)) := by
  induction T with
  | nil => intro ys h; cases h; exact .nil
  | cons ht _ ih =>
    intro ys h
    cases h with
    | cons hm hr => exact .cons (ht.val ▸ hm) (ih hr)
theorem PaR.all {t : Tr} {ts : List Tr} {vs : List SV} {news led : Led} {D : Addr} {ys : List Value} {tl : Led} (e : t.parts = ts.map fun t => (t, false)) (T : TVs ts vs) (hs : ∀ p ∈ news, p ∈ led) (ha : ∀ p ∈ led, p.1 ≠ D) (hw : Newer led tl) (hc : CP tl ys vs) :
    PaR t news (.v (.ref D)) ((D, LCg.lst ys) :: (tl ++ led)) := by
  refine ⟨D, ys.length, tl, ys, rfl, fun p hp => ?_, fun p hp => ha p (hs p hp), newer_sub hw hs, e ▸ hc.pairs T⟩
  rcases List.mem_cons.mp hp with rfl | hp
  · exact .head _
  · exact .tail _ ((List.mem_append.mp hp).elim (List.mem_append_left _) fun h => List.mem_append_right _ (hs p h))
/-- the kinds of trees -/
inductive KV (t : Tr) : SV → Prop
  | leaf {a kd k r} : kd ∈ [Str.ofString "name", Str.ofString "text", Str.ofString "whole", Str.ofString "null"] → t.parts = [] → KV t (.tup a (.v (.str kd k) :: r))
  | join {a l r k1 vl vr} : TV l vl → TV r vr → t.parts = [(l, false), (r, false)] → KV t (.tup a [.v (.str (Str.ofString "join") k1), vl, vr])
  | bin {a op l r k1 k2 vl vr} : op ∈ binOps → TV l vl → TV r vr → t.parts = [(l, false), (r, op == Str.ofString "." || op == Str.ofString "$")] → KV t (.tup a [.v (.str (Str.ofString "binary") k1), .v (.str op k2), vl, vr])
  | un {a op x k1 k2 vx} : op ∈ unOps → TV x vx → t.parts = Tr.parts (.un a op x) → KV t (.tup a [.v (.str (Str.ofString "unary") k1), .v (.str op k2), vx])
  | call {a b f ts k1 k2 vs} : TVs ts vs → Nat.ble vs.length 64 = true → t.parts = ts.map (fun t => (t, false)) → KV t (.tup a [.v (.str (Str.ofString "call") k1), .v (.str f k2), .tup b vs])
  | item {a b h x ts k1 vh vx vs} : TV h vh → TV x vx → TVs ts vs → Nat.ble (vs.length + 2) 64 = true → t.parts = (h :: x :: ts).map (fun t => (t, false)) → KV t (.tup a [.v (.str (Str.ofString "item") k1), vh, .tup b (vx :: vs)])
theorem TV.kv {t : Tr} {v : SV} (h : TV t v) : KV t v := by
  cases h with
  | name => exact .leaf (by simp) rfl
  | text => exact .leaf (by simp) rfl
  | whole => exact .leaf (by simp) rfl
  | null => exact .leaf (by simp) rfl
  | join h1 h2 => exact .join h1 h2 rfl
  | bin hx h1 h2 => exact .bin hx h1 h2 rfl
  | un hx h1 => exact .un hx h1 rfl
  | call0 => exact .call .nil rfl rfl
  | call1 _ h1 => exact .call (.cons h1 .nil) rfl rfl
  | call2 _ h1 h2 => exact .call (.cons h1 (.cons h2 .nil)) rfl rfl
  | item1 h0 h1 => exact .item h0 h1 .nil rfl rfl
  | item2 h0 h1 h2 => exact .item h0 h1 (.cons h2 .nil) rfl rfl
  | item3 h0 h1 h2 h3 => exact .item h0 h1 (.cons h2 (.cons h3 .nil)) rfl rfl
theorem lparts_spec {w : World} {p : Program} {loose : List Str} {mean : ExcName → Option Value} {mg mb : Str → Option Value} {dp un : Nat} {gd : Option (List Code)} {cn : Str} {cs : Scope} {a : Addr} {ccd : Value} {cl : List (Str × Addr)} {outer : List Env} {A₀ : Around} {base h₀ : Heap} {L : Addr} {m : Str → Option Value} {news : List (Addr × Obj)} {s : Shared}
    {Q E : Value → Shared → Prop} {t : Tr}
    (B : Below A₀ base outer h₀) (F : Fr h₀ L s.heap m) (X : (hd.heap_1 w.params).In h₀) (N : News h₀ L s.heap news) (T : Top p loose mean mg mb h₀) (hk : cs.kind = .function)
    (hd1 : dp + 10 < recursionLimit) (hu1 : un + 40 < cLine) (hT : TIn news t) (hret : PartsRet t h₀ L m news Q s) :
    wpAny (model PySem.Challenge.rw_pf0366_01.row.prog w) (ktrTop dp un gd cn cs L a ccd cl outer) (call (.ref 113) [t.val]) Q E s := by
  obtain ⟨v, hv, ok⟩ := hT.tv
  rw [show t.val = v.val from hv.val.symm]
  have hv := hv.kv
  clear hT hu1
  revert X; k_fill; intro X
  refine enter B F X N T hk (by k_is) (by k_is) (by omega) rfl (locs rfl) ⟨rfl, rfl, rfl⟩ (by decide) 60 [(Str.ofString "tree", v)] (PaR t news) rfl (fun _ => VarsOk.nil.set rfl rfl ok) (fun c _ C => ?_) (fun v led' h' tk' h F' N' => h.ret hret F' N')
  clear hret ok
  cases hv with
  | leaf hx e =>
    simp only [List.mem_cons, List.not_mem_nil, or_false] at hx
    rcases hx with rfl | rfl | rfl | rfl <;> exact fun D l => PaR.zero e l
  | join h1 h2 e => exact fun D1 l1 D2 l2 D l => PaR.two e h1 h2 l1 l2 l
  | bin hx h1 h2 e =>
    simp only [binOps, List.mem_cons, List.not_mem_nil, or_false] at hx
    rcases hx with rfl | rfl | rfl | rfl <;> exact fun D1 l1 D2 l2 D l => PaR.two e h1 h2 l1 l2 l
  | un hx h1 e =>
    simp only [unOps, List.mem_cons, List.not_mem_nil, or_false] at hx
    rcases hx with rfl | rfl | rfl | rfl | rfl | rfl | rfl | rfl <;> first | exact fun D l => PaR.zero e l | exact fun D1 l1 D l => PaR.one e h1 l1 l
  | call hT hn e => exact comp_pairs (n := 40) C.rdy C.handled (by with_unfolding_all rfl) (by decide) rfl (by decide) rfl rfl (fun _ => rfl) (fun _ => rfl) (onB_of hn fun D ys tl ha hw hc => PaR.all e hT (fun _ h => h) ha hw hc) (fun _ => rfl)
  | item h0 h1 hT hn e =>
    refine comp_pairs (n := 40) C.rdy C.handled (by with_unfolding_all rfl) (by decide) rfl (by decide) rfl rfl (fun _ => rfl) (fun _ => rfl) ?_ (fun _ => rfl)
    refine fun D1 l1 => add_tups (by simp) (by simp) (by have := Nat.le_of_ble_eq_true hn; simp; omega) fun D2 l2 => onB_of hn fun D ys tl ha hw hc => PaR.all e (.cons h0 (.cons h1 hT)) (fun _ h => .tail _ (.tail _ h)) ha hw hc
end P_LP

section P_PO
open PySem PySem.W PyProof.Rows PySem.Calls PySem.Spec
set_option maxRecDepth 100000
set_option maxHeartbeats 8000000
theorem PaR.app {t h : Tr} {ts : List Tr} {vh : SV} {vs : List SV} {news : Led} {D D1 D2 T1 : Addr} {n n1 n2 : Nat} {ys : List Value} {tl : Led} (e : t.parts = (h :: ts).map fun t => (t, false)) (H : TV h vh) (T : TVs ts vs) (l1 : ∀ p ∈ news, p.1 < T1)
    (hw : Newer ((D1, listOf #[.ref T1] n1) :: (T1, tupOf #[vh.val, .bool false] n2) :: news) tl) (hc : CP tl ys vs)
    (l : ∀ p ∈ (D2, LCg.lst ys) :: (tl ++ (D1, listOf #[.ref T1] n1) :: (T1, tupOf #[vh.val, .bool false] n2) :: news), p.1 < D) :
    PaR t news (.v (.ref D)) ((D, listOf (Value.ref T1 :: ys).toArray n) :: (D2, LCg.lst ys) :: (tl ++ (D1, listOf #[.ref T1] n1) :: (T1, tupOf #[vh.val, .bool false] n2) :: news)) := by
  refine ⟨D, n, (T1, tupOf #[vh.val, .bool false] n2) :: tl, .ref T1 :: ys, rfl, fun p hp => ?_, fun p hp => lt_ne l p (.tail _ (List.mem_append_right _ (.tail _ (.tail _ hp)))), newer_cons (allLt_of l1) (newer_sub hw fun _ h => .tail _ (.tail _ h)), ?_⟩
  · rcases List.mem_cons.mp hp with rfl | hp
    · exact .head _
    refine .tail _ (.tail _ ?_)
    rcases List.mem_cons.mp hp with rfl | hp
    · exact List.mem_append_right _ (.tail _ (.head _))
    · exact (List.mem_append.mp hp).elim (List.mem_append_left _) fun h => List.mem_append_right _ (.tail _ (.tail _ h))
  · rw [e]
    exact .cons (n := n2) (by rw [← H.val]; exact .head _) ((hc.mono fun _ h => .tail _ h).pairs T)
theorem CP.length {tl : Led} {ys : List Value} {vs : List SV} (h : CP tl ys vs) : ys.length = vs.length := by
  induction h with
  | nil => rfl
  | cons _ _ ih => rw [List.length_cons, List.length_cons, ih]
theorem parts_spec {w : World} {p : Program} {loose : List Str} {mean : ExcName → Option Value} {mg mb : Str → Option Value} {dp un : Nat} {gd : Option (List Code)} {cn : Str} {cs : Scope} {a : Addr} {ccd : Value} {cl : List (Str × Addr)} {outer : List Env} {A₀ : Around} {base h₀ : Heap} {L : Addr} {m : Str → Option Value} {news : List (Addr × Obj)} {s : Shared}
    {Q E : Value → Shared → Prop} {t : Tr}
    (B : Below A₀ base outer h₀) (F : Fr h₀ L s.heap m) (X : (hd.heap_1 w.params).In h₀) (N : News h₀ L s.heap news) (T : Top p loose mean mg mb h₀) (hk : cs.kind = .function)
    (hd1 : dp + 10 < recursionLimit) (hu1 : un + 40 < cLine) (hT : TIn news t) (hret : PartsRet t h₀ L m news Q s) :
    wpAny (model PySem.Challenge.rw_pf0366_01.row.prog w) (ktrTop dp un gd cn cs L a ccd cl outer) (call (.ref 70) [t.val]) Q E s := by
  obtain ⟨v, hv, ok⟩ := hT.tv
  rw [show t.val = v.val from hv.val.symm]
  have hv := hv.kv
  clear hT hu1
  revert X; k_fill; intro X
  refine enter B F X N T hk (by k_is) (by k_is) (by omega) rfl (locs rfl) ⟨rfl, rfl, rfl⟩ (by decide) 60 [(Str.ofString "tree", v)] (PaR t news) rfl (fun _ => VarsOk.nil.set rfl rfl ok) (fun c _ C => ?_) (fun v led' h' tk' h F' N' => h.ret hret F' N')
  clear hret ok
  cases hv with
  | leaf hx e =>
    simp only [List.mem_cons, List.not_mem_nil, or_false] at hx
    rcases hx with rfl | rfl | rfl | rfl <;> exact fun D l => PaR.zero e l
  | join h1 h2 e => exact fun D1 l1 D2 l2 D l => PaR.two e h1 h2 l1 l2 l
  | bin hx h1 h2 e =>
    simp only [binOps, List.mem_cons, List.not_mem_nil, or_false] at hx
    rcases hx with rfl | rfl | rfl | rfl <;> exact fun D1 l1 D2 l2 D l => PaR.two e h1 h2 l1 l2 l
  | un hx h1 e =>
    simp only [unOps, List.mem_cons, List.not_mem_nil, or_false] at hx
    rcases hx with rfl | rfl | rfl | rfl | rfl | rfl | rfl | rfl <;> first | exact fun D l => PaR.zero e l | exact fun D1 l1 D l => PaR.one e h1 l1 l
  | call hT hn e => exact comp_pairs (n := 40) C.rdy C.handled (by with_unfolding_all rfl) (by decide) rfl (by decide) rfl rfl (fun _ => rfl) (fun _ => rfl) (onB_of hn fun D ys tl ha hw hc => PaR.all e hT (fun _ h => h) ha hw hc) (fun _ => rfl)
  | item h0 h1 hT hn e =>
    refine fun T1 l1 D1 l2 => comp_pairs (n := 40) C.rdy C.handled (by with_unfolding_all rfl) (by decide) rfl (by decide) rfl rfl (fun _ => rfl) (fun _ => rfl) ?_ (fun _ => rfl)
    refine onB_of (Nat.ble_eq.mpr (Nat.le_of_succ_le (Nat.le_of_ble_eq_true hn))) fun D2 ys tl ha hw hc => add_lists2 (xs := [.ref T1]) (n1 := 0) (.tail _ (List.mem_append_right _ (.head _))) (.head _) ?_ fun D l => PaR.app e h0 (.cons h1 hT) l1 hw hc l
    have := Nat.le_of_ble_eq_true hn
    rw [hc.length, List.length_singleton, List.length_cons]
    omega
end P_PO

section P_LJ
open PySem PySem.W PyProof.Rows PySem.Calls PySem.Spec
set_option maxRecDepth 100000
section
variable {prog : Program} {w : World} {A : Around} {E : Value → Shared → Prop} {s : Shared} {env : Env} {h₀ : Heap} {target : PySem.Expr} {body : List Stmt} {Q : Flow → Shared → Prop}
noncomputable def TurnEnd (h₀ : Heap) (L : Addr) (s : Shared) (I : Addr) (o : Obj) (P : (Str → Option Value) → Led → Prop) (s₂ : Shared) : Prop :=
  ∃ h' tk m' led, s₂ = { s with heap := h', toks := tk } ∧ Fr h₀ L h' m' ∧ News h₀ L h' ((I, o) :: led) ∧ (∀ p ∈ led, p.1 ≠ I) ∧ P m' led
/-- the end of a turn -/
noncomputable def TurnJ (h₀ : Heap) (L : Addr) (s : Shared) (I : Addr) (o : Obj) (Q : Flow → Shared → Prop) (P : (Str → Option Value) → Led → Prop) (f : Flow) (s₂ : Shared) : Prop :=
  match f with
  | .ret v => Q (.ret v) s₂
  | .brk => Q .next s₂
  | _ => TurnEnd h₀ L s I o P s₂
theorem iter_J {ax : Addr} {vs : List Value} {n : Nat} {m₀ : Str → Option Value} {news : Led} (J : List Value → (Str → Option Value) → Led → Prop)
    (hh : A.handled = none) (F : Fr h₀ env.locals s.heap m₀) (N : News h₀ env.locals s.heap news) (hm : (ax, listOf vs.toArray n) ∈ news) (hJ : J vs m₀ news)
    (turn : ∀ v r m₁ news₁ I o h tk, J (v :: r) m₁ news₁ → (∀ p ∈ news₁, p.1 ≠ I) → Fr h₀ env.locals h m₁ → News h₀ env.locals h ((I, o) :: news₁) →
      wpAny (model prog w) A (assign target env v) (fun _ s₂ => wpAny (model prog w) A (execs body env) (TurnJ h₀ env.locals { s with heap := h, toks := tk } I o Q (fun m' led => (ax, listOf vs.toArray n) ∈ led ∧ J r m' led)) E s₂) E { s with heap := h, toks := tk })
    (done : ∀ m₁ news₁ h tk, J [] m₁ news₁ → Fr h₀ env.locals h m₁ → News h₀ env.locals h news₁ → Q .next { s with heap := h, toks := tk }) :
    wpAny (model prog w) A (pyIter (.ref ax)) (fun it s₂ => TurnsAt prog w A h₀ env target body Q E it s₂) E s := by
  refine iter_listTurns (lo := listOf vs.toArray n) (vs := vs) (n := n) hh F N hm rfl rfl fun I hI => ?_
  have key : ∀ (r : List Value) (m₁ : Str → Option Value) (news₁ : Led), (∀ p ∈ news₁, p.1 ≠ I) → J r m₁ news₁ → ItemsRest prog w A E h₀ env target body Q s [(I, "list_iterator")] [(ax, listOf vs.toArray n)] (r.map .val) m₁ news₁ := by
    intro r
    induction r with
    | nil => exact fun m₁ news₁ _ hJ => ItemsRest.zero fun h tk F N => done m₁ news₁ h tk hJ F N
    | cons v r ih =>
      intro m₁ news₁ hIn hJ
      refine ItemsRest.val fun h tk F₁ => AllObj.cons fun o hc => AllObj.nil fun N₁ => ?_
      refine wpAny_mono (turn v r m₁ news₁ I o h tk hJ hIn F₁ N₁) (fun _ s₂ h₂ => wpAny_mono h₂ (fun f s₃ h₃ => ?_) fun _ _ e => e) fun _ _ e => e
      · have fin : (∃ h' tk' m' led, s₃ = { s with heap := h', toks := tk' } ∧ Fr h₀ env.locals h' m' ∧ News h₀ env.locals h' ((I, o) :: led) ∧ (∀ p ∈ led, p.1 ≠ I) ∧ (ax, listOf vs.toArray n) ∈ led ∧ J r m' led) →
            UnrEndW h₀ env.locals { s with heap := h, toks := tk } [(I, o)] (fun m' n' => SubL [(ax, listOf vs.toArray n)] n' ∧ ItemsRest prog w A E h₀ env target body Q s [(I, "list_iterator")] [(ax, listOf vs.toArray n)] (r.map .val) m' n') s₃ := by
          rintro ⟨h', tk', m', led, e, F', N', hne, hax, hJ'⟩
          exact ⟨h', tk', m', led, e, F', N', fun p hp q hq => by rw [List.mem_singleton.mp hq]; exact hne p hp, ⟨hax, trivial⟩, ih m' led hne hJ'⟩
        cases f with
        | ret v => exact h₃
        | brk => exact h₃
        | next => exact fin h₃
        | cont => exact fin h₃
  exact key vs m₀ news (fun p hp => Nat.ne_of_lt (hI p hp)) hJ
theorem cut3 {M : Model} {a b c : Stmt} {rest : List Stmt} (P : Shared → Prop)
    (h1 : wpAny M A (exec a env) (fun f s' => match f with | .next => wpAny M A (exec b env) (fun f s' => match f with | .next => wpAny M A (exec c env) (fun f s' => match f with | .next => P s' | f => Q f s') E s' | f => Q f s') E s' | f => Q f s') E s)
    (h2 : ∀ s', P s' → wpAny M A (execs rest env) Q E s') : wpAny M A (execs (a :: b :: c :: rest) env) Q E s := by
  refine wpAny_execs_cons (wpAny_mono h1 (fun f s₁ k1 => ?_) fun _ _ e => e)
  cases f with
  | next =>
    refine wpAny_execs_cons (wpAny_mono k1 (fun f s₂ k2 => ?_) fun _ _ e => e)
    cases f with
    | next =>
      refine wpAny_execs_cons (wpAny_mono k2 (fun f s₃ k3 => ?_) fun _ _ e => e)
      cases f with
      | next => exact h2 _ k3
      | _ => exact k3
    | _ => exact k2
  | _ => exact k1
end
end P_LJ

section P_LM
open PySem PySem.W PyProof.Rows PySem.Calls PySem.Spec
set_option maxRecDepth 100000
section
variable {prog : Program} {w : World} {A : Around} {E : Value → Shared → Prop} {s : Shared} {h₀ : Heap} {L D : Addr} {m : Str → Option Value} {news : Led} {vs : List Value} {n : Nat} {x : Value} {g : Obj → Led} {Q : Value → Shared → Prop}
theorem fits_of (h : vs.length ≤ 1000000) : vs.toArray.size ≤ sizeLine := by
  rw [List.size_toArray]
  exact Nat.le_trans h (by decide)
theorem app_lst (F : Fr h₀ L s.heap m) (N : News h₀ L s.heap news) (U : UpdF D (listOf vs.toArray n) news g) (hz : vs.length ≤ 1000000)
    (h : ∀ h', Fr h₀ L h' m → News h₀ L h' (g (listOf (vs ++ [x]).toArray (n + 1))) → Q .none { s with heap := h' }) : wpAny (model prog w) A (call (.builtin "list.append") [.ref D, x]) Q E s := by
  obtain ⟨pre, post, rfl, hg, a, b⟩ := U.split
  have z := N (D, listOf vs.toArray n) (List.mem_append.mpr (.inr (.head _)))
  refine append_at (hsz := fits_of hz) z.1 fun h' hs ho' => h h' (F.change hs z.2.1 z.2.2) ?_
  rw [hg, ← List.push_toArray]
  exact news_set N a b hs ho'
theorem updF_upd {d : Addr} {o o' : Obj} {l : Led} (U : UpdF d o l g) : Upd d o o' l (g o') := by
  induction U with
  | head h => exact .head h
  | tail h _ ih => exact .tail h ih
theorem last_snoc : ∀ (vs : List Value) (y : Value), kl_last (vs ++ [y]) = some (vs, y)
  | [], _ => rfl
  | x :: r, y => by
    show (match kl_last (r ++ [y]) with | some (p, z) => some (x :: p, z) | none => some ([], x)) = _
    rw [last_snoc r y]
theorem pop_lst (F : Fr h₀ L s.heap m) (N : News h₀ L s.heap news) (U : UpdF D (listOf (vs ++ [x]).toArray n) news g) (hz : vs.length ≤ 1000000)
    (h : ∀ h', Fr h₀ L h' m → News h₀ L h' (g (listOf vs.toArray (n + 1))) → Q x { s with heap := h' }) : wpAny (model prog w) A (call (.builtin "list.pop") [.ref D]) Q E s :=
  kl_pop F N (last_snoc vs x) (updF_upd U) (by show (vs ++ [x]).length ≤ sizeLine; rw [List.length_append]; exact Nat.le_trans (Nat.add_le_add_right hz 1) (by decide)) h
theorem ext_lst {b : Addr} {ws : List Value} {n2 : Nat} (F : Fr h₀ L s.heap m) (N : News h₀ L s.heap news) (U : UpdF D (listOf vs.toArray n) news g) (hb : (b, listOf ws.toArray n2) ∈ news) (hz : vs.length ≤ 1000000) (hz2 : ws.length ≤ 1000000)
    (h : ∀ h' n', Fr h₀ L h' m → News h₀ L h' (g (listOf (vs ++ ws).toArray n')) → Q .none { s with heap := h' }) : wpAny (model prog w) A (call (.builtin "list.extend") [.ref D, .ref b]) Q E s := by
  have hsz : vs.toArray.size + ws.toArray.size ≤ 2000000 := by simp only [List.size_toArray]; omega
  have hd : ¬(!vs.toArray.isEmpty && Builtin.List.listTooLong (vs.toArray.size + ws.toArray.size)) = true := by
    have : Builtin.List.listTooLong (vs.toArray.size + ws.toArray.size) = false := by
      unfold Builtin.List.listTooLong
      simp only [decide_eq_false_iff_not]
      exact Nat.not_lt.mpr (Nat.le_trans hsz (by decide))
    rw [this]; simp
  have hz' : vs.toArray.toList.length ≤ sizeLine := Nat.le_trans hz (by decide)
  have hzz : vs.toArray.size + ws.toArray.size ≤ sizeLine + 1 := Nat.le_trans hsz (by decide)
  match ws, hb with
  | [], hb =>
    refine kxn_extend F N hb rfl (updF_upd U) hd hz' hzz fun h' F' N' => h h' n F' ?_
    rw [List.append_nil]
    exact N'
  | y :: r, hb => exact kl_extend F N hb rfl (by simp) (updF_upd U) hd hz' hzz fun h' F' N' => h h' (n + 1) F' N'
theorem len_snoc (N : News h₀ L s.heap news) (hm : (D, listOf (vs ++ [x]).toArray n) ∈ news) (hz : vs.length ≤ 1000000)
    (h : ∀ t tk, Q (.int ((vs.length : Nat) + 1 : Int) t) { s with toks := tk }) : wpAny (model prog w) A (call (.builtin "len") [.ref D]) Q E s :=
  Calls.call_len_list (News.isList N hm) (by rw [List.size_toArray, List.length_append, List.length_singleton]; omega) (by
    rw [List.size_toArray, List.length_append, List.length_singleton]
    have := h s.toks (s.toks + 1 + 1)
    simpa using h _ _)
theorem item_snoc {value slice : PySem.Expr} {u : Tok} (N : News h₀ L s.heap news) (hm : (D, listOf (vs ++ [x]).toArray n) ∈ news) (h : Q x s)
    (hs : subscripted slice false (.ref D) (.int (-1) u) = operate [.ref D, .int (-1) u] (getItem (.ref D) (.int (-1) u)) := by with_unfolding_all rfl) :
    wpAny (model prog w) A (subscriptTail value slice (.ref D) (.int (-1) u)) Q E s := by
  have hl := News.isList N hm
  refine tail_any hl.typeIs slot_list_getitem.lookup (wpAny_getItem_list_neg hl (by decide) (by simp; omega) (by decide) ?_ h) hs
  have e : ((-1 : Int) + ((vs ++ [x]).toArray.size : Int)).toNat = vs.length := by simp; omega
  rw [e]
  simp
theorem slice_from {value slice : PySem.Expr} {k : Nat} {u : Tok} (F : Fr h₀ L s.heap m) (N : News h₀ L s.heap news) (hm : (D, listOf vs.toArray n) ∈ news) (hk : k ≤ vs.length) (hz : vs.length ≤ 1000000)
    (h : ∀ D' h', Fr h₀ L h' m → News h₀ L h' ((D', listOf (vs.drop k).toArray 0) :: news) → (∀ p ∈ news, p.1 < D') → Q (.ref D') { s with heap := h' })
    (hs : subscripted slice false (.ref D) (.ref s.heap.objs.size) = operate [.ref s.heap.objs.size, .ref D] (getItem (.ref D) (.ref s.heap.objs.size)) := by with_unfolding_all rfl) (ht : ∀ r, letTemporaryGo value (.ref D) r = pure () := by intro _; with_unfolding_all rfl) :
    wpAny (model prog w) A (subscriptTail value slice (.ref D) (.ref s.heap.objs.size)) Q E { s with heap := s.heap.push { cls := .type "slice", data := .fields #[.int (k : Nat) u, .none, .none] } } := by
  refine kmk_slice F N (News.isList N hm) (.int _ _) .none (fun D' h' F' N' l1 => ?_) hs ht (fits_of hz)
  rw [slicePick_from _ k (by simpa using hk)] at N'
  exact h D' h' F' N' l1
theorem pick_to (vs : List Value) (k : Nat) : slicePick vs.toArray none (some (k : Int)) none = (vs.take k).toArray := by
  by_cases hk : k ≤ vs.length
  · exact slicePick_upto _ k (by simpa using hk)
  · have e : sliceBounds none (some (k : Int)) none vs.toArray.size = (((0 : Nat) : Int), ((vs.length : Nat) : Int), 1) := by
      simp only [sliceBounds, Option.getD_none, show (1 : Int) > 0 by decide, if_true, if_neg (show ¬ ((k : Int) < 0) by omega), List.size_toArray]
      congr 1
      congr 1
      omega
    rw [kmk_pick_nat _ e]
    simp only [List.drop_zero, Nat.sub_zero, List.take_length]
    rw [List.take_of_length_le (by omega)]
theorem slice_to {value slice : PySem.Expr} {k : Nat} {u : Tok} (F : Fr h₀ L s.heap m) (N : News h₀ L s.heap news) (hm : (D, listOf vs.toArray n) ∈ news) (hz : vs.length ≤ 1000000)
    (h : ∀ D' h', Fr h₀ L h' m → News h₀ L h' ((D', listOf (vs.take k).toArray 0) :: news) → (∀ p ∈ news, p.1 < D') → Q (.ref D') { s with heap := h' })
    (hs : subscripted slice false (.ref D) (.ref s.heap.objs.size) = operate [.ref s.heap.objs.size, .ref D] (getItem (.ref D) (.ref s.heap.objs.size)) := by with_unfolding_all rfl) (ht : ∀ r, letTemporaryGo value (.ref D) r = pure () := by intro _; with_unfolding_all rfl) :
    wpAny (model prog w) A (subscriptTail value slice (.ref D) (.ref s.heap.objs.size)) Q E { s with heap := s.heap.push { cls := .type "slice", data := .fields #[.none, .int (k : Nat) u, .none] } } := by
  refine kmk_slice F N (News.isList N hm) .none (.int _ _) (fun D' h' F' N' l1 => ?_) hs ht (fits_of hz)
  rw [pick_to] at N'
  exact h D' h' F' N' l1
theorem add_lst {b : Addr} {ws : List Value} {n2 : Nat} (F : Fr h₀ L s.heap m) (N : News h₀ L s.heap news) (hm : (D, listOf vs.toArray n) ∈ news) (hb : (b, listOf ws.toArray n2) ∈ news) (hz : vs.length ≤ 1000000) (hz2 : ws.length ≤ 1000000)
    (h : ∀ D' h', Fr h₀ L h' m → News h₀ L h' ((D', listOf (vs ++ ws).toArray 0) :: news) → (∀ p ∈ news, p.1 < D') → Q (.ref D') { s with heap := h' }) : wpAny (model prog w) A (binaryOp .Add (.ref D) (.ref b)) Q E s :=
  add_lists F N (News.isList N hm) (News.isList N hb) (fun h' F' N' => h _ h' F' N' fun p hp => Heap.lt_size (N p hp).1) (Nat.le_trans (Nat.add_le_add hz hz2) (by decide))
theorem rev_lst {value slice : PySem.Expr} {u : Tok} {ops : List Value} (F : Fr h₀ L s.heap m) (N : News h₀ L s.heap news) (hm : (D, listOf vs.toArray n) ∈ news) (hz : vs.length ≤ 1000000)
    (h : ∀ D' h', Fr h₀ L h' m → News h₀ L h' ((D', listOf vs.reverse.toArray 0) :: news) → (∀ p ∈ news, p.1 < D') → Q (.ref D') { s with heap := h' })
    (hs : subscripted slice false (.ref D) (.ref s.heap.objs.size) = operate ops (getItem (.ref D) (.ref s.heap.objs.size))) (ht : ∀ r, letTemporaryGo value (.ref D) r = pure ()) :
    wpAny (model prog w) A (subscriptTail value slice (.ref D) (.ref s.heap.objs.size)) Q E { s with heap := s.heap.push { cls := .type "slice", data := .fields #[.none, .none, .int (-1) u] } } :=
  krv_lit F N (News.isList N hm) (.int _ _) rfl h hs ht (fits_of hz)
end
end P_LM

section P_DL
open PySem PySem.W PyProof.Rows PySem.Calls PySem.Spec
set_option maxRecDepth 100000
set_option maxHeartbeats 8000000

noncomputable def DueRet (nd : Addr) (its : List Value) (e : Nat) (imm : Led) (h₀ : Heap) (L : Addr) (m : Str → Option Value) (r : List Note × Option (Option Str)) (Q : Value → Shared → Prop) (s : Shared) : Prop :=
  ∀ v tl its' e' h' tkk, DIs v r.2 → Fr h₀ L h' m → News h₀ L h' (tl ++ ((nd, listOf (its ++ its').toArray e') :: imm)) → Newer ((nd, listOf its.toArray e) :: imm) tl → NotesIn tl its' r.1 → Q v { s with heap := h', toks := tkk }
noncomputable def DueOK (w : World) (p : Program) (loose : List Str) (mean : ExcName → Option Value) (mg mb : Str → Option Value) (n : Nat) : Prop :=
  ∀ (dp un : Nat) (gd : Option (List Code)) (cn : Str) (cs : Scope) (a : Addr) (ccd : Value) (cl : List (Str × Addr)) (outer : List Env) (A₀ : Around) (base h₀ : Heap) (L : Addr) (m : Str → Option Value) (imm : Led) (s : Shared) (nd : Addr) (its : List Value) (e : Nat) (t : Tr) (wb : Bool)
    (Q E : Value → Shared → Prop),
    Below A₀ base outer h₀ → Fr h₀ L s.heap m → (hd.heap_1 w.params).In h₀ → News h₀ L s.heap ((nd, listOf its.toArray e) :: imm) → Top p loose mean mg mb h₀ → cs.kind = .function → dp + 3 * n + 20 < recursionLimit → un + 20 * n + 60 < cLine →
    TIn imm t → t.height ≤ n → its.length + cap n ≤ 100000 → Apart nd imm → DueRet nd its e imm h₀ L m (due n t wb) Q s →
    wpAny (model PySem.Challenge.rw_pf0366_01.row.prog w) (ktrTop dp un gd cn cs L a ccd cl outer) (call (.ref 120) [t.val, .bool wb, .ref nd]) Q E s

noncomputable def addTo (ns : List Note) (os : List (Option Str)) (r : List Note × Out (List (Option Str))) : List Note × Out (List (Option Str)) := (ns ++ r.1, r.2.map (·.map (os ++ ·)))
noncomputable def bind3 (m : Str → Option Value) (u1 u2 u3 : Option Value) : Str → Option Value := fun z => if z = Str.ofString "value" then u3 else if z = Str.ofString "is_wanted" then u2 else if z = Str.ofString "part" then u1 else m z
noncomputable def OffThree (m₁ m : Str → Option Value) : Prop := ∀ z, z ≠ Str.ofString "value" → z ≠ Str.ofString "is_wanted" → z ≠ Str.ofString "part" → m₁ z = m z
theorem OffThree.bind {m₁ m : Str → Option Value} (h : OffThree m₁ m) : m₁ = bind3 m (m₁ (Str.ofString "part")) (m₁ (Str.ofString "is_wanted")) (m₁ (Str.ofString "value")) := by
  funext z
  unfold bind3
  split
  · next e => rw [e]
  · split
    · next e => rw [e]
    · split
      · next e => rw [e]
      · next h1 h2 h3 => exact h z h1 h2 h3
theorem OffThree.of {m : Str → Option Value} {u1 u2 u3 v1 v2 v3 : Option Value} : OffThree (fun z => if z = Str.ofString "value" then v3 else if z = Str.ofString "is_wanted" then v2 else if z = Str.ofString "part" then v1 else bind3 m u1 u2 u3 z) m := by
  intro z h1 h2 h3
  simp only [h1, h2, h3, if_false, bind3]
/-- what stands in the loop -/
structure LoopSt (kp : Addr × Obj) (n : Nat) (t : Tr) (nd : Addr) (its : List Value) (e : Nat) (imm : Led) (V : Addr) (ps : List (Tr × Bool)) (r : List Value) (ns : List Note) (os : List (Option Str)) (its' vals : List Value) (tl : Led) : Prop where
  kV : kp.1 ≠ V
  kd : kp.1 ≠ nd
  hnotes : NotesIn tl its' ns
  hvals : ValsAre vals os
  pairs : PairsIn tl r ps
  okp : ∀ q ∈ ps, TIn imm q.1 ∧ q.1.height ≤ n
  total : dueL (due n) t.isNeg t.parts = addTo ns os (dueL (due n) t.isNeg ps)
  newer : Newer ((nd, listOf its.toArray e) :: imm) tl
  ndV : @LT.lt Nat _ nd V
  immV : AllLt V imm
  tlV : ∀ p ∈ tl, p.1 ≠ V
  many : vals.length + ps.length ≤ 4
  size : ns.length + ps.length * cap n ≤ 4 * cap n
noncomputable def DJ (kp : Addr × Obj) (n : Nat) (t : Tr) (nd : Addr) (its : List Value) (e : Nat) (imm : Led) (V : Addr) (m₀ : Str → Option Value) (r : List Value) (m₁ : Str → Option Value) (news₁ : Led) : Prop :=
  OffThree m₁ m₀ ∧ ∃ ps ns os its' vals tl e1 e2, news₁ = (V, listOf vals.toArray e1) :: (nd, listOf (its ++ its').toArray e2) :: kp :: (tl ++ imm) ∧ LoopSt kp n t nd its e imm V ps r ns os its' vals tl
theorem due_loop {prog : Program} {w : World} {A : Around} {E : Value → Shared → Prop} {s : Shared} {env : Env} {h₀ : Heap} {target : PySem.Expr} {body : List Stmt} {Q : Flow → Shared → Prop}
    {n : Nat} {t : Tr} {nd : Addr} {its : List Value} {e : Nat} {imm : Led} {V ax : Addr} {e1 k : Nat} {tl vs} {m₀ : Str → Option Value}
    (hh : A.handled = none) (F : Fr h₀ env.locals s.heap m₀) (N : News h₀ env.locals s.heap ((ax, listOf vs.toArray k) :: (tl ++ (V, listOf #[] e1) :: (nd, listOf its.toArray e) :: imm)))
    (hT : TIn imm t) (hh' : t.height ≤ n + 1) (hap : Apart nd imm) (hP : PairsIn tl vs t.parts) (hax : ∀ p ∈ (V, listOf #[] e1) :: (nd, listOf its.toArray e) :: imm, p.1 ≠ ax) (hn : Newer ((V, listOf #[] e1) :: (nd, listOf its.toArray e) :: imm) tl) (hV : AllLt V ((nd, listOf its.toArray e) :: imm))
    (turn : ∀ a k' p wb r ps ns os its' vals tl e1 e2 I o h tk u1 u2 u3, (a, tupOf #[.ref (Tr.ad p), .bool wb] k') ∈ tl → LoopSt (ax, listOf vs.toArray k) n t nd its e imm V ((p, wb) :: ps) (.ref a :: r) ns os its' vals tl → @Ne Nat V I → @Ne Nat nd I → (∀ p ∈ (ax, listOf vs.toArray k) :: (tl ++ imm), p.1 ≠ I) →
      Fr h₀ env.locals h (bind3 m₀ u1 u2 u3) → News h₀ env.locals h ((I, o) :: (V, listOf vals.toArray e1) :: (nd, listOf (its ++ its').toArray e2) :: (ax, listOf vs.toArray k) :: (tl ++ imm)) →
      wpAny (model prog w) A (assign target env (.ref a)) (fun _ s₂ => wpAny (model prog w) A (execs body env) (TurnJ h₀ env.locals { s with heap := h, toks := tk } I o Q (fun m' led => (ax, listOf vs.toArray k) ∈ led ∧ DJ (ax, listOf vs.toArray k) n t nd its e imm V m₀ r m' led)) E s₂) E { s with heap := h, toks := tk })
    (done : ∀ ns os its' vals tl e1 e2 h tk u1 u2 u3, LoopSt (ax, listOf vs.toArray k) n t nd its e imm V [] [] ns os its' vals tl → Fr h₀ env.locals h (bind3 m₀ u1 u2 u3) → News h₀ env.locals h ((V, listOf vals.toArray e1) :: (nd, listOf (its ++ its').toArray e2) :: (ax, listOf vs.toArray k) :: (tl ++ imm)) → Q .next { s with heap := h, toks := tk }) :
    wpAny (model prog w) A (pyIter (.ref ax)) (fun it s₂ => TurnsAt prog w A h₀ env target body Q E it s₂) E s := by
  have nw1 : Newer ((nd, listOf its.toArray e) :: imm) tl := newer_sub hn fun p hp => .tail _ hp
  refine iter_J (vs := vs) (n := k) (news := (V, listOf #[] e1) :: (nd, listOf its.toArray e) :: (ax, listOf vs.toArray k) :: (tl ++ imm)) (DJ (ax, listOf vs.toArray k) n t nd its e imm V m₀) hh F (news_drop N ?_) ?_ ?_ ?_ ?_
  · intro p hp; simp only [List.mem_cons, List.mem_append] at hp ⊢; grind
  · exact .tail _ (.tail _ (.head _))
  · refine ⟨fun _ _ _ _ => rfl, t.parts, [], [], [], [], tl, e1, e, by simp, ⟨Ne.symm (hax _ (.head _)), Ne.symm (hax _ (.tail _ (.head _))), .nil, .nil, hP, fun q hq => ⟨parts_in hT q hq, by have := parts_height hq; omega⟩, ?_, nw1, hV.1, hV.2, ?_, ?_, ?_⟩⟩
    · simp [addTo]
    · intro p hp
      exact Nat.ne_of_gt (hn _ (.head _) p hp)
    · simpa using t.parts_len
    · simpa using Nat.mul_le_mul_right (cap n) t.parts_len
  · rintro v r m₁ news₁ I o h tk ⟨hm, ps, ns, os, its', vals, tl', e1', e2', rfl, S⟩ hI F₁ N₁
    have hp := S.pairs
    cases hp with
    | @cons a k' p b vs' ps hm' hp' =>
      rw [hm.bind] at F₁
      exact turn a k' p b r ps ns os its' vals tl' e1' e2' I o h tk _ _ _ hm' S (hI _ (.head _)) (hI _ (.tail _ (.head _))) (fun q hq => hI q (.tail _ (.tail _ hq))) F₁ N₁
  · rintro m₁ news₁ h tk ⟨hm, ps, ns, os, its', vals, tl', e1', e2', rfl, S⟩ F₁ N₁
    have hp := S.pairs
    cases hp
    rw [hm.bind] at F₁
    exact done ns os its' vals tl' e1' e2' h tk _ _ _ S F₁ N₁

structure DueIs (n : Nat) (t : Tr) (wb : Bool) (o : Out Str) : Prop where
  h : (due n t wb).2 = o
theorem due_call {w : World} {p : Program} {loose : List Str} {mean : ExcName → Option Value} {mg mb : Str → Option Value} {dp un : Nat} {gd : Option (List Code)} {cn : Str} {cs : Scope} {a : Addr} {ccd : Value} {cl : List (Str × Addr)} {outer : List Env} {A₀ : Around} {base h₀ : Heap} {L : Addr} {m : Str → Option Value} {led imm0 : List (Addr × Obj)} {s : Shared}
    {Q E : Value → Shared → Prop} {nd ta : Addr} {its : List Value} {e n : Nat} {t : Tr} {wb : Bool} {g : Obj → Led} (C : DueOK w p loose mean mg mb n)
    (B : Below A₀ base outer h₀) (F : Fr h₀ L s.heap m) (X : (hd.heap_1 w.params).In h₀) (N : News h₀ L s.heap led) (T : Top p loose mean mg mb h₀) (hk : cs.kind = .function) (hd1 : dp + 3 * n + 20 < recursionLimit) (hu1 : un + 20 * n + 60 < cLine)
    (U : UpdF nd (listOf its.toArray e) led g) (hT : TIn imm0 t) (eT : t.ad = ta) (sub0 : ∀ p ∈ imm0, p ∈ led) (hap0 : Apart nd imm0) (hh : t.height ≤ n) (hz : its.length + cap n ≤ 100000)
    (hret0 : ∀ tl its' e' h' tkk k, DueIs n t wb none → Fr h₀ L h' m → News h₀ L h' (tl ++ g (listOf (its ++ its').toArray e')) → Newer led tl → NotesIn tl its' (due n t wb).1 → Q (.int 8 k) { s with heap := h', toks := tkk })
    (hret1 : ∀ tl its' e' h' tkk, DueIs n t wb (some none) → Fr h₀ L h' m → News h₀ L h' (tl ++ g (listOf (its ++ its').toArray e')) → Newer led tl → NotesIn tl its' (due n t wb).1 → Q .none { s with heap := h', toks := tkk })
    (hret2 : ∀ x tl its' e' h' tkk k, DueIs n t wb (some (some x)) → Fr h₀ L h' m → News h₀ L h' (tl ++ g (listOf (its ++ its').toArray e')) → Newer led tl → NotesIn tl its' (due n t wb).1 → Q (.str x k) { s with heap := h', toks := tkk }) :
    wpAny (model PySem.Challenge.rw_pf0366_01.row.prog w) (ktrTop dp un gd cn cs L a ccd cl outer) (call (.ref 120) [.ref ta, .bool wb, .ref nd]) Q E s := by
  subst eT
  obtain ⟨own, rest, rfl, hg, h1, h2⟩ := U.split
  have hto : ∀ q, q ∈ (nd, listOf its.toArray e) :: (own ++ rest) ↔ q ∈ own ++ (nd, listOf its.toArray e) :: rest := fun q => by simp [List.mem_cons, List.mem_append]; grind
  refine C dp un gd cn cs a ccd cl outer A₀ base h₀ L m (own ++ rest) s nd its e t wb Q E B F X (fun q hq => N q ((hto q).mp hq)) T hk hd1 hu1 (hT.mono fun q hq => ?_) hh hz (apart_app h1 h2) ?_
  · rcases List.mem_cons.mp ((hto _).mpr (sub0 q hq)) with e | hq'
    · exact absurd (congrArg Prod.fst e) (hap0 q hq)
    · exact hq'
  · intro v tl its' e' h' tkk hD F' N' nw hN
    have N2 : News h₀ L h' (tl ++ g (listOf (its ++ its').toArray e')) := by
      rw [hg]
      intro q hq
      refine N' q ?_
      simp only [List.mem_append, List.mem_cons] at hq ⊢
      grind
    have nw2 : Newer (own ++ (nd, listOf its.toArray e) :: rest) tl := fun q hq => nw q ((hto q).mpr hq)
    cases hr : (due n t wb).2 with
    | none =>
      rw [hr] at hD
      obtain ⟨k, rfl⟩ := hD
      exact hret0 tl its' e' h' tkk k ⟨hr⟩ F' N2 nw2 hN
    | some o =>
      rw [hr] at hD
      cases o with
      | none =>
        have hD' : v = .none := hD
        subst hD'
        exact hret1 tl its' e' h' tkk ⟨hr⟩ F' N2 nw2 hN
      | some x =>
        obtain ⟨k, rfl⟩ := hD
        exact hret2 x tl its' e' h' tkk k ⟨hr⟩ F' N2 nw2 hN
section
variable {kp : Addr × Obj} {n : Nat} {t p : Tr} {nd V I : Addr} {its : List Value} {e e1 e2 e3 : Nat} {imm led : Led} {wb w : Bool} {ps : List (Tr × Bool)} {r : List Value} {ns : List Note} {os : List (Option Str)} {its' its2 vals : List Value} {tl tl2 : Led} {o : Obj}
  {h₀ : Heap} {L : Addr} {m : Str → Option Value} {Q : Value → Shared → Prop} {s : Shared} {h' : Heap} {tk' : Nat} {v : Value}
theorem due_ok (hb : Mine.bad t wb = false) : due (n + 1) t wb = match (dueL (due n) t.isNeg t.parts).2 with
      | none => ((dueL (due n) t.isNeg t.parts).1, none)
      | some none => ((dueL (due n) t.isNeg t.parts).1, some none)
      | some (some vs) => ((dueL (due n) t.isNeg t.parts).1 ++ [(t, wb, vs)], some (saidOf t wb vs)) := by
  simp only [due, hb, Bool.false_eq_true, if_false]
  try rfl
theorem LoopSt.err (S : LoopSt kp n t nd its e imm V ((p, w) :: ps) r ns os its' vals tl) (hb : Mine.bad t wb = false) (hr : (due n p w).2 = none) : due (n + 1) t wb = (ns ++ (due n p w).1, none) := by
  rw [due_ok hb, S.total]
  simp only [dueL, hr, addTo, Option.map_none]
theorem LoopSt.fail (S : LoopSt kp n t nd its e imm V ((p, w) :: ps) r ns os its' vals tl) (hb : Mine.bad t wb = false) (hr : (due n p w).2 = some none) (hn : t.isNeg = false) : due (n + 1) t wb = (ns ++ (due n p w).1, some none) := by
  rw [due_ok hb, S.total]
  simp [dueL, hr, addTo, hn]
theorem LoopSt.step {ov : Option Str} (S : LoopSt kp n t nd its e imm V ((p, w) :: ps) r ns os its' vals tl) (hr : (due n p w).2 = some ov) (hn : ov = none → t.isNeg = true) : dueL (due n) t.isNeg t.parts = addTo (ns ++ (due n p w).1) (os ++ [ov]) (dueL (due n) t.isNeg ps) := by
  rw [S.total]
  have h1 : ¬ (ov = none ∧ t.isNeg = false) := fun h => by rw [hn h.1] at h; exact absurd h.2 (by decide)
  simp only [dueL, hr, addTo, if_neg h1, List.append_assoc]
  congr 1
  cases (dueL (due n) t.isNeg ps).2 with
  | none => rfl
  | some x => cases x <;> simp
theorem LoopSt.last (S : LoopSt kp n t nd its e imm V [] r ns os its' vals tl) (hb : Mine.bad t wb = false) : due (n + 1) t wb = (ns ++ [(t, wb, os)], some (saidOf t wb os)) ∧ os.length = t.parts.length := by
  have h2 : dueL (due n) t.isNeg t.parts = (ns, some (some os)) := by rw [S.total]; simp [dueL, addTo]
  refine ⟨?_, dueL_vals t.parts (rec := due n) (neg := t.isNeg) (by rw [h2])⟩
  rw [due_ok hb, h2]
theorem LoopSt.newer2 (S : LoopSt kp n t nd its e imm V ps r ns os its' vals tl) (nw2 : Newer ((I, o) :: (V, listOf vals.toArray e1) :: (nd, listOf (its ++ its').toArray e2) :: kp :: (tl ++ imm)) tl2) : Newer ((nd, listOf its.toArray e) :: imm) (tl2 ++ tl) := by
  refine newer_app ?_ S.newer
  intro q hq p hp
  rcases List.mem_cons.mp hq with rfl | hq
  · exact nw2 _ (.tail _ (.tail _ (.head _))) p hp
  · exact nw2 q (.tail _ (.tail _ (.tail _ (.tail _ (List.mem_append_right _ hq))))) p hp
theorem DueRet.fin {ns2 : List Note} {out : Out Str} {X : List Value} {TL : Led} (R : DueRet nd its e imm h₀ L m (due (n + 1) t wb) Q s) (hd : due (n + 1) t wb = (ns2, out)) (hD : DIs v out) (F : Fr h₀ L h' m) (N : News h₀ L h' led)
    (hX : (nd, listOf (its ++ X).toArray e3) ∈ led) (sub1 : ∀ p ∈ TL, p ∈ led) (sub2 : ∀ p ∈ imm, p ∈ led) (nw : Newer ((nd, listOf its.toArray e) :: imm) TL) (hN : NotesIn TL X ns2) : Q v { s with heap := h', toks := tk' } := by
  rw [hd] at R
  refine R v TL X e3 h' tk' hD F (news_drop N fun p hp => ?_) nw hN
  rcases List.mem_append.mp hp with hp | hp
  · exact sub1 p hp
  · rcases List.mem_cons.mp hp with rfl | hp
    · exact hX
    · exact sub2 p hp
/-- leaves the loop by a return -/
theorem LoopSt.leave {out : Out Str} (R : DueRet nd its e imm h₀ L m (due (n + 1) t wb) Q s) (S : LoopSt kp n t nd its e imm V ((p, w) :: ps) r ns os its' vals tl) (hd : due (n + 1) t wb = (ns ++ (due n p w).1, out)) (hD : DIs v out)
    (F : Fr h₀ L h' m) (N : News h₀ L h' led) (nw2 : Newer ((I, o) :: (V, listOf vals.toArray e1) :: (nd, listOf (its ++ its').toArray e2) :: kp :: (tl ++ imm)) tl2) (hN2 : NotesIn tl2 its2 (due n p w).1)
    (hX : (nd, listOf (its ++ its' ++ its2).toArray e3) ∈ led) (sub1 : ∀ p ∈ tl2, p ∈ led) (sub2 : ∀ p ∈ tl ++ imm, p ∈ led) : Q v { s with heap := h', toks := tk' } := by
  refine R.fin (X := its' ++ its2) (TL := tl2 ++ tl) (e3 := e3) hd hD F N (by rw [← List.append_assoc]; exact hX) (fun p hp => ?_) (fun p hp => sub2 p (List.mem_append_right _ hp)) (S.newer2 nw2) ((S.hnotes.mono fun _ h => List.mem_append_right _ h).app (hN2.mono fun _ h => List.mem_append_left _ h))
  rcases List.mem_append.mp hp with hp | hp
  · exact sub1 p hp
  · exact sub2 p (List.mem_append_left _ hp)
theorem neg_isUn (t : Tr) : t.isNeg = t.isUn (Str.ofString "~") := by cases t <;> rfl
theorem LoopSt.next {ov : Option Str} {a : Addr} (S : LoopSt kp n t nd its e imm V ((p, w) :: ps) (.ref a :: r) ns os its' vals tl) (hr : (due n p w).2 = some ov) (hn : ov = none → t.isNeg = true) (hv : VIs v ov)
    (nw2 : Newer ((I, o) :: (V, listOf vals.toArray e1) :: (nd, listOf (its ++ its').toArray e2) :: kp :: (tl ++ imm)) tl2) (hN2 : NotesIn tl2 its2 (due n p w).1) :
    LoopSt kp n t nd its e imm V ps r (ns ++ (due n p w).1) (os ++ [ov]) (its' ++ its2) (vals ++ [v]) (tl2 ++ tl) where
  kV := S.kV
  kd := S.kd
  hnotes := (S.hnotes.mono fun _ h => List.mem_append_right _ h).app (hN2.mono fun _ h => List.mem_append_left _ h)
  hvals := S.hvals.app (.cons hv .nil)
  pairs := by
    have := S.pairs
    cases this with
    | cons _ h => exact h.mono fun _ h => List.mem_append_right _ h
  okp := fun q hq => S.okp q (.tail _ hq)
  total := S.step hr hn
  newer := S.newer2 nw2
  ndV := S.ndV
  immV := S.immV
  tlV := fun p hp => (List.mem_append.mp hp).elim (fun h => Nat.ne_of_gt (nw2 _ (.tail _ (.head _)) p h)) (S.tlV p)
  many := by have := S.many; simp only [List.length_append, List.length_cons, List.length_nil] at this ⊢; omega
  size := by
    have h1 := S.size
    have h2 := due_len n p w
    simp only [List.length_append, List.length_cons, Nat.succ_mul] at h1 ⊢; omega
theorem turn_close {ov : Option Str} {a : Addr} {m₀ m' : Str → Option Value} {e4 : Nat} {led0 : Led} (S : LoopSt kp n t nd its e imm V ((p, w) :: ps) (.ref a :: r) ns os its' vals tl) (hr : (due n p w).2 = some ov) (hn : ov = none → t.isNeg = true) (hv : VIs v ov)
    (nw2 : Newer ((I, o) :: (V, listOf vals.toArray e1) :: (nd, listOf (its ++ its').toArray e2) :: kp :: (tl ++ imm)) tl2) (hN2 : NotesIn tl2 its2 (due n p w).1) (hm : OffThree m' m₀) (F : Fr h₀ L h' m') (N : News h₀ L h' led0)
    (hI : (I, o) ∈ led0) (hV : (V, listOf (vals ++ [v]).toArray e4) ∈ led0) (hX : (nd, listOf (its ++ its' ++ its2).toArray e3) ∈ led0) (hK : kp ∈ led0) (sub1 : ∀ p ∈ tl2, p ∈ led0) (sub2 : ∀ p ∈ tl ++ imm, p ∈ led0) (hVI : @Ne Nat V I) (hdI : @Ne Nat nd I) (hIt : ∀ p ∈ kp :: (tl ++ imm), p.1 ≠ I) :
    TurnEnd h₀ L s I o (fun m' led => kp ∈ led ∧ DJ kp n t nd its e imm V m₀ r m' led) { s with heap := h', toks := tk' } := by
  have S' := S.next hr hn hv nw2 hN2
  refine ⟨h', tk', m', (V, listOf (vals ++ [v]).toArray e4) :: (nd, listOf (its ++ (its' ++ its2)).toArray e3) :: kp :: ((tl2 ++ tl) ++ imm), rfl, F, news_drop N ?_, ?_, ?_, hm, ps, _, _, _, _, _, _, _, rfl, S'⟩
  · intro q hq
    rw [← List.append_assoc] at hq
    simp only [List.mem_cons, List.mem_append] at hq
    rcases hq with rfl | rfl | rfl | rfl | (hq | hq) | hq
    · exact hI
    · exact hV
    · exact hX
    · exact hK
    · exact sub1 q hq
    · exact sub2 q (List.mem_append_left _ hq)
    · exact sub2 q (List.mem_append_right _ hq)
  · intro q hq
    simp only [List.mem_cons, List.mem_append] at hq
    rcases hq with rfl | rfl | rfl | (hq | hq) | hq
    · exact hVI
    · exact hdI
    · exact hIt _ (.head _)
    · exact Nat.ne_of_gt (nw2 _ (.head _) q hq)
    · exact hIt q (.tail _ (List.mem_append_left _ hq))
    · exact hIt q (.tail _ (List.mem_append_right _ hq))
  · exact .tail _ (.tail _ (.head _))
theorem neg_parts {t : Tr} (h : t.isNeg = true) : t.parts.length = 1 := by
  cases t with
  | un a op x =>
    have e : op = Str.ofString "~" := eq_of_beq h
    subst e
    kernel_rfl
  | _ => exact absurd h Bool.false_ne_true
theorem LoopSt.lone (S : LoopSt kp n t nd its e imm V [] r ns os its' vals tl) (hb : Mine.bad t wb = false) : t.isNeg = true → vals.length = 1 := fun h => by
  rw [S.hvals.length, (S.last hb).2, neg_parts h]
theorem due_done {D2 : Addr} {k : Nat} (R : DueRet nd its e imm h₀ L m (due (n + 1) t wb) Q s) (S : LoopSt kp n t nd its e imm V [] r ns os its' vals tl) (hb : Mine.bad t wb = false) (hD : VIs v (saidOf t wb os)) (F : Fr h₀ L h' m) (N : News h₀ L h' led)
    (hX : (nd, listOf (its ++ its' ++ [Value.ref D2]).toArray e3) ∈ led) (hT : (D2, tupOf #[.ref t.ad, .bool wb, .ref V] k) ∈ led) (hV : (V, listOf vals.toArray e1) ∈ led) (sub : ∀ p ∈ tl ++ imm, p ∈ led)
    (lt : AllLt D2 ((V, listOf vals.toArray e1) :: (nd, listOf (its ++ its').toArray e2) :: kp :: (tl ++ imm))) : Q v { s with heap := h', toks := tk' } := by
  refine R.fin (X := its' ++ [Value.ref D2]) (TL := (D2, tupOf #[.ref t.ad, .bool wb, .ref V] k) :: (V, listOf vals.toArray e1) :: tl) (e3 := e3) (S.last hb).1 hD F N (by rw [← List.append_assoc]; exact hX) (fun p hp => ?_) (fun p hp => sub p (List.mem_append_right _ hp)) ?_ ((S.hnotes.mono fun _ h => .tail _ (.tail _ h)).app (.cons (.head _) (.tail _ (.head _)) S.hvals .nil))
  · rcases List.mem_cons.mp hp with rfl | hp
    · exact hT
    · rcases List.mem_cons.mp hp with rfl | hp
      · exact hV
      · exact sub p (List.mem_append_left _ hp)
  · refine newer_cons ⟨lt.2.1, allLt_sub lt.2.2.2 fun p hp => List.mem_append_right _ hp⟩ (newer_cons ⟨S.ndV, S.immV⟩ S.newer)
end
end P_DL

section P_DU
open PySem PySem.W PyProof.Rows PySem.Calls PySem.Spec
set_option maxRecDepth 100000
set_option maxHeartbeats 8000000
theorem kw_DU_0 : True := by
  k_with_none
  k_with "k_ne" => first | exact nem1 (by with_reducible assumption) (by tb_rel) | exact nem2 (by with_reducible assumption) (by tb_rel)
  trivial

theorem lparts_use {w : World} {p : Program} {loose : List Str} {mean : ExcName → Option Value} {mg mb : Str → Option Value} {dp un : Nat} {gd : Option (List Code)} {cn : Str} {cs : Scope} {a : Addr} {ccd : Value} {cl : List (Str × Addr)} {outer : List Env} {A₀ : Around} {base h₀ : Heap} {L : Addr} {m : Str → Option Value} {led led0 : List (Addr × Obj)} {s : Shared}
    {Q E : Value → Shared → Prop} {ta : Addr} {t : Tr}
    (B : Below A₀ base outer h₀) (F : Fr h₀ L s.heap m) (X : (hd.heap_1 w.params).In h₀) (N : News h₀ L s.heap led) (T : Top p loose mean mg mb h₀) (hk : cs.kind = .function) (hd1 : dp + 10 < recursionLimit) (hu1 : un + 40 < cLine)
    (hf : Foc led0 t) (sub : ∀ p ∈ led0, p ∈ led) (e : t.ad = ta)
    (hret : ∀ D n tl vs h' tk', Fr h₀ L h' m → News h₀ L h' ((D, listOf vs.toArray n) :: (tl ++ led)) → (∀ p ∈ led, p.1 ≠ D) → Newer led tl → PairsIn tl vs t.parts → Q (.ref D) { s with heap := h', toks := tk' }) :
    wpAny (model PySem.Challenge.rw_pf0366_01.row.prog w) (ktrTop dp un gd cn cs L a ccd cl outer) (call (.ref 113) [.ref ta]) Q E s := by
  subst e
  exact lparts_spec B F X N T hk hd1 hu1 (hf.h.mono sub) hret

theorem said_use {w : World} {p : Program} {loose : List Str} {mean : ExcName → Option Value} {mg mb : Str → Option Value} {dp un : Nat} {gd : Option (List Code)} {cn : Str} {cs : Scope} {a : Addr} {ccd : Value} {cl : List (Str × Addr)} {outer : List Env} {A₀ : Around} {base h₀ : Heap} {L : Addr} {m : Str → Option Value} {led led0 : List (Addr × Obj)} {s : Shared}
    {Q E : Value → Shared → Prop} {ta lv : Addr} {t : Tr} {wb : Bool} {vs : List Value} {os : List (Option Str)} {n : Nat}
    (B : Below A₀ base outer h₀) (F : Fr h₀ L s.heap m) (X : (hd.heap_1 w.params).In h₀) (N : News h₀ L s.heap led) (T : Top p loose mean mg mb h₀) (hk : cs.kind = .function) (hd1 : dp + 10 < recursionLimit) (hu1 : un + 40 < cLine)
    (hf : Foc led0 t) (sub : ∀ p ∈ led0, p ∈ led) (e : t.ad = ta) (hv : (lv, listOf vs.toArray n) ∈ led) (hvo : ValsAre vs os) (hl : vs.length ≤ 4) (hneg : t.isNeg = true → vs.length = 1)
    (hret : ∀ v h' tk', VIs v (saidOf t wb os) → Fr h₀ L h' m → News h₀ L h' led → Q v { s with heap := h', toks := tk' }) :
    wpAny (model PySem.Challenge.rw_pf0366_01.row.prog w) (ktrTop dp un gd cn cs L a ccd cl outer) (call (.ref 108) [.ref ta, .bool wb, .ref lv]) Q E s := by
  subst e
  exact said_spec B F X N T hk hd1 hu1 (hf.h.mono sub) hv hvo hl hneg hret
section
variable {a : Addr} {op : Str} {x : Tr} {w : Bool}
end
section
theorem kw_DU_1 : True := by
  k_with "subscriptTail Subscript Name Constant Constant ref int" => first | ((
    k_here
    (with_reducible show wpAny _ _ (subscriptTail _ _ (Value.ref _) (Value.int 0 _)) _ _ _)
    k_dflt (refine' kind_at ?N ?f ?sub ?e (fun k' hkd' => ?_) (fun kd' k' hkd' hne' => ?_); (case f => with_reducible assumption); (case e => exact rfl); (case N => k_asm); (case sub => (intro p9 hp9; tb_rel)))))
  trivial
theorem kw_DU_2 : True := by
  k_with "subscriptTail Name Constant ref int" => first | ((
    k_here
    k_dflt (first
      | ((with_reducible show wpAny _ _ (subscriptTail _ _ (Value.ref _) (Value.int 0 _)) _ _ _); refine' tup_at0 ?N ?m ?_; (case N => k_asm); (case m => tb_rel))
      | ((with_reducible show wpAny _ _ (subscriptTail _ _ (Value.ref _) (Value.int 1 _)) _ _ _); refine' tup_at1 ?N ?m ?_; (case N => k_asm); (case m => tb_rel))
      | ((with_reducible show wpAny _ _ (subscriptTail _ _ (Value.ref _) (Value.int 2 _)) _ _ _); refine' tup_at2 ?N ?m ?_; (case N => k_asm); (case m => tb_rel))
      | ((with_reducible show wpAny _ _ (subscriptTail _ _ (Value.ref _) (Value.int 3 _)) _ _ _); refine' tup_at3 ?N ?m ?_; (case N => k_asm); (case m => tb_rel)))))
  trivial
theorem kw_DU_3 : True := by
  k_with "subscriptTail Name Slice ref ref" => first | ((
    k_here
    k_dflt (refine' slice_two ?F ?N ?f ?sub ?e (fun h' F' N' tw' => ?_) (fun D' its' h' F' N' l1 tw' => ?_); (case F => k_asm); (case N => k_asm); (case f => with_reducible assumption); (case e => exact rfl); (case sub => (intro p9 hp9; tb_rel)))
    all_goals (try k_lt l1)
    all_goals (try k_sweep)))
  trivial
theorem kw_DU_4 : True := by
  k_with "compareOp NotEq ref ref" => first | ((
    k_here
    k_dflt (refine' cmp_un ?N ?f ?sub ?hu ?D ?_; (case f => with_reducible assumption); (case N => k_asm); (case hu => ktr_units); (case D => tb_rel); (case sub => (intro p9 hp9; tb_rel)))))
  trivial
theorem kw_DU_5 : True := by
  k_with "exec For Tuple Call cons nil" => first | ((k_here; (with_reducible rename Fr _ _ _ _ => lF'); (with_unfolding_all refine' For_turns lF' ?_ (hE := by with_reducible assumption)); k_whole))
  trivial
theorem kw_DU_6 : True := by
  k_with "call builtin:list.append" => first | ((
    k_here
    k_dflt (refine' app_lst ?F ?N ?U ?z ?_; (case F => k_asm); (case N => k_asm); (case U => k_updF); (case z => with_reducible assumption))
    intro h' F' N'
    (try dsimp only at N')
    (try k_sweep)))
  trivial
theorem kw_DU_7 : True := by
  k_with "TurnJ" => first | ((dsimp only [TurnJ]))
  trivial
theorem kw_DU_8 : True := by
  k_with "call ref" => first | ((
    k_here
    (with_reducible show wpAny _ _ (call (Value.ref 108) [Value.ref _, Value.bool _, Value.ref _]) _ _ _)
    k_dflt (refine' said_use ?B ?F ?X ?N ?T ?hk ?hd ?hu ?f ?sub ?e ?hv ?hvo ?hl ?hneg ?_; (case B => k_asm); (case F => k_asm); (case X => k_asm); (case N => k_asm); (case T => k_asm); (case hk => first | exact rfl | assumption); (case hd => ktr_room); (case hu => ktr_units); (case f => with_reducible assumption); (case e => exact rfl); (case sub => (intro p9 hp9; tb_rel)); (case hvo => with_reducible assumption); (case hv => tb_rel); (case hl => with_reducible assumption); (case hneg => with_reducible assumption))
    intro v' h' tk' hsv' F' N'
    (try k_sweep)))
  trivial
theorem kw_DU_9 : True := by
  k_with "call ref" => first | ((
    k_here
    (with_reducible show wpAny _ _ (call (Value.ref 113) [Value.ref _]) _ _ _)
    k_dflt (refine' lparts_use ?B ?F ?X ?N ?T ?hk ?hd ?hu ?f ?sub ?e ?_; (case B => k_asm); (case F => k_asm); (case X => k_asm); (case N => k_asm); (case T => k_asm); (case hk => first | exact rfl | assumption); (case hd => ktr_room); (case hu => ktr_units); (case f => with_reducible assumption); (case e => exact rfl); (case sub => (intro p9 hp9; tb_rel)))
    intro D' n' tl' vs' h' tk' F' N' hap' nw' hP'
    (try k_sweep)))
  trivial
theorem kw_DU_10 : True := by
  k_with "call ref" => first | ((
    k_here
    (with_reducible show wpAny _ _ (call (Value.ref 120) [Value.ref _, Value.bool _, Value.ref _]) _ _ _)
    k_dflt (refine' due_call ?C ?B ?F ?X ?N ?T ?hk ?hd ?hu ?U ?hT ?e ?sub ?hap ?hh ?hz (fun tl' its' e' h' tkk k' hR' F' N' nw' hN' => ?_) (fun tl' its' e' h' tkk hR' F' N' nw' hN' => ?_) (fun x' tl' its' e' h' tkk k' hR' F' N' nw' hN' => ?_); (case C => with_reducible assumption); (case B => k_asm); (case F => k_asm); (case X => k_asm); (case N => k_asm); (case T => k_asm); (case hk => first | exact rfl | assumption); (case hd => ktr_room); (case hu => ktr_units); (case U => k_updF); (case hT => with_reducible assumption); (case e => exact rfl); (case sub => (intro p9 hp9; tb_rel)); (case hap => with_reducible assumption); (case hh => with_reducible assumption); (case hz => with_reducible assumption))
    all_goals (try dsimp only at N')
    all_goals (try k_sweep)))
  trivial
local macro_rules | `(tactic| ktr_rel) => `(tactic| first
  | exact bad_key (by with_reducible assumption) (by with_reducible assumption)
  | exact ok_key (by with_reducible assumption) (by with_reducible assumption)
  | exact bad_un (by with_reducible assumption) (by with_reducible assumption) (by with_reducible assumption)
  | exact ok_un (by with_reducible assumption) (by with_reducible assumption)
  | exact ok_un' (by with_reducible assumption) (by with_reducible assumption)
  | (goal_has Mine.bad; simp [Mine.bad, Tr.isKey, Tr.nameable, *]; done))

theorem kw_DU_11 : True := by
  k_with "isTrue Compare" => first | ((k_here; k_dflt (first
  | (refine' test_eq (b := true) ?F ?N ?v ?m ?i ?b ?_; (case F => k_asm); (case N => k_asm); (case v => exact rfl); (case m => tb_rel); (case i => exact rfl); (case b => first | exact NeS.h (by with_reducible assumption) | exact NeS.ne (by with_reducible assumption) | (with_unfolding_all exact rfl)))
  | (refine' test_eq (b := false) ?F ?N ?v ?m ?i ?b ?_; (case F => k_asm); (case N => k_asm); (case v => exact rfl); (case m => tb_rel); (case i => exact rfl); (case b => first | exact NeS.h (by with_reducible assumption) | exact NeS.ne (by with_reducible assumption) | (with_unfolding_all exact rfl)))
  | (refine' test_ne (b := true) ?F ?N ?v ?m ?i ?b ?_; (case F => k_asm); (case N => k_asm); (case v => exact rfl); (case m => tb_rel); (case i => exact rfl); (case b => first | exact NeS.h (by with_reducible assumption) | exact NeS.ne (by with_reducible assumption) | (with_unfolding_all exact rfl)))
  | (refine' test_ne (b := false) ?F ?N ?v ?m ?i ?b ?_; (case F => k_asm); (case N => k_asm); (case v => exact rfl); (case m => tb_rel); (case i => exact rfl); (case b => first | exact NeS.h (by with_reducible assumption) | exact NeS.ne (by with_reducible assumption) | (with_unfolding_all exact rfl)))); intro tk'; (try dsimp only)))
  trivial
theorem kw_DU_12 : True := by
  k_with "eval Compare" => first | ((k_here; k_dflt (first
  | (refine' val_eq (b := true) ?F ?N ?v ?m ?i ?b ?_; (case F => k_asm); (case N => k_asm); (case v => exact rfl); (case m => tb_rel); (case i => exact rfl); (case b => first | exact NeS.h (by with_reducible assumption) | exact NeS.ne (by with_reducible assumption) | (with_unfolding_all exact rfl)))
  | (refine' val_eq (b := false) ?F ?N ?v ?m ?i ?b ?_; (case F => k_asm); (case N => k_asm); (case v => exact rfl); (case m => tb_rel); (case i => exact rfl); (case b => first | exact NeS.h (by with_reducible assumption) | exact NeS.ne (by with_reducible assumption) | (with_unfolding_all exact rfl)))
  | (refine' val_ne (b := true) ?F ?N ?v ?m ?i ?b ?_; (case F => k_asm); (case N => k_asm); (case v => exact rfl); (case m => tb_rel); (case i => exact rfl); (case b => first | exact NeS.h (by with_reducible assumption) | exact NeS.ne (by with_reducible assumption) | (with_unfolding_all exact rfl)))
  | (refine' val_ne (b := false) ?F ?N ?v ?m ?i ?b ?_; (case F => k_asm); (case N => k_asm); (case v => exact rfl); (case m => tb_rel); (case i => exact rfl); (case b => first | exact NeS.h (by with_reducible assumption) | exact NeS.ne (by with_reducible assumption) | (with_unfolding_all exact rfl)))); intro tk'; (try dsimp only)))
  trivial
theorem kw_DU_13 : True := by
  k_with "eval Subscript" => first | ((k_here; k_dflt (refine' sub_tup ?F ?N ?v ?m ?i ?_; (case F => k_asm); (case N => k_asm); (case v => exact rfl); (case m => tb_rel); (case i => exact rfl)); intro tk'; (try dsimp only)))
  trivial
/-- what the due comes to -/
noncomputable def DuR (nd : Addr) (its : List Value) (e : Nat) (imm : Led) (r : List Note × Option (Option Str)) (v : SV) (led : Led) : Prop :=
  ∃ tl its' e', DIs v.val r.2 ∧ (∀ p ∈ tl ++ ((nd, listOf (its ++ its').toArray e') :: imm), p ∈ led) ∧ Newer ((nd, listOf its.toArray e) :: imm) tl ∧ NotesIn tl its' r.1
theorem DuR.bad {nd : Addr} {its : List Value} {e : Nat} {imm : Led} {n : Nat} {t : Tr} {wb : Bool} {k : Tok} (hb : Mine.bad t wb = true) : DuR nd its e imm (due (n + 1) t wb) (.v (.int 8 k)) ((nd, listOf its.toArray e) :: imm) := by
  have h1 : due (n + 1) t wb = ([], none) := by simp only [due, hb, if_true]
  rw [h1]
  exact ⟨[], [], e, ⟨_, rfl⟩, by rw [List.append_nil]; exact fun _ h => h, newer_nil, .nil⟩
section
variable {c : Cx} {cs : Scope} {cv : List (Str × Value)} {vars : Vars} {led : Led}
/-- tree[:2] != ('unary', o) -/
theorem two_test {k : Bool → Led → Prop} {x o : Str} {v : SV} {t : Tr} {led0 : Led} {p1 p2 p3 p4 p5 p6 p7 pos : Pos} {k1 k2 k3 k4 : Nat} (R : Rdy c cs) (hT : TIn led0 t) (sub : ∀ p ∈ led0, p ∈ led) (e : v.val = .ref t.ad) (hu : c.A.units + 1 < cLine) (hl : vars.lookup x = some v) (h : k (!t.isUn o) led) :
    RawB c cs cv vars led (.Compare (.Subscript (.Name x p1) (.Slice none (some (.Constant (.int 2) k1 p2)) none p3) p4) [.NotEq] [.Tuple [.Constant (.str (Str.ofString "unary")) k2 p5, .Constant (.str o) k3 p6] k4 p7] pos) k := by
  refine .of fun V hp tk Q F N hQ => ?_
  obtain ⟨h1, h2, h3⟩ := V.1 x v hl
  refine wpAny_isTrue_Compare1 (Subscript_ (nameX_L (v := .ref t.ad) F (by show (vars.lookup x).map SV.val = _; rw [hl, ← e]; rfl) (wpAny_Slice (evalPart_none_step (evalPart_some_step (wpAny_Constant_int (evalPart_none_step ?_))))) R.kind h1 h2)) rfl
  have fin : ∀ {D : Addr} {led1 : Led} {h' : Heap} {tk' : Nat}, Fr c.h₀ c.L h' (lk vars) → News c.h₀ c.L h' led1 → Two led1 t D → (∀ p ∈ led, p ∈ led1) → wpAny (model PySem.Challenge.rw_pf0366_01.row.prog c.w) c.A (eval (.Tuple [.Constant (.str (Str.ofString "unary")) k2 p5, .Constant (.str o) k3 p6] k4 p7) (c.env cs))
      (fun b s₂ => wpAny (model PySem.Challenge.rw_pf0366_01.row.prog c.w) c.A (compareOp .NotEq (.ref D) b) (fun c_1 s₃ => wpAny (model PySem.Challenge.rw_pf0366_01.row.prog c.w) c.A (truthy c_1) Q c.E s₃) c.E s₂) c.E ⟨h', c.gs, c.dr, tk', c.os⟩ := by
    intro D led1 h' tk' F' N' T2 hs
    refine Tuple_ (args_cons (Constant_str (args_cons (Constant_str (args_nil (kup_newTuple F' N' (fun D2 h'' F'' N'' lt => ?_) (by show 2 ≤ sizeLine; decide)))) rfl)) rfl)
    exact cmp_un N'' T2 (fun p hp => .tail _ hp) hu (.head _) (wpAny_truthy_bool (hQ _ _ _ _ F'' (fun p hp => N'' p (.tail _ (hs p hp))) .rfl h))
  exact slice_two F N ⟨hT⟩ sub rfl (fun h' F' N' T2 => fin F' N' T2 fun _ h => h) (fun D its h' F' N' lt T2 => fin F' N' T2 fun _ h => .tail _ h)
end
theorem due_head {w : World} {p : Program} {loose : List Str} {mean : ExcName → Option Value} {mg mb : Str → Option Value} {n : Nat} (IH : DueOK w p loose mean mg mb n) : DueOK w p loose mean mg mb (n + 1) := by
  intro dp un gd cn cs a ccd cl outer A₀ base h₀ L m imm s nd its e t wb Q E B F X N T hk hd1 hu1 hT hh hz hap hret
  obtain ⟨v, hv, ok⟩ := hT.tv
  rw [show t.val = v.val from hv.val.symm]
  revert X; k_fill; intro X
  refine enterW B F X N T hk (by k_is) (by k_is) (by omega) rfl (locs rfl) ⟨rfl, rfl, rfl⟩ (by decide) [(Str.ofString "notes", .v (.ref nd)), (Str.ofString "wants", .v (.bool wb)), (Str.ofString "tree", v)] (DuR nd its e imm (due (n + 1) t wb)) rfl
    (fun _ => ((VarsOk.nil.set rfl rfl (ok.keep .cons)).set rfl rfl .v).set rfl rfl .v) (fun c hw C V => ?_) (fun v led' h' tk' hR F' N' => ?_)
  case refine_2 =>
    obtain ⟨tl, its', e', h1, h2, h3, h4⟩ := hR
    exact hret _ tl its' e' h' tk' h1 F' (fun p hp => N' p (h2 p hp)) h3 h4
  have hu : c.A.units + 1 < cLine := by
    obtain ⟨_, _, _, _, e, _⟩ := C.top
    rw [e]
    exact Nat.lt_of_le_of_lt (by show un + 3 + 1 ≤ un + 20 * (n + 1) + 60; omega) hu1
  refine WpX.cut3 (fun vars' led' => Mine.bad t wb = false ∧ (∃ b, vars' = (Str.ofString "is_key", .v (.bool b)) :: [(Str.ofString "notes", .v (.ref nd)), (Str.ofString "wants", .v (.bool wb)), (Str.ofString "tree", v)]) ∧ led' = (nd, listOf its.toArray e) :: imm) (vc_sound C.rdy 60 _ _ (.X ..) V ?_) ?_
  · have tw := fun {k : Bool → Led → Prop} {vars : Vars} {x o : Str} {p1 p2 p3 p4 p5 p6 p7 pos : Pos} {k1 k2 k3 k4 : Nat} (hl : vars.lookup x = some v) (h : k (!t.isUn o) ((nd, listOf its.toArray e) :: imm)) => two_test (c := c) (cv := []) (p1 := p1) (p2 := p2) (p3 := p3) (p4 := p4) (p5 := p5) (p6 := p6) (p7 := p7) (pos := pos) (k1 := k1) (k2 := k2) (k3 := k3) (k4 := k4) C.rdy hT (fun _ h => .tail _ h) hv.val hu hl h
    clear hret hT ok hw V
    cases hv with
    | un hx hvx =>
      simp only [unOps, List.mem_cons, List.not_mem_nil, or_false] at hx
      rcases hx with rfl | rfl | rfl | rfl | rfl | rfl | rfl | rfl <;> cases wb
      all_goals first
        | exact ⟨rfl, ⟨_, rfl⟩, rfl⟩
        | exact tw (by rfl) ⟨rfl, ⟨_, rfl⟩, rfl⟩
        | exact tw (by rfl) fun k => DuR.bad rfl
        | (cases hvx <;> first | exact ⟨rfl, ⟨_, rfl⟩, rfl⟩ | exact fun k => DuR.bad rfl)
    | _ =>
      cases wb
      all_goals first
        | exact ⟨rfl, ⟨_, rfl⟩, rfl⟩
        | exact tw (by rfl) fun k => DuR.bad rfl
  · rintro vars' led' V' _ ⟨hC, ⟨b', rfl⟩, rfl⟩ hp tk Qf F N _ hR
    rw [← lk_map (binds := [(Str.ofString "is_key", .bool b'), (Str.ofString "notes", .ref nd), (Str.ofString "wants", .bool wb), (Str.ofString "tree", .ref t.ad)]) (by show [_, _, _, (_, v.val)] = _; rw [hv.val]; rfl)] at F
    obtain ⟨gd', outer', A₀', base', hA, B⟩ := C.top
    have X := C.X
    have T := C.T
    have own := C.own
    obtain ⟨w', A1, cn', L', a', ccd', cl', g', E', gs, dr, os⟩ := c
    dsimp only [Cx.env] at hA B X T hw F N hR own ⊢
    subst hA hw
    have hF : Foc imm t := ⟨hT⟩
    have hretF : ∀ (m' : Str → Option Value), DueRet nd its e imm g' L' m' (due (n + 1) t wb) (fun v s' => Qf (.ret v) s') ⟨hp, gs, dr, tk, os⟩ := fun m' v tl its' e' h' tkk h1 F' N' h3 h4 => hR v _ h' tkk m' F' N' ⟨tl, its', e', h1, fun _ h => h, h3, h4⟩
    clear C V V' hu hR hv ok
    k_steps
    k_dflt (refine' due_loop (n := n) (t := t) (its := its) (e := e) ?hh ?F ?N hT hh hap ?hP ?hax ?hn ?hV ?turn ?done)
    case hh => exact rfl
    case F => k_asm
    case N => k_asm
    case hP => with_reducible assumption
    case hax => with_reducible assumption
    case hn => with_reducible assumption
    case hV => with_reducible assumption
    case turn =>
      intro pa pk p wb2 r ps ns os its2 vals tl e1 e2 I o h tk u1 u2 u3 hm S hVI hdI hIt F N
      k_sweep
      have hTp := (S.okp _ (.head _)).1
      have hhp := (S.okp _ (.head _)).2
      have hz2 : (its ++ its2).length + cap n ≤ 100000 := by
        have h1 := S.size
        have h2 := S.hnotes.length
        simp only [List.length_append, List.length_cons, Nat.succ_mul, cap] at h1 hz ⊢; omega
      have hz3 : vals.length ≤ 1000000 := by have := S.many; omega
      have hIV : @LT.lt Nat _ nd _ := S.ndV
      have hVi := S.immV
      have hVt := S.tlV
      have hnw := S.newer
      have hkd := neN S.kd
      have hkV := neN S.kV
      dsimp only at hTp hhp hkd hkV
      k_steps
      all_goals (first
        | (refine' LoopSt.leave (hretF _) S (S.err hC (DueIs.h ?hr)) ⟨_, rfl⟩ ?F ?N ?nw ?hN ?hX ?s1 ?s2; (case hr => with_reducible assumption); (case F => k_asm); (case N => k_asm); (case nw => with_reducible assumption); (case hN => with_reducible assumption); (case hX => tb_rel); (case s1 => (intro p9 hp9; tb_rel)); (case s2 => (intro p9 hp9; tb_rel)))
        | (refine' LoopSt.leave (hretF _) S (S.fail hC (DueIs.h ?hr) ((neg_isUn t).trans ?hu)) rfl ?F ?N ?nw ?hN ?hX ?s1 ?s2; (case hr => with_reducible assumption); (case hu => with_reducible assumption); (case F => k_asm); (case N => k_asm); (case nw => with_reducible assumption); (case hN => with_reducible assumption); (case hX => tb_rel); (case s1 => (intro p9 hp9; tb_rel)); (case s2 => (intro p9 hp9; tb_rel)))
        | (refine' turn_close S (DueIs.h ?hr) ?hn ?hv ?nw ?hN OffThree.of ?F ?N ?hI ?hV ?hX ?hK ?s1 ?s2 hVI hdI hIt; (case hr => with_reducible assumption); (case hn => first | exact fun _ => (neg_isUn t).trans (by with_reducible assumption) | (intro e9; cases e9)); (case F => k_asm); (case N => k_asm); (case nw => with_reducible assumption); (case hN => with_reducible assumption); (case hI => tb_rel); (case hV => tb_rel); (case hv => first | exact ⟨_, rfl⟩ | exact rfl); (case hX => tb_rel); (case hK => tb_rel); (case s1 => (intro p9 hp9; tb_rel)); (case s2 => (intro p9 hp9; tb_rel))))
    case done =>
      intro ns os its2 vals tl e1 e2 h tk u1 u2 u3 S F N
      k_sweep
      have hvo := S.hvals
      have hl4 : vals.length ≤ 4 := by have := S.many; simp only [List.length_nil] at this; omega
      have hln := S.lone hC
      have hz2 : (its ++ its2).length ≤ 1000000 := by
        have h1 := S.size
        have h2 := S.hnotes.length
        simp only [List.length_append, List.length_nil, Nat.zero_mul, cap] at h1 hz ⊢; omega
      have hIV : @LT.lt Nat _ nd _ := S.ndV
      have hVi := S.immV
      have hVt := S.tlV
      have hnw := S.newer
      have hkd := neN S.kd
      have hkV := neN S.kV
      dsimp only at hkd hkV
      k_steps
      all_goals (refine' due_done (hretF _) S hC ?hv ?F ?N ?hX ?hT ?hV ?sub ?lt; (case hv => with_reducible assumption); (case F => k_asm); (case N => k_asm); (case hX => tb_rel); (case hT => tb_rel); (case hV => tb_rel); (case sub => (intro p9 hp9; tb_rel)); (case lt => with_reducible assumption))


end

theorem height_pos (t : Tr) : 1 ≤ t.height := by
  cases t <;> exact Nat.succ_le_succ (Nat.zero_le _)
theorem due_all {w : World} {p : Program} {loose : List Str} {mean : ExcName → Option Value} {mg mb : Str → Option Value} : ∀ n, DueOK w p loose mean mg mb n
  | 0 => by
    intro dp un gd cn cs a ccd cl outer A₀ base h₀ L m imm s nd its e t wb Q E B F X N T hk hd1 hu1 hT hh hz hap hret
    exact absurd (height_pos t) (by omega)
  | n + 1 => due_head (due_all n)
end P_DU

section P_RN
open PySem PySem.W PyProof.Rows PySem.Calls PySem.Spec
noncomputable abbrev Res := Tr → Bool → List (Option Str) → Option Str
noncomputable def dueG (res : Res) : Nat → Tr → Bool → List Note × Out Str
  | 0, _, _ => ([], none)
  | n + 1, t, w =>
    if bad t w = true then ([], none)
    else match (dueL (dueG res n) t.isNeg t.parts).2 with
      | none => ((dueL (dueG res n) t.isNeg t.parts).1, none)
      | some none => ((dueL (dueG res n) t.isNeg t.parts).1, some none)
      | some (some vs) => ((dueL (dueG res n) t.isNeg t.parts).1 ++ [(t, w, vs)], some (res t w vs))
theorem due_eq : ∀ n, due n = dueG saidOf n
  | 0 => by funext t w; rfl
  | n + 1 => by
    funext t w
    simp only [due, dueG, due_eq n]
    try rfl
noncomputable def Tr.size : Tr → Nat
  | .name .. | .text .. | .whole .. | .null .. | .call0 .. => 1
  | .join _ l r | .bin _ _ l r => l.size + r.size + 1
  | .un _ _ x | .call1 _ _ x => x.size + 1
  | .call2 _ _ x y | .item1 _ x y => x.size + y.size + 1
  | .item2 _ x y z => x.size + y.size + z.size + 1
  | .item3 _ h x y z => h.size + x.size + y.size + z.size + 1
noncomputable def sizes : List (Tr × Bool) → Nat
  | [] => 0
  | q :: r => q.1.size + sizes r
theorem parts_size (t : Tr) : sizes t.parts + 1 ≤ t.size := by
  cases t with
  | un a op x =>
    show sizes (if (op == Str.ofString "*" || op == Str.ofString "&") = true then [] else [(x, op == Str.ofString "." || op == Str.ofString "@")] : List (Tr × Bool)) + 1 ≤ x.size + 1
    split
    · exact Nat.succ_le_succ (Nat.zero_le _)
    · exact Nat.le_refl _
  | item2 a x y z => exact Nat.succ_le_succ (Nat.le_of_eq (Nat.add_assoc _ _ _).symm)
  | item3 a h x y z => exact Nat.succ_le_succ (Nat.le_of_eq ((Nat.add_assoc _ _ _).symm.trans (Nat.add_assoc _ _ _).symm))
  | _ => exact Nat.le_refl _
inductive Ent where
  | exp (t : Tr) (w : Bool)
  | fin (t : Tr) (w : Bool) (h : Nat)
noncomputable def unwind : List Ent → List Ent
  | [] => []
  | .exp _ _ :: r => unwind r
  | .fin t w h :: r => if t.isNeg = true then .fin t w h :: r else unwind r
noncomputable def newH (h : Nat) : List Ent → Nat
  | .fin _ _ h' :: _ => h'
  | _ => h
noncomputable def exps (l : List (Tr × Bool)) : List Ent := l.map fun q => .exp q.1 q.2
inductive Runs (res : Res) : Nat → List Ent → List (Option Str) → List Note → Out Str → Prop where
  | done {n vals v} : Runs res n [] (vals ++ [v]) [] (some v)
  | bad {n t w r vals} : Mine.bad t w = true → Runs res (n + 1) (.exp t w :: r) vals [] none
  | exp {n t w r vals ns out} : Mine.bad t w = false → Runs res n (exps t.parts ++ .fin t w vals.length :: r) vals ns out → Runs res (n + 1) (.exp t w :: r) vals ns out
  | ok {n t w h r vals x ns out} : h ≤ vals.length → (vals.drop h).length = t.parts.length → res t w (vals.drop h) = some x → Runs res n r (vals.take h ++ [some x]) ns out → Runs res (n + 1) (.fin t w h :: r) vals ((t, w, vals.drop h) :: ns) out
  | fail {n t w h r vals ns out} : h ≤ vals.length → (vals.drop h).length = t.parts.length → res t w (vals.drop h) = none → Runs res n (unwind r) (vals.take (newH h (unwind r)) ++ [none]) ns out → Runs res (n + 1) (.fin t w h :: r) vals ((t, w, vals.drop h) :: ns) out
theorem Runs.up {res : Res} {n : Nat} {l vals ns out} (h : Runs res n l vals ns out) : Runs res (n + 1) l vals ns out := by
  induction h with
  | done => exact .done
  | bad h => exact .bad h
  | exp h _ ih => exact .exp h ih
  | ok h1 h2 h3 _ ih => exact .ok h1 h2 h3 ih
  | fail h1 h2 h3 _ ih => exact .fail h1 h2 h3 ih
theorem Runs.upTo {res : Res} {n : Nat} {l vals ns out} (h : Runs res n l vals ns out) : ∀ {m : Nat}, n ≤ m → Runs res m l vals ns out := by
  intro m hm
  induction hm with
  | refl => exact h
  | step _ ih => exact ih.up
/-- what is due when a part has failed -/
noncomputable def FailsTo (res : Res) (k : Nat) (r : List Ent) (vals : List (Option Str)) (ns : List Note) (out : Out Str) : Prop :=
  match unwind r with
  | [] => ns = [] ∧ out = some none
  | .fin t w h :: r' => h ≤ vals.length ∧ Runs res k (.fin t w h :: r') (vals.take h ++ [none]) ns out
  | .exp _ _ :: _ => False
theorem FailsTo.runs {res : Res} {k : Nat} {r : List Ent} {vals more : List (Option Str)} {ns : List Note} {out : Out Str} {h : Nat} (F : FailsTo res k r vals ns out) : Runs res k (unwind r) ((vals ++ more).take (newH h (unwind r)) ++ [none]) ns out := by
  unfold FailsTo at F
  match hu : unwind r with
  | [] =>
    rw [hu] at F
    obtain ⟨rfl, rfl⟩ := F
    exact .done
  | .fin t w h' :: r' =>
    rw [hu] at F
    obtain ⟨h1, R⟩ := F
    simp only [newH]
    rw [List.take_append_of_le_length h1]
    exact R
  | .exp t w :: r' => rw [hu] at F; exact F.elim
theorem unwind_exps (l : List (Tr × Bool)) (r : List Ent) : unwind (exps l ++ r) = unwind r := by
  induction l with
  | nil => rfl
  | cons q l ih => exact ih
theorem FailsTo.under {res : Res} {k : Nat} {r : List Ent} {base os : List (Option Str)} {ns : List Note} {out : Out Str} {l : List (Tr × Bool)} {t : Tr} {w : Bool} {b : Nat} (F : FailsTo res k r base ns out) (hn : t.isNeg = false) : FailsTo res k (exps l ++ .fin t w b :: r) (base ++ os) ns out := by
  unfold FailsTo
  rw [unwind_exps]
  have e : unwind (.fin t w b :: r) = unwind r := by simp only [unwind, hn, Bool.false_eq_true, if_false]
  rw [e]
  unfold FailsTo at F
  match hu : unwind r with
  | [] => rw [hu] at F; exact F
  | .fin t' w' h' :: r' =>
    rw [hu] at F
    refine ⟨by rw [List.length_append]; exact Nat.le_trans F.1 (Nat.le_add_right _ _), ?_⟩
    rw [List.take_append_of_le_length F.1]
    exact F.2
  | .exp _ _ :: _ => rw [hu] at F; exact F
structure Does (res : Res) (d : List Note × Out Str) (c : Nat) (t : Tr) (w : Bool) : Prop where
  err : d.2 = none → ∀ k r vals, Runs res (k + c) (.exp t w :: r) vals d.1 none
  ok : ∀ x, d.2 = some (some x) → ∀ k r vals ns out, Runs res k r (vals ++ [some x]) ns out → Runs res (k + c) (.exp t w :: r) vals (d.1 ++ ns) out
  fail : d.2 = some none → ∀ k r vals ns out, FailsTo res k r vals ns out → Runs res (k + c) (.exp t w :: r) vals (d.1 ++ ns) out
structure DoesL (res : Res) (d : List Note × Out (List (Option Str))) (c : Nat) (t : Tr) (w : Bool) (ps : List (Tr × Bool)) (base os : List (Option Str)) : Prop where
  err : d.2 = none → ∀ k r, Runs res (k + c) (exps ps ++ .fin t w base.length :: r) (base ++ os) d.1 none
  ok : ∀ vs, d.2 = some (some vs) → ∀ k r ns out, Runs res k (.fin t w base.length :: r) (base ++ os ++ vs) ns out → Runs res (k + c) (exps ps ++ .fin t w base.length :: r) (base ++ os) (d.1 ++ ns) out
  fail : d.2 = some none → ∀ k r ns out, FailsTo res k r base ns out → Runs res (k + c) (exps ps ++ .fin t w base.length :: r) (base ++ os) (d.1 ++ ns) out
theorem doesL_all {res : Res} {rec : Tr → Bool → List Note × Out Str} {t : Tr} {w : Bool} {base : List (Option Str)} : ∀ (ps : List (Tr × Bool)) (os : List (Option Str)), (∀ q ∈ ps, Does res (rec q.1 q.2) (2 * q.1.size) q.1 q.2) → (t.isNeg = true → ps.length ≤ 1 ∧ (ps.length = 1 → os = [])) →
    DoesL res (dueL rec t.isNeg ps) (2 * sizes ps) t w ps base os
  | [], os, _, _ => by
    refine ⟨fun h => ?_, fun vs h k r ns out R => ?_, fun h => ?_⟩
    · simp [dueL] at h
    · simp only [dueL, Option.some.injEq] at h
      subst h
      simpa [dueL, sizes, exps] using R
    · simp [dueL] at h
  | (p, pw) :: ps, os, hd, hneg => by
    have D : Does res (rec p pw) (2 * p.size) p pw := hd _ (.head _)
    have ce : ∀ k, k + 2 * sizes ((p, pw) :: ps) = (k + 2 * sizes ps) + 2 * p.size := fun k => by simp only [sizes]; omega
    have goOn : ∀ v, (rec p pw).2 = some v → (v = none → t.isNeg = true) → (∀ k r ns out, Runs res k (exps ps ++ .fin t w base.length :: r) (base ++ os ++ [v]) ns out → Runs res (k + 2 * p.size) (exps ((p, pw) :: ps) ++ .fin t w base.length :: r) (base ++ os) ((rec p pw).1 ++ ns) out) →
        DoesL res (dueL rec t.isNeg ((p, pw) :: ps)) (2 * sizes ((p, pw) :: ps)) t w ((p, pw) :: ps) base os := by
      intro v hv hvn step
      have h1 : ¬ (v = none ∧ t.isNeg = false) := fun h => by rw [hvn h.1] at h; exact absurd h.2 (by decide)
      have e : dueL rec t.isNeg ((p, pw) :: ps) = ((rec p pw).1 ++ (dueL rec t.isNeg ps).1, (dueL rec t.isNeg ps).2.map (·.map (v :: ·))) := by
        simp only [dueL, hv, if_neg h1]
      have hneg' : t.isNeg = true → ps.length ≤ 1 ∧ (ps.length = 1 → os ++ [v] = []) := fun h => by
        have h2 := (hneg h).1
        simp only [List.length_cons] at h2
        exact ⟨by omega, fun h3 => absurd h3 (by omega)⟩
      have IH := doesL_all (res := res) (rec := rec) (t := t) (w := w) (base := base) ps (os ++ [v]) (fun q hq => hd q (.tail _ hq)) hneg'
      rw [e]
      refine ⟨fun h k r => ?_, fun vs h k r ns out R => ?_, fun h k r ns out R => ?_⟩
      · simp only [Option.map_eq_none_iff] at h
        rw [ce]
        have := IH.err h k r
        rw [← List.append_assoc] at this
        exact step _ _ _ _ this
      · simp only [Option.map_eq_some_iff] at h
        obtain ⟨a, ha, b, hb, rfl⟩ := h
        subst hb
        rw [ce]
        dsimp only
        rw [List.append_assoc]
        refine step _ _ _ _ ?_
        have := IH.ok b ha k r ns out (by simpa using R)
        rwa [← List.append_assoc] at this
      · simp only [Option.map_eq_some_iff] at h
        obtain ⟨a, ha, hb⟩ := h
        have ha' : a = none := by cases a with | none => rfl | some _ => cases hb
        subst ha'
        rw [ce]
        dsimp only
        rw [List.append_assoc]
        refine step _ _ _ _ ?_
        have := IH.fail ha k r ns out R
        rwa [← List.append_assoc] at this
    cases hr : (rec p pw).2 with
    | none =>
      have e : dueL rec t.isNeg ((p, pw) :: ps) = ((rec p pw).1, none) := by simp only [dueL, hr]
      rw [e]
      refine ⟨fun _ k r => ?_, fun vs h => (nomatch h), fun h => (nomatch h)⟩
      rw [ce]
      exact D.err hr _ _ _
    | some v =>
      cases v with
      | some x => exact goOn (some x) hr (fun h => nomatch h) fun k r ns out R => D.ok x hr k _ _ ns out R
      | none =>
        cases hn : t.isNeg with
        | true =>
          rw [← hn]
          have h2 := hneg hn
          have hps : ps = [] := by
            have := h2.1
            simp only [List.length_cons] at this
            exact List.eq_nil_of_length_eq_zero (by omega)
          subst hps
          have hos := h2.2 rfl
          subst hos
          refine goOn none hr (fun _ => hn) fun k r ns out R => D.fail hr k _ _ ns out ?_
          show FailsTo res k (.fin t w base.length :: r) (base ++ []) ns out
          have e1 : unwind (.fin t w base.length :: r) = .fin t w base.length :: r := by simp only [unwind, hn, if_true]
          unfold FailsTo
          rw [e1]
          refine ⟨by simp, ?_⟩
          simpa [exps] using R
        | false =>
          have e : dueL rec false ((p, pw) :: ps) = ((rec p pw).1, some none) := by simp [dueL, hr]
          rw [e]
          refine ⟨fun h => (nomatch h), fun vs h => (nomatch h), fun _ k r ns out R => ?_⟩
          rw [ce]
          exact (D.fail hr k _ _ ns out (R.under hn)).upTo (by omega)
theorem does_all {res : Res} : ∀ n t w, t.height ≤ n → Does res (dueG res n t w) (2 * t.size) t w
  | 0, t, w, h => by
    exact absurd h (by cases t <;> exact Nat.not_succ_le_zero _)
  | n + 1, t, w, h => by
    have hz := parts_size t
    by_cases hb : Mine.bad t w = true
    · have e : dueG res (n + 1) t w = ([], none) := by simp only [dueG, hb, if_true]
      rw [e]
      refine ⟨fun _ k r vals => ?_, fun x h => (nomatch h), fun h => (nomatch h)⟩
      exact (Runs.bad (n := 0) hb).upTo (by omega)
    · have hb' : Mine.bad t w = false := by simpa using hb
      have hneg : t.isNeg = true → t.parts.length ≤ 1 ∧ (t.parts.length = 1 → ([] : List (Option Str)) = []) := fun hn => by
        refine ⟨?_, fun _ => rfl⟩
        cases t with
        | un a op x =>
          show (if (op == Str.ofString "*" || op == Str.ofString "&") = true then [] else [(x, op == Str.ofString "." || op == Str.ofString "@")] : List (Tr × Bool)).length ≤ 1
          split
          · exact Nat.zero_le _
          · exact Nat.le_refl _
        | _ => exact absurd hn Bool.false_ne_true
      have L : ∀ base, DoesL res (dueL (dueG res n) t.isNeg t.parts) (2 * sizes t.parts) t w t.parts base [] := fun base =>
        doesL_all t.parts [] (fun q hq => does_all n q.1 q.2 (by have := parts_height hq; omega)) hneg
      have fit : ∀ {k l vals ns out}, Runs res (k + 2 * sizes t.parts) l vals ns out → Runs res (k + 2 * t.size - 1) l vals ns out := fun R => R.upTo (by omega)
      have c1 : ∀ k, k + 2 * t.size = (k + 2 * t.size - 1) + 1 := fun k => by omega
      have e : dueG res (n + 1) t w = match (dueL (dueG res n) t.isNeg t.parts).2 with
          | none => ((dueL (dueG res n) t.isNeg t.parts).1, none)
          | some none => ((dueL (dueG res n) t.isNeg t.parts).1, some none)
          | some (some vs) => ((dueL (dueG res n) t.isNeg t.parts).1 ++ [(t, w, vs)], some (res t w vs)) := by
        simp only [dueG, hb', Bool.false_eq_true, if_false]
        try rfl
      cases hr : (dueL (dueG res n) t.isNeg t.parts).2 with
      | none =>
        rw [hr] at e
        rw [e]
        refine ⟨fun _ k r vals => ?_, fun x h => (nomatch h), fun h => (nomatch h)⟩
        rw [c1]
        refine .exp hb' (fit ?_)
        have := (L vals).err hr k r
        rwa [List.append_nil] at this
      | some v =>
        cases v with
        | none =>
          rw [hr] at e
          rw [e]
          refine ⟨fun h => (nomatch h), fun x h => (nomatch h), fun _ k r vals ns out R => ?_⟩
          rw [c1]
          refine .exp hb' (fit ?_)
          have := (L vals).fail hr k r ns out R
          rwa [List.append_nil] at this
        | some vs =>
          rw [hr] at e
          rw [e]
          have hl := dueL_vals t.parts hr
          have hd : ∀ vals : List (Option Str), (vals ++ vs).drop vals.length = vs := fun vals => by simp
          have ht : ∀ vals : List (Option Str), (vals ++ vs).take vals.length = vals := fun vals => by simp
          have c2 : ∀ k, (k + 1) + 2 * sizes t.parts ≤ k + 2 * t.size - 1 := fun k => by omega
          refine ⟨fun h => (nomatch h), fun x h k r vals ns out R => ?_, fun h k r vals ns out R => ?_⟩
          · have hx : res t w vs = some x := Option.some.inj h
            rw [c1]
            refine .exp hb' (Runs.upTo ?_ (c2 k))
            have R1 : Runs res (k + 1) (.fin t w vals.length :: r) (vals ++ [] ++ vs) ((t, w, vs) :: ns) out := by
              have := Runs.ok (res := res) (n := k) (t := t) (w := w) (h := vals.length) (r := r) (vals := vals ++ vs) (x := x) (ns := ns) (out := out) (by simp) (by rw [hd]; exact hl) (by rw [hd]; exact hx) (by rw [ht]; exact R)
              rw [hd] at this
              simpa using this
            have := (L vals).ok vs hr (k + 1) r _ out R1
            rw [List.append_nil] at this
            simpa using this
          · have hx : res t w vs = none := Option.some.inj h
            rw [c1]
            refine .exp hb' (Runs.upTo ?_ (c2 k))
            have R1 : Runs res (k + 1) (.fin t w vals.length :: r) (vals ++ [] ++ vs) ((t, w, vs) :: ns) out := by
              have := Runs.fail (res := res) (n := k) (t := t) (w := w) (h := vals.length) (r := r) (vals := vals ++ vs) (ns := ns) (out := out) (by simp) (by rw [hd]; exact hl) (by rw [hd]; exact hx) R.runs
              rw [hd] at this
              simpa using this
            have := (L vals).ok vs hr (k + 1) r _ out R1
            rw [List.append_nil] at this
            simpa using this
/-- the machine answers what is due -/
theorem runs_due {res : Res} {n : Nat} {t : Tr} {w : Bool} (h : t.height ≤ n) : Runs res (2 * t.size) [.exp t w] [] (dueG res n t w).1 (dueG res n t w).2 := by
  have D := does_all (res := res) n t w h
  have e0 : ∀ c, 0 + c = c := Nat.zero_add
  cases hr : (dueG res n t w).2 with
  | none => simpa [e0] using D.err hr 0 [] []
  | some v =>
    cases v with
    | none => simpa [e0] using D.fail hr 0 [] [] [] (some none) ⟨rfl, rfl⟩
    | some x => simpa [e0] using D.ok x hr 0 [] [] [] (some (some x)) (.done (vals := []))
end P_RN

section P_EX
open PySem PySem.W PyProof.Rows PySem.Calls PySem.Spec
set_option maxRecDepth 100000
/-- the error's dict: number, told -/
noncomputable def Num8 (od : Obj) : Prop := ∃ h1 h2 k1 k2 k3 k4 kd n, od = dictOf [⟨h1, .str (Str.ofString "number") k1, .int 8 k2⟩, ⟨h2, .str (Str.ofString "told") k3, .str kd k4⟩] n
/-- the own error is on its way, its dict stands in the ledger -/
noncomputable def RaisedD (base : Heap) (l : List Env) (e : Addr) (news : Led) (h : Heap) : Prop :=
  ∃ t vs dx od, RaisedK base l e (.ref 34) t vs ((dx, od) :: news) h ∧ (∃ oe, h.get? e = some oe ∧ oe.dict = some dx) ∧ Num8 od
theorem raisedK_sub {base : Heap} {l : List Env} {e t : Addr} {cls : Value} {vs : List Value} {news news' : Led} {h : Heap} (R : RaisedK base l e cls t vs news h) (sub : ∀ p ∈ news', p ∈ news) : RaisedK base l e cls t vs news' h :=
  let ⟨⟨B, hB, hl, r⟩, ht⟩ := R
  ⟨⟨B, hB, fun q hq => hl q (sub q hq), r⟩, ht⟩
theorem RaisedD.sub {base : Heap} {l : List Env} {e : Addr} {news news' : Led} {h : Heap} (R : RaisedD base l e news h) (sub : ∀ p ∈ news', p ∈ news) : RaisedD base l e news' h :=
  let ⟨t, vs, dx, od, RK, r⟩ := R
  ⟨t, vs, dx, od, raisedK_sub RK fun p hp => (List.mem_cons.mp hp).elim (fun e => e ▸ .head _) fun h => .tail _ (sub p h), r⟩
section
variable {M : Model} {A : Around} {E : Value → Shared → Prop} {s' : Shared} {base g g₂ h : Heap} {outer : List Env} {L a e : Addr} {m : Str → Option Value} {name : Str} {scope : Scope} {cd : Value} {Q : Unit → Shared → Prop} {news : Led}
theorem leave_onD (K : Below A base outer g) (F : Fr g L g₂ m) (R : RaisedD base (envOf name scope L a cd :: outer) e news s'.heap) (hsm : g₂.UpToSlots s'.heap)
    (hQ : ∀ h', RaisedD base outer e news h' → g.UpToSlots h' → Q () { s' with heap := h' }) :
    wpAny M (A.deeper (envOf name scope L a cd)) (leaving (envOf name scope L a cd) (.ref e)) Q E s' := by
  obtain ⟨t, vs, dx, od, RK, ⟨oe, he, hd⟩, h8⟩ := R
  have W := leave_onK (M := M) (E := E) (Q := fun _ s'' => ∃ h', s'' = { s' with heap := h' } ∧ RaisedK base outer e (.ref 34) t vs ((dx, od) :: news) h' ∧ g.UpToSlots h') K F RK hsm (fun h' R' U' => ⟨h', rfl, R', U'⟩)
  refine wpAny_mono (wpAny_keepsD (kd_leaving _ _) W) ?_ fun _ _ x => x.1
  rintro _ s'' ⟨⟨h', rfl, R', U'⟩, hk⟩
  obtain ⟨oe', he', hd'⟩ := hk e oe he
  exact hQ h' ⟨t, vs, dx, od, R', ⟨oe', he', hd'.trans hd⟩, h8⟩ U'
end
end P_EX

section P_WD
open PySem PySem.W PyProof.Rows PySem.Calls PySem.Spec
set_option maxRecDepth 100000
/-- a value of the machine's: a text, or a Failure -/
noncomputable def VF (led : Led) (v : Value) : Option Str → Prop
  | some x => ∃ k, v = .str x k
  | none => ∃ a d, v = .ref a ∧ (a, instObj 47 d) ∈ led ∧ (d, dictOf [] 0) ∈ led
theorem VF.mono {l l' : Led} (hs : ∀ p ∈ l, p ∈ l') {v : Value} {o : Option Str} (h : VF l v o) : VF l' v o := by
  cases o with
  | some x => exact h
  | none =>
    obtain ⟨a, d, e, h1, h2⟩ := h
    exact ⟨a, d, e, hs _ h1, hs _ h2⟩
inductive FVals (led : Led) : List Value → List (Option Str) → Prop where
  | nil : FVals led [] []
  | cons {v o vs os} : VF led v o → FVals led vs os → FVals led (v :: vs) (o :: os)
theorem FVals.mono {l l' : Led} (hs : ∀ p ∈ l, p ∈ l') {vs : List Value} {os : List (Option Str)} (h : FVals l vs os) : FVals l' vs os := by
  induction h with
  | nil => exact .nil
  | cons h _ ih => exact .cons (h.mono hs) ih
theorem FVals.length {l : Led} {vs : List Value} {os : List (Option Str)} (h : FVals l vs os) : vs.length = os.length := by
  induction h with
  | nil => rfl
  | cons _ _ ih => rw [List.length_cons, List.length_cons, ih]
theorem FVals.app {l : Led} {vs ws : List Value} {os ps : List (Option Str)} (h : FVals l vs os) (r : FVals l ws ps) : FVals l (vs ++ ws) (os ++ ps) := by
  induction h with
  | nil => exact r
  | cons h _ ih => exact .cons h ih
theorem FVals.drop {l : Led} {vs : List Value} {os : List (Option Str)} (h : FVals l vs os) : ∀ k, FVals l (vs.drop k) (os.drop k)
  | 0 => h
  | k + 1 => by
    cases h with
    | nil => exact .nil
    | cons _ h => exact h.drop k
theorem FVals.take {l : Led} {vs : List Value} {os : List (Option Str)} (h : FVals l vs os) : ∀ k, FVals l (vs.take k) (os.take k)
  | 0 => .nil
  | k + 1 => by
    cases h with
    | nil => exact .nil
    | cons h r => exact .cons h (r.take k)
inductive EntIn (led : Led) : Value → Ent → Prop where
  | exp {a n t w k} : (a, tupOf #[.ref (Tr.ad t), .bool w, .int (-1) k] n) ∈ led → TIn led t → EntIn led (.ref a) (.exp t w)
  | fin {a n t w k} {h : Nat} : (a, tupOf #[.ref (Tr.ad t), .bool w, .int (h : Int) k] n) ∈ led → TIn led t → EntIn led (.ref a) (.fin t w h)
theorem EntIn.mono {l l' : Led} (hs : ∀ p ∈ l, p ∈ l') {v : Value} {e : Ent} (h : EntIn l v e) : EntIn l' v e := by
  cases h with
  | exp h1 h2 => exact .exp (hs _ h1) (h2.mono hs)
  | fin h1 h2 => exact .fin (hs _ h1) (h2.mono hs)
/-- the top first -/
inductive EntsIn (led : Led) : List Value → List Ent → Prop where
  | nil : EntsIn led [] []
  | cons {v e vs es} : EntIn led v e → EntsIn led vs es → EntsIn led (v :: vs) (e :: es)
theorem EntsIn.mono {l l' : Led} (hs : ∀ p ∈ l, p ∈ l') {vs : List Value} {es : List Ent} (h : EntsIn l vs es) : EntsIn l' vs es := by
  induction h with
  | nil => exact .nil
  | cons h _ ih => exact .cons (h.mono hs) ih
theorem EntsIn.app {l : Led} {vs ws : List Value} {es fs : List Ent} (h : EntsIn l vs es) (r : EntsIn l ws fs) : EntsIn l (vs ++ ws) (es ++ fs) := by
  induction h with
  | nil => exact r
  | cons h _ ih => exact .cons h ih
/-- the tuples that the comprehension makes -/
inductive NewPairs (led : Led) : List Value → List (Tr × Bool) → Prop where
  | nil : NewPairs led [] []
  | cons {a k t b vs ps} : (a, tupOf #[.ref (Tr.ad t), .bool b, .int (-1) k] 0) ∈ led → NewPairs led vs ps → NewPairs led (.ref a :: vs) ((t, b) :: ps)
theorem NewPairs.mono {l l' : Led} (hs : ∀ p ∈ l, p ∈ l') {vs : List Value} {ps : List (Tr × Bool)} (h : NewPairs l vs ps) : NewPairs l' vs ps := by
  induction h with
  | nil => exact .nil
  | cons h _ ih => exact .cons (hs _ h) ih
theorem NewPairs.length {l : Led} {vs : List Value} {ps : List (Tr × Bool)} (h : NewPairs l vs ps) : vs.length = ps.length := by
  induction h with
  | nil => rfl
  | cons _ _ ih => rw [List.length_cons, List.length_cons, ih]
theorem off1_of {D : Addr} : ∀ {l : Led}, (∀ p ∈ l, p.1 ≠ D) → LCg.Off1 D l
  | [], _ => trivial
  | p :: _, h => ⟨h p (.head _), off1_of fun q hq => h q (.tail _ hq)⟩
theorem NewPairs.app {l : Led} {vs ws : List Value} {ps qs : List (Tr × Bool)} (h : NewPairs l vs ps) (r : NewPairs l ws qs) : NewPairs l (vs ++ ws) (ps ++ qs) := by
  induction h with
  | nil => exact r
  | cons h _ ih => exact .cons h ih
theorem NewPairs.reverse {l : Led} {vs : List Value} {ps : List (Tr × Bool)} (h : NewPairs l vs ps) : NewPairs l vs.reverse ps.reverse := by
  induction h with
  | nil => exact .nil
  | cons h _ ih =>
    rw [List.reverse_cons, List.reverse_cons]
    exact ih.app (.cons h .nil)
theorem NewPairs.ents {l : Led} {vs : List Value} {ps : List (Tr × Bool)} (h : NewPairs l vs ps) (hT : ∀ q ∈ ps, TIn l q.1) : EntsIn l vs (exps ps) := by
  induction h with
  | nil => exact .nil
  | cons h _ ih => exact .cons (.exp h (hT _ (.head _))) (ih fun q hq => hT q (.tail _ hq))
theorem PairsIn.app {l : Led} {vs ws : List Value} {ps qs : List (Tr × Bool)} (h : PairsIn l vs ps) (r : PairsIn l ws qs) : PairsIn l (vs ++ ws) (ps ++ qs) := by
  induction h with
  | nil => exact r
  | cons h _ ih => exact .cons h ih
theorem PairsIn.reverse {l : Led} {vs : List Value} {ps : List (Tr × Bool)} (h : PairsIn l vs ps) : PairsIn l vs.reverse ps.reverse := by
  induction h with
  | nil => exact .nil
  | cons h _ ih =>
    rw [List.reverse_cons, List.reverse_cons]
    exact ih.app (.cons h .nil)
section
variable {prog : Program} {w : World} {A : Around} {h₀ : Heap} {L : Addr} {m : Str → Option Value} {env : Env} {elt : PySem.Expr} {x x₂ : Str} {scope : Scope} {cl : List (Str × Addr)} {s : Shared}
/-- one element of the comprehension -/
noncomputable def EltOK (prog : Program) (w : World) (A : Around) (h₀ : Heap) (L : Addr) (m : Str → Option Value) (env : Env) (elt : PySem.Expr) (x x₂ : Str) (scope : Scope) (cl : List (Str × Addr)) (s : Shared) : Prop :=
  ∀ v₁ v₂ I oI C oC D oD m₂ h tk nw (K E' : Value → Shared → Prop), LCg.NsObj oC m₂ → m₂ x = some v₁ → m₂ x₂ = some v₂ → Fr h₀ L h m → News h₀ L h ((I, oI) :: (C, oC) :: (D, oD) :: nw) →
    (∀ T k h' tk', Fr h₀ L h' m → News h₀ L h' ((T, tupOf #[v₁, v₂, .int (-1) k] 0) :: (I, oI) :: (C, oC) :: (D, oD) :: nw) → AllLt T ((I, oI) :: (C, oC) :: (D, oD) :: nw) → K (.ref T) { s with heap := h', toks := tk' }) →
    wpAny (model prog w) A (eval elt (compEnvC scope cl C env)) K E' { s with heap := h, toks := tk }
theorem EltOK.of (h : ∀ v₁ v₂ I oI C oC D oD m₂ h tk nw (K E' : Value → Shared → Prop), LCg.NsObj oC m₂ → m₂ x = some v₁ → m₂ x₂ = some v₂ → Fr h₀ L h m → News h₀ L h ((I, oI) :: (C, oC) :: (D, oD) :: nw) →
    (∀ T k h' tk', Fr h₀ L h' m → News h₀ L h' ((T, tupOf #[v₁, v₂, .int (-1) k] 0) :: (I, oI) :: (C, oC) :: (D, oD) :: nw) → AllLt T ((I, oI) :: (C, oC) :: (D, oD) :: nw) → K (.ref T) { s with heap := h', toks := tk' }) →
    wpAny (model prog w) A (eval elt (compEnvC scope cl C env)) K E' { s with heap := h, toks := tk }) : EltOK prog w A h₀ L m env elt x x₂ scope cl s := h
theorem rest_exps {ax : Addr} {its : Array Value} {k0 : Nat} {led : Led} {PS : List (Tr × Bool)} {Fin : List Value → Led → Prop} (el : EltOK prog w A h₀ L m env elt x x₂ scope cl s) (hm : (ax, listOf its k0) ∈ led)
    (fin : ∀ ys tlc, NewPairs tlc ys PS → Newer led tlc → Fin ys (tlc ++ led)) : ∀ (vs pre : List Value) (ps qs : List (Tr × Bool)) (ys : List Value) (tlc : Led), pre ++ vs = its.toList → ps ++ qs = PS → PairsIn led vs qs → NewPairs tlc ys ps → Newer led tlc →
    LCp.CompRestP prog w A h₀ L m env elt x x₂ scope cl s (LCg.SrcAt h₀ ax its) (fun i v => its[i]? = some v) Fin vs.length pre.length ys (tlc ++ led)
  | [], pre, ps, qs, ys, tlc, e, e2, hq, hn, hw => by
    cases hq
    rw [List.append_nil] at e2
    subst e2
    exact LCp.CompRestP.zero (fin ys tlc hn hw)
  | v :: vs, pre, ps, qs, ys, tlc, e, e2, hq, hn, hw => by
    cases hq with
    | @cons a n t b _ qs' ha hq' =>
      refine LCp.CompRestP.succ fun v' hv' => ?_
      have e1 : its[pre.length]? = some (.ref a) := by
        rw [← Array.getElem?_toList, ← e]
        simp
      have e3 : v' = .ref a := Option.some.inj (hv'.symm.trans e1)
      subst e3
      refine ⟨a, _, _, _, n, rfl, List.mem_append_right _ ha, rfl, rfl, ?_⟩
      intro I oI C oC D m₂ h tk E' hC hx hx₂ F N off ne
      refine el _ _ I oI C oC D _ m₂ h tk _ _ E' hC hx hx₂ F N fun T k h' tk' F' N' lt => ?_
      refine LCg.CompEnd.intro F' N' ((T, tupOf #[.ref t.ad, .bool b, .int (-1) k] 0) :: (tlc ++ led)) ?_ ⟨⟨Nat.ne_of_gt lt.1, Nat.ne_of_gt lt.2.1, Nat.ne_of_gt lt.2.2.1⟩, off⟩ (.inr ⟨_, .tail _ (List.mem_append_right _ hm), rfl, _, rfl⟩) ?_
      · intro p hp
        simp only [List.mem_cons] at hp ⊢
        rcases hp with h1 | h1 | h1 | h1 | h1
        · exact .inr (.inl h1)
        · exact .inr (.inr (.inl h1))
        · exact .inr (.inr (.inr (.inl h1)))
        · exact .inl h1
        · exact .inr (.inr (.inr (.inr h1)))
      · have ih := rest_exps el hm fin vs (pre ++ [.ref a]) (ps ++ [(t, b)]) qs' (ys ++ [.ref T]) ((T, tupOf #[.ref t.ad, .bool b, .int (-1) k] 0) :: tlc) (by rw [← e]; simp) (by rw [← e2]; simp) hq'
          ((hn.mono fun _ h => .tail _ h).app (.cons (.head _) .nil)) (newer_cons (allLt_sub lt.2.2.2 fun p hp => List.mem_append_right _ hp) hw)
        rw [List.length_append, List.length_singleton] at ih
        exact ih
theorem src_exps {ax : Addr} {vs : List Value} {k0 : Nat} {led : Led} {ps : List (Tr × Bool)} {Q : Value → Shared → Prop}
    (hh : A.handled = none) (F : Fr h₀ L s.heap m) (N : News h₀ L s.heap led) (hm : (ax, listOf vs.toArray k0) ∈ led) (hP : PairsIn led vs ps) (hz : vs.length ≤ 1000)
    (el : ∀ g, EltOK prog w A h₀ L m env elt x x₂ scope cl { s with heap := g })
    (fin : ∀ D ys tlc h' tk', Fr h₀ L h' m → News h₀ L h' ((D, LCg.lst ys) :: (tlc ++ led)) → LCg.Off1 D (tlc ++ led) → Newer led tlc → NewPairs tlc ys ps → Q (.ref D) { s with heap := h', toks := tk' }) :
    LCp.SrcLP prog w A h₀ L m env elt x x₂ scope cl (fun s₂ => LCg.FinE h₀ L m s₂ Q) (.ref ax) s := by
  refine LCp.SrcLP.ledger hh F N hm (by rw [List.size_toArray]; exact Nat.le_trans hz (by decide)) fun g => ?_
  rw [List.size_toArray]
  refine rest_exps (its := vs.toArray) (PS := ps) (el g) hm (fun ys tlc hn hw => ?_) vs [] [] ps [] [] rfl rfl hP .nil newer_nil
  intro D h' tk' F' N' o1
  exact fin D ys tlc h' tk' F' N' o1 hw hn
end
end P_WD

section P_WL
open PySem PySem.W PyProof.Rows PySem.Calls PySem.Spec
set_option maxRecDepth 100000
/-- a halt for the walk -/
noncomputable def Stop (P : Prop) : Prop := P
theorem Stop.out {P : Prop} (h : Stop P) : P := h
theorem Stop.mk {P : Prop} (h : P) : Stop P := h
noncomputable abbrev ItemR := Led → Value → Note → Prop
inductive ItemsIn (P : ItemR) (led : Led) : List Value → List Note → Prop where
  | nil : ItemsIn P led [] []
  | cons {v n vs ns} : P led v n → ItemsIn P led vs ns → ItemsIn P led (v :: vs) (n :: ns)
noncomputable def ItemR.Mono (P : ItemR) : Prop := ∀ (l l' : Led) v n, (∀ p ∈ l, p ∈ l') → P l v n → P l' v n
theorem ItemsIn.mono {P : ItemR} (hP : P.Mono) {l l' : Led} (hs : ∀ p ∈ l, p ∈ l') {vs : List Value} {ns : List Note} (h : ItemsIn P l vs ns) : ItemsIn P l' vs ns := by
  induction h with
  | nil => exact .nil
  | cons h _ ih => exact .cons (hP _ _ _ _ hs h) ih
theorem ItemsIn.app {P : ItemR} {l : Led} {vs ws : List Value} {ns ms : List Note} (h : ItemsIn P l vs ns) (r : ItemsIn P l ws ms) : ItemsIn P l (vs ++ ws) (ns ++ ms) := by
  induction h with
  | nil => exact r
  | cons h _ ih => exact .cons h ih
theorem ItemsIn.length {P : ItemR} {l : Led} {vs : List Value} {ns : List Note} (h : ItemsIn P l vs ns) : vs.length = ns.length := by
  induction h with
  | nil => rfl
  | cons _ _ ih => rw [List.length_cons, List.length_cons, ih]
noncomputable def CbRet (res : Res) (P : ItemR) (ha : Addr) (its : List Value) (e : Nat) (imm : Led) (h₀ : Heap) (L : Addr) (m : Str → Option Value) (t : Tr) (wb : Bool) (os : List (Option Str)) (Q : Value → Shared → Prop) (s : Shared) : Prop :=
  ∀ v tl it e' h' tk', VF tl v (res t wb os) → Fr h₀ L h' m → News h₀ L h' (tl ++ (ha, listOf (its ++ [it]).toArray e') :: imm) → Newer ((ha, listOf its.toArray e) :: imm) tl → P tl it (t, wb, os) → Q v { s with heap := h', toks := tk' }
/-- the contract of the callback -/
noncomputable def CbOK (w : World) (p : Program) (loose : List Str) (mean : ExcName → Option Value) (mg mb : Str → Option Value) (res : Res) (P : ItemR) (cb : Value) (ha : Addr) (imm0 : Led) : Prop :=
  ∀ (dp un : Nat) (gd : Option (List Code)) (cn : Str) (cs : Scope) (a : Addr) (ccd : Value) (cl : List (Str × Addr)) (outer : List Env) (A₀ : Around) (base h₀ : Heap) (L : Addr) (m : Str → Option Value) (imm : Led) (s : Shared) (its : List Value) (e : Nat) (t : Tr) (wb : Bool) (lv : Addr) (vs : List Value) (os : List (Option Str)) (n : Nat)
    (Q E : Value → Shared → Prop),
    Below A₀ base outer h₀ → Fr h₀ L s.heap m → (hd.heap_1 w.params).In h₀ → News h₀ L s.heap ((ha, listOf its.toArray e) :: imm) → Top p loose mean mg mb h₀ → cs.kind = .function → dp + 30 < recursionLimit → un + 100 < cLine →
    (∀ p ∈ imm0, p ∈ imm) → TIn imm t → (lv, listOf vs.toArray n) ∈ imm → FVals imm vs os → vs.length = t.parts.length → its.length ≤ 100000 → Apart ha imm → CbRet res P ha its e imm h₀ L m t wb os Q s →
    wpAny (model PySem.Challenge.rw_pf0366_01.row.prog w) (ktrTop dp un gd cn cs L a ccd cl outer) (call cb [t.val, .bool wb, .ref lv]) Q E s
/-- the contract of need_nameable -/
noncomputable def NnOK (w : World) (p : Program) (loose : List Str) (mean : ExcName → Option Value) (mg mb : Str → Option Value) : Prop :=
  ∀ (dp un : Nat) (gd : Option (List Code)) (cn : Str) (cs : Scope) (a : Addr) (ccd : Value) (cl : List (Str × Addr)) (outer : List Env) (A₀ : Around) (base h₀ : Heap) (L : Addr) (m : Str → Option Value) (led : Led) (s : Shared) (t : Tr)
    (Q E : Value → Shared → Prop),
    Below A₀ base outer h₀ → Fr h₀ L s.heap m → (hd.heap_1 w.params).In h₀ → News h₀ L s.heap led → Top p loose mean mg mb h₀ → cs.kind = .function → dp + 20 < recursionLimit → un + 100 < cLine → TIn led t →
    (t.nameable = true → ∀ h' tk', Fr h₀ L h' m → News h₀ L h' led → Q .none { s with heap := h', toks := tk' }) →
    (t.nameable = false → ∀ e g h' tk', Fr h₀ L g m → g.UpToSlots h' → RaisedD base (envX cn cs L a ccd cl :: outer) e led h' → E (.ref e) { s with heap := h', toks := tk' }) →
    wpAny (model PySem.Challenge.rw_pf0366_01.row.prog w) (ktrTop dp un gd cn cs L a ccd cl outer) (call (.ref 65) [t.val]) Q E s
/-- what stands in the machine's loop -/
structure WSt (res : Res) (P : ItemR) (ha : Addr) (its : List Value) (e : Nat) (imm : Led) (W V : Addr) (nsT : List Note) (oT : Out Str) (n : Nat) (ents : List Ent) (tops vs : List Value) (vals : List (Option Str)) (its' : List Value) (tl : Led) : Prop where
  hents : EntsIn (tl ++ imm) tops ents
  hvals : FVals (tl ++ imm) vs vals
  hV : ∃ k, (V, listOf vs.toArray k) ∈ tl ++ imm
  runs : ∃ ns1 ns2, ItemsIn P tl its' ns1 ∧ Runs res n ents vals ns2 oT ∧ ns1 ++ ns2 = nsT
  newer : Newer ((ha, listOf its.toArray e) :: imm) tl
  haW : @LT.lt Nat _ ha W
  immW : AllLt W imm
  tlW : ∀ p ∈ tl, p.1 ≠ W
  szT : tops.length + 4 * n ≤ 20000
  szV : vs.length + n ≤ 20000
  szI : its.length + its'.length + n ≤ 50000
noncomputable def bind5 (m : Str → Option Value) (u1 u2 u3 u4 u5 : Option Value) : Str → Option Value := fun z => if z = Str.ofString "values" then u5 else if z = Str.ofString "found" then u4 else if z = Str.ofString "height" then u3 else if z = Str.ofString "wants" then u2 else if z = Str.ofString "here" then u1 else m z
noncomputable def OffFive (m₁ m : Str → Option Value) : Prop := ∀ z, z ≠ Str.ofString "values" → z ≠ Str.ofString "found" → z ≠ Str.ofString "height" → z ≠ Str.ofString "wants" → z ≠ Str.ofString "here" → m₁ z = m z
noncomputable def isFive (x : Str) : Bool := x == Str.ofString "values" || x == Str.ofString "found" || x == Str.ofString "height" || x == Str.ofString "wants" || x == Str.ofString "here"
theorem OffFive.set {m₁ m : Str → Option Value} {x : Str} {v : Option Value} (hx : isFive x = true) (h : OffFive m₁ m) : OffFive (fun z => if z = x then v else m₁ z) m := by
  intro z a b c d e
  have hz : z ≠ x := by
    rintro rfl
    simp only [isFive, Bool.or_eq_true, beq_iff_eq] at hx
    rcases hx with (((hx | hx) | hx) | hx) | hx
    · exact a hx
    · exact b hx
    · exact c hx
    · exact d hx
    · exact e hx
  exact (if_neg hz).trans (h z a b c d e)
theorem OffFive.base {m : Str → Option Value} {u1 u2 u3 u4 u5 : Option Value} : OffFive (bind5 m u1 u2 u3 u4 u5) m := fun z a b c d e => (if_neg a).trans ((if_neg b).trans ((if_neg c).trans ((if_neg d).trans (if_neg e))))
theorem OffFive.bind {m₁ m : Str → Option Value} (h : OffFive m₁ m) : m₁ = bind5 m (m₁ (Str.ofString "here")) (m₁ (Str.ofString "wants")) (m₁ (Str.ofString "height")) (m₁ (Str.ofString "found")) (m₁ (Str.ofString "values")) := by
  funext z
  unfold bind5
  repeat' split
  all_goals first | (next e => rw [e]) | exact h z (by assumption) (by assumption) (by assumption) (by assumption) (by assumption)
noncomputable def WJ (res : Res) (P : ItemR) (ha : Addr) (its : List Value) (e : Nat) (imm : Led) (W : Addr) (nsT : List Note) (oT : Out Str) (m₀ : Str → Option Value) (n : Nat) (m₁ : Str → Option Value) (news₁ : Led) : Prop :=
  OffFive m₁ m₀ ∧ ∃ V ents tops vs vals its' tl e1 e2, m₁ (Str.ofString "values") = some (.ref V) ∧ news₁ = (W, listOf tops.reverse.toArray e1) :: (ha, listOf (its ++ its').toArray e2) :: (tl ++ imm) ∧ WSt res P ha its e imm W V nsT oT n ents tops vs vals its' tl
theorem worked_loop {prog : Program} {w : World} {A : Around} {E : Value → Shared → Prop} {s : Shared} {env : Env} {h₀ : Heap} {L : Addr} {test : PySem.Expr} {body : List Stmt} {pos : Pos} {Q : Flow → Shared → Prop}
    {res : Res} {P : ItemR} {ha : Addr} {its : List Value} {e : Nat} {imm : Led} {W V : Addr} {nsT : List Note} {oT : Out Str} {n₀ : Nat} {m₀ : Str → Option Value} {led : Led} {t : Tr} {wb : Bool} {D : Addr} {e1 e2 k1 k2 : Nat} {u1 u2 u3 u4 : Option Value}
    (F : Fr h₀ L s.heap m₀) (N : News h₀ L s.heap led) (em : m₀ = bind5 m₀ u1 u2 u3 u4 (some (.ref V)))
    (hW : (W, listOf #[.ref D] e1) ∈ led) (ha1 : (ha, listOf its.toArray e) ∈ led) (hV : (V, listOf #[] e2) ∈ led) (hD : (D, tupOf #[.ref t.ad, .bool wb, .int (-1) k1] k2) ∈ led) (sub : ∀ p ∈ imm, p ∈ led)
    (hT : TIn imm t) (hap : Apart ha imm) (hn : Newer ((ha, listOf its.toArray e) :: imm) [(D, tupOf #[.ref t.ad, .bool wb, .int (-1) k1] k2), (V, listOf #[] e2)]) (haW : AllLt W ((ha, listOf its.toArray e) :: imm)) (hDW : @Ne Nat D W) (hVW : @Ne Nat V W)
    (R : Runs res n₀ [.exp t wb] [] nsT oT) (hn0 : n₀ ≤ 4000) (hz : its.length ≤ 1000) (hP : P.Mono)
    (turn : ∀ n V ents tops vs vals its' tl e1 e2 h tk u1 u2 u3 u4, WSt res P ha its e imm W V nsT oT n ents tops vs vals its' tl → Fr h₀ L h (bind5 m₀ u1 u2 u3 u4 (some (.ref V))) → News h₀ L h ((W, listOf tops.reverse.toArray e1) :: (ha, listOf (its ++ its').toArray e2) :: (tl ++ imm)) →
      wpAny (model prog w) A (isTrue test env (eval test env)) (fun b s₂ =>
        if b = true then wpAny (model prog w) A (execs body env) (WhileStep2 h₀ L s (WJ res P ha its e imm W nsT oT m₀) Q n) E s₂ else Q .next s₂) E { s with heap := h, toks := tk })
    (hE : PassesOwn (model prog w) A env E) :
    wpAny (model prog w) A (exec (.While test body [] pos) env) Q E s := by
  refine While_inv2 (WJ res P ha its e imm W nsT oT m₀) (news := (W, listOf [Value.ref D].reverse.toArray e1) :: (ha, listOf (its ++ []).toArray e) :: ([(D, tupOf #[.ref t.ad, .bool wb, .int (-1) k1] k2), (V, listOf #[] e2)] ++ imm)) (n₀ := n₀) F (news_drop N ?_) ?_ ?_ hE
  · intro p hp
    simp only [List.append_nil, List.reverse_singleton, List.mem_cons, List.mem_append, List.not_mem_nil, or_false] at hp
    rcases hp with rfl | rfl | (rfl | rfl) | hp
    · exact hW
    · exact ha1
    · exact hD
    · exact hV
    · exact sub p hp
  · refine ⟨fun _ _ _ _ _ _ => rfl, V, [.exp t wb], [.ref D], [], [], [], _, e1, e, ?_, rfl, ?_⟩
    · rw [em]; rfl
    · refine ⟨.cons (.exp (.head _) (hT.mono fun p hp => List.mem_append_right _ hp)) .nil, .nil, ⟨e2, .tail _ (.head _)⟩, ⟨[], nsT, .nil, R, rfl⟩, hn, haW.1, haW.2, ?_, ?_, ?_, ?_⟩
      · intro p hp
        simp only [List.mem_cons, List.not_mem_nil, or_false] at hp
        rcases hp with rfl | rfl
        · exact hDW
        · exact hVW
      · simp only [List.length_cons, List.length_nil]; omega
      · simp only [List.length_nil]; omega
      · simp only [List.length_nil]; omega
  · rintro n m₁ news₁ h₁ tk₁ F₁ N₁ ⟨hm, V', ents, tops, vs, vals, its', tl, e1', e2', hv, rfl, S⟩
    have eb := hm.bind
    rw [hv] at eb
    rw [eb] at F₁
    exact turn n V' ents tops vs vals its' tl e1' e2' h₁ tk₁ _ _ _ _ S F₁ N₁

theorem FVals.snoc {l : Led} : ∀ {vs : List Value} {os : List (Option Str)} {o : Option Str}, FVals l vs (os ++ [o]) → ∃ vs' x, vs = vs' ++ [x] ∧ FVals l vs' os ∧ VF l x o
  | _, [], o, h => by
    cases h with
    | cons h1 h2 => cases h2; exact ⟨[], _, rfl, .nil, h1⟩
  | _, _ :: os, o, h => by
    cases h with
    | cons h1 h2 =>
      obtain ⟨vs', x, rfl, h3, h4⟩ := h2.snoc
      exact ⟨_ :: vs', x, rfl, .cons h1 h3, h4⟩
theorem Runs.exp_inv {res : Res} {n : Nat} {t : Tr} {w : Bool} {r : List Ent} {vals : List (Option Str)} {ns : List Note} {out : Out Str} (R : Runs res n (.exp t w :: r) vals ns out) : (Mine.bad t w = true ∧ ns = [] ∧ out = none) ∨ (Mine.bad t w = false ∧ ∃ n', n = n' + 1 ∧ Runs res n' (exps t.parts ++ .fin t w vals.length :: r) vals ns out) := by
  cases R with
  | bad h => exact .inl ⟨h, rfl, rfl⟩
  | exp h R' => exact .inr ⟨h, _, rfl, R'⟩
theorem Runs.exp_go {res : Res} {n : Nat} {t : Tr} {w : Bool} {r : List Ent} {vals : List (Option Str)} {ns : List Note} {out : Out Str} (R : Runs res n (.exp t w :: r) vals ns out) (hb : Mine.bad t w = false) : ∃ n', n = n' + 1 ∧ Runs res n' (exps t.parts ++ .fin t w vals.length :: r) vals ns out :=
  R.exp_inv.elim (fun h => absurd (hb.symm.trans h.1) Bool.false_ne_true) (fun h => h.2)
theorem Runs.exp_bad {res : Res} {n : Nat} {t : Tr} {w : Bool} {r : List Ent} {vals : List (Option Str)} {ns : List Note} {out : Out Str} (R : Runs res n (.exp t w :: r) vals ns out) (hb : Mine.bad t w = true) : ns = [] ∧ out = none :=
  R.exp_inv.elim (fun h => h.2) (fun h => absurd (h.1.symm.trans hb) Bool.false_ne_true)
theorem Runs.fin_inv {res : Res} {n : Nat} {t : Tr} {w : Bool} {h : Nat} {r : List Ent} {vals : List (Option Str)} {ns : List Note} {out : Out Str} (R : Runs res n (.fin t w h :: r) vals ns out) : h ≤ vals.length ∧ (vals.drop h).length = t.parts.length ∧ ∃ n' ns', n = n' + 1 ∧ ns = (t, w, vals.drop h) :: ns' ∧
    ((∃ x, res t w (vals.drop h) = some x ∧ Runs res n' r (vals.take h ++ [some x]) ns' out) ∨ (res t w (vals.drop h) = none ∧ Runs res n' (unwind r) (vals.take (newH h (unwind r)) ++ [none]) ns' out)) := by
  cases R with
  | ok h1 h2 h3 R' => exact ⟨h1, h2, _, _, rfl, rfl, .inl ⟨_, h3, R'⟩⟩
  | fail h1 h2 h3 R' => exact ⟨h1, h2, _, _, rfl, rfl, .inr ⟨h3, R'⟩⟩
theorem EntsIn.rest {led : Led} {v : Value} {tops : List Value} {en : Ent} {ents : List Ent} (h : EntsIn led (v :: tops) (en :: ents)) : EntsIn led tops ents := by
  cases h with
  | cons _ h => exact h
theorem fm_cons {P : Addr × Obj → Prop} {p : Addr × Obj} {l : Led} (h : P p) (r : ∀ q ∈ l, P q) : ∀ q ∈ p :: l, P q := List.forall_mem_cons.mpr ⟨h, r⟩
theorem fm_app {P : Addr × Obj → Prop} {a b : Led} (h : ∀ q ∈ a, P q) (r : ∀ q ∈ b, P q) : ∀ q ∈ a ++ b, P q := List.forall_mem_append.mpr ⟨h, r⟩
theorem Runs.nil_inv {res : Res} {n : Nat} {vals : List (Option Str)} {ns : List Note} {out : Out Str} (R : Runs res n [] vals ns out) : ns = [] ∧ ∃ vs v, vals = vs ++ [v] ∧ out = some v := by
  cases R with
  | done => exact ⟨rfl, _, _, rfl, rfl⟩
noncomputable def CutQ (g : Heap) (L : Addr) (m : Str → Option Value) (news : Led) (C : Prop) (s s' : Shared) : Prop :=
  C ∧ ∃ h' tk', s' = { s with heap := h', toks := tk' } ∧ Fr g L h' m ∧ News g L h' news
theorem CutQ.intro {g : Heap} {L : Addr} {m : Str → Option Value} {news led : Led} {C : Prop} {s : Shared} {h' : Heap} {tk' : Nat} (hC : C) (F : Fr g L h' m) (N : News g L h' led) (sub : ∀ p ∈ news, p ∈ led) :
    CutQ g L m news C s { s with heap := h', toks := tk' } := ⟨hC, h', tk', rfl, F, news_drop N sub⟩
theorem wk_cut {M : Model} {A : Around} {E : Value → Shared → Prop} {s : Shared} {env : Env} {Q : Flow → Shared → Prop} {g : Heap} {L : Addr} {m : Str → Option Value} {news : Led} {a : Stmt} {rest : List Stmt} (C : Prop) (_F : Fr g L s.heap m) (_N : News g L s.heap news)
    (h1 : wpAny M A (exec a env) (fun f s₁ => match f with | .next => CutQ g L m news C s s₁ | f => Q f s₁) E s)
    (h2 : ∀ h' tk', C → Fr g L h' m → News g L h' news → wpAny M A (execs rest env) Q E { s with heap := h', toks := tk' }) : wpAny M A (execs (a :: rest) env) Q E s := by
  refine wpAny_execs_cons (wpAny_mono h1 (fun f s₁ k1 => ?_) fun _ _ e => e)
  cases f with
  | next =>
    obtain ⟨hC, h', tk', rfl, F', N'⟩ := k1
    exact h2 h' tk' hC F' N'
  | _ => exact k1
section
variable {w : World} {p : Program} {loose : List Str} {mean : ExcName → Option Value} {mg mb : Str → Option Value} {dp un : Nat} {gd : Option (List Code)} {cn : Str} {cs : Scope} {a : Addr} {ccd : Value} {cl : List (Str × Addr)} {outer : List Env} {A₀ : Around} {base h₀ : Heap} {L : Addr} {m : Str → Option Value} {led led0 immA imm0 : Led} {s : Shared}
  {Q E : Value → Shared → Prop} {t : Tr} {ta : Addr}
structure NmT (t : Tr) : Prop where
  h : t.nameable = true
structure NmF (t : Tr) : Prop where
  h : t.nameable = false
theorem nn_call (C : NnOK w p loose mean mg mb) (B : Below A₀ base outer h₀) (F : Fr h₀ L s.heap m) (X : (hd.heap_1 w.params).In h₀) (N : News h₀ L s.heap led) (T : Top p loose mean mg mb h₀) (hk : cs.kind = .function) (hd1 : dp + 20 < recursionLimit) (hu1 : un + 100 < cLine)
    (hf : Foc led0 t) (sub : ∀ p ∈ led0, p ∈ led) (e : t.ad = ta)
    (h1 : NmT t → ∀ h' tk', Fr h₀ L h' m → News h₀ L h' led → Q .none { s with heap := h', toks := tk' })
    (h2 : NmF t → ∀ x g h' tk', Fr h₀ L g m → g.UpToSlots h' → RaisedD base (envX cn cs L a ccd cl :: outer) x led h' → E (.ref x) { s with heap := h', toks := tk' }) :
    wpAny (model PySem.Challenge.rw_pf0366_01.row.prog w) (ktrTop dp un gd cn cs L a ccd cl outer) (call (.ref 65) [.ref ta]) Q E s := by
  subst e
  exact C dp un gd cn cs a ccd cl outer A₀ base h₀ L m led s t Q E B F X N T hk hd1 hu1 (hf.h.mono sub) (fun h => h1 ⟨h⟩) (fun h => h2 ⟨h⟩)
structure ResIs (res : Res) (t : Tr) (w : Bool) (os : List (Option Str)) (o : Option Str) : Prop where
  h : res t w os = o
theorem cb_call {res : Res} {P : ItemR} {fa ha lv : Addr} {its : List Value} {e n : Nat} {vs : List Value} {os : List (Option Str)} {wb : Bool} {g : Obj → Led} (C : CbOK w p loose mean mg mb res P (.ref fa) ha imm0)
    (B : Below A₀ base outer h₀) (F : Fr h₀ L s.heap m) (X : (hd.heap_1 w.params).In h₀) (N : News h₀ L s.heap led) (T : Top p loose mean mg mb h₀) (hk : cs.kind = .function) (hd1 : dp + 30 < recursionLimit) (hu1 : un + 100 < cLine)
    (U : UpdF ha (listOf its.toArray e) led g) (hf : Foc immA t) (sub0 : ∀ p ∈ imm0, p ∈ immA) (subA : ∀ p ∈ immA, p ∈ led) (hapA : Apart ha immA) (eT : t.ad = ta) (hlv : (lv, listOf vs.toArray n) ∈ led) (hlv2 : @Ne Nat lv ha) (hvs : FVals immA vs os) (hl : vs.length = t.parts.length) (hz : its.length ≤ 100000)
    (h1 : ∀ x tl it e' h' tk' k, ResIs res t wb os (some x) → Fr h₀ L h' m → News h₀ L h' (tl ++ g (listOf (its ++ [it]).toArray e')) → Newer led tl → P tl it (t, wb, os) → Q (.str x k) { s with heap := h', toks := tk' })
    (h2 : ∀ x d tl it e' h' tk', ResIs res t wb os none → (x, instObj 47 d) ∈ tl → (d, dictOf [] 0) ∈ tl → Fr h₀ L h' m → News h₀ L h' (tl ++ g (listOf (its ++ [it]).toArray e')) → Newer led tl → P tl it (t, wb, os) → Q (.ref x) { s with heap := h', toks := tk' }) :
    wpAny (model PySem.Challenge.rw_pf0366_01.row.prog w) (ktrTop dp un gd cn cs L a ccd cl outer) (call (.ref fa) [.ref ta, .bool wb, .ref lv]) Q E s := by
  subst eT
  obtain ⟨own, rest, rfl, hg, k1, k2⟩ := U.split
  have hto : ∀ q, q ∈ (ha, listOf its.toArray e) :: (own ++ rest) ↔ q ∈ own ++ (ha, listOf its.toArray e) :: rest := fun q => by simp [List.mem_cons, List.mem_append]; grind
  have hsA : ∀ q ∈ immA, q ∈ own ++ rest := fun q hq => by
    rcases List.mem_cons.mp ((hto _).mpr (subA q hq)) with e | hq'
    · exact absurd (congrArg Prod.fst e) (hapA q hq)
    · exact hq'
  refine C dp un gd cn cs a ccd cl outer A₀ base h₀ L m (own ++ rest) s its e t wb lv vs os n Q E B F X (fun q hq => N q ((hto q).mp hq)) T hk hd1 hu1 (fun q hq => hsA q (sub0 q hq)) (hf.h.mono hsA) ?_ (hvs.mono hsA) hl hz (apart_app k1 k2) ?_
  · rcases List.mem_cons.mp ((hto _).mpr hlv) with e | hq'
    · exact absurd (congrArg Prod.fst e) hlv2
    · exact hq'
  · intro v tl it e' h' tk' hv F' N' nw hI
    have N2 : News h₀ L h' (tl ++ g (listOf (its ++ [it]).toArray e')) := by
      rw [hg]
      intro q hq
      refine N' q ?_
      simp only [List.mem_append, List.mem_cons] at hq ⊢
      grind
    have nw2 : Newer (own ++ (ha, listOf its.toArray e) :: rest) tl := fun q hq => nw q ((hto q).mpr hq)
    cases hr : res t wb os with
    | some x =>
      rw [hr] at hv
      obtain ⟨k, rfl⟩ := hv
      exact h1 x tl it e' h' tk' k ⟨hr⟩ F' N2 nw2 hI
    | none =>
      rw [hr] at hv
      obtain ⟨x, d, rfl, m1, m2⟩ := hv
      exact h2 x d tl it e' h' tk' ⟨hr⟩ m1 m2 F' N2 nw2 hI
end
section
variable {res : Res} {P : ItemR} {ha W V : Addr} {its vs tops its' : List Value} {e e1 e2 e3 n : Nat} {imm tl led0 : Led} {nsT : List Note} {oT : Out Str} {ents : List Ent} {vals : List (Option Str)} {h₀ h' : Heap} {L : Addr} {m₀ m' : Str → Option Value} {s : Shared} {Q : Flow → Shared → Prop} {t : Tr} {w : Bool} {v : Value} {tk' : Nat}
theorem WSt.badEnd (S : WSt res P ha its e imm W V nsT oT n (.exp t w :: ents) (v :: tops) vs vals its' tl) (hb : Mine.bad t w = true) : oT = none ∧ ItemsIn P tl its' nsT := by
  obtain ⟨ns1, ns2, hI, R, e⟩ := S.runs
  obtain ⟨e2, e3⟩ := R.exp_bad hb
  exact ⟨e3, by rw [← e, e2, List.append_nil]; exact hI⟩
theorem WSt.lastEnd (S : WSt res P ha its e imm W V nsT oT n [] [] vs vals its' tl) : ∃ o vs' x k, oT = some o ∧ ItemsIn P tl its' nsT ∧ vs = vs' ++ [x] ∧ VF (tl ++ imm) x o ∧ (V, listOf (vs' ++ [x]).toArray k) ∈ tl ++ imm := by
  obtain ⟨ns1, ns2, hI, R, e⟩ := S.runs
  obtain ⟨rfl, os, o, rfl, rfl⟩ := R.nil_inv
  obtain ⟨vs', x, rfl, _, h2⟩ := S.hvals.snoc
  obtain ⟨k, hk⟩ := S.hV
  exact ⟨o, vs', x, k, rfl, by rw [← e, List.append_nil]; exact hI, rfl, h2, hk⟩
theorem exp_close {D1 : Addr} {k2 : Nat} {k : Tok} {ys : List Value} {TL : Led} {oo ow : Obj} (hP : P.Mono) (S : WSt res P ha its e imm W V nsT oT n (.exp t w :: ents) (v :: tops) vs vals its' tl) (hb : Mine.bad t w = false) (hT : TIn (tl ++ imm) t) (F : Fr h₀ L h' m') (N : News h₀ L h' led0) (hm : OffFive m' m₀) (hv : m' (Str.ofString "values") = some (.ref V))
    (hW : (W, listOf (tops.reverse ++ [Value.ref D1] ++ ys).toArray e3) ∈ led0) (ha' : (ha, listOf (its ++ its').toArray e2) ∈ led0) (hD1 : (D1, tupOf #[.ref t.ad, .bool w, .int ((vs.length : Nat) : Int) k] k2) ∈ TL) (hys : NewPairs TL ys t.parts.reverse)
    (sub1 : ∀ p ∈ TL, p ∈ led0) (sub2 : ∀ p ∈ tl ++ imm, p ∈ led0) (nw : Newer ((W, ow) :: (ha, oo) :: (tl ++ imm)) TL) :
    WhileStep2 h₀ L s (WJ res P ha its e imm W nsT oT m₀) Q n .cont { s with heap := h', toks := tk' } := by
  obtain ⟨ns1, ns2, hI, R, eT⟩ := S.runs
  obtain ⟨n', rfl, R'⟩ := R.exp_go hb
  have sA : ∀ p ∈ tl ++ imm, p ∈ (TL ++ tl) ++ imm := fm_app (fun p hp => List.mem_append_left _ (List.mem_append_right _ hp)) fun p hp => List.mem_append_right _ hp
  have sB : ∀ p ∈ TL, p ∈ (TL ++ tl) ++ imm := fun p hp => List.mem_append_left _ (List.mem_append_left _ hp)
  have hrev : (tops.reverse ++ [Value.ref D1] ++ ys) = (ys.reverse ++ Value.ref D1 :: tops).reverse := by simp
  have hpl : ys.length ≤ 4 := by rw [hys.length, List.length_reverse]; exact t.parts_len
  have hy2 := (hys.reverse).mono sB
  rw [List.reverse_reverse] at hy2
  refine ⟨h', tk', m', (W, listOf (ys.reverse ++ Value.ref D1 :: tops).reverse.toArray e3) :: (ha, listOf (its ++ its').toArray e2) :: ((TL ++ tl) ++ imm), n', rfl, F, news_drop N (fm_cons (by rw [← hrev]; exact hW) (fm_cons ha' (fm_app (fm_app sub1 fun q hq => sub2 q (List.mem_append_left _ hq)) fun q hq => sub2 q (List.mem_append_right _ hq)))), Nat.lt_succ_self _, hm, V, exps t.parts ++ .fin t w vals.length :: ents, _, vs, vals, its', TL ++ tl, e3, e2, hv, rfl, ?_⟩
  refine ⟨(hy2.ents fun q hq => (parts_in hT q hq).mono sA).app (.cons (.fin (n := k2) (k := k) (sB _ ?_) (hT.mono sA)) (S.hents.rest.mono sA)), S.hvals.mono sA, let ⟨k, hk⟩ := S.hV; ⟨k, sA _ hk⟩, ⟨ns1, ns2, hI.mono hP fun p hp => List.mem_append_right _ hp, R', eT⟩, ?_, S.haW, S.immW, ?_, ?_, ?_, ?_⟩
  · rw [← S.hvals.length]; exact hD1
  · exact newer_app (fm_cons (fun p hp => nw (ha, oo) (.tail _ (.head _)) p hp) fun q hq => nw q (.tail _ (.tail _ (List.mem_append_right _ hq)))) S.newer
  · exact fm_app (fun p hp => Nat.ne_of_gt (nw _ (.head _) p hp)) S.tlW
  · have := S.szT; simp only [List.length_append, List.length_reverse, List.length_cons] at this ⊢; omega
  · have := S.szV; omega
  · have := S.szI; omega
end
section
variable {res : Res} {P : ItemR} {ha W V : Addr} {its vs tops its' : List Value} {e e1 e2 e3 n : Nat} {imm tl led0 : Led} {nsT : List Note} {oT : Out Str} {ents : List Ent} {vals : List (Option Str)} {h₀ h' : Heap} {L : Addr} {m₀ m' : Str → Option Value} {s : Shared} {Q : Flow → Shared → Prop} {t : Tr} {w : Bool} {v : Value} {tk' : Nat}
theorem exp_close2 {D1 Dr Dp : Addr} {k2 : Nat} {k : Tok} {ys : List Value} {tlc tl' : Led} {ow oo ow1 or op : Obj} (hP : P.Mono) (S : WSt res P ha its e imm W V nsT oT n (.exp t w :: ents) (v :: tops) vs vals its' tl) (hb : Mine.bad t w = false) (hT : Foc (tl ++ imm) t) (F : Fr h₀ L h' m') (N : News h₀ L h' led0)
    (hm : OffFive m' m₀) (hv : m' (Str.ofString "values") = some (.ref V)) (hys : NewPairs tlc ys t.parts.reverse)
    (q1 : AllLt D1 ((W, ow) :: (ha, oo) :: (tl ++ imm))) (q2 : Newer ((D1, tupOf #[.ref t.ad, .bool w, .int ((vs.length : Nat) : Int) k] k2) :: (W, ow1) :: (ha, oo) :: (tl ++ imm)) tl')
    (q3 : Newer ((Dr, or) :: (Dp, op) :: (tl' ++ (D1, tupOf #[.ref t.ad, .bool w, .int ((vs.length : Nat) : Int) k] k2) :: (W, ow1) :: (ha, oo) :: (tl ++ imm))) tlc)
    (hW : (W, listOf (tops.reverse ++ [Value.ref D1] ++ ys).toArray e3) ∈ led0) (ha' : (ha, listOf (its ++ its').toArray e2) ∈ led0) (s1 : ∀ p ∈ tlc, p ∈ led0) (s2 : ∀ p ∈ tl', p ∈ led0) (s3 : (D1, tupOf #[.ref t.ad, .bool w, .int ((vs.length : Nat) : Int) k] k2) ∈ led0) (s4 : ∀ p ∈ tl ++ imm, p ∈ led0) :
    WhileStep2 h₀ L s (WJ res P ha its e imm W nsT oT m₀) Q n .cont { s with heap := h', toks := tk' } := by
  refine exp_close (TL := tlc ++ (tl' ++ [(D1, tupOf #[.ref t.ad, .bool w, .int ((vs.length : Nat) : Int) k] k2)])) (oo := oo) (ow := ow1) hP S hb hT.h F N hm hv hW ha' (List.mem_append_right _ (List.mem_append_right _ (.head _))) (hys.mono fun _ h => List.mem_append_left _ h) ?_ s4 ?_
  · intro p hp
    simp only [List.mem_append, List.mem_singleton] at hp
    rcases hp with h | h | rfl
    · exact s1 p h
    · exact s2 p h
    · exact s3
  · refine newer_app (newer_sub q3 fun p hp => .tail _ (.tail _ (List.mem_append_right _ (.tail _ hp)))) (newer_app (newer_sub q2 fun p hp => .tail _ hp) (newer_cons ?_ newer_nil))
    exact ⟨q1.1, q1.2.1, q1.2.2⟩
end
section
variable {res : Res} {P : ItemR} {ha W V : Addr} {its vs tops its' : List Value} {e e1 e2 e3 n : Nat} {imm tl led0 : Led} {nsT : List Note} {oT : Out Str} {ents : List Ent} {vals : List (Option Str)} {h₀ h' : Heap} {L : Addr} {m₀ m' : Str → Option Value} {s : Shared} {Q : Flow → Shared → Prop} {t : Tr} {w : Bool} {v : Value} {tk' : Nat} {h : Nat}
theorem WSt.finInv (S : WSt res P ha its e imm W V nsT oT n (.fin t w h :: ents) (v :: tops) vs vals its' tl) : h ≤ vs.length ∧ (vs.drop h).length = t.parts.length ∧ FVals (tl ++ imm) (vs.drop h) (vals.drop h) := by
  obtain ⟨ns1, ns2, hI, R, eT⟩ := S.runs
  have hl := S.hvals.length
  have hd := S.hvals.drop h
  have hdl := hd.length
  have h3 := R.fin_inv
  exact ⟨hl ▸ h3.1, hdl.trans h3.2.1, hd⟩
/-- where the machine goes on behind a made value -/
noncomputable def GoesTo (o : Option Str) (ents : List Ent) (h : Nat) (ents2 : List Ent) (hh : Nat) : Prop := (∃ x, o = some x ∧ ents2 = ents ∧ hh = h) ∨ (o = none ∧ ents2 = unwind ents ∧ hh = newH h (unwind ents))
theorem Runs.fin_go {res : Res} {n : Nat} {t : Tr} {w : Bool} {h hh : Nat} {ents ents2 : List Ent} {vals : List (Option Str)} {ns : List Note} {out : Out Str} {o : Option Str} (R : Runs res n (.fin t w h :: ents) vals ns out) (hres : ResIs res t w (vals.drop h) o) (hgo : GoesTo o ents h ents2 hh) :
    ∃ n' ns', n = n' + 1 ∧ ns = (t, w, vals.drop h) :: ns' ∧ Runs res n' ents2 (vals.take hh ++ [o]) ns' out := by
  obtain ⟨_, _, n', ns', e1, e2, ⟨x, h3, R'⟩ | ⟨h3, R'⟩⟩ := R.fin_inv
  · cases hres.h.symm.trans h3
    rcases hgo with ⟨x', _, rfl, rfl⟩ | ⟨e2, _, _⟩
    · exact ⟨n', ns', e1, e2, R'⟩
    · cases e2
  · cases hres.h.symm.trans h3
    rcases hgo with ⟨x', e2, _, _⟩ | ⟨_, rfl, rfl⟩
    · cases e2
    · exact ⟨n', ns', e1, e2, R'⟩
theorem fin_close {o : Option Str} {ents2 : List Ent} {tops2 : List Value} {hh : Nat} {V2 : Addr} {v0 it : Value} {kv : Nat} {tl' : Led} {x1 x2 x3 : Addr × Obj} {ow oo ow1 oo1 : Obj} (hP : P.Mono) (S : WSt res P ha its e imm W V nsT oT n (.fin t w h :: ents) (v :: tops) vs vals its' tl)
    (hres : ResIs res t w (vals.drop h) o) (hgo : GoesTo o ents h ents2 hh) (hE : EntsIn (tl ++ imm) tops2 ents2) (hlen : tops2.length ≤ tops.length) (hv0 : VF tl' v0 o) (hit : P tl' it (t, w, vals.drop h))
    (F : Fr h₀ L h' m') (N : News h₀ L h' led0) (hm : OffFive m' m₀) (hv : m' (Str.ofString "values") = some (.ref V2))
    (q1 : AllLt V2 (x1 :: x2 :: (tl' ++ x3 :: (W, ow1) :: (ha, oo1) :: (tl ++ imm)))) (q2 : Newer (x3 :: (W, ow) :: (ha, oo) :: (tl ++ imm)) tl')
    (hW : (W, listOf tops2.reverse.toArray e3) ∈ led0) (ha' : (ha, listOf (its ++ its' ++ [it]).toArray e2) ∈ led0) (hV2 : (V2, listOf (vs.take hh ++ [v0]).toArray kv) ∈ led0) (s1 : ∀ p ∈ tl', p ∈ led0) (s4 : ∀ p ∈ tl ++ imm, p ∈ led0) :
    WhileStep2 h₀ L s (WJ res P ha its e imm W nsT oT m₀) Q n .next { s with heap := h', toks := tk' } := by
  obtain ⟨ns1, ns2, hI, R, eT⟩ := S.runs
  obtain ⟨n', ns', rfl, rfl, R'⟩ := R.fin_go hres hgo
  have sA : ∀ p ∈ tl ++ imm, p ∈ ((V2, listOf (vs.take hh ++ [v0]).toArray kv) :: tl' ++ tl) ++ imm := fm_app (fun p hp => List.mem_append_left _ (List.mem_append_right _ hp)) fun p hp => List.mem_append_right _ hp
  have sB : ∀ p ∈ tl', p ∈ (V2, listOf (vs.take hh ++ [v0]).toArray kv) :: tl' ++ tl := fun p hp => List.mem_append_left _ (.tail _ hp)
  have lt1 : AllLt V2 ((W, ow1) :: (ha, oo1) :: (tl ++ imm)) := allLt_sub q1 fun p hp => .tail _ (.tail _ (List.mem_append_right _ (.tail _ hp)))
  refine ⟨h', tk', m', (W, listOf tops2.reverse.toArray e3) :: (ha, listOf (its ++ (its' ++ [it])).toArray e2) :: (((V2, listOf (vs.take hh ++ [v0]).toArray kv) :: tl' ++ tl) ++ imm), n', rfl, F, news_drop N (fm_cons hW (fm_cons (by rw [← List.append_assoc]; exact ha') (fm_app (fm_cons hV2 (fm_app s1 fun q hq => s4 q (List.mem_append_left _ hq))) fun q hq => s4 q (List.mem_append_right _ hq)))), Nat.lt_succ_self _, hm, V2, ents2, tops2, vs.take hh ++ [v0], vals.take hh ++ [o], its' ++ [it], _, e3, e2, hv, rfl, ?_⟩
  · refine ⟨hE.mono sA, ((S.hvals.take hh).mono sA).app (.cons (hv0.mono fun p hp => List.mem_append_left _ (sB p hp)) .nil), ⟨kv, List.mem_append_left _ (List.mem_append_left _ (.head _))⟩, ⟨ns1 ++ [(t, w, vals.drop h)], ns', ?_, R', by rw [← eT]; simp⟩, ?_, S.haW, S.immW, ?_, ?_, ?_, ?_⟩
    · exact (hI.mono hP fun p hp => List.mem_append_right _ hp).app (.cons (hP _ _ _ _ sB hit) .nil)
    · exact newer_app (newer_cons ⟨lt1.2.1, allLt_sub lt1.2.2 fun p hp => List.mem_append_right _ hp⟩ (fm_cons (fun p hp => q2 (ha, oo) (.tail _ (.tail _ (.head _))) p hp) fun q hq => q2 q (.tail _ (.tail _ (.tail _ (List.mem_append_right _ hq)))))) S.newer
    · exact fm_app (fm_cons (Nat.ne_of_gt lt1.1) fun p hp => Nat.ne_of_gt (q2 _ (.tail _ (.head _)) p hp)) S.tlW
    · have := S.szT; simp only [List.length_cons] at this; omega
    · have := S.szV
      have h1 := List.length_take_le hh vs
      have h2 : (vs.take hh).length ≤ vs.length := by rw [List.length_take]; omega
      simp only [List.length_append, List.length_singleton]; omega
    · have := S.szI; simp only [List.length_append, List.length_singleton]; omega
end
section
variable {prog : Program} {w : World} {A : Around} {E : Value → Shared → Prop} {s : Shared} {env : Env} {h₀ : Heap} {L : Addr} {test : PySem.Expr} {body : List Stmt} {pos : Pos} {Q : Flow → Shared → Prop} {m : Str → Option Value} {led : Led}
theorem while_skip (F : Fr h₀ L s.heap m) (N : News h₀ L s.heap led)
    (turn : ∀ h tk, Fr h₀ L h m → News h₀ L h led → wpAny (model prog w) A (isTrue test env (eval test env)) (fun b s₂ => if b = true then False else Q .next s₂) E { s with heap := h, toks := tk })
    (hE : PassesOwn (model prog w) A env E) : wpAny (model prog w) A (exec (.While test body [] pos) env) Q E s := by
  refine While_inv2 (fun _ m₁ news₁ => m₁ = m ∧ news₁ = led) (n₀ := 0) F N ⟨rfl, rfl⟩ ?_ hE
  rintro n m₁ news₁ h₁ tk₁ F₁ N₁ ⟨rfl, rfl⟩
  refine wpAny_mono (turn h₁ tk₁ F₁ N₁) (fun b s₂ hb => ?_) fun _ _ e => e
  cases b with
  | true => exact hb.elim
  | false => exact hb
noncomputable def UJ (W : Addr) (immX : Led) (ents : List Ent) (tops : List Value) (g : Obj → Led) (m : Str → Option Value) (n : Nat) (m₁ : Str → Option Value) (news₁ : Led) : Prop :=
  m₁ = m ∧ ∃ tops2 ents2 e2, news₁ = g (listOf tops2.reverse.toArray e2) ∧ EntsIn immX tops2 ents2 ∧ unwind ents2 = unwind ents ∧ tops2.length = n ∧ tops2.length ≤ tops.length
theorem while_unw {res : Res} {P : ItemR} {ha V : Addr} {its vs its' topsX : List Value} {e n : Nat} {imm tl : Led} {nsT : List Note} {oT : Out Str} {entsX : List Ent} {vals : List (Option Str)} {W : Addr} {immX : Led} {ents : List Ent} {tops : List Value} {g : Obj → Led} {e1 : Nat} (_S : WSt res P ha its e imm W V nsT oT n entsX topsX vs vals its' tl) (F : Fr h₀ L s.heap m) (N : News h₀ L s.heap led) (U : UpdF W (listOf tops.reverse.toArray e1) led g) (hE' : EntsIn immX tops ents)
    (turn : ∀ n tops2 ents2 e2 h tk, EntsIn immX tops2 ents2 → unwind ents2 = unwind ents → tops2.length = n → tops2.length ≤ tops.length → Fr h₀ L h m → News h₀ L h (g (listOf tops2.reverse.toArray e2)) →
      wpAny (model prog w) A (isTrue test env (eval test env)) (fun b s₂ => if b = true then wpAny (model prog w) A (execs body env) (WhileStep2 h₀ L s (UJ W immX ents tops g m) Q n) E s₂ else Q .next s₂) E { s with heap := h, toks := tk })
    (hE : PassesOwn (model prog w) A env E) : wpAny (model prog w) A (exec (.While test body [] pos) env) Q E s := by
  have e0 : led = g (listOf tops.reverse.toArray e1) := by
    obtain ⟨pre, post, rfl, hg, _, _⟩ := U.split
    rw [hg]
  refine While_inv2 (UJ W immX ents tops g m) (n₀ := tops.length) F N ⟨rfl, tops, ents, e1, e0, hE', rfl, rfl, Nat.le_refl _⟩ ?_ hE
  rintro n m₁ news₁ h₁ tk₁ F₁ N₁ ⟨rfl, tops2, ents2, e2, rfl, k1, k2, k3, k4⟩
  exact turn n tops2 ents2 e2 h₁ tk₁ k1 k2 k3 k4 F₁ N₁
theorem unw_next {W : Addr} {immX : Led} {ents ents2 : List Ent} {tops tops2 : List Value} {g : Obj → Led} {e2 n : Nat} {v : Value} {en : Ent} {led' : Led} {h' : Heap} {tk' : Nat} (hE2 : EntsIn immX tops2 ents2) (hu : unwind (en :: ents2) = unwind ents) (hp : unwind (en :: ents2) = unwind ents2) (hl : (v :: tops2).length = n) (hl2 : (v :: tops2).length ≤ tops.length)
    (F : Fr h₀ L h' m) (N : News h₀ L h' led') (el : led' = g (listOf tops2.reverse.toArray e2)) : WhileStep2 h₀ L s (UJ W immX ents tops g m) Q n .next { s with heap := h', toks := tk' } := by
  subst el
  rw [List.length_cons] at hl hl2
  exact ⟨h', tk', m, _, tops2.length, rfl, F, N, by omega, rfl, tops2, ents2, e2, rfl, hE2, hp ▸ hu, rfl, by omega⟩
end
theorem unwind_fin {t : Tr} {w : Bool} {h : Nat} {r : List Ent} (hn : t.isNeg = false) : unwind (.fin t w h :: r) = unwind r := by simp only [unwind, hn, Bool.false_eq_true, if_false]
theorem goes_neg {t : Tr} {w : Bool} {h h2 : Nat} {r ents : List Ent} (hn : t.isNeg = true) (hu : unwind (.fin t w h2 :: r) = unwind ents) : GoesTo none ents h (.fin t w h2 :: r) h2 := by
  have e : unwind (.fin t w h2 :: r) = .fin t w h2 :: r := by simp only [unwind, hn, if_true]
  rw [e] at hu
  exact .inr ⟨rfl, hu, by rw [← hu]; rfl⟩
theorem perm1 {x y : Addr × Obj} {tl imm : Led} : ∀ p ∈ tl ++ y :: imm, p ∈ x :: y :: (tl ++ imm) := by
  intro p hp
  simp only [List.mem_append, List.mem_cons] at hp ⊢
  grind
section
variable {t : Tr} {w : Bool} {a : Addr} {op : Str} {x : Tr}
theorem bad_nm (h : NmT t) : Mine.bad t w = false := by simp [Mine.bad, h.h]
theorem bad_w (h : NmF t) (hw : w = true) : Mine.bad t w = true := by simp [Mine.bad, h.h, hw]
theorem bad_k (h : NmF (.un a op x)) (hk : (op == Str.ofString "&") = true) : Mine.bad (.un a op x) w = true := by simp [Mine.bad, h.h, Tr.isKey, hk]
theorem ok_k (hw : w = false) (hk : (op == Str.ofString "&") = false) : Mine.bad (.un a op x) w = false := by simp [Mine.bad, Tr.isKey, hk, hw]
theorem ok_w (hw : w = false) (hk : t.isKey = false) : Mine.bad t w = false := by simp [Mine.bad, hk, hw]
end
section
variable {M : Model} {A : Around} {E : Value → Shared → Prop} {s : Shared} {env : Env} {pos : Pos} {Q : Value → Shared → Prop} {q : Addr}
/-- a call of a function of the ledger; nothing stands ahead of the arguments -/
theorem callWith_F1 {e : PySem.Expr} {rest : List PySem.Expr} (X : FnAt q s.heap) (h : wpAny M A (spliced (backTo pos (starEach (e :: rest) env))) (fun vs s₁ => FnAt q s₁.heap ∧ wpAny M A (call (.ref q) vs) Q E s₁) E s)
    (he : starEach (e :: rest) env = (false, eval e env) :: starEach rest env := by rfl) (hplain : (backTo pos (starEach rest env)).any (·.1) = false := by rfl) :
    wpAny M A (callWith pos (.ref q) [] (backTo pos (starEach (e :: rest) env)) []) Q E s := callWith_F X h he hplain
end
end P_WL

section P_NG
open PySem PySem.W PyProof.Rows PySem.Calls PySem.Spec
set_option maxRecDepth 100000
set_option maxHeartbeats 8000000
theorem isneg_spec {w : World} {p : Program} {loose : List Str} {mean : ExcName → Option Value} {mg mb : Str → Option Value} {dp un : Nat} {gd : Option (List Code)} {cn : Str} {cs : Scope} {a : Addr} {ccd : Value} {cl : List (Str × Addr)} {outer : List Env} {A₀ : Around} {base h₀ : Heap} {L : Addr} {m : Str → Option Value} {news led0 : Led} {s : Shared}
    {Q E : Value → Shared → Prop} {t : Tr} {ta : Addr}
    (B : Below A₀ base outer h₀) (F : Fr h₀ L s.heap m) (X : (hd.heap_1 w.params).In h₀) (N : News h₀ L s.heap news) (T : Top p loose mean mg mb h₀) (hk : cs.kind = .function)
    (hd1 : dp + 10 < recursionLimit) (hu1 : un + 40 < cLine) (hf : Foc led0 t) (sub : ∀ p ∈ led0, p ∈ news) (e : t.ad = ta) (hret : ∀ h' tk', Fr h₀ L h' m → News h₀ L h' news → Q (.bool t.isNeg) { s with heap := h', toks := tk' }) :
    wpAny (model PySem.Challenge.rw_pf0366_01.row.prog w) (ktrTop dp un gd cn cs L a ccd cl outer) (call (.ref 77) [.ref ta]) Q E s := by
  obtain ⟨v, hv, ok⟩ := (hf.h.mono sub).tv
  rw [← e, ← hv.val]
  clear hf sub e hu1
  revert X; k_fill; intro X
  refine enter B F X N T hk (by k_is) (by k_is) (by omega) rfl (locs rfl) ⟨rfl, rfl, rfl⟩ (by decide) 40 [(Str.ofString "tree", v)] (fun v led' => v = .v (.bool t.isNeg) ∧ led' = news) rfl (fun _ => VarsOk.nil.set rfl rfl ok) (fun c _ _ => ?_) ?_
  · clear hret ok
    cases hv <;> exact ⟨rfl, rfl⟩
  · rintro v led' h' tk' ⟨rfl, rfl⟩ F' N'
    exact hret _ _ F' N'
end P_NG

section P_WK
open PySem PySem.W PyProof.Rows PySem.Calls PySem.Spec
set_option maxRecDepth 100000
set_option maxHeartbeats 8000000

theorem kw_WK_0 : True := by
  k_with_none
  k_with "k_ne" => first | exact nem1 (by with_reducible assumption) (by tb_rel) | exact nem2 (by with_reducible assumption) (by tb_rel)
  trivial
structure NoKey (t : Tr) : Prop where
  h : t.isKey = false
theorem kind_nokey {t : Tr} (h : t.kind ≠ Str.ofString "unary") : t.isKey = false := by
  cases t <;> first | rfl | exact absurd rfl h

theorem parts_use {w : World} {p : Program} {loose : List Str} {mean : ExcName → Option Value} {mg mb : Str → Option Value} {dp un : Nat} {gd : Option (List Code)} {cn : Str} {cs : Scope} {a : Addr} {ccd : Value} {cl : List (Str × Addr)} {outer : List Env} {A₀ : Around} {base h₀ : Heap} {L : Addr} {m : Str → Option Value} {led led0 : List (Addr × Obj)} {s : Shared}
    {Q E : Value → Shared → Prop} {ta : Addr} {t : Tr}
    (B : Below A₀ base outer h₀) (F : Fr h₀ L s.heap m) (X : (hd.heap_1 w.params).In h₀) (N : News h₀ L s.heap led) (T : Top p loose mean mg mb h₀) (hk : cs.kind = .function) (hd1 : dp + 10 < recursionLimit) (hu1 : un + 40 < cLine)
    (hf : Foc led0 t) (sub : ∀ p ∈ led0, p ∈ led) (e : t.ad = ta)
    (hret : ∀ D n tl vs h' tk', Fr h₀ L h' m → News h₀ L h' ((D, listOf vs.toArray n) :: (tl ++ led)) → (∀ p ∈ led, p.1 ≠ D) → Newer led tl → PairsIn tl vs t.parts → Q (.ref D) { s with heap := h', toks := tk' }) :
    wpAny (model PySem.Challenge.rw_pf0366_01.row.prog w) (ktrTop dp un gd cn cs L a ccd cl outer) (call (.ref 70) [.ref ta]) Q E s := by
  subst e
  exact parts_spec B F X N T hk hd1 hu1 (hf.h.mono sub) hret
section
theorem kw_WK_1 : True := by
  k_with "subscriptTail Name Constant ref int" => first | ((
    k_here
    k_dflt (first
      | ((with_reducible show wpAny _ _ (subscriptTail _ _ (Value.ref _) (Value.int 0 _)) _ _ _); refine' tup_at0 ?N ?m ?_; (case N => k_asm); (case m => tb_rel))
      | ((with_reducible show wpAny _ _ (subscriptTail _ _ (Value.ref _) (Value.int 1 _)) _ _ _); refine' tup_at1 ?N ?m ?_; (case N => k_asm); (case m => tb_rel))
      | ((with_reducible show wpAny _ _ (subscriptTail _ _ (Value.ref _) (Value.int 2 _)) _ _ _); refine' tup_at2 ?N ?m ?_; (case N => k_asm); (case m => tb_rel))
      | ((with_reducible show wpAny _ _ (subscriptTail _ _ (Value.ref _) (Value.int 3 _)) _ _ _); refine' tup_at3 ?N ?m ?_; (case N => k_asm); (case m => tb_rel)))))
  trivial
local macro_rules | `(tactic| ktr_enter) => `(tactic| (
    refine' code_def ?k1 ?k2 ?k3 ?k4 ?k5 ?kA ?kF ?kK ?k6 ?k7 ?k8 ?k9 ?kB ?_ ?c2 ?c3 ?c4 ?c5
    (case kA => exact rfl)
    (case kF => exact rfl)
    (case kK => first | exact rfl | assumption)
    (case k1 => k_asm)
    (case k2 => k_asm)
    (case k3 => k_asm)
    (case k4 => k_asm)
    (case k5 => k_asm)
    (case k6 => k_is)
    (case k7 => k_is)
    (case k8 => ktr_room)
    (case k9 => exact BindsTo.of_eq rfl)
    (case c5 => decide)
    (case kB => exact locs rfl)
    (case c2 => exact rfl)
    (case c3 => exact rfl)
    (case c4 => exact rfl)
    k_whole
    intro g' L' h' FG' F' N' B' X' T'
    (try dsimp only)
    (try k_fold)))
theorem kw_WK_2 : True := by
  k_with "execs cons If" => first | ((k_here; (with_reducible show wpAny _ _ (execs (Stmt.If (PySem.Expr.BoolOp PySem.BoolOp.Or _ _) _ _ _ :: _) _) _ _ _); refine Stop.out ?_))
  trivial
theorem kw_WK_3 : True := by
  k_with "exec While Compare cons nil" => first | ((k_here; (refine Stop.out ?_)))
  trivial
theorem kw_WK_4 : True := by
  k_with "exec While BoolOp cons nil" => first | ((k_here; (refine Stop.out ?_)))
  trivial
theorem kw_WK_5 : True := by
  k_with "call builtin:len" => first | ((k_here; k_dflt (first
  | (refine' len_snoc ?N ?m ?z ?_; (case N => k_asm); (case m => tb_rel); (case z => with_reducible assumption); intro t' tk')
  | (refine' len_any ?N ?m ?z ?_; (case N => k_asm); (case m => tb_rel); (case z => with_reducible assumption); intro t' tk'))))
  trivial
theorem kw_WK_6 : True := by
  k_with "call builtin:list.pop" => first | ((
    k_here
    k_dflt (refine' pop_lst ?F ?N ?U ?z ?_; (case F => k_asm); (case N => k_asm); (case U => k_updF); (case z => with_reducible assumption))
    intro h' F' N'
    (try dsimp only at N')
    (try k_sweep)))
  trivial
theorem kw_WK_7 : True := by
  k_with "call builtin:list.append" => first | ((
    k_here
    k_dflt (refine' app_lst ?F ?N ?U ?z ?_; (case F => k_asm); (case N => k_asm); (case U => k_updF); (case z => with_reducible assumption))
    intro h' F' N'
    (try dsimp only at N')
    (try k_sweep)))
  trivial
theorem kw_WK_8 : True := by
  k_with "call builtin:list.extend" => first | ((
    k_here
    k_dflt (refine' ext_lst ?F ?N ?U ?b ?z ?z2 ?_; (case F => k_asm); (case N => k_asm); (case b => exact mem_hd); (case U => k_updF); (case z => (simp only [List.length_append, List.length_singleton]; omega)); (case z2 => (rw [NewPairs.length (by with_reducible assumption), List.length_reverse]; exact Nat.le_trans (Tr.parts_len _) (by decide))))
    intro h' n' F' N'
    (try dsimp only at N')
    (try k_sweep)))
  trivial
theorem kw_WK_9 : True := by
  k_with "subscriptTail Name UnaryOp ref int" => first | ((k_here; k_dflt (refine' item_snoc ?N ?m ?_; (case N => k_asm); (case m => tb_rel))))
  trivial
theorem kw_WK_10 : True := by
  k_with "callWith ref" => first | ((k_here; k_dflt (refine' callWith_F1 ?k1 ?_; (case k1 => exact FnAt.of (by k_asm) (by tb_rel)))))
  trivial
theorem kw_WK_11 : True := by
  k_with "FnAt" => first | ((k_dflt (exact FnAt.of (by k_asm) (by tb_rel))))
  trivial
theorem kw_WK_12 : True := by
  k_with "SrcLP" => first | ((
    k_here
    k_dflt (refine' src_exps ?h ?F ?N ?m ?P ?z (fun g' => EltOK.of (fun v1' v2' I' oI' C' oC' D' oD' m' h' tk' nw' K' E' hC' hx' hy' F' N' hK' => ?_)) (fun D' ys' tlc' h' tk' F' N' o1' nw' hP' => ?_); (case h => exact rfl); (case F => k_asm); (case N => k_asm); (case m => tb_rel); (case P => exact (PairsIn.reverse (by with_reducible assumption)).mono (by intro p9 hp9; tb_rel)); (case z => (rw [List.length_reverse, PairsIn.length (by with_reducible assumption)]; exact Nat.le_trans (Tr.parts_len _) (by decide))))
    all_goals (try dsimp only)
    all_goals (try (have of9 := o1'; simp only [off1_app, LCg.Off1, and_true] at of9))
    all_goals (try k_sweep)))
  trivial
theorem kw_WK_13 : True := by
  k_with "subscriptTail Name Slice ref ref" => first | ((
    k_here
    k_dflt (first
      | ((with_reducible show wpAny _ _ (subscriptTail _ (PySem.Expr.Slice none none (some _) _) (Value.ref _) (Value.ref _)) _ _ _); refine' rev_lst ?F ?N ?m ?z ?_ ?hs ?ht; (case hs => with_unfolding_all rfl); (case ht => (intro _; with_unfolding_all rfl)); (case F => k_asm); (case N => k_asm); (case m => tb_rel); (case z => first | with_reducible assumption | (rw [PairsIn.length (by with_reducible assumption)]; exact Nat.le_trans (Tr.parts_len _) (by decide))))
      | ((with_reducible show wpAny _ _ (subscriptTail _ (PySem.Expr.Slice (some _) none none _) (Value.ref _) (Value.ref _)) _ _ _); refine' slice_from ?F ?N ?m ?k ?z ?_; (case F => k_asm); (case N => k_asm); (case m => tb_rel); (case k => with_reducible assumption); (case z => with_reducible assumption))
      | ((with_reducible show wpAny _ _ (subscriptTail _ (PySem.Expr.Slice none (some _) none _) (Value.ref _) (Value.ref _)) _ _ _); refine' slice_to ?F ?N ?m ?z ?_; (case F => k_asm); (case N => k_asm); (case m => tb_rel); (case z => with_reducible assumption)))
    intro D' h' F' N' l1
    (k_lt l1)
    (try k_sweep)))
  trivial
theorem kw_WK_14 : True := by
  k_with "call ref" => first | ((
    k_here
    (with_reducible show wpAny _ _ (call (Value.ref 65) [Value.ref _]) _ _ _)
    k_dflt (refine' nn_call ?C ?B ?F ?X ?N ?T ?hk ?hd ?hu ?f ?sub ?e (fun hn' h' tk' F' N' => ?_) (fun hn' x' g' h' tk' F' U' R' => ?_); (case C => with_reducible assumption); (case B => k_asm); (case F => k_asm); (case X => k_asm); (case N => k_asm); (case T => k_asm); (case hk => first | exact rfl | assumption); (case hd => ktr_room); (case hu => ktr_units); (case f => with_reducible assumption); (case e => exact rfl); (case sub => (intro p9 hp9; tb_rel)))
    all_goals (try k_sweep)))
  trivial
theorem kw_WK_15 : True := by
  k_with "call ref" => first | ((
    k_here
    (with_reducible show wpAny _ _ (call (Value.ref 70) [Value.ref _]) _ _ _)
    k_dflt (refine' parts_use ?B ?F ?X ?N ?T ?hk ?hd ?hu ?f ?sub ?e ?_; (case B => k_asm); (case F => k_asm); (case X => k_asm); (case N => k_asm); (case T => k_asm); (case hk => first | exact rfl | assumption); (case hd => ktr_room); (case hu => ktr_units); (case f => with_reducible assumption); (case e => exact rfl); (case sub => (intro p9 hp9; tb_rel)))
    intro D' n' tl' vs' h' tk' F' N' hap' nw' hP'
    (have of9 := off1_of hap'); (try simp only [off1_app, LCg.Off1, and_true] at of9)
    (try k_sweep)))
  trivial
theorem kw_WK_16 : True := by
  k_with "call ref" => first | ((
    k_here
    (with_reducible show wpAny _ _ (call (Value.ref 77) [Value.ref _]) _ _ _)
    k_dflt (refine' isneg_spec ?B ?F ?X ?N ?T ?hk ?hd ?hu ?f ?sub ?e ?_; (case B => k_asm); (case F => k_asm); (case X => k_asm); (case N => k_asm); (case T => k_asm); (case hk => first | exact rfl | assumption); (case hd => ktr_room); (case hu => ktr_units); (case f => with_reducible assumption); (case e => exact rfl); (case sub => (intro p9 hp9; tb_rel)))
    intro h' tk' F' N'
    (try k_sweep)))
  trivial
theorem kw_WK_17 : True := by
  k_with "call ref" => first | ((
    k_here
    (with_reducible show wpAny _ _ (call (Value.ref _) [Value.ref _, Value.bool _, Value.ref _]) _ _ _)
    k_dflt (refine' cb_call ?C ?B ?F ?X ?N ?T ?hk ?hd ?hu ?U ?f ?s0 ?sA ?ap ?e ?lv ?lv2 ?vs ?hl ?hz (fun x' tl' it' e' h' tk' k' hR' F' N' nw' hI' => ?_) (fun x' d' tl' it' e' h' tk' hR' hx' hd' F' N' nw' hI' => ?_); (case C => with_reducible assumption); (case B => k_asm); (case F => k_asm); (case X => k_asm); (case N => k_asm); (case T => k_asm); (case hk => first | exact rfl | assumption); (case hd => ktr_room); (case hu => ktr_units); (case U => k_updF); (case f => with_reducible assumption); (case s0 => with_reducible assumption); (case sA => (intro p9 hp9; tb_rel)); (case ap => with_reducible assumption); (case e => exact rfl); (case vs => with_reducible assumption); (case lv => tb_rel); (case lv2 => first | k_ne | omega); (case hl => with_reducible assumption); (case hz => with_reducible assumption))
    all_goals (try dsimp only at N')
    all_goals (try k_sweep)))
  trivial
theorem kw_WK_18 : True := by
  k_with "call ref" => first | ((k_here; (with_reducible show wpAny _ _ (call (Value.ref 58) [_]) _ _ _); k_dflt (refine wpAny_call ?_; ktr_enter)))
  trivial
theorem kw_WK_19 : True := by
  k_with "binaryOp Add ref ref" => first | ((
    k_here
    k_dflt (refine' add_lst ?F ?N ?m ?b ?z ?z2 ?_; (case F => k_asm); (case N => k_asm); (case m => tb_rel); (case b => tb_rel); (case z => (rw [List.length_take]; omega)); (case z2 => exact Nat.le_of_ble_eq_true rfl))
    intro D' h' F' N' l1
    k_lt l1
    (try k_sweep)))
  trivial
theorem kw_WK_20 : True := by
  k_with "leaving ref" => first | ((k_here; (with_reducible rename RaisedD _ _ _ _ _ => rX9); k_dflt (refine' leave_onD ?K ?F rX9 ?U ?_; (case K => with_reducible assumption); (case U => with_reducible assumption); (case F => with_reducible assumption)); intro h' R' U'))
  trivial

theorem kw_WK_21 : True := by
  k_with "isTrue Compare" => first | ((k_here; k_dflt (first
  | (refine' test_eq (b := true) ?F ?N ?v ?m ?i ?b ?_; (case F => k_asm); (case N => k_asm); (case v => exact rfl); (case m => tb_rel); (case i => exact rfl); (case b => first | exact NeS.h (by with_reducible assumption) | exact NeS.ne (by with_reducible assumption) | (with_unfolding_all exact rfl)))
  | (refine' test_eq (b := false) ?F ?N ?v ?m ?i ?b ?_; (case F => k_asm); (case N => k_asm); (case v => exact rfl); (case m => tb_rel); (case i => exact rfl); (case b => first | exact NeS.h (by with_reducible assumption) | exact NeS.ne (by with_reducible assumption) | (with_unfolding_all exact rfl)))
  | (refine' test_ne (b := true) ?F ?N ?v ?m ?i ?b ?_; (case F => k_asm); (case N => k_asm); (case v => exact rfl); (case m => tb_rel); (case i => exact rfl); (case b => first | exact NeS.h (by with_reducible assumption) | exact NeS.ne (by with_reducible assumption) | (with_unfolding_all exact rfl)))
  | (refine' test_ne (b := false) ?F ?N ?v ?m ?i ?b ?_; (case F => k_asm); (case N => k_asm); (case v => exact rfl); (case m => tb_rel); (case i => exact rfl); (case b => first | exact NeS.h (by with_reducible assumption) | exact NeS.ne (by with_reducible assumption) | (with_unfolding_all exact rfl)))); intro tk'; (try dsimp only)))
  trivial
theorem kw_WK_22 : True := by
  k_with "eval Compare" => first | ((k_here; k_dflt (first
  | (refine' val_eq (b := true) ?F ?N ?v ?m ?i ?b ?_; (case F => k_asm); (case N => k_asm); (case v => exact rfl); (case m => tb_rel); (case i => exact rfl); (case b => first | exact NeS.h (by with_reducible assumption) | exact NeS.ne (by with_reducible assumption) | (with_unfolding_all exact rfl)))
  | (refine' val_eq (b := false) ?F ?N ?v ?m ?i ?b ?_; (case F => k_asm); (case N => k_asm); (case v => exact rfl); (case m => tb_rel); (case i => exact rfl); (case b => first | exact NeS.h (by with_reducible assumption) | exact NeS.ne (by with_reducible assumption) | (with_unfolding_all exact rfl)))
  | (refine' val_ne (b := true) ?F ?N ?v ?m ?i ?b ?_; (case F => k_asm); (case N => k_asm); (case v => exact rfl); (case m => tb_rel); (case i => exact rfl); (case b => first | exact NeS.h (by with_reducible assumption) | exact NeS.ne (by with_reducible assumption) | (with_unfolding_all exact rfl)))
  | (refine' val_ne (b := false) ?F ?N ?v ?m ?i ?b ?_; (case F => k_asm); (case N => k_asm); (case v => exact rfl); (case m => tb_rel); (case i => exact rfl); (case b => first | exact NeS.h (by with_reducible assumption) | exact NeS.ne (by with_reducible assumption) | (with_unfolding_all exact rfl)))); intro tk'; (try dsimp only)))
  trivial
theorem kw_WK_23 : True := by
  k_with "eval Subscript" => first | ((k_here; k_dflt (refine' sub_tup ?F ?N ?v ?m ?i ?_; (case F => k_asm); (case N => k_asm); (case v => exact rfl); (case m => tb_rel); (case i => exact rfl)); intro tk'; (try dsimp only)))
  trivial
theorem worked_spec {w : World} {p : Program} {loose : List Str} {mean : ExcName → Option Value} {mg mb : Str → Option Value} {dp un : Nat} {gd : Option (List Code)} {cn : Str} {cs : Scope} {a : Addr} {ccd : Value} {cl : List (Str × Addr)} {outer : List Env} {A₀ : Around} {base h₀ : Heap} {L : Addr} {m : Str → Option Value} {s : Shared}
    {Q E : Value → Shared → Prop} {res : Res} {P : ItemR} {fa : Addr} {oc : Value} {od : Option Addr} {fd : FuncData} {sl : Array (Option Value)} {ha : Addr} {imm imm0 : Led} {its : List Value} {e : Nat} {t : Tr} {wb : Bool} {n₀ : Nat} {ns : List Note} {out : Out Str}
    (hcb : CbOK w p loose mean mg mb res P (.ref fa) ha imm0) (hfn : (fa, (⟨oc, od, .func fd, sl⟩ : Obj)) ∈ imm) (hnn : NnOK w p loose mean mg mb) (hP : P.Mono)
    (B : Below A₀ base outer h₀) (F : Fr h₀ L s.heap m) (X : (hd.heap_1 w.params).In h₀) (N : News h₀ L s.heap ((ha, listOf its.toArray e) :: imm)) (T : Top p loose mean mg mb h₀) (hk : cs.kind = .function)
    (hd1 : dp + 60 < recursionLimit) (hu1 : un + 200 < cLine) (hsub0 : ∀ p ∈ imm0, p ∈ imm) (hT : TIn imm t) (hR : Runs res n₀ [.exp t wb] [] ns out) (hn0 : n₀ ≤ 4000) (hz : its.length ≤ 1000) (hap : Apart ha imm)
    (hret : ∀ o, out = some o → ∀ v tl its' e' h' tk', VF (tl ++ imm) v o → Fr h₀ L h' m → News h₀ L h' (tl ++ (ha, listOf (its ++ its').toArray e') :: imm) → Newer ((ha, listOf its.toArray e) :: imm) tl → ItemsIn P tl its' ns → Q v { s with heap := h', toks := tk' })
    (herr : out = none → ∀ x tl its' e' g h' tk', Fr h₀ L g m → g.UpToSlots h' → RaisedD base (envX cn cs L a ccd cl :: outer) x (tl ++ (ha, listOf (its ++ its').toArray e') :: imm) h' → Newer ((ha, listOf its.toArray e) :: imm) tl → ItemsIn P tl its' ns → E (.ref x) { s with heap := h', toks := tk' }) :
    wpAny (model PySem.Challenge.rw_pf0366_01.row.prog w) (ktrTop dp un gd cn cs L a ccd cl outer) (call (.ref 82) [t.val, .bool wb, .ref fa]) Q E s := by
  revert X; k_fill; intro X
  dsimp only [Tr.val]
  refine wpAny_call ?_
  k_dflt ktr_enter
  k_steps
  refine Stop.mk ?_
  k_dflt (refine' worked_loop (t := t) (wb := wb) (its := its) (e := e) ?F ?N ?em ?hW ?ha ?hV ?hD ?sub hT hap ?hn ?haW ?hDW ?hVW hR hn0 hz hP ?turn ?hE)
  case F => k_asm
  case N => k_asm
  case em => k_dflt exact OffFive.bind (fun _ _ _ _ _ _ => rfl)
  case hW => tb_rel
  case ha => tb_rel
  case hV => tb_rel
  case hD => tb_rel
  case sub => (intro p9 hp9; tb_rel)
  case hn => tb_start
  case haW => exact allLt_sub (by with_reducible assumption) (by (intro p9 hp9; tb_rel))
  case hDW => first | k_ne | omega
  case hVW => first | k_ne | omega
  case hE => passes_own
  case turn =>
    intro n V ents tops vs vals its2 tl e1 e2 h tk u1 u2 u3 u4 S F N
    k_sweep
    have hIV : @LT.lt Nat _ ha _ := S.haW
    have hVi := S.immW
    have hVt := S.tlW
    have hnw := S.newer
    obtain ⟨kV, hV⟩ := S.hV
    have hszV : vs.length ≤ 1000000 := by have := S.szV; omega
    have hszT : tops.length ≤ 1000000 := by have := S.szT; omega
    have hen := S.hents
    cases hen with
    | nil =>
      rw [List.reverse_nil] at N
      obtain ⟨oL, vL, xL, kL, hoL, hIL, eL, hxL, hVL⟩ := S.lastEnd
      k_steps
      all_goals (refine' hret _ hoL _ tl its2 _ _ _ hxL ?hF ?hN hnw hIL; (case hF => k_asm); (case hN => exact news_drop (by k_asm) perm1))
    | @cons v en tops ents h1 h2 =>
      rw [List.reverse_cons] at N
      have hszT2 : tops.reverse.length ≤ 20000 := by have := S.szT; rw [List.length_reverse]; rw [List.length_cons] at this; omega
      have hszT' : tops.reverse.length ≤ 1000000 := by rw [List.length_reverse]; rw [List.length_cons] at hszT; omega
      cases h1 with
      | @exp ea en2 et ew ek hm hTe =>
        have hF : Foc (tl ++ imm) et := ⟨hTe⟩
        k_steps
        refine Stop.mk ?_
        k_dflt (refine' wk_cut (Mine.bad et ew = false) ?F ?N ?h1 ?h2; (case F => k_asm); (case N => k_asm))
        case h2 =>
          intro h' tk' hC F' N'
          k_sweep
          k_steps
          all_goals (first
            | (rename (∀ (_ : Addr) (_ : Tok) (_ : Heap) (_ : Nat), Fr _ _ _ _ → _ → _ → _) => hK9; exact hK9 _ _ _ _ (by k_asm) (by k_asm) (by with_reducible assumption))
            | (refine' exp_close2 hP S hC hF ?F ?N ?hm ?hv ?hys ?q1 ?q2 ?q3 ?hW ?hA ?s1 ?s2 ?s3 ?s4; (case F => k_asm); (case N => k_asm); (case hm => first | ((repeat refine OffFive.set (by decide +kernel) ?_); exact OffFive.base) | (intro z9 z1 z2 z3 z4 z5; simp only [z1, z2, z3, z4, z5, if_false, bind5])); (case hv => k_dflt exact rfl); (case hys => with_reducible assumption); (case q2 => with_reducible assumption); (case q3 => with_reducible assumption); (case q1 => with_reducible assumption); (case hW => tb_rel); (case hA => tb_rel); (case s1 => (intro p9 hp9; tb_rel)); (case s2 => (intro p9 hp9; tb_rel)); (case s3 => tb_rel); (case s4 => (intro p9 hp9; tb_rel))))
        k_fold
        by_cases hku : et.kind = Str.ofString "unary"
        · obtain ⟨ua, uop, ux, rfl⟩ : ∃ a op x, et = .un a op x := by
            cases et <;> first | exact ⟨_, _, _, rfl⟩ | (simp only [Tr.kind] at hku; exact absurd hku (by decide))
          cases hTe with
          | @un _ _ _ un2 uk1 uk2 uhm uhx uh1 =>
            clear hku uhx uh1
            (with_reducible rename Fr _ _ _ _ => kF9)
            dsimp only [Tr.ad] at kF9
            by_cases hop : uop = Str.ofString "&"
            · subst hop
              k_steps
              all_goals (first
            | (refine' CutQ.intro ?hC ?F ?N ?sub; (case hC => (first | exact bad_nm (by with_reducible assumption) | exact ok_w (by with_reducible assumption) (NoKey.h (by with_reducible assumption)))); (case F => k_asm); (case N => k_asm); (case sub => (intro p9 hp9; tb_rel)))
            | (have hB9 := S.badEnd (by (first | exact bad_w (by with_reducible assumption) (by with_reducible assumption) | exact bad_k (by with_reducible assumption) (by decide))); refine' herr hB9.1 _ tl its2 _ _ _ _ ?FG ?U ?R hnw hB9.2; (case R => exact RaisedD.sub (by with_reducible assumption) perm1); (case U => with_reducible assumption); (case FG => with_reducible assumption)))
            · have hb1 : NeS uop (Str.ofString "&") := ⟨cps_ne hop⟩
              have hnk : NoKey (.un ua uop ux) := ⟨beq_eq_false_iff_ne.mpr hop⟩
              clear hop
              k_steps
              all_goals (first
            | (refine' CutQ.intro ?hC ?F ?N ?sub; (case hC => (first | exact bad_nm (by with_reducible assumption) | exact ok_w (by with_reducible assumption) (NoKey.h (by with_reducible assumption)))); (case F => k_asm); (case N => k_asm); (case sub => (intro p9 hp9; tb_rel)))
            | (have hB9 := S.badEnd (by (first | exact bad_w (by with_reducible assumption) (by with_reducible assumption) | exact bad_k (by with_reducible assumption) (by decide))); refine' herr hB9.1 _ tl its2 _ _ _ _ ?FG ?U ?R hnw hB9.2; (case R => exact RaisedD.sub (by with_reducible assumption) perm1); (case U => with_reducible assumption); (case FG => with_reducible assumption)))
        · obtain ⟨uk, ur, un2, uhm⟩ := hTe.head
          have hb1 : NeS et.kind (Str.ofString "unary") := ⟨cps_ne hku⟩
          have hnk : NoKey et := ⟨kind_nokey hku⟩
          generalize et.kind = ukd at uhm hb1
          clear hku hTe
          k_steps
          all_goals (first
            | (refine' CutQ.intro ?hC ?F ?N ?sub; (case hC => (first | exact bad_nm (by with_reducible assumption) | exact ok_w (by with_reducible assumption) (NoKey.h (by with_reducible assumption)))); (case F => k_asm); (case N => k_asm); (case sub => (intro p9 hp9; tb_rel)))
            | (have hB9 := S.badEnd (by (first | exact bad_w (by with_reducible assumption) (by with_reducible assumption) | exact bad_k (by with_reducible assumption) (by decide))); refine' herr hB9.1 _ tl its2 _ _ _ _ ?FG ?U ?R hnw hB9.2; (case R => exact RaisedD.sub (by with_reducible assumption) perm1); (case U => with_reducible assumption); (case FG => with_reducible assumption)))
      | @fin ea en2 et ew ek eh hm hTe =>
        have hF : Foc (tl ++ imm) et := ⟨hTe⟩
        obtain ⟨hk9, hlen9, hfv9⟩ := S.finInv
        have hsub1 : ∀ p ∈ imm0, p ∈ tl ++ imm := fun p hp => List.mem_append_right _ (hsub0 p hp)
        have hapA : Apart ha (tl ++ imm) := apart_app (apart_new hnw (.head _)) hap
        have hz2 : (its ++ its2).length ≤ 100000 := by have := S.szI; rw [List.length_append]; omega
        k_steps
        · refine Stop.mk ?_
          k_dflt (refine' while_skip ?F ?N ?turn ?hE; (case F => k_asm); (case N => k_asm); (case hE => passes_own))
          intro h9 tk9 F9 N9
          k_sweep
          k_steps
          all_goals (refine' fin_close hP S ?res (.inl ⟨_, rfl, rfl, rfl⟩) h2 (Nat.le_refl _) ⟨_, rfl⟩ ?it ?F ?N ?hm ?hv ?q1 ?q2 ?hW ?hA ?hV ?s1 ?s4; (case F => k_asm); (case N => k_asm); (case res => with_reducible assumption); (case it => with_reducible assumption); (case hm => first | ((repeat refine OffFive.set (by decide +kernel) ?_); exact OffFive.base) | (intro z9 z1 z2 z3 z4 z5; simp only [z1, z2, z3, z4, z5, if_false, bind5])); (case hv => k_dflt exact rfl); (case q1 => with_reducible assumption); (case q2 => with_reducible assumption); (case hA => tb_rel); (case hV => tb_rel); (case s1 => (intro p9 hp9; tb_rel)); (case s4 => (intro p9 hp9; tb_rel)); (case hW => tb_rel))
        · refine Stop.mk ?_
          clear hF
          k_dflt (refine' while_unw (ents := ents) (tops := tops) S ?F2 ?N2 ?U2 h2 ?turn2 ?hE2; (case F2 => k_asm); (case N2 => k_asm); (case U2 => k_updF); (case hE2 => passes_own))
          intro n9 tops2 ents2 e9 h9 tk9 hE9 hu9 hl9 hl10 F9 N9
          try dsimp only at N9
          k_sweep
          have hE8 := hE9
          cases hE8 with
          | nil =>
            have hgo9 : ([] : List Ent) = unwind ents ∧ eh = newH eh (unwind ents) := ⟨hu9, by rw [← hu9]; rfl⟩
            rw [List.reverse_nil] at N9
            k_steps
            all_goals (refine' fin_close hP S ?res (.inr ⟨rfl, hgo9.1, hgo9.2⟩) hE9 hl10 ⟨_, _, rfl, ?i1, ?i2⟩ ?it ?F ?N ?hm ?hv ?q1 ?q2 ?hW ?hA ?hV ?s1 ?s4; (case F => k_asm); (case N => k_asm); (case res => with_reducible assumption); (case it => with_reducible assumption); (case hm => first | ((repeat refine OffFive.set (by decide +kernel) ?_); exact OffFive.base) | (intro z9 z1 z2 z3 z4 z5; simp only [z1, z2, z3, z4, z5, if_false, bind5])); (case hv => k_dflt exact rfl); (case q1 => with_reducible assumption); (case q2 => with_reducible assumption); (case hA => tb_rel); (case hV => tb_rel); (case s1 => (intro p9 hp9; tb_rel)); (case s4 => (intro p9 hp9; tb_rel)); (case i1 => with_reducible assumption); (case i2 => with_reducible assumption); (case hW => first | tb_rel | (rw [List.reverse_nil]; tb_rel) | (rw [List.reverse_cons]; tb_rel)))
          | @cons v2 en2 tops3 ents3 g1 g2 =>
            rw [List.reverse_cons] at N9
            have hszT3 : tops3.reverse.length ≤ 1000000 := by
              have := S.szT
              rw [List.length_reverse]; rw [List.length_cons] at hl10 this; omega
            cases g1 with
            | @exp ea2 en3 et2 ew2 ek2 hm2 hTe2 =>
              k_steps
              all_goals (refine' unw_next g2 hu9 rfl hl9 hl10 ?F ?N ?el; (case F => k_asm); (case N => k_asm); (case el => exact rfl))
            | @fin ea2 en3 et2 ew2 ek2 eh2 hm2 hTe2 =>
              have hF2 : Foc (tl ++ imm) et2 := ⟨hTe2⟩
              k_steps
              all_goals (first | (refine' unw_next g2 hu9 (unwind_fin (by with_reducible assumption)) hl9 hl10 ?F ?N ?el; (case F => k_asm); (case N => k_asm); (case el => exact rfl)) | (refine' fin_close hP S ?res (goes_neg (by with_reducible assumption) hu9) hE9 hl10 ⟨_, _, rfl, ?i1, ?i2⟩ ?it ?F ?N ?hm ?hv ?q1 ?q2 ?hW ?hA ?hV ?s1 ?s4; (case F => k_asm); (case N => k_asm); (case res => with_reducible assumption); (case it => with_reducible assumption); (case hm => first | ((repeat refine OffFive.set (by decide +kernel) ?_); exact OffFive.base) | (intro z9 z1 z2 z3 z4 z5; simp only [z1, z2, z3, z4, z5, if_false, bind5])); (case hv => k_dflt exact rfl); (case q1 => with_reducible assumption); (case q2 => with_reducible assumption); (case hA => tb_rel); (case hV => tb_rel); (case s1 => (intro p9 hp9; tb_rel)); (case s4 => (intro p9 hp9; tb_rel)); (case i1 => with_reducible assumption); (case i2 => with_reducible assumption); (case hW => first | tb_rel | (rw [List.reverse_nil]; tb_rel) | (rw [List.reverse_cons]; tb_rel))))
end
end P_WK

section P_CH
open PySem PySem.W PyProof.Rows PySem.Calls PySem.Spec
set_option maxRecDepth 100000
/-- the chains that `_law_chain` builds -/
noncomputable def IsCh (f : Nat) : Nat → Tr → Prop
  | 0, .name _ x => x = Str.ofString "X"
  | k + 1, .join _ l (.null _) => f = 0 ∧ IsCh f k l
  | k + 1, .un _ op x => f = 1 ∧ op = Str.ofString "-" ∧ IsCh f k x
  | k + 1, .item1 _ h (.null _) => f = 2 ∧ IsCh f k h
  | _, _ => False
noncomputable def per : Nat → Nat
  | 1 => 1
  | _ => 2
noncomputable def resS : Res := fun _ w _ => if w = true then none else some (Str.ofString "v")
theorem due_null {n : Nat} {a : Addr} : dueG resS (n + 1) (.null a) false = ([(.null a, false, [])], some (some (Str.ofString "v"))) := rfl
theorem chh2 {a s k : Nat} (h : a ≤ k + 1 ∧ s ≤ 2 * k + 1) : max a 1 + 1 ≤ k + 1 + 1 ∧ s + 1 + 1 ≤ 2 * (k + 1) + 1 := by omega
theorem chh1 {a s k : Nat} (h : a ≤ k + 1 ∧ s ≤ 2 * k + 1) : a + 1 ≤ k + 1 + 1 ∧ s + 1 ≤ 2 * (k + 1) + 1 := by omega
theorem ch_height {f : Nat} : ∀ {k : Nat} {T : Tr}, IsCh f k T → T.height ≤ k + 1 ∧ T.size ≤ 2 * k + 1
  | 0, .name _ x, _ => ⟨Nat.le_refl _, Nat.le_refl _⟩
  | _ + 1, .join _ _ (.null _), h => chh2 (ch_height h.2)
  | _ + 1, .un _ _ _, h => chh1 (ch_height h.2.2)
  | _ + 1, .item1 _ _ (.null _), h => chh2 (ch_height h.2)
theorem ch_due {f : Nat} : ∀ {k : Nat} {T : Tr} {n : Nat}, IsCh f k T → k + 1 ≤ n → (dueG resS n T false).2 = some (some (Str.ofString "v")) ∧ (dueG resS n T false).1.length = k * per f + 1
  | 0, .name a x, n + 1, _, _ => ⟨rfl, by rw [Nat.zero_mul]; rfl⟩
  | k + 1, .join a l (.null b), n + 1, h, hn => by
    obtain ⟨rfl, h⟩ := h
    obtain ⟨n, rfl⟩ : ∃ n', n = n' + 1 := ⟨n - 1, by omega⟩
    have ih := ch_due (n := n + 1) h (by omega)
    have hb : bad (.join a l (.null b)) false = false := rfl
    have e1 : dueL (dueG resS (n + 1)) (Tr.join a l (.null b)).isNeg (Tr.join a l (.null b)).parts = ((dueG resS (n + 1) l false).1 ++ [(.null b, false, [])], some (some [some (Str.ofString "v"), some (Str.ofString "v")])) := by
      show dueL (dueG resS (n + 1)) false [(l, false), (.null b, false)] = _
      simp [dueL, ih.1, due_null]
    rw [dueG]
    simp only [hb, Bool.false_eq_true, if_false, e1]
    refine ⟨rfl, ?_⟩
    simp only [List.length_append, List.length_cons, List.length_nil, ih.2, per]
    omega
  | k + 1, .item1 a l (.null b), n + 1, h, hn => by
    obtain ⟨rfl, h⟩ := h
    obtain ⟨n, rfl⟩ : ∃ n', n = n' + 1 := ⟨n - 1, by omega⟩
    have ih := ch_due (n := n + 1) h (by omega)
    have hb : bad (.item1 a l (.null b)) false = false := rfl
    have e1 : dueL (dueG resS (n + 1)) (Tr.item1 a l (.null b)).isNeg (Tr.item1 a l (.null b)).parts = ((dueG resS (n + 1) l false).1 ++ [(.null b, false, [])], some (some [some (Str.ofString "v"), some (Str.ofString "v")])) := by
      show dueL (dueG resS (n + 1)) false [(l, false), (.null b, false)] = _
      simp [dueL, ih.1, due_null]
    rw [dueG]
    simp only [hb, Bool.false_eq_true, if_false, e1]
    refine ⟨rfl, ?_⟩
    simp only [List.length_append, List.length_cons, List.length_nil, ih.2, per]
    omega
  | k + 1, .un a op x, n + 1, h, hn => by
    obtain ⟨rfl, rfl, h⟩ := h
    have ih := ch_due (n := n) h (by omega)
    have hb : bad (.un a (Str.ofString "-") x) false = false := by
      kernel_rfl
    have e1 : dueL (dueG resS n) (Tr.un a (Str.ofString "-") x).isNeg (Tr.un a (Str.ofString "-") x).parts = ((dueG resS n x false).1, some (some [some (Str.ofString "v")])) := by
      have h1 : (Tr.un a (Str.ofString "-") x).parts = [(x, false)] := by kernel_rfl
      have h2 : (Tr.un a (Str.ofString "-") x).isNeg = false := by kernel_rfl
      rw [h1, h2]
      simp [dueL, ih.1]
    rw [dueG]
    simp only [hb, Bool.false_eq_true, if_false, e1]
    refine ⟨rfl, ?_⟩
    simp only [List.length_append, List.length_cons, List.length_nil, ih.2, per]
    omega
theorem ch_runs {f k : Nat} {T : Tr} (h : IsCh f k T) : ∃ ns, Runs resS (2 * T.size) [.exp T false] [] ns (some (some (Str.ofString "v"))) ∧ ns.length = k * per f + 1 := by
  have hd := ch_due (n := k + 1) h (Nat.le_refl _)
  refine ⟨_, ?_, hd.2⟩
  have := runs_due (res := resS) (n := k + 1) (t := T) (w := false) (ch_height h).1
  rwa [hd.1] at this
theorem cp1 {a c : Nat} (h : a ≤ c) : a + 1 ≤ 1 + 4 * c := by omega
theorem cp2 {a b c : Nat} (h : a ≤ c) (h2 : b ≤ c) : a + b + 1 ≤ 1 + 4 * c := by omega
theorem cp3 {a b d c : Nat} (h : a ≤ c) (h2 : b ≤ c) (h3 : d ≤ c) : a + b + d + 1 ≤ 1 + 4 * c := by omega
theorem cp4 {a b d e c : Nat} (h : a ≤ c) (h2 : b ≤ c) (h3 : d ≤ c) (h4 : e ≤ c) : a + b + d + e + 1 ≤ 1 + 4 * c := by omega
theorem mx1 {a b n : Nat} (h : max a b ≤ n) : a ≤ n := Nat.le_trans (Nat.le_max_left _ _) h
theorem mx2 {a b n : Nat} (h : max a b ≤ n) : b ≤ n := Nat.le_trans (Nat.le_max_right _ _) h
theorem size_cap : ∀ {n : Nat} {t : Tr}, t.height ≤ n → t.size ≤ cap n
  | 0, t, h => absurd h (by cases t <;> exact Nat.not_succ_le_zero _)
  | n + 1, t, h => by
    cases t with
    | join _ l r => exact cp2 (size_cap (mx1 (Nat.le_of_succ_le_succ h))) (size_cap (mx2 (Nat.le_of_succ_le_succ h)))
    | bin _ _ l r => exact cp2 (size_cap (mx1 (Nat.le_of_succ_le_succ h))) (size_cap (mx2 (Nat.le_of_succ_le_succ h)))
    | un _ _ x => exact cp1 (size_cap (Nat.le_of_succ_le_succ h))
    | call1 _ _ x => exact cp1 (size_cap (Nat.le_of_succ_le_succ h))
    | call2 _ _ l r => exact cp2 (size_cap (mx1 (Nat.le_of_succ_le_succ h))) (size_cap (mx2 (Nat.le_of_succ_le_succ h)))
    | item1 _ l r => exact cp2 (size_cap (mx1 (Nat.le_of_succ_le_succ h))) (size_cap (mx2 (Nat.le_of_succ_le_succ h)))
    | item2 _ l x y => exact cp3 (size_cap (mx1 (Nat.le_of_succ_le_succ h))) (size_cap (mx1 (mx2 (Nat.le_of_succ_le_succ h)))) (size_cap (mx2 (mx2 (Nat.le_of_succ_le_succ h))))
    | item3 _ l x y z => exact cp4 (size_cap (mx1 (mx1 (Nat.le_of_succ_le_succ h)))) (size_cap (mx2 (mx1 (Nat.le_of_succ_le_succ h)))) (size_cap (mx1 (mx2 (Nat.le_of_succ_le_succ h)))) (size_cap (mx2 (mx2 (Nat.le_of_succ_le_succ h))))
    | _ => exact Nat.le_add_right 1 _
end P_CH

section P_CL
open PySem PySem.W PyProof.Rows PySem.Calls PySem.Spec
set_option maxRecDepth 100000
noncomputable def bind2 (m : Str → Option Value) (u : Option Value) (v : Option Value) : Str → Option Value := fun z => if z = Str.ofString "tree" then v else if z = Str.ofString "turn" then u else m z
noncomputable def OffTwo (m₁ m : Str → Option Value) : Prop := ∀ z, z ≠ Str.ofString "tree" → z ≠ Str.ofString "turn" → m₁ z = m z
theorem OffTwo.of {m : Str → Option Value} {u v u1 v1 : Option Value} : OffTwo (fun z => if z = Str.ofString "tree" then v else if z = Str.ofString "turn" then u else bind2 m u1 v1 z) m := fun z a b => (if_neg a).trans ((if_neg b).trans ((if_neg a).trans (if_neg b)))
theorem OffTwo.bind {m₁ m : Str → Option Value} (h : OffTwo m₁ m) : m₁ = bind2 m (m₁ (Str.ofString "turn")) (m₁ (Str.ofString "tree")) := by
  funext z
  unfold bind2
  repeat' split
  all_goals first | (next e => rw [e]) | exact h z (by assumption) (by assumption)
structure ChSt (f i : Nat) (T : Tr) (tl old : Led) : Prop where
  ch : IsCh f i T
  tin : TIn tl T
  newer : Newer old tl
noncomputable def CJ (f : Nat) (old : Led) (m₀ : Str → Option Value) (i : Nat) (m₁ : Str → Option Value) (nx : Led) : Prop :=
  OffTwo m₁ m₀ ∧ ∃ T tl, m₁ (Str.ofString "tree") = some (.ref (Tr.ad T)) ∧ nx = tl ++ old ∧ ChSt f i T tl old
section
variable {prog : Program} {w : World} {A : Around} {E : Value → Shared → Prop} {s : Shared} {env : Env} {h₀ : Heap} {body : List Stmt} {Q : Flow → Shared → Prop}
theorem chain_loop {r : Addr} {b : Int} {t₀ u₀ v₀ : Tok} {f : Nat} {m₀ : Str → Option Value} {led old TL0 : Led} {D : Addr} {k1 k2 n : Nat}
    (hh : A.handled = none) (hr : IsRange s.heap r 0 b 1 t₀ u₀ v₀) (hb0 : 0 ≤ b) (hb1 : b ≤ 400) (F : Fr h₀ env.locals s.heap m₀) (N : News h₀ env.locals s.heap led) (hm : m₀ (Str.ofString "tree") = some (.ref D))
    (hD : (D, tupOf #[.str (Str.ofString "name") k1, .str (Str.ofString "X") k2] n) ∈ TL0) (s1 : ∀ p ∈ TL0, p ∈ led) (s2 : ∀ p ∈ old, p ∈ led) (nw : Newer old TL0)
    (turn : ∀ i T tl own h tk u kk kt, ChSt f i T tl old → TbOff own (tl ++ old) → Fr h₀ env.locals h (fun y => if y = Str.ofString "turn" then some (.int kk kt) else bind2 m₀ u (some (.ref (Tr.ad T))) y) → News h₀ env.locals h ((tl ++ old) ++ own) →
      wpAny (model prog w) A (execs body env) (TbPost h₀ env.locals (CJ f old m₀ (i + 1)) own { s with heap := h, toks := tk } Q) E { s with heap := h, toks := tk })
    (done : ∀ T tl h tk u, ChSt f b.toNat T tl old → Fr h₀ env.locals h (bind2 m₀ u (some (.ref (Tr.ad T)))) → News h₀ env.locals h (tl ++ old) → Q .next { s with heap := h, toks := tk }) :
    wpAny (model prog w) A (pyIter (.ref r)) (fun it s₂ => LoopAtV prog w A h₀ env (Str.ofString "turn") body Q E it s₂) E s := by
  refine tbr_invG (n := b.toNat) (news := TL0 ++ old) (CJ f old m₀) hh hr (small_one (by omega) (by omega) (by omega) (by omega)) (by have := rangeSize_nat 0 b; rw [this]; congr 1; omega) F (news_drop N fun p hp => (List.mem_append.mp hp).elim (s1 p) (s2 p)) ⟨fun _ _ _ => rfl, .name D (Str.ofString "X"), TL0, hm, rfl, rfl, .name hD (by decide), nw⟩ ?_ ?_
  · rintro i kk kt m₁ nx h tk own hk hoff ⟨hm1, T, tl, hv, rfl, S⟩ F₁ N₁
    have eb := hm1.bind
    rw [hv] at eb
    rw [eb] at F₁
    exact turn i T tl own h tk _ kk kt S hoff F₁ N₁
  · rintro m₁ nx h tk ⟨hm1, T, tl, hv, rfl, S⟩ F₁ N₁
    have eb := hm1.bind
    rw [hv] at eb
    rw [eb] at F₁
    exact done T tl h tk _ S F₁ N₁
theorem chain_loop2 {r : Addr} {b : Int} {t₀ u₀ v₀ : Tok} {f : Nat} {m₀ : Str → Option Value} {led imm TL0 : Led} {D fd : Addr} {o : Obj} {k1 k2 n : Nat}
    (hh : A.handled = none) (hr : IsRange s.heap r 0 b 1 t₀ u₀ v₀) (hb0 : 0 ≤ b) (hb1 : b ≤ 400) (F : Fr h₀ env.locals s.heap m₀) (N : News h₀ env.locals s.heap led) (hm : m₀ (Str.ofString "tree") = some (.ref D))
    (S : Suf fd o imm led TL0) (hD : (D, tupOf #[.str (Str.ofString "name") k1, .str (Str.ofString "X") k2] n) ∈ TL0) (nw : Newer ((fd, o) :: imm) TL0)
    (turn : ∀ i T tl own h tk u kk kt, ChSt f i T tl ((fd, o) :: imm) → TbOff own (tl ++ ((fd, o) :: imm)) → Fr h₀ env.locals h (fun y => if y = Str.ofString "turn" then some (.int kk kt) else bind2 m₀ u (some (.ref (Tr.ad T))) y) → News h₀ env.locals h ((tl ++ ((fd, o) :: imm)) ++ own) →
      wpAny (model prog w) A (execs body env) (TbPost h₀ env.locals (CJ f ((fd, o) :: imm) m₀ (i + 1)) own { s with heap := h, toks := tk } Q) E { s with heap := h, toks := tk })
    (done : ∀ T tl h tk u, ChSt f b.toNat T tl ((fd, o) :: imm) → Fr h₀ env.locals h (bind2 m₀ u (some (.ref (Tr.ad T)))) → News h₀ env.locals h (tl ++ ((fd, o) :: imm)) → Q .next { s with heap := h, toks := tk }) :
    wpAny (model prog w) A (pyIter (.ref r)) (fun it s₂ => LoopAtV prog w A h₀ env (Str.ofString "turn") body Q E it s₂) E s :=
  chain_loop hh hr hb0 hb1 F N hm hD (fun p hp => S.sub p (List.mem_append_left _ hp)) (fun p hp => S.sub p (List.mem_append_right _ hp)) nw turn done
theorem newer_same {fd : Addr} {o o' : Obj} {imm tl : Led} (h : Newer ((fd, o) :: imm) tl) : Newer ((fd, o') :: imm) tl := fun q hq p hp => by
  rcases List.mem_cons.mp hq with rfl | hq
  · exact h _ (.head _) p hp
  · exact h q (.tail _ hq) p hp
theorem chain_end {f i : Nat} {T T' : Tr} {tl old own TL1 led' : Led} {m₀ m' : Str → Option Value} {L D : Addr} {h' : Heap} {tk' : Nat} (S : ChSt f i T tl old) (hoff : TbOff own (tl ++ old)) (hT : TIn (TL1 ++ tl) T') (hc : IsCh f (i + 1) T') (F : Fr h₀ L h' m') (N : News h₀ L h' led') (hm : OffTwo m' m₀) (hv : m' (Str.ofString "tree") = some (.ref D)) (hD : T'.ad = D)
    (s1 : ∀ p ∈ TL1, p ∈ led') (s2 : ∀ p ∈ (tl ++ old) ++ own, p ∈ led') (nw : Newer ((tl ++ old) ++ own) TL1) :
    TbEnd h₀ L (CJ f old m₀ (i + 1)) own s { s with heap := h', toks := tk' } := by
  subst hD
  refine ⟨h', tk', m', led', (TL1 ++ tl) ++ old, rfl, F, N, ?_, fun p hp => s2 p (List.mem_append_right _ hp), ?_, hm, T', TL1 ++ tl, hv, rfl, hc, hT, newer_app (newer_sub nw fun p hp => List.mem_append_left _ (List.mem_append_right _ hp)) S.newer⟩
  · intro p hp
    simp only [List.mem_append] at hp
    rcases hp with (hp | hp) | hp
    · exact s1 p hp
    · exact s2 p (List.mem_append_left _ (List.mem_append_left _ hp))
    · exact s2 p (List.mem_append_left _ (List.mem_append_right _ hp))
  · intro p hp q hq
    simp only [List.mem_append] at hq
    rcases hq with (hq | hq) | hq
    · exact Nat.ne_of_lt (nw p (List.mem_append_right _ hp) q hq)
    · exact hoff p hp q (List.mem_append_left _ hq)
    · exact hoff p hp q (List.mem_append_right _ hq)
theorem chain_end0 {i : Nat} {T : Tr} {tl old own led' : Led} {m₀ m' : Str → Option Value} {L J Nn : Addr} {h' : Heap} {tk' n1 n2 k1 k2 : Nat} {x : Obj} (S : ChSt 0 i T tl old) (hoff : TbOff own (tl ++ old)) (F : Fr h₀ L h' m') (N : News h₀ L h' led') (hm : OffTwo m' m₀) (hv : m' (Str.ofString "tree") = some (.ref J))
    (hJ : (J, tupOf #[.str (Str.ofString "join") k1, .ref T.ad, .ref Nn] n1) ∈ led') (hN : (Nn, tupOf #[.str (Str.ofString "null") k2] n2) ∈ led') (s2 : ∀ p ∈ (tl ++ old) ++ own, p ∈ led')
    (lN : AllLt Nn ((tl ++ old) ++ own)) (lJ : AllLt J ((Nn, x) :: ((tl ++ old) ++ own))) : TbEnd h₀ L (CJ 0 old m₀ (i + 1)) own s { s with heap := h', toks := tk' } := by
  refine chain_end (T' := .join J T (.null Nn)) (TL1 := [(J, tupOf #[.str (Str.ofString "join") k1, .ref T.ad, .ref Nn] n1), (Nn, tupOf #[.str (Str.ofString "null") k2] n2)]) S hoff (.join (.head _) (S.tin.mono fun _ h => .tail _ (.tail _ h)) (.null (.tail _ (.head _)))) ⟨rfl, S.ch⟩ F N hm hv rfl ?_ s2 (newer_cons lJ.2 (newer_cons lN newer_nil))
  intro p hp
  simp only [List.mem_cons, List.not_mem_nil, or_false] at hp
  rcases hp with rfl | rfl
  · exact hJ
  · exact hN
theorem chain_end1 {i : Nat} {T : Tr} {tl old own led' : Led} {m₀ m' : Str → Option Value} {L U : Addr} {h' : Heap} {tk' n1 k1 k2 : Nat} {x1 x2 : Addr × Obj} (S : ChSt 1 i T tl old) (hoff : TbOff own (tl ++ old)) (F : Fr h₀ L h' m') (N : News h₀ L h' led') (hm : OffTwo m' m₀) (hv : m' (Str.ofString "tree") = some (.ref U))
    (hU : (U, tupOf #[.str (Str.ofString "unary") k1, .str (Str.ofString "-") k2, .ref T.ad] n1) ∈ led') (s2 : ∀ p ∈ (tl ++ old) ++ own, p ∈ led') (lU : AllLt U (x1 :: x2 :: ((tl ++ old) ++ own))) : TbEnd h₀ L (CJ 1 old m₀ (i + 1)) own s { s with heap := h', toks := tk' } := by
  refine chain_end (T' := .un U (Str.ofString "-") T) (TL1 := [(U, tupOf #[.str (Str.ofString "unary") k1, .str (Str.ofString "-") k2, .ref T.ad] n1)]) S hoff (.un (.head _) (by decide) (S.tin.mono fun _ h => .tail _ h)) ⟨rfl, rfl, S.ch⟩ F N hm hv rfl ?_ s2 (newer_cons lU.2.2 newer_nil)
  intro p hp
  rw [List.mem_singleton.mp hp]
  exact hU
theorem chain_end2 {i : Nat} {T : Tr} {tl old own led' : Led} {m₀ m' : Str → Option Value} {L I B Nn : Addr} {h' : Heap} {tk' n1 n2 n3 k1 k2 : Nat} {x1 x2 x3 y1 y2 : Addr × Obj} {o1 : Obj} (S : ChSt 2 i T tl old) (hoff : TbOff own (tl ++ old)) (F : Fr h₀ L h' m') (N : News h₀ L h' led') (hm : OffTwo m' m₀) (hv : m' (Str.ofString "tree") = some (.ref I))
    (hI : (I, tupOf #[.str (Str.ofString "item") k1, .ref T.ad, .ref B] n1) ∈ led') (hB : (B, tupOf #[.ref Nn] n2) ∈ led') (hN : (Nn, tupOf #[.str (Str.ofString "null") k2] n3) ∈ led') (s2 : ∀ p ∈ (tl ++ old) ++ own, p ∈ led')
    (lN : AllLt Nn (x1 :: x2 :: x3 :: ((tl ++ old) ++ own))) (lB : AllLt B ((Nn, o1) :: x1 :: x2 :: x3 :: ((tl ++ old) ++ own))) (lI : AllLt I (y1 :: y2 :: x1 :: x2 :: x3 :: ((tl ++ old) ++ own))) : TbEnd h₀ L (CJ 2 old m₀ (i + 1)) own s { s with heap := h', toks := tk' } := by
  refine chain_end (T' := .item1 I T (.null Nn)) (TL1 := [(I, tupOf #[.str (Str.ofString "item") k1, .ref T.ad, .ref B] n1), (B, tupOf #[.ref Nn] n2), (Nn, tupOf #[.str (Str.ofString "null") k2] n3)]) S hoff (.item1 (.head _) (.tail _ (.head _)) (S.tin.mono fun _ h => .tail _ (.tail _ (.tail _ h))) (.null (.tail _ (.tail _ (.head _))))) ⟨rfl, S.ch⟩ F N hm hv rfl ?_ s2
    (newer_cons lI.2.2.2.2.2 (newer_cons lB.2.2.2.2 (newer_cons lN.2.2.2 newer_nil)))
  intro p hp
  simp only [List.mem_cons, List.not_mem_nil, or_false] at hp
  rcases hp with rfl | rfl | rfl
  · exact hI
  · exact hB
  · exact hN
end
end P_CL

section P_CW
open PySem PySem.W PyProof.Rows PySem.Calls PySem.Spec
set_option maxRecDepth 100000
set_option maxHeartbeats 8000000

theorem kw_CW_0 : True := by
  k_with_none
  k_with "k_ne" => first | exact nem1 (by with_reducible assumption) (by tb_rel) | exact nem2 (by with_reducible assumption) (by tb_rel)
  trivial

theorem item_int {w : World} {M' : Program} {A : Around} {E : Value → Shared → Prop} {h₀ : Heap} {L : Addr} {s : Shared} {news : Led} {value slice : PySem.Expr} {l : Addr} {items : Array Value} {n : Nat} {k : Int} {u : Tok} {Q : Value → Shared → Prop} (N : News h₀ L s.heap news) (hm : (l, listOf items n) ∈ news)
    (hops : ∀ v ∈ items.toList, ∃ i tk, v = .int i tk ∧ 0 ≤ i ∧ i ≤ 400) (h0 : 0 ≤ k) (h1 : k < items.size) (hz : items.size ≤ 100) (h : ∀ i tk, 0 ≤ i → i ≤ 400 → Q (.int i tk) s)
    (hs : subscripted slice false (.ref l) (.int k u) = operate [.ref l, .int k u] (getItem (.ref l) (.int k u)) := by with_unfolding_all rfl) :
    wpAny (model M' w) A (subscriptTail value slice (.ref l) (.int k u)) Q E s := by
  have hk : k.toNat < items.size := by omega
  obtain ⟨i, tk, e, hi0, hi1⟩ := hops items[k.toNat] (by simp)
  refine item_at N hm h0 (by omega) (Array.getElem?_eq_getElem hk) ?_ hs
  rw [e]
  exact h i tk hi0 hi1
theorem ints_cons {i : Int} {tk : Tok} {r : List Value} (h0 : 0 ≤ i) (h1 : i ≤ 400) (hr : ∀ v ∈ r, ∃ i tk, v = .int i tk ∧ 0 ≤ i ∧ i ≤ 400) : ∀ x ∈ (Value.int i tk) :: r, ∃ i tk, x = .int i tk ∧ 0 ≤ i ∧ i ≤ 400 := List.forall_mem_cons.mpr ⟨⟨_, _, rfl, h0, h1⟩, hr⟩
theorem ints_nil : ∀ x ∈ ([] : List Value), ∃ i tk, x = .int i tk ∧ 0 ≤ i ∧ i ≤ 400 := fun _ h => nomatch h
section
theorem kw_CW_1 : True := by
  k_with "subscriptTail List cons Name ref int" => first | ((
    k_here
    k_dflt (first
      | ((with_reducible show wpAny _ _ (subscriptTail _ _ (Value.ref _) (Value.int 0 _)) _ _ _); refine' item_at0 ?N ?m ?_; (case N => k_asm); (case m => k_mem))
      | ((with_reducible show wpAny _ _ (subscriptTail _ _ (Value.ref _) (Value.int 1 _)) _ _ _); refine' item_at1 ?N ?m ?_; (case N => k_asm); (case m => k_mem))
      | ((with_reducible show wpAny _ _ (subscriptTail _ _ (Value.ref _) (Value.int 2 _)) _ _ _); refine' item_at2 ?N ?m ?_; (case N => k_asm); (case m => k_mem))
      | (refine' item_any binOps ?N ?m ?o ?a ?b ?c ?_; (case N => k_asm); (case m => k_mem); (case o => (repeat (first | exact ops_nil | (refine ops_cons ?_ ?_; focus simp [binOps])))); (case a => omega); (case b => (simp only [List.size_toArray, List.length_cons, List.length_nil]; omega)); (case c => exact Nat.le_of_ble_eq_true rfl); intro op' tko' hop')
      | (refine' item_any unOps ?N ?m ?o ?a ?b ?c ?_; (case N => k_asm); (case m => k_mem); (case o => (repeat (first | exact ops_nil | (refine ops_cons ?_ ?_; focus simp [unOps])))); (case a => omega); (case b => (simp only [List.size_toArray, List.length_cons, List.length_nil]; omega)); (case c => exact Nat.le_of_ble_eq_true rfl); intro op' tko' hop')
      | (refine' item_any callNames ?N ?m ?o ?a ?b ?c ?_; (case N => k_asm); (case m => k_mem); (case o => (repeat (first | exact ops_nil | (refine ops_cons ?_ ?_; focus simp [callNames])))); (case a => omega); (case b => (simp only [List.size_toArray, List.length_cons, List.length_nil]; omega)); (case c => exact Nat.le_of_ble_eq_true rfl); intro op' tko' hop'))))
  trivial
theorem kw_CW_2 : True := by
  k_with "subscriptTail List cons Call ref int" => first | (walk_at "subscriptTail List cons Name ref int")
  trivial
theorem kw_CW_3 : True := by
  k_with "subscriptTail Name Call ref int" => first | (walk_at "subscriptTail List cons Name ref int")
  trivial
theorem kw_CW_4 : True := by
  k_with "subscriptTail Name Constant ref int" => first | ((
    k_here
    k_dflt (first
      | ((with_reducible show wpAny _ _ (subscriptTail _ _ (Value.ref _) (Value.int 0 _)) _ _ _); refine' tup_at0 ?N ?m ?_; (case N => k_asm); (case m => tb_rel))
      | ((with_reducible show wpAny _ _ (subscriptTail _ _ (Value.ref _) (Value.int 1 _)) _ _ _); refine' tup_at1 ?N ?m ?_; (case N => k_asm); (case m => tb_rel))
      | ((with_reducible show wpAny _ _ (subscriptTail _ _ (Value.ref _) (Value.int 2 _)) _ _ _); refine' tup_at2 ?N ?m ?_; (case N => k_asm); (case m => tb_rel))
      | ((with_reducible show wpAny _ _ (subscriptTail _ _ (Value.ref _) (Value.int 3 _)) _ _ _); refine' tup_at3 ?N ?m ?_; (case N => k_asm); (case m => tb_rel)))))
  trivial
theorem kw_CW_5 : True := by
  k_with "subscriptTail List cons Call ref int" => first | ((
    k_here
    k_dflt (refine' item_int ?N ?m ?o ?a ?b ?c ?_; (case N => k_asm); (case m => tb_rel); (case o => (repeat (first | exact ints_nil | refine ints_cons (by decide) (by decide) ?_))); (case a => omega); (case b => (simp only [List.size_toArray, List.length_cons, List.length_nil]; omega)); (case c => exact Nat.le_of_ble_eq_true rfl))
    intro i' tki' hi0' hi1'))
  trivial
theorem kw_CW_6 : True := by
  k_with "exec For Name Call cons nil" => first | ((k_here; (with_reducible rename Fr _ _ _ _ => lF'); k_dflt (refine' For_invVF lF' ?k1 ?k2 ?_; (case k1 => exact rfl); (case k2 => exact rfl))))
  trivial
local macro_rules | `(tactic| walk_at "pyIter ref") => `(tactic| (k_here; (refine Stop.out ?_)))
theorem kw_CW_7 : True := by
  k_with "TbPost" => first | ((dsimp only [TbPost]))
  trivial
theorem kw_CW_8 : True := by
  k_with "call ref" => first | ((
    k_here
    (with_reducible show wpAny _ _ (call (Value.ref 89) [Value.ref _, Value.int 4 _]) _ _ _)
    k_dflt (refine' next_use ?B ?F ?X ?N ?T ?hk ?hd ?U ?hca ?hvs ?hcf ?hlen ?t0 ?t1 ?m0 ?m1 ?_; (case B => k_asm); (case F => k_asm); (case X => k_asm); (case N => k_asm); (case T => k_asm); (case hk => first | exact rfl | assumption); (case hd => ktr_room); (case U => k_updF); (case hca => k_mem); (case hvs => assumption); (case hcf => assumption); (case hlen => assumption); (case t0 => omega); (case t1 => omega); (case m0 => decide); (case m1 => decide))
    intro r' tkr' t' h' tk' hr0' hr1' F' N'
    (try dsimp only at N')
    (try k_sweep)))
  trivial
theorem kw_CW_9 : True := by
  k_with "call ref" => first | ((
    k_here
    (with_reducible show wpAny _ _ (call (Value.ref 89) [Value.ref _, Value.int 3 _]) _ _ _)
    k_dflt (refine' next_use ?B ?F ?X ?N ?T ?hk ?hd ?U ?hca ?hvs ?hcf ?hlen ?t0 ?t1 ?m0 ?m1 ?_; (case B => k_asm); (case F => k_asm); (case X => k_asm); (case N => k_asm); (case T => k_asm); (case hk => first | exact rfl | assumption); (case hd => ktr_room); (case U => k_updF); (case hca => k_mem); (case hvs => assumption); (case hcf => assumption); (case hlen => assumption); (case t0 => omega); (case t1 => omega); (case m0 => decide); (case m1 => decide))
    intro r' tkr' t' h' tk' hr0' hr1' F' N'
    (try dsimp only at N')
    (try k_sweep)
    (have hs9 : r' = 0 ∨ r' = 1 ∨ r' = 2 := by omega)
    (rcases hs9 with hs9 | hs9 | hs9 <;> (subst hs9; clear hr0' hr1'))))
  trivial

theorem chain_spec {w : World} {p : Program} {loose : List Str} {mean : ExcName → Option Value} {mg mb : Str → Option Value} {dp un : Nat} {gd : Option (List Code)} {cn : Str} {cs : Scope} {a : Addr} {ccd : Value} {cl : List (Str × Addr)} {outer : List Env} {A₀ : Around} {base h₀ : Heap} {L : Addr} {m : Str → Option Value} {imm : Led} {s : Shared}
    {Q E : Value → Shared → Prop} {fd ca : Addr} {vs : List Value} {ns : List Int} {nc ef : Nat} {t : Int} {tk0 : Tok}
    (B : Below A₀ base outer h₀) (F : Fr h₀ L s.heap m) (X : (hd.heap_1 w.params).In h₀) (N : News h₀ L s.heap ((fd, feedO ca t tk0 ef) :: imm)) (T : Top p loose mean mg mb h₀) (hk : cs.kind = .function)
    (hd1 : dp + 20 < recursionLimit) (hu1 : un + 100 < cLine) (hca : (ca, listOf vs.toArray nc) ∈ imm) (hvs : IntsAre vs ns) (hlen : ns.length ≤ 63) (hcf : ca ≠ fd) (ht0 : 0 ≤ t) (ht1 : t < 900) (hap : Apart fd imm)
    (hret : ∀ D n T k f (cnt : Int) kc tl t' tk' h' tkk, IsCh f k T → k ≤ 400 → cnt = ((k * per f + 1 : Nat) : Int) → Fr h₀ L h' m → News h₀ L h' ((D, tupOf #[.ref T.ad, .int cnt kc] n) :: (tl ++ ((fd, feedO ca t' tk' ef) :: imm))) → Newer ((fd, feedO ca t tk0 ef) :: imm) tl → TIn tl T → Q (.ref D) { s with heap := h', toks := tkk }) :
    wpAny (model PySem.Challenge.rw_pf0366_01.row.prog w) (ktrTop dp un gd cn cs L a ccd cl outer) (call (.ref 127) [.ref fd]) Q E s := by
  revert X; k_fill; intro X
  refine wpAny_call ?_
  k_dflt ktr_enter
  k_steps
  all_goals (refine Stop.mk ?_)
  · k_dflt (refine' chain_loop2 (f := 0) (fd := fd) (imm := imm) ?hh0 ?hr0 ?b00 ?b10 ?F0 ?N0 ?hm0 ?S0 ?hD0 ?nw0 ?turn0 ?done0; (case hh0 => exact rfl); (case hr0 => assumption); (case F0 => k_asm); (case N0 => k_asm); (case b00 => omega); (case b10 => omega); (case hm0 => exact rfl); (case S0 => tb_start); (case hD0 => tb_rel); (case nw0 => tb_start))
    case turn0 =>
      intro i T1 tl own h tk u kk kt S hoff F N
      have hnw := S.newer
      k_sweep
      k_steps
      all_goals (refine' chain_end0 S hoff ?Fe ?Ne ?hme ?hve ?hJe ?hNe ?s2e ?lNe ?lJe; (case Fe => k_asm); (case Ne => k_asm); (case hme => first | exact OffTwo.of | (intro z9 z1 z2; simp only [z1, z2, if_false, bind2])); (case hve => k_dflt exact rfl); (case hJe => tb_rel); (case hNe => tb_rel); (case s2e => (intro p9 hp9; tb_rel)); (case lNe => with_reducible assumption); (case lJe => with_reducible assumption))
    case done0 =>
      intro T1 tl h tk u S F N
      have hnw := S.newer
      k_sweep
      k_steps
      all_goals (refine' hret _ _ T1 _ 0 _ _ tl _ _ _ _ S.ch ?kd ?cntd ?Fd ?Nd (newer_same hnw) S.tin; (case kd => omega); (case Fd => k_asm); (case Nd => exact news_drop (by k_asm) (by intro p9 hp9; rcases List.mem_cons.mp hp9 with rfl | hp9 <;> tb_rel)); (case cntd => (simp only [per]; omega)))
  · k_dflt (refine' chain_loop2 (f := 1) (fd := fd) (imm := imm) ?hh1 ?hr1 ?b01 ?b11 ?F1 ?N1 ?hm1 ?S1 ?hD1 ?nw1 ?turn1 ?done1; (case hh1 => exact rfl); (case hr1 => assumption); (case F1 => k_asm); (case N1 => k_asm); (case b01 => omega); (case b11 => omega); (case hm1 => exact rfl); (case S1 => tb_start); (case hD1 => tb_rel); (case nw1 => tb_start))
    case turn1 =>
      intro i T1 tl own h tk u kk kt S hoff F N
      have hnw := S.newer
      k_sweep
      k_steps
      all_goals (refine' chain_end1 S hoff ?Fe ?Ne ?hme ?hve ?hUe ?s2e ?lUe; (case Fe => k_asm); (case Ne => k_asm); (case hme => first | exact OffTwo.of | (intro z9 z1 z2; simp only [z1, z2, if_false, bind2])); (case hve => k_dflt exact rfl); (case hUe => tb_rel); (case s2e => (intro p9 hp9; tb_rel)); (case lUe => with_reducible assumption))
    case done1 =>
      intro T1 tl h tk u S F N
      have hnw := S.newer
      k_sweep
      k_steps
      all_goals (refine' hret _ _ T1 _ 1 _ _ tl _ _ _ _ S.ch ?kd ?cntd ?Fd ?Nd (newer_same hnw) S.tin; (case kd => omega); (case Fd => k_asm); (case Nd => exact news_drop (by k_asm) (by intro p9 hp9; rcases List.mem_cons.mp hp9 with rfl | hp9 <;> tb_rel)); (case cntd => (simp only [per]; omega)))
  · k_dflt (refine' chain_loop2 (f := 2) (fd := fd) (imm := imm) ?hh2 ?hr2 ?b02 ?b12 ?F2 ?N2 ?hm2 ?S2 ?hD2 ?nw2 ?turn2 ?done2; (case hh2 => exact rfl); (case hr2 => assumption); (case F2 => k_asm); (case N2 => k_asm); (case b02 => omega); (case b12 => omega); (case hm2 => exact rfl); (case S2 => tb_start); (case hD2 => tb_rel); (case nw2 => tb_start))
    case turn2 =>
      intro i T1 tl own h tk u kk kt S hoff F N
      have hnw := S.newer
      k_sweep
      k_steps
      all_goals (refine' chain_end2 S hoff ?Fe ?Ne ?hme ?hve ?hIe ?hBe ?hNe ?s2e ?lNe ?lBe ?lIe; (case Fe => k_asm); (case Ne => k_asm); (case hme => first | exact OffTwo.of | (intro z9 z1 z2; simp only [z1, z2, if_false, bind2])); (case hve => k_dflt exact rfl); (case hIe => tb_rel); (case hBe => tb_rel); (case hNe => tb_rel); (case s2e => (intro p9 hp9; tb_rel)); (case lNe => with_reducible assumption); (case lBe => with_reducible assumption); (case lIe => with_reducible assumption))
    case done2 =>
      intro T1 tl h tk u S F N
      have hnw := S.newer
      k_sweep
      k_steps
      all_goals (refine' hret _ _ T1 _ 2 _ _ tl _ _ _ _ S.ch ?kd ?cntd ?Fd ?Nd (newer_same hnw) S.tin; (case kd => omega); (case Fd => k_asm); (case Nd => exact news_drop (by k_asm) (by intro p9 hp9; rcases List.mem_cons.mp hp9 with rfl | hp9 <;> tb_rel)); (case cntd => (simp only [per]; omega)))
end
end P_CW

section P_TD
open PySem PySem.W PyProof.Rows PySem.Calls PySem.Spec
set_option maxRecDepth 100000
section
variable {prog : Program} {w : World} {A : Around} {h₀ : Heap} {L : Addr} {m : Str → Option Value} {env : Env} {elt : PySem.Expr} {x : Str} {scope : Scope} {cl : List (Str × Addr)} {s : Shared}
/-- one told value -/
noncomputable def EltT (prog : Program) (w : World) (A : Around) (h₀ : Heap) (L : Addr) (m : Str → Option Value) (env : Env) (elt : PySem.Expr) (x : Str) (scope : Scope) (cl : List (Str × Addr)) (led : Led) (s : Shared) : Prop :=
  ∀ v o I oI C oC D oD m₂ h tk (K E' : Value → Shared → Prop), VF led v o → LCg.NsObj oC m₂ → m₂ x = some v → Fr h₀ L h m → News h₀ L h ((I, oI) :: (C, oC) :: (D, oD) :: led) →
    (∀ v' h' tk', VIs v' o → Fr h₀ L h' m → News h₀ L h' ((I, oI) :: (C, oC) :: (D, oD) :: led) → K v' { s with heap := h', toks := tk' }) →
    wpAny (model prog w) A (eval elt (compEnvC scope cl C env)) K E' { s with heap := h, toks := tk }
theorem EltT.of {led : Led} (h1 : ∀ y k I oI C oC D oD m₂ h tk (K E' : Value → Shared → Prop), LCg.NsObj oC m₂ → m₂ x = some (.str y k) → Fr h₀ L h m → News h₀ L h ((I, oI) :: (C, oC) :: (D, oD) :: led) →
      (∀ v' h' tk', VIs v' (some y) → Fr h₀ L h' m → News h₀ L h' ((I, oI) :: (C, oC) :: (D, oD) :: led) → K v' { s with heap := h', toks := tk' }) →
      wpAny (model prog w) A (eval elt (compEnvC scope cl C env)) K E' { s with heap := h, toks := tk })
    (h2 : ∀ b d I oI C oC D oD m₂ h tk (K E' : Value → Shared → Prop), (b, instObj 47 d) ∈ led → (d, dictOf [] 0) ∈ led → LCg.NsObj oC m₂ → m₂ x = some (.ref b) → Fr h₀ L h m → News h₀ L h ((I, oI) :: (C, oC) :: (D, oD) :: led) →
      (∀ v' h' tk', VIs v' none → Fr h₀ L h' m → News h₀ L h' ((I, oI) :: (C, oC) :: (D, oD) :: led) → K v' { s with heap := h', toks := tk' }) →
      wpAny (model prog w) A (eval elt (compEnvC scope cl C env)) K E' { s with heap := h, toks := tk }) : EltT prog w A h₀ L m env elt x scope cl led s := by
  intro v o I oI C oC D oD m₂ h tk K E' hv hC hx F N hK
  cases o with
  | some y =>
    obtain ⟨k, rfl⟩ := hv
    exact h1 y k I oI C oC D oD m₂ h tk K E' hC hx F N hK
  | none =>
    obtain ⟨b, d, rfl, m1, m2⟩ := hv
    exact h2 b d I oI C oC D oD m₂ h tk K E' m1 m2 hC hx F N hK
theorem rest_told {ax : Addr} {its : Array Value} {k0 : Nat} {led : Led} {OS : List (Option Str)} {Fin : List Value → Led → Prop} (el : EltT prog w A h₀ L m env elt x scope cl led s) (hm : (ax, listOf its k0) ∈ led)
    (fin : ∀ ys, ValsAre ys OS → Fin ys led) : ∀ (vs pre : List Value) (os ps : List (Option Str)) (ys : List Value), pre ++ vs = its.toList → ps ++ os = OS → FVals led vs os → ValsAre ys ps →
    LCg.CompRest prog w A h₀ L m env elt x scope cl s (LCg.SrcAt h₀ ax its) (fun i v => its[i]? = some v) Fin vs.length pre.length ys led
  | [], pre, os, ps, ys, e, e2, hv, hy => by
    cases hv
    rw [List.append_nil] at e2
    subst e2
    exact LCg.CompRest.zero (fin ys hy)
  | v :: vs, pre, os, ps, ys, e, e2, hv, hy => by
    cases hv with
    | @cons _ o _ os' h1 h2 =>
      intro v' I oI C oC D m₂ h tk E' hv' hC hx F N off ne
      have e1 : its[pre.length]? = some v := by
        rw [← Array.getElem?_toList, ← e]
        simp
      have e3 : v' = v := Option.some.inj (hv'.symm.trans e1)
      subst e3
      refine el v' o I oI C oC D _ m₂ h tk _ E' h1 hC hx F N fun y h' tk' hI F' N' => ?_
      refine LCg.CompEnd.intro F' N' led (fun p hp => hp) off (.inr ⟨_, hm, rfl, _, rfl⟩) ?_
      have ih := rest_told el hm fin vs (pre ++ [v']) os' (ps ++ [o]) (ys ++ [y]) (by rw [← e]; simp) (by rw [← e2]; simp) h2 (hy.app (.cons hI .nil))
      rw [List.length_append, List.length_singleton] at ih
      exact ih
end
/-- what `made` notes -/
noncomputable def PMade (led : Led) (v : Value) (n : Note) : Prop := ∃ a b k1 k2 vs, v = .ref a ∧ (a, tupOf #[.ref (Tr.ad n.1), .bool n.2.1, .ref b] k1) ∈ led ∧ (b, listOf vs.toArray k2) ∈ led ∧ ValsAre vs n.2.2
theorem pMade_mono : ∀ (l l' : Led) v n, (∀ p ∈ l, p ∈ l') → PMade l v n → PMade l' v n := fun _ _ _ _ hs ⟨a, b, k1, k2, vs, e, h1, h2, h3⟩ => ⟨a, b, k1, k2, vs, e, hs _ h1, hs _ h2, h3⟩
end P_TD

section P_XS
open PySem PySem.W PyProof.Rows PySem.Calls PySem.Spec PySem.Builtin PySem.Builtin.ObjectAttr
set_option maxRecDepth 100000
theorem refuse_exc (self : Value) : refuseLoop self "__setattr__" [.type "Exception", .type "BaseException", .type "object"] = pure () := by kernel_rfl
/-- the class has Exception as its base -/
noncomputable def excMro (K : Frag) (C : Addr) : Prop := (clsIn K C).map (·.mro) = some [.ref C, .type "Exception", .type "BaseException", .type "object"]
theorem excMro.cls {K : Frag} {C : Addr} (h : excMro K C) : ∃ cd, clsIn K C = some cd ∧ cd.mro = [.ref C, .type "Exception", .type "BaseException", .type "object"] := by
  unfold excMro at h
  cases q : clsIn K C with
  | none => rw [q] at h; cases h
  | some cd => rw [q] at h; exact ⟨cd, rfl, Option.some.inj h⟩
section
variable {prog : Program} {w : World} {A : Around} {R : Result → Shared → Prop} {E : Value → Shared → Prop} {s : Shared} {K : Frag} {x C dx L : Addr} {h₀ : Heap} {m : Str → Option Value} {ox : Obj} {name : Str} {tk : Tok} {v : Value}
theorem osaE {od : Option Obj} {r : Option Value} (X : K.In s.heap) (I : InstAt s.heap x ox C od) (hp : excMro K C) (ht : takerIn K C name = some r)
    (h : ∀ b, wpAny (model prog w) A.in1 (match r with | some a => setByDescriptor a (.ref x) v | none => storeInOwnDict (.ref x) (.ref C) (.str name tk) name v b)
      (fun fin s' => match fin with | .done f => R (.ok f) s' | .again c' => c'.quiet = true ∧ codeAny (model prog w) A c' R s') (fun e s' => R (.error e) s') s) :
    codeAny (model prog w) A (.call (.builtin "object.__setattr__") ⟨[.ref x, .str name tk, v], []⟩) R s := by
  have SF := PySem.F.store_object
  obtain ⟨cd, hc, ho⟩ := hp.cls
  have sub : Looks (model prog w) s.heap (isInstance (.ref x) (.type "object")) true := I.type.andThen (looks_mroIn X (by unfold mroIn; rw [hc, Option.bind_some, ho]; rfl))
  refine codeAny_call_builtin SF.slot.plain SF.entry (@check_slot (model prog w) _ _ s "object.__setattr__" "object" "__setattr__" (.ref x) [.str name tk, v] [] _ SF.kind SF.split sub (SF.args (.ref x) (.str name tk) v) ?_)
  obtain ⟨attr, ha, hr⟩ := Option.bind_eq_some_iff.mp ht
  have hm : Looks (model prog w) s.heap (mroOf (.ref C)) cd.mro := (looks_clsIn X hc).andThen .now
  have L3 : Looks (model prog w) s.heap (storeTaker? attr) r := by
    cases attr with
    | none => cases hr; exact .now
    | some a =>
      obtain ⟨b, hb, rfl⟩ := Option.map_eq_some_iff.mp hr
      refine (looks_takesIn X hb).andThen ?_
      cases b <;> exact .now
  rw [osa_eq, refuse_eq]
  refine wpAny_bind (wpAny_bind (I.type.here (wpAny_bind (hm.here ?_))))
  rw [ho, refuseLoop_ref, refuse_exc]
  refine wpAny_pure (wpAny_bind (I.type.here (wpAny_bind ((looks_findIn X ha).here (wpAny_bind (L3.here ?_))))))
  exact h _
/-- the first store makes the dict -/
theorem osaE_new {fs : Array Value} {sl : Array (Option Value)} (F : Fr h₀ L s.heap m) {pre post : List (Addr × Obj)} (N : News h₀ L s.heap (pre ++ (x, ⟨.ref C, none, .fields fs, sl⟩) :: post)) (X : K.In s.heap)
    (hp : excMro K C) (ht : takerIn K C name = some none) (hh : (clsIn K C).any (·.hasDict) = true)
    (h1 : ∀ p ∈ pre, p.1 ≠ x) (h2 : ∀ p ∈ post, p.1 ≠ x)
    (h : ∀ h' d, Fr h₀ L h' m → News h₀ L h' ((d, dictOf [⟨PyData.keyHash w.params name, .str name s.toks, v⟩] 1) :: (pre ++ (x, ⟨.ref C, some d, .fields fs, sl⟩) :: post)) → (∀ p ∈ pre ++ (x, (⟨.ref C, none, .fields fs, sl⟩ : Obj)) :: post, p.1 < d) → R (.ok (.ret .none)) { s with heap := h', toks := s.toks + 1 }) :
    codeAny (model prog w) A (.call (.builtin "object.__setattr__") ⟨[.ref x, .str name tk, v], []⟩) R s := by
  have hx := (N (x, ⟨.ref C, none, .fields fs, sl⟩) (by simp)).1
  have I : InstAt s.heap x ⟨.ref C, none, .fields fs, sl⟩ C none := ⟨hx, rfl, rfl, trivial⟩
  refine osaE X I hp ht fun b => ?_
  obtain ⟨cd, hc, hd'⟩ := any_some hh
  have lt : ∀ p ∈ pre ++ (x, (⟨.ref C, none, .fields fs, sl⟩ : Obj)) :: post, p.1 < s.heap.objs.size := fun p hp => Heap.lt_size (N p hp).1
  have F1 := F.push (dictOf [] 0)
  have N1 : News h₀ L (s.heap.push (dictOf [] 0)) (((s.heap.objs.size, dictOf [] 0) :: pre) ++ (x, ⟨.ref C, none, .fields fs, sl⟩) :: post) := (ks_newsPush F N rfl (Heap.get?_push_at rfl rfl) (fun b o e => Heap.get?_push_of_some _ e)).2.1
  have hx1 := (N1 (x, ⟨.ref C, none, .fields fs, sl⟩) (by simp)).1
  have xs : x ≠ s.heap.objs.size := Nat.ne_of_lt (lt (x, (⟨.ref C, none, .fields fs, sl⟩ : Obj)) (by simp))
  obtain ⟨F2, N2⟩ := news_upd (o' := ⟨.ref C, some s.heap.objs.size, .fields fs, sl⟩) (f := fun o => { o with dict := some s.heap.objs.size }) F1 N1 (fun p hp => by rcases List.mem_cons.mp hp with rfl | hp; exact Ne.symm xs; exact h1 p hp) h2 rfl rfl
  obtain ⟨F3, N3⟩ := news_upd (pre := []) (o := dictOf [] 0) (o' := dictOf [⟨PyData.keyHash w.params name, .str name s.toks, v⟩] 1) (f := Obj.putName name (PyData.keyHash w.params name) (.str name s.toks) v) F2 N2 (fun _ h => nomatch h)
    (fun p hp => by
      rcases List.mem_append.mp hp with q | q
      · exact Nat.ne_of_lt (lt p (List.mem_append_left _ q))
      · rcases List.mem_cons.mp q with rfl | q
        · exact xs
        · exact Nat.ne_of_lt (lt p (List.mem_append_right _ (.tail _ q)))) (by rw [putName_dict]; rfl) rfl
  have D := (N2 (s.heap.objs.size, dictOf [] 0) (by simp)).1
  have D' := (N3 (s.heap.objs.size, dictOf [⟨PyData.keyHash w.params name, .str name s.toks, v⟩] 1) (by simp)).1
  refine wpAny_bind (wpAny_pure (wpAny_bind (wpAny_bind (wpAny_loadPart hx (wpAny_bind ((looks_clsIn X hc).here ?_))))))
  rw [hd']
  refine wpAny_bind (wpAny_alloc (wpAny_bind (wpAny_update hx1 ?_)))
  refine wpAny_pure (a := some s.heap.objs.size) (wpAny_bind (wpAny_pure (wpAny_bind ?_)))
  unfold nsSet
  refine wpAny_bind (wpAny_bind (wpAny_askSetting (wpAny_pure (wpAny_bind (wpAny_mkText (wpAny_bind (wpAny_loadPart D ?_)))))))
  refine wpAny_updatePart D ?_
  refine wpAny_bind (wpAny_lookBehind D' (pastItsLine_dict (by rw [sizeLine_eq]; exact (show (1 : Nat) ≤ _ by decide))) ?_)
  exact wpAny_pure (h _ _ F3 N3 lt)
/-- a later store -/
theorem osaE_dict {fs : Array Value} {sl : Array (Option Value)} {pre post : List (Addr × Obj)} {es es' : List DictEntry} {n n' : Nat} (F : Fr h₀ L s.heap m) (N : News h₀ L s.heap (pre ++ (dx, dictOf es n) :: post)) (X : K.In s.heap)
    (hx : s.heap.get? x = some ⟨.ref C, some dx, .fields fs, sl⟩) (hp : excMro K C) (ht : takerIn K C name = some none) (hh : (clsIn K C).any (·.hasDict) = true)
    (hl : (getL name es).isSome = true) (h1 : ∀ p ∈ pre, p.1 ≠ dx) (h2 : ∀ p ∈ post, p.1 ≠ dx)
    (e : (putL name (PyData.keyHash w.params name) (.str name s.toks) v es, putN name es n) = (es', n')) (hz : es'.length ≤ 1000)
    (h : ∀ h', Fr h₀ L h' m → News h₀ L h' (pre ++ (dx, dictOf es' n') :: post) → R (.ok (.ret .none)) { s with heap := h', toks := s.toks + 1 }) :
    codeAny (model prog w) A (.call (.builtin "object.__setattr__") ⟨[.ref x, .str name tk, v], []⟩) R s := by
  obtain ⟨e1, e2⟩ := Prod.mk.inj e
  have D := (N (dx, dictOf es n) (by simp)).1
  have I : InstAt s.heap x ⟨.ref C, some dx, .fields fs, sl⟩ C (some (dictOf es n)) := ⟨hx, rfl, rfl, D⟩
  refine osaE X I hp ht fun b => ?_
  obtain ⟨cd, hc, hd'⟩ := any_some hh
  obtain ⟨U1, U2⟩ := news_upd (f := Obj.putName name (PyData.keyHash w.params name) (.str name s.toks) v) F N h1 h2 (by rw [putName_dict, e1, e2]) rfl
  have D' := (U2 (dx, dictOf es' n') (by simp)).1
  refine wpAny_bind (wpAny_pure (wpAny_bind (wpAny_bind (wpAny_loadPart hx (wpAny_bind ((looks_clsIn X hc).here ?_))))))
  rw [hd']
  refine wpAny_pure (a := some dx) (wpAny_bind (wpAny_pure (wpAny_bind ?_)))
  unfold nsSet
  refine wpAny_bind (wpAny_bind (wpAny_askSetting (wpAny_pure (wpAny_bind (wpAny_mkText (wpAny_bind (wpAny_loadPart D ?_)))))))
  dsimp only
  have c : (!es.toArray.any (·.key.isStr name) && es.toArray.any (·.refKey)) = false := by
    simp only [List.any_toArray]
    unfold getL at hl
    split at hl
    · rename_i en he
      rw [List.any_eq_true.mpr ⟨en, List.mem_of_find?_eq_some he, List.find?_some he⟩]; rfl
    · split at hl
      · cases hl
      · rename_i z; rw [Bool.not_eq_true] at z; rw [z, Bool.and_false]
  rw [aRefKeyMayBeTheName_at, c]
  refine wpAny_updatePart D ?_
  refine wpAny_bind (wpAny_lookBehind D' (pastItsLine_dict (by rw [List.size_toArray, sizeLine_eq]; omega)) ?_)
  exact wpAny_pure (h _ U1 U2)
end
section
variable {prog : Program} {w : World} {A : Around} {E : Value → Shared → Prop} {s : Shared} {K : Frag} {x C dx L : Addr} {h₀ : Heap} {m : Str → Option Value} {name : Str} {v : Value} {fs : Array Value} {sl : Array (Option Value)} {news news' : List (Addr × Obj)} {Q : Unit → Shared → Prop}
theorem exc_set0 {g : Obj → Led} (F : Fr h₀ L s.heap m) (X₀ : K.In h₀) (N : News h₀ L s.heap news) (U : UpdF x ⟨.ref C, none, .fields fs, sl⟩ news g)
    (hs : findIn K (.ref C) "__setattr__" = some (some (.builtin "object.__setattr__"))) (hp : excMro K C) (ht : takerIn K C name = some none) (hh : (clsIn K C).any (·.hasDict) = true)
    (h : ∀ h' d, Fr h₀ L h' m → News h₀ L h' ((d, dictOf [⟨PyData.keyHash w.params name, .str name (s.toks + 1), v⟩] 1) :: g ⟨.ref C, some d, .fields fs, sl⟩) → (∀ p ∈ news, p.1 < d) → Q () { s with heap := h', toks := s.toks + 2 }) :
    wpAny (model prog w) A (setAttr (.ref x) name v) Q E s := by
  obtain ⟨pre, post, rfl, hg, a, b⟩ := U.split
  refine set_plain (X₀.keeps F.keep) (od := none) ⟨(N (x, ⟨.ref C, none, .fields fs, sl⟩) (by simp)).1, rfl, rfl, trivial⟩ hs (osaE_new (s := { s with toks := s.toks + 1 }) F N (X₀.keeps F.keep) hp ht hh a b fun h' d F' N' l => h h' d F' ?_ l)
  rw [hg]
  exact N'
theorem exc_set1 {es es' : List DictEntry} {n n' : Nat} (F : Fr h₀ L s.heap m) (X₀ : K.In h₀) (N : News h₀ L s.heap news) (hx : (x, (⟨.ref C, some dx, .fields fs, sl⟩ : Obj)) ∈ news) (_ : (dx, dictOf es n) ∈ news)
    (hs : findIn K (.ref C) "__setattr__" = some (some (.builtin "object.__setattr__"))) (hp : excMro K C) (ht : takerIn K C name = some none) (hh : (clsIn K C).any (·.hasDict) = true) (hl : (getL name es).isSome = true)
    (e : (putL name (PyData.keyHash w.params name) (.str name (s.toks + 1)) v es, putN name es n) = (es', n')) (U : Upd dx (dictOf es n) (dictOf es' n') news news') (hz : es'.length ≤ 1000)
    (h : ∀ h', Fr h₀ L h' m → News h₀ L h' news' → Q () { s with heap := h', toks := s.toks + 2 }) :
    wpAny (model prog w) A (setAttr (.ref x) name v) Q E s := by
  have hx' := (N _ hx).1
  obtain ⟨pre, post, rfl, rfl, a, b⟩ := U.split
  exact set_plain (X₀.keeps F.keep) (od := some (dictOf es n)) ⟨hx', rfl, rfl, (N (dx, dictOf es n) (by simp)).1⟩ hs (osaE_dict (s := { s with toks := s.toks + 1 }) F N (X₀.keeps F.keep) hx' hp ht hh hl a b e hz fun h' F' N' => h h' F' N')
end
end P_XS

section P_XB
open PySem PySem.W PyProof.Rows PySem.Calls PySem.Spec PySem.Builtin PySem.Builtin.ObjectAttr
set_option maxRecDepth 100000
theorem wd_slot : Slot "wrapper_descriptor" "__get__" "wrapper_descriptor.__get__" := .of (owner := "wrapper_descriptor") (n := "__get__") (by rw [typeLookup_type, builtinLookup_eq_fast]; kernel_rfl) (by decide +kernel) (by decide +kernel) (by decide +kernel)
  (by first | exact .inl (by decide +kernel) | exact .inr (by decide +kernel)) (by rw [isSubtype_type]; kernel_rfl)
theorem wd_entry : entryFor table "wrapper_descriptor.__get__" = some Builtin.«wrapper_descriptor.__get__» := entryFor_of_tree (by kernel_rfl)
theorem wd_args (a b c : Value) : argsOk "wrapper_descriptor.__get__" ⟨[a, b, c], []⟩ := by unfold argsOk; kernel_rfl
theorem ei_type (s : Shared) : s.TypeIs (.builtin "Exception.__init__") "wrapper_descriptor" := by
  first | decide +kernel | rfl | exact ⟨_, rfl⟩
theorem ei_typeOf : typeOf (.builtin "Exception.__init__") = pure (.type "wrapper_descriptor") := by kernel_rfl
section
variable {prog : Program} {w : World} {M : Model} {A : Around} {E : Value → Shared → Prop} {s : Shared} {x C : Addr}
theorem wd_run {Q : Fin → Shared → Prop} (L : Looks (model prog w) s.heap (isInstance (.ref x) (.type "Exception")) true)
    (hq : Q (.done (.ret (.ref s.heap.objs.size))) { s with heap := s.heap.push { cls := .type "method-wrapper", data := .fields #[.builtin "Exception.__init__", .ref x] } }) :
    wpAny (model prog w) A (Builtin.«wrapper_descriptor.__get__» ⟨[.builtin "Exception.__init__", .ref x, .ref C], []⟩) Q E s := by
  refine wpAny_bind (wpAny_pure (a := (Value.builtin "Exception.__init__", some (Value.ref x), some (Value.ref C))) ?_)
  refine wpAny_bind (wpAny_bind (wpAny_bind (wpAny_pure ?_)))
  rw [show "Exception.__init__".cutAt '.' = ["Exception", "__init__"] by decide +kernel]
  rw [show (".".intercalate (["Exception", "__init__"] : List String).dropLast) = "Exception" by decide +kernel]
  refine wpAny_pure ?_
  refine wpAny_bind (L.here ?_)
  refine wpAny_pure ?_
  refine wpAny_bind ?_
  obtain ⟨hp, g, d, tk, os⟩ := s
  unfold newFields
  repeat (first | (with_reducible refine wpAny_newObj_type ?_ (by size_fits)) | wp_step)
  exact hq
theorem ei_super_ga {so D : Addr} {K : Frag} {tk : Tok} {h : Heap} {g : Array GenState} {d : Drawn} {t : Nat} {os : OsState} {Q : Fin → Shared → Prop} {l : List Value}
    (hso : h.get? so = some { cls := .type "super", dict := none, data := .fields #[.ref D, .ref x, .ref C], slots := #[] }) (hno : Looks (model prog w) h (opaqueClassAbove (.ref C)) none)
    {l₀ : List Value} (hC : Looks (model prog w) h (mroOf (.ref C)) l₀) (hl : (l₀.dropWhile (· != .ref D)).drop 1 = l) (X : K.In h)
    (hf : alongIn K "__init__" l = some (some (.builtin "Exception.__init__"))) (hxC : x ≠ C) (L : Looks (model prog w) h (isInstance (.ref x) (.type "Exception")) true)
    (hq : Q (.done (.ret (.ref h.objs.size))) ⟨h.push { cls := .type "method-wrapper", data := .fields #[.builtin "Exception.__init__", .ref x] }, g, d, t, os⟩) :
    wpAny (model prog w) A (Builtin.«super.__getattribute__» ⟨[.ref so, .str "__init__" tk], []⟩) Q E ⟨h, g, d, t, os⟩ := by
  have hlk := wd_slot.lookup
  have hne : (Value.ref x == Value.ref C) = false := by simp [hxC]
  have hn : (("__init__" : Str) == ("__class__" : Str)) = false := by decide
  have hTf : (⟨h, g, d, t, os⟩ : Shared).TypeIs (.builtin "Exception.__init__") "wrapper_descriptor" := ei_type _
  have hdt : ({ cls := .type "super", dict := none, data := .fields #[.ref D, .ref x, .ref C], slots := #[] } : Obj).data = .fields #[.ref D, .ref x, .ref C] := rfl
  have f0 : (#[.ref D, .ref x, .ref C] : Array Value)[0]? = some (.ref D) := rfl
  have f1 : (#[.ref D, .ref x, .ref C] : Array Value)[1]? = some (.ref x) := rfl
  have f2 : (#[.ref D, .ref x, .ref C] : Array Value)[2]? = some (.ref C) := rfl
  unfold Builtin.«super.__getattribute__»
  repeat (first
    | (with_reducible refine wpAny_field hso hdt f0 ?_) | (with_reducible refine wpAny_field hso hdt f1 ?_) | (with_reducible refine wpAny_field hso hdt f2 ?_)
    | (with_reducible refine ks_wpAny_notOpaque hno ?_)
    | (with_reducible refine Looks.at hC ?_; rw [hl])
    | (refine ks_forIn_along X (fun _ _ => rfl) rfl ?_ hf)
    | (with_reducible refine wpAny_typeOf hTf ?_)
    | (with_reducible refine wpAny_call_entry wd_slot hTf wd_entry ?_ (wd_args _ _ _); refine wd_run (s := ⟨h, g, d, t, os⟩) L ?_)
    | (with_reducible refine ⟨_, rfl, ?_⟩)
    | (simp only [hn, hne, Bool.or_false, Bool.false_eq_true, if_false])
    | wp_step
    | dsimp only)
  all_goals exact hq
theorem ei_getMethod {so D : Addr} {K : Frag} {h : Heap} {g : Array GenState} {d : Drawn} {t : Nat} {os : OsState} {pl : Sem Bool} {Q : Value × List Value → Shared → Prop} {l l₀ : List Value}
    (hso : h.get? so = some { cls := .type "super", dict := none, data := .fields #[.ref D, .ref x, .ref C], slots := #[] }) (hno : Looks (model prog w) h (opaqueClassAbove (.ref C)) none)
    (hC : Looks (model prog w) h (mroOf (.ref C)) l₀) (hl : (l₀.dropWhile (· != .ref D)).drop 1 = l) (X : K.In h)
    (hf : alongIn K "__init__" l = some (some (.builtin "Exception.__init__"))) (hxC : x ≠ C) (L : Looks (model prog w) h (isInstance (.ref x) (.type "Exception")) true)
    (hq : Q (.ref h.objs.size, []) ⟨h.push { cls := .type "method-wrapper", data := .fields #[.builtin "Exception.__init__", .ref x] }, g, d, t + 1, os⟩) :
    wpAny (model prog w) A (getMethod (.ref so) "__init__" pl) Q E ⟨h, g, d, t, os⟩ := by
  have hlk := F.ks_slot_super_ga.lookup
  have hcan := F.ks_canon_super_ga
  have hT : ∀ t', (⟨h, g, d, t', os⟩ : Shared).TypeIs (.ref so) "super" := fun _ => ⟨_, hso, rfl⟩
  unfold getMethod
  refine wpAny_bind (wpAny_specialOf (hT _) hlk ?_)
  show wpAny _ _ (if (Manifest.canonical "super.__getattribute__" != "object.__getattribute__") = true then _ else _) _ _ _
  rw [if_pos hcan]
  unfold getAttr getAttrBy
  refine wpAny_bind (wpAny_bind (wpAny_mkText (wpAny_holding (wpAny_bind (wpAny_typeOf (hT _) (wpAny_bind (wpAny_of_eq hlk ?_)))))))
  show wpAny _ _ (getAttrByItsOwn (.ref so) (.str "__init__" t) (.type "super") (.builtin "super.__getattribute__") true false) _ _ _
  unfold getAttrByItsOwn hookBefore callGetattribute boundAndCalled
  refine wpAny_bind (wpAny_of_eq (show (if onTheHeap (.type "super") then typeLookup (.type "super") "__getattr__" else pure none) = pure none from rfl) ?_)
  refine wpAny_bind (wpAny_attempt (wpAny_holding ?_))
  show wpAny _ _ (bindSpecial (.builtin "super.__getattribute__") (.ref so) >>= _) _ _ _
  refine wpAny_bind (wpAny_of_eq (F.ks_slot_super_ga.bind _) ?_)
  refine wpAny_mono (Q := fun v s' => v = .ref h.objs.size ∧ s' = ⟨h.push { cls := .type "method-wrapper", data := .fields #[.builtin "Exception.__init__", .ref x] }, g, d, t + 1, os⟩) (E := fun _ _ => False)
    (wpAny_call_entry F.ks_slot_super_ga (hT _) F.ks_entry_super_ga (ei_super_ga hso hno hC hl X hf hxC L ⟨_, rfl, rfl, rfl⟩) (F.ks_gaArgs_super _ _)) (fun v s' hv => ?_) fun _ _ z => z.elim
  obtain ⟨rfl, rfl⟩ := hv
  exact wpAny_pure (wpAny_pure hq)
theorem ei_bound {v : Value} {Q : Unit → Shared → Prop} {h : Heap} {g : Array GenState} {d : Drawn} {t : Nat} {os : OsState} {ox : Obj} {nm q : Str} {N : Addr} {bs bm : List Value} {hdct : Bool} {sn : List Str} {sub : List Value} {ab : Bool} {col : Option Bool} {dd : Option Addr} {k0 k1 k2 k3 k5 : Option Value} {newId : String}
    (hC : h.get? C = some (excClassObj nm q C N bs bm hdct sn sub ab col dd k0 k1 k2 k3 k5 newId)) (he : h.get? x = some ox) (hcls : ox.cls = .ref C) (hq : Q () ⟨h, g, d, t, os⟩) : wpAny (model prog w) A (checkBoundCall "Exception.__init__" ⟨[.ref x, v], []⟩) Q E ⟨h, g, d, t, os⟩ := by
  have FE := PySem.F.excCall_Exception
  unfold checkBoundCall
  simp only [FE.initKind, FE.initRow]
  repeat (first | (with_reducible refine wpAny_loadPart_at he ?_; rw [hcls]) | with_reducible refine wpAny_loadPart_at hC ?_ | wp_step)
  exact hq
/-- the bound initialiser, called -/
theorem ei_call {q t0 : Addr} {h : Heap} {g : Array GenState} {d : Drawn} {t : Nat} {os : OsState} {v : Value} {Q : Value → Shared → Prop} {sl : Array (Option Value)} {nm qn : Str} {N : Addr} {bs bm : List Value} {hdct : Bool} {sn : List Str} {sub : List Value} {ab : Bool} {col : Option Bool} {dd : Option Addr} {k0 k1 k2 k3 k5 : Option Value} {newId : String}
    (hC : h.get? C = some (excClassObj nm qn C N bs bm hdct sn sub ab col dd k0 k1 k2 k3 k5 newId)) (hq : h.get? q = some { cls := .type "method-wrapper", dict := none, data := .fields #[.builtin "Exception.__init__", .ref x], slots := #[] })
    (hx : h.get? x = some { cls := .ref C, dict := none, data := .fields #[.ref t0, .none, .none, .none, .bool false, .none], slots := sl })
    (k : Q .none ⟨(h.push { cls := .type "tuple", data := .seq #[v] }).update x (Obj.mapFields fun x => x.setIfInBounds 0 (.ref h.objs.size)), g, d, t, os⟩) :
    wpAny (model prog w) A (call (.ref q) [v]) Q E ⟨h, g, d, t, os⟩ := by
  have hx' := Heap.get?_push_of_some { cls := .type "tuple", data := .seq #[v] } hx
  refine wpAny_call (codeAny_of_tree ?_)
  show wpAny _ _ (callAny (.ref q) ⟨[v], []⟩) _ _ _
  unfold callAny
  refine wpAny_bind (wpAny_load hq ?_)
  dsimp only
  simp only [show (Value.type "method-wrapper" == Value.type "method" || Value.type "method-wrapper" == Value.type "builtin_function_or_method" || Value.type "method-wrapper" == Value.type "method-wrapper") = true by decide, show (Value.type "method-wrapper" != Value.type "method") = true by decide, if_true]
  refine wpAny_bind (ei_bound hC hx rfl ?_)
  have FE := PySem.F.excCall_Exception
  refine wpAny_bind (wpAny_pure ?_)
  refine wpAny_pure ⟨plainId_quiet (by decide +kernel) _, codeAny_builtin FE.initEntry ?_⟩
  rw [Around.under_plainId (by decide +kernel) _]
  unfold Builtin.«BaseException.__init__»
  wp_walk
  exact k
end
noncomputable abbrev mwObj (x : Addr) : Obj := { cls := .type "method-wrapper", dict := none, data := .fields #[.builtin "Exception.__init__", .ref x], slots := #[] }
noncomputable abbrev excObj (C t : Addr) (d : Option Addr) (sl : Array (Option Value)) : Obj := ⟨.ref C, d, .fields #[.ref t, .none, .none, .none, .bool false, .none], sl⟩
section
variable {prog : Program} {w : World} {A : Around} {E : Value → Shared → Prop} {s : Shared} {K : Frag} {x C D so t0 q L : Addr} {h₀ : Heap} {m : Str → Option Value} {v : Value} {sl : Array (Option Value)} {news : List (Addr × Obj)} {pl : Sem Bool}
theorem exc_method {Q : Value × List Value → Shared → Prop} (F : Fr h₀ L s.heap m) (X₀ : K.In h₀) (N : News h₀ L s.heap news) (hso : (so, ks_superObj D x C) ∈ news) (hx : (x, excObj C t0 none sl) ∈ news) (ho : nsIn K cStatics "thirdparty.any" = some none)
    (hp : excMro K C) (hm : ks_superIn K C D "__init__" = some (some (.builtin "Exception.__init__")))
    (h : ∀ q h', Fr h₀ L h' m → News h₀ L h' ((q, mwObj x) :: news) → (∀ p ∈ news, p.1 < q) → Q (.ref q, []) { s with heap := h', toks := s.toks + 1 }) : wpAny (model prog w) A (getMethod (.ref so) "__init__" pl) Q E s := by
  have X : K.In s.heap := X₀.keeps F.keep
  have I : InstAt s.heap x (excObj C t0 none sl) C none := ⟨(N _ hx).1, rfl, rfl, trivial⟩
  obtain ⟨hh, g, d, t, os⟩ := s
  obtain ⟨cd, hc, hmro⟩ := hp.cls
  unfold ks_superIn at hm
  rw [hc] at hm
  refine ei_getMethod (N _ hso).1 (looks_opaque X ho) (l₀ := cd.mro) ?_ rfl X hm (ks_ne X I hc) (I.type.andThen (looks_mroIn X (by unfold mroIn; rw [hc, Option.bind_some, hmro]; rfl))) ?_
  · exact fun A Q E s k q => wpAny_bind ((looks_clsIn X hc) A _ E s k (wpAny_pure q))
  · obtain ⟨F', N', l'⟩ := ks_newsPush (s := ⟨hh, g, d, t, os⟩) (o := mwObj x) F N rfl (Heap.get?_push_at rfl rfl) (fun b o e => Heap.get?_push_of_some _ e)
    exact h _ _ F' N' l'
theorem exc_initcall {Q : Value → Shared → Prop} {g : Obj → Led} {nm qn : Str} {Na : Addr} {bs bm : List Value} {hdct : Bool} {sn : List Str} {sub : List Value} {ab : Bool} {col : Option Bool} {dd : Option Addr} {k0 k1 k2 k3 k5 : Option Value} {newId : String}
    (F : Fr h₀ L s.heap m) (X₀ : K.In h₀) (N : News h₀ L s.heap news) (hC : K.lookup C = some (excClassObj nm qn C Na bs bm hdct sn sub ab col dd k0 k1 k2 k3 k5 newId))
    (hq : (q, mwObj x) ∈ news) (U : UpdF x (excObj C t0 none sl) news g)
    (h : ∀ h' t1, Fr h₀ L h' m → News h₀ L h' ((t1, { cls := .type "tuple", data := .seq #[v] }) :: g (excObj C t1 none sl)) → (∀ p ∈ news, p.1 < t1) → Q .none { s with heap := h' }) :
    wpAny (model prog w) A (call (.ref q) [v]) Q E s := by
  have X : K.In s.heap := X₀.keeps F.keep
  obtain ⟨pre, post, rfl, hg, a, b⟩ := U.split
  have hx := (N (x, excObj C t0 none sl) (by simp)).1
  have lt : ∀ p ∈ pre ++ (x, excObj C t0 none sl) :: post, p.1 < s.heap.objs.size := fun p hp => Heap.lt_size (N p hp).1
  have F1 := F.push { cls := .type "tuple", data := .seq #[v] }
  have N1 : News h₀ L (s.heap.push { cls := .type "tuple", data := .seq #[v] }) (((s.heap.objs.size, { cls := .type "tuple", data := .seq #[v] }) :: pre) ++ (x, excObj C t0 none sl) :: post) := (ks_newsPush F N rfl (Heap.get?_push_at rfl rfl) (fun b o e => Heap.get?_push_of_some _ e)).2.1
  have xs : x ≠ s.heap.objs.size := Nat.ne_of_lt (lt (x, excObj C t0 none sl) (by simp))
  obtain ⟨F2, N2⟩ := news_upd (o' := excObj C s.heap.objs.size none sl) (f := Obj.mapFields fun x => x.setIfInBounds 0 (.ref s.heap.objs.size)) F1 N1 (fun p hp => by rcases List.mem_cons.mp hp with rfl | hp; exact Ne.symm xs; exact a p hp) b rfl rfl
  have hq' := (N _ hq).1
  obtain ⟨hh, gg, d, t, os⟩ := s
  exact ei_call (X _ _ hC) hq' hx (h _ _ F2 (by rw [hg]; exact N2) lt)
theorem mw_keeper {x q : Addr} {Q : Keeper → Shared → Prop} (hq : s.heap.get? q = some (mwObj x)) (h : Q .machine s) : wpAny (model prog w) A (keeperOf (.ref q)) Q E s := by
  obtain ⟨hh, g, d, t, os⟩ := s
  have hT : (⟨hh, g, d, t, os⟩ : Shared).TypeIs (.ref q) "method-wrapper" := ⟨_, hq, rfl⟩
  unfold keeperOf
  repeat (any_goals (first | assumption | with_reducible refine wpAny_loadPart_at hq ?_ | with_reducible refine wpAny_load hq ?_ | wp_step))
theorem mw_callWith {x q : Addr} {pos : Pos} {as : List (Bool × Sem Value)} {Q : Value → Shared → Prop} (hplain : as.any (·.1) = false)
    (h : wpAny (model prog w) A (evalArgs (.ref q) true as []) (fun a s₂ => a.kw = [] ∧ s₂.heap.get? q = some (mwObj x) ∧ wpAny (model prog w) A (call (.ref q) a.pos) Q E s₂) E s) :
    wpAny (model prog w) A (callWith pos (.ref q) [] as []) Q E s := by
  unfold callWith
  refine wpAny_bind (wpAny_holding (wpAny_mono h (fun a s₂ h₂ => wpAny_bind (wpAny_standAt ?_)) fun _ _ x => x))
  obtain ⟨apos, akw⟩ := a
  obtain ⟨hkw, hq, h₂⟩ := h₂
  obtain rfl : akw = [] := hkw
  simp only [hplain]
  refine wpAny_bind (mw_keeper hq ?_)
  refine wpAny_bind (wpAny_mono h₂ (fun v s₃ h₃ => wpAny_bind (wpAny_holding (wpAny_point (wpAny_pure h₃)))) fun _ _ x => x)
theorem mw_callWith1 {x q : Addr} {pos : Pos} {t : Sem Value} {Q : Value → Shared → Prop}
    (h : wpAny (model prog w) A t (fun v s₁ => s₁.heap.get? q = some (mwObj x) ∧ wpAny (model prog w) A (call (.ref q) [v]) Q E s₁) E s) : wpAny (model prog w) A (callWith pos (.ref q) [] [(false, t)] []) Q E s :=
  mw_callWith rfl (Calls.evalArgs_plain (Calls.spliced_cons (wpAny_mono h (fun _ _ h₁ => Calls.spliced_nil ⟨rfl, h₁.1, h₁.2⟩) fun _ _ e => e)))
end
end P_XB

section P_XI
open PySem PySem.W PyProof.Rows PySem.Calls PySem.Spec
set_option maxRecDepth 100000
set_option maxHeartbeats 8000000
theorem kw_XI_0 : True := by
  k_with_none
  k_with "k_ne" => first | exact nem1 (by with_reducible assumption) (by tb_rel) | exact nem2 (by with_reducible assumption) (by tb_rel)
  trivial
theorem kw_XI_1 : True := by
  k_with "wpAt" => first | ((ks_step "attributeBase Call"; k_here; k_dflt (refine ks_node (odx := none) (by k_asm) (by k_asm) (by k_asm) (by k_asm) (by k_is) (by rfl) (by rfl) (by (rename News _ _ _ _ => nX9); exact ⟨(nX9 (_, excObj _ _ none _) (by tb_rel)).1, rfl, rfl, trivial⟩) (by k_is) (by rfl) (by first | rfl | decide +kernel) (by k_is) (by k_is) (by k_is) (by k_is) (by decide) (by rfl) (by rfl) (by rfl) (by rfl) (by decide +kernel) (by first | boot_by_name | rfl | kernel_rfl) ?_; intro so' h' F' N' l1; (try k_lt l1))))
  trivial
theorem kw_XI_2 : True := by
  k_with "getMethod ref" => first | ((k_here; k_dflt (refine' exc_method ?k1 ?k2 ?k3 ?k4 ?k5 ?k6 ?k7 ?k8 ?_; (case k1 => k_asm); (case k2 => k_asm); (case k3 => k_asm); (case k4 => tb_rel); (case k5 => tb_rel); (case k6 => k_is); (case k7 => (unfold excMro; rfl)); (case k8 => rfl); intro q' h' F' N' l1; (try k_lt l1))))
  trivial
theorem kw_XI_3 : True := by
  k_with "call ref" => first | ((k_here; k_dflt (refine' exc_initcall ?k1 ?k2 ?k3 ?k4 ?k5 ?k6 ?_; (case k1 => k_asm); (case k2 => k_asm); (case k3 => k_asm); (case k5 => tb_rel); (case k4 => exact rfl); (case k6 => k_updF); intro h' t1 F' N' l1; (try k_lt l1); (try dsimp only at N'))))
  trivial
theorem kw_XI_4 : True := by
  k_with "setAttr ref" => first | ((k_here; k_dflt (first
  | (refine' exc_set0 ?k1 ?k2 ?k3 ?k4 ?k5 ?k6 ?k7 ?k8 ?_; (case k1 => k_asm); (case k2 => k_asm); (case k3 => k_asm); (case k4 => k_updF); (case k5 => exact rfl); (case k6 => (unfold excMro; rfl)); (case k7 => exact rfl); (case k8 => exact rfl); intro h' d1 F' N' l1; (try k_lt l1); (try dsimp only at N'))
  | (refine' exc_set1 ?k1 ?k2 ?k3 ?k4 ?k13 ?k5 ?k6 ?k7 ?k8 ?k9 ?k10 ?k11 ?k12 ?_; (case k1 => k_asm); (case k2 => k_asm); (case k3 => k_asm); (case k4 => tb_rel); (case k13 => tb_rel); (case k5 => exact rfl); (case k6 => (unfold excMro; rfl)); (case k7 => exact rfl); (case k8 => exact rfl); (case k9 => k_get); (case k10 => k_put); (case k11 => k_upd); (case k12 => exact Nat.le_of_ble_eq_true rfl); intro h' F' N'))))
  trivial

inductive Cls34 (w : World) : Prop where
  | mk {nm qn bs hdct sn sub ab col dd k0 k1 k2 k3 k5} (h : (hd.heap_1 w.params).lookup 34 = some (excClassObj nm qn 34 33 bs [.type "Exception", .type "BaseException", .type "object"] hdct sn sub ab col dd k0 k1 k2 k3 k5 "Exception.__new__")) : Cls34 w
theorem cls34 (w : World) : Cls34 w := .mk rfl
theorem init_spec {w : World} {p : Program} {loose : List Str} {mean : ExcName → Option Value} {mg mb : Str → Option Value} {dp un : Nat} {gd : Option (List Code)} {cn : Str} {cs : Scope} {a : Addr} {ccd : Value} {cl : List (Str × Addr)} {outer : List Env} {A₀ : Around} {base h₀ : Heap} {L : Addr} {m : Str → Option Value} {news : List (Addr × Obj)} {s : Shared}
    {Q E : Value → Shared → Prop} {e t0 : Addr} {kd : Str} {k1 k2 : Tok} {sl : Array (Option Value)}
    (B : Below A₀ base outer h₀) (F : Fr h₀ L s.heap m) (X : (hd.heap_1 w.params).In h₀) (N : News h₀ L s.heap ((e, excObj 34 t0 none sl) :: news)) (T : Top p loose mean mg mb h₀) (hk : cs.kind = .function)
    (hd1 : dp + 10 < recursionLimit) (hu1 : un + 40 < cLine) (hap : Apart e news)
    (h : ∀ h' tk' q so t1 dx h1 h2 a1 a2 k5, Fr h₀ L h' m → News h₀ L h' ((dx, dictOf [⟨h1, .str (Str.ofString "number") a1, .int 8 k1⟩, ⟨h2, .str (Str.ofString "told") a2, .str kd k2⟩] 2) :: (t1, { cls := .type "tuple", data := .seq #[.str (Str.ofString "error") k5] }) :: (q, mwObj e) :: (so, ks_superObj 34 e 34) :: (e, excObj 34 t1 (some dx) sl) :: news) → Apart t1 news → Q .none { s with heap := h', toks := tk' }) :
    wpAny (model PySem.Challenge.rw_pf0366_01.row.prog w) (ktrTop dp un gd cn cs L a ccd cl outer) (call (.ref 31) [.ref e, .int 8 k1, .str kd k2]) Q E s := by
  revert X; k_fill; intro X
  refine wpAny_call ?_
  k_dflt (refine' ks_code_super ?k1 ?k2 ?k3 ?k4 ?k5 ?kA ?kF ?kK ?k6 ?k7 ?k8 ?k9 ?kB ?_ ?c1 ?c2 ?c3 ?c4; (case kA => exact rfl); (case kF => exact rfl); (case kK => exact hk); (case k1 => k_asm); (case k2 => k_asm); (case k3 => k_asm); (case k4 => k_asm); (case k5 => k_asm); (case k6 => k_is); (case k7 => k_is); (case k8 => ktr_room); (case k9 => exact BindsTo.of_defaults (binds := [(("self" : Str), Value.ref e), (("number" : Str), Value.int 8 k1), (("told" : Str), Value.str kd k2)]) rfl ((X.keeps F.keep) 23 _ rfl) rfl rfl rfl); (case kB => exact locs rfl); (case c1 => decide); (case c2 => exact rfl); (case c3 => exact rfl); (case c4 => exact rfl); intro g' L' h' FG' F' N' B' X' T' l1; (try k_lt l1); (try dsimp only); (try k_lift B'))
  k_steps
  k_dflt refine mw_callWith1 (x := e) ?_
  rw [if_neg Bool.false_ne_true]
  k_steps
  · (rename News _ _ _ _ => nX9); exact (nX9 (_, mwObj e) (by tb_rel)).1
  obtain ⟨hC34⟩ := cls34 w
  refine' exc_initcall ?k1 ?k2 ?k3 ?k4 ?k5 ?k6 ?_; (case k1 => k_asm); (case k2 => k_asm); (case k3 => k_asm); (case k4 => exact hC34); (case k5 => tb_rel); (case k6 => k_updF); intro h' t1 F' N' l1; (try k_lt l1); (try dsimp only at N')
  k_steps
  exact h _ _ _ _ _ _ _ _ _ _ _ (by with_reducible assumption) (by with_reducible assumption) (by ktr_rel)
end P_XI

section P_XC
open PySem PySem.W PyProof.Rows PySem.Calls PySem.Spec
set_option maxRecDepth 100000
theorem under_make {dp un : Nat} {gd : Option (List Code)} {cn : Str} {cs : Scope} {L a C : Addr} {ccd : Value} {cl : List (Str × Addr)} {outer : List Env} {rest : List Value} :
    ∃ k, k ≤ 3 ∧ (ktrTop dp un gd cn cs L a ccd cl outer).under (.builtin "type.__call__" ⟨.ref C :: rest, []⟩) = ktrTop (dp + 1) (un + k) gd cn cs L a ccd cl outer := by
  refine ⟨(Code.builtin "type.__call__" ⟨.ref C :: rest, []⟩).cUnits, ?_, ?_⟩
  · show _ ≤ 3
    first | decide | rfl | exact Nat.le_of_ble_eq_true rfl
  · cases gd <;> rfl
theorem ns_some_of {K : Frag} {h : Heap} {N : Addr} {mg : Str → Option Value} {n : Str} {v : Value} (X : K.In h) (G : h.Ns N mg) (e : nsIn K N n = some (some v)) : mg n = some v := by
  obtain ⟨o, es, ep, ho, hd, _, hf⟩ := G
  unfold nsIn at e
  split at e
  · rename_i c d es' n' sl q
    have := X _ _ q
    rw [ho] at this
    cases this
    cases hd
    split at e
    · rename_i en he
      cases e
      rw [← hf]
      unfold nsFind findBy
      rw [← Array.find?_toList, he]
      rfl
    · split at e <;> cases e
  · cases e
theorem ns33 (w : World) : nsOkIn (hd.heap_1 w.params) 33 = true := by first | rfl | kernel_rfl
theorem ns33i (w : World) : nsIn (hd.heap_1 w.params) 33 "__init__" = some (some (.ref 31)) := by first | rfl | kernel_rfl
/-- the call of the own error's class -/
theorem exc_call {w : World} {p : Program} {loose : List Str} {mean : ExcName → Option Value} {mg mb : Str → Option Value} {dp un : Nat} {gd : Option (List Code)} {cn : Str} {cs : Scope} {a : Addr} {ccd : Value} {cl : List (Str × Addr)} {outer : List Env} {A₀ : Around} {base h₀ : Heap} {L : Addr} {m : Str → Option Value} {news : List (Addr × Obj)} {s : Shared}
    {Q E : Value → Shared → Prop} {kd : Str} {k1 k2 : Tok}
    (B : Below A₀ base outer h₀) (F : Fr h₀ L s.heap m) (X : (hd.heap_1 w.params).In h₀) (N : News h₀ L s.heap news) (T : Top p loose mean mg mb h₀) (hk : cs.kind = .function)
    (hd1 : dp + 12 < recursionLimit) (hu1 : un + 50 < cLine)
    (h : ∀ e h' tk' t1 dx h1 h2 a1 a2 k5 sl, Fr h₀ L h' m → News h₀ L h' ((dx, dictOf [⟨h1, .str (Str.ofString "number") a1, .int 8 k1⟩, ⟨h2, .str (Str.ofString "told") a2, .str kd k2⟩] 2) :: (t1, { cls := .type "tuple", data := .seq #[.str (Str.ofString "error") k5] }) :: (e, excObj 34 t1 (some dx) sl) :: news) → Apart e news → Apart t1 news → Q (.ref e) { s with heap := h', toks := tk' }) :
    wpAny (model PySem.Challenge.rw_pf0366_01.row.prog w) (ktrTop dp un gd cn cs L a ccd cl outer) (call (.ref 34) [.int 8 k1, .str kd k2]) Q E s := by
  obtain ⟨hC34⟩ := cls34 w
  have X' := X.keeps F.keep
  have hN : s.heap.Ns 33 (s.heap.nsMap 33) := .of_isNs (isNs_of_in X' (ns33 w))
  have hi := ns_some_of X' hN (ns33i w)
  obtain ⟨hh, g, d, t, os⟩ := s
  refine wpAny_call_exc_init PySem.F.excBase_Exception (X' _ _ hC34) hN hi (X' 31 _ rfl) rfl ?_
  intro h' e M
  obtain ⟨ku, hku, he⟩ := under_make (dp := dp) (un := un) (gd := gd) (cn := cn) (cs := cs) (L := L) (a := a) (C := 34) (ccd := ccd) (cl := cl) (outer := outer) (rest := [.int 8 k1, .str kd k2])
  rw [he]
  obtain ⟨t0, he0, ht0, hT⟩ := M.there
  have F' : Fr h₀ L h' m := F.after M.keeps
  have hnL : e ≠ L := by
    rintro rfl
    obtain ⟨o, _, _, ho, _⟩ := F.ns
    have := M.new
    rw [ho] at this; cases this
  have hn0 : h₀.get? e = none := by
    cases q : h₀.get? e with
    | none => rfl
    | some o => have := F.keep _ _ q; rw [M.new] at this; cases this
  have hap : Apart e news := fun q hq z => by have := (N q hq).1; rw [z, M.new] at this; cases this
  have N' : News h₀ L h' ((e, excObj 34 t0 none #[]) :: news) := by
    intro q hq
    rcases List.mem_cons.mp hq with rfl | hq
    · exact ⟨he0, hnL, hn0⟩
    · exact ⟨M.keeps _ _ (N q hq).1, (N q hq).2⟩
  refine init_spec (s := ⟨h', g, d, t, os⟩) B F' X N' T hk (by omega) (by omega) hap ?_
  intro h'' tk' q so t1 dx h1 h2 a1 a2 k5 F'' N'' hat
  refine ⟨rfl, h e h'' tk' t1 dx h1 h2 a1 a2 k5 #[] F'' (news_drop N'' ?_) hap hat⟩
  intro p hp
  simp only [List.mem_cons] at hp ⊢
  rcases hp with rfl | rfl | rfl | hp
  · exact .inl rfl
  · exact .inr (.inl rfl)
  · exact .inr (.inr (.inr (.inr (.inl rfl))))
  · exact .inr (.inr (.inr (.inr (.inr hp))))
/-- what a raise of the own error hands on -/
inductive RaisD (E : Value → Shared → Prop) : Value → Shared → Prop where
  | mk {s₁ : Shared} {e t d sl nm qn bs hdct sn sub ab col dd k0 k1 k2 k3 k5} (hC : s₁.heap.get? 34 = some (excClassObj nm qn 34 33 bs [.type "Exception", .type "BaseException", .type "object"] hdct sn sub ab col dd k0 k1 k2 k3 k5 "Exception.__new__")) (he : s₁.heap.get? e = some (excObj 34 t d sl)) (hE : E (.ref e) s₁) : RaisD E (.ref e) s₁
theorem raisD_of {w : World} {h₀ : Heap} {L : Addr} {m : Str → Option Value} {news : Led} {s₁ : Shared} {E : Value → Shared → Prop} {e t : Addr} {d : Option Addr} {sl : Array (Option Value)} (F : Fr h₀ L s₁.heap m) (X : (hd.heap_1 w.params).In h₀) (N : News h₀ L s₁.heap news) (hm : (e, excObj 34 t d sl) ∈ news) (hE : E (.ref e) s₁) : RaisD E (.ref e) s₁ := by
  obtain ⟨hC34⟩ := cls34 w
  exact .mk ((X.keeps F.keep) _ _ hC34) (N _ hm).1 hE
theorem Raise_D {M : Model} {A : Around} {E : Value → Shared → Prop} {s : Shared} {env : Env} {e : PySem.Expr} {pos : Pos} {Q : Flow → Shared → Prop} (hh : A.handled = none)
    (h : wpAny M A (eval e env) (RaisD E) E s) : wpAny M A (exec (.Raise (some e) none pos) env) Q E s := by
  show wpAny M A (do standAt pos; raiseStmt env (some (do let v ← eval e env; standAt pos; pure v)) none) Q E s
  refine wpAny_bind (wpAny_standAt ?_)
  unfold raiseStmt
  dsimp only
  refine wpAny_bind (wpAny_bind (wpAny_mono h (fun v s₁ h₁ => wpAny_bind (wpAny_standAt (wpAny_pure ?_))) fun _ _ x => x))
  obtain ⟨hC, he, hE⟩ := h₁
  have hcB : (Value.ref 34 :: [Value.type "Exception", Value.type "BaseException", Value.type "object"]).contains (.type "BaseException") = true := by decide
  obtain ⟨hp, g, dr, tk, os⟩ := s₁
  repeat (first | with_reducible refine wpAny_loadPart_at he ?_ | with_reducible refine wpAny_loadPart_at hC ?_ | (with_reducible refine wpAny_isSubtype_exc hC ?_; rw [hcB]) | wp_step)
  exact wpAny_raiseNew_none hh hE
end P_XC

section P_XR
open PySem PySem.W PyProof.Rows PySem.Calls PySem.Spec
set_option maxRecDepth 100000
section
variable {M : Model} {A : Around} {E : Value → Shared → Prop} {s' : Shared} {base g h : Heap} {outer : List Env} {L a e : Addr} {m : Str → Option Value} {name : Str} {scope : Scope} {cd : Value} {Q : Unit → Shared → Prop} {news : Led}
theorem leave_raiseD {t1 dx : Addr} {vs : List Value} {od : Obj} {sl : Array (Option Value)} (K : Below A base outer g) (F : Fr g L s'.heap m)
    (N : News g L s'.heap ((dx, od) :: (t1, { cls := .type "tuple", data := .seq vs.toArray }) :: (e, excObj 34 t1 (some dx) sl) :: news)) (h8 : Num8 od) (ha : Apart e news) (ht : Apart t1 news)
    (hQ : ∀ h', RaisedD base outer e news h' → g.UpToSlots h' → Q () { s' with heap := h' }) (hk : scope.kind = .function := by rfl) :
    wpAny M (A.deeper (envOf name scope L a cd)) (leaving (envOf name scope L a cd) (.ref e)) Q E s' := by
  have K' := K.push (name := name) (a := a) (cd := cd) F hk
  have Ne := N (e, excObj 34 t1 (some dx) sl) (.tail _ (.tail _ (.head _)))
  have Nt := N (t1, { cls := .type "tuple", data := .seq vs.toArray }) (.tail _ (.head _))
  have Nd := N (dx, od) (.head _)
  have fr : ∀ q : Addr × Obj, s'.heap.get? q.1 = some q.2 ∧ q.1 ≠ L ∧ g.get? q.1 = none → q.1 ∉ (envOf name scope L a cd :: outer).filterMap (·.frame) := fun q Nq hm => by
    obtain ⟨env, he, hf⟩ := List.mem_filterMap.mp hm
    rcases List.mem_cons.mp he with rfl | he
    · exact Nq.2.1 (Option.some.inj hf).symm
    · obtain ⟨o, ho, _⟩ := (K.frames.mem (List.mem_filterMap.mpr ⟨env, he, hf⟩)).2
      rw [Nq.2.2] at ho; cases ho
  have hde : dx ≠ e := by
    rintro rfl
    have := Nd.1.symm.trans Ne.1
    obtain ⟨_, _, _, _, _, _, _, _, rfl⟩ := h8
    cases this
  have hdt : dx ≠ t1 := by
    rintro rfl
    have := Nd.1.symm.trans Nt.1
    obtain ⟨_, _, _, _, _, _, _, _, rfl⟩ := h8
    have z := congrArg Obj.data (Option.some.inj this)
    cases z
  have hin : ∀ env ∈ (envOf name scope L a cd :: outer), ∀ b, env.frame = some b → b ∈ e :: t1 :: (envOf name scope L a cd :: outer).filterMap (·.frame) := fun env he b hb => .tail _ (.tail _ (List.mem_filterMap.mpr ⟨env, he, hb⟩))
  have out : ∀ q : Addr × Obj, s'.heap.get? q.1 = some q.2 ∧ q.1 ≠ L ∧ g.get? q.1 = none → q.1 ≠ e → q.1 ≠ t1 → q.1 ∉ e :: t1 :: (envOf name scope L a cd :: outer).filterMap (·.frame) := fun q Nq h1 h2 hm => by
    rcases List.mem_cons.mp hm with z | hm
    · exact h1 z
    · rcases List.mem_cons.mp hm with z | hm
      · exact h2 z
      · exact fr q Nq hm
  have be : base.get? e = none := fresh_of_stays K.stays Ne.2.2
  have bt : base.get? t1 = none := fresh_of_stays K.stays Nt.2.2
  have st : base.StaysIn (hideAll s'.heap (e :: t1 :: (envOf name scope L a cd :: outer).filterMap (·.frame))) := fun b o q => hideAll_get _ (K'.stays b o q) fun hm => by
    rcases List.mem_cons.mp hm with z | hm
    · rw [z, be] at q; cases q
    · rcases List.mem_cons.mp hm with z | hm
      · rw [z, bt] at q; cases q
      · rw [(K'.frames.mem hm).1] at q; cases q
  have hl : ∀ q ∈ (dx, od) :: news, (hideAll s'.heap (e :: t1 :: (envOf name scope L a cd :: outer).filterMap (·.frame))).get? q.1 = some q.2 ∧ base.get? q.1 = none := fun q hq => by
    rcases List.mem_cons.mp hq with rfl | hq
    · exact ⟨hideAll_get _ Nd.1 (out _ Nd hde hdt), fresh_of_stays K.stays Nd.2.2⟩
    · have Nq := N q (.tail _ (.tail _ (.tail _ hq)))
      exact ⟨hideAll_get _ Nq.1 (out _ Nq (ha q hq) (ht q hq)), fresh_of_stays K.stays Nq.2.2⟩
  have W := wpAny_leaving_firstW (M := M) (E := E) (s := s') (base := hideAll s'.heap (e :: t1 :: (envOf name scope L a cd :: outer).filterMap (·.frame))) (env := envOf name scope L a cd) (outer := outer) (a0 := .ref t1)
    (Q := fun _ s'' => ∃ h', s'' = { s' with heap := h' } ∧ Heap.LeftW (hideAll s'.heap (e :: t1 :: (envOf name scope L a cd :: outer).filterMap (·.frame))) (envOf name scope L a cd :: outer) e (.ref 34) (.ref t1) s'.heap h')
    K'.stack (funFrames_hide K'.frames hin) rfl Ne.1 (fun b o q => of_hideAll _ q) (hideAll_none _ (.head _)) rfl rfl rfl fun h' hL => ⟨h', rfl, hL⟩
  refine wpAny_mono (wpAny_keepsD (kd_leaving _ _) W) ?_ fun _ _ x => x.1
  rintro _ s'' ⟨⟨h', rfl, hL⟩, hk⟩
  obtain ⟨oe', he', hd'⟩ := hk e _ Ne.1
  obtain ⟨k1, ⟨_, _, k2⟩, k3, k4⟩ := hL
  exact hQ h' ⟨t1, vs, dx, od, ⟨⟨_, st, hl, ⟨k1, hideAll_none _ (.head _), k2, k3⟩, hideAll_none _ (.tail _ (.head _))⟩, Heap.TupAt.of_slots ⟨_, _, Nt.1, rfl, rfl⟩ k4⟩, ⟨oe', he', hd'⟩, h8⟩ ((Heap.UpToSlots.of_keeps F.keep).trans k4)
end
end P_XR

section P_NN
open PySem PySem.W PyProof.Rows PySem.Calls PySem.Spec
set_option maxRecDepth 100000
set_option maxHeartbeats 8000000
theorem kw_NN_0 : True := by
  k_with_none
  k_with "k_ne" => first | exact nem1 (by with_reducible assumption) (by tb_rel) | exact nem2 (by with_reducible assumption) (by tb_rel)
  trivial

structure NinS (x : Str) (ys : List Str) (b : Bool) : Prop where
  h : (!(ys.any (· == x))) = b
theorem notin_known {M' : Program} {w : World} {A : Around} {E : Value → Shared → Prop} {s : Shared} {h₀ : Heap} {L : Addr} {led : Led} {D : Addr} {n : Nat} {x : Str} {u : Tok} {y1 y2 y3 : Str} {t1 t2 t3 : Tok} {b : Bool} {Q : Value → Shared → Prop} (N : News h₀ L s.heap led) (hm : (D, tupOf #[.str y1 t1, .str y2 t2, .str y3 t3] n) ∈ led) (H : NinS x [y1, y2, y3] b) (h : Q (.bool b) s) :
    wpAny (model M' w) A (compareOp .NotIn (.str x u) (.ref D)) Q E s :=
  notin_tuple_strs (News.isTup N hm) (StrsAre.cons _ _ (StrsAre.cons _ _ (StrsAre.cons _ _ StrsAre.nil))) (by rw [H.h]; exact h)
theorem kw_NN_1 : True := by
  k_with "subscriptTail Name Constant ref int" => first | ((
    k_here
    k_dflt (first
      | ((with_reducible show wpAny _ _ (subscriptTail _ _ (Value.ref _) (Value.int 0 _)) _ _ _); refine' tup_at0 ?N ?m ?_; (case N => k_asm); (case m => tb_rel))
      | ((with_reducible show wpAny _ _ (subscriptTail _ _ (Value.ref _) (Value.int 1 _)) _ _ _); refine' tup_at1 ?N ?m ?_; (case N => k_asm); (case m => tb_rel))
      | ((with_reducible show wpAny _ _ (subscriptTail _ _ (Value.ref _) (Value.int 2 _)) _ _ _); refine' tup_at2 ?N ?m ?_; (case N => k_asm); (case m => tb_rel))
      | ((with_reducible show wpAny _ _ (subscriptTail _ _ (Value.ref _) (Value.int 3 _)) _ _ _); refine' tup_at3 ?N ?m ?_; (case N => k_asm); (case m => tb_rel)))))
  trivial
theorem kw_NN_2 : True := by
  k_with "isTrue Compare" => first | ((k_here; k_dflt (first
  | (refine' test_eq (b := true) ?F ?N ?v ?m ?i ?b ?_; (case F => k_asm); (case N => k_asm); (case v => exact rfl); (case m => tb_rel); (case i => exact rfl); (case b => first | exact NeS.h (by with_reducible assumption) | exact NeS.ne (by with_reducible assumption) | (with_unfolding_all exact rfl)))
  | (refine' test_eq (b := false) ?F ?N ?v ?m ?i ?b ?_; (case F => k_asm); (case N => k_asm); (case v => exact rfl); (case m => tb_rel); (case i => exact rfl); (case b => first | exact NeS.h (by with_reducible assumption) | exact NeS.ne (by with_reducible assumption) | (with_unfolding_all exact rfl)))
  | (refine' test_ne (b := true) ?F ?N ?v ?m ?i ?b ?_; (case F => k_asm); (case N => k_asm); (case v => exact rfl); (case m => tb_rel); (case i => exact rfl); (case b => first | exact NeS.h (by with_reducible assumption) | exact NeS.ne (by with_reducible assumption) | (with_unfolding_all exact rfl)))
  | (refine' test_ne (b := false) ?F ?N ?v ?m ?i ?b ?_; (case F => k_asm); (case N => k_asm); (case v => exact rfl); (case m => tb_rel); (case i => exact rfl); (case b => first | exact NeS.h (by with_reducible assumption) | exact NeS.ne (by with_reducible assumption) | (with_unfolding_all exact rfl)))); intro tk'; (try dsimp only)))
  trivial
theorem kw_NN_3 : True := by
  k_with "eval Compare" => first | ((k_here; k_dflt (first
  | (refine' val_eq (b := true) ?F ?N ?v ?m ?i ?b ?_; (case F => k_asm); (case N => k_asm); (case v => exact rfl); (case m => tb_rel); (case i => exact rfl); (case b => first | exact NeS.h (by with_reducible assumption) | exact NeS.ne (by with_reducible assumption) | (with_unfolding_all exact rfl)))
  | (refine' val_eq (b := false) ?F ?N ?v ?m ?i ?b ?_; (case F => k_asm); (case N => k_asm); (case v => exact rfl); (case m => tb_rel); (case i => exact rfl); (case b => first | exact NeS.h (by with_reducible assumption) | exact NeS.ne (by with_reducible assumption) | (with_unfolding_all exact rfl)))
  | (refine' val_ne (b := true) ?F ?N ?v ?m ?i ?b ?_; (case F => k_asm); (case N => k_asm); (case v => exact rfl); (case m => tb_rel); (case i => exact rfl); (case b => first | exact NeS.h (by with_reducible assumption) | exact NeS.ne (by with_reducible assumption) | (with_unfolding_all exact rfl)))
  | (refine' val_ne (b := false) ?F ?N ?v ?m ?i ?b ?_; (case F => k_asm); (case N => k_asm); (case v => exact rfl); (case m => tb_rel); (case i => exact rfl); (case b => first | exact NeS.h (by with_reducible assumption) | exact NeS.ne (by with_reducible assumption) | (with_unfolding_all exact rfl)))); intro tk'; (try dsimp only)))
  trivial
theorem kw_NN_4 : True := by
  k_with "eval Subscript" => first | ((k_here; k_dflt (refine' sub_tup ?F ?N ?v ?m ?i ?_; (case F => k_asm); (case N => k_asm); (case v => exact rfl); (case m => tb_rel); (case i => exact rfl)); intro tk'; (try dsimp only)))
  trivial

theorem kw_NN_5 : True := by
  k_with "exec Raise some none" => first | ((k_here; k_dflt (refine' Raise_D ?k1 ?_; (case k1 => rfl))))
  trivial
theorem kw_NN_6 : True := by
  k_with "call ref" => first | ((k_here; k_dflt (refine' exc_call ?k1 ?k2 ?k3 ?k4 ?k5 ?k6 ?k7 ?k8 ?_; (case k1 => k_asm); (case k2 => k_asm); (case k3 => k_asm); (case k4 => k_asm); (case k5 => k_asm); (case k6 => exact rfl); (case k7 => ktr_room); (case k8 => ktr_room); intro e9 h' tk' t1 dx h1 h2 a1 a2 k5 sl F' N' ap1 ap2)))
  trivial
theorem kw_NN_7 : True := by
  k_with "RaisD ref" => first | ((k_here; (refine' raisD_of ?k1 ?k2 ?k3 ?k4 ?_; (case k1 => k_asm); (case k2 => k_asm); (case k3 => k_asm); (case k4 => tb_rel)); k_whole))
  trivial
theorem kw_NN_8 : True := by
  k_with "leaving ref" => first | ((k_here; (refine' leave_raiseD ?k1 ?k2 ?k3 ?k4 ?k5 ?k6 ?_; (case k1 => assumption); (case k2 => k_asm); (case k3 => (with_reducible assumption)); (case k4 => exact ⟨_, _, _, _, _, _, _, _, rfl⟩); (case k5 => (with_reducible assumption)); (case k6 => (with_reducible assumption))); k_whole; intro h' R' U'; (try dsimp only at R' U' ⊢)))
  trivial

theorem kw_NN_9 : True := by
  k_with "compareOp Eq str str" => first | ((k_here; k_dflt (refine' eq_ne ?H ?_; (case H => with_reducible assumption))))
  trivial
theorem kw_NN_10 : True := by
  k_with "compareOp NotIn str ref" => first | ((k_here; k_dflt (refine' notin_known ?N ?m ?H ?_; (case N => k_asm); (case H => with_reducible assumption); (case m => tb_rel))))
  trivial

theorem nameable_kind {t : Tr} (h : t.kind ≠ Str.ofString "unary") : t.nameable = [Str.ofString "name", Str.ofString "call", Str.ofString "item"].any (· == t.kind) := by
  cases t <;> first | (exact absurd rfl h) | (simp only [Tr.nameable, Tr.kind]; decide)
theorem nn_spec {w : World} {p : Program} {loose : List Str} {mean : ExcName → Option Value} {mg mb : Str → Option Value} : NnOK w p loose mean mg mb := by
  intro dp un gd cn cs a ccd cl outer A₀ base h₀ L m news s t Q E B F X N T hk hd1 hu1 hT hY hN
  by_cases hu : t.kind = Str.ofString "unary"
  · obtain ⟨a, op, x, rfl⟩ : ∃ a op x, t = .un a op x := by
      cases t <;> first | exact ⟨_, _, _, rfl⟩ | (simp only [Tr.kind] at hu; exact absurd hu (by decide))
    cases hT with
    | @un _ _ _ n k1 k2 hm hx h1 =>
      clear hu
      obtain ⟨kx, rx, nx, hmx⟩ := h1.head
      have hnm := isName_kind x
      dsimp only [Tr.val, Tr.ad]
      by_cases e1 : op = Str.ofString "$"
      · subst e1
        clear hmx hx h1 hnm hN
        replace hY := hY rfl
        revert X; k_fill; intro X
        refine wpAny_call ?_
        k_dflt ktr_enter
        k_steps
        all_goals (refine' hY _ _ ?hf ?hn; (case hf => k_asm); (case hn => exact news_drop (by with_reducible assumption) (by (intro p9 hp9; tb_rel))))
      · by_cases e2 : op = Str.ofString "&"
        · subst e2
          clear hx h1 e1
          by_cases e3 : x.kind = Str.ofString "name"
          · have hY' := hY (by rw [e3, beq_self_eq_true] at hnm; simp [Tr.nameable, hnm])
            clear hN hY hnm
            rw [e3] at hmx
            generalize x.ad = xa at hm hmx
            clear e3
            revert X; k_fill; intro X
            refine wpAny_call ?_
            k_dflt ktr_enter
            k_steps
            all_goals (refine' hY' _ _ ?hf ?hn; (case hf => k_asm); (case hn => exact news_drop (by with_reducible assumption) (by (intro p9 hp9; tb_rel))))
          · have hN' := hN (by rw [beq_eq_false_iff_ne.mpr e3] at hnm; simp [Tr.nameable, hnm]; decide)
            have hb3 : NeS x.kind (Str.ofString "name") := ⟨cps_ne e3⟩
            clear hN hY hnm e3
            generalize x.ad = xa at hm hmx
            generalize x.kind = xk at hmx hb3
            revert X; k_fill; intro X
            refine wpAny_call ?_
            k_dflt ktr_enter
            k_steps
            all_goals (refine' hN' _ _ _ _ ?hf ?hu ?hr; (case hu => with_reducible assumption); (case hf => k_asm); (case hr => exact RaisedD.sub (by with_reducible assumption) (by (intro p9 hp9; tb_rel))))
        · have hb1 : NeS op (Str.ofString "$") := ⟨cps_ne e1⟩
          have hb2 : NeS op (Str.ofString "&") := ⟨cps_ne e2⟩
          have hN' := hN (by simp only [Tr.nameable]; rw [beq_eq_false_iff_ne.mpr e1, beq_eq_false_iff_ne.mpr e2]; rfl)
          clear hN hY hnm hmx h1 hx e1 e2
          generalize x.ad = xa at hm
          revert X; k_fill; intro X
          refine wpAny_call ?_
          k_dflt ktr_enter
          k_steps
          all_goals (refine' hN' _ _ _ _ ?hf ?hu ?hr; (case hu => with_reducible assumption); (case hf => k_asm); (case hr => exact RaisedD.sub (by with_reducible assumption) (by (intro p9 hp9; tb_rel))))
  · obtain ⟨k, r, n, hm⟩ := hT.head
    have hq := nameable_kind hu
    have hb1 : NeS t.kind (Str.ofString "unary") := ⟨cps_ne hu⟩
    clear hT hu
    dsimp only [Tr.val]
    cases hb : t.nameable with
    | true =>
      have hY' := hY hb
      rw [hb] at hq
      have hni : NinS t.kind [Str.ofString "name", Str.ofString "call", Str.ofString "item"] false := ⟨by rw [← hq]; rfl⟩
      clear hN hY hq hb
      generalize t.ad = ta at hm
      generalize t.kind = kd at hm hb1 hni
      revert X; k_fill; intro X
      refine wpAny_call ?_
      k_dflt ktr_enter
      k_steps
      all_goals (refine' hY' _ _ ?hf ?hn; (case hf => k_asm); (case hn => exact news_drop (by with_reducible assumption) (by (intro p9 hp9; tb_rel))))
    | false =>
      have hN' := hN hb
      rw [hb] at hq
      have hni : NinS t.kind [Str.ofString "name", Str.ofString "call", Str.ofString "item"] true := ⟨by rw [← hq]; rfl⟩
      clear hN hY hq hb
      generalize t.ad = ta at hm
      generalize t.kind = kd at hm hb1 hni
      revert X; k_fill; intro X
      refine wpAny_call ?_
      k_dflt ktr_enter
      k_steps
      all_goals (refine' hN' _ _ _ _ ?hf ?hu ?hr; (case hu => with_reducible assumption); (case hf => k_asm); (case hr => exact RaisedD.sub (by with_reducible assumption) (by (intro p9 hp9; tb_rel))))
end P_NN

section P_CB
open PySem PySem.W PyProof.Rows PySem.Calls PySem.Spec
set_option maxRecDepth 100000
/-- the contract, closed -/
structure CbH (w : World) (p : Program) (loose : List Str) (mean : ExcName → Option Value) (mg mb : Str → Option Value) (res : Res) (P : ItemR) (cb : Value) (ha : Addr) (imm0 : Led) : Prop where
  h : CbOK w p loose mean mg mb res P cb ha imm0
/-- the contract of a def of the law, from the law's ledger -/
theorem cb_have {G : Prop} {w : World} {p : Program} {loose : List Str} {mean : ExcName → Option Value} {mg mb : Str → Option Value} {h₀ h : Heap} {L : Addr} {led : Led} (nm : Str) (res : Res) (P : ItemR) {fa c cell ha : Addr} {oc o : Obj} {q x : Str} {pr : Arguments} {b : List Stmt} {sc : Scope} {d pm ct : Value} {vs : Array Value} {qual : Str} {t : Tok}
    (_T : Top p loose mean mg mb h₀) (_X : (hd.heap_1 w.params).In h₀) (_N : News h₀ L h led)
    (_h1 : (fa, fnMade nm q pr b sc [(x, cell)] d pm c ct) ∈ led) (_h2 : (c, oc) ∈ led) (_h3 : (cell, o) ∈ led) (_hd1 : oc.data = .fields vs) (_hd2 : vs[1]? = some (.str qual t)) (_hd3 : o.data = .cell (some (.ref ha)))
    (hcb : CbOK w p loose mean mg mb res P (.ref fa) ha [(fa, fnMade nm q pr b sc [(x, cell)] d pm c ct), (c, oc), (cell, o)])
    (k : CbH w p loose mean mg mb res P (.ref fa) ha [(fa, fnMade nm q pr b sc [(x, cell)] d pm c ct), (c, oc), (cell, o)] → G) : G := k ⟨hcb⟩
theorem said_use2 {w : World} {p : Program} {loose : List Str} {mean : ExcName → Option Value} {mg mb : Str → Option Value} {dp un : Nat} {gd : Option (List Code)} {cn : Str} {cs : Scope} {a : Addr} {ccd : Value} {cl : List (Str × Addr)} {outer : List Env} {A₀ : Around} {base h₀ : Heap} {L : Addr} {m : Str → Option Value} {led led0 : List (Addr × Obj)} {s : Shared}
    {Q E : Value → Shared → Prop} {ta lv : Addr} {t : Tr} {wb : Bool} {vs : List Value} {os : List (Option Str)} {n : Nat}
    (B : Below A₀ base outer h₀) (F : Fr h₀ L s.heap m) (X : (hd.heap_1 w.params).In h₀) (N : News h₀ L s.heap led) (T : Top p loose mean mg mb h₀) (hk : cs.kind = .function) (hd1 : dp + 10 < recursionLimit) (hu1 : un + 40 < cLine)
    (hf : Foc led0 t) (sub : ∀ p ∈ led0, p ∈ led) (e : t.ad = ta) (hv : (lv, listOf vs.toArray n) ∈ led) (hvo : ValsAre vs os) (hl : os.length ≤ 4) (hneg : t.isNeg = true → os.length = 1)
    (hret1 : ∀ h' tk', ResIs saidOf t wb os none → Fr h₀ L h' m → News h₀ L h' led → Q .none { s with heap := h', toks := tk' })
    (hret2 : ∀ x k h' tk', ResIs saidOf t wb os (some x) → Fr h₀ L h' m → News h₀ L h' led → Q (.str x k) { s with heap := h', toks := tk' }) :
    wpAny (model PySem.Challenge.rw_pf0366_01.row.prog w) (ktrTop dp un gd cn cs L a ccd cl outer) (call (.ref 108) [.ref ta, .bool wb, .ref lv]) Q E s := by
  refine said_use B F X N T hk hd1 hu1 hf sub e hv hvo (hvo.length ▸ hl) (fun h => hvo.length.trans (hneg h)) fun v h' tk' hV F' N' => ?_
  cases hr : saidOf t wb os with
  | none =>
    rw [hr] at hV
    obtain rfl : v = .none := hV
    exact hret1 h' tk' ⟨hr⟩ F' N'
  | some x =>
    rw [hr] at hV
    obtain ⟨k, rfl⟩ := hV
    exact hret2 x k h' tk' ⟨hr⟩ F' N'
section
variable {ha : Addr} {its : List Value} {e : Nat} {imm : Led} {h₀ : Heap} {L : Addr} {m : Str → Option Value} {t : Tr} {wb : Bool} {os : List (Option Str)} {Q : Value → Shared → Prop} {s : Shared}
theorem newer_up {old tl : Led} {x d : Addr} {ox od : Obj} (h : Newer old ((d, od) :: tl)) (hx : @LT.lt Nat _ d x) : Newer old ((x, ox) :: (d, od) :: tl) := fun p hp q hq => by
  rcases List.mem_cons.mp hq with rfl | hq
  · exact Nat.lt_trans (h p hp _ (.head _)) hx
  · exact h p hp q hq
theorem made_close1 (R : CbRet saidOf PMade ha its e imm h₀ L m t wb os Q s) {x : Str} {k : Tok} {D b : Addr} {ys : List Value} {e' k1 k2 : Nat} {h' : Heap} {tk' : Tok} (F : Fr h₀ L h' m)
    (N : News h₀ L h' ((D, tupOf #[.ref t.ad, .bool wb, .ref b] k1) :: (b, listOf ys.toArray k2) :: (ha, listOf (its.toArray.push (.ref D)) e') :: imm))
    (hr : ResIs saidOf t wb os (some x)) (hY : ValsAre ys os) (nw : Newer ((ha, listOf its.toArray e) :: imm) [(D, tupOf #[.ref t.ad, .bool wb, .ref b] k1), (b, listOf ys.toArray k2)]) : Q (.str x k) { s with heap := h', toks := tk' } :=
  R _ [(D, tupOf #[.ref t.ad, .bool wb, .ref b] k1), (b, listOf ys.toArray k2)] (.ref D) e' h' tk' (by rw [hr.h]; exact ⟨k, rfl⟩) F (by simpa using N) nw ⟨D, b, k1, k2, ys, rfl, .head _, .tail _ (.head _), hY⟩
theorem made_close2 (R : CbRet saidOf PMade ha its e imm h₀ L m t wb os Q s) {x d : Addr} {D b : Addr} {ys : List Value} {e' k1 k2 : Nat} {h' : Heap} {tk' : Tok} (F : Fr h₀ L h' m)
    (N : News h₀ L h' ((x, instObj 47 d) :: (d, dictOf [] 0) :: (D, tupOf #[.ref t.ad, .bool wb, .ref b] k1) :: (b, listOf ys.toArray k2) :: (ha, listOf (its.toArray.push (.ref D)) e') :: imm))
    (hr : ResIs saidOf t wb os none) (hY : ValsAre ys os) (hx : @LT.lt Nat _ d x) (nw : Newer ((ha, listOf its.toArray e) :: imm) [(d, dictOf [] 0), (D, tupOf #[.ref t.ad, .bool wb, .ref b] k1), (b, listOf ys.toArray k2)]) : Q (.ref x) { s with heap := h', toks := tk' } :=
  R _ [(x, instObj 47 d), (d, dictOf [] 0), (D, tupOf #[.ref t.ad, .bool wb, .ref b] k1), (b, listOf ys.toArray k2)] (.ref D) e' h' tk' (by rw [hr.h]; exact ⟨x, d, rfl, .head _, .tail _ (.head _)⟩) F (by simpa using N) (newer_up nw hx) ⟨D, b, k1, k2, ys, rfl, .tail _ (.tail _ (.head _)), .tail _ (.tail _ (.tail _ (.head _))), hY⟩
/-- what `made_short` notes: nothing -/
noncomputable def PShort : ItemR := fun _ _ _ => True
theorem short_close1 (R : CbRet resS PShort ha its e imm h₀ L m t false os Q s) {v : Value} {k : Tok} {e' : Nat} {h' : Heap} {tk' : Tok} (F : Fr h₀ L h' m) (N : News h₀ L h' ((ha, listOf (its.toArray.push v) e') :: imm)) : Q (.str (Str.ofString "v") k) { s with heap := h', toks := tk' } :=
  R _ [] v e' h' tk' ⟨k, rfl⟩ F (by simpa using N) newer_nil trivial
theorem short_close2 (R : CbRet resS PShort ha its e imm h₀ L m t true os Q s) {v : Value} {x d : Addr} {e' : Nat} {h' : Heap} {tk' : Tok} (F : Fr h₀ L h' m) (N : News h₀ L h' ((x, instObj 47 d) :: (d, dictOf [] 0) :: (ha, listOf (its.toArray.push v) e') :: imm))
    (hx : @LT.lt Nat _ d x) (nw : Newer ((ha, listOf its.toArray e) :: imm) [(d, dictOf [] 0)]) : Q (.ref x) { s with heap := h', toks := tk' } :=
  R _ [(x, instObj 47 d), (d, dictOf [] 0)] v e' h' tk' ⟨x, d, rfl, .head _, .tail _ (.head _)⟩ F (by simpa using N) (newer_up nw hx) trivial
end
end P_CB

section P_TB
open PySem PySem.W PyProof.Rows PySem.Calls PySem.Spec
set_option maxRecDepth 100000
section
variable {M : Model} {A : Around} {E : Value → Shared → Prop} {s : Shared}
/-- a new list stands at the heap's end -/
theorem newList_at {Q : Value → Shared → Prop} (h : wpAny M A (newList []) Q E s) : wpAny M A (newList []) (fun a s' => a = .ref s.heap.objs.size ∧ Q a s') E s := fun p Γ hΓ => ⟨rfl, h p Γ hΓ⟩
end
noncomputable def RO (sz : Nat) (RR : Value → Addr → Result → Shared → Prop) : Value → Addr → Result → Shared → Prop := fun acc loc r s' => ∀ D, acc = .ref D → @LE.le Nat _ sz D → RR acc loc r s'
section
variable {prog : Program} {w : World} {A : Around} {E : Value → Shared → Prop} {s : Shared}
theorem newList_order {t : Sem Env} {c : Value → Env → Code} {RR : Value → Addr → Result → Shared → Prop}
    (key : wpAny (model prog w) A (newList []) (fun acc s₃ => wpAny (model prog w) A t (fun cenv s₄ => codeAny (model prog w) A (c acc cenv) (RO s.heap.objs.size RR acc cenv.locals) s₄) E s₃) E s) :
    wpAny (model prog w) A (newList []) (fun acc s₃ => wpAny (model prog w) A t (fun cenv s₄ => codeAny (model prog w) A (c acc cenv) (RR acc cenv.locals) s₄) E s₃) E s := by
  refine wpAny_mono (newList_at key) ?_ fun _ _ e => e
  rintro _ s₃ ⟨rfl, k⟩
  exact wpAny_mono k (fun cenv s₄ k2 => codeAny_mono k2 fun r s' k3 => k3 _ rfl (Nat.le_refl _)) fun _ _ e => e
end
/-- the end of an assigned comprehension, with the order of the addresses -/
noncomputable def FinB (h₀ : Heap) (L : Addr) (m : Str → Option Value) (s : Shared) (y : Str) (Q : Flow → Shared → Prop) (led : Led) (ys : List Value) (news : Led) : Prop :=
  ∀ D h tk, Fr h₀ L h (fun z => if z = y then some (.ref D) else m z) → News h₀ L h ((D, LCg.lst ys) :: news) → (∀ p ∈ led, p.1 < D) → Q .next { s with heap := h, toks := tk }
noncomputable def SrcTold (prog : Program) (w : World) (A : Around) (h₀ : Heap) (L : Addr) (m : Str → Option Value) (env : Env) (elt : PySem.Expr) (x : Str) (scope : Scope) (cl : List (Str × Addr)) (y : Str) (Q : Flow → Shared → Prop) (xv : Value) (s₁ : Shared) : Prop :=
  ∃ (ax : Addr) (vs : List Value) (n : Nat) (led : Led), xv = .ref ax ∧ A.handled = none ∧ Fr h₀ L s₁.heap m ∧ News h₀ L s₁.heap led ∧ (ax, listOf vs.toArray n) ∈ led ∧ vs.length ≤ 1000 ∧
    ∀ g, LCg.CompRest prog w A h₀ L m env elt x scope cl { s₁ with heap := g } (LCg.SrcAt h₀ ax vs.toArray) (fun i v => vs.toArray[i]? = some v) (FinB h₀ L m { s₁ with heap := g } y Q led) vs.length 0 [] led
theorem allLt_mem {d : Addr} : ∀ {l : Led}, (∀ p ∈ l, @LT.lt Nat _ p.1 d) → AllLt d l
  | [], _ => trivial
  | _ :: _, h => ⟨h _ (.head _), allLt_mem fun p hp => h p (.tail _ hp)⟩
section
variable {prog : Program} {w : World} {A : Around} {E : Value → Shared → Prop} {s : Shared} {h₀ : Heap} {L : Addr} {m : Str → Option Value} {env : Env}
theorem Assign_told {elt iter : PySem.Expr} {x y : Str} {px py : Pos} {scope : Scope} {cl : List (Str × Addr)} {pos spos : Pos} {Q : Flow → Shared → Prop} (_F₀ : Fr h₀ L s.heap m) (hLe : env.locals = L)
    (hsw : swapsWith (.ListComp elt [⟨.Name x px, iter, [], 0⟩] scope pos) (some (.Name y py)) spos.line env = pure true)
    (hclos : closureFor scope env = pure cl) (hcell : ∀ z ∈ scope.names, z.2 ≠ .cell) (hkind : scope.kind = .function)
    (hnames : ∀ z ∈ scope.names, z.2 = .local → scope.names.lookup z.1 = some .local) (hx : scope.names.lookup x = some .local)
    (hy : env.kindOf y = some .local) (hp : (env.scope.kind == .class || (env.scope.kind == .module && env.locals != env.globals)) = false)
    (h : wpAny (model prog w) A (eval iter env) (SrcTold prog w A h₀ L m env elt x scope cl y Q) E s)
    (hs : ∀ x, foldedSetIterable iter env x = pure x := by intro _; rfl) :
    wpAny (model prog w) A (exec (.Assign [.Name y py] (.ListComp elt [⟨.Name x px, iter, [], 0⟩] scope pos) spos) env) Q E s := by
  subst hLe
  rw [exec_Assign_Name_used _ _ _ _ hsw]
  refine wpAny_bind (wpAny_standAt (wpAny_bind ?_))
  show wpAny _ A (do let _ ← comprehension (.ListComp elt [⟨.Name x px, iter, [], 0⟩] scope pos) scope env _ (newList []) false (eval iter env) (some (assign (.Name y py) env))) _ _ s
  refine wpAny_bind (wpAny_mono (wpAny_comprehension_free (use := some (assign (.Name y py) env)) (Q := fun _ s' => Q .next s') rfl hs hclos hkind hnames
    (wpAny_mono h ?_ fun _ _ e => e)) (fun _ s' hq => wpAny_pure (wpAny_pure hq)) fun _ _ e => e)
  rintro _ s₁ ⟨ax, vs, n, led, rfl, hh, F, N, hm, hz, R⟩
  have S : LCg.SrcAt h₀ ax vs.toArray led := .inr ⟨_, hm, rfl, _, rfl⟩
  have hl := S.list F.keep N
  have hlt : ax < s₁.heap.objs.size := by obtain ⟨_, e, _⟩ := hl; exact Heap.lt_size e
  refine wpAny_pyIter_list hl ?_
  have up : ∀ b o, s₁.heap.get? b = some o → (s₁.heap.push { cls := .type "list_iterator", data := .fields #[.ref ax, .int 0 0] }).get? b = some o := fun b o e => Heap.get?_push_of_some _ e
  have hled : ∀ D, @LE.le Nat _ (s₁.heap.push { cls := .type "list_iterator", data := .fields #[.ref ax, .int 0 0] }).objs.size D → ∀ p ∈ led, p.1 < D := fun D hD p hp => by
    rw [Heap.size_push] at hD
    exact Nat.lt_of_lt_of_le (Nat.lt_succ_of_lt (Heap.lt_size (N p hp).1)) hD
  have hsz : vs.toArray.size = vs.length := by simp
  have R' := R (s₁.heap.push { cls := .type "list_iterator", data := .fields #[.ref ax, .int 0 0] })
  rw [← hsz] at R'
  refine newList_order (LCg.block_U
    (Walks.list hh s₁.heap.objs.size ax (Nat.ne_of_lt hlt) vs.toArray) (by rw [hsz]; exact Nat.le_trans hz (by decide)) (fun i h st => by obtain ⟨o, e, _⟩ := st.1; exact ⟨o, e⟩) LCg.list_st hcell hkind hx ⟨⟨_, Heap.get?_push_size _ rfl, rfl, rfl⟩, hl.push _⟩ (fun b hb => ?_)
      (F.keeps up) (N.grown up) (Nat.ne_of_lt F.ns.lt) (next_is_new F) (fun p hp => Nat.ne_of_lt (Heap.lt_size (N p hp).1)) S R' ?_)
  · show b < (s₁.heap.push _).objs.size
    rw [Heap.size_push]
    rcases List.mem_cons.mp hb with rfl | hb
    · exact Nat.lt_succ_self _
    · rw [List.mem_singleton.mp hb]; exact Nat.lt_succ_of_lt hlt
  · intro D C h' tk m' ys news' F' N' o1 hn hC₀ hD₀ hCL hDL hCD offC fin D₂ eD hD
    cases eD
    show wpAny _ A (assign (.Name y py) env (.ref D)) _ _ _
    refine wpAny_assign_Name (wpAny_storeName_local hy F'.ns (fun h₂ hn₂ hs₂ => ?_) hp)
    have hL₀ : h₀.get? env.locals = none := Heap.get?_none_of_le F'.above
    have F₂ : Fr h₀ env.locals h₂ (fun z => if z = y then some (.ref D) else m z) := ⟨hn₂, fun b o e => hs₂.extBut b o (fun q => by rw [q, hL₀] at e; cases e) (F'.keep b o e), F'.above⟩
    refine ⟨m', hn.sameBut hs₂ hCL, fun h'' hs'' => fin D h'' _ (F₂.change hs'' hCL hC₀) (fun p hp => ?_) (hled D hD)⟩
    have z : h₂.get? p.1 = some p.2 := hs₂.extBut _ _ (N' p hp).2.1 (N' p hp).1
    refine ⟨hs''.extBut _ _ ?_ z, (N' p hp).2⟩
    rcases List.mem_cons.mp hp with rfl | hp
    · exact Ne.symm hCD
    · exact offC p hp
theorem told_src2 {elt : PySem.Expr} {x y : Str} {scope : Scope} {cl : List (Str × Addr)} {Q : Flow → Shared → Prop} {ax : Addr} {vs : List Value} {k0 : Nat} {led : Led} {os : List (Option Str)}
    (hh : A.handled = none) (F : Fr h₀ L s.heap m) (N : News h₀ L s.heap led) (hm : (ax, listOf vs.toArray k0) ∈ led) (hV : FVals led vs os) (hz : vs.length ≤ 1000)
    (el : ∀ g, EltT prog w A h₀ L m env elt x scope cl led { s with heap := g })
    (fin : ∀ D ys h tk, ValsAre ys os → Fr h₀ L h (fun z => if z = y then some (.ref D) else m z) → News h₀ L h ((D, LCg.lst ys) :: led) → (∀ p ∈ led, p.1 < D) → Q .next { s with heap := h, toks := tk }) :
    SrcTold prog w A h₀ L m env elt x scope cl y Q (.ref ax) s := by
  refine ⟨ax, vs, k0, led, rfl, hh, F, N, hm, hz, fun g => ?_⟩
  exact rest_told (its := vs.toArray) (OS := os) (Fin := FinB h₀ L m { s with heap := g } y Q led) (el g) hm (fun ys h D h' tk F' N' l => fin D ys h' tk h F' N' l) vs [] os [] [] rfl rfl hV .nil
end
end P_TB

section P_LQ
open PySem PySem.W PyProof.Rows PySem.Calls PySem.Spec PySem.SeqAt
set_option maxRecDepth 100000
theorem NotesIn.items {l : Led} {its : List Value} {ns : List Note} (h : NotesIn l its ns) : ItemsIn PMade l its ns := by
  induction h with
  | nil => exact .nil
  | cons h1 h2 h3 _ ih => exact .cons ⟨_, _, _, _, _, rfl, h1, h2, h3⟩ ih
theorem ItemsIn.get {P : ItemR} {l : Led} : ∀ {vs : List Value} {ns : List Note}, ItemsIn P l vs ns → ∀ j (h : j < vs.length), ∃ n, ns[j]? = some n ∧ P l vs[j] n
  | _, _, .cons h1 _, 0, _ => ⟨_, rfl, h1⟩
  | _, _, .cons _ h2, j + 1, h => by
    obtain ⟨n, e, hp⟩ := h2.get j (by simpa using h)
    exact ⟨n, by simpa using e, by simpa using hp⟩
theorem ValsAre.get : ∀ {vs : List Value} {os : List (Option Str)}, ValsAre vs os → ∀ j (h : j < vs.length), ∃ o, os[j]? = some o ∧ VIs vs[j] o
  | _, _, .cons h1 _, 0, _ => ⟨_, rfl, h1⟩
  | _, _, .cons _ h2, j + 1, h => by
    obtain ⟨n, e, hp⟩ := h2.get j (by simpa using h)
    exact ⟨n, by simpa using e, by simpa using hp⟩
section
variable {A : Around} {s : Shared} {h₀ : Heap} {L : Addr} {led : Led}
theorem eqAt_vis {v v' : Value} {o : Option Str} (h1 : VIs v o) (h2 : VIs v' o) : EqAt A s v v' true := by
  cases o with
  | none =>
    obtain rfl : v = .none := h1
    obtain rfl : v' = .none := h2
    exact EqAt.same _
  | some x =>
    obtain ⟨k, rfl⟩ := h1
    obtain ⟨k', rfl⟩ := h2
    have := EqAt.str_str x k x k' (A := A) (s := s)
    rwa [beq_self_eq_true] at this
theorem all_true (n : Nat) : (List.range n).all (fun _ => true) = true := by simp
theorem isList_of {h : Heap} {a : Addr} {its : Array Value} {n : Nat} (N : News h₀ L h led) (hm : (a, listOf its n) ∈ led) : h.IsList a its := ⟨_, (N _ hm).1, rfl, n, rfl⟩
theorem eqAt_lists {b b' : Addr} {vs vs' : List Value} {k k' : Nat} {os : List (Option Str)} (N : News h₀ L s.heap led) (h1 : (b, listOf vs.toArray k) ∈ led) (h2 : (b', listOf vs'.toArray k') ∈ led) (v1 : ValsAre vs os) (v2 : ValsAre vs' os) (hu : A.units < cLine) :
    EqAt A s (.ref b) (.ref b') true := by
  by_cases e : b = b'
  · subst e; exact EqAt.same _
  · refine EqAt.of_refs e ?_
    have := RcAt.lists (A := A) (s := s) (l := b) (b := b') (e := fun _ => true) (isList_of N h1) (isList_of N h2) (by simp [v1.length, v2.length]) hu (fun j h1 h2 => ?_)
    · rwa [all_true] at this
    · obtain ⟨o, e1, q1⟩ := v1.get j (by simpa using h1)
      obtain ⟨o', e2, q2⟩ := v2.get j (by simpa using h2)
      rw [e1] at e2
      cases e2
      exact eqAt_vis (by simpa using q1) (by simpa using q2)
theorem eqAt_note {x y : Value} {n : Note} (N : News h₀ L s.heap led) (h1 : PMade led x n) (h2 : PMade led y n) (hu : A.units + 1 < cLine) : EqAt A s x y true := by
  obtain ⟨a, b, k1, k2, vs, rfl, m1, m2, v1⟩ := h1
  obtain ⟨a', b', k1', k2', vs', rfl, m1', m2', v2⟩ := h2
  by_cases e : a = a'
  · subst e; exact EqAt.same _
  · refine EqAt.of_refs e ?_
    have := RcAt.tuples (A := A) (s := s) (l := a) (b := a') (e := fun _ => true) (isTuple_of N m1) (isTuple_of N m1') (Nat.lt_of_succ_lt hu) (fun j h1 h2 => ?_)
    · rw [all_true] at this
      exact this
    · match j with
      | 0 => exact EqAt.same _
      | 1 => exact EqAt.same _
      | 2 => exact eqAt_lists N m2 m2' v1 v2 hu
      | j + 3 => exact absurd h1 (by simp)
theorem ne_notes {M' : Program} {w : World} {E : Value → Shared → Prop} {Q : Value → Shared → Prop} {a b : Addr} {xs ys : List Value} {k1 k2 : Nat} {ns : List Note} {l1 l2 : Led} (N : News h₀ L s.heap led) (ha : (a, listOf xs.toArray k1) ∈ led) (hb : (b, listOf ys.toArray k2) ∈ led)
    (h1 : ItemsIn PMade l1 xs ns) (s1 : ∀ p ∈ l1, p ∈ led) (h2 : NotesIn l2 ys ns) (s2 : ∀ p ∈ l2, p ∈ led) (hu : A.units + 3 < cLine) (h : Q (.bool false) s) : wpAny (model M' w) A (compareOp .NotEq (.ref a) (.ref b)) Q E s := by
  have g1 := h1.mono pMade_mono s1
  have g2 := h2.items.mono pMade_mono s2
  have := RcNeAt.lists (A := A) (s := s) (l := a) (b := b) (e := fun _ => true) (isList_of N ha) (isList_of N hb) (by simp [g1.length, g2.length]) (by omega) (fun j h1 h2 => ?_)
  · rw [all_true] at this
    exact this M' w E Q h
  · obtain ⟨n, e1, q1⟩ := g1.get j (by simpa using h1)
    obtain ⟨n', e2, q2⟩ := g2.get j (by simpa using h2)
    rw [e1] at e2
    cases e2
    exact eqAt_note N (by simpa using q1) (by simpa using q2) (by show A.units + 1 + 1 < cLine; omega)
end
theorem runs_of {t : Tr} {wb : Bool} {o : Out Str} (h : DueIs 4 t wb o) (hh : t.height ≤ 4) : Runs saidOf (2 * t.size) [.exp t wb] [] (due 4 t wb).1 o := by
  have := runs_due (res := saidOf) (n := 4) (t := t) (w := wb) hh
  rw [← due_eq] at this
  rw [h.h] at this
  exact this
theorem runs_size {t : Tr} (hh : t.height ≤ 4) : 2 * t.size ≤ 4000 := by
  have := size_cap hh
  simp only [cap] at this
  omega
theorem list_ne_fn {h₀ h : Heap} {L a b : Addr} {led : Led} {its : Array Value} {n : Nat} {oc : Value} {od : Option Addr} {fd : FuncData} {sl : Array (Option Value)} (N : News h₀ L h led) (h1 : (a, (⟨oc, od, .func fd, sl⟩ : Obj)) ∈ led) (h2 : (b, listOf its n) ∈ led) : a ≠ b := by
  rintro rfl
  have := (N _ h1).1.symm.trans (N _ h2).1
  have z := congrArg Obj.data (Option.some.inj this)
  cases z
theorem updF_mem {d : Addr} {o : Obj} {led : Led} {g : Obj → Led} (U : UpdF d o led g) : (d, o) ∈ led ∧ ∀ o' p, (p ∈ led → p.1 ≠ d → p ∈ g o') ∧ (p ∈ g o' → p = (d, o') ∨ p ∈ led) := by
  obtain ⟨own, rest, rfl, hg, h1, h2⟩ := U.split
  refine ⟨List.mem_append_right _ (.head _), fun o' p => ⟨fun hp hn => ?_, fun hp => ?_⟩⟩
  · rw [hg]
    rcases List.mem_append.mp hp with hp | hp
    · exact List.mem_append_left _ hp
    · rcases List.mem_cons.mp hp with rfl | hp
      · exact absurd rfl hn
      · exact List.mem_append_right _ (.tail _ hp)
  · rw [hg] at hp
    rcases List.mem_append.mp hp with hp | hp
    · exact .inr (List.mem_append_left _ hp)
    · rcases List.mem_cons.mp hp with rfl | hp
      · exact .inl rfl
      · exact .inr (List.mem_append_right _ (.tail _ hp))
section
variable {w : World} {p : Program} {loose : List Str} {mean : ExcName → Option Value} {mg mb : Str → Option Value} {dp un : Nat} {gd : Option (List Code)} {cn : Str} {cs : Scope} {a : Addr} {ccd : Value} {cl : List (Str × Addr)} {outer : List Env} {A₀ : Around} {base h₀ : Heap} {L : Addr} {m : Str → Option Value} {s : Shared}
  {Q E : Value → Shared → Prop} {res : Res} {P : ItemR} {fa : Addr} {oc : Value} {od : Option Addr} {fd : FuncData} {sl : Array (Option Value)} {ha ta : Addr} {led imm0 led0 : Led} {its : List Value} {e : Nat} {t : Tr} {wb : Bool} {n₀ : Nat} {ns : List Note} {out : Out Str} {g : Obj → Led}
theorem worked_use (hcb : CbH w p loose mean mg mb res P (.ref fa) ha imm0) (hnn : NnOK w p loose mean mg mb) (hP : P.Mono)
    (B : Below A₀ base outer h₀) (F : Fr h₀ L s.heap m) (X : (hd.heap_1 w.params).In h₀) (N : News h₀ L s.heap led) (T : Top p loose mean mg mb h₀) (hk : cs.kind = .function)
    (hd1 : dp + 60 < recursionLimit) (hu1 : un + 200 < cLine) (U : UpdF ha (listOf its.toArray e) led g) (hfn : (fa, (⟨oc, od, .func fd, sl⟩ : Obj)) ∈ led) (sub0 : ∀ p ∈ imm0, p ∈ led) (hap0 : Apart ha imm0)
    (hT : TIn led0 t) (eT : t.ad = ta) (subT : ∀ p ∈ led0, p ∈ led) (hapT : Apart ha led0) (hR : Runs res n₀ [.exp t wb] [] ns out) (hn0 : n₀ ≤ 4000) (hz : its.length ≤ 1000)
    (hret : ∀ o, out = some o → ∀ v tl its' e' h' tk', VF (tl ++ g (listOf (its ++ its').toArray e')) v o → Fr h₀ L h' m → News h₀ L h' (tl ++ g (listOf (its ++ its').toArray e')) → Newer led tl → ItemsIn P tl its' ns → Q v { s with heap := h', toks := tk' })
    (herr : out = none → ∀ x tl its' e' g' h' tk', Fr h₀ L g' m → g'.UpToSlots h' → RaisedD base (envX cn cs L a ccd cl :: outer) x (tl ++ g (listOf (its ++ its').toArray e')) h' → Newer led tl → ItemsIn P tl its' ns → E (.ref x) { s with heap := h', toks := tk' }) :
    wpAny (model PySem.Challenge.rw_pf0366_01.row.prog w) (ktrTop dp un gd cn cs L a ccd cl outer) (call (.ref 82) [.ref ta, .bool wb, .ref fa]) Q E s := by
  subst eT
  obtain ⟨own, rest, rfl, hg, h1, h2⟩ := U.split
  have hto : ∀ q, q ∈ (ha, listOf its.toArray e) :: (own ++ rest) ↔ q ∈ own ++ (ha, listOf its.toArray e) :: rest := fun q => by simp [List.mem_cons, List.mem_append]; grind
  have off : ∀ q : Addr × Obj, q ∈ own ++ (ha, listOf its.toArray e) :: rest → q.1 ≠ ha → q ∈ own ++ rest := fun q hq hn => by
    rcases List.mem_cons.mp ((hto q).mpr hq) with rfl | hq
    · exact absurd rfl hn
    · exact hq
  have hfh : fa ≠ ha := list_ne_fn N hfn ((hto _).mp (.head _))
  have htl : ∀ (tl : Led) (o' : Obj), ∀ q, q ∈ tl ++ (ha, o') :: (own ++ rest) ↔ q ∈ tl ++ g o' := fun tl o' q => by rw [hg]; simp only [List.mem_append, List.mem_cons]; grind
  refine worked_spec hcb.h (off _ hfn hfh) hnn hP B F X (fun q hq => N q ((hto q).mp hq)) T hk hd1 hu1 (fun q hq => off q (sub0 q hq) (hap0 q hq)) (hT.mono fun q hq => off q (subT q hq) (hapT q hq)) hR hn0 hz (apart_app h1 h2) ?_ ?_
  · intro o ho v tl its' e' h' tk' hv F' N' nw hI
    refine hret o ho v tl its' e' h' tk' (hv.mono fun q hq => ?_) F' (fun q hq => N' q ((htl tl _ q).mpr hq)) (fun q hq => nw q ((hto q).mpr hq)) hI
    rw [hg]
    simp only [List.mem_append, List.mem_cons] at hq ⊢
    grind
  · intro ho x tl its' e' g' h' tk' F' U' R nw hI
    exact herr ho x tl its' e' g' h' tk' F' U' (R.sub fun q hq => (htl tl _ q).mpr hq) (fun q hq => nw q ((hto q).mpr hq)) hI
theorem worked_S {x : Str} (hcb : CbH w p loose mean mg mb res P (.ref fa) ha imm0) (hnn : NnOK w p loose mean mg mb) (hP : P.Mono)
    (B : Below A₀ base outer h₀) (F : Fr h₀ L s.heap m) (X : (hd.heap_1 w.params).In h₀) (N : News h₀ L s.heap led) (T : Top p loose mean mg mb h₀) (hk : cs.kind = .function)
    (hd1 : dp + 60 < recursionLimit) (hu1 : un + 200 < cLine) (U : UpdF ha (listOf its.toArray e) led g) (hfn : (fa, (⟨oc, od, .func fd, sl⟩ : Obj)) ∈ led) (sub0 : ∀ p ∈ imm0, p ∈ led) (hap0 : Apart ha imm0)
    (hT : TIn led0 t) (eT : t.ad = ta) (subT : ∀ p ∈ led0, p ∈ led) (hapT : Apart ha led0) (hR : Runs res n₀ [.exp t wb] [] ns (some (some x))) (hn0 : n₀ ≤ 4000) (hz : its.length ≤ 1000)
    (hret : ∀ k tl its' e' h' tk', Fr h₀ L h' m → News h₀ L h' (tl ++ g (listOf (its ++ its').toArray e')) → Newer led tl → ItemsIn P tl its' ns → Q (.str x k) { s with heap := h', toks := tk' }) :
    wpAny (model PySem.Challenge.rw_pf0366_01.row.prog w) (ktrTop dp un gd cn cs L a ccd cl outer) (call (.ref 82) [.ref ta, .bool wb, .ref fa]) Q E s := by
  refine worked_use hcb hnn hP B F X N T hk hd1 hu1 U hfn sub0 hap0 hT eT subT hapT hR hn0 hz ?_ (fun h => nomatch h)
  intro o ho v tl its' e' h' tk' hv F' N' nw hI
  cases ho
  obtain ⟨k, rfl⟩ := hv
  exact hret k tl its' e' h' tk' F' N' nw hI
theorem worked_N (hcb : CbH w p loose mean mg mb res P (.ref fa) ha imm0) (hnn : NnOK w p loose mean mg mb) (hP : P.Mono)
    (B : Below A₀ base outer h₀) (F : Fr h₀ L s.heap m) (X : (hd.heap_1 w.params).In h₀) (N : News h₀ L s.heap led) (T : Top p loose mean mg mb h₀) (hk : cs.kind = .function)
    (hd1 : dp + 60 < recursionLimit) (hu1 : un + 200 < cLine) (U : UpdF ha (listOf its.toArray e) led g) (hfn : (fa, (⟨oc, od, .func fd, sl⟩ : Obj)) ∈ led) (sub0 : ∀ p ∈ imm0, p ∈ led) (hap0 : Apart ha imm0)
    (hT : TIn led0 t) (eT : t.ad = ta) (subT : ∀ p ∈ led0, p ∈ led) (hapT : Apart ha led0) (hR : Runs res n₀ [.exp t wb] [] ns (some none)) (hn0 : n₀ ≤ 4000) (hz : its.length ≤ 1000)
    (hret : ∀ b d tl its' e' h' tk', Fr h₀ L h' m → News h₀ L h' ((b, instObj 47 d) :: (d, dictOf [] 0) :: (tl ++ g (listOf (its ++ its').toArray e'))) → Newer led tl → ItemsIn P tl its' ns → Q (.ref b) { s with heap := h', toks := tk' }) :
    wpAny (model PySem.Challenge.rw_pf0366_01.row.prog w) (ktrTop dp un gd cn cs L a ccd cl outer) (call (.ref 82) [.ref ta, .bool wb, .ref fa]) Q E s := by
  refine worked_use hcb hnn hP B F X N T hk hd1 hu1 U hfn sub0 hap0 hT eT subT hapT hR hn0 hz ?_ (fun h => nomatch h)
  intro o ho v tl its' e' h' tk' hv F' N' nw hI
  cases ho
  obtain ⟨b, d, rfl, m1, m2⟩ := hv
  refine hret b d tl its' e' h' tk' F' (fun q hq => ?_) nw hI
  rcases List.mem_cons.mp hq with rfl | hq
  · exact N' _ m1
  · rcases List.mem_cons.mp hq with rfl | hq
    · exact N' _ m2
    · exact N' _ hq
theorem worked_E (hcb : CbH w p loose mean mg mb res P (.ref fa) ha imm0) (hnn : NnOK w p loose mean mg mb) (hP : P.Mono)
    (B : Below A₀ base outer h₀) (F : Fr h₀ L s.heap m) (X : (hd.heap_1 w.params).In h₀) (N : News h₀ L s.heap led) (T : Top p loose mean mg mb h₀) (hk : cs.kind = .function)
    (hd1 : dp + 60 < recursionLimit) (hu1 : un + 200 < cLine) (U : UpdF ha (listOf its.toArray e) led g) (hfn : (fa, (⟨oc, od, .func fd, sl⟩ : Obj)) ∈ led) (sub0 : ∀ p ∈ imm0, p ∈ led) (hap0 : Apart ha imm0)
    (hT : TIn led0 t) (eT : t.ad = ta) (subT : ∀ p ∈ led0, p ∈ led) (hapT : Apart ha led0) (hR : Runs res n₀ [.exp t wb] [] ns none) (hn0 : n₀ ≤ 4000) (hz : its.length ≤ 1000)
    (herr : ∀ x tl its' e' g' h' tk', Fr h₀ L g' m → g'.UpToSlots h' → RaisedD base (envX cn cs L a ccd cl :: outer) x (tl ++ g (listOf (its ++ its').toArray e')) h' → Newer led tl → ItemsIn P tl its' ns → E (.ref x) { s with heap := h', toks := tk' }) :
    wpAny (model PySem.Challenge.rw_pf0366_01.row.prog w) (ktrTop dp un gd cn cs L a ccd cl outer) (call (.ref 82) [.ref ta, .bool wb, .ref fa]) Q E s :=
  worked_use hcb hnn hP B F X N T hk hd1 hu1 U hfn sub0 hap0 hT eT subT hapT hR hn0 hz (fun o ho => nomatch ho) fun _ => herr
end
/-- the law's join, behind the first comparison -/
noncomputable def bindL (m : Str → Option Value) (u1 u2 u3 : Option Value) : Str → Option Value := fun z => if z = Str.ofString "due" then u1 else if z = Str.ofString "found" then u2 else if z = Str.ofString "error" then u3 else m z
noncomputable def OffL (m₁ m : Str → Option Value) : Prop := ∀ z, z ≠ Str.ofString "due" → z ≠ Str.ofString "found" → z ≠ Str.ofString "error" → m₁ z = m z
theorem OffL.bind {m₁ m : Str → Option Value} (h : OffL m₁ m) : m₁ = bindL m (m₁ (Str.ofString "due")) (m₁ (Str.ofString "found")) (m₁ (Str.ofString "error")) := by
  funext z
  unfold bindL
  repeat' split
  all_goals first | (next e => rw [e]) | exact h z (by assumption) (by assumption) (by assumption)
noncomputable def LawP (g : Heap) (L : Addr) (m : Str → Option Value) (keep : Led) (s s' : Shared) : Prop := ∃ h' tk' m', s' = { s with heap := h', toks := tk' } ∧ OffL m' m ∧ Fr g L h' m' ∧ News g L h' keep
theorem LawP.intro {g : Heap} {L : Addr} {m m' : Str → Option Value} {keep : Led} {s : Shared} {h' : Heap} {tk' : Nat} (hm : OffL m' m) (F : Fr g L h' m') (N : News g L h' keep) : LawP g L m keep s { s with heap := h', toks := tk' } := ⟨h', tk', m', rfl, hm, F, N⟩
theorem law_cut {M : Model} {A : Around} {E : Value → Shared → Prop} {s : Shared} {env : Env} {Q : Flow → Shared → Prop} {g : Heap} {L : Addr} {m : Str → Option Value} {x0 p1 p2 p3 p4 p5 pa pn ph pf : Addr × Obj} {tl rest : Led} {a b c : Stmt} {r : List Stmt}
    (_F : Fr g L s.heap m) (_N : News g L s.heap (x0 :: (tl ++ p1 :: p2 :: p3 :: p4 :: p5 :: pa :: pn :: ph :: pf :: rest)))
    (h1 : wpAny M A (exec a env) (fun f s₁ => match f with | .next => wpAny M A (exec b env) (fun f s₁ => match f with | .next => wpAny M A (exec c env) (fun f s₁ => match f with | .next => LawP g L m (p1 :: p2 :: pa :: pf :: rest) s s₁ | f => Q f s₁) E s₁ | f => Q f s₁) E s₁ | f => Q f s₁) E s)
    (h2 : ∀ h' tk' u1 u2 u3, Fr g L h' (bindL m u1 u2 u3) → News g L h' (p1 :: p2 :: pa :: pf :: rest) → wpAny M A (execs r env) Q E { s with heap := h', toks := tk' }) : wpAny M A (execs (a :: b :: c :: r) env) Q E s :=
  cut3 _ h1 fun s' hP => by
    obtain ⟨h', tk', m', rfl, hm, F', N'⟩ := hP
    rw [hm.bind] at F'
    exact h2 h' tk' _ _ _ F' N'
end P_LQ

section P_LR
open PySem PySem.W PyProof.Rows PySem.Calls PySem.Spec PySem.SeqAt
set_option maxRecDepth 100000
/-- a chain: what the machine does with it -/
structure ChIs (T : Tr) (ns : List Note) (cnt : Int) : Prop where
  runs : Runs resS (2 * T.size) [.exp T false] [] ns (some (some (Str.ofString "v")))
  size : 2 * T.size ≤ 4000
  cnt : (ns.length : Int) = cnt
structure LenIs (xs : List Value) (cnt : Int) : Prop where
  h : (xs.length : Int) = cnt
theorem pShort_mono : PShort.Mono := fun _ _ _ _ _ h => h
theorem eq_len {M' : Program} {w : World} {A : Around} {E : Value → Shared → Prop} {s : Shared} {Q : Value → Shared → Prop} {xs : List Value} {cnt : Int} {t u : Tok} (h : LenIs xs cnt) (hQ : Q (.bool true) s) : wpAny (model M' w) A (compareOp .Eq (.int (xs.length : Int) t) (.int cnt u)) Q E s := by
  obtain ⟨rfl⟩ := h
  have q : RcAt A s (.int (xs.length : Int) t) (.int (xs.length : Int) u) true := by
    have := RcAt.int_int (xs.length : Int) t (xs.length : Int) u (A := A) (s := s)
    rwa [beq_self_eq_true] at this
  exact q M' w E Q hQ
theorem runs_len {res : Res} {n : Nat} {l : List Ent} {vals : List (Option Str)} {ns : List Note} {out : Out Str} (h : Runs res n l vals ns out) : ns.length ≤ n := by
  induction h with
  | done => exact Nat.zero_le _
  | bad _ => exact Nat.zero_le _
  | exp _ _ ih => omega
  | ok _ _ _ _ ih => rw [List.length_cons]; omega
  | fail _ _ _ _ ih => rw [List.length_cons]; omega
section
variable {w : World} {p : Program} {loose : List Str} {mean : ExcName → Option Value} {mg mb : Str → Option Value} {dp un : Nat} {gd : Option (List Code)} {cn : Str} {cs : Scope} {a : Addr} {ccd : Value} {cl : List (Str × Addr)} {outer : List Env} {A₀ : Around} {base h₀ : Heap} {L : Addr} {m : Str → Option Value} {s : Shared}
  {Q E : Value → Shared → Prop} {fa : Addr} {oc : Value} {od : Option Addr} {fd : FuncData} {sl : Array (Option Value)} {ha ta : Addr} {led imm0 led0 : Led} {t : Tr} {wb : Bool} {g : Obj → Led}
theorem chain_use {fd ca : Addr} {vs : List Value} {ns : List Int} {nc ef : Nat} {t : Int} {tk0 : Tok}
    (B : Below A₀ base outer h₀) (F : Fr h₀ L s.heap m) (X : (hd.heap_1 w.params).In h₀) (N : News h₀ L s.heap led) (T : Top p loose mean mg mb h₀) (hk : cs.kind = .function)
    (hd1 : dp + 20 < recursionLimit) (hu1 : un + 100 < cLine) (U : UpdF fd (feedO ca t tk0 ef) led g) (hca : (ca, listOf vs.toArray nc) ∈ led) (hvs : IntsAre vs ns) (hlen : ns.length ≤ 63) (hcf : ca ≠ fd) (ht0 : 0 ≤ t) (ht1 : t < 900) {hb : Addr} (hmb : (hb, listOf #[] 0) ∈ led) (hbf : hb ≠ fd)
    (hret : ∀ D n T ns' (cnt : Int) kc tl t' tk' h' tkk, @Ne Nat D hb → ChIs T ns' cnt → Fr h₀ L h' m → News h₀ L h' ((D, tupOf #[.ref T.ad, .int cnt kc] n) :: (tl ++ g (feedO ca t' tk' ef))) → Newer led tl → TIn tl T → Q (.ref D) { s with heap := h', toks := tkk }) :
    wpAny (model PySem.Challenge.rw_pf0366_01.row.prog w) (ktrTop dp un gd cn cs L a ccd cl outer) (call (.ref 127) [.ref fd]) Q E s := by
  obtain ⟨own, rest, rfl, hg, h1, h2⟩ := U.split
  have hto : ∀ q, q ∈ (fd, feedO ca t tk0 ef) :: (own ++ rest) ↔ q ∈ own ++ (fd, feedO ca t tk0 ef) :: rest := fun q => by simp [List.mem_cons, List.mem_append]; grind
  refine chain_spec (nc := nc) B F X (imm := own ++ rest) (fun q hq => N q ((hto q).mp hq)) T hk hd1 hu1 ?_ hvs hlen hcf ht0 ht1 (apart_app h1 h2) ?_
  · rcases List.mem_cons.mp ((hto _).mpr hca) with e | hq
    · exact absurd (congrArg Prod.fst e) hcf
    · exact hq
  · intro D n T k f cnt kc tl t' tk' h' tkk hC hk' hcnt F' N' nw hT
    obtain ⟨ns', hR, hL⟩ := ch_runs hC
    have hmb' : (hb, listOf #[] 0) ∈ (D, tupOf #[.ref T.ad, .int cnt kc] n) :: (tl ++ ((fd, feedO ca t' tk' ef) :: (own ++ rest))) := by
      have := (hto (hb, listOf #[] 0)).mpr hmb
      rcases List.mem_cons.mp this with e | hq
      · exact absurd (congrArg Prod.fst e) hbf
      · exact .tail _ (List.mem_append_right _ (.tail _ hq))
    have hDb : D ≠ hb := by
      rintro rfl
      have := (N' _ (.head _)).1.symm.trans (N' _ hmb').1
      have z := congrArg Obj.cls (Option.some.inj this)
      injection z with z; exact absurd z (by decide)
    refine hret D n T ns' cnt kc tl t' tk' h' tkk hDb ⟨hR, ?_, ?_⟩ F' (fun q hq => N' q ?_) (fun q hq => nw q ((hto q).mpr hq)) hT
    · have := (ch_height hC).2
      omega
    · rw [hcnt, hL]
    · rw [hg] at hq
      simp only [List.mem_append, List.mem_cons] at hq ⊢
      grind
theorem worked_short {ns : List Note} {cnt : Int} (hcb : CbH w p loose mean mg mb resS PShort (.ref fa) ha imm0) (hch : ChIs t ns cnt)
    (B : Below A₀ base outer h₀) (F : Fr h₀ L s.heap m) (X : (hd.heap_1 w.params).In h₀) (N : News h₀ L s.heap led) (T : Top p loose mean mg mb h₀) (hk : cs.kind = .function)
    (hd1 : dp + 60 < recursionLimit) (hu1 : un + 200 < cLine) (U : UpdF ha (listOf #[] 0) led g) (hfn : (fa, (⟨oc, od, .func fd, sl⟩ : Obj)) ∈ led) (sub0 : ∀ p ∈ imm0, p ∈ led) (hap0 : Apart ha imm0)
    (hT : TIn led0 t) (eT : t.ad = ta) (subT : ∀ p ∈ led0, p ∈ led) (hapT : Apart ha led0)
    (hret : ∀ k tl its' e' h' tk', LenIs its' cnt → its'.length ≤ 1000000 → Fr h₀ L h' m → News h₀ L h' (tl ++ g (listOf its'.toArray e')) → Newer led tl → Q (.str (Str.ofString "v") k) { s with heap := h', toks := tk' }) :
    wpAny (model PySem.Challenge.rw_pf0366_01.row.prog w) (ktrTop dp un gd cn cs L a ccd cl outer) (call (.ref 82) [.ref ta, .bool false, .ref fa]) Q E s := by
  refine worked_S (its := []) (e := 0) hcb nn_spec pShort_mono B F X N T hk hd1 hu1 U hfn sub0 hap0 hT eT subT hapT hch.runs hch.size (Nat.zero_le _) ?_
  intro k tl its' e' h' tk' F' N' nw hI
  have hl := hI.length
  refine hret k tl its' e' h' tk' ⟨by rw [hl]; exact hch.cnt⟩ ?_ F' N' nw
  have := hch.size
  rw [hl]
  have h2 := hch.runs
  exact Nat.le_trans (runs_len h2) (by omega)
theorem worked_mS {x : Str} (hcb : CbH w p loose mean mg mb saidOf PMade (.ref fa) ha imm0) (hD : DueIs 4 t wb (some (some x))) (hh : t.height ≤ 3 + 1)
    (B : Below A₀ base outer h₀) (F : Fr h₀ L s.heap m) (X : (hd.heap_1 w.params).In h₀) (N : News h₀ L s.heap led) (T : Top p loose mean mg mb h₀) (hk : cs.kind = .function)
    (hd1 : dp + 60 < recursionLimit) (hu1 : un + 200 < cLine) (U : UpdF ha (listOf #[] 0) led g) (hfn : (fa, (⟨oc, od, .func fd, sl⟩ : Obj)) ∈ led) (sub0 : ∀ p ∈ imm0, p ∈ led) (hap0 : Apart ha imm0)
    (hT : TIn led0 t) (eT : t.ad = ta) (subT : ∀ p ∈ led0, p ∈ led) (hapT : Apart ha led0)
    (hret : ∀ k tl its' e' h' tk', Fr h₀ L h' m → News h₀ L h' (tl ++ g (listOf its'.toArray e')) → Newer led tl → ItemsIn PMade tl its' (due 4 t wb).1 → Q (.str x k) { s with heap := h', toks := tk' }) :
    wpAny (model PySem.Challenge.rw_pf0366_01.row.prog w) (ktrTop dp un gd cn cs L a ccd cl outer) (call (.ref 82) [.ref ta, .bool wb, .ref fa]) Q E s :=
  worked_S (its := []) (e := 0) hcb nn_spec pMade_mono B F X N T hk hd1 hu1 U hfn sub0 hap0 hT eT subT hapT (runs_of hD hh) (runs_size hh) (Nat.zero_le _) hret
theorem worked_mN (hcb : CbH w p loose mean mg mb saidOf PMade (.ref fa) ha imm0) (hD : DueIs 4 t wb (some none)) (hh : t.height ≤ 3 + 1)
    (B : Below A₀ base outer h₀) (F : Fr h₀ L s.heap m) (X : (hd.heap_1 w.params).In h₀) (N : News h₀ L s.heap led) (T : Top p loose mean mg mb h₀) (hk : cs.kind = .function)
    (hd1 : dp + 60 < recursionLimit) (hu1 : un + 200 < cLine) (U : UpdF ha (listOf #[] 0) led g) (hfn : (fa, (⟨oc, od, .func fd, sl⟩ : Obj)) ∈ led) (sub0 : ∀ p ∈ imm0, p ∈ led) (hap0 : Apart ha imm0)
    (hT : TIn led0 t) (eT : t.ad = ta) (subT : ∀ p ∈ led0, p ∈ led) (hapT : Apart ha led0)
    (hret : ∀ b d tl its' e' h' tk', Fr h₀ L h' m → News h₀ L h' ((b, instObj 47 d) :: (d, dictOf [] 0) :: (tl ++ g (listOf its'.toArray e'))) → Newer led tl → ItemsIn PMade tl its' (due 4 t wb).1 → Q (.ref b) { s with heap := h', toks := tk' }) :
    wpAny (model PySem.Challenge.rw_pf0366_01.row.prog w) (ktrTop dp un gd cn cs L a ccd cl outer) (call (.ref 82) [.ref ta, .bool wb, .ref fa]) Q E s :=
  worked_N (its := []) (e := 0) hcb nn_spec pMade_mono B F X N T hk hd1 hu1 U hfn sub0 hap0 hT eT subT hapT (runs_of hD hh) (runs_size hh) (Nat.zero_le _) hret
theorem worked_mE (hcb : CbH w p loose mean mg mb saidOf PMade (.ref fa) ha imm0) (hD : DueIs 4 t wb none) (hh : t.height ≤ 3 + 1)
    (B : Below A₀ base outer h₀) (F : Fr h₀ L s.heap m) (X : (hd.heap_1 w.params).In h₀) (N : News h₀ L s.heap led) (T : Top p loose mean mg mb h₀) (hk : cs.kind = .function)
    (hd1 : dp + 60 < recursionLimit) (hu1 : un + 200 < cLine) (U : UpdF ha (listOf #[] 0) led g) (hfn : (fa, (⟨oc, od, .func fd, sl⟩ : Obj)) ∈ led) (sub0 : ∀ p ∈ imm0, p ∈ led) (hap0 : Apart ha imm0)
    (hT : TIn led0 t) (eT : t.ad = ta) (subT : ∀ p ∈ led0, p ∈ led) (hapT : Apart ha led0)
    (herr : ∀ x tl its' e' g' h' tk', Fr h₀ L g' m → g'.UpToSlots h' → RaisedD base (envX cn cs L a ccd cl :: outer) x (tl ++ g (listOf its'.toArray e')) h' → Newer led tl → ItemsIn PMade tl its' (due 4 t wb).1 → E (.ref x) { s with heap := h', toks := tk' }) :
    wpAny (model PySem.Challenge.rw_pf0366_01.row.prog w) (ktrTop dp un gd cn cs L a ccd cl outer) (call (.ref 82) [.ref ta, .bool wb, .ref fa]) Q E s :=
  worked_E (its := []) (e := 0) hcb nn_spec pMade_mono B F X N T hk hd1 hu1 U hfn sub0 hap0 hT eT subT hapT (runs_of hD hh) (runs_size hh) (Nat.zero_le _) herr
end
end P_LR

section P_CD
open PySem PySem.W PyProof.Rows PySem.Calls PySem.Spec PySem.SeqAt
set_option maxRecDepth 100000
theorem flight_led {B h₀ h₆ : Heap} {fr : List Env} {L dx t e : Addr} {od o : Obj} {news : Led} {m : Str → Option Value} (hf : Heap.FlyingW h₀ fr e (.ref 34) (.ref t) h₆) (st : ∀ b o, B.get? b = some o → h₆.get? b = some o) (hl : ∀ q ∈ (dx, od) :: news, B.get? q.1 = some q.2 ∧ h₀.get? q.1 = none) (hL : B.get? L = none) (F : Fr h₀ L h₆ m) (ho : h₆.get? e = some o) (hd : o.dict = some dx) :
    ∃ vs sl, News h₀ L h₆ ((e, ⟨.ref 34, some dx, .fields vs, sl⟩) :: (dx, od) :: news) := by
  obtain ⟨oe, ws, hoe, hoec, hoed, hoe0⟩ := hf.first
  cases Option.some.inj (ho.symm.trans hoe)
  have Nl : News h₀ L h₆ ((dx, od) :: news) := fun q hq => ⟨st _ _ (hl q hq).1, (fun z => by have := (hl q hq).1; rw [z, hL] at this; cases this), (hl q hq).2⟩
  have N₆ : News h₀ L h₆ ((e, o) :: (dx, od) :: news) := News.more F Nl hoe (fun es n q => by rw [hoed] at q; cases q) hf.2.1
  obtain ⟨oc, odd, odt, osl⟩ := o
  simp only at hoec hoed hd
  subst hoec hoed hd
  exact ⟨_, _, N₆⟩
section
variable {prog : Program} {w : World} {A₀ : Around} {E : Value → Shared → Prop} {s' : Shared} {h₀ h : Heap} {outer : List Env} {L a e : Addr} {m : Str → Option Value} {cn : Str} {cs : Scope} {ccd : Value} {cl : List (Str × Addr)}
  {n : Str} {b₀ : Stmt} {suite : List Stmt} {pos np : Pos} {rest : List ExceptHandler} {Q : Flow → Shared → Prop} {news : Led}
  {p : Program} {loose : List Str} {mean : ExcName → Option Value} {mg mb : Str → Option Value} {x : Str}
theorem caught_D (K : Below A₀ h₀ outer h₀) (F : Fr h₀ L h m) (hsm : h.UpToSlots s'.heap) (R : RaisedD h₀ (envX cn cs L a ccd cl :: outer) e news s'.heap) (X : (hd.heap_1 w.params).In h₀)
    (T : Top p loose mean mg mb h₀) (ex : nsIn (hd.heap_1 w.params) mainGlobals x = some (some (.ref 34)))
    (k : ∀ h' vs sl dx od tk, Fr h₀ L h' (fun y => if y = n then some (.ref e) else m y) → News h₀ L h' ((e, ⟨.ref 34, some dx, .fields vs, sl⟩) :: (dx, od) :: news) → Num8 od →
      wpAny (model prog w) ((A₀.deeper (envX cn cs L a ccd cl)).mark (some (.ref e))) (execs (b₀ :: suite) (envX cn cs L a ccd cl))
        (fun f s₄ => wpAny (model prog w) (A₀.deeper (envX cn cs L a ccd cl)) (do bindName (envX cn cs L a ccd cl) n .none; unbindBehindTheSuite (envX cn cs L a ccd cl) n pos) (fun _ s₅ => Q f s₅) E s₄)
        (AsSuiteRaised (model prog w) ((A₀.deeper (envX cn cs L a ccd cl)).mark (some (.ref e))) (envX cn cs L a ccd cl) n pos (notedBy (model prog w) ((A₀.deeper (envX cn cs L a ccd cl)).mark (some (.ref e))) (envX cn cs L a ccd cl) (cameBackBy (model prog w) (A₀.deeper (envX cn cs L a ccd cl)) (envX cn cs L a ccd cl) E)))
        { s' with heap := h', toks := tk })
    (hk : cs.kind = .function := by rfl) (hlo : (envX cn cs L a ccd cl).kindOf n = some .local := by rfl) (hx : (envX cn cs L a ccd cl).kindOf x = some .globalImplicit := by rfl) (hd : (x == ("__debug__" : Str)) = false := by decide) :
    wpAny (model prog w) (A₀.deeper (envX cn cs L a ccd cl)) (noteFrame (.ref e) (envX cn cs L a ccd cl))
      (fun _ s₂ => wpAny (model prog w) (A₀.deeper (envX cn cs L a ccd cl)) (setFlight (.ref e) none) (fun _ s₃ =>
        wpAny (model prog w) (A₀.deeper (envX cn cs L a ccd cl)) (handleBy (.ref e) (envX cn cs L a ccd cl) (.ExceptHandler (some (.Name x np)) (some n) (b₀ :: suite) pos :: rest)) Q E s₃) E s₂) E s' := by
  obtain ⟨t, vs, dx, od, ⟨⟨B, hB, hl, hfl, hnew⟩, htup⟩, ⟨oe0, he0, hd0⟩, h8⟩ := R
  have hL : B.get? L = none := by
    obtain ⟨_, ⟨L', _, hf, hn', _⟩, _⟩ := hfl.2.2.1
    obtain rfl : L = L' := Option.some.inj hf
    exact hn'
  have W1 := wpAny_looks_onW (M := model prog w) (A := A₀.deeper (envX cn cs L a ccd cl)) (E := E) (Q := fun _ s'' => ∃ h₄, s'' = { s' with heap := h₄ } ∧ Heap.HeldW B (envX cn cs L a ccd cl :: outer) e (.ref 34) (.ref t) L h₄ ∧ s'.heap.UpToSlots h₄)
    (Around.frames_deeper K.stack) rfl hfl (fun h₄ hheld₄ hsm₄ => ⟨h₄, rfl, hheld₄, hsm₄⟩)
  refine wpAny_mono (wpAny_keepsD (kd_noteFrame _ _) W1) ?_ fun _ _ x => x.1
  rintro _ s₂ ⟨⟨h₄, rfl, hheld₄, hsm₄⟩, dk4⟩
  have W2 := wpAny_landsW (M := model prog w) (A := A₀.deeper (envX cn cs L a ccd cl)) (E := E) (s := { s' with heap := h₄ }) (Q := fun _ s'' => ∃ h₅, s'' = { s' with heap := h₅ } ∧ Heap.FlyingW B (envX cn cs L a ccd cl :: outer) e (.ref 34) (.ref t) h₅ ∧ h₄.UpToSlots h₅)
    hheld₄ (fun h₅ hheld hsm₅ => ⟨h₅, rfl, hheld, hsm₅⟩)
  refine wpAny_mono (wpAny_keepsD (kd_setFlight _ _) W2) ?_ fun _ _ x => x.1
  rintro _ s₃ ⟨⟨h₅, rfl, hheld, hsm₅'⟩, dk5⟩
  have hsm₅ := hsm₄.trans hsm₅'
  have hheld' := flyingW_base hB hheld
  have F₅ := F.of_stays hheld'.1 (hsm.trans hsm₅)
  obtain ⟨ob, hob, hobc⟩ := hheld'.there
  obtain ⟨hC34⟩ := cls34 w
  have hC₅ := (X.keeps F₅.keep) _ _ hC34
  refine wpAny_handleBy_cons (codeAny_handlers_test (nameX_K F₅ X (topRead_of T) ex ?_ hk hx hd)) (by intro q; cases q)
  refine wpAny_excMatches_sub_self hC₅ hob hobc (by decide) (codeAny_handlers_suite_as ?_)
  refine wpAny_mono (wpAny_keepsD (kd_setFlight _ _) (lands_againW (s := { s' with heap := h₅ }) (Q := fun _ s'' => ∃ h₆, s'' = { s' with heap := h₆ } ∧ Heap.FlyingW B (envX cn cs L a ccd cl :: outer) e (.ref 34) (.ref t) h₆ ∧ h₅.UpToSlots h₆)
    hheld (fun h₆ hfl₆ hsm₆ => ⟨h₆, rfl, hfl₆, hsm₆⟩))) ?_ fun _ _ x => x.1
  rintro _ s₄ ⟨⟨h₆, rfl, hfl₆, hsm₆⟩, dk6⟩
  have hfl₆' := flyingW_base hB hfl₆
  have F₆ := F.of_stays hfl₆'.1 ((hsm.trans hsm₅).trans hsm₆)
  obtain ⟨o4, e4, d4⟩ := dk4 e oe0 he0
  obtain ⟨o5, e5, d5⟩ := dk5 e o4 e4
  obtain ⟨o6, e6, d6⟩ := dk6 e o5 e5
  obtain ⟨vs6, sl6, N₆⟩ := flight_led hfl₆' hfl₆.1 hl hL F₆ e6 (d6.trans (d5.trans (d4.trans hd0)))
  refine storeX_L F₆ N₆ (fun h₇ F₇ N₇ => ?_) hk hlo
  exact k h₇ _ _ _ _ _ F₇ N₇ h8
end
section
variable {M' : Program} {w : World} {A : Around} {E : Value → Shared → Prop} {s : Shared} {Q : Value → Shared → Prop}
theorem ne_strs {x : Str} {t u : Tok} (h : Q (.bool false) s) : wpAny (model M' w) A (compareOp .NotEq (.str x t) (.str x u)) Q E s := by
  have := RcNeAt.str_str x t x u (A := A) (s := s)
  rw [beq_self_eq_true] at this
  exact this M' w E Q h
end
section
variable {M : Model} {A : Around} {E : Value → Shared → Prop} {s : Shared} {cn : Str} {cs : Scope} {L a : Addr} {ccd : Value} {cl : List (Str × Addr)} {h₀ : Heap} {m : Str → Option Value} {news : Led}
theorem name_goesX {n : Str} {pos : Pos} {Q : Unit → Shared → Prop} (F : Fr h₀ L s.heap m) (N : News h₀ L s.heap news)
    (h : ∀ h' v, Fr h₀ L h' (fun x => if x = n then v else m x) → News h₀ L h' news → Q () { s with heap := h', toks := s.toks + 1 })
    (hk : cs.kind = .function := by rfl) (hl : (envX cn cs L a ccd cl).kindOf n = some .local := by rfl) :
    wpAny M A (do bindName (envX cn cs L a ccd cl) n .none; unbindBehindTheSuite (envX cn cs L a ccd cl) n pos) Q E s :=
  wpAny_nameGoes_keeps hl F.ns (by show (cs.kind == .class || (cs.kind == .module && L != mainGlobals)) = false; rw [hk]; rfl) fun h' v hn hs => h h' v (F.set hn hs) (N.set hs)
end
end P_CD

section P_GD
open PySem PySem.W PyProof.Rows PySem.Calls PySem.Spec PySem.SeqAt
set_option maxRecDepth 100000
section
variable {prog : Program} {w : World} {A : Around} {E : Value → Shared → Prop} {s : Shared} {K : Frag} {x C : Addr} {ox : Obj} {od : Option Obj} {name : Str} {expr : Bool} {Q : Value → Shared → Prop}
theorem exc_get {v : Value} (X : K.In s.heap) (I : InstAt s.heap x ox C od) (hp : excMro K C) (hga : findIn K (.ref C) "__getattribute__" = some (some (.builtin "BaseException.__getattribute__"))) (hk : findIn K (.ref C) "__getattr__" = some none)
    (hf : findObj K C od name = some (.value v)) (hh : handedIn v = true) (h : Q v { s with toks := s.toks + 1 }) : wpAny (model prog w) A (getAttr (.ref x) name expr) Q E s := by
  obtain ⟨cd, hc, ho⟩ := hp.cls
  have sub : Looks (model prog w) s.heap (isInstance (.ref x) (.type "BaseException")) true := I.type.andThen (looks_mroIn X (by unfold mroIn; rw [hc, Option.bind_some, ho]; rfl))
  obtain ⟨hh', g, d, t, os⟩ := s
  have L0 := I.type (M := model prog w)
  have L1 := looks_findIn (M := model prog w) X hga
  have L2 := looks_findIn (M := model prog w) X hk
  have L3 := looks_find (M := model prog w) X I hf
  unfold getAttr getAttrBy
  refine wpAny_bind (wpAny_mkText (wpAny_holding (wpAny_bind (L0.at (wpAny_bind (L1.at ?_))))))
  show wpAny _ _ (getAttrByItsOwn _ _ _ _ _ _) _ _ _
  unfold getAttrByItsOwn hookBefore
  refine wpAny_bind ?_
  show wpAny _ _ (typeLookup (.ref C) "__getattr__") _ _ _
  refine L2.at ?_
  refine wpAny_bind (wpAny_attempt (wpAny_holding ?_))
  have e1 : callGetattribute (.ref x) (.str name t) (.builtin "BaseException.__getattribute__") expr = boundAndCalled (.builtin "BaseException.__getattribute__") (.ref x) (.str name t) := by
    unfold callGetattribute
    cases expr <;> rfl
  rw [e1]
  unfold boundAndCalled
  refine wpAny_bind (wpAny_of_eq (PySem.F.excAttr_ValueError.ga.bind _) ?_)
  refine wpAny_call (codeAny_call_builtin PySem.F.excAttr_ValueError.ga.plain PySem.F.entry_bexc_ga (@check_slot (model prog w) _ _ _ "BaseException.__getattribute__" "BaseException" "__getattribute__" (.ref x) [.str name t] [] _ (by decide +kernel) (by decide +kernel) sub (PySem.F.args_bexc_ga (.ref x) (.str name t)) ?_))
  refine wpAny_bind (wpAny_pure (wpAny_bind (wpAny_pure (wpAny_bind (L0.at (wpAny_bind (L3.at ?_)))))))
  refine wpAny_pure ?_
  show wpAny _ _ (handedOut v) _ _ _
  rw [handedOut_of hh]; exact wpAny_pure h
end
section
variable {prog : Program} {w : World} {A : Around} {E : Value → Shared → Prop} {s : Shared} {K : Frag} {x C dx L : Addr} {h₀ : Heap} {m : Str → Option Value} {name : Str} {expr : Bool} {vs : Array Value} {sl : Array (Option Value)} {news : Led} {Q : Value → Shared → Prop} {od : Obj}
theorem exc_number (F : Fr h₀ L s.heap m) (X₀ : K.In h₀) (N : News h₀ L s.heap news) (hx : (x, (⟨.ref C, some dx, .fields vs, sl⟩ : Obj)) ∈ news) (hd : (dx, od) ∈ news) (h8 : Num8 od) (hp : excMro K C)
    (hga : findIn K (.ref C) "__getattribute__" = some (some (.builtin "BaseException.__getattribute__"))) (hk : findIn K (.ref C) "__getattr__" = some none) (ha : findIn K (.ref C) "number" = some none) (hh : hasDictIn K C = true)
    (h : ∀ k, Q (.int 8 k) { s with toks := s.toks + 1 }) : wpAny (model prog w) A (getAttr (.ref x) "number" expr) Q E s := by
  obtain ⟨h1, h2, k1, k2, k3, k4, kd, n, rfl⟩ := h8
  have I : InstAt s.heap x ⟨.ref C, some dx, .fields vs, sl⟩ C (some (dictOf [⟨h1, .str (Str.ofString "number") k1, .int 8 k2⟩, ⟨h2, .str (Str.ofString "told") k3, .str kd k4⟩] n)) := ⟨(N _ hx).1, rfl, rfl, (N _ hd).1⟩
  exact exc_get (X₀.keeps F.keep) I hp hga hk (findObj_own hh ha rfl (by rw [lookIn_dict]; rfl)) rfl (h k2)
end
end P_GD

section P_LAW
open PySem PySem.W PyProof.Rows PySem.Calls PySem.Spec
set_option compiler.extract_closed false
set_option maxRecDepth 100000
set_option maxHeartbeats 8000000
theorem kw_LAW_0 : True := by
  k_with_none
  trivial
local macro_rules | `(tactic| k_lt $h) => `(tactic| (replace $h := allLt_of $h; first | k_extra "new" | ((have kl9 := $h); (try simp only [allLt_app, AllLt, and_true] at kl9))))
theorem kw_LAW_1 : True := by
  k_with "subscriptTail Name Constant ref int" => first | ((
    k_here
    k_dflt (first
      | ((with_reducible show wpAny _ _ (subscriptTail _ _ (Value.ref _) (Value.int 0 _)) _ _ _); refine' tup_at0 ?kwLAW1N ?kwLAW1m ?_; (case kwLAW1N => k_asm); (case kwLAW1m => tb_rel))
      | ((with_reducible show wpAny _ _ (subscriptTail _ _ (Value.ref _) (Value.int 1 _)) _ _ _); refine' tup_at1 ?kwLAW1N ?kwLAW1m ?_; (case kwLAW1N => k_asm); (case kwLAW1m => tb_rel))
      | ((with_reducible show wpAny _ _ (subscriptTail _ _ (Value.ref _) (Value.int 2 _)) _ _ _); refine' tup_at2 ?kwLAW1N ?kwLAW1m ?_; (case kwLAW1N => k_asm); (case kwLAW1m => tb_rel))
      | ((with_reducible show wpAny _ _ (subscriptTail _ _ (Value.ref _) (Value.int 3 _)) _ _ _); refine' tup_at3 ?kwLAW1N ?kwLAW1m ?_; (case kwLAW1N => k_asm); (case kwLAW1m => tb_rel)))))
  trivial
local macro_rules | `(tactic| ktr_enter) => `(tactic| (
    refine' code_def ?k1 ?k2 ?k3 ?k4 ?k5 ?kA ?kF ?kK ?k6 ?k7 ?k8 ?k9 ?kB ?_ ?c2 ?c3 ?c4 ?c5
    (case kA => exact rfl)
    (case kF => exact rfl)
    (case kK => first | exact rfl | assumption)
    (case k1 => k_asm)
    (case k2 => k_asm)
    (case k3 => k_asm)
    (case k4 => k_asm)
    (case k5 => k_asm)
    (case k6 => k_is)
    (case k7 => k_is)
    (case k8 => ktr_room)
    (case k9 => exact BindsTo.of_eq rfl)
    (case c5 => decide)
    (case kB => exact locs rfl)
    (case c2 => exact rfl)
    (case c3 => exact rfl)
    (case c4 => exact rfl)
    k_whole
    intro g' L' h' FG' F' N' B' X' T'
    (try dsimp only)
    (try k_fold)))
theorem kw_LAW_2 : True := by
  k_with "call builtin:len" => first | ((k_here; k_dflt (refine' len_any ?kwLAW2N ?kwLAW2m ?kwLAW2z ?_; (case kwLAW2N => k_asm); (case kwLAW2m => tb_rel); (case kwLAW2z => with_reducible assumption); intro t' tk')))
  trivial
theorem kw_LAW_3 : True := by
  k_with "exec Assign cons ListComp" => first | ((k_here; k_dflt (refine Assign_told (by k_asm) (by rfl) (by with_unfolding_all rfl) (by rfl) (by decide) (by rfl) (by decide) (by rfl) (by rfl) (by rfl) ?_)))
  trivial
theorem kw_LAW_4 : True := by
  k_with "call builtin:list.append" => first | ((
    k_here
    k_dflt (refine' app_lst ?kwLAW4F ?kwLAW4N ?kwLAW4U ?kwLAW4z ?_; (case kwLAW4F => k_asm); (case kwLAW4N => k_asm); (case kwLAW4U => k_updF); (case kwLAW4z => with_reducible assumption))
    intro h' F' N'
    (try dsimp only at N')
    (try k_sweep)))
  trivial
theorem kw_LAW_5 : True := by
  k_with "call ref" => first | ((k_here; (with_reducible show wpAny _ _ (call (Value.ref 58) [_]) _ _ _); k_dflt (refine wpAny_call ?_; ktr_enter)))
  trivial
theorem kw_LAW_6 : True := by
  k_with "SrcTold" => first | ((
    k_here
    k_dflt (refine' told_src2 ?kwLAW6h ?kwLAW6F ?kwLAW6N ?kwLAW6m ?kwLAW6V ?kwLAW6z (fun g' => EltT.of (fun y' kk' I' oI' C' oC' D' oD' m' h' tk' K' E' hC' hx' F' N' hK' => ?_) (fun b' d' I' oI' C' oC' D' oD' m' h' tk' K' E' hb' hd' hC' hx' F' N' hK' => ?_)) (fun D' ys' h' tk' hY' F' N' l1 => ?_); (case kwLAW6h => exact rfl); (case kwLAW6F => k_asm); (case kwLAW6N => k_asm); (case kwLAW6m => tb_rel); (case kwLAW6V => (refine' FVals.mono ?kwLAW6s9 ?kwLAW6v9; (case kwLAW6v9 => with_reducible assumption); (case kwLAW6s9 => (intro p9 hp9; tb_rel)))); (case kwLAW6z => with_reducible assumption))
    all_goals (try dsimp only)
    all_goals (try k_lt l1)
    all_goals (try k_sweep)))
  trivial
theorem kw_LAW_7 : True := by
  k_with "call ref" => first | ((
    k_here
    (with_reducible show wpAny _ _ (call (Value.ref 108) [Value.ref _, Value.bool _, Value.ref _]) _ _ _)
    k_dflt (refine' said_use2 ?kwLAW7B ?kwLAW7F ?kwLAW7X ?kwLAW7N ?kwLAW7T ?kwLAW7hk ?kwLAW7hd ?kwLAW7hu ?kwLAW7f ?kwLAW7sub ?kwLAW7e ?kwLAW7hv ?kwLAW7hvo ?kwLAW7hl ?kwLAW7hneg ?_ ?_; (case kwLAW7B => k_asm); (case kwLAW7F => k_asm); (case kwLAW7X => k_asm); (case kwLAW7N => k_asm); (case kwLAW7T => k_asm); (case kwLAW7hk => first | exact rfl | assumption); (case kwLAW7hd => ktr_room); (case kwLAW7hu => ktr_units); (case kwLAW7f => with_reducible assumption); (case kwLAW7e => exact rfl); (case kwLAW7sub => (intro p9 hp9; tb_rel)); (case kwLAW7hvo => with_reducible assumption); (case kwLAW7hv => tb_rel); (case kwLAW7hl => with_reducible assumption); (case kwLAW7hneg => with_reducible assumption))
    all_goals (intros; (try k_sweep))))
  trivial

theorem kw_LAW_8 : True := by
  k_with "call ref" => first | ((
    k_here
    (with_reducible show wpAny _ _ (call (Value.ref 94) [Value.ref _, Value.int 3 _]) _ _ _)
    k_dflt (refine' tree_call (d := 3) ?kwLAW8C ?kwLAW8B ?kwLAW8F ?kwLAW8X ?kwLAW8N ?kwLAW8T ?kwLAW8hk ?kwLAW8hd ?kwLAW8hu ?kwLAW8U ?kwLAW8hca ?kwLAW8hcf ?kwLAW8t0 ?kwLAW8t1 ?kwLAW8e ?_; (case kwLAW8B => k_asm); (case kwLAW8F => k_asm); (case kwLAW8X => k_asm); (case kwLAW8N => k_asm); (case kwLAW8T => k_asm); (case kwLAW8hk => first | exact rfl | assumption); (case kwLAW8hd => ktr_room); (case kwLAW8hu => ktr_units); (case kwLAW8U => k_updF); (case kwLAW8hca => k_mem); (case kwLAW8C => exact tree_ok (by with_reducible assumption) (Nat.le_trans (List.length_take_le _ _) (by decide)) (by k_ne) 3); (case kwLAW8t0 => omega); (case kwLAW8t1 => (simp only [cost]; omega)); (case kwLAW8hcf => k_ne); (case kwLAW8e => rfl))
    intro T' tl' t' tk' h' tkk' F' N' nw' hT' hh' t0' t1'
    (try dsimp only at N')
    (try simp only [cost] at t1')
    (try k_sweep)))
  trivial
theorem kw_LAW_9 : True := by
  k_with "call ref" => first | ((
    k_here
    (with_reducible show wpAny _ _ (call (Value.ref 89) [Value.ref _, Value.int 4 _]) _ _ _)
    k_dflt (refine' next_use ?kwLAW9B ?kwLAW9F ?kwLAW9X ?kwLAW9N ?kwLAW9T ?kwLAW9hk ?kwLAW9hd ?kwLAW9U ?kwLAW9hca ?kwLAW9hvs ?kwLAW9hcf ?kwLAW9hlen ?kwLAW9t0 ?kwLAW9t1 ?kwLAW9m0 ?kwLAW9m1 ?_; (case kwLAW9B => k_asm); (case kwLAW9F => k_asm); (case kwLAW9X => k_asm); (case kwLAW9N => k_asm); (case kwLAW9T => k_asm); (case kwLAW9hk => first | exact rfl | assumption); (case kwLAW9hd => ktr_room); (case kwLAW9U => k_updF); (case kwLAW9hca => k_mem); (case kwLAW9hvs => with_reducible assumption); (case kwLAW9hcf => k_ne); (case kwLAW9hlen => exact Nat.le_trans (List.length_take_le _ _) (by decide)); (case kwLAW9t0 => omega); (case kwLAW9t1 => omega); (case kwLAW9m0 => decide); (case kwLAW9m1 => decide))
    intro r' tkr' t' h' tk' hr0' hr1' F' N'
    (try dsimp only at N')
    (try k_sweep)))
  trivial
theorem kw_LAW_10 : True := by
  k_with "execs cons Assign" => first | ((k_here; (with_reducible show wpAny _ _ (execs (Stmt.Assign [PySem.Expr.Name (Str.ofString "due") _] _ _ :: _) _) _ _ _); refine Stop.out ?_))
  trivial

theorem kw_LAW_11 : True := by
  k_with "bind" => first | ((k_here; k_dflt (refine' name_goesX ?kwLAW11F ?kwLAW11N ?_; (case kwLAW11F => k_asm); (case kwLAW11N => k_asm)); intro h' v' F' N'; (try k_sweep)))
  trivial
theorem kw_LAW_12 : True := by
  k_with "noteFrame ref" => first | ((k_here; (with_reducible rename RaisedD _ _ _ _ _ => rX9); k_dflt (refine' caught_D ?kwLAW12K ?kwLAW12F ?kwLAW12U rX9 ?kwLAW12X ?kwLAW12T ?kwLAW12ex ?_; (case kwLAW12U => with_reducible assumption); (case kwLAW12K => with_reducible assumption); (case kwLAW12F => with_reducible assumption); (case kwLAW12X => k_asm); (case kwLAW12T => k_asm); (case kwLAW12ex => k_is)); intro h' vs' sl' dx' od' tk' F' N' h8'; (try k_sweep)))
  trivial
theorem kw_LAW_13 : True := by
  k_with "getAttr ref" => first | ((k_here; k_dflt (refine' exc_number ?kwLAW13F ?kwLAW13X ?kwLAW13N ?kwLAW13m1 ?kwLAW13m2 ?kwLAW13h8 ?kwLAW13hp ?kwLAW13ga ?kwLAW13k ?kwLAW13a ?kwLAW13hh ?_; (case kwLAW13F => k_asm); (case kwLAW13X => k_asm); (case kwLAW13N => k_asm); (case kwLAW13h8 => with_reducible assumption); (case kwLAW13m1 => tb_rel); (case kwLAW13m2 => tb_rel); (case kwLAW13hp => (unfold excMro; rfl)); (case kwLAW13ga => k_is); (case kwLAW13k => k_is); (case kwLAW13a => k_is); (case kwLAW13hh => k_is)); intro k'))
  trivial
theorem kw_LAW_14 : True := by
  k_with "compareOp NotEq str str" => first | ((k_here; k_dflt (refine' ne_strs ?_)))
  trivial
theorem kw_LAW_15 : True := by
  k_with "compareOp NotEq ref ref" => first | ((
    k_here
    k_dflt (refine' ne_notes ?kwLAW15N ?kwLAW15ha ?kwLAW15hb ?kwLAW15h1 ?kwLAW15s1 ?kwLAW15h2 ?kwLAW15s2 ?kwLAW15hu ?_; (case kwLAW15N => k_asm); (case kwLAW15h1 => with_reducible assumption); (case kwLAW15h2 => with_reducible assumption); (case kwLAW15ha => tb_rel); (case kwLAW15hb => tb_rel); (case kwLAW15s1 => (intro p9 hp9; tb_rel)); (case kwLAW15s2 => (intro p9 hp9; tb_rel)); (case kwLAW15hu => ktr_units))))
  trivial
local macro_rules | `(tactic| lcg_sub) => `(tactic| first
  | exact List.forall_mem_nil _
  | (refine List.forall_mem_cons.mpr ⟨?_, ?_⟩; tb_rel; lcg_sub)
  | (refine List.forall_mem_append.mpr ⟨?_, ?_⟩; (intro p9 hp9; tb_rel); lcg_sub))
theorem kw_LAW_16 : True := by
  k_with "LawP" => first | ((k_dflt (refine' LawP.intro ?kwLAW16m ?kwLAW16F ?kwLAW16N; (case kwLAW16F => k_asm); (case kwLAW16N => exact news_drop (by k_asm) (by lcg_sub)); (case kwLAW16m => (intro z9 z1 z2 z3; simp only [z1, z2, z3, if_false])))))
  trivial
theorem kw_LAW_17 : True := by
  k_with "exec Try cons cons nil nil" => first | ((k_here; refine wpAny_Try_except ?_))
  trivial
theorem kw_LAW_18 : True := by
  k_with "compareOp Eq int int" => first | ((k_here; (with_reducible rename LenIs _ _ => lI9); k_dflt (refine' eq_len lI9 ?_)))
  trivial
theorem kw_LAW_19 : True := by
  k_with "call ref" => first | ((
    k_here
    (with_reducible show wpAny _ _ (call (Value.ref 127) [Value.ref _]) _ _ _)
    k_dflt (refine' chain_use ?kwLAW19B ?kwLAW19F ?kwLAW19X ?kwLAW19N ?kwLAW19T ?kwLAW19hk ?kwLAW19hd ?kwLAW19hu ?kwLAW19U ?kwLAW19hca ?kwLAW19hvs ?kwLAW19hlen ?kwLAW19hcf ?kwLAW19t0 ?kwLAW19t1 ?kwLAW19mb ?kwLAW19bf ?_; (case kwLAW19B => k_asm); (case kwLAW19F => k_asm); (case kwLAW19X => k_asm); (case kwLAW19N => k_asm); (case kwLAW19T => k_asm); (case kwLAW19hk => first | exact rfl | assumption); (case kwLAW19hd => ktr_room); (case kwLAW19hu => ktr_units); (case kwLAW19U => k_updF); (case kwLAW19hca => k_mem); (case kwLAW19hvs => with_reducible assumption); (case kwLAW19hlen => exact Nat.le_trans (List.length_take_le _ _) (by decide)); (case kwLAW19hcf => k_ne); (case kwLAW19t0 => omega); (case kwLAW19t1 => omega); (case kwLAW19mb => tb_rel); (case kwLAW19bf => k_ne))
    intro D' n' T' ns' cnt' kc' tl' t' tk' h' tkk' hDb' hC' F' N' nw' hT'
    (try dsimp only at N')
    (try k_sweep)))
  trivial
theorem kw_LAW_20 : True := by
  k_with "call ref" => first | ((
    k_here
    (with_reducible show wpAny _ _ (call (Value.ref 82) [Value.ref _, Value.bool _, Value.ref _]) _ _ _)
    k_dflt (refine' worked_short ?kvHhcb ?kvHhch ?kvHB ?kvHF ?kvHX ?kvHN ?kvHT ?kvHhk ?kvHhd1 ?kvHhu1 ?kvHU ?kvHhfn ?kvHsub0 ?kvHhap0 ?kvHhT ?kvHeT ?kvHsubT ?kvHhapT ?_; (case kvHhcb => with_reducible assumption); (case kvHB => k_asm); (case kvHF => k_asm); (case kvHX => k_asm); (case kvHN => k_asm); (case kvHT => k_asm); (case kvHhk => first | exact rfl | assumption); (case kvHhd1 => ktr_room); (case kvHhu1 => ktr_units); (case kvHeT => exact rfl); (case kvHhch => with_reducible assumption); (case kvHhT => with_reducible assumption); (case kvHU => k_updF); (case kvHhfn => tb_rel); (case kvHsub0 => lcg_sub); (case kvHhap0 => ktr_rel); (case kvHsubT => (intro p9 hp9; tb_rel)); (case kvHhapT => ktr_rel))
    intro k' tl' its' e' h' tk' hL' hz' F' N' nw'
    (try dsimp only at N')
    (try k_sweep)))
  trivial
theorem kw_LAW_21 : True := by
  k_with "call ref" => first | ((
    k_here
    (with_reducible show wpAny _ _ (call (Value.ref 82) [Value.ref _, Value.bool _, Value.ref _]) _ _ _)
    k_dflt (first | (refine' worked_mS ?kvShcb ?kvShD ?kvShh ?kvSB ?kvSF ?kvSX ?kvSN ?kvST ?kvShk ?kvShd1 ?kvShu1 ?kvSU ?kvShfn ?kvSsub0 ?kvShap0 ?kvShT ?kvSeT ?kvSsubT ?kvShapT ?_; (case kvShcb => with_reducible assumption); (case kvShD => with_reducible assumption); (case kvSB => k_asm); (case kvSF => k_asm); (case kvSX => k_asm); (case kvSN => k_asm); (case kvST => k_asm); (case kvShk => first | exact rfl | assumption); (case kvShd1 => ktr_room); (case kvShu1 => ktr_units); (case kvSeT => exact rfl); (case kvShh => with_reducible assumption); (case kvShT => with_reducible assumption); (case kvSU => k_updF); (case kvShfn => tb_rel); (case kvSsub0 => lcg_sub); (case kvShap0 => ktr_rel); (case kvSsubT => (intro p9 hp9; tb_rel)); (case kvShapT => ktr_rel)) | (refine' worked_mN ?kvNhcb ?kvNhD ?kvNhh ?kvNB ?kvNF ?kvNX ?kvNN ?kvNT ?kvNhk ?kvNhd1 ?kvNhu1 ?kvNU ?kvNhfn ?kvNsub0 ?kvNhap0 ?kvNhT ?kvNeT ?kvNsubT ?kvNhapT ?_; (case kvNhcb => with_reducible assumption); (case kvNhD => with_reducible assumption); (case kvNB => k_asm); (case kvNF => k_asm); (case kvNX => k_asm); (case kvNN => k_asm); (case kvNT => k_asm); (case kvNhk => first | exact rfl | assumption); (case kvNhd1 => ktr_room); (case kvNhu1 => ktr_units); (case kvNeT => exact rfl); (case kvNhh => with_reducible assumption); (case kvNhT => with_reducible assumption); (case kvNU => k_updF); (case kvNhfn => tb_rel); (case kvNsub0 => lcg_sub); (case kvNhap0 => ktr_rel); (case kvNsubT => (intro p9 hp9; tb_rel)); (case kvNhapT => ktr_rel)) | (refine' worked_mE ?kvEhcb ?kvEhD ?kvEhh ?kvEB ?kvEF ?kvEX ?kvEN ?kvET ?kvEhk ?kvEhd1 ?kvEhu1 ?kvEU ?kvEhfn ?kvEsub0 ?kvEhap0 ?kvEhT ?kvEeT ?kvEsubT ?kvEhapT ?_; (case kvEhcb => with_reducible assumption); (case kvEhD => with_reducible assumption); (case kvEB => k_asm); (case kvEF => k_asm); (case kvEX => k_asm); (case kvEN => k_asm); (case kvET => k_asm); (case kvEhk => first | exact rfl | assumption); (case kvEhd1 => ktr_room); (case kvEhu1 => ktr_units); (case kvEeT => exact rfl); (case kvEhh => with_reducible assumption); (case kvEhT => with_reducible assumption); (case kvEU => k_updF); (case kvEhfn => tb_rel); (case kvEsub0 => lcg_sub); (case kvEhap0 => ktr_rel); (case kvEsubT => (intro p9 hp9; tb_rel)); (case kvEhapT => ktr_rel)))
    intros
    (try k_sweep)))
  trivial
theorem kw_LAW_22 : True := by
  k_with "call ref" => first | ((
    k_here
    (with_reducible show wpAny _ _ (call (Value.ref 120) [Value.ref _, Value.bool _, Value.ref _]) _ _ _)
    k_dflt (refine' due_call (its := []) (e := 0) (due_all 4) ?kwLAW22B ?kwLAW22F ?kwLAW22X ?kwLAW22N ?kwLAW22T ?kwLAW22hk ?kwLAW22hd ?kwLAW22hu ?kwLAW22U ?kwLAW22hT ?kwLAW22e ?kwLAW22sub ?kwLAW22hap ?kwLAW22hh ?kwLAW22hz (fun tl' its' e' h' tkk k' hR' F' N' nw' hN' => ?_) (fun tl' its' e' h' tkk hR' F' N' nw' hN' => ?_) (fun x' tl' its' e' h' tkk k' hR' F' N' nw' hN' => ?_); (case kwLAW22B => k_asm); (case kwLAW22F => k_asm); (case kwLAW22X => k_asm); (case kwLAW22N => k_asm); (case kwLAW22T => k_asm); (case kwLAW22hk => first | exact rfl | assumption); (case kwLAW22hd => ktr_room); (case kwLAW22hu => ktr_units); (case kwLAW22U => k_updF); (case kwLAW22e => exact rfl); (case kwLAW22hT => with_reducible assumption); (case kwLAW22sub => (intro p9 hp9; tb_rel)); (case kwLAW22hap => ktr_rel); (case kwLAW22hh => with_reducible assumption); (case kwLAW22hz => decide))
    all_goals (try simp only [List.nil_append] at N')
    all_goals (try dsimp only at N')
    all_goals (try k_sweep)))
  trivial

theorem law_holds : PySem.Challenge.rw_pf0366_01.Holds := hd (by
  w_strict (
    k_go0; (all_goals try k_fold); k_steps
    refine Stop.mk ?_
    k_with "new" => skip
    k_with "k_ne" => first | exact nem1 (by with_reducible assumption) (by tb_rel) | exact nem2 (by with_reducible assumption) (by tb_rel)

    refine' cb_have (Str.ofString "made") saidOf PMade ?cT ?cX ?cN ?c1 ?c2 ?c3 ?d1 ?d2 ?d3 ?hcb ?kk
    case cT => k_asm
    case cX => k_asm
    case cN => k_asm
    case c1 => tb_rel
    case c2 => tb_rel
    case c3 => tb_rel
    case d1 => with_reducible assumption
    case d2 => with_reducible assumption
    case d3 => with_reducible assumption
    case hcb =>
      repeat (rename News _ _ _ _ => z9; clear z9)
      repeat (rename Fr _ _ _ _ => z9; clear z9)
      repeat (rename Below _ _ _ _ => z9; clear z9)
      repeat (rename Top _ _ _ _ _ _ => z9; clear z9)
      repeat (rename Frag.In _ _ => z9; clear z9)
      intro dp un gd cn cs a ccd cl outer A₀ base h₀ L m imm s its e t wb lv vs os n Q E B F X N T hk hd1 hu1 hs0 hT hlv hV hlen hz hap R
      have i1 := hs0 _ (.head _)
      have i2 := hs0 _ (.tail _ (.head _))
      have i3 := hs0 _ (.tail _ (.tail _ (.head _)))
      have hF : Foc imm t := ⟨hT⟩
      have hol : os.length ≤ 4 := by rw [← hV.length, hlen]; exact t.parts_len
      have hon : t.isNeg = true → os.length = 1 := fun h => by rw [← hV.length, hlen]; exact neg_parts h
      have hz2 : vs.length ≤ 1000000 := by rw [hlen]; exact Nat.le_trans t.parts_len (by decide)
      have hz1 : vs.length ≤ 1000 := by rw [hlen]; exact Nat.le_trans t.parts_len (by decide)
      clear hs0 hT
      dsimp only [Tr.val]
      revert X; k_fill; intro X
      refine wpAny_call ?_
      k_dflt (refine' code_nest ?k1 ?k2 ?k3 ?k4 ?k5 ?kA ?kF ?kK ?k6 ?k7 ?k8 ?k9 ?kB ?_ ?c2 ?c3 ?c4 ?c5; (case kA => exact rfl); (case kF => exact rfl); (case kK => exact hk); (case k1 => k_asm); (case k2 => k_asm); (case k3 => k_asm); (case k4 => k_asm); (case k5 => k_asm); (case k6 => k_mem); (case k7 => exact codeRec_news (by k_asm) (by k_mem) (by assumption) (by assumption)); (case k8 => ktr_room); (case k9 => exact BindsTo.of_eq rfl); (case c5 => decide); (case kB => exact locs rfl); (case c2 => exact rfl); (case c3 => exact rfl); (case c4 => exact rfl); k_whole; intro g' L' h' FG' F' N' B' X' T'; (try dsimp only); (try k_lift B'); (try k_fold))
      k_steps
      · rename (∀ (_ : Value) (_ : Heap) (_ : Tok), VIs _ _ → Fr _ _ _ _ → _ → _) => hK9; exact hK9 _ _ _ ⟨_, rfl⟩ (by k_asm) (by k_asm)
      · rename (∀ (_ : Value) (_ : Heap) (_ : Tok), VIs _ _ → Fr _ _ _ _ → _ → _) => hK9; exact hK9 _ _ _ rfl (by k_asm) (by k_asm)
      · refine' made_close2 R ?hf ?hn ?hr ?hy ?hx ?nw; (case hf => k_asm); (case hn => k_asm); (case hx => first | with_reducible assumption | exact ltm (by with_reducible assumption) (by tb_rel) | k_ne | omega); (case hr => with_reducible assumption); (case hy => with_reducible assumption); (case nw => tb_start)
      · refine' made_close1 R ?hf ?hn ?hr ?hy ?nw; (case hf => k_asm); (case hn => k_asm); (case hr => with_reducible assumption); (case hy => with_reducible assumption); (case nw => tb_start)
    case kk => 
      intro hcb1
      
      refine' cb_have (Str.ofString "made_short") resS PShort ?cT ?cX ?cN ?c1 ?c2 ?c3 ?d1 ?d2 ?d3 ?hcb ?kk
      case cT => k_asm
      case cX => k_asm
      case cN => k_asm
      case c1 => tb_rel
      case c2 => tb_rel
      case c3 => tb_rel
      case d1 => with_reducible assumption
      case d2 => with_reducible assumption
      case d3 => with_reducible assumption
      case hcb =>
        repeat (rename News _ _ _ _ => z9; clear z9)
        repeat (rename Fr _ _ _ _ => z9; clear z9)
        repeat (rename Below _ _ _ _ => z9; clear z9)
        repeat (rename Top _ _ _ _ _ _ => z9; clear z9)
        repeat (rename Frag.In _ _ => z9; clear z9)
        intro dp un gd cn cs a ccd cl outer A₀ base h₀ L m imm s its e t wb lv vs os n Q E B F X N T hk hd1 hu1 hs0 hT hlv hV hlen hz hap R
        have i1 := hs0 _ (.head _)
        have i2 := hs0 _ (.tail _ (.head _))
        have i3 := hs0 _ (.tail _ (.tail _ (.head _)))
        have hF : Foc imm t := ⟨hT⟩
        have hol : os.length ≤ 4 := by rw [← hV.length, hlen]; exact t.parts_len
        have hon : t.isNeg = true → os.length = 1 := fun h => by rw [← hV.length, hlen]; exact neg_parts h
        have hz2 : vs.length ≤ 1000000 := by rw [hlen]; exact Nat.le_trans t.parts_len (by decide)
        have hz1 : vs.length ≤ 1000 := by rw [hlen]; exact Nat.le_trans t.parts_len (by decide)
        clear hs0 hT
        dsimp only [Tr.val]
        revert X; k_fill; intro X
        refine wpAny_call ?_
        k_dflt (refine' code_nest ?k1 ?k2 ?k3 ?k4 ?k5 ?kA ?kF ?kK ?k6 ?k7 ?k8 ?k9 ?kB ?_ ?c2 ?c3 ?c4 ?c5; (case kA => exact rfl); (case kF => exact rfl); (case kK => exact hk); (case k1 => k_asm); (case k2 => k_asm); (case k3 => k_asm); (case k4 => k_asm); (case k5 => k_asm); (case k6 => k_mem); (case k7 => exact codeRec_news (by k_asm) (by k_mem) (by assumption) (by assumption)); (case k8 => ktr_room); (case k9 => exact BindsTo.of_eq rfl); (case c5 => decide); (case kB => exact locs rfl); (case c2 => exact rfl); (case c3 => exact rfl); (case c4 => exact rfl); k_whole; intro g' L' h' FG' F' N' B' X' T'; (try dsimp only); (try k_lift B'); (try k_fold))
        cases wb
        all_goals k_steps
        · refine' short_close1 R ?hf ?hn; (case hf => k_asm); (case hn => k_asm)
        · refine' short_close2 R ?hf ?hn ?hx ?nw; (case hf => k_asm); (case hn => k_asm); (case hx => first | with_reducible assumption | exact ltm (by with_reducible assumption) (by tb_rel) | k_ne | omega); (case nw => tb_start)
      case kk => 
          intro hcb2
          k_dflt (refine' law_cut ?lF ?lN ?l1 ?l2; (case lF => k_asm); (case lN => k_asm))
          case l2 =>
            intro h' tk' u1 u2 u3 F' N'
            k_sweep
            k_steps
          case l1 =>
            k_fold
            k_steps
  ))
end P_LAW

end Mine
theorem PySem.Challenge.cw_pf0366_01_holds : PySem.Challenge.rw_pf0366_01.Holds :=
  Mine.law_holds
