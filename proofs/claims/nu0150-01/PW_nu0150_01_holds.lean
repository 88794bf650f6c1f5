import PyProof.Rows.All
import Wide.All
import OpenK.AllK
import Wide.FinOn
import PyProof.Rows.SortShell
import Lean
import PySem.Challenge.RW_nu0150_01
open PySem PySem.W PyProof.Rows
set_option Elab.async false
set_option maxRecDepth 100000
-- Hd
theorem Mine.noneHd : True := by
  k_with_none
  exact trivial
namespace Mine
/-- the head leaves the walk as a cut: its statement is found by unification -/
structure HeadCut (H : Prop) where
  A : Prop
  ok : A → H
noncomputable abbrev R0 : RowW := PySem.Challenge.rw_nu0150_01.row.toRowW
/-- the view of the text: all but `__name__` and `EVERY_BIT` -/
noncomputable def hd.view_39 : Program := view R0.prog [0, 2, 3, 5, 6, 7, 8, 9, 10, 11, 12, 13, 14, 15, 16]
/-- the opening of a plain text is the library's own: what is left is the text's run and the looks at what it leaves -/
theorem left_boot {p q : Program} {loose : List Str} {Xt : Shared → Bool} {α : Type} {Yf : Shared → α} {Ya : World → α} {N : Nat} {g0 : Bool}
    (e : opening p = plainProg p.main.scope.names) (hN : Nat.ble 600 N = true) (f : ∀ s, fenceModules? p s = some s)
    (h : ∀ w os, (topFrom treeTable p w N ⟨boot_heap w.params, #[], boot_drawn, boot_toks, os⟩).map
      (fun s => (openSeen q loose (importedModules p.main.body) Xt g0 s, Yf s)) = some (openGood q loose, Ya w)) : LeftO p q loose Xt Yf Ya N g0 := fun w => by
  obtain ⟨⟨hp, gs, d, k, os⟩, e1, e2⟩ := Option.map_eq_some_iff.mp (boot_open e hN f w)
  simp only [Prod.mk.injEq] at e2
  obtain ⟨rfl, rfl, rfl, rfl⟩ := e2
  unfold openEnds
  rw [e1]
  exact h w os
section
-- the library's head at once, not in pieces (the pieces' twins of the written heaps are 10 MB of the compiled file)
local macro_rules | `(tactic| o_head $H) => `(tactic|
  refine holds_open (q := hd.view_39) (loose := [Str.ofString "EVERY_BIT"]) (Xt := fun s => xlAt hd.view_39 [(Str.ofString "EVERY_BIT", WData.int 18446744073709551615)] s && recOk (RowW.records R0) s) (XP := XL hd.view_39 [(Str.ofString "EVERY_BIT", WData.int 18446744073709551615)])
    (Yf := Hook.obs $H) (Ya := Hook.val $H) (YP := Hook.says $H) (N := 2266) ?hl (Hook.of $H) (Hook.keeps $H)
    (fun s e => xl_of s (Bool.and_eq_true_iff.mp e).1) XL.keeps (by rfl) (by rfl) (by rfl) (fun s e => recFacts_of (Bool.and_eq_true_iff.mp e).2) (by rfl)
    (by first | assumption | decide +kernel) (by decide +kernel) ⟨rfl, rfl, rfl, rfl, rfl, by decide +kernel⟩ ?hw ?hc)
set_option maxHeartbeats 1000000 in
noncomputable def hd : HeadCut PySem.Challenge.rw_nu0150_01.Holds := ⟨_, by
  intro hcut
  w_on
  o_law
  k_head
  case hw => w_witness2
  case hl =>
    rename_i said
    clear hcut said
    refine left_boot (by kernel_rfl) (by decide +kernel) (by intro s; kernel_rfl) ?_
    intro w os
    unfold topFrom
    -- the library's quick twins of topRun, treeTable, openSeen
    rw [PySem.W.Fast.te14082659384304107361, PySem.W.Fast.te14364793385576792824, PySem.W.Fast.te4187177175401517315]
    kernel_rfl
  case hc =>
    rename_i said
    clear said
    exact hcut⟩
end
end Mine

-- B1
theorem Mine.noneB1 : True := by
  k_with_none
  exact trivial
namespace Mine

noncomputable abbrev Pg : Program := PySem.Challenge.rw_nu0150_01.row.prog
noncomputable abbrev AA (d : Nat) : Around := { handled := none, depth := 300 + d, frames := none, guards := some [], units := 10 * d }

structure Low (A : Around) (d : Nat) : Prop where
  handled : A.handled = none
  guards : A.guards = some []
  depth : A.depth ≤ 300 + d
  units : A.units ≤ 10 * d

theorem wpAny_low {α : Type} {M : Model} {A : Around} {d : Nat} {t : Sem α} {Q : α → Shared → Prop} {E : Value → Shared → Prop} {s : Shared}
    (hl : Low A d) (h : wpAny M (AA d) t Q E s) : wpAny M A t Q E s := by
  intro Γ p hΓ
  refine h Γ p ⟨hΓ.1.trans hl.handled, Nat.le_trans hΓ.2.1 hl.depth, fun l hl' => (nomatch hl'), fun g hg => ?_, Nat.le_trans hΓ.2.2.2.2 hl.units⟩
  exact hΓ.2.2.2.1 g (hl.guards.trans hg)

/-- the same heap but for the addresses of `mod` -/
noncomputable def Same (mod : List Addr) (h h' : Heap) : Prop := ∀ b o, b ∉ mod → h.get? b = some o → h'.get? b = some o

theorem Same.refl {mod : List Addr} {h : Heap} : Same mod h h := fun _ _ _ e => e
theorem Same.trans {mod : List Addr} {h h' h'' : Heap} (a : Same mod h h') (b : Same mod h' h'') : Same mod h h'' := fun x o n e => b x o n (a x o n e)

/-- the loose names of the top, as the head hands them -/
noncomputable def LZ : List Str := looseW Mine.hd.view_39 [Str.ofString "EVERY_BIT"]
/-- what every call of ours may lean on -/
structure Cx (w : World) (mg mb : Str → Option Value) (h : Heap) : Prop where
  K : (Mine.hd.heap_39 w.params).In h
  T : TopRead Mine.hd.view_39 LZ mg mb h

theorem Cx.keeps {w : World} {mg mb : Str → Option Value} {h h' : Heap} (c : Cx w mg mb h) (k : ∀ b o, h.get? b = some o → h'.get? b = some o) : Cx w mg mb h' :=
  ⟨c.K.keeps k, c.T.keeps k⟩

section
open PySem.Calls
variable {w : World} {A : Around} {E : Value → Shared → Prop} {s : Shared} {K : Frag}
/-- a def is entered: what is not in `news` is frozen -/
theorem enterK {prog : Program} {Q : Value → Shared → Prop} {name qual : Str} {params : Arguments} {body : List Stmt} {scope : Scope} {dV kV doc pm cdv ct oc : Value} {an od : Option Addr} {osl : Array (Option Value)} {f : Addr} {args : List Value} {binds : List (Str × Value)}
    (news : List (Addr × Obj)) (X : K.In s.heap) (hlim : s.heap.NoLimit)
    (ho : K.lookup f = some ⟨oc, od, .func (fnOf name qual params body scope dV kV doc pm an cdv ct), osl⟩) (hcd : codeIn K cdv qual = true) (hroom : A.depth < recursionLimit)
    (hbind : BindsTo s (fnOf name qual params body scope dV kV doc pm an cdv ct) ⟨args, []⟩ binds) (hloc : ∀ y ∈ binds, scope.names.lookup y.1 = some .local)
    (hN : ∀ p ∈ news, s.heap.get? p.1 = some p.2)
    (h : ∀ g L' h₁, g = hideAll s.heap (news.map (·.1)) → s.heap.objs.size = L' → Fr g L' h₁ (fun y => binds.reverse.lookup y) → News g L' h₁ news →
      wpAny (model prog w) (A.deeper (envOf qual scope L' f cdv)) (execs body (envOf qual scope L' f cdv))
        (fun fl s' => Q (match fl with | .ret v => v | _ => .none) s') (fun _ _ => False) { s with heap := h₁, toks := s.toks + binds.length })
    (hco : scope.isCoroutine = false := by rfl) (hgen : scope.isGenerator = false := by rfl) (hk : scope.kind = .function := by rfl)
    (hcell : ∀ x ∈ scope.names, x.2 ≠ .cell := by decide) : wpAny (model prog w) A (call (.ref f) args) Q E s := by
  refine wpAny_call (codeAny_call_def (fd := fnOf name qual params body scope dV kV doc pm an cdv ct) (body := body) (binds := binds) hroom (X _ _ ho) rfl hlim (codeRec_of X hcd) rfl hbind hcell hloc (fun h₁ hns hk₁ => ?_) hco hgen hk)
  refine wpAny_mono (h _ _ h₁ rfl rfl ⟨hns, fun b o e => hk₁ b o (of_hideAll _ e), Nat.le_of_eq (hideAll_size _ _)⟩ (fun p hp => ⟨hk₁ _ _ (hN p hp), Nat.ne_of_lt (Heap.lt_size (hN p hp)), hideAll_none _ (List.mem_map_of_mem hp)⟩)) (fun fl s' hl => hl) fun _ _ y => y.elim
end

theorem Same.of_fr {h g h' : Heap} {mod : List Addr} {L' : Addr} {m : Str → Option Value} (F : Fr g L' h' m) (e : g = hideAll h mod) : Same mod h h' := fun b o n q => F.keep b o (e ▸ hideAll_get mod q n)

/-- the calls' ground: what they lean on stands, and what they turn is none of it -/
noncomputable def On (w : World) (mg mb : Str → Option Value) (mod : List Addr) (h : Heap) : Prop :=
  ∃ B : Heap, Cx w mg mb B ∧ (∀ b o, B.get? b = some o → h.get? b = some o) ∧ ∀ a ∈ mod, B.get? a = none

theorem On.hide {w : World} {mg mb : Str → Option Value} {mod : List Addr} {h : Heap} (o : On w mg mb mod h) : Cx w mg mb (hideAll h mod) := by
  obtain ⟨B, c, k, f⟩ := o
  refine c.keeps fun b o e => hideAll_get mod (k b o e) fun hm => ?_
  rw [f b hm] at e; cases e
theorem On.cx {w : World} {mg mb : Str → Option Value} {mod : List Addr} {h : Heap} (o : On w mg mb mod h) : Cx w mg mb h := by
  obtain ⟨B, c, k, f⟩ := o
  exact c.keeps k
theorem On.of {w : World} {mg mb : Str → Option Value} {h₀ h : Heap} {L : Addr} {m : Str → Option Value} {news : List (Addr × Obj)} {mod : List Addr} (c : Cx w mg mb h₀) (F : Fr h₀ L h m) (N : News h₀ L h news) (hm : ∀ a ∈ mod, ∃ o, (a, o) ∈ news) :
    On w mg mb mod h := ⟨h₀, c, F.keep, fun a ha => let ⟨_, ho⟩ := hm a ha; (N _ ho).2.2⟩
end Mine

namespace Mine
theorem Fr.same {h₀ h h' : Heap} {L : Addr} {m : Str → Option Value} {mod : List Addr} (F : Fr h₀ L h m) (S : Same mod h h') (hL : L ∉ mod) (hb : ∀ a ∈ mod, h₀.get? a = none) : Fr h₀ L h' m :=
  ⟨F.ns.at' fun o e => S L o hL e, fun b o e => S b o (fun hm => by rw [hb b hm] at e; cases e) (F.keep b o e), F.above⟩
theorem News.same {h₀ h h' : Heap} {L : Addr} {news : List (Addr × Obj)} {mod : List Addr} (N : News h₀ L h news) (S : Same mod h h') (hd : ∀ p ∈ news, p.1 ∉ mod) : News h₀ L h' news :=
  fun p hp => ⟨S _ _ (hd p hp) (N p hp).1, (N p hp).2⟩

/-- every object of the list stands in the heap -/
noncomputable def Has (h : Heap) (l : List (Addr × Obj)) : Prop := ∀ p ∈ l, h.get? p.1 = some p.2
theorem Has.of {h₀ h : Heap} {L : Addr} {news l : List (Addr × Obj)} (N : News h₀ L h news) (hs : ∀ p ∈ l, p ∈ news) : Has h l := fun p hp => (N p (hs p hp)).1
theorem Has.same {h h' : Heap} {l : List (Addr × Obj)} {mod : List Addr} (H : Has h l) (S : Same mod h h') (hd : ∀ p ∈ l, p.1 ∉ mod) : Has h' l := fun p hp => S _ _ (hd p hp) (H p hp)

/-- an address is none of the list's -/
structure AllAp (a : Addr) (l : List (Addr × Obj)) : Prop where
  all : ∀ p ∈ l, p.1 ≠ a
theorem AllAp.ne {a : Addr} {l : List (Addr × Obj)} (h : AllAp a l) {x : Addr} {o : Obj} (hm : (x, o) ∈ l) : x ≠ a := h.all _ hm
theorem AllAp.of {h₀ h : Heap} {L a : Addr} {news : List (Addr × Obj)} (N : News h₀ L h news) (ha : h.get? a = none) : AllAp a news :=
  ⟨fun p hp e => by rw [← e, (N p hp).1] at ha; cases ha⟩
/-- new objects join the ledger -/
theorem News.join {h₀ h h' : Heap} {L : Addr} {m : Str → Option Value} {news l : List (Addr × Obj)} (F : Fr h₀ L h m) (N : News h₀ L h' news) (H : Has h' l) (hf : ∀ p ∈ l, h.get? p.1 = none) : News h₀ L h' (l ++ news) := by
  intro p hp
  rcases List.mem_append.mp hp with hp | hp
  · refine ⟨H p hp, fun e => ?_, ?_⟩
    · obtain ⟨o, _, _, ho, _⟩ := F.ns
      have := hf p hp
      rw [e, ho] at this; cases this
    · cases q : h₀.get? p.1 with
      | none => rfl
      | some o => have := hf p hp; rw [F.keep _ _ q] at this; cases this
  · exact N p hp
/-- some of the ledger's objects have turned -/
theorem News.turn {h₀ h h' : Heap} {L : Addr} {news new old : List (Addr × Obj)} (N : News h₀ L h news) (H : Has h' new) (hk : ∀ p ∈ new, ∃ o, (p.1, o) ∈ news) (N' : News h₀ L h' old) : News h₀ L h' (new ++ old) := by
  intro p hp
  rcases List.mem_append.mp hp with hp | hp
  · obtain ⟨o, ho⟩ := hk p hp
    exact ⟨H p hp, (N _ ho).2⟩
  · exact N' p hp
/-- what a call made is new to the caller -/
theorem fresh_of {h g h' : Heap} {mod : List Addr} {L' a : Addr} {news : List (Addr × Obj)} {o : Obj} (N : News g L' h' news) (e : g = hideAll h mod) (hm : (a, o) ∈ news) (hn : a ∉ mod) : h.get? a = none := by
  cases q : h.get? a with
  | none => rfl
  | some o' => have := (N _ hm).2.2; rw [e, hideAll_get mod q hn] at this; cases this
end Mine

namespace Mine
section
open PySem.Calls
variable {w : World} {A : Around} {E : Value → Shared → Prop} {s : Shared} {K : Frag}
/-- a def is entered, its code's way -/
theorem enterC {prog : Program} {R : Result → Shared → Prop} {name qual : Str} {params : Arguments} {body : List Stmt} {scope : Scope} {dV kV doc pm cdv ct oc : Value} {an od : Option Addr} {osl : Array (Option Value)} {f : Addr} {args : List Value} {binds : List (Str × Value)}
    (news : List (Addr × Obj)) (X : K.In s.heap) (hlim : s.heap.NoLimit)
    (ho : K.lookup f = some ⟨oc, od, .func (fnOf name qual params body scope dV kV doc pm an cdv ct), osl⟩) (hcd : codeIn K cdv qual = true) (hroom : A.depth < recursionLimit)
    (hbind : BindsTo s (fnOf name qual params body scope dV kV doc pm an cdv ct) ⟨args, []⟩ binds) (hloc : ∀ y ∈ binds, scope.names.lookup y.1 = some .local)
    (hN : ∀ p ∈ news, s.heap.get? p.1 = some p.2)
    (h : ∀ g L' h₁, g = hideAll s.heap (news.map (·.1)) → s.heap.objs.size = L' → Fr g L' h₁ (fun y => binds.reverse.lookup y) → News g L' h₁ news →
      wpAny (model prog w) (A.deeper (envOf qual scope L' f cdv)) (execs body (envOf qual scope L' f cdv))
        (fun fl s' => R (.ok (.ret (match fl with | .ret v => v | _ => .none))) s') (fun _ _ => False) { s with heap := h₁, toks := s.toks + binds.length })
    (hco : scope.isCoroutine = false := by rfl) (hgen : scope.isGenerator = false := by rfl) (hk : scope.kind = .function := by rfl)
    (hcell : ∀ x ∈ scope.names, x.2 ≠ .cell := by decide) : codeAny (model prog w) A (.call (.ref f) ⟨args, []⟩) R s := by
  refine codeAny_call_def (fd := fnOf name qual params body scope dV kV doc pm an cdv ct) (body := body) (binds := binds) hroom (X _ _ ho) rfl hlim (codeRec_of X hcd) rfl hbind hcell hloc (fun h₁ hns hk₁ => ?_) hco hgen hk
  refine wpAny_mono (h _ _ h₁ rfl rfl ⟨hns, fun b o e => hk₁ b o (of_hideAll _ e), Nat.le_of_eq (hideAll_size _ _)⟩ (fun p hp => ⟨hk₁ _ _ (hN p hp), Nat.ne_of_lt (Heap.lt_size (hN p hp)), hideAll_none _ (List.mem_map_of_mem hp)⟩)) (fun fl s' hl => hl) fun _ _ y => y.elim
end
theorem has_one {h : Heap} {a : Addr} {o : Obj} (e : h.get? a = some o) : Has h [(a, o)] := fun p hp => by cases List.mem_singleton.mp hp; exact e
theorem has_nil {h : Heap} : Has h [] := fun _ hp => nomatch hp
theorem Has.get {h : Heap} {l : List (Addr × Obj)} (H : Has h l) {a : Addr} {o : Obj} (hm : (a, o) ∈ l) : h.get? a = some o := H _ hm
end Mine

namespace Mine
theorem Same.shrink {mod mod' : List Addr} {h h' : Heap} (S : Same mod h h') (hk : ∀ a ∈ mod, a ∉ mod' → ∀ o, h.get? a = some o → h'.get? a = some o) : Same mod' h h' := fun b o n e => by
  by_cases hb : b ∈ mod
  · exact hk b hb n o e
  · exact S b o hb e
theorem Same.widen {mod mod' : List Addr} {h h' : Heap} (S : Same mod h h') (hs : ∀ a ∈ mod, a ∈ mod') : Same mod' h h' := fun b o n e => S b o (fun hm => n (hs b hm)) e
end Mine

namespace Mine
theorem News.upd1 {h₀ h h' : Heap} {L a : Addr} {o o' : Obj} {news news' : List (Addr × Obj)} (N : News h₀ L h news) (S : Same [a] h h') (U : Upd a o o' news news') (e : h'.get? a = some o') : News h₀ L h' news' := by
  obtain ⟨pre, post, rfl, rfl, h1, h2⟩ := U.split
  intro p hp
  rcases List.mem_append.mp hp with hp | hp
  · exact ⟨S _ _ (fun hm => h1 p hp (List.mem_singleton.mp hm)) (N p (List.mem_append_left _ hp)).1, (N p (List.mem_append_left _ hp)).2⟩
  · rcases List.mem_cons.mp hp with rfl | hp
    · exact ⟨e, (N (a, o) (List.mem_append_right _ (.head _))).2⟩
    · exact ⟨S _ _ (fun hm => h2 p hp (List.mem_singleton.mp hm)) (N p (List.mem_append_right _ (.tail _ hp))).1, (N p (List.mem_append_right _ (.tail _ hp))).2⟩
theorem Fr.same1 {h₀ h h' : Heap} {L a : Addr} {o : Obj} {m : Str → Option Value} {news : List (Addr × Obj)} (F : Fr h₀ L h m) (N : News h₀ L h news) (hm : (a, o) ∈ news) (S : Same [a] h h') : Fr h₀ L h' m :=
  Fr.same F S (fun h => (N _ hm).2.1 (List.mem_singleton.mp h).symm) (fun b hb => by rw [List.mem_singleton.mp hb]; exact (N _ hm).2.2)
end Mine

namespace Mine
/- small terms for memberships (a hand-in's compiled size has a lid: simp's proofs are long) -/
section
variable {α : Type} {x : α} {t u l : List α} {P : α → Prop}
theorem sub_nil : ∀ p ∈ ([] : List α), p ∈ l := fun _ h => nomatch h
theorem sub_refl : ∀ p ∈ l, p ∈ l := fun _ h => h
theorem sub_cons (h : x ∈ l) (k : ∀ p ∈ t, p ∈ l) : ∀ p ∈ x :: t, p ∈ l := List.forall_mem_cons.mpr ⟨h, k⟩
theorem sub_step (k : ∀ p ∈ t, p ∈ l) : ∀ p ∈ t, p ∈ x :: l := fun p h => .tail _ (k p h)
theorem sub_app (h : ∀ p ∈ t, p ∈ l) (k : ∀ p ∈ u, p ∈ l) : ∀ p ∈ t ++ u, p ∈ l := fun p hp => (List.mem_append.mp hp).elim (h p) (k p)
theorem sub_left : ∀ p ∈ t, p ∈ t ++ u := fun _ h => List.mem_append_left _ h
theorem sub_right : ∀ p ∈ u, p ∈ t ++ u := fun _ h => List.mem_append_right _ h
theorem all_nil : ∀ p ∈ ([] : List α), P p := fun _ h => nomatch h
theorem all_cons (h : P x) (k : ∀ p ∈ t, P p) : ∀ p ∈ x :: t, P p := List.forall_mem_cons.mpr ⟨h, k⟩
theorem all_app (h : ∀ p ∈ t, P p) (k : ∀ p ∈ u, P p) : ∀ p ∈ t ++ u, P p := fun p hp => (List.mem_append.mp hp).elim (h p) (k p)
theorem nin2 {a b c : α} (h1 : a ≠ b) (h2 : a ≠ c) : a ∉ [b, c] := fun h => by
  rcases List.mem_cons.mp h with e | h
  · exact h1 e
  · exact h2 (List.mem_singleton.mp h)
theorem nin3 {a b c d : α} (h1 : a ≠ b) (h2 : a ≠ c) (h3 : a ≠ d) : a ∉ [b, c, d] := fun h => by
  rcases List.mem_cons.mp h with e | h
  · exact h1 e
  · exact nin2 h2 h3 h
end
theorem ov_if {S : List Str} {x z : Str} {v f w : Option Value} (hx : S.contains x = true) (hz : S.contains z = false) (k : f = w) : (if z = x then v else f) = w := by
  rw [if_neg]
  · exact k
  · rintro rfl
    rw [hx] at hz; cases hz
theorem ov_base {S : List Str} {z : Str} {v f w : Option Value} (hz : S.contains z = false) (k : f = w) : (if S.contains z = true then v else f) = w := by
  rw [hz]; exact k
theorem ov_sub {S S' : List Str} {z : Str} {v f w : Option Value} (h : S'.all (fun x => S.contains x) = true) (hz : S.contains z = false) (k : f = w) : (if S'.contains z = true then v else f) = w := by
  refine ov_base ?_ k
  cases q : S'.contains z with
  | false => rfl
  | true => rw [List.all_eq_true.mp h z (List.contains_iff_mem.mp q)] at hz; cases hz
theorem noE {α : Type} {M : Model} {A : Around} {t : Sem α} {Q : α → Shared → Prop} {E : Value → Shared → Prop} {s : Shared} (h : wpAny M A t Q (fun _ _ => False) s) : wpAny M A t Q E s := wpAny_mono h (fun _ _ q => q) fun _ _ e => e.elim
theorem letQ {α : Type} {M : Model} {A : Around} {t : Sem α} {Q : α → Shared → Prop} {E : Value → Shared → Prop} {s : Shared} (h : let qk := Q; wpAny M A t qk E s) : wpAny M A t Q E s := h
theorem letT {α β : Type} {M : Model} {A : Around} {t : Sem α} {ex : Sem β} {T : β → Shared → Prop} {E : Value → Shared → Prop} {s : Shared} (h : let te := T; wpAny M A t (fun _ s₃ => wpAny M A ex te E s₃) E s) : wpAny M A t (fun _ s₃ => wpAny M A ex T E s₃) E s := h
noncomputable def Halt (p : Prop) : Prop := p
theorem Halt.mk {p : Prop} (h : Halt p) : p := h
theorem Halt.out {p : Prop} (h : p) : Halt p := h
structure Hid (P : Prop) : Prop where
  out : P
theorem join_by {P G : Prop} (h1 : Hid P → G) (h2 : P) : G := h1 ⟨h2⟩
theorem two_over {g h : Heap} {L : Addr} {x : Str} {c : Int} {t : Tok} {m : Str → Option Value} (F : Fr g L h (fun z => if z = x then some (.int c t) else m z)) : ∃ c t, Fr g L h (fun z => if z = x then some (.int c t) else m z) := ⟨c, t, F⟩
theorem gen_toks {α : Type} {M : Model} {A : Around} {t : Sem α} {Q : α → Shared → Prop} {E : Value → Shared → Prop} {s : Shared} {h' : Heap} {tk₀ : Nat} (h : ∀ tk, wpAny M A t Q E { s with heap := h', toks := tk }) : wpAny M A t Q E { s with heap := h', toks := tk₀ } := h tk₀
end Mine

-- B2
theorem Mine.noneB2 : True := by
  k_with_none
  exact trivial
namespace Mine
/-- a frame's map: what the loop stores is anything, the rest stands -/
noncomputable abbrev over (S : List Str) (u m : Str → Option Value) : Str → Option Value := fun z => if S.contains z then u z else m z
theorem over_of {S : List Str} {m m' : Str → Option Value} (h : ∀ z, S.contains z = false → m' z = m z) : m' = over S m' m := by
  funext z
  show m' z = if S.contains z then m' z else m z
  cases hz : S.contains z with
  | true => rfl
  | false => simp only [Bool.false_eq_true, if_false]; exact h z hz

end Mine

-- B3
theorem Mine.noneB3 : True := by
  k_with_none
  exact trivial
namespace Mine
noncomputable def TurnEndG {σ : Type} (h₀ : Heap) (L : Addr) (Led : σ → List (Addr × Obj)) (adr : List Addr) (gr rest : List (Addr × Obj)) (S : List Str) (m₀ : Str → Option Value) (P : σ → List (Addr × Obj) → Prop) (s₁ : Shared) (f : Flow) (s' : Shared) : Prop :=
  f = .next ∧ ∃ c new m' h' tk', s' = { s₁ with heap := h', toks := tk' } ∧ Fr h₀ L h' m' ∧ News h₀ L h' (Led c ++ (new ++ rest)) ∧ (∀ p ∈ new, p.1 ∉ adr) ∧ (∀ p ∈ new, ∀ q ∈ rest, q.1 ≠ p.1) ∧ (∀ z, S.contains z = false → m' z = m₀ z) ∧ P c (new ++ gr)
theorem TurnEndG.intro {σ : Type} {h₀ h' : Heap} {L : Addr} {Led : σ → List (Addr × Obj)} {adr : List Addr} {gr rest : List (Addr × Obj)} {S : List Str} {m₀ m' : Str → Option Value} {P : σ → List (Addr × Obj) → Prop} {s₁ : Shared} {tk : Nat} (c : σ) (new : List (Addr × Obj))
    (F : Fr h₀ L h' m') (N : News h₀ L h' (Led c ++ (new ++ rest))) (h1 : ∀ p ∈ new, p.1 ∉ adr) (h2 : ∀ p ∈ new, ∀ q ∈ rest, q.1 ≠ p.1) (hm : ∀ z, S.contains z = false → m' z = m₀ z) (hp : P c (new ++ gr)) : TurnEndG h₀ L Led adr gr rest S m₀ P s₁ .next { s₁ with heap := h', toks := tk } :=
  ⟨rfl, c, new, m', h', tk, rfl, F, N, h1, h2, hm, hp⟩

section
variable {prog : Program} {w : World} {A : Around} {E : Value → Shared → Prop} {s : Shared} {env : Env} {h₀ : Heap} {target : Expr} {body : List Stmt} {Q : Flow → Shared → Prop}
theorem loopW {σ : Type} {I : Addr} {fp wr : List Addr} {n : Nat} {P : Nat → Value → Prop} {St : Nat → Heap → Prop} {m₀ : Str → Option Value} (Led : σ → List (Addr × Obj)) (adr : List Addr) (tl : List (Addr × Obj)) (S : List Str) (Inv : Nat → σ → List (Addr × Obj) → Prop) (c₀ : σ)
    (W : Walks prog w A I fp wr n P St) (hLf : env.locals ∉ fp) (hwr : ∀ b ∈ wr, h₀.get? b = none) (hob : ∀ i h, St i h → ∀ b ∈ wr, ∃ o, h.get? b = some o) (hst : St 0 s.heap)
    (hgo : ∀ i (s' : Shared) v (Q' : Unit → Shared → Prop), St i s'.heap → Q' () s' → wpAny (model prog w) A (letOwnedTupleGo target (.ref I) v) Q' E s')
    (hfa : ∀ a ∈ adr, h₀.get? a = none → a ∉ fp) (htl : ∀ p ∈ tl, p.1 ∉ wr) (F : Fr h₀ env.locals s.heap m₀) (N : News h₀ env.locals s.heap (Led c₀ ++ tl))
    (hadr : ∀ c, (Led c).map (·.1) = adr) (hdis : ∀ p ∈ tl, p.1 ∉ adr) (h0 : Inv 0 c₀ [])
    (turn : ∀ i v c gr u (s₁ : Shared) rest, i < n → P i v → Inv i c gr → (∀ p ∈ gr, p ∈ rest) → (∀ p ∈ tl, p ∈ rest) → (∀ p ∈ rest, p.1 ∉ adr) → Fr h₀ env.locals s₁.heap (over S u m₀) → News h₀ env.locals s₁.heap (Led c ++ rest) →
      wpAny (model prog w) A (assign target env v) (fun _ s₃ => wpAny (model prog w) A (execs body env) (TurnEndG h₀ env.locals Led adr gr rest S m₀ (Inv (i + 1)) s₁) E s₃) E s₁)
    (done : ∀ c gr u h tk, Inv n c gr → (∀ p ∈ gr, p.1 ∉ adr) → Fr h₀ env.locals h (over S u m₀) → News h₀ env.locals h (Led c ++ (gr ++ tl)) → Q .next { s with heap := h, toks := tk }) :
    LoopAtT prog w A h₀ env target body Q E (.ref I) s := by
  have hnone : ∀ a ∈ adr, h₀.get? a = none := fun a ha => by
    rw [← hadr c₀] at ha
    obtain ⟨p, hp, rfl⟩ := List.mem_map.mp ha
    exact (N p (List.mem_append_left _ hp)).2.2
  have hfa' : ∀ a ∈ adr, a ∉ fp := fun a ha => hfa a ha (hnone a ha)
  refine ⟨I, fp, wr, n, P, St, m₀, Led c₀ ++ tl, (fun i m nx => ∃ c gr u, nx = Led c ++ (gr ++ tl) ∧ (∀ p ∈ gr, p.1 ∉ adr) ∧ m = over S u m₀ ∧ Inv i c gr), rfl, W, hLf, hwr, ?_, hst, F, N, hgo, ⟨c₀, [], m₀, rfl, fun _ h => (nomatch h), over_of fun _ _ => rfl, h0⟩, ?_, ?_⟩
  · intro p hp hI
    rcases List.mem_append.mp hp with h | h
    · exact hfa' p.1 (by rw [← hadr c₀]; exact List.mem_map.mpr ⟨p, h, rfl⟩) (W.sub _ hI)
    · exact htl p h hI
  · rintro i v m₁ news₁ s₁ own hin hP ⟨c, gr, u, rfl, hga, rfl, hI⟩ hoff hown hget hfp hst F₁ N₁
    have hownadr : ∀ p ∈ own, p.1 ∉ adr := fun p hp ha => hfa' _ ha (hown p hp)
    have N₂ : News h₀ env.locals s₁.heap (Led c ++ (gr ++ (tl ++ own))) := fun p hp => N₁ p (by
      rcases List.mem_append.mp hp with h | h
      · exact List.mem_append_right _ (List.mem_append_left _ h)
      · rcases List.mem_append.mp h with h | h
        · exact List.mem_append_right _ (List.mem_append_right _ (List.mem_append_left _ h))
        · rcases List.mem_append.mp h with h | h
          · exact List.mem_append_right _ (List.mem_append_right _ (List.mem_append_right _ h))
          · exact List.mem_append_left _ h)
    refine wpAny_mono (turn i v c gr u s₁ (gr ++ (tl ++ own)) hin hP hI (fun p hp => List.mem_append_left _ hp) (fun p hp => List.mem_append_right _ (List.mem_append_left _ hp)) (fun p hp => ?_) F₁ N₂) (fun _ s₃ h₃ => wpAny_mono h₃ (fun f s₄ h₄ => ?_) fun _ _ e => e) fun _ _ e => e
    · rcases List.mem_append.mp hp with h | h
      · exact hga p h
      · rcases List.mem_append.mp h with h | h
        · exact hdis p h
        · exact hownadr p h
    · obtain ⟨rfl, c', new, m', h', tk', rfl, F', N', hn1, hn2, hm', hI'⟩ := h₄
      refine ⟨rfl, h', tk', m', Led c' ++ ((new ++ gr) ++ tl), rfl, F', ?_, ?_, c', new ++ gr, m', rfl, ?_, over_of hm', hI'⟩
      · intro p hp
        refine N' p ?_
        rcases List.mem_append.mp hp with h | h
        · exact List.mem_append_right _ (List.mem_append_right _ (List.mem_append_right _ (List.mem_append_right _ h)))
        · rcases List.mem_append.mp h with h | h
          · exact List.mem_append_left _ h
          · rcases List.mem_append.mp h with h | h
            · rcases List.mem_append.mp h with h | h
              · exact List.mem_append_right _ (List.mem_append_left _ h)
              · exact List.mem_append_right _ (List.mem_append_right _ (List.mem_append_left _ h))
            · exact List.mem_append_right _ (List.mem_append_right _ (List.mem_append_right _ (List.mem_append_left _ h)))
      · intro p hp hI
        rcases List.mem_append.mp hp with h | h
        · exact hfa' p.1 (by rw [← hadr c']; exact List.mem_map.mpr ⟨p, h, rfl⟩) (W.sub _ hI)
        · rcases List.mem_append.mp h with h | h
          · rcases List.mem_append.mp h with h | h
            · obtain ⟨o, ho⟩ := hob _ _ hst _ hI
              exact hn2 p h (p.1, o) (List.mem_append_right _ (List.mem_append_right _ (hfp _ (W.sub _ hI) (hwr _ hI) o ho))) rfl
            · exact hoff p (List.mem_append_right _ (List.mem_append_left _ h)) hI
          · exact htl p h hI
      · intro p hp
        rcases List.mem_append.mp hp with h | h
        · exact hn1 p h
        · exact hga p h
  · rintro h' tk m' news' F' N' _ ⟨c, gr, u, rfl, hga, rfl, hI⟩
    exact done c gr u h' tk hI hga F' N'

theorem loop_list {σ : Type} {l : Addr} {vs : List Value} {m₀ : Str → Option Value} (Led : σ → List (Addr × Obj)) (adr : List Addr) (tl : List (Addr × Obj)) (S : List Str) (Inv : Nat → σ → List (Addr × Obj) → Prop) (c₀ : σ)
    (hh : A.handled = none) (hl : s.heap.IsList l vs.toArray) (hfz : (∃ o, h₀.get? l = some o) ∨ (∃ o, (l, o) ∈ tl)) (F : Fr h₀ env.locals s.heap m₀) (N : News h₀ env.locals s.heap (Led c₀ ++ tl))
    (hadr : ∀ c, (Led c).map (·.1) = adr) (hdis : ∀ p ∈ tl, p.1 ∉ adr) (h0 : Inv 0 c₀ [])
    (turn : ∀ i v c gr u (s₁ : Shared) rest, vs[i]? = some v → Inv i c gr → (∀ p ∈ gr, p ∈ rest) → (∀ p ∈ tl, p ∈ rest) → (∀ p ∈ rest, p.1 ∉ adr) → Fr h₀ env.locals s₁.heap (over S u m₀) → News h₀ env.locals s₁.heap (Led c ++ rest) →
      wpAny (model prog w) A (assign target env v) (fun _ s₃ => wpAny (model prog w) A (execs body env) (TurnEndG h₀ env.locals Led adr gr rest S m₀ (Inv (i + 1)) s₁) E s₃) E s₁)
    (done : ∀ c gr u h tk, Inv vs.length c gr → (∀ p ∈ gr, p.1 ∉ adr) → Fr h₀ env.locals h (over S u m₀) → News h₀ env.locals h (Led c ++ (gr ++ tl)) → Q .next { s with heap := h, toks := tk }) :
    wpAny (model prog w) A (pyIter (.ref l)) (fun it s₂ => LoopAtT prog w A h₀ env target body Q E it s₂) E s := by
  obtain ⟨ol, hol, _⟩ := id hl
  have hlt : l < s.heap.objs.size := Heap.lt_size hol
  have hne : l ≠ s.heap.objs.size := Nat.ne_of_lt hlt
  have hlL : l ≠ env.locals := fun e => by
    rcases hfz with ⟨o, ho⟩ | ⟨o, ho⟩
    · exact absurd (Nat.lt_of_lt_of_le (Heap.lt_size ho) F.above) (by rw [e]; exact Nat.lt_irrefl _)
    · exact (N _ (List.mem_append_right _ ho)).2.1 e
  refine wpAny_pyIter_list hl ?_
  have W := Walks.list (prog := prog) (w := w) hh s.heap.objs.size l hne vs.toArray
  have hlen : vs.toArray.size = vs.length := by simp
  rw [hlen] at W
  refine loopW (s := { s with heap := s.heap.push _ }) Led adr tl S Inv c₀ W ?_ ?_ ?_ ⟨⟨_, Heap.get?_push_size _ rfl, rfl, rfl⟩, hl.at fun o e => Heap.get?_push_of_some _ e⟩ (fun i s' v Q' st hQ' => letGo_listiter st.1 hQ') ?_ ?_ (F.push _) (fun p hp => ⟨Heap.get?_push_of_some _ (N p hp).1, (N p hp).2⟩) hadr hdis h0 ?_ done
  · intro hm
    rcases List.mem_cons.mp hm with e | hm
    · exact absurd F.ns.lt (e ▸ Nat.lt_irrefl _)
    · exact hlL (List.mem_singleton.mp hm).symm
  · intro b hb
    rw [List.mem_singleton.mp hb]
    exact next_is_new F
  · intro i h hi b hb
    obtain ⟨o, ho, _⟩ := hi.1
    rw [List.mem_singleton.mp hb]; exact ⟨o, ho⟩
  · intro a ha hn hm
    rw [← hadr c₀] at ha
    obtain ⟨p, hp, rfl⟩ := List.mem_map.mp ha
    rcases List.mem_cons.mp hm with e | hm
    · exact absurd (Heap.lt_size (N p (List.mem_append_left _ hp)).1) (by rw [e]; exact Nat.lt_irrefl _)
    · have e := List.mem_singleton.mp hm
      rcases hfz with ⟨o, ho⟩ | ⟨o, ho⟩
      · rw [e, ho] at hn; cases hn
      · exact hdis _ ho (by show l ∈ adr; rw [← e, ← hadr c₀]; exact List.mem_map.mpr ⟨p, hp, rfl⟩)
  · intro p hp hI
    exact absurd (Heap.lt_size (N p (List.mem_append_right _ hp)).1) (by rw [List.mem_singleton.mp hI]; exact Nat.lt_irrefl _)
  · intro i v c gr u s₁ rest hi hP
    exact turn i v c gr u s₁ rest (by simpa using hP)

theorem loop_tuple {σ : Type} {l : Addr} {vs : List Value} {m₀ : Str → Option Value} (Led : σ → List (Addr × Obj)) (adr : List Addr) (tl : List (Addr × Obj)) (S : List Str) (Inv : Nat → σ → List (Addr × Obj) → Prop) (c₀ : σ)
    (hh : A.handled = none) (hl : s.heap.IsTuple l vs.toArray) (hfz : (∃ o, h₀.get? l = some o) ∨ (∃ o, (l, o) ∈ tl)) (F : Fr h₀ env.locals s.heap m₀) (N : News h₀ env.locals s.heap (Led c₀ ++ tl))
    (hadr : ∀ c, (Led c).map (·.1) = adr) (hdis : ∀ p ∈ tl, p.1 ∉ adr) (h0 : Inv 0 c₀ [])
    (turn : ∀ i v c gr u (s₁ : Shared) rest, vs[i]? = some v → Inv i c gr → (∀ p ∈ gr, p ∈ rest) → (∀ p ∈ tl, p ∈ rest) → (∀ p ∈ rest, p.1 ∉ adr) → Fr h₀ env.locals s₁.heap (over S u m₀) → News h₀ env.locals s₁.heap (Led c ++ rest) →
      wpAny (model prog w) A (assign target env v) (fun _ s₃ => wpAny (model prog w) A (execs body env) (TurnEndG h₀ env.locals Led adr gr rest S m₀ (Inv (i + 1)) s₁) E s₃) E s₁)
    (done : ∀ c gr u h tk, Inv vs.length c gr → (∀ p ∈ gr, p.1 ∉ adr) → Fr h₀ env.locals h (over S u m₀) → News h₀ env.locals h (Led c ++ (gr ++ tl)) → Q .next { s with heap := h, toks := tk }) :
    wpAny (model prog w) A (pyIter (.ref l)) (fun it s₂ => LoopAtT prog w A h₀ env target body Q E it s₂) E s := by
  obtain ⟨ol, hol, _⟩ := id hl
  have hlt : l < s.heap.objs.size := Heap.lt_size hol
  have hne : l ≠ s.heap.objs.size := Nat.ne_of_lt hlt
  have hlL : l ≠ env.locals := fun e => by
    rcases hfz with ⟨o, ho⟩ | ⟨o, ho⟩
    · exact absurd (Nat.lt_of_lt_of_le (Heap.lt_size ho) F.above) (by rw [e]; exact Nat.lt_irrefl _)
    · exact (N _ (List.mem_append_right _ ho)).2.1 e
  refine wpAny_pyIter_tuple hl ?_
  have W := Walks.tuple (prog := prog) (w := w) hh s.heap.objs.size l hne vs.toArray
  have hlen : vs.toArray.size = vs.length := by simp
  rw [hlen] at W
  refine loopW (s := { s with heap := s.heap.push _ }) Led adr tl S Inv c₀ W ?_ ?_ ?_ ⟨⟨_, Heap.get?_push_size _ rfl, rfl, rfl⟩, (let ⟨o, ho, r⟩ := hl; ⟨o, Heap.get?_push_of_some _ ho, r⟩)⟩ (fun i s' v Q' st hQ' => letGo_tupleiter st.1 hQ') ?_ ?_ (F.push _) (fun p hp => ⟨Heap.get?_push_of_some _ (N p hp).1, (N p hp).2⟩) hadr hdis h0 ?_ done
  · intro hm
    rcases List.mem_cons.mp hm with e | hm
    · exact absurd F.ns.lt (e ▸ Nat.lt_irrefl _)
    · exact hlL (List.mem_singleton.mp hm).symm
  · intro b hb
    rw [List.mem_singleton.mp hb]
    exact next_is_new F
  · intro i h hi b hb
    obtain ⟨o, ho, _⟩ := hi.1
    rw [List.mem_singleton.mp hb]; exact ⟨o, ho⟩
  · intro a ha hn hm
    rw [← hadr c₀] at ha
    obtain ⟨p, hp, rfl⟩ := List.mem_map.mp ha
    rcases List.mem_cons.mp hm with e | hm
    · exact absurd (Heap.lt_size (N p (List.mem_append_left _ hp)).1) (by rw [e]; exact Nat.lt_irrefl _)
    · have e := List.mem_singleton.mp hm
      rcases hfz with ⟨o, ho⟩ | ⟨o, ho⟩
      · rw [e, ho] at hn; cases hn
      · exact hdis _ ho (by show l ∈ adr; rw [← e, ← hadr c₀]; exact List.mem_map.mpr ⟨p, hp, rfl⟩)
  · intro p hp hI
    exact absurd (Heap.lt_size (N p (List.mem_append_right _ hp)).1) (by rw [List.mem_singleton.mp hI]; exact Nat.lt_irrefl _)
  · intro i v c gr u s₁ rest hi hP
    exact turn i v c gr u s₁ rest (by simpa using hP)

theorem loop_range {σ : Type} {r : Addr} {x : Str} {px : Pos} {a₀ b₀ : Int} {t₀ u₀ v₀ : Tok} {n : Nat} {m₀ : Str → Option Value} (Led : σ → List (Addr × Obj)) (adr : List Addr) (tl : List (Addr × Obj)) (S : List Str) (Inv : Nat → σ → List (Addr × Obj) → Prop) (c₀ : σ)
    (hh : A.handled = none) (hr : IsRange s.heap r a₀ b₀ 1 t₀ u₀ v₀) (hsmall : Builtin.Range.small a₀ b₀ 1 = true) (hn : Builtin.Range.rangeSize a₀ b₀ 1 = (n : Int)) (F : Fr h₀ env.locals s.heap m₀) (N : News h₀ env.locals s.heap (Led c₀ ++ tl))
    (hadr : ∀ c, (Led c).map (·.1) = adr) (hdis : ∀ p ∈ tl, p.1 ∉ adr) (h0 : Inv 0 c₀ [])
    (turn : ∀ (i : Nat) t c gr u (s₁ : Shared) rest, i < n → Inv i c gr → (∀ p ∈ gr, p ∈ rest) → (∀ p ∈ tl, p ∈ rest) → (∀ p ∈ rest, p.1 ∉ adr) → Fr h₀ env.locals s₁.heap (over S u m₀) → News h₀ env.locals s₁.heap (Led c ++ rest) →
      wpAny (model prog w) A (assign (.Name x px) env (.int (a₀ + (i : Int)) t)) (fun _ s₃ => wpAny (model prog w) A (execs body env) (TurnEndG h₀ env.locals Led adr gr rest S m₀ (Inv (i + 1)) s₁) E s₃) E s₁)
    (done : ∀ c gr u h tk, Inv n c gr → (∀ p ∈ gr, p.1 ∉ adr) → Fr h₀ env.locals h (over S u m₀) → News h₀ env.locals h (Led c ++ (gr ++ tl)) → Q .next { s with heap := h, toks := tk }) :
    wpAny (model prog w) A (pyIter (.ref r)) (fun it s₂ => LoopAtT prog w A h₀ env (.Name x px) body Q E it s₂) E s := by
  refine wpAny_pyIter_range hr hsmall ?_
  have W := Walks.range (prog := prog) (w := w) hh s.heap.objs.size a₀ 1 n
  refine loopW (s := { s with heap := s.heap.push _ }) Led adr tl S Inv c₀ W ?_ ?_ ?_ (by show IsRangeIter _ _ _ _ _; rw [hn]; simpa using Heap.get?_push_size _ rfl) (fun i s' v Q' st hQ' => wpAny_pure hQ') ?_ ?_ (F.push _) (fun p hp => ⟨Heap.get?_push_of_some _ (N p hp).1, (N p hp).2⟩) hadr hdis h0 ?_ done
  · intro hm
    exact absurd F.ns.lt ((List.mem_singleton.mp hm) ▸ Nat.lt_irrefl _)
  · intro b hb
    rw [List.mem_singleton.mp hb]
    exact next_is_new F
  · intro i h hi b hb
    rw [List.mem_singleton.mp hb]; exact ⟨_, hi⟩
  · intro a ha hn hm
    rw [← hadr c₀] at ha
    obtain ⟨p, hp, rfl⟩ := List.mem_map.mp ha
    exact absurd (Heap.lt_size (N p (List.mem_append_left _ hp)).1) (by rw [List.mem_singleton.mp hm]; exact Nat.lt_irrefl _)
  · intro p hp hI
    exact absurd (Heap.lt_size (N p (List.mem_append_right _ hp)).1) (by rw [List.mem_singleton.mp hI]; exact Nat.lt_irrefl _)
  · rintro i v c gr u s₁ rest hi ⟨t, rfl⟩
    rw [Int.mul_one]
    exact turn i t c gr u s₁ rest hi
end
end Mine

-- B4
theorem Mine.noneB4 : True := by
  k_with_none
  exact trivial
namespace Mine
section
variable {prog : Program} {w : World} {A : Around} {E : Value → Shared → Prop} {s : Shared}
theorem truthy_led {h₀ : Heap} {L l : Addr} {news : List (Addr × Obj)} {vs : List Value} {nn : Nat} {Q : Bool → Shared → Prop} (N : News h₀ L s.heap news) (hm : (l, listOf vs.toArray nn) ∈ news) (hfit : vs.length < 10000)
    (h : Q (!vs.isEmpty) { s with toks := s.toks + 1 + 1 }) : wpAny (model prog w) A (truthy (.ref l)) Q E s := by
  refine wpAny_truthy_list (items := vs.toArray) ⟨_, (N _ hm).1, rfl, nn, rfl⟩ (by rw [List.size_toArray]; omega) ?_
  simpa using h
theorem last_led {value slice : PySem.Expr} {h₀ : Heap} {L l : Addr} {news : List (Addr × Obj)} {vs : List Value} {x : Value} {nn : Nat} {u : Tok} {Q : Value → Shared → Prop} (N : News h₀ L s.heap news) (hm : (l, listOf (vs ++ [x]).toArray nn) ∈ news) (h : Q x s)
    (hs : subscripted slice false (.ref l) (.int (-1) u) = operate [.ref l, .int (-1) u] (getItem (.ref l) (.int (-1) u)) := by with_unfolding_all rfl) :
    wpAny (model prog w) A (subscriptTail value slice (.ref l) (.int (-1) u)) Q E s := by
  refine kde_neg (vs := vs ++ [x]) (j := vs.length) ⟨_, (N _ hm).1, rfl, nn, rfl⟩ (by decide) (by decide) ?_ (by simp) h hs
  rw [List.length_append, List.length_singleton, seqIndex_neg (by decide) (by omega)]
  congr 1
  omega
theorem setItem_last {l : Addr} {vs : List Value} {x v : Value} {nn : Nat} {t : Tok} {Q : Unit → Shared → Prop} (ho : s.heap.get? l = some (listOf (vs ++ [x]).toArray nn))
    (hQ : ∀ h', h'.get? l = some (listOf (vs ++ [v]).toArray nn) → Heap.SameBut l s.heap h' → Q () { s with heap := h' }) :
    wpAny (model prog w) A (setItem (.ref l) (.int (-1) t) v) Q E s := by
  have hl : s.heap.IsList l (vs ++ [x]).toArray := ⟨_, ho, rfl, nn, rfl⟩
  have hd : (listOf (vs ++ [x]).toArray nn).data = .seq (vs ++ [x]).toArray nn := rfl
  have hsz : (vs ++ [x]).toArray.size = vs.length + 1 := by simp
  have hidx : seqIndex? (-1) (vs ++ [x]).toArray.size = some vs.length := by
    rw [hsz, seqIndex_neg (by decide) (by omega)]
    congr 1
    omega
  have hx : (vs ++ [x]).toArray[vs.length]? = some x := by simp
  unfold setItem
  try with_reducible refine wpAny_holding ?_
  first | refine wpAny_bind (wpAny_pure ?_) | skip
  refine wpAny_bind (wpAny_sequenceKey hl.typeIs (by decide) ?_)
  refine wpAny_bind (wpAny_callSpecial?_slot (name := Str.ofString "__setitem__") hl.typeIs slot_list_setitem
    (wpAny_call_entry slot_list_setitem hl.typeIs entry_list_setitem ?_ (args_list_setitem _ _ _)))
  show wpAny _ _ (Builtin.List.listSubscript? (.int (-1) t) >>= _) _ _ s
  refine wpAny_bind (wpAny_listSubscript_int (fitsIndex_neg (by decide) (by decide)) ?_)
  show wpAny _ _ ((Builtin.List.listItems (.ref l) >>= fun xs => pure ((seqIndex? (-1) xs.size).bind fun i => xs[i]?.map (i, ·))) >>= _) _ _ s
  refine wpAny_bind (wpAny_bind ?_)
  show wpAny _ _ (seqItems? (.ref l) >>= _) _ _ s
  refine wpAny_bind (wpAny_seqItems ho hd (wpAny_pure (wpAny_pure ?_)))
  rw [hidx]
  simp only [Option.bind_some, hx, Option.map_some]
  show wpAny _ _ (setSeqItemAt l vs.length v >>= _) _ _ s
  have e2 : (vs ++ [x]).toArray.setIfInBounds vs.length v = (vs ++ [v]).toArray := by
    apply Array.toList_inj.mp
    simp
  have hfin : (s.heap.update l (Obj.mapSeq (·.setIfInBounds vs.length v))).get? l = some (listOf (vs ++ [v]).toArray nn) := by
    have hq : Obj.mapSeq (·.setIfInBounds vs.length v) (listOf (vs ++ [x]).toArray nn) = listOf (vs ++ [v]).toArray nn := by
      show ({ cls := .type "list", data := .seq ((vs ++ [x]).toArray.setIfInBounds vs.length v) (if ((vs ++ [x]).toArray.setIfInBounds vs.length v).size == (vs ++ [x]).toArray.size then nn else nn + 1) } : Obj) = _
      rw [e2]
      have : ((vs ++ [v]).toArray.size == (vs ++ [x]).toArray.size) = true := by simp
      rw [this]; rfl
    rw [← hq]
    exact Heap.get?_update_self _ ho (by rw [hq]; rfl)
  refine wpAny_bind (wpAny_setSeqItemAt ho hd ?_)
  first
    | exact wpAny_bind (wpAny_pure (wpAny_pure ⟨.none, rfl, wpAny_pure (hQ _ hfin (Heap.SameBut.update ..))⟩))
    | exact wpAny_pure ⟨.none, rfl, wpAny_pure (hQ _ hfin (Heap.SameBut.update ..))⟩
theorem setlast_led {h₀ : Heap} {L l : Addr} {m : Str → Option Value} {news news' : List (Addr × Obj)} {vs : List Value} {x v : Value} {nn : Nat} {t : Tok} {Q : Unit → Shared → Prop} (F : Fr h₀ L s.heap m) (N : News h₀ L s.heap news) (U : Upd l (listOf (vs ++ [x]).toArray nn) (listOf (vs ++ [v]).toArray nn) news news')
    (h : ∀ h', Fr h₀ L h' m → News h₀ L h' news' → Q () { s with heap := h' }) : wpAny (model prog w) A (setItem (.ref l) (.int (-1) t) v) Q E s := by
  have hm : (l, listOf (vs ++ [x]).toArray nn) ∈ news := by
    obtain ⟨pre, post, rfl, _⟩ := U.split
    exact List.mem_append_right _ (.head _)
  refine setItem_last (N _ hm).1 fun h' e sb => ?_
  have S : Same [l] s.heap h' := fun b o n q => (sb.2 b (fun e => n (e ▸ .head _))).trans q
  exact h h' (Fr.same1 F N hm S) (News.upd1 N S U e)
end
end Mine

namespace Mine
noncomputable abbrev tup2 (a : Int) (t : Tok) (b : Int) (u : Tok) : Obj := { cls := .type "tuple", data := .seq #[.int a t, .int b u] }
/-- a list's refs are pairs of ints of the ledger -/
inductive PairsIn (gr : List (Addr × Obj)) : List Value → List (Int × Int) → Prop
  | nil : PairsIn gr [] []
  | snoc {vs : List Value} {rs : List (Int × Int)} {p : Addr} {a b : Int} {t u : Tok} : PairsIn gr vs rs → (p, tup2 a t b u) ∈ gr → PairsIn gr (vs ++ [.ref p]) (rs ++ [(a, b)])
theorem PairsIn.mono {gr gr' : List (Addr × Obj)} {vs : List Value} {rs : List (Int × Int)} (h : PairsIn gr vs rs) (hs : ∀ p ∈ gr, p ∈ gr') : PairsIn gr' vs rs := by
  induction h with
  | nil => exact .nil
  | snoc _ hm ih => exact .snoc ih (hs _ hm)
theorem PairsIn.length {gr : List (Addr × Obj)} {vs : List Value} {rs : List (Int × Int)} (h : PairsIn gr vs rs) : vs.length = rs.length := by
  induction h with
  | nil => rfl
  | snoc _ _ ih => rw [List.length_append, List.length_append, ih]; rfl
noncomputable def PairAt (h : Heap) (v : Value) (r : Int × Int) : Prop := ∃ p t1 t2, v = .ref p ∧ IsTup h p #[.int r.1 t1, .int r.2 t2]
noncomputable def PairsAt (h : Heap) (vs : List Value) (rs : List (Int × Int)) : Prop := vs.length = rs.length ∧ ∀ (i : Nat) v, vs[i]? = some v → ∃ r, rs[i]? = some r ∧ PairAt h v r
theorem PairsIn.at {gr : List (Addr × Obj)} {h : Heap} {vs : List Value} {rs : List (Int × Int)} (x : PairsIn gr vs rs) (H : Has h gr) : PairsAt h vs rs := by
  induction x with
  | nil => exact ⟨rfl, fun i v e => by simp at e⟩
  | @snoc vs rs p a b t u y hm ih =>
    have hl := y.length
    refine ⟨by rw [List.length_append, List.length_append, hl]; rfl, fun i v e => ?_⟩
    by_cases hi : i < vs.length
    · rw [List.getElem?_append_left hi] at e
      obtain ⟨r, hr, q⟩ := ih.2 i v e
      exact ⟨r, by rw [List.getElem?_append_left (by rw [← hl]; exact hi)]; exact hr, q⟩
    · have hi' : vs.length ≤ i := Nat.le_of_not_lt hi
      rw [List.getElem?_append_right hi'] at e
      rw [List.getElem?_append_right (by rw [← hl]; exact hi'), ← hl]
      have e0 : i - vs.length = 0 := by
        cases hq : i - vs.length with
        | zero => rfl
        | succ n => rw [hq] at e; simp at e
      rw [e0] at e ⊢
      cases e
      exact ⟨(a, b), rfl, p, t, u, rfl, _, H _ hm, rfl, 0, rfl⟩
theorem PairsAt.keeps {h h' : Heap} {vs : List Value} {rs : List (Int × Int)} (x : PairsAt h vs rs) (k : ∀ b o, h.get? b = some o → h'.get? b = some o) : PairsAt h' vs rs :=
  ⟨x.1, fun i v e => by
    obtain ⟨r, hr, p, t1, t2, hv, ht⟩ := x.2 i v e
    exact ⟨r, hr, p, t1, t2, hv, ht.keeps k⟩⟩
theorem News.swap {h₀ h : Heap} {L : Addr} {a b : Addr × Obj} {r : List (Addr × Obj)} (N : News h₀ L h (a :: b :: r)) : News h₀ L h (b :: a :: r) := fun p hp => N p (by
  rcases List.mem_cons.mp hp with rfl | hp
  · exact .tail _ (.head _)
  rcases List.mem_cons.mp hp with rfl | hp
  · exact .head _
  · exact .tail _ (.tail _ hp))
noncomputable def runStep (acc : List (Int × Int)) (g : Int) : List (Int × Int) :=
  match acc.getLast? with
  | some (a, b) => if b + 1 = g then acc.dropLast ++ [(a, g)] else acc ++ [(g, g)]
  | none => acc ++ [(g, g)]
noncomputable def runsZ (ns : List Int) : List (Int × Int) := ns.foldl runStep []
theorem runStep_nil (g : Int) : runStep [] g = [(g, g)] := rfl
theorem runStep_snoc (rs : List (Int × Int)) (a b g : Int) : runStep (rs ++ [(a, b)]) g = if b + 1 = g then rs ++ [(a, g)] else rs ++ [(a, b)] ++ [(g, g)] := by
  unfold runStep
  simp
theorem runsZ_take {ns : List Int} {i : Nat} {g : Int} (h : ns[i]? = some g) : runsZ (ns.take (i + 1)) = runStep (runsZ (ns.take i)) g := by
  unfold runsZ
  rw [List.take_add_one, h, List.foldl_append]; rfl
section
variable {prog : Program} {w : World} {A : Around} {E : Value → Shared → Prop} {s : Shared} {h₀ : Heap} {L l : Addr} {news : List (Addr × Obj)} {nn : Nat} {Q : Bool → Shared → Prop}
theorem truthy_nil (N : News h₀ L s.heap news) (hm : (l, listOf ([] : List Value).toArray nn) ∈ news) (h : Q false { s with toks := s.toks + 1 + 1 }) : wpAny (model prog w) A (truthy (.ref l)) Q E s := truthy_led N hm (by decide) h
theorem truthy_snoc {vs : List Value} {x : Value} (N : News h₀ L s.heap news) (hm : (l, listOf (vs ++ [x]).toArray nn) ∈ news) (hf : vs.length < 9000) (h : Q true { s with toks := s.toks + 1 + 1 }) : wpAny (model prog w) A (truthy (.ref l)) Q E s :=
  truthy_led N hm (by rw [List.length_append, List.length_singleton]; omega) (by
    have e : (vs ++ [x]).isEmpty = false := by simp
    rw [e]; exact h)
end
end Mine

namespace Mine
theorem tuple_keeps {h h' : Heap} {a : Addr} {items : Array Value} (x : h.IsTuple a items) (hk : ∀ b o, h.get? b = some o → h'.get? b = some o) : h'.IsTuple a items := by
  obtain ⟨o, ho, r⟩ := x
  exact ⟨o, hk _ _ ho, r⟩
theorem list_keeps {h h' : Heap} {a : Addr} {items : Array Value} (x : h.IsList a items) (hk : ∀ b o, h.get? b = some o → h'.get? b = some o) : h'.IsList a items := by
  obtain ⟨o, ho, r⟩ := x
  exact ⟨o, hk _ _ ho, r⟩
theorem tuple_some {h : Heap} {a : Addr} {items : Array Value} (x : h.IsTuple a items) : ∃ o, h.get? a = some o := let ⟨o, ho, _⟩ := x; ⟨o, ho⟩
theorem list_some {h : Heap} {a : Addr} {items : Array Value} (x : h.IsList a items) : ∃ o, h.get? a = some o := let ⟨o, ho, _⟩ := x; ⟨o, ho⟩
end Mine

-- B5
theorem Mine.noneB5 : True := by
  k_with_none
  exact trivial
open PySem PySem.W PyProof.Rows PyProof.V PySem.Spec
namespace Mine
/-- a dict's keys, each with True behind it -/
noncomputable def trueD (ks : List Int) : List (PyData × PyData) := ks.map fun k => (PyData.int k, PyData.bool true)
noncomputable def keyPut (ks : List Int) (k : Int) : List Int := if k ∈ ks then ks else ks ++ [k]
theorem keyPut_len (ks : List Int) (k : Int) : (keyPut ks k).length ≤ ks.length + 1 := by
  unfold keyPut
  split
  · omega
  · rw [List.length_append]; simp
theorem trueD_len (ks : List Int) : (trueD ks).length = ks.length := by unfold trueD; rw [List.length_map]
theorem trueD_any (ks : List Int) (k : Int) : ((trueD ks).any fun p => PySem.Spec.same p.1 (PyData.int k)) = decide (k ∈ ks) := by
  induction ks with
  | nil => rfl
  | cons a ks ih =>
    show (PySem.Spec.same (PyData.int a) (PyData.int k) || (trueD ks).any fun p => PySem.Spec.same p.1 (PyData.int k)) = _
    rw [ih, PyProof.V.same_int]
    by_cases h : a = k
    · simp [h]
    · have h' : ¬ k = a := fun e => h e.symm
      simp [h, h']
theorem trueD_put (ks : List Int) (k : Int) : putD (PyData.int k) (PyData.bool true) (trueD ks) = trueD (keyPut ks k) := by
  unfold putD keyPut
  rw [trueD_any]
  by_cases h : k ∈ ks
  · rw [if_pos (decide_eq_true h), if_pos h]
    unfold trueD
    rw [List.map_map]
    refine List.map_congr_left fun a _ => ?_
    show (if PySem.Spec.same (PyData.int a) (PyData.int k) = true then (PyData.int a, PyData.bool true) else (PyData.int a, PyData.bool true)) = _
    split <;> rfl
  · rw [if_neg (by simp [h]), if_neg h]
    unfold trueD
    rw [List.map_append]
    rfl
section
variable {prog : Program} {w : World} {A : Around} {E : Value → Shared → Prop} {s : Shared} {h₀ : Heap} {L d : Addr} {m : Str → Option Value} {news : List (Addr × Obj)} {u : Obj → List (Addr × Obj)} {o : Obj} {kvs : List (Int × Value)} {ks : List Int} {k : Int} {tk : Tok}
theorem key_set {Q : Unit → Shared → Prop} (F : Fr h₀ L s.heap m) (N : News h₀ L s.heap news) (U : UpdF d o news u) (hd : o.IsDictOf (PySem.intKind prog w) kvs) (hf : FlatPairs PyData.int kvs (trueD ks)) (hc : ks.length ≤ 100000)
    (h : ∀ h' o' kvs', Fr h₀ L h' m → News h₀ L h' (u o') → o'.IsDictOf (PySem.intKind prog w) kvs' → FlatPairs PyData.int kvs' (trueD (keyPut ks k)) → Q () { s with heap := h', toks := s.toks + 1 }) :
    wpAny (model prog w) A (setItem (.ref d) (.int k tk) (.bool true)) Q E s :=
  setItem_K PyProof.V.same_int (intKind_is _ _ _ _) (PyProof.V.Flat.bool true) F N U hd hf (fun h' o' F' N' a b => h h' o' _ F' N' a (by rw [← trueD_put]; exact b)) (by rw [trueD_len, sizeLine_eq]; omega)
/-- the keys, as the iteration hands them -/
theorem key_at {kvs : List (Int × Value)} (hf : FlatPairs PyData.int kvs (trueD ks)) {j : Nat} {k : Int} {x v : Value} (hx : kvs[j]? = some (k, x)) (hk : (PySem.intKind prog w).is k v = true) : ks[j]? = some k ∧ ∃ t, v = .int k t := by
  obtain ⟨dv, hd, _⟩ := hf.at hx
  have hd' : (ks[j]?).map (fun p => (PyData.int p, PyData.bool true)) = some (PyData.int k, dv) := by rw [← List.getElem?_map]; exact hd
  cases hcj : ks[j]? with
  | none => rw [hcj] at hd'; cases hd'
  | some p =>
    rw [hcj] at hd'
    have e1 : PyData.int p = PyData.int k := congrArg Prod.fst (Option.some.inj hd')
    injection e1 with e1
    obtain ⟨t, rfl⟩ := Value.isInt_shape hk
    exact ⟨by rw [e1], t, rfl⟩
theorem key_len {kvs : List (Int × Value)} (hf : FlatPairs PyData.int kvs (trueD ks)) : kvs.length = ks.length := by rw [← hf.length, trueD_len]
end
/-- the numbers a, a + 1, .. of a range -/
theorem small_of {a b : Int} (ha : 0 ≤ a) (ha' : a ≤ 100000) (hb : 0 ≤ b) (hb' : b ≤ 100000) : Builtin.Range.small a b 1 = true := small_one (by omega) (by omega) (by omega) (by omega)
noncomputable def putAll (ks : List Int) (a : Int) (n : Nat) : List Int := (rangeKs a n).foldl (fun ks x => keyPut ks (x.fmod 64)) ks
theorem putAll_succ (ks : List Int) (a : Int) (n : Nat) : putAll ks a (n + 1) = keyPut (putAll ks a n) ((a + (n : Int)).fmod 64) := by
  unfold putAll rangeKs
  rw [List.range_succ, List.map_append, List.foldl_append]
  rfl
theorem putAll_len (ks : List Int) (a : Int) (n : Nat) : (putAll ks a n).length ≤ ks.length + n := by
  induction n with
  | zero => exact Nat.le_refl _
  | succ n ih => rw [putAll_succ]; have := keyPut_len (putAll ks a n) ((a + (n : Int)).fmod 64); omega
theorem fdiv_bnd {x : Int} (k : Nat) (h0 : 0 ≤ x) : 0 ≤ x.fdiv (2 ^ k) ∧ x.fdiv (2 ^ k) ≤ x := by
  have hp : (0 : Int) < 2 ^ k := Int.pow_pos (by decide)
  rw [Int.fdiv_eq_ediv_of_nonneg _ (Int.le_of_lt hp)]
  exact ⟨Int.ediv_nonneg h0 (Int.le_of_lt hp), Int.ediv_le_self _ h0⟩
theorem fdiv_mono {x y : Int} (k : Nat) (h : x ≤ y) : x.fdiv (2 ^ k) ≤ y.fdiv (2 ^ k) := by
  have hp : (0 : Int) < 2 ^ k := Int.pow_pos (by decide)
  rw [Int.fdiv_eq_ediv_of_nonneg _ (Int.le_of_lt hp), Int.fdiv_eq_ediv_of_nonneg _ (Int.le_of_lt hp)]
  exact Int.ediv_le_ediv hp h
theorem fdiv_gap {x y : Int} (k : Nat) (h : x ≤ y) : y.fdiv (2 ^ k) - x.fdiv (2 ^ k) ≤ y - x := by
  have hp : (0 : Int) < 2 ^ k := Int.pow_pos (by decide)
  rw [Int.fdiv_eq_ediv_of_nonneg _ (Int.le_of_lt hp), Int.fdiv_eq_ediv_of_nonneg _ (Int.le_of_lt hp)]
  have e : y / 2 ^ k ≤ (x + (y - x) * 2 ^ k) / 2 ^ k := by
    refine Int.ediv_le_ediv hp ?_
    have : y - x ≤ (y - x) * 2 ^ k := by
      have := Int.mul_le_mul_of_nonneg_left (show (1 : Int) ≤ 2 ^ k by omega) (show 0 ≤ y - x by omega)
      omega
    omega
  rw [Int.add_mul_ediv_right _ _ (by omega)] at e
  omega
/-- the keys that _law_bits gathers -/
noncomputable def bitKeys (sh : Int) (rs : List (Int × Int)) : List Int := rs.foldl (fun ks r => putAll ks (r.1.fdiv (2 ^ sh.toNat)) (r.2.fdiv (2 ^ sh.toNat) + 1 - r.1.fdiv (2 ^ sh.toNat)).toNat) []
theorem bitKeys_take {sh : Int} {rs : List (Int × Int)} {i : Nat} {r : Int × Int} (h : rs[i]? = some r) : bitKeys sh (rs.take (i + 1)) = putAll (bitKeys sh (rs.take i)) (r.1.fdiv (2 ^ sh.toNat)) (r.2.fdiv (2 ^ sh.toNat) + 1 - r.1.fdiv (2 ^ sh.toNat)).toNat := by
  unfold bitKeys
  rw [List.take_add_one, h, List.foldl_append]; rfl
noncomputable def InBnd (r : Int × Int) : Prop := 0 ≤ r.1 ∧ r.1 ≤ r.2 ∧ r.2 ≤ 65535 ∧ r.2 - r.1 ≤ 64
end Mine

namespace Mine
theorem paired_ints {f : Int → Int} {ks : List Int} : ∀ {vs ys : List Value}, Paired (fun v y => ∃ n t u, v = Value.int n t ∧ y = Value.int (f n) u) vs ys → IntsAre vs ks → IntsAre ys (ks.map f) := by
  intro vs ys hp
  induction hp generalizing ks with
  | nil => intro h; cases h; exact .nil
  | cons hd _ ih =>
    intro h
    obtain ⟨n, t, u, rfl, rfl⟩ := hd
    cases h with
    | cons _ _ hr => exact .cons _ _ (ih hr)
section
variable {prog : Program} {w : World} {A : Around} {E : Value → Shared → Prop} {s : Shared} {h₀ : Heap} {L d : Addr} {m : Str → Option Value} {news : List (Addr × Obj)} {oo : Obj} {kvs : List (Int × Value)} {ks : List Int} {env : Env} {scope : Scope} {x : Str} {elt : Expr} {Q : Value → Shared → Prop}
theorem compDict (f : Int → Int) (hh : A.handled = none) (lo : (d == sysModules) = false) (F : Fr h₀ L s.heap m) (N : News h₀ L s.heap news) (hm : (d, oo) ∈ news) (hd : oo.IsDictOf (PySem.intKind prog w) kvs) (hf : FlatPairs PyData.int kvs (trueD ks)) (hlen : ks.length ≤ 100000)
    (elt1 : ∀ C n t (s₃ : Shared) m₃ E', n ∈ ks → s₃.heap.Ns C m₃ → m₃ x = some (.int n t) → wpAny (model prog w) A (eval elt (compEnv scope C env)) (fun y s₄ => (∃ u, y = .int (f n) u) ∧ Keeps s₃ s₄) E' s₃)
    (h : ∀ D c h' tk us, Fr h₀ L h' m → News h₀ L h' ((D, listOf us.toArray c) :: news) → AllAp D news → IntsAre us (ks.map f) → Q (.ref D) { s with heap := h', toks := tk }) :
    wpAny (model prog w) A (pyIter (.ref d)) (CompPost prog w A env scope x [] elt Q) E s := by
  have hDO : s.heap.DictOf (PySem.intKind prog w) d kvs := Heap.dictOf_iff.mpr ⟨oo, (N _ hm).1, hd⟩
  obtain ⟨ep, hat⟩ := hDO.dictAt
  have hkl := key_len hf
  refine wpAny_pyIter_dict lo hat ?_
  refine ⟨fun _ => true, fun v y => ∃ n t u, v = Value.int n t ∧ y = Value.int (f n) u, s.heap.objs.size, _, _, kvs.length, _, _, rfl, Walks.dictKeys hh _ d (Nat.ne_of_lt hat.lt_size) kvs ep, ?_, ⟨⟨_, Heap.get?_push_size _ rfl, rfl, rfl⟩, hat.push _⟩, ?_, ⟨?_, ?_⟩, ?_⟩
  · rw [hkl, sizeLine_eq]; omega
  · intro b hb
    rw [Heap.size_push]
    rcases List.mem_cons.mp hb with rfl | hb
    · exact Nat.lt_succ_self _
    · rw [List.mem_singleton.mp hb]; exact Nat.lt_succ_of_lt hat.lt_size
  · intro C i v s₃ m₃ E' _ _ _ _ _
    exact wpAny_tests_nil ⟨rfl, _, _, rfl, fun _ _ e => e⟩
  · intro C i v s₃ m₃ E' hP _ hn hmx _ _
    obtain ⟨k, x', hx, hk⟩ := hP
    obtain ⟨hj, t, rfl⟩ := key_at hf hx hk
    refine wpAny_mono (elt1 C k t s₃ m₃ E' (List.mem_of_getElem? hj) hn hmx) (fun y s₄ hy => ?_) fun _ _ e => e
    obtain ⟨⟨u, rfl⟩, K⟩ := hy
    exact ⟨⟨k, t, u, rfl, rfl⟩, K⟩
  · intro D h' tk ys vs hD hl hpl hlen' hP hF hk
    have hk' : ∀ b o, s.heap.get? b = some o → h'.get? b = some o := fun b o e => hk b o (fun hb => absurd (Heap.lt_size e) (by rw [List.mem_singleton.mp hb]; exact Nat.lt_irrefl _)) (Heap.get?_push_of_some _ e)
    have hvi : IntsAre vs ks := kdy_ints (by rw [hlen', hkl]) fun j v hv => by
      obtain ⟨k, x', hx, hk⟩ := hP j v hv
      obtain ⟨hj, t, rfl⟩ := key_at hf hx hk
      exact ⟨k, hj, t, rfl⟩
    have hys : IntsAre ys.toList (ks.map f) := paired_ints (by
      have : vs.filter (fun _ => true) = vs := by simp
      rw [this] at hF; exact hF) hvi
    obtain ⟨c, hc⟩ := hpl
    have hDn : s.heap.get? D = none := by
      cases q : s.heap.get? D with
      | none => rfl
      | some o => rw [Heap.get?_push_of_some _ q] at hD; cases hD
    refine h D c h' tk ys.toList (F.keeps hk') ?_ (AllAp.of N hDn) hys
    refine News.join F (l := [(D, _)]) (News.grown N hk') (has_one (by rw [hc])) fun p hp => ?_
    cases List.mem_singleton.mp hp; exact hDn
end
end Mine

namespace Mine
theorem keyPut_mem {ks : List Int} {k x : Int} : x ∈ keyPut ks k ↔ x ∈ ks ∨ x = k := by
  unfold keyPut
  split
  · rename_i h
    constructor
    · exact .inl
    · rintro (h' | rfl)
      · exact h'
      · exact h
  · simp
theorem putAll_mem {ks : List Int} {a : Int} {n : Nat} {x : Int} : x ∈ putAll ks a n ↔ x ∈ ks ∨ ∃ i : Nat, i < n ∧ x = (a + (i : Int)).fmod 64 := by
  induction n with
  | zero => simp [putAll, rangeKs]
  | succ n ih =>
    rw [putAll_succ, keyPut_mem, ih]
    constructor
    · rintro ((h | ⟨i, hi, e⟩) | e)
      · exact .inl h
      · exact .inr ⟨i, Nat.lt_succ_of_lt hi, e⟩
      · exact .inr ⟨n, Nat.lt_succ_self n, e⟩
    · rintro (h | ⟨i, hi, e⟩)
      · exact .inl (.inl h)
      · rcases Nat.lt_succ_iff_lt_or_eq.mp hi with h | h
        · exact .inl (.inr ⟨i, h, e⟩)
        · subst h; exact .inr e
theorem fm64 (x : Int) : 0 ≤ x.fmod 64 ∧ x.fmod 64 < 64 := ⟨Int.fmod_nonneg_of_pos x (by decide), Int.fmod_lt_of_pos x (by decide)⟩
theorem bitKeys_snoc (sh : Int) (rs : List (Int × Int)) (r : Int × Int) : bitKeys sh (rs ++ [r]) = putAll (bitKeys sh rs) (r.1.fdiv (2 ^ sh.toNat)) (r.2.fdiv (2 ^ sh.toNat) + 1 - r.1.fdiv (2 ^ sh.toNat)).toNat := by
  unfold bitKeys
  rw [List.foldl_append]; rfl
theorem list_snoc_ind {α : Type} {P : List α → Prop} (h0 : P []) (hs : ∀ l a, P l → P (l ++ [a])) (l : List α) : P l := by
  rw [← l.reverse_reverse]
  induction l.reverse with
  | nil => exact h0
  | cons a l ih => rw [List.reverse_cons]; exact hs _ _ ih
theorem bitKeys_bnd (sh : Int) (rs : List (Int × Int)) : ∀ k ∈ bitKeys sh rs, 0 ≤ k ∧ k < 64 := by
  refine list_snoc_ind (P := fun rs => ∀ k ∈ bitKeys sh rs, 0 ≤ k ∧ k < 64) (fun k hk => (nomatch hk)) (fun rs r ih k hk => ?_) rs
  rw [bitKeys_snoc, putAll_mem] at hk
  rcases hk with h | ⟨i, _, rfl⟩
  · exact ih k h
  · exact fm64 _
end Mine

-- B6
theorem Mine.noneB6 : True := by
  k_with_none
  exact trivial
namespace Mine
theorem News.sub {h₀ h : Heap} {L : Addr} {news news' : List (Addr × Obj)} (N : News h₀ L h news) (hs : ∀ p ∈ news', p ∈ news) : News h₀ L h news' := fun p hp => N p (hs p hp)
theorem News.ne_fresh {h₀ h : Heap} {L : Addr} {news l : List (Addr × Obj)} (N : News h₀ L h news) (hf : ∀ p ∈ l, h.get? p.1 = none) : ∀ p ∈ l, ∀ q ∈ news, p.1 ≠ q.1 := fun p hp q hq e => by
  have := hf p hp
  rw [e, (N q hq).1] at this; cases this
end Mine

-- Sp
theorem Mine.noneSp : True := by
  k_with_none
  exact trivial
namespace Mine
theorem filledSp : (fun _ : OpenLaw => True) PySem.Challenge.rw_nu0150_01 ∧ (fun _ : Params → Frag => True) Mine.hd.heap_39 := by
  k_fill
  exact ⟨trivial, trivial⟩
noncomputable def spanZ (a b : Int) : Int := if 64 - 1 ≤ b - a then 18446744073709551615 else if a.fmod 64 ≤ b.fmod 64 then 2 * 2 ^ (b.fmod 64).toNat - 1 * 2 ^ (a.fmod 64).toNat else 18446744073709551615 - 1 * 2 ^ (a.fmod 64).toNat + 2 * 2 ^ (b.fmod 64).toNat
set_option maxHeartbeats 4000000 in
theorem span_spec {w : World} {mg mb : Str → Option Value} {A : Around} {E : Value → Shared → Prop} {Q : Value → Shared → Prop} {s : Shared} {first last : Int} {t1 t2 : Tok} (lo : Low A 250)
  (on : On w mg mb [] s.heap)
  (ret : ∀ t h' tk, Same [] s.heap h' → Q (.int (spanZ first last) t) { s with heap := h', toks := tk }) :
  wpAny (model Pg w) A (call (.ref 85) [.int first t1, .int last t2]) Q E s := by
  refine wpAny_low lo ?_
  have C := on.cx
  have X := C.K
  have T := C.T
  k_dflt (refine' enterK (K := Mine.hd.heap_39 w.params) [] X T.nolimit ?k6 ?k7 ?k8 ?k9 ?kB (fun _ h => (nomatch h)) ?_ ?c2 ?c3 ?c4 ?c5; (case k6 => k_is); (case k7 => k_is); (case k8 => k_room); (case k9 => exact BindsTo.of_eq rfl); (case c5 => decide); (case kB => exact locs rfl); (case c2 => exact rfl); (case c3 => exact rfl); (case c4 => exact rfl); k_whole; intro g' L' h' hg' hL' F' N'; (try dsimp only))
  have Cg := on.hide; rw [show ([] : List Addr) = ([] : List (Addr × Obj)).map (·.1) from rfl, ← hg'] at Cg
  have Xg := Cg.K
  have Tg := Cg.T
  clear C X T on
  all_goals (try k_fold)
  k_steps
  all_goals dsimp only
  all_goals (
    first
    | (have e : spanZ first last = 18446744073709551615 := if_pos (by assumption); rw [e.symm]; exact ret _ _ _ (Same.of_fr (by assumption) hg'))
    | (have e : spanZ first last = 2 * 2 ^ (last.fmod 64).toNat - 1 * 2 ^ (first.fmod 64).toNat := (if_neg (by assumption)).trans (if_pos (by assumption)); rw [e.symm]; exact ret _ _ _ (Same.of_fr (by assumption) hg'))
    | (have e : spanZ first last = 18446744073709551615 - 1 * 2 ^ (first.fmod 64).toNat + 2 * 2 ^ (last.fmod 64).toNat := (if_neg (by assumption)).trans (if_neg (by assumption)); rw [e.symm]; exact ret _ _ _ (Same.of_fr (by assumption) hg'))
    | trace_state)
theorem span_call {w : World} {mg mb : Str → Option Value} {A : Around} {E : Value → Shared → Prop} {Q : Value → Shared → Prop} {s : Shared} {h₀ : Heap} {L : Addr} {m : Str → Option Value} {news : List (Addr × Obj)} {first last : Int} {t1 t2 : Tok} (lo : Low A 250)
  (c : Cx w mg mb h₀) (F : Fr h₀ L s.heap m) (N : News h₀ L s.heap news)
  (ret : ∀ t h' tk, Fr h₀ L h' m → News h₀ L h' news → Q (.int (spanZ first last) t) { s with heap := h', toks := tk }) :
  wpAny (model Pg w) A (call (.ref 85) [.int first t1, .int last t2]) Q E s :=
  span_spec lo (On.of c F N (fun _ h => nomatch h)) fun t h' tk S => ret t h' tk (Fr.same F S (fun h => nomatch h) (fun _ h => nomatch h)) (News.same N S (fun _ _ h => nomatch h))
end Mine

-- Dr
theorem Mine.noneDr : True := by
  k_with_none
  exact trivial
namespace Mine
theorem filled : (fun _ : OpenLaw => True) PySem.Challenge.rw_nu0150_01 ∧ (fun _ : Params → Frag => True) Mine.hd.heap_39 := by
  k_fill
  exact ⟨trivial, trivial⟩
section draw
variable {prog : Program} {w : World} {A : Around} {E : Value → Shared → Prop} {s : Shared} {a b : Int} {t u : Tok} {Q : Value → Shared → Prop}
theorem pow3_rule (h0 : -(10 ^ 60) < a) (h1 : a < 10 ^ 60) (h : ∀ b, Q (.int b s.toks) { s with toks := s.toks + 1 }) : wpAny (model prog w) A (binaryOp .Pow (.int a t) (.int 3 u)) Q E s := by
  refine pow_int (by decide) ?_ (h _)
  have hb : Builtin.Int.intBits a ≤ 200 := intBits_le (by
    have e : (10 : Int) ^ 60 < 2 ^ 200 := by decide
    have e2 : ((2 ^ 200 : Nat) : Int) = 2 ^ 200 := by decide
    omega)
  omega
theorem mul_rule (h0 : -(10 ^ 20) < a) (h1 : a < 10 ^ 20) (h2 : -(10 ^ 20) < b) (h3 : b < 10 ^ 20) (h : ∀ c, -(10 ^ 41) < c → c < 10 ^ 41 → Q (.int c s.toks) { s with toks := s.toks + 1 }) : wpAny (model prog w) A (binaryOp .Mult (.int a t) (.int b u)) Q E s := by
  have ha : a.natAbs ≤ 10 ^ 20 := by omega
  have hb : b.natAbs ≤ 10 ^ 20 := by omega
  have hm : (a * b).natAbs ≤ 10 ^ 20 * 10 ^ 20 := by rw [Int.natAbs_mul]; exact Nat.mul_le_mul ha hb
  have e : (10 ^ 20 * 10 ^ 20 : Nat) = 10 ^ 40 := by decide
  rw [e] at hm
  refine mul_int (h _ (by omega) (by omega)) ?_
  unfold IntMulOk
  have e100 : (10 ^ 20 : Nat) < 2 ^ 100 := by decide
  have ka : Builtin.Int.intBits a ≤ 100 := intBits_le (Nat.lt_of_le_of_lt ha e100)
  have kb : Builtin.Int.intBits b ≤ 100 := intBits_le (Nat.lt_of_le_of_lt hb e100)
  have : Builtin.Int.intTooBig (Builtin.Int.intBits a + Builtin.Int.intBits b) = false := by
    unfold Builtin.Int.intTooBig
    have : bitsLine = 134217728 := bitsLine_eq
    simp only [decide_eq_false_iff_not]
    omega
  rw [this]; simp
theorem fm_bnd (x : Int) {m : Int} (hm : 0 < m) : 0 ≤ Int.fmod x m ∧ Int.fmod x m < m := ⟨Int.fmod_nonneg_of_pos x hm, Int.fmod_lt_of_pos x hm⟩
variable {x seat : Int}
theorem mulA_rule (h0 : 0 ≤ seat) (h1 : seat ≤ 1000) (h : ∀ c, -(10 ^ 41) < c → c < 10 ^ 41 → Q (.int c s.toks) { s with toks := s.toks + 1 }) : wpAny (model prog w) A (binaryOp .Mult (.int (Int.fmod x 2147483587) t) (.int (2 * seat + 5003) u)) Q E s := by
  obtain ⟨a, b⟩ := fm_bnd x (m := 2147483587) (by decide)
  exact mul_rule (by omega) (by omega) (by omega) (by omega) h
theorem mulB_rule (h0 : 0 ≤ seat) (h1 : seat ≤ 1000) (h : ∀ c, -(10 ^ 41) < c → c < 10 ^ 41 → Q (.int c s.toks) { s with toks := s.toks + 1 }) : wpAny (model prog w) A (binaryOp .Mult (.int seat t) (.int seat u)) Q E s :=
  mul_rule (by omega) (by omega) (by omega) (by omega) h
theorem powA_rule (h0 : 0 ≤ seat) (h1 : seat ≤ 1000) (h : ∀ b, Q (.int b s.toks) { s with toks := s.toks + 1 }) : wpAny (model prog w) A (binaryOp .Pow (.int (Int.fmod x 2147483629 + 40503 * seat + 977) t) (.int 3 u)) Q E s := by
  obtain ⟨a, b⟩ := fm_bnd x (m := 2147483629) (by decide)
  exact pow3_rule (by omega) (by omega) h
theorem powB_rule {c d : Int} (h0 : -(10 ^ 41) < c) (h1 : c < 10 ^ 41) (h2 : -(10 ^ 41) < d) (h3 : d < 10 ^ 41) (h : ∀ b, Q (.int b s.toks) { s with toks := s.toks + 1 }) : wpAny (model prog w) A (binaryOp .Pow (.int (c + d + 11) t) (.int 3 u)) Q E s :=
  pow3_rule (by omega) (by omega) h
local macro_rules | `(tactic| walk_at "binaryOp Pow int int") => `(tactic| (k_here; first
  | (with_reducible refine powA_rule (by assumption) (by assumption) ?_); intro b9
  | (with_reducible refine powB_rule (by assumption) (by assumption) (by assumption) (by assumption) ?_); intro b9))
local macro_rules | `(tactic| walk_at "binaryOp Mult int int") => `(tactic| (k_here; first
  | (with_reducible refine mulA_rule (by assumption) (by assumption) ?_); intro c9 hc9 hd9
  | (with_reducible refine mulB_rule (by assumption) (by assumption) ?_); intro c9 hc9 hd9))
set_option maxHeartbeats 4000000 in
theorem draw_spec {w : World} {mg mb : Str → Option Value} {A : Around} {E : Value → Shared → Prop} {Q : Value → Shared → Prop} {s : Shared} {P C : Addr} {vs : List Value} {ns : List Int} {seat rest many : Int} {t1 t2 t3 : Tok} {n : Nat} (lo : Low A 250)
  (on : On w mg mb [P] s.heap) (hP : s.heap.get? P = some (listOf #[.ref C, .int seat t1, .int rest t2] n)) (hC : s.heap.IsList C vs.toArray) (hi : IntsAre vs ns) (hPC : P ≠ C) (hlen : ns.length ≤ 40)
  (hs0 : 0 ≤ seat) (hs1 : seat ≤ 1000) (hr : 0 ≤ rest) (hm : 1 ≤ many) (hm2 : many ≤ 60000)
  (ret : ∀ d t seat' rest' t1' t2' h' tk, 0 ≤ d → d < many → 0 ≤ seat' → seat' ≤ seat + 1 → 0 ≤ rest' → h'.get? P = some (listOf #[.ref C, .int seat' t1', .int rest' t2'] n) → Same [P] s.heap h' → Q (.int d t) { s with heap := h', toks := tk }) :
  wpAny (model Pg w) A (call (.ref 155) [.ref P, .int many t3]) Q E s := by
  refine wpAny_low lo ?_
  have Ct := on.cx
  have X := Ct.K
  have T := Ct.T
  k_dflt (refine' enterK (K := Mine.hd.heap_39 w.params) [(P, listOf #[.ref C, .int seat t1, .int rest t2] n)] X T.nolimit ?k6 ?k7 ?k8 ?k9 ?kB ?kN ?_ ?c2 ?c3 ?c4 ?c5; (case k6 => k_is); (case k7 => k_is); (case k8 => k_room); (case k9 => exact BindsTo.of_eq rfl); (case c5 => decide); (case kB => exact locs rfl); (case c2 => exact rfl); (case c3 => exact rfl); (case c4 => exact rfl); (case kN => (intro p hp; cases List.mem_singleton.mp hp; exact hP)); k_whole; intro g' L' h' hg' hL' F' N'; (try dsimp only))
  have Cg := on.hide; rw [show ([P] : List Addr) = ([(P, listOf #[.ref C, .int seat t1, .int rest t2] n)] : List (Addr × Obj)).map (·.1) from rfl, ← hg'] at Cg
  have Xg := Cg.K
  have Tg := Cg.T
  have hCg : g'.IsList C vs.toArray := by
    obtain ⟨o, ho, hr⟩ := hC
    exact ⟨o, by rw [hg']; exact hideAll_get _ ho (by intro hm; exact hPC (List.mem_singleton.mp hm).symm), hr⟩
  clear Ct X T on hC
  refine letQ ?_
  intro qk
  apply join_by
  · intro hj
    k_with_none
    k_with "exec Assign cons BinOp" => ((with_reducible show wpAny _ _ (exec (.Assign [.Name (Str.ofString "blend") _] _ _) _) _ _ _); refine Halt.mk ?_)
    k_steps
    all_goals (try dsimp only)
    all_goals (first
      | (refine Halt.out ?_
         rename Fr _ _ _ _ => FF
         rename News _ _ _ _ => NN
         obtain ⟨c, tc, FF⟩ := two_over FF
         obtain ⟨tt, NN⟩ : ∃ tt, News g' L' _ [(P, listOf #[.ref C, .int (seat + 1) tt, .int rest t2] n)] := ⟨_, NN⟩
         refine gen_toks (s := s) ?_
         intro tk9
         exact (hj.out : ∀ (h : Heap) (tk : Nat) (c : Int) (tc tt : Tok), Fr g' L' h (fun z => if z = Str.ofString "cell" then some (.int c tc) else (_ : Option Value)) → News g' L' h [(P, listOf #[.ref C, .int (seat + 1) tt, .int rest t2] n)] → wpAny (model Pg w) _ _ _ _ { s with heap := h, toks := tk }) _ tk9 c tc tt FF NN)
      | (
        refine ret _ _ _ _ _ _ _ _ ?e1 ?e2 ?e3 ?e4 ?e5 (News.get (by assumption) (List.Mem.head _)) (Same.of_fr (by assumption) hg')
        case e1 => exact (fm_bnd _ (by omega)).1
        case e2 => exact (fm_bnd _ (by omega)).2
        case e3 => omega
        case e4 => omega
        case e5 => first | exact Int.fdiv_nonneg (Int.sub_nonneg.mpr (by assumption)) (by omega) | exact Int.fdiv_nonneg (by omega) (by omega) | omega))
  · clear F' N'
    intro h9 tk9 c tc tt F' N'
    k_with_none
    k_steps
    all_goals (try dsimp only)
    all_goals (
    refine ret _ _ _ _ _ _ _ _ ?e1 ?e2 ?e3 ?e4 ?e5 (News.get (by assumption) (List.Mem.head _)) (Same.of_fr (by assumption) hg')
    case e1 => exact (fm_bnd _ (by omega)).1
    case e2 => exact (fm_bnd _ (by omega)).2
    case e3 => omega
    case e4 => omega
    case e5 => first | exact Int.fdiv_nonneg (Int.sub_nonneg.mpr (by assumption)) (by omega) | exact Int.fdiv_nonneg (by omega) (by omega) | omega)
end draw
end Mine

-- Dg
theorem Mine.noneDg : True := by
  k_with_none
  exact trivial
namespace Mine
noncomputable abbrev dgDict (w : World) (rl : Addr) (tk : Tok) : Obj := dictOf [⟨PyData.keyHash w.params (Str.ofString "rows"), .str (Str.ofString "rows") tk, .ref rl⟩] 1
noncomputable abbrev dgRows (r0 : Int) (t0 : Tok) (r1 : Int) (t1 : Tok) (r2 : Int) (t2 : Tok) : Obj := listOf #[.int r0 t0, .int r1 t1, .int r2 t2] 0
set_option maxHeartbeats 4000000 in
theorem digest_new {w : World} {mg mb : Str → Option Value} {A : Around} {E : Value → Shared → Prop} {Q : Value → Shared → Prop} {s : Shared} {h₀ : Heap} {L : Addr} {m : Str → Option Value} {news : List (Addr × Obj)} (lo : Low A 240)
  (c : Cx w mg mb h₀) (F : Fr h₀ L s.heap m) (N : News h₀ L s.heap news)
  (ret : ∀ D dx rl tk t0 t1 t2 h' tk', Fr h₀ L h' m → News h₀ L h' ((rl, dgRows 0 t0 0 t1 0 t2) :: (D, instObj 137 dx) :: (dx, dgDict w rl tk) :: news) → AllAp dx news → AllAp D ((dx, dgDict w rl tk) :: news) → AllAp rl ((D, instObj 137 dx) :: (dx, dgDict w rl tk) :: news) → Q (.ref D) { s with heap := h', toks := tk' }) :
  wpAny (model Pg w) A (call (.ref 137) []) Q E s := by
  refine wpAny_low lo ?_
  have X := c.K
  k_dflt (refine' call_cls (fI := 99) F X N ?k4 ?k5 ?k6 ?_; (case k4 => k_is); (case k5 => k_is); (case k6 => k_is); k_whole; intro x dx h1 F1 N1 l1 l2)
  have on := On.of (mod := [x, dx]) c F1 N1 (by intro a ha; rcases List.mem_cons.mp ha with rfl | ha; exact ⟨_, .head _⟩; cases List.mem_singleton.mp ha; exact ⟨_, .tail _ (.head _)⟩)
  have X := on.cx.K
  have T := on.cx.T
  have hxd : x ≠ dx := Nat.ne_of_gt l2
  k_dflt (refine' enterC (K := Mine.hd.heap_39 w.params) [(x, instObj 137 dx), (dx, dictOf [] 0)] X T.nolimit ?k6 ?k7 ?k8 ?k9 ?kB ?kN ?_ ?c2 ?c3 ?c4 ?c5; (case k6 => k_is); (case k7 => k_is); (case k8 => k_room); (case k9 => exact BindsTo.of_eq rfl); (case c5 => decide); (case kB => exact locs rfl); (case c2 => exact rfl); (case c3 => exact rfl); (case c4 => exact rfl); (case kN => exact Has.of N1 (by intro p hp; rcases List.mem_cons.mp hp with rfl | hp; exact .head _; cases List.mem_singleton.mp hp; exact .tail _ (.head _))); k_whole; intro g' L' h' hg' hL' F' N'; (try dsimp only))
  have Cg := on.hide; rw [show ([x, dx] : List Addr) = ([(x, instObj 137 dx), (dx, dictOf [] 0)] : List (Addr × Obj)).map (·.1) from rfl, ← hg'] at Cg
  have Xg := Cg.K
  have Tg := Cg.T
  clear X T
  all_goals (try k_fold)
  k_steps
  all_goals dsimp only [InitBack]
  refine ⟨rfl, ?_⟩
  rename_i rl hA lr hB FF NN
  have S : Same [x, dx] h1 hB := Same.of_fr FF hg'
  have frl : h1.get? rl = none := fresh_of NN hg' (List.Mem.head _) (by
    intro hm
    rcases List.mem_cons.mp hm with e | hm
    · exact Nat.ne_of_gt lr.1 e
    · exact Nat.ne_of_gt lr.2 (List.mem_singleton.mp hm))
  have Nn : News h₀ L h1 news := fun p hp => N1 p (.tail _ (.tail _ hp))
  have hx := (N1 _ (.head _)).2
  have hd := (N1 _ (.tail _ (.head _))).2
  have nx : ∀ p ∈ news, p.1 ∉ [x, dx] := fun p hp hm => by
    have := l1 p hp
    rcases List.mem_cons.mp hm with e | hm
    · exact Nat.ne_of_lt (Nat.lt_trans this l2) e
    · exact Nat.ne_of_lt this (List.mem_singleton.mp hm)
  have F2 : Fr h₀ L hB m := Fr.same F1 S (fun hm => by
      rcases List.mem_cons.mp hm with e | hm
      · exact hx.1 e.symm
      · exact hd.1 (List.mem_singleton.mp hm).symm) (fun a ha => by
      rcases List.mem_cons.mp ha with e | hm
      · rw [e]; exact hx.2
      · rw [List.mem_singleton.mp hm]; exact hd.2)
  have N2 : News h₀ L hB news := News.same Nn S nx
  refine ret x dx rl _ _ _ _ hB _ F2 (News.join F1 (l := [(rl, _)]) (News.turn N1 (new := [(x, _), (dx, _)]) (fun p hp => (NN p (.tail _ hp)).1) ?_ N2) (has_one (NN.get (.head _))) ?_) ⟨fun p hp => Nat.ne_of_lt (l1 p hp)⟩ ⟨?_⟩ ⟨?_⟩
  · intro p hp
    rcases List.mem_cons.mp hp with rfl | hp
    · exact ⟨_, .head _⟩
    · cases List.mem_singleton.mp hp; exact ⟨_, .tail _ (.head _)⟩
  · intro p hp
    cases List.mem_singleton.mp hp; exact frl
  · intro p hp
    rcases List.mem_cons.mp hp with rfl | hp
    · exact Nat.ne_of_lt l2
    · exact Nat.ne_of_lt (Nat.lt_trans (l1 p hp) l2)
  · intro p hp
    rcases List.mem_cons.mp hp with rfl | hp
    · exact Nat.ne_of_lt lr.1
    · rcases List.mem_cons.mp hp with rfl | hp
      · exact Nat.ne_of_lt lr.2
      · intro e
        rw [← e, (Nn p hp).1] at frl; cases frl
end Mine

-- Ar
theorem Mine.noneAr : True := by
  k_with_none
  exact trivial
namespace Mine
section
local macro_rules | `(tactic| walk_at "call ref") => `(tactic| (k_here; k_dflt (refine' span_call ?lo ?c ?F ?N ?_; (case lo => exact ⟨rfl, rfl, Nat.le_of_ble_eq_true rfl, Nat.le_of_ble_eq_true rfl⟩); (case c => assumption); (case F => k_asm); (case N => k_asm); k_whole; intro t9 h' tk9 F' N'; (try k_sweep))))
local macro_rules | `(tactic| k_ne) => `(tactic| first | assumption | (refine Ne.symm ?_; assumption) | exact AllAp.ne (by assumption) (by k_memK) | exact (AllAp.ne (by assumption) (by k_memK)).symm)
noncomputable abbrev dgL (w : World) (D dx rl : Addr) (tk : Tok) (r0 : Int) (t0 : Tok) (r1 : Int) (t1 : Tok) (r2 : Int) (t2 : Tok) : List (Addr × Obj) := [(D, instObj 137 dx), (dx, dgDict w rl tk), (rl, dgRows r0 t0 r1 t1 r2 t2)]
theorem dgL_ne {w : World} {D dx rl : Addr} {tk : Tok} {r0 : Int} {t0 : Tok} {r1 : Int} {t1 : Tok} {r2 : Int} {t2 : Tok} {h : Heap} (H : Has h (dgL w D dx rl tk r0 t0 r1 t1 r2 t2)) : D ≠ dx ∧ D ≠ rl ∧ dx ≠ rl := by
  have a := H.get (.head _)
  have b := H.get (.tail _ (.head _))
  have c := H.get (.tail _ (.tail _ (.head _)))
  refine ⟨fun e => ?_, fun e => ?_, fun e => ?_⟩
  · rw [e, b] at a; injection a with a; injection a with a; cases a
  · rw [e, c] at a; injection a with a; injection a with a; cases a
  · rw [e, c] at b; injection b with b; injection b with b; injection b with b; exact absurd b (by decide)
noncomputable def addZ (sh r a b : Int) : Int := Builtin.bitOr r (spanZ (a.fdiv (2 ^ Int.toNat sh)) (b.fdiv (2 ^ Int.toNat sh)))
set_option maxHeartbeats 4000000 in
theorem add_range_spec {w : World} {mg mb : Str → Option Value} {A : Around} {E : Value → Shared → Prop} {Q : Value → Shared → Prop} {s : Shared} {D dx rl : Addr} {tk : Tok} {r0 : Int} {t0 : Tok} {r1 : Int} {t1 : Tok} {r2 : Int} {t2 : Tok} {first last : Int} {u1 u2 : Tok} (lo : Low A 240)
  (on : On w mg mb [D, dx, rl] s.heap) (H : Has s.heap (dgL w D dx rl tk r0 t0 r1 t1 r2 t2))
  (ret : ∀ t0' t1' t2' h' tk', Has h' (dgL w D dx rl tk (addZ 4 r0 first last) t0' (addZ 0 r1 first last) t1' (addZ 9 r2 first last) t2') → Same [rl] s.heap h' → Q .none { s with heap := h', toks := tk' }) :
  wpAny (model Pg w) A (call (.ref 113) [.ref D, .int first u1, .int last u2]) Q E s := by
  refine wpAny_low lo ?_
  have Ct := on.cx
  have X := Ct.K
  have T := Ct.T
  obtain ⟨n1, n2, n3⟩ := dgL_ne H
  k_dflt (refine' enterK (K := Mine.hd.heap_39 w.params) [(D, instObj 137 dx), (dx, dgDict w rl tk), (rl, dgRows r0 t0 r1 t1 r2 t2)] X T.nolimit ?k6 ?k7 ?k8 ?k9 ?kB ?kN ?_ ?c2 ?c3 ?c4 ?c5; (case k6 => k_is); (case k7 => k_is); (case k8 => k_room); (case k9 => exact BindsTo.of_eq rfl); (case c5 => decide); (case kB => exact locs rfl); (case c2 => exact rfl); (case c3 => exact rfl); (case c4 => exact rfl); (case kN => exact H); k_whole; intro g' L' h' hg' hL' F' N'; (try dsimp only))
  have Cg := on.hide; rw [show ([D, dx, rl] : List Addr) = ([(D, instObj 137 dx), (dx, dgDict w rl tk), (rl, dgRows r0 t0 r1 t1 r2 t2)] : List (Addr × Obj)).map (·.1) from rfl, ← hg'] at Cg
  have Xg := Cg.K
  have Tg := Cg.T
  clear Ct X T
  all_goals (try k_fold)
  k_steps
  all_goals (try dsimp only)
  rename_i hB tkB FF NN
  refine ret _ _ _ hB tkB (fun p hp => (NN p hp).1) (Same.shrink (Same.of_fr FF hg') ?_)
  intro a ha hn o e
  rcases List.mem_cons.mp ha with rfl | ha
  · rw [H.get (.head _)] at e; rw [← e]; exact (NN _ (.head _)).1
  rcases List.mem_cons.mp ha with rfl | ha
  · rw [H.get (.tail _ (.head _))] at e; rw [← e]; exact (NN _ (.tail _ (.head _))).1
  · exact absurd ha hn
end
end Mine

-- Ad
theorem Mine.noneAd : True := by
  k_with_none
  exact trivial
namespace Mine
/-- the digest stands as it stood -/
theorem dg_back {w : World} {D dx rl : Addr} {tk : Tok} {r0 : Int} {t0 : Tok} {r1 : Int} {t1 : Tok} {r2 : Int} {t2 : Tok} {h h' : Heap} (H : Has h (dgL w D dx rl tk r0 t0 r1 t1 r2 t2)) (S : Same [D, dx, rl] h h') (H' : Has h' (dgL w D dx rl tk r0 t0 r1 t1 r2 t2)) : Same [] h h' := by
  refine Same.shrink S ?_
  intro a ha hn o e
  rcases List.mem_cons.mp ha with rfl | ha
  · rw [H.get (.head _)] at e; rw [← e]; exact H'.get (.head _)
  rcases List.mem_cons.mp ha with rfl | ha
  · rw [H.get (.tail _ (.head _))] at e; rw [← e]; exact H'.get (.tail _ (.head _))
  · cases List.mem_singleton.mp ha
    rw [H.get (.tail _ (.tail _ (.head _)))] at e; rw [← e]; exact H'.get (.tail _ (.tail _ (.head _)))
theorem has_back {h h' : Heap} {l : List (Addr × Obj)} (H : Has h l) (H' : Has h' l) {a : Addr} (ha : a ∈ l.map (·.1)) {o : Obj} (e : h.get? a = some o) : h'.get? a = some o := by
  obtain ⟨p, hp, rfl⟩ := List.mem_map.mp ha
  rw [H p hp] at e; rw [← e]; exact H' p hp
theorem dg_back2 {h h' : Heap} {l1 l2 : List (Addr × Obj)} {mod : List Addr} (H : Has h l1) (H2 : Has h l2) (S : Same mod h h') (H' : Has h' l1) (H2' : Has h' l2) (hm : ∀ a ∈ mod, a ∈ l1.map (·.1) ∨ a ∈ l2.map (·.1) := by (intro a ha; first | exact List.mem_append.mp ha | exact (List.mem_append.mp (by simpa using ha)))) : Same [] h h' :=
  Same.shrink S fun a ha _ _ e => (hm a ha).elim (fun q => has_back H H' q e) fun q => has_back H2 H2' q e
theorem on_dg {w : World} {mg mb : Str → Option Value} {s : Shared} {h₀ : Heap} {L : Addr} {m : Str → Option Value} {news : List (Addr × Obj)} {D dx rl : Addr} {tk : Tok} {r0 : Int} {t0 : Tok} {r1 : Int} {t1 : Tok} {r2 : Int} {t2 : Tok}
  (c : Cx w mg mb h₀) (F : Fr h₀ L s.heap m) (N : News h₀ L s.heap news) (h1 : (D, instObj 137 dx) ∈ news) (h2 : (dx, dgDict w rl tk) ∈ news) (h3 : (rl, dgRows r0 t0 r1 t1 r2 t2) ∈ news) :
  On w mg mb [D, dx, rl] s.heap ∧ Has s.heap (dgL w D dx rl tk r0 t0 r1 t1 r2 t2) := by
  refine ⟨On.of c F N fun a ha => ?_, Has.of N fun p hp => ?_⟩
  · rcases List.mem_cons.mp ha with rfl | ha
    · exact ⟨_, h1⟩
    rcases List.mem_cons.mp ha with rfl | ha
    · exact ⟨_, h2⟩
    · cases List.mem_singleton.mp ha; exact ⟨_, h3⟩
  · rcases List.mem_cons.mp hp with rfl | hp
    · exact h1
    rcases List.mem_cons.mp hp with rfl | hp
    · exact h2
    · cases List.mem_singleton.mp hp; exact h3
theorem add_range_call {w : World} {mg mb : Str → Option Value} {A : Around} {E : Value → Shared → Prop} {Q : Value → Shared → Prop} {s : Shared} {h₀ : Heap} {L : Addr} {m : Str → Option Value} {news : List (Addr × Obj)} {D dx rl : Addr} {tk : Tok} {r0 : Int} {t0 : Tok} {r1 : Int} {t1 : Tok} {r2 : Int} {t2 : Tok} {first last : Int} {u1 u2 : Tok} (lo : Low A 240)
  (c : Cx w mg mb h₀) (F : Fr h₀ L s.heap m) (N : News h₀ L s.heap news) (h1 : (D, instObj 137 dx) ∈ news) (h2 : (dx, dgDict w rl tk) ∈ news) (h3 : (rl, dgRows r0 t0 r1 t1 r2 t2) ∈ news)
  (ret : ∀ t0' t1' t2' h' tk', Fr h₀ L h' m → (∀ news', Upd rl (dgRows r0 t0 r1 t1 r2 t2) (dgRows (addZ 4 r0 first last) t0' (addZ 0 r1 first last) t1' (addZ 9 r2 first last) t2') news news' → News h₀ L h' news') → Q .none { s with heap := h', toks := tk' }) :
  wpAny (model Pg w) A (call (.ref 113) [.ref D, .int first u1, .int last u2]) Q E s := by
  obtain ⟨on, H⟩ := on_dg c F N h1 h2 h3
  refine add_range_spec lo on H fun t0' t1' t2' h' tk' H' S => ret t0' t1' t2' h' tk' (Fr.same1 F N h3 S) fun news' U => News.upd1 N S U (H'.get (.tail _ (.tail _ (.head _))))
section
local macro_rules | `(tactic| k_ne) => `(tactic| first | assumption | (refine Ne.symm ?_; assumption) | exact AllAp.ne (by assumption) (by k_memK) | exact (AllAp.ne (by assumption) (by k_memK)).symm)
local macro_rules | `(tactic| walk_at "another count") => `(tactic| done)
local macro_rules | `(tactic| walk_at "call ref") => `(tactic| (k_here; k_dflt (refine' add_range_call ?lo ?c ?F ?N ?h1 ?h2 ?h3 ?_; (case lo => exact ⟨rfl, rfl, Nat.le_of_ble_eq_true rfl, Nat.le_of_ble_eq_true rfl⟩); (case c => assumption); (case F => k_asm); (case N => k_asm); (case h1 => k_mem); (case h2 => k_mem); (case h3 => k_mem); k_whole; intro t0' t1' t2' h' tk' F' nn'; (have N' := nn' _ (by k_upd)); clear nn'; (try k_sweep))))
set_option maxHeartbeats 4000000 in
theorem add_spec {w : World} {mg mb : Str → Option Value} {A : Around} {E : Value → Shared → Prop} {Q : Value → Shared → Prop} {s : Shared} {D dx rl : Addr} {tk : Tok} {r0 : Int} {t0 : Tok} {r1 : Int} {t1 : Tok} {r2 : Int} {t2 : Tok} {glyph : Int} {u1 : Tok} (lo : Low A 230)
  (on : On w mg mb [D, dx, rl] s.heap) (H : Has s.heap (dgL w D dx rl tk r0 t0 r1 t1 r2 t2))
  (ret : ∀ t0' t1' t2' h' tk', Has h' (dgL w D dx rl tk (addZ 4 r0 glyph glyph) t0' (addZ 0 r1 glyph glyph) t1' (addZ 9 r2 glyph glyph) t2') → Same [rl] s.heap h' → Q .none { s with heap := h', toks := tk' }) :
  wpAny (model Pg w) A (call (.ref 106) [.ref D, .int glyph u1]) Q E s := by
  refine wpAny_low lo ?_
  have Ct := on.cx
  have X := Ct.K
  have T := Ct.T
  obtain ⟨n1, n2, n3⟩ := dgL_ne H
  k_dflt (refine' enterK (K := Mine.hd.heap_39 w.params) [(D, instObj 137 dx), (dx, dgDict w rl tk), (rl, dgRows r0 t0 r1 t1 r2 t2)] X T.nolimit ?k6 ?k7 ?k8 ?k9 ?kB ?kN ?_ ?c2 ?c3 ?c4 ?c5; (case k6 => k_is); (case k7 => k_is); (case k8 => k_room); (case k9 => exact BindsTo.of_eq rfl); (case c5 => decide); (case kB => exact locs rfl); (case c2 => exact rfl); (case c3 => exact rfl); (case c4 => exact rfl); (case kN => exact H); k_whole; intro g' L' h' hg' hL' F' N'; (try dsimp only))
  have Cg := on.hide; rw [show ([D, dx, rl] : List Addr) = ([(D, instObj 137 dx), (dx, dgDict w rl tk), (rl, dgRows r0 t0 r1 t1 r2 t2)] : List (Addr × Obj)).map (·.1) from rfl, ← hg'] at Cg
  have Xg := Cg.K
  have Tg := Cg.T
  clear Ct X T
  all_goals (try k_fold)
  k_steps
  all_goals (try dsimp only)
  rename_i t0' t1' t2' hB tkB FF NN
  refine ret _ _ _ hB _ (fun p hp => (NN p hp).1) (Same.shrink (Same.of_fr FF hg') ?_)
  intro a ha hn o e
  rcases List.mem_cons.mp ha with rfl | ha
  · rw [H.get (.head _)] at e; rw [← e]; exact (NN _ (.head _)).1
  rcases List.mem_cons.mp ha with rfl | ha
  · rw [H.get (.tail _ (.head _))] at e; rw [← e]; exact (NN _ (.tail _ (.head _))).1
  · exact absurd ha hn
end
theorem add_call {w : World} {mg mb : Str → Option Value} {A : Around} {E : Value → Shared → Prop} {Q : Value → Shared → Prop} {s : Shared} {h₀ : Heap} {L : Addr} {m : Str → Option Value} {news : List (Addr × Obj)} {D dx rl : Addr} {tk : Tok} {r0 : Int} {t0 : Tok} {r1 : Int} {t1 : Tok} {r2 : Int} {t2 : Tok} {glyph : Int} {u1 : Tok} (lo : Low A 230)
  (c : Cx w mg mb h₀) (F : Fr h₀ L s.heap m) (N : News h₀ L s.heap news) (h1 : (D, instObj 137 dx) ∈ news) (h2 : (dx, dgDict w rl tk) ∈ news) (h3 : (rl, dgRows r0 t0 r1 t1 r2 t2) ∈ news)
  (ret : ∀ t0' t1' t2' h' tk', Fr h₀ L h' m → (∀ news', Upd rl (dgRows r0 t0 r1 t1 r2 t2) (dgRows (addZ 4 r0 glyph glyph) t0' (addZ 0 r1 glyph glyph) t1' (addZ 9 r2 glyph glyph) t2') news news' → News h₀ L h' news') → Q .none { s with heap := h', toks := tk' }) :
  wpAny (model Pg w) A (call (.ref 106) [.ref D, .int glyph u1]) Q E s := by
  obtain ⟨on, H⟩ := on_dg c F N h1 h2 h3
  refine add_spec lo on H fun t0' t1' t2' h' tk' H' S => ret t0' t1' t2' h' tk' (Fr.same1 F N h3 S) fun news' U => News.upd1 N S U (H'.get (.tail _ (.tail _ (.head _))))
set_option maxHeartbeats 4000000 in
theorem told_spec {w : World} {mg mb : Str → Option Value} {A : Around} {E : Value → Shared → Prop} {Q : Value → Shared → Prop} {s : Shared} {D dx rl : Addr} {tk : Tok} {r0 : Int} {t0 : Tok} {r1 : Int} {t1 : Tok} {r2 : Int} {t2 : Tok} (lo : Low A 240)
  (on : On w mg mb [D, dx, rl] s.heap) (H : Has s.heap (dgL w D dx rl tk r0 t0 r1 t1 r2 t2))
  (ret : ∀ T h' tk', Has h' [(T, { cls := .type "tuple", data := .seq #[.int r0 t0, .int r1 t1, .int r2 t2] })] → s.heap.get? T = none → Same [] s.heap h' → Q (.ref T) { s with heap := h', toks := tk' }) :
  wpAny (model Pg w) A (call (.ref 134) [.ref D]) Q E s := by
  refine wpAny_low lo ?_
  have Ct := on.cx
  have X := Ct.K
  have T := Ct.T
  obtain ⟨n1, n2, n3⟩ := dgL_ne H
  k_dflt (refine' enterK (K := Mine.hd.heap_39 w.params) [(D, instObj 137 dx), (dx, dgDict w rl tk), (rl, dgRows r0 t0 r1 t1 r2 t2)] X T.nolimit ?k6 ?k7 ?k8 ?k9 ?kB ?kN ?_ ?c2 ?c3 ?c4 ?c5; (case k6 => k_is); (case k7 => k_is); (case k8 => k_room); (case k9 => exact BindsTo.of_eq rfl); (case c5 => decide); (case kB => exact locs rfl); (case c2 => exact rfl); (case c3 => exact rfl); (case c4 => exact rfl); (case kN => exact H); k_whole; intro g' L' h' hg' hL' F' N'; (try dsimp only))
  have Cg := on.hide; rw [show ([D, dx, rl] : List Addr) = ([(D, instObj 137 dx), (dx, dgDict w rl tk), (rl, dgRows r0 t0 r1 t1 r2 t2)] : List (Addr × Obj)).map (·.1) from rfl, ← hg'] at Cg
  have Xg := Cg.K
  have Tg := Cg.T
  clear Ct X T
  all_goals (try k_fold)
  k_steps
  all_goals (try dsimp only)
  rename_i T hB FF NN lt
  refine ret T hB _ (has_one (NN.get (.head _))) (fresh_of NN hg' (.head _) ?_) (dg_back H (Same.of_fr FF hg') (fun p hp => (NN p (.tail _ hp)).1))
  intro hm
  rcases List.mem_cons.mp hm with e | hm
  · exact Nat.ne_of_gt lt.1 e
  rcases List.mem_cons.mp hm with e | hm
  · exact Nat.ne_of_gt lt.2.1 e
  · exact Nat.ne_of_gt lt.2.2 (List.mem_singleton.mp hm)
noncomputable def bitZ (r sh g : Int) : Int := Builtin.bitAnd (r.fdiv (2 ^ ((g.fdiv (2 ^ Int.toNat sh)).fmod 64).toNat)) 1
noncomputable def mayHaveZ (r0 r1 r2 g : Int) : Bool := if bitZ r0 4 g = 0 then false else if bitZ r1 0 g = 0 then false else if bitZ r2 9 g = 0 then false else true
set_option maxHeartbeats 4000000 in
theorem may_have_spec {w : World} {mg mb : Str → Option Value} {A : Around} {E : Value → Shared → Prop} {Q : Value → Shared → Prop} {s : Shared} {D dx rl : Addr} {tk : Tok} {r0 : Int} {t0 : Tok} {r1 : Int} {t1 : Tok} {r2 : Int} {t2 : Tok} {glyph : Int} {u : Tok} (lo : Low A 240)
  (on : On w mg mb [D, dx, rl] s.heap) (H : Has s.heap (dgL w D dx rl tk r0 t0 r1 t1 r2 t2))
  (ret : ∀ h' tk', Same [] s.heap h' → Q (.bool (mayHaveZ r0 r1 r2 glyph)) { s with heap := h', toks := tk' }) :
  wpAny (model Pg w) A (call (.ref 120) [.ref D, .int glyph u]) Q E s := by
  refine wpAny_low lo ?_
  have Ct := on.cx
  have X := Ct.K
  have T := Ct.T
  obtain ⟨n1, n2, n3⟩ := dgL_ne H
  k_dflt (refine' enterK (K := Mine.hd.heap_39 w.params) [(D, instObj 137 dx), (dx, dgDict w rl tk), (rl, dgRows r0 t0 r1 t1 r2 t2)] X T.nolimit ?k6 ?k7 ?k8 ?k9 ?kB ?kN ?_ ?c2 ?c3 ?c4 ?c5; (case k6 => k_is); (case k7 => k_is); (case k8 => k_room); (case k9 => exact BindsTo.of_eq rfl); (case c5 => decide); (case kB => exact locs rfl); (case c2 => exact rfl); (case c3 => exact rfl); (case c4 => exact rfl); (case kN => exact H); k_whole; intro g' L' h' hg' hL' F' N'; (try dsimp only))
  have Cg := on.hide; rw [show ([D, dx, rl] : List Addr) = ([(D, instObj 137 dx), (dx, dgDict w rl tk), (rl, dgRows r0 t0 r1 t1 r2 t2)] : List (Addr × Obj)).map (·.1) from rfl, ← hg'] at Cg
  have Xg := Cg.K
  have Tg := Cg.T
  clear Ct X T
  all_goals (try k_fold)
  k_steps
  all_goals (try dsimp only)
  all_goals (
    first
    | (have e : mayHaveZ r0 r1 r2 glyph = false := if_pos (by assumption)
       rw [e] at ret; exact ret _ _ (dg_back H (Same.of_fr (by assumption) hg') (Has.of (by assumption) (by exact sub_cons (by k_memK) (sub_cons (by k_memK) (sub_cons (by k_memK) sub_nil))))))
    | (have e : mayHaveZ r0 r1 r2 glyph = false := (if_neg (by assumption)).trans (if_pos (by assumption))
       rw [e] at ret; exact ret _ _ (dg_back H (Same.of_fr (by assumption) hg') (Has.of (by assumption) (by exact sub_cons (by k_memK) (sub_cons (by k_memK) (sub_cons (by k_memK) sub_nil))))))
    | (have e : mayHaveZ r0 r1 r2 glyph = false := (if_neg (by assumption)).trans ((if_neg (by assumption)).trans (if_pos (by assumption)))
       rw [e] at ret; exact ret _ _ (dg_back H (Same.of_fr (by assumption) hg') (Has.of (by assumption) (by exact sub_cons (by k_memK) (sub_cons (by k_memK) (sub_cons (by k_memK) sub_nil))))))
    | (have e : mayHaveZ r0 r1 r2 glyph = true := (if_neg (by assumption)).trans ((if_neg (by assumption)).trans (if_neg (by assumption)))
       rw [e] at ret; exact ret _ _ (dg_back H (Same.of_fr (by assumption) hg') (Has.of (by assumption) (by exact sub_cons (by k_memK) (sub_cons (by k_memK) (sub_cons (by k_memK) sub_nil)))))))
noncomputable def mayMeetZ (r0 r1 r2 q0 q1 q2 : Int) : Bool := if Builtin.bitAnd r0 q0 = 0 then false else if Builtin.bitAnd r1 q1 = 0 then false else if Builtin.bitAnd r2 q2 = 0 then false else true
set_option maxHeartbeats 4000000 in
theorem may_meet_spec {w : World} {mg mb : Str → Option Value} {A : Around} {E : Value → Shared → Prop} {Q : Value → Shared → Prop} {s : Shared} {D dx rl : Addr} {tk : Tok} {r0 : Int} {t0 : Tok} {r1 : Int} {t1 : Tok} {r2 : Int} {t2 : Tok} {D2 dx2 rl2 : Addr} {tkb : Tok} {q0 : Int} {v0 : Tok} {q1 : Int} {v1 : Tok} {q2 : Int} {v2 : Tok} (lo : Low A 240)
  (on : On w mg mb [D, dx, rl, D2, dx2, rl2] s.heap) (H : Has s.heap (dgL w D dx rl tk r0 t0 r1 t1 r2 t2)) (H2 : Has s.heap (dgL w D2 dx2 rl2 tkb q0 v0 q1 v1 q2 v2))
  (ret : ∀ h' tk', Same [] s.heap h' → Q (.bool (mayMeetZ r0 r1 r2 q0 q1 q2)) { s with heap := h', toks := tk' }) :
  wpAny (model Pg w) A (call (.ref 127) [.ref D, .ref D2]) Q E s := by
  refine wpAny_low lo ?_
  have Ct := on.cx
  have X := Ct.K
  have T := Ct.T
  obtain ⟨n1, n2, n3⟩ := dgL_ne H
  k_dflt (refine' enterK (K := Mine.hd.heap_39 w.params) [(D, instObj 137 dx), (dx, dgDict w rl tk), (rl, dgRows r0 t0 r1 t1 r2 t2), (D2, instObj 137 dx2), (dx2, dgDict w rl2 tkb), (rl2, dgRows q0 v0 q1 v1 q2 v2)] X T.nolimit ?k6 ?k7 ?k8 ?k9 ?kB ?kN ?_ ?c2 ?c3 ?c4 ?c5; (case k6 => k_is); (case k7 => k_is); (case k8 => k_room); (case k9 => exact BindsTo.of_eq rfl); (case c5 => decide); (case kB => exact locs rfl); (case c2 => exact rfl); (case c3 => exact rfl); (case c4 => exact rfl); (case kN => exact (fun p hp => (List.mem_append.mp (show p ∈ dgL w D dx rl tk r0 t0 r1 t1 r2 t2 ++ dgL w D2 dx2 rl2 tkb q0 v0 q1 v1 q2 v2 from hp)).elim (H p) (H2 p))); k_whole; intro g' L' h' hg' hL' F' N'; (try dsimp only))
  have Cg := on.hide; rw [show ([D, dx, rl, D2, dx2, rl2] : List Addr) = ([(D, instObj 137 dx), (dx, dgDict w rl tk), (rl, dgRows r0 t0 r1 t1 r2 t2), (D2, instObj 137 dx2), (dx2, dgDict w rl2 tkb), (rl2, dgRows q0 v0 q1 v1 q2 v2)] : List (Addr × Obj)).map (·.1) from rfl, ← hg'] at Cg
  have Xg := Cg.K
  have Tg := Cg.T
  clear Ct X T
  all_goals (try k_fold)
  k_steps
  all_goals (try dsimp only)
  all_goals (
    first
    | (have e : mayMeetZ r0 r1 r2 q0 q1 q2 = false := if_pos (by assumption)
       rw [e] at ret; refine ret _ _ (dg_back2 H H2 (Same.of_fr (by assumption) hg') (Has.of (by assumption) (by exact sub_cons (by k_memK) (sub_cons (by k_memK) (sub_cons (by k_memK) sub_nil)))) (Has.of (by assumption) (by exact sub_cons (by k_memK) (sub_cons (by k_memK) (sub_cons (by k_memK) sub_nil))))))
    | (have e : mayMeetZ r0 r1 r2 q0 q1 q2 = false := (if_neg (by assumption)).trans (if_pos (by assumption))
       rw [e] at ret; refine ret _ _ (dg_back2 H H2 (Same.of_fr (by assumption) hg') (Has.of (by assumption) (by exact sub_cons (by k_memK) (sub_cons (by k_memK) (sub_cons (by k_memK) sub_nil)))) (Has.of (by assumption) (by exact sub_cons (by k_memK) (sub_cons (by k_memK) (sub_cons (by k_memK) sub_nil))))))
    | (have e : mayMeetZ r0 r1 r2 q0 q1 q2 = false := (if_neg (by assumption)).trans ((if_neg (by assumption)).trans (if_pos (by assumption)))
       rw [e] at ret; refine ret _ _ (dg_back2 H H2 (Same.of_fr (by assumption) hg') (Has.of (by assumption) (by exact sub_cons (by k_memK) (sub_cons (by k_memK) (sub_cons (by k_memK) sub_nil)))) (Has.of (by assumption) (by exact sub_cons (by k_memK) (sub_cons (by k_memK) (sub_cons (by k_memK) sub_nil))))))
    | (have e : mayMeetZ r0 r1 r2 q0 q1 q2 = true := (if_neg (by assumption)).trans ((if_neg (by assumption)).trans (if_neg (by assumption)))
       rw [e] at ret; refine ret _ _ (dg_back2 H H2 (Same.of_fr (by assumption) hg') (Has.of (by assumption) (by exact sub_cons (by k_memK) (sub_cons (by k_memK) (sub_cons (by k_memK) sub_nil)))) (Has.of (by assumption) (by exact sub_cons (by k_memK) (sub_cons (by k_memK) (sub_cons (by k_memK) sub_nil))))))
    | trace_state)
end Mine

-- Ld
theorem Mine.noneLd : True := by
  k_with_none
  exact trivial
namespace Mine
noncomputable def rowStep (a : Int × Int × Int) (r : Int × Int) : Int × Int × Int := (addZ 4 a.1 r.1 r.2, addZ 0 a.2.1 r.1 r.2, addZ 9 a.2.2 r.1 r.2)
noncomputable def rowsFold (rs : List (Int × Int)) : Int × Int × Int := rs.foldl rowStep (0, 0, 0)
theorem rowsFold_take {rs : List (Int × Int)} {i : Nat} {r : Int × Int} (h : rs[i]? = some r) : rowsFold (rs.take (i + 1)) = rowStep (rowsFold (rs.take i)) r := by
  unfold rowsFold
  rw [List.take_add_one, h, List.foldl_append]; rfl
theorem rowsFold_take' {rs : List (Int × Int)} {i : Nat} {r : Int × Int} (h : rs[i]? = some r) {a b c : Int} (e : (a, b, c) = rowsFold (rs.take i)) : (addZ 4 a r.1 r.2, addZ 0 b r.1 r.2, addZ 9 c r.1 r.2) = rowsFold (rs.take (i + 1)) := by
  rw [rowsFold_take h, ← e]; rfl
section
local macro_rules | `(tactic| k_ne) => `(tactic| first | assumption | (refine Ne.symm ?_; assumption) | exact AllAp.ne (by assumption) (by k_memK) | exact (AllAp.ne (by assumption) (by k_memK)).symm)
local macro_rules | `(tactic| k_all) => `(tactic| assumption)
local macro_rules | `(tactic| walk_at $s:str) => `(tactic| k_extra $s)
set_option maxHeartbeats 4000000 in
theorem law_digest_spec {w : World} {mg mb : Str → Option Value} {A : Around} {E : Value → Shared → Prop} {Q : Value → Shared → Prop} {s : Shared} {R : Addr} {vs : List Value} {rs : List (Int × Int)} (lo : Low A 220)
  (on : On w mg mb [] s.heap) (hR : s.heap.IsList R vs.toArray) (hp : PairsAt s.heap vs rs)
  (ret : ∀ D dx rl tk a b c t0 t1 t2 h' tk', (a, b, c) = rowsFold rs → Has h' (dgL w D dx rl tk a t0 b t1 c t2) → s.heap.get? D = none → s.heap.get? dx = none → s.heap.get? rl = none → Same [] s.heap h' → Q (.ref D) { s with heap := h', toks := tk' }) :
  wpAny (model Pg w) A (call (.ref 174) [.ref R]) Q E s := by
  refine wpAny_low lo ?_
  have Ct := on.cx
  have X := Ct.K
  have T := Ct.T
  k_dflt (refine' enterK (K := Mine.hd.heap_39 w.params) [] X T.nolimit ?k6 ?k7 ?k8 ?k9 ?kB ?kN ?_ ?c2 ?c3 ?c4 ?c5; (case k6 => k_is); (case k7 => k_is); (case k8 => k_room); (case k9 => exact BindsTo.of_eq rfl); (case c5 => decide); (case kB => exact locs rfl); (case c2 => exact rfl); (case c3 => exact rfl); (case c4 => exact rfl); (case kN => exact has_nil); k_whole; intro g' L' h' hg' hL' F' N'; (try dsimp only))
  have Cg := on.hide; rw [show ([] : List Addr) = ([] : List (Addr × Obj)).map (·.1) from rfl, ← hg'] at Cg
  have Xg := Cg.K
  have Tg := Cg.T
  clear Ct X T
  have eg : g' = s.heap := hg'
  subst eg
  k_with_none
  k_with "call ref" => (k_dflt (refine' digest_new ?lo ?c ?F ?N ?_; (case lo => exact ⟨rfl, rfl, Nat.le_of_ble_eq_true rfl, Nat.le_of_ble_eq_true rfl⟩); (case c => assumption); (case F => k_asm); (case N => k_asm); k_whole; intro D dx rl tk t0 t1 t2 h1 tk1 F' N' a1 a2 a3; (try k_sweep)))
  k_with "call ref" => (k_dflt (refine' add_range_call ?lo ?c ?F ?N ?h1 ?h2 ?h3 ?_; (case lo => exact ⟨rfl, rfl, Nat.le_of_ble_eq_true rfl, Nat.le_of_ble_eq_true rfl⟩); (case c => assumption); (case F => k_asm); (case N => k_asm); (case h1 => k_mem); (case h2 => k_mem); (case h3 => k_mem); k_whole; intro t0' t1' t2' h' tk' F' nn'; (have N' := nn' _ (by k_upd)); clear nn'; (try k_sweep)))
  k_with "exec For Tuple Name cons nil" => (refine For_invT s.heap ?_ (fun _ => rfl))
  k_with "pyIter ref" => (
    rename Fr _ _ _ _ => lF
    rename News _ _ _ _ => lN
    refine loop_list (vs := vs) (σ := (Tok × Tok × Tok) × (Int × Int × Int)) (fun c => [(rl, dgRows c.2.1 c.1.1 c.2.2.1 c.1.2.1 c.2.2.2 c.1.2.2), (D, instObj 137 dx), (dx, dgDict w rl tk)]) [rl, D, dx] [] [Str.ofString "first", Str.ofString "last"] (fun i c gr => c.2 = rowsFold (rs.take i) ∧ gr = []) ((t0, t1, t2), (0, 0, 0)) rfl (hR.at fun o e => lF.keep _ _ e) (.inl ⟨_, hR.choose_spec.1⟩) lF lN (fun _ => rfl) (fun _ h => nomatch h) ⟨rfl, rfl⟩ ?_ ?_
    rotate_left
    rintro ⟨⟨t0, t1, t2⟩, ⟨a, b, c⟩⟩ gr u h tk9 ⟨hI, rfl⟩ _ F' N'
    clear lF lN
    dsimp only [List.cons_append, List.nil_append] at N'
    try dsimp only
    (first | (refine letT ?_; intro te) | (try k_fold))
    rotate_left
    intro i v cc1 gr u s₁ rest hv cc2 _ _ hrest F' N'
    refine letT ?_
    intro te
    obtain ⟨⟨t0, t1, t2⟩, ⟨a, b, c⟩⟩ := cc1
    obtain ⟨hI, rfl⟩ := cc2
    obtain ⟨r, hr, p, u1, u2, rfl, ht⟩ := hp.2 i v hv
    dsimp only [List.cons_append, List.nil_append] at N'
    dsimp only at hI
    have hn1 : ∀ p ∈ rest, p.1 ≠ rl := fun p hp e => hrest p hp (e ▸ .head _)
    clear lF lN
    try dsimp only
    (first | (refine letT ?_; intro te) | (try k_fold)))
  all_goals (try k_fold)
  k_steps
  · exact TurnEndG.intro ((t0', t1', t2'), (_, _, _)) [] F' N' (fun _ h => nomatch h) (fun _ h => nomatch h) (fun z hz => by (repeat (first | with_reducible exact rfl | refine ov_if rfl hz ?_ | refine ov_sub rfl hz ?_))) ⟨rowsFold_take' hr hI, rfl⟩
  · dsimp only at hI
    rw [hp.1, List.take_length] at hI
    refine ret D dx rl tk a b c t0 t1 t2 h tk9 hI (fun p hp => (N' p ((sub_cons (.tail _ (.head _)) (sub_cons (.tail _ (.tail _ (.head _))) (sub_cons (.head _) sub_nil)) : ∀ p ∈ dgL w D dx rl tk a t0 b t1 c t2, p ∈ _) p hp)).1) (N' _ (.tail _ (.head _))).2.2 (N' _ (.tail _ (.tail _ (.head _)))).2.2 (N' _ (.head _)).2.2 (Same.of_fr F' hg')
end
end Mine

-- Rg
theorem Mine.noneRg : True := by
  k_with_none
  exact trivial
namespace Mine
section
local macro_rules | `(tactic| k_ne) => `(tactic| first | assumption | (refine Ne.symm ?_; assumption) | exact AllAp.ne (by assumption) (by k_memK) | exact (AllAp.ne (by assumption) (by k_memK)).symm)
local macro_rules | `(tactic| k_all) => `(tactic| assumption)
local macro_rules | `(tactic| walk_at $s:str) => `(tactic| k_extra $s)
set_option maxHeartbeats 4000000 in
theorem ranges_of_spec {w : World} {mg mb : Str → Option Value} {A : Around} {E : Value → Shared → Prop} {Q : Value → Shared → Prop} {s : Shared} {T : Addr} {vs : List Value} {ns : List Int} (lo : Low A 240)
  (on : On w mg mb [] s.heap) (hT : s.heap.IsTuple T vs.toArray) (hi : IntsAre vs ns) (hlen : ns.length ≤ 5000)
  (ret : ∀ R us nn gr h' tk', PairsIn gr us (runsZ ns) → Has h' ((R, listOf us.toArray nn) :: gr) → (∀ p ∈ (R, listOf us.toArray nn) :: gr, s.heap.get? p.1 = none) → (∀ p ∈ gr, p.1 ≠ R) → Same [] s.heap h' → Q (.ref R) { s with heap := h', toks := tk' }) :
  wpAny (model Pg w) A (call (.ref 78) [.ref T]) Q E s := by
  refine wpAny_low lo ?_
  have Ct := on.cx
  have X := Ct.K
  have T := Ct.T
  k_dflt (refine' enterK (K := Mine.hd.heap_39 w.params) [] X T.nolimit ?k6 ?k7 ?k8 ?k9 ?kB ?kN ?_ ?c2 ?c3 ?c4 ?c5; (case k6 => k_is); (case k7 => k_is); (case k8 => k_room); (case k9 => exact BindsTo.of_eq rfl); (case c5 => decide); (case kB => exact locs rfl); (case c2 => exact rfl); (case c3 => exact rfl); (case c4 => exact rfl); (case kN => exact has_nil); k_whole; intro g' L' h' hg' hL' F' N'; (try dsimp only))
  have Cg := on.hide; rw [show ([] : List Addr) = ([] : List (Addr × Obj)).map (·.1) from rfl, ← hg'] at Cg
  have Xg := Cg.K
  have Tg := Cg.T
  clear Ct X T
  have eg : g' = s.heap := hg'
  subst eg
  k_with_none
  k_with "exec For Name Name cons nil" => (refine For_invT s.heap ?_ (fun _ => rfl))
  k_with "truthy ref" => (k_dflt (refine' truthy_nil (by k_asm) (by k_mem) ?_))
  k_with "truthy ref" => (k_dflt (refine' truthy_snoc (by k_asm) (by k_mem) (by omega) ?_))
  k_with "subscriptTail Name UnaryOp ref int" => (k_dflt (refine' last_led (by k_asm) (by k_mem) ?_))
  k_with "subscriptTail Subscript Name UnaryOp Constant ref int" => (k_dflt (refine' item_tupleT ?t ?a ?b ?c ?d ?_; (case t => exact News.isTup (by k_asm) (List.mem_cons_of_mem _ hmr)); (case a => decide); (case b => decide); (case c => rfl); (case d => rfl)))
  k_with "setItem ref int ref" => (k_dflt (refine' setlast_led (by k_asm) (by k_asm) ?U ?_; (case U => k_upd); intro h' F' N'; (try k_sweep)))
  k_with "pyIter ref" => (
    rename Fr _ _ _ _ => lF
    rename News _ _ _ [(_, listOf _ _)] => lN
    refine loop_tuple (σ := List Value × Nat) (fun c => [(_, listOf c.1.toArray c.2)]) [_] [] [Str.ofString "glyph"] (fun i c gr => PairsIn gr c.1 (runsZ (ns.take i)) ∧ c.1.length ≤ i) ([], 0) rfl (tuple_keeps hT lF.keep) (.inl (tuple_some hT)) lF lN (fun _ => rfl) (fun _ h => nomatch h) ⟨.nil, Nat.le_refl _⟩ ?_ ?_
    rotate_left
    rintro ⟨us, nn⟩ gr u h tk9 ⟨hI, hI2⟩ hga F' N'
    clear lF lN
    simp only [List.cons_append, List.nil_append, List.append_nil] at N'
    try dsimp only
    (first | (refine letT ?_; intro te) | (try k_fold))
    rotate_left
    intro i v cc1 gr u s₁ rest hv cc2 hgr _ hrest F' N'
    refine letT ?_
    intro te
    obtain ⟨us, nn⟩ := cc1
    obtain ⟨hI, hI2⟩ := cc2
    have hil : i < ns.length := by
      rw [← hi.length]; exact (List.getElem?_eq_some_iff.mp hv).1
    obtain ⟨t, hx⟩ := hi.get i (ns[i]'hil) (List.getElem?_eq_getElem hil)
    rw [hx] at hv; cases hv
    have hng : ns[i]? = some (ns[i]'hil) := List.getElem?_eq_getElem hil
    revert hng; generalize ns[i]'hil = g; intro hng
    dsimp only [List.cons_append, List.nil_append] at N'
    try dsimp only at hI hI2
    have hn1 : ∀ p ∈ rest, p.1 ≠ _ := fun p hp e => hrest p hp (e ▸ .head _)
    clear lF lN
    generalize hrs : runsZ (ns.take i) = rs at hI
    rcases hI with _ | @⟨us, rs, p, a, b, t5, u5, hI, hm⟩
    rotate_left
    have hmr := hgr _ hm
    rw [List.length_append, List.length_singleton] at hI2
    all_goals try dsimp only
    all_goals (first | (refine letT ?_; intro te) | (try k_fold)))
  all_goals (try k_fold)
  k_steps
  · rename Fr _ _ _ _ => FF
    rename News _ _ _ _ => NN
    rename _ ∧ AllLt _ _ => lt
    rename b + 1 = g => hc
    refine TurnEndG.intro (_, _) [_] FF (News.swap NN) (by
      intro p9 hp9 hq9
      rw [List.mem_singleton.mp hp9] at hq9
      exact Nat.ne_of_gt lt.1 (List.mem_singleton.mp hq9)) (by
      intro p9 hp9 q9 hq9
      rw [List.mem_singleton.mp hp9]
      exact Nat.ne_of_lt (kst_ltOf lt.2 q9 hq9)) (fun z hz => by (repeat (first | with_reducible exact rfl | refine ov_if rfl hz ?_ | refine ov_sub rfl hz ?_))) ⟨?_, ?_⟩
    · rw [runsZ_take hng, hrs, runStep_snoc, if_pos hc]
      exact .snoc (hI.mono fun p hp => List.mem_append_right _ hp) (List.mem_append_left _ (.head _))
    · dsimp only
      rw [List.length_append, List.length_singleton]; omega
  · rename Fr _ _ _ _ => FF
    rename News _ _ _ _ => NN
    rename _ ∧ AllLt _ _ => lt
    rename ¬ b + 1 = g => hc
    simp only [List.push_toArray] at NN
    refine TurnEndG.intro (_, _) [_] FF (News.swap NN) (by
      intro p9 hp9 hq9
      rw [List.mem_singleton.mp hp9] at hq9
      exact Nat.ne_of_gt lt.1 (List.mem_singleton.mp hq9)) (by
      intro p9 hp9 q9 hq9
      rw [List.mem_singleton.mp hp9]
      exact Nat.ne_of_lt (kst_ltOf lt.2 q9 hq9)) (fun z hz => by (repeat (first | with_reducible exact rfl | refine ov_if rfl hz ?_ | refine ov_sub rfl hz ?_))) ⟨?_, ?_⟩
    · rw [runsZ_take hng, hrs, runStep_snoc, if_neg hc]
      exact .snoc (.snoc (hI.mono fun p hp => List.mem_append_right _ hp) (List.mem_append_right _ hm)) (List.mem_append_left _ (.head _))
    · dsimp only
      rw [List.length_append, List.length_append, List.length_singleton, List.length_singleton]; omega
  · dsimp only at hI
    rw [hi.length, List.take_length] at hI
    refine ret _ us nn gr h tk9 hI (fun p hp => (N' p hp).1) (fun p hp => (N' p hp).2.2) (fun p hp e => hga p hp (e ▸ .head _)) (Same.of_fr F' hg')
  · rename Fr _ _ _ _ => FF
    rename News _ _ _ _ => NN
    rename _ ∧ AllLt _ _ => lt
    simp only [List.push_toArray] at NN
    refine TurnEndG.intro (_, _) [_] FF (News.swap NN) (by
      intro p9 hp9 hq9
      rw [List.mem_singleton.mp hp9] at hq9
      exact Nat.ne_of_gt lt.1 (List.mem_singleton.mp hq9)) (by
      intro p9 hp9 q9 hq9
      rw [List.mem_singleton.mp hp9]
      exact Nat.ne_of_lt (kst_ltOf lt.2 q9 hq9)) (fun z hz => by (repeat (first | with_reducible exact rfl | refine ov_if rfl hz ?_ | refine ov_sub rfl hz ?_))) ⟨?_, ?_⟩
    · rw [runsZ_take hng, hrs, runStep_nil]
      exact .snoc .nil (List.mem_append_left _ (.head _))
    · dsimp only
      rw [List.length_append, List.length_singleton, List.length_nil]; omega
end
end Mine

-- Lb
theorem Mine.noneLb : True := by
  k_with_none
  exact trivial
namespace Mine
section
local macro_rules | `(tactic| k_ne) => `(tactic| first | assumption | (refine Ne.symm ?_; assumption) | exact AllAp.ne (by assumption) (by k_memK) | exact (AllAp.ne (by assumption) (by k_memK)).symm)
local macro_rules | `(tactic| k_all) => `(tactic| assumption)
local macro_rules | `(tactic| walk_at $s:str) => `(tactic| k_extra $s)
set_option maxHeartbeats 4000000 in
theorem law_bits_spec {w : World} {mg mb : Str → Option Value} {A : Around} {E : Value → Shared → Prop} {Q : Value → Shared → Prop} {s : Shared} {R : Addr} {vs : List Value} {rs : List (Int × Int)} {sh : Int} {t1 : Tok} (lo : Low A 240)
  (on : On w mg mb [] s.heap) (hR : s.heap.IsList R vs.toArray) (hp : PairsAt s.heap vs rs) (hb : ∀ r ∈ rs, InBnd r) (hlen : rs.length ≤ 100) (hs0 : 0 ≤ sh) (hs1 : sh ≤ 60)
  (ret : ∀ t h' tk', Same [] s.heap h' → Q (.int ((bitKeys sh rs).map fun k => 1 * 2 ^ k.toNat).sum t) { s with heap := h', toks := tk' }) :
  wpAny (model Pg w) A (call (.ref 167) [.ref R, .int sh t1]) Q E s := by
  refine wpAny_low lo ?_
  have Ct := on.cx
  have X := Ct.K
  have T := Ct.T
  k_dflt (refine' enterK (K := Mine.hd.heap_39 w.params) [] X T.nolimit ?k6 ?k7 ?k8 ?k9 ?kB ?kN ?_ ?c2 ?c3 ?c4 ?c5; (case k6 => k_is); (case k7 => k_is); (case k8 => k_room); (case k9 => exact BindsTo.of_eq rfl); (case c5 => decide); (case kB => exact locs rfl); (case c2 => exact rfl); (case c3 => exact rfl); (case c4 => exact rfl); (case kN => exact has_nil); k_whole; intro g' L' h' hg' hL' F' N'; (try dsimp only))
  have Cg := on.hide; rw [show ([] : List Addr) = ([] : List (Addr × Obj)).map (·.1) from rfl, ← hg'] at Cg
  have Xg := Cg.K
  have Tg := Cg.T
  clear Ct X T
  have eg : g' = s.heap := hg'
  subst eg
  k_with_none
  k_with "eval Dict nil nil" => (k_dflt (refine' newDict_K ?k1 ?k2 (TopRead.nolimit (by k_asm)) ?_; (case k1 => k_asm); (case k2 => k_asm); k_whole); intro d h1 o F' N' l1 lo1 hs1 fs1 hi1 fi1; clear hs1 fs1; (try k_sweep))
  k_with "exec For Tuple Name cons nil" => (refine For_invT s.heap ?_ (fun _ => rfl))
  k_with "exec For Name Call cons nil" => (refine For_invT s.heap ?_ (fun _ => rfl))
  k_with "setItem ref int bool" => (k_dflt (refine' key_set ?F ?N ?U (by assumption) (by assumption) (by omega) ?_; (case F => k_asm); (case N => k_asm); (case U => k_updF)); intro h' o' kvs' F' N' hd' hf'; (try dsimp only at N'); (try k_sweep))
  k_with "pyIter ref" => (
    rename IsRange _ _ _ _ _ _ _ _ => rgX
    rename Fr _ _ _ _ => lF
    rename News _ _ _ _ => lN
    refine loop_range (σ := Obj × List (Int × Value) × List Int) (fun c => [(d, c.1)]) [d] rest [Str.ofString "number"] (fun i c gr => c.1.IsDictOf (PySem.intKind Pg w) c.2.1 ∧ PyProof.V.FlatPairs PyData.int c.2.1 (trueD c.2.2) ∧ c.2.2 = putAll ks (r.1.fdiv (2 ^ sh.toNat)) i ∧ gr = []) (oo, kvs, ks) rfl rgX (small_of (by omega) (by omega) (by omega) (by omega)) (rangeSize_nat _ _) lF lN (fun _ => rfl) (fun p hp hq => hrest p hp hq) ⟨hI1, hI2, rfl, rfl⟩ ?_ ?_
    rotate_left
    rintro ⟨o2, kvs2, ks2⟩ gr2 u2 h tk9 ⟨hJ1, hJ2, hJ3, rfl⟩ hga2 F' N'
    clear lF lN
    dsimp only [List.cons_append, List.nil_append] at N'
    dsimp only at hJ1 hJ2 hJ3
    try dsimp only
    (first | (refine letT ?_; intro te) | (try k_fold))
    rotate_left
    intro i2 t9 cc1 gr2 u2 s₂ rest2 hi2 cc2 hgr2 hrr hrest2 F' N'
    refine letT ?_
    intro te
    obtain ⟨o2, kvs2, ks2⟩ := cc1
    obtain ⟨hJ1, hJ2, hJ3, rfl⟩ := cc2
    dsimp only [List.cons_append, List.nil_append] at N'
    dsimp only at hJ1 hJ2 hJ3
    have hn2 : ∀ p ∈ rest2, p.1 ≠ d := fun p hp e => hrest2 p hp (e ▸ .head _)
    have hl2 := putAll_len ks (r.1.fdiv (2 ^ sh.toNat)) i2
    rw [← hJ3] at hl2
    clear lF lN rgX
    try dsimp only
    (first | (refine letT ?_; intro te) | (try k_fold)))
  k_with "pyIter ref" => (
    rename Fr _ _ _ _ => lF
    rename News _ _ _ _ => lN
    refine loop_list (σ := Obj × List (Int × Value) × List Int) (fun c => [(d, c.1)]) [d] [] [Str.ofString "first", Str.ofString "last", Str.ofString "number"] (fun i c gr => c.1.IsDictOf (PySem.intKind Pg w) c.2.1 ∧ PyProof.V.FlatPairs PyData.int c.2.1 (trueD c.2.2) ∧ c.2.2 = bitKeys sh (rs.take i) ∧ c.2.2.length ≤ i * 70) (o, [], []) rfl (list_keeps hR lF.keep) (.inl (list_some hR)) lF lN (fun _ => rfl) (fun _ h => nomatch h) ⟨hi1, fi1, rfl, Nat.le_refl _⟩ ?_ ?_
    rotate_left
    rintro ⟨oo, kvs, ks⟩ gr u h tk9 ⟨hI1, hI2, hI3, hI4⟩ hga F' N'
    clear lF lN
    simp only [List.cons_append, List.nil_append, List.append_nil] at N'
    dsimp only at hI1 hI2 hI3 hI4
    have hvl := hp.1
    try dsimp only
    (first | (refine letT ?_; intro te) | (try k_fold))
    rotate_left
    intro i v cc1 gr u s₁ rest hv cc2 hgr _ hrest F' N'
    refine letT ?_
    intro te
    obtain ⟨oo, kvs, ks⟩ := cc1
    obtain ⟨hI1, hI2, hI3, hI4⟩ := cc2
    obtain ⟨r, hr, p, u1, u2, rfl, ht⟩ := hp.2 i v hv
    obtain ⟨b1, b2, b3, b4⟩ := hb r (List.mem_of_getElem? hr)
    obtain ⟨q1, q2⟩ := fdiv_bnd sh.toNat b1
    obtain ⟨q3, q4⟩ := fdiv_bnd sh.toNat (Int.le_trans b1 b2)
    have q5 := fdiv_mono sh.toNat b2
    have q6 := fdiv_gap sh.toNat b2
    have hil : i < rs.length := (List.getElem?_eq_some_iff.mp hr).1
    dsimp only [List.cons_append, List.nil_append] at N'
    dsimp only at hI1 hI2 hI3 hI4
    have hn1 : ∀ p ∈ rest, p.1 ≠ d := fun p hp e => hrest p hp (e ▸ .head _)
    clear lF lN
    try dsimp only
    (first | (refine letT ?_; intro te) | (try k_fold)))
  k_with "pyIter ref" => (
    rename Fr _ _ _ _ => lF
    rename News _ _ _ _ => lN
    refine compDict (ks := ks) (fun k => 1 * 2 ^ k.toNat) rfl lo1 lF lN (.head _) hI1 hI2 (by omega) ?_ ?_
    rotate_left
    intro D c2 h2 tk2 us F' N' aD iD
    clear lF lN
    try dsimp only
    (first | (refine letT ?_; intro te) | (try k_fold))
    rotate_left
    intro C n t s₃ m₃ E' hn hN hm
    have hbd := bitKeys_bnd sh (rs.take vs.length) n (hI3 ▸ hn)
    refine wpAny_BinOp ?_
    walk1
    refine wpAny_Name (wpAny_loadName_local rfl rfl hN hm ?_) (by decide)
    refine lshift_int_small (by omega) (by omega) (by decide) ?_
    exact ⟨⟨_, rfl⟩, _, _, rfl, fun _ _ e => e⟩)
  all_goals (try k_fold)
  k_steps
  all_goals (try dsimp only)
  · rename Fr _ _ _ _ => FF
    rename News _ _ _ _ => NN
    rename Obj.IsDictOf _ _ _ => hd9
    rename PyProof.V.FlatPairs _ _ _ => hf9
    refine TurnEndG.intro (_, _, keyPut ks2 ((r.1.fdiv (2 ^ sh.toNat) + (i2 : Int)).fmod 64)) [] FF NN (fun _ h => nomatch h) (fun _ h => nomatch h) (fun z hz => by (repeat (first | with_reducible exact rfl | refine ov_if rfl hz ?_ | refine ov_sub rfl hz ?_))) ⟨hd9, hf9, ?_, rfl⟩
    dsimp only
    rw [hJ3, putAll_succ]
  · refine TurnEndG.intro (o2, kvs2, ks2) [] F' N' (fun _ h => nomatch h) (fun _ h => nomatch h) (fun z hz => by (repeat (first | with_reducible exact rfl | refine ov_if rfl hz ?_ | refine ov_sub rfl hz ?_))) ⟨hJ1, hJ2, ?_, ?_⟩
    · dsimp only
      rw [hJ3, bitKeys_take hr, hI3]
    · dsimp only
      rw [hJ3]
      have := putAll_len ks (r.1.fdiv (2 ^ sh.toNat)) (r.2.fdiv (2 ^ sh.toNat) + 1 - r.1.fdiv (2 ^ sh.toNat)).toNat
      omega
  · rename Fr _ _ _ _ => FF
    rw [hvl, List.take_length] at hI3
    rw [hI3]
    exact ret _ _ _ (Same.of_fr FF hg')
end
end Mine

-- Lr
theorem Mine.noneLr : True := by
  k_with_none
  exact trivial
namespace Mine
noncomputable abbrev penO (C : Addr) (seat : Int) (t1 : Tok) (rest : Int) (t2 : Tok) (n : Nat) : Obj := listOf #[.ref C, .int seat t1, .int rest t2] n
/-- what the pen's first item is: a list of at most forty ints, and it stays -/
structure Cells (h : Heap) (C : Addr) (cvs : List Value) (cns : List Int) : Prop where
  lst : h.IsList C cvs.toArray
  nums : IntsAre cvs cns
  short : cns.length ≤ 40
theorem Cells.keeps {h h' : Heap} {C : Addr} {cvs : List Value} {cns : List Int} (c : Cells h C cvs cns) (k : ∀ b o, h.get? b = some o → h'.get? b = some o) : Cells h' C cvs cns := ⟨list_keeps c.lst k, c.nums, c.short⟩
theorem draw_call {w : World} {mg mb : Str → Option Value} {A : Around} {E : Value → Shared → Prop} {Q : Value → Shared → Prop} {s : Shared} {h₀ : Heap} {L : Addr} {m : Str → Option Value} {news : List (Addr × Obj)} {P C : Addr} {cvs : List Value} {cns : List Int} {seat rest0 : Int} {t1 t2 : Tok} {n : Nat} {many : Int} {t3 : Tok} (lo : Low A 250)
  (c : Cx w mg mb h₀) (F : Fr h₀ L s.heap m) (N : News h₀ L s.heap news) (hP : (P, penO C seat t1 rest0 t2 n) ∈ news) (hC : Cells s.heap C cvs cns)
  (hs0 : 0 ≤ seat) (hs1 : seat ≤ 1000) (hr : 0 ≤ rest0) (hm : 1 ≤ many) (hm2 : many ≤ 60000)
  (ret : ∀ d t seat' rest' t1' t2' h' tk, 0 ≤ d → d < many → 0 ≤ seat' → seat' ≤ seat + 1 → 0 ≤ rest' → Fr h₀ L h' m → Same [P] s.heap h' → (∀ news', Upd P (penO C seat t1 rest0 t2 n) (penO C seat' t1' rest' t2' n) news news' → News h₀ L h' news') → Q (.int d t) { s with heap := h', toks := tk }) :
  wpAny (model Pg w) A (call (.ref 155) [.ref P, .int many t3]) Q E s := by
  have hP' := (N _ hP).1
  have hPC : P ≠ C := fun e => by
    obtain ⟨o, ho, _, k, hd⟩ := hC.lst
    rw [e, ho] at hP'
    cases hP'
    have hl := hC.nums.length
    injection hd with hd _
    have hv : cvs = [.ref C, .int seat t1, .int rest0 t2] := ((Array.toList_inj.mpr hd.symm : cvs.toArray.toList = _))
    obtain ⟨m1, t9, e9⟩ := IntsAre.all hC.nums (.ref C) (by rw [hv]; exact .head _)
    cases e9
  refine draw_spec lo (On.of c F N fun a ha => by cases List.mem_singleton.mp ha; exact ⟨_, hP⟩) hP' hC.lst hC.nums hPC hC.short hs0 hs1 hr hm hm2 fun d t seat' rest' t1' t2' h' tk a1 a2 a3 a4 a5 e S => ?_
  exact ret d t seat' rest' t1' t2' h' tk a1 a2 a3 a4 a5 (Fr.same1 F N hP S) S fun news' U => News.upd1 N S U e
theorem getD_bnd {ns : List Int} {i : Nat} {lo hi : Int} (h : ∀ x ∈ ns, lo ≤ x ∧ x ≤ hi) (h0 : lo ≤ 0) (h1 : 0 ≤ hi) : lo ≤ ns.getD i 0 ∧ ns.getD i 0 ≤ hi := by
  rw [List.getD_eq_getElem?_getD]
  cases e : ns[i]? with
  | none => exact ⟨h0, h1⟩
  | some x => exact h x (List.mem_of_getElem? e)
theorem lr_turn {σ₁ : Shared} {h₀ h' : Heap} {L R P C T l1 l2 : Addr} {gr rest : List (Addr × Obj)} {S : List Str} {m₀ m' : Str → Option Value} {tk i nn' n : Nat} {rs : List (Int × Int)} {us us' : List Value} {o1 o2 : Obj} {a b sq rq seat : Int} {t u tq uq : Tok}
  (FF : Fr h₀ L h' m') (NN : News h₀ L h' ((T, tup2 a t b u) :: (l1, o1) :: (l2, o2) :: (R, listOf us'.toArray nn') :: (P, penO C sq tq rq uq n) :: rest))
  (hu : us' = us ++ [.ref T]) (hT : T ∉ [R, P]) (hr : AllLt T rest) (hI4 : PairsIn gr us rs) (hI5 : ∀ r ∈ rs, InBnd r) (hI6 : rs.length ≤ i)
  (h0 : 0 ≤ a) (h1 : a ≤ b) (h2 : b ≤ 65535) (h3 : b - a ≤ 64) (s0 : 0 ≤ sq) (s1 : sq ≤ seat + 1 + 3 * ((i + 1 : Nat) : Int)) (r0 : 0 ≤ rq) (hm : ∀ z, S.contains z = false → m' z = m₀ z) :
  TurnEndG h₀ L (fun (c : (Int × Tok × Int × Tok) × (List Value × Nat) × List (Int × Int)) => [(R, listOf c.2.1.1.toArray c.2.1.2), (P, penO C c.1.1 c.1.2.1 c.1.2.2.1 c.1.2.2.2 n)]) [R, P] gr rest S m₀ (fun c gr => 0 ≤ c.1.1 ∧ c.1.1 ≤ seat + 1 + 3 * ((i + 1 : Nat) : Int) ∧ 0 ≤ c.1.2.2.1 ∧ PairsIn gr c.2.1.1 c.2.2 ∧ (∀ r ∈ c.2.2, InBnd r) ∧ c.2.2.length ≤ i + 1) σ₁ .next { σ₁ with heap := h', toks := tk } := by
  refine TurnEndG.intro ((sq, tq, rq, uq), (us', nn'), rs ++ [(a, b)]) [(T, tup2 a t b u)] FF (fun p hp => NN p ?_) (fun p hp => ?_) (fun p hp q hq e => ?_) hm ⟨s0, s1, r0, ?_, ?_, ?_⟩
  · simp only [List.cons_append, List.nil_append, List.mem_cons] at hp ⊢
    rcases hp with h | h | h | h <;> simp [h]
  · cases List.mem_singleton.mp hp; exact hT
  · cases List.mem_singleton.mp hp
    exact absurd (kst_ltOf hr q hq) (by rw [show q.1 = T from e]; exact Nat.lt_irrefl _)
  · dsimp only
    rw [hu]
    exact .snoc (hI4.mono fun p hp => List.mem_append_right _ hp) (List.mem_append_left _ (.head _))
  · intro r hr
    rcases List.mem_append.mp hr with h | h
    · exact hI5 r h
    · cases List.mem_singleton.mp h; exact ⟨h0, h1, h2, h3⟩
  · simp; exact hI6
section
local macro_rules | `(tactic| k_ne) => `(tactic| first | assumption | (refine Ne.symm ?_; assumption) | exact AllAp.ne (by assumption) (by k_memK) | exact (AllAp.ne (by assumption) (by k_memK)).symm)
local macro_rules | `(tactic| k_all) => `(tactic| assumption)
local macro_rules | `(tactic| walk_at $s:str) => `(tactic| k_extra $s)
set_option maxHeartbeats 8000000 in
theorem law_ranges_spec {w : World} {mg mb : Str → Option Value} {A : Around} {E : Value → Shared → Prop} {Q : Value → Shared → Prop} {s : Shared} {P C : Addr} {cvs : List Value} {cns : List Int} {seat rest0 : Int} {t1 t2 : Tok} {n : Nat} (lo : Low A 240)
  (on : On w mg mb [P] s.heap) (hP : s.heap.get? P = some (penO C seat t1 rest0 t2 n)) (hC : Cells s.heap C cvs cns)
  (hs0 : 0 ≤ seat) (hs1 : seat ≤ 500) (hr : 0 ≤ rest0)
  (ret : ∀ R us nn gr rs seat' rest' t1' t2' h' tk', PairsIn gr us rs → (∀ r ∈ rs, InBnd r) → rs.length ≤ 6 → 0 ≤ seat' → seat' ≤ seat + 20 → 0 ≤ rest' → h'.get? P = some (penO C seat' t1' rest' t2' n) → Has h' ((R, listOf us.toArray nn) :: gr) → (∀ p ∈ (R, listOf us.toArray nn) :: gr, s.heap.get? p.1 = none) → (∀ p ∈ gr, p.1 ≠ R) → Same [P] s.heap h' → Q (.ref R) { s with heap := h', toks := tk' }) :
  wpAny (model Pg w) A (call (.ref 162) [.ref P]) Q E s := by
  refine wpAny_low lo ?_
  have Ct := on.cx
  have X := Ct.K
  have T := Ct.T
  k_dflt (refine' enterK (K := Mine.hd.heap_39 w.params) [(P, penO C seat t1 rest0 t2 n)] X T.nolimit ?k6 ?k7 ?k8 ?k9 ?kB ?kN ?_ ?c2 ?c3 ?c4 ?c5; (case k6 => k_is); (case k7 => k_is); (case k8 => k_room); (case k9 => exact BindsTo.of_eq rfl); (case c5 => decide); (case kB => exact locs rfl); (case c2 => exact rfl); (case c3 => exact rfl); (case c4 => exact rfl); (case kN => exact has_one hP); k_whole; intro g' L' h' hg' hL' F' N'; (try dsimp only))
  have Cg := on.hide; rw [show ([P] : List Addr) = ([(P, penO C seat t1 rest0 t2 n)] : List (Addr × Obj)).map (·.1) from rfl, ← hg'] at Cg
  have Xg := Cg.K
  have Tg := Cg.T
  have hCg : Cells g' C cvs cns := by
    obtain ⟨o, ho, r⟩ := hC.lst
    refine ⟨⟨o, ?_, r⟩, hC.nums, hC.short⟩
    rw [hg']
    refine hideAll_get _ ho fun hm => ?_
    have e : C = P := List.mem_singleton.mp hm
    rw [e, hP] at ho
    cases ho
    obtain ⟨_, k, hd⟩ := r
    injection hd with hd _
    have hv : cvs = [.ref C, .int seat t1, .int rest0 t2] := ((Array.toList_inj.mpr hd.symm : cvs.toArray.toList = _))
    obtain ⟨m1, t9, e9⟩ := IntsAre.all hC.nums (.ref C) (by rw [hv]; exact .head _)
    cases e9
  clear Ct X T
  k_with_none
  k_with "call ref" => (k_dflt (refine' draw_call (cvs := cvs) (cns := cns) ?lo ?c ?F ?N ?h1 ?hC ?h3 ?h4 ?h5 ?h6 ?h7 ?_; (case lo => exact ⟨rfl, rfl, Nat.le_of_ble_eq_true rfl, Nat.le_of_ble_eq_true rfl⟩); (case c => assumption); (case F => k_asm); (case N => k_asm); (case h1 => k_mem); (case hC => exact hCg.keeps (Fr.keep (by assumption))); (case h3 => first | assumption | omega); (case h4 => omega); (case h5 => first | assumption | omega); (case h6 => first | decide | omega); (case h7 => first | decide | omega); k_whole; intro d7 t7 seat7 rest7 t17 t27 h7 tk7 hd0 hd1 hse0 hse1 hre0 F' S7 nn'; (have N' := nn' _ (by k_upd)); clear nn' S7; (have hmA := getD_bnd (ns := [0, 62, 64, 500, 1022, 65400]) (i := Int.toNat d7) (lo := 0) (hi := 65400) (by decide) (by decide) (by decide)); (have hmB := getD_bnd (ns := [0, 1, 5, 62, 63, 64, 20]) (i := Int.toNat d7) (lo := 0) (hi := 64) (by decide) (by decide) (by decide)); (try k_sweep)))
  k_with "newTuple cons int cons" => (k_dflt (refine' kup_newTuple ?F ?N ?_ ?z; (case F => k_asm); (case N => k_asm); (case z => kmk_size)); intro T' h' F' N' l1; (have lT := l1); k_lt lT; (try k_sweep))
  k_with "newList nil" => (k_dflt (refine' newList_K ?k1 ?k2 ?_; (case k1 => k_asm); (case k2 => k_asm); k_whole); intro R h' F' N' l1; (have hPR := l1); k_lt hPR; (try k_sweep))
  k_with "exec For Name Call cons nil" => (refine For_invT g' ?_ (fun _ => rfl))
  k_with "pyIter ref" => (
    rename IsRange _ _ _ _ _ _ _ _ => rgX
    rename Fr _ _ _ _ => lF
    rename News _ _ _ _ => lN
    refine loop_range (σ := (Int × Tok × Int × Tok) × (List Value × Nat) × List (Int × Int)) (fun c => [(R, listOf c.2.1.1.toArray c.2.1.2), (P, penO C c.1.1 c.1.2.1 c.1.2.2.1 c.1.2.2.2 n)]) [R, P] [] [Str.ofString "lap", Str.ofString "first", Str.ofString "size"] (fun i c gr => 0 ≤ c.1.1 ∧ c.1.1 ≤ seat + 1 + 3 * (i : Int) ∧ 0 ≤ c.1.2.2.1 ∧ PairsIn gr c.2.1.1 c.2.2 ∧ (∀ r ∈ c.2.2, InBnd r) ∧ c.2.2.length ≤ i) ((seat7, t17, rest7, t27), ([], 0), []) rfl rgX (small_of (by omega) (by omega) (by omega) (by omega)) (rangeSize_nat _ _) lF lN (fun _ => rfl) (fun _ h => nomatch h) ⟨by omega, by show seat7 ≤ seat + 1 + 3 * ((0 : Nat) : Int); omega, by omega, .nil, (fun _ h => nomatch h), Nat.le_refl _⟩ ?_ ?_
    rotate_left
    rintro ⟨⟨sq, tq, rq, uq⟩, ⟨us, nn⟩, rs⟩ gr u h tk9 ⟨hI1, hI2, hI3, hI4, hI5, hI6⟩ hga F' N'
    clear lF lN
    simp only [List.cons_append, List.nil_append, List.append_nil] at N'
    dsimp only at hI1 hI2 hI3 hI4 hI5 hI6
    try dsimp only
    (first | (refine letT ?_; intro te) | (try k_fold))
    rotate_left
    intro i t9 cc1 gr u s₁ rest hi9 cc2 hgr _ hrest F' N'
    refine letT ?_
    intro te
    obtain ⟨⟨sq, tq, rq, uq⟩, ⟨us, nn⟩, rs⟩ := cc1
    obtain ⟨hI1, hI2, hI3, hI4, hI5, hI6⟩ := cc2
    dsimp only [List.cons_append, List.nil_append] at N'
    dsimp only at hI1 hI2 hI3 hI4 hI5 hI6
    have hn1 : ∀ p ∈ rest, p.1 ≠ R := fun p hp e => hrest p hp (e ▸ .head _)
    have hn2 : ∀ p ∈ rest, p.1 ≠ P := fun p hp e => hrest p hp (e ▸ .tail _ (.head _))
    have hul := hI4.length
    clear lF lN rgX
    try dsimp only
    (first | (refine letT ?_; intro te) | (try k_fold)))
  all_goals (try k_fold)
  k_steps
  all_goals (try dsimp only)
  · rename Fr _ _ _ _ => FF
    rename News _ _ _ _ => NN
    refine lr_turn FF NN ?e1 ?e2 ?e3 hI4 hI5 hI6 ?e4 ?e5 ?e6 ?e7 ?e8 ?e9 ?e10 (fun z hz => by (repeat (first | with_reducible exact rfl | refine ov_if rfl hz ?_ | refine ov_sub rfl hz ?_)))
    case e1 => simp
    case e2 =>
      intro h
      rcases List.mem_cons.mp h with h | h
      · exact absurd lT.2.2.1 (by rw [h]; exact Nat.lt_irrefl _)
      · exact absurd lT.2.2.2.1 (by rw [List.mem_singleton.mp h]; exact Nat.lt_irrefl _)
    case e3 => exact lT.2.2.2.2
    all_goals (try k_fold)
    case e4 => omega
    case e5 => omega
    case e6 => omega
    case e7 => omega
    case e8 => omega
    case e9 => omega
    case e10 => omega
  · rename Fr _ _ _ _ => FF
    rename News _ _ _ _ => NN
    have hfr : ∀ p ∈ (R, listOf us.toArray nn) :: gr, s.heap.get? p.1 = none := fun p hp => fresh_of NN hg' (a := p.1) (o := p.2) (by
      rcases List.mem_cons.mp hp with rfl | h
      · exact .head _
      · exact .tail _ (.tail _ h)) (by
      rcases List.mem_cons.mp hp with rfl | h
      · intro h; exact absurd hPR (by rw [show R = P from List.mem_singleton.mp h]; exact Nat.lt_irrefl _)
      · intro h2; exact hga p h (.tail _ h2))
    refine ret R us nn gr rs sq rq tq uq h _ hI4 hI5 (by omega) hI1 (by omega) hI3 (NN _ (.tail _ (.head _))).1 (fun p hp => (NN p ?_).1) hfr (fun p hp e => hga p hp (e ▸ .head _)) (Same.of_fr FF hg')
    rcases List.mem_cons.mp hp with rfl | h
    · exact .head _
    · exact .tail _ (.tail _ h)
end
end Mine

-- So1
theorem Mine.noneSo1 : True := by
  k_with_none
  exact trivial
open PySem PyProof.Rows
namespace Mine
noncomputable def gallop' : Bool → Keyed → Array Keyed → Nat → Nat → Nat → StateT SortSt Sem (Option Nat) := sortPriv% PySem.Builtin.gallop
noncomputable def setMinGallop' : Nat → StateT SortSt Sem Unit := sortPriv% PySem.Builtin.setMinGallop
noncomputable def mergeLo' : Array Keyed → Array Keyed → StateT SortSt Sem (Array Keyed) := sortPriv% PySem.Builtin.mergeLo
noncomputable def mergeHi' : Array Keyed → Array Keyed → StateT SortSt Sem (Array Keyed) := sortPriv% PySem.Builtin.mergeHi
noncomputable abbrev setGal (st : SortSt) (g : Nat) : SortSt := SortSt.mk' (kindOf st) (arrOf st) (pendingOf st) g (failedOf st)
theorem setMinGallop'_eq (g : Nat) : setMinGallop' g = modify fun s => setGal s g := rfl
noncomputable def beyond' (left : Bool) (key : Keyed) (arr : Array Keyed) (base i : Nat) : StateT SortSt Sem (Option Bool) := do
  let x ← elem' arr (base + i)
  if left then lt' x key else return (← lt' key x).map (!·)
theorem gallop'_eq (left : Bool) (key : Keyed) (arr : Array Keyed) (base n hint : Nat) : gallop' left key arr base n hint = (do
  let mut lastofs := 0
  let mut ofs := 1
  let mut lo := 0
  let mut hi := 0
  let some right ← beyond' left key arr base hint | return none
  if right then
    let maxofs := n - hint
    for _ in [0:n] do
      if ofs ≥ maxofs then break
      let some more ← beyond' left key arr base (hint + ofs) | return none
      if !more then break
      lastofs := ofs
      ofs := 2 * ofs + 1
    lo := hint + lastofs + 1
    hi := hint + min ofs maxofs
  else
    let maxofs := hint + 1
    for _ in [0:n] do
      if ofs ≥ maxofs then break
      let some found ← beyond' left key arr base (hint - ofs) | return none
      if found then break
      lastofs := ofs
      ofs := 2 * ofs + 1
    lo := hint + 1 - min ofs maxofs
    hi := hint - lastofs
  for _ in [0:n] do
    if lo ≥ hi then break
    let m := lo + (hi - lo) / 2
    let some more ← beyond' left key arr base m | return none
    if more then lo := m + 1 else hi := m
  return some hi) := rfl
theorem mergeAt'_eq (i : Nat) : mergeAt' i = (do
  let s ← get
  let (some (sa, na, power), some (sb, nb, _)) := ((pendingOf s)[i]?, (pendingOf s)[i + 1]?) | unsupported "internal:list.sort.pending"
  set (setPending s (((pendingOf s).setIfInBounds i (sa, na + nb, power)).eraseIdxIfInBounds (i + 1)))
  let some k ← gallop' false (← elem' (arrOf s) sb) (arrOf s) sa na 0 | return false
  let (sa, na) := (sa + k, na - k)
  if na == 0 then return true
  let some nb ← gallop' true (← elem' (arrOf s) (sa + na - 1)) (arrOf s) sb nb (nb - 1) | return false
  if nb == 0 then return true
  let x := (arrOf s).extract sa sb
  let y := (arrOf s).extract sb (sb + nb)
  let merged ← if na ≤ nb then mergeLo' x y else mergeHi' x y
  modify fun s => setArr s (merged.toList.zipIdx.foldl (fun a (p, j) => a.setIfInBounds (sa + j) p) (arrOf s))
  return (failedOf (← get)).isNone) := rfl

noncomputable def IsI (p : Keyed) : Prop := ∃ n t, p.1 = .int n t
noncomputable def AllI (xs : Array Keyed) : Prop := ∀ p ∈ xs.toList, IsI p
section
variable {prog : Program} {w : World} {A : Around} {E : Value → Shared → Prop} {s : Shared}
theorem wpS_ltP {st : SortSt} {p q : Keyed} {Q : Option Bool → SortSt → Prop} (hk : kindOf st = oneType') (hp : IsI p) (hq : IsI q) (h : ∀ b, Q (some b) st) : wpS (model prog w) A E s (lt' p q) Q st := by
  obtain ⟨a, t, e1⟩ := hp
  obtain ⟨b, u, e2⟩ := hq
  rw [lt'_eq]
  refine wpS_bind (wpS_get ?_)
  rw [hk, keyLt'_oneType, e1, e2]
  refine wpS_bind (wpS_lift (wpAny_attempt (oneLt_int ⟨rfl, ?_⟩)))
  exact wpS_pure (h _)
theorem wpS_elemP {st : SortSt} {xs : Array Keyed} {i : Nat} {Q : Keyed → SortSt → Prop} (hx : AllI xs) (hi : i < xs.size) (h : ∀ p, xs[i]? = some p → IsI p → Q p st) : wpS (model prog w) A E s (elem' xs i) Q st := by
  rw [elem'_eq]
  have e : xs[i]? = some xs[i] := getElem?_pos xs i hi
  rw [e]
  exact wpS_pure (h _ e (hx _ (by simp)))
theorem wpS_beyond {st : SortSt} {left : Bool} {key : Keyed} {arr : Array Keyed} {base i : Nat} {Q : Option Bool → SortSt → Prop} (hk : kindOf st = oneType') (hkey : IsI key) (harr : AllI arr) (hi : base + i < arr.size) (h : ∀ b, Q (some b) st) : wpS (model prog w) A E s (beyond' left key arr base i) Q st := by
  unfold beyond'
  refine wpS_bind (wpS_elemP harr hi fun p _ hp => ?_)
  cases left with
  | true => exact wpS_ltP hk hp hkey h
  | false => exact wpS_bind (wpS_ltP hk hkey hp fun b => wpS_pure (h _))
theorem wpS_gallop {st : SortSt} {left : Bool} {key : Keyed} {arr : Array Keyed} {base n hint : Nat} {Q : Option Nat → SortSt → Prop} (hk : kindOf st = oneType') (hkey : IsI key) (harr : AllI arr) (hn : base + n ≤ arr.size) (hh : hint < n) (h : ∀ k, k ≤ n → Q (some k) st) :
    wpS (model prog w) A E s (gallop' left key arr base n hint) Q st := by
  rw [gallop'_eq]
  refine wpS_bind (wpS_beyond hk hkey harr (by omega) fun right => ?_)
  have tail : ∀ lo hi, hi ≤ n → wpS (model prog w) A E s (do
      let mut lo := lo
      let mut hi := hi
      for _ in [0:n] do
        if lo ≥ hi then break
        let m := lo + (hi - lo) / 2
        let some more ← beyond' left key arr base m | return none
        if more then lo := m + 1 else hi := m
      return some hi) Q st := by
    intro lo hi hhi
    refine wpS_bind (wpS_mono (wpS_forRange (I := fun _ c st' => st' = st ∧ ∃ l r, c = (none, l, r) ∧ r ≤ n) (Q := fun c st' => st' = st ∧ ∃ l r, c = (none, l, r) ∧ r ≤ n) ?step (fun _ _ h => h) ⟨rfl, _, _, rfl, hhi⟩) ?post)
    case post =>
      rintro c st' ⟨rfl, l, r, rfl, hr⟩
      exact wpS_pure (h _ hr)
    case step =>
      rintro x c st' _ _ ⟨rfl, l, r, rfl, hr⟩
      dsimp only
      split
      · exact wpS_pure ⟨rfl, _, _, rfl, hr⟩
      · refine wpS_bind (wpS_beyond hk hkey harr (by omega) fun more => ?_)
        dsimp only
        cases more with
        | true => exact wpS_pure ⟨rfl, _, _, rfl, hr⟩
        | false => exact wpS_pure ⟨rfl, _, _, rfl, by omega⟩
  dsimp only
  cases right with
  | true =>
    simp only [if_true]
    refine wpS_bind (wpS_mono (wpS_forRange (I := fun _ c st' => st' = st ∧ ∃ l r, c = (none, l, r)) (Q := fun c st' => st' = st ∧ ∃ l r, c = (none, l, r)) ?step (fun _ _ h => h) ⟨rfl, _, _, rfl⟩) ?post)
    case post =>
      rintro c st' ⟨rfl, l, r, rfl⟩
      exact tail _ _ (by omega)
    case step =>
      rintro x c st' _ _ ⟨rfl, l, r, rfl⟩
      dsimp only
      split
      · exact wpS_pure ⟨rfl, _, _, rfl⟩
      · refine wpS_bind (wpS_beyond hk hkey harr (by omega) fun more => ?_)
        dsimp only
        cases more with
        | true => exact wpS_pure ⟨rfl, _, _, rfl⟩
        | false => exact wpS_pure ⟨rfl, _, _, rfl⟩
  | false =>
    simp only [Bool.false_eq_true, if_false]
    refine wpS_bind (wpS_mono (wpS_forRange (I := fun _ c st' => st' = st ∧ ∃ l r, c = (none, l, r)) (Q := fun c st' => st' = st ∧ ∃ l r, c = (none, l, r)) ?step2 (fun _ _ h => h) ⟨rfl, _, _, rfl⟩) ?post2)
    case post2 =>
      rintro c st' ⟨rfl, l, r, rfl⟩
      exact tail _ _ (by omega)
    case step2 =>
      rintro x c st' _ _ ⟨rfl, l, r, rfl⟩
      dsimp only
      split
      · exact wpS_pure ⟨rfl, _, _, rfl⟩
      · refine wpS_bind (wpS_beyond hk hkey harr (by omega) fun more => ?_)
        dsimp only
        cases more with
        | true => exact wpS_pure ⟨rfl, _, _, rfl⟩
        | false => exact wpS_pure ⟨rfl, _, _, rfl⟩
end
/-- the state, but for the gallop's measure -/
noncomputable def Sim (st st' : SortSt) : Prop := ∃ g, st' = setGal st g
theorem Sim.refl (st : SortSt) : Sim st st := ⟨gallopOf st, rfl⟩
theorem Sim.gal {st st' : SortSt} (h : Sim st st') (g : Nat) : Sim st (setGal st' g) := by
  obtain ⟨g', rfl⟩ := h; exact ⟨g, rfl⟩
theorem Sim.kind {st st' : SortSt} (h : Sim st st') (k : kindOf st = oneType') : kindOf st' = oneType' := by
  obtain ⟨g', rfl⟩ := h; exact k

/-- what stands in out and what is left of a and b -/
noncomputable def PL (a b out : Array Keyed) (ia ib : Nat) : Prop := (out.toList ++ (a.toList.drop ia ++ b.toList.drop ib)).Perm (a.toList ++ b.toList)
theorem PL.init {a b : Array Keyed} {p : Keyed} (hb : b[0]? = some p) : PL a b #[p] 0 1 := by
  unfold PL
  have e : b.toList = p :: b.toList.drop 1 := by
    have : b.toList[0]? = some p := by rw [← hb]; simp
    cases h : b.toList with
    | nil => rw [h] at this; simp at this
    | cons x l => rw [h] at this; simp at this; simp [this]
  rw [List.drop_zero]
  show ([p] ++ (a.toList ++ b.toList.drop 1)).Perm _
  conv => rhs; rw [e]
  exact (List.perm_middle (l₁ := a.toList)).symm
theorem drop_cons {a : Array Keyed} {i : Nat} {p : Keyed} (h : a[i]? = some p) : a.toList.drop i = p :: a.toList.drop (i + 1) := by
  have h' : a.toList[i]? = some p := by rw [← h]; simp
  obtain ⟨hi, e⟩ := List.getElem?_eq_some_iff.mp h'
  rw [List.drop_eq_getElem_cons hi, e]
theorem PL.pushA {a b out : Array Keyed} {ia ib : Nat} {p : Keyed} (x : PL a b out ia ib) (h : a[ia]? = some p) : PL a b (out.push p) (ia + 1) ib := by
  unfold PL at *
  rw [drop_cons h] at x
  rw [Array.toList_push, List.append_assoc]
  exact x
theorem PL.pushB {a b out : Array Keyed} {ia ib : Nat} {p : Keyed} (x : PL a b out ia ib) (h : b[ib]? = some p) : PL a b (out.push p) ia (ib + 1) := by
  unfold PL at *
  rw [drop_cons h] at x
  rw [Array.toList_push, List.append_assoc]
  refine List.Perm.trans (List.Perm.append_left _ ?_) x
  exact (List.perm_middle (l₁ := a.toList.drop ia)).symm
theorem ext_toList (a : Array Keyed) (i j : Nat) : (a.extract i j).toList = (a.toList.drop i).take (j - i) := by
  simp [Array.toList_extract, List.extract]
theorem PL.blockA {a b out : Array Keyed} {ia ib : Nat} (x : PL a b out ia ib) (k : Nat) : PL a b (out ++ a.extract ia (ia + k)) (ia + k) ib := by
  unfold PL at *
  rw [Array.toList_append, ext_toList, Nat.add_sub_cancel_left]
  refine List.Perm.trans ?_ x
  rw [List.append_assoc]
  refine List.Perm.append_left _ ?_
  rw [← List.append_assoc, ← List.drop_drop, List.take_append_drop]
theorem PL.blockB {a b out : Array Keyed} {ia ib : Nat} (x : PL a b out ia ib) (k : Nat) : PL a b (out ++ b.extract ib (ib + k)) ia (ib + k) := by
  unfold PL at *
  rw [Array.toList_append, ext_toList, Nat.add_sub_cancel_left]
  refine List.Perm.trans ?_ x
  rw [List.append_assoc]
  refine List.Perm.append_left _ ?_
  conv => rhs; rw [← List.take_append_drop k (b.toList.drop ib), List.drop_drop]
  rw [← List.append_assoc, ← List.append_assoc]
  exact List.Perm.append_right _ List.perm_append_comm
theorem PL.done {a b out : Array Keyed} {ia ib : Nat} (x : PL a b out ia ib) : (out ++ a.extract ia a.size ++ b.extract ib b.size).toList.Perm (a.toList ++ b.toList) := by
  unfold PL at x
  rw [Array.toList_append, Array.toList_append, ext_toList, ext_toList, List.append_assoc]
  rw [List.take_of_length_le (by simp), List.take_of_length_le (by simp)]
  exact x
theorem PL.last {a b out : Array Keyed} {ia ib : Nat} (x : PL a b out ia ib) : (out ++ b.extract ib b.size ++ a.extract ia a.size).toList.Perm (a.toList ++ b.toList) := by
  unfold PL at x
  rw [Array.toList_append, Array.toList_append, ext_toList, ext_toList, List.append_assoc]
  rw [List.take_of_length_le (by simp), List.take_of_length_le (by simp)]
  exact List.Perm.trans (List.Perm.append_left _ List.perm_append_comm) x
noncomputable def PH (a b out : Array Keyed) (na nb : Nat) : Prop := (out.toList ++ (a.toList.take na ++ b.toList.take nb)).Perm (a.toList ++ b.toList)
theorem take_snoc {a : Array Keyed} {i : Nat} {p : Keyed} (h : a[i]? = some p) : a.toList.take (i + 1) = a.toList.take i ++ [p] := by
  have h' : a.toList[i]? = some p := by rw [← h]; simp
  rw [List.take_add_one, h']; rfl
theorem PH.init {a b : Array Keyed} {p : Keyed} (h1 : 1 ≤ a.size) (h : a[a.size - 1]? = some p) : PH a b #[p] (a.size - 1) b.size := by
  unfold PH
  have e := take_snoc h
  rw [Nat.sub_add_cancel h1, List.take_of_length_le (by simp)] at e
  rw [List.take_of_length_le (l := b.toList) (by simp)]
  conv => rhs; rw [e, List.append_assoc]
  exact (List.perm_middle (l₁ := a.toList.take (a.size - 1))).symm
theorem PH.pushA {a b out : Array Keyed} {na nb : Nat} {p : Keyed} (x : PH a b out (na + 1) nb) (h : a[na]? = some p) : PH a b (out.push p) na nb := by
  unfold PH at *
  rw [take_snoc h] at x
  rw [Array.toList_push, List.append_assoc]
  refine List.Perm.trans (List.Perm.append_left _ ?_) x
  rw [List.append_assoc]
  exact (List.perm_middle (l₁ := a.toList.take na)).symm
theorem PH.pushB {a b out : Array Keyed} {na nb : Nat} {p : Keyed} (x : PH a b out na (nb + 1)) (h : b[nb]? = some p) : PH a b (out.push p) na nb := by
  unfold PH at *
  rw [take_snoc h] at x
  rw [Array.toList_push, List.append_assoc]
  refine List.Perm.trans (List.Perm.append_left _ ?_) x
  refine List.Perm.trans List.perm_append_comm ?_
  rw [List.append_assoc]
theorem take_split {l : List Keyed} {k n : Nat} (h : k ≤ n) : l.take n = l.take k ++ (l.drop k).take (n - k) := by
  conv => lhs; rw [show n = k + (n - k) by omega, List.take_add]
theorem PH.blockA {a b out : Array Keyed} {na nb k : Nat} (x : PH a b out na nb) (hk : k ≤ na) : PH a b (out ++ (a.extract k na).reverse) k nb := by
  unfold PH at *
  rw [take_split hk] at x
  rw [Array.toList_append, Array.toList_reverse, ext_toList]
  refine List.Perm.trans ?_ x
  rw [List.append_assoc]
  refine List.Perm.append_left _ ?_
  rw [← List.append_assoc]
  refine List.Perm.append_right _ ?_
  exact List.Perm.trans (List.Perm.append_right _ (List.reverse_perm _)) List.perm_append_comm
theorem PH.blockB {a b out : Array Keyed} {na nb k : Nat} (x : PH a b out na nb) (hk : k ≤ nb) : PH a b (out ++ (b.extract k nb).reverse) na k := by
  unfold PH at *
  rw [take_split hk] at x
  rw [Array.toList_append, Array.toList_reverse, ext_toList]
  refine List.Perm.trans ?_ x
  rw [List.append_assoc]
  refine List.Perm.append_left _ ?_
  refine List.Perm.trans (List.Perm.append_right _ (List.reverse_perm _)) ?_
  refine List.Perm.trans List.perm_append_comm ?_
  rw [List.append_assoc]
theorem PH.done {a b out : Array Keyed} {na nb : Nat} (x : PH a b out na nb) : (a.extract 0 na ++ b.extract 0 nb ++ out.reverse).toList.Perm (a.toList ++ b.toList) := by
  unfold PH at x
  rw [Array.toList_append, Array.toList_append, ext_toList, ext_toList, Array.toList_reverse]
  refine List.Perm.trans ?_ x
  refine List.Perm.trans List.perm_append_comm ?_
  exact List.Perm.append_right _ (List.reverse_perm _)
theorem PH.first {a b out : Array Keyed} {na nb : Nat} (x : PH a b out na nb) : (b.extract 0 nb ++ a.extract 0 na ++ out.reverse).toList.Perm (a.toList ++ b.toList) := by
  unfold PH at x
  rw [Array.toList_append, Array.toList_append, ext_toList, ext_toList, Array.toList_reverse]
  refine List.Perm.trans ?_ x
  refine List.Perm.trans List.perm_append_comm ?_
  refine List.Perm.append (List.reverse_perm _) ?_
  exact List.perm_append_comm
end Mine

-- Ml
theorem Mine.noneMl : True := by
  k_with_none
  exact trivial
open PySem PyProof.Rows
namespace Mine
theorem wpS_ite {M : Model} {A : Around} {E : Value → Shared → Prop} {s : Shared} {α : Type} {c : Prop} [Decidable c] {x y : StateT SortSt Sem α} {Q : α → SortSt → Prop} {st : SortSt} (h1 : c → wpS M A E s x Q st) (h2 : ¬ c → wpS M A E s y Q st) : wpS M A E s (if c then x else y) Q st := by
  split
  · exact h1 ‹_›
  · exact h2 ‹_›
theorem wpS_setMin {prog : Program} {w : World} {A : Around} {E : Value → Shared → Prop} {s : Shared} {st st' : SortSt} {g : Nat} {Q : Unit → SortSt → Prop} (hS : Sim st st') (h : ∀ st2, Sim st st2 → Q () st2) : wpS (model prog w) A E s (setMinGallop' g) Q st' := by
  rw [setMinGallop'_eq]
  exact wpS_modify (h _ (hS.gal g))
noncomputable abbrev G5 := Option (Array Keyed) × Array Keyed × Nat × Nat × Nat
noncomputable abbrev G6 := Option (Array Keyed) × Array Keyed × Nat × Nat × Nat × Nat
noncomputable abbrev G7 := Option (Array Keyed) × Array Keyed × Nat × Nat × Nat × Nat × Nat
noncomputable def loDone (a b out : Array Keyed) (ia ib : Nat) : Array Keyed := out ++ a.extract ia a.size ++ b.extract ib b.size
noncomputable def loLast (a b out : Array Keyed) (ia ib : Nat) : Array Keyed := out ++ b.extract ib b.size ++ a.extract ia a.size
noncomputable def lo1 (a b : Array Keyed) (mg : Nat) (out : Array Keyed) (ia ib ac bc : Nat) : StateT SortSt Sem (ForInStep G6) := do
  let p ← elem' b ib
  let q ← elem' a ia
  let some bw ← lt' p q | return .done (some (loDone a b out ia ib), out, ia, ib, ac, bc)
  if bw then
    let p ← elem' b ib
    if ib + 1 == b.size then return .done (some (loDone a b (out.push p) ia (ib + 1)), out.push p, ia, ib + 1, 0, bc + 1)
    else if bc + 1 ≥ mg then return .done (none, out.push p, ia, ib + 1, 0, bc + 1)
    else return .yield (none, out.push p, ia, ib + 1, 0, bc + 1)
  else
    let p ← elem' a ia
    if ia + 1 + 1 == a.size then return .done (some (loLast a b (out.push p) (ia + 1) ib), out.push p, ia + 1, ib, ac + 1, 0)
    else if ac + 1 ≥ mg then return .done (none, out.push p, ia + 1, ib, ac + 1, 0)
    else return .yield (none, out.push p, ia + 1, ib, ac + 1, 0)
noncomputable def lo4 (a b out : Array Keyed) (ia ib mg ac bc : Nat) : StateT SortSt Sem (ForInStep G7) := do
  let p ← elem' a ia
  if ia + 1 + 1 == a.size then return .done (some (loLast a b (out.push p) (ia + 1) ib), out.push p, ia + 1, ib, mg, ac, bc)
  else if ac < 7 && bc < 7 then return .done (none, out.push p, ia + 1, ib, mg, ac, bc)
  else return .yield (none, out.push p, ia + 1, ib, mg, ac, bc)
noncomputable def lo3 (a b out : Array Keyed) (ia ib mg ac bc : Nat) : StateT SortSt Sem (ForInStep G7) := do
  let p ← elem' b ib
  if ib + 1 == b.size then return .done (some (loDone a b (out.push p) ia (ib + 1)), out.push p, ia, ib + 1, mg, ac, bc)
  else do
    let q ← elem' a ia
    let some k ← gallop' true q b (ib + 1) (b.size - (ib + 1)) 0 | return .done (some (loDone a b (out.push p) ia (ib + 1)), out.push p, ia, ib + 1, mg, ac, bc)
    if k > 0 then
      if ib + 1 + k == b.size then return .done (some (loDone a b (out.push p ++ b.extract (ib + 1) (ib + 1 + k)) ia (ib + 1 + k)), out.push p ++ b.extract (ib + 1) (ib + 1 + k), ia, ib + 1 + k, mg, ac, k)
      else lo4 a b (out.push p ++ b.extract (ib + 1) (ib + 1 + k)) ia (ib + 1 + k) mg ac k
    else lo4 a b (out.push p) ia (ib + 1) mg ac k
noncomputable def lo2 (a b out : Array Keyed) (ia ib ac bc mg : Nat) : StateT SortSt Sem (ForInStep G7) := do
  setMinGallop' mg
  let p ← elem' b ib
  let some k ← gallop' false p a ia (a.size - ia) 0 | return .done (some (loDone a b out ia ib), out, ia, ib, mg, ac, bc)
  if k > 0 then
    if ia + k + 1 == a.size then return .done (some (loLast a b (out ++ a.extract ia (ia + k)) (ia + k) ib), out ++ a.extract ia (ia + k), ia + k, ib, mg, k, bc)
    else if ia + k == a.size then return .done (some (loDone a b (out ++ a.extract ia (ia + k)) (ia + k) ib), out ++ a.extract ia (ia + k), ia + k, ib, mg, k, bc)
    else lo3 a b (out ++ a.extract ia (ia + k)) (ia + k) ib mg k bc
  else lo3 a b out ia ib mg k bc
noncomputable def loB (a b out : Array Keyed) (ia ib mg ac bc : Nat) : StateT SortSt Sem (ForInStep G7) :=
  if mg > 1 then lo2 a b out ia ib ac bc (mg - 1) else lo2 a b out ia ib ac bc mg
noncomputable def loC (c : G7) : StateT SortSt Sem (ForInStep G5) :=
  match c.1 with
  | some r => pure (.done (some r, c.2.1, c.2.2.1, c.2.2.2.1, c.2.2.2.2.1))
  | none => do
    setMinGallop' (c.2.2.2.2.1 + 1)
    pure (.yield (none, c.2.1, c.2.2.1, c.2.2.2.1, c.2.2.2.2.1 + 1))
noncomputable def loD (a b : Array Keyed) (mg : Nat) (c : G6) : StateT SortSt Sem (ForInStep G5) :=
  match c.1 with
  | some r => pure (.done (some r, c.2.1, c.2.2.1, c.2.2.2.1, mg))
  | none => do
    rule "list.sort.gallop"
    forIn [0:a.size + b.size] ((none, c.2.1, c.2.2.1, c.2.2.2.1, mg + 1, c.2.2.2.2.1, c.2.2.2.2.2) : G7) (fun _ (d : G7) => loB a b d.2.1 d.2.2.1 d.2.2.2.1 d.2.2.2.2.1 d.2.2.2.2.2.1 d.2.2.2.2.2.2) >>= loC
noncomputable def loT (a b : Array Keyed) (c : G5) : StateT SortSt Sem (ForInStep G5) :=
  forIn [0:a.size + b.size] ((none, c.2.1, c.2.2.1, c.2.2.2.1, 0, 0) : G6) (fun _ (d : G6) => lo1 a b c.2.2.2.2 d.2.1 d.2.2.1 d.2.2.2.1 d.2.2.2.2.1 d.2.2.2.2.2) >>= loD a b c.2.2.2.2
theorem mergeLo'_eq (a b : Array Keyed) : mergeLo' a b = (do
  rule "list.sort.merge-lo"
  let p ← elem' b 0
  if 1 == b.size then return loDone a b #[p] 0 1
  else if 0 + 1 == a.size then return loLast a b #[p] 0 1
  else do
    let g ← get
    let c ← forIn [0:a.size + b.size] ((none, #[p], 0, 1, gallopOf g) : G5) (fun _ (d : G5) => loT a b d)
    match c.1 with
    | some r => pure r
    | none => unsupported "internal:list.sort.merge-bound") := by kernel_rfl
/-- the merge from before: what stands, and how many turns at least lie behind -/
structure IL (a b out : Array Keyed) (ia ib n : Nat) : Prop where
  P : PL a b out ia ib
  a1 : ia + 1 < a.size
  b1 : ib < b.size
  n1 : n ≤ ia + ib
section
variable {a b out : Array Keyed} {ia ib n : Nat} {p : Keyed}
theorem IL.lta (x : IL a b out ia ib n) : ia < a.size := Nat.lt_of_succ_lt x.a1
theorem IL.pA (x : IL a b out ia ib n) (h : a[ia]? = some p) (e : ¬ (ia + 1 + 1 == a.size) = true) : IL a b (out.push p) (ia + 1) ib (n + 1) := by
  obtain ⟨h1, h2, h3, h4⟩ := x
  have e : ia + 1 + 1 ≠ a.size := fun c => e (beq_iff_eq.mpr c)
  exact ⟨h1.pushA h, by omega, h3, by omega⟩
theorem IL.pB (x : IL a b out ia ib n) (h : b[ib]? = some p) (e : ¬ (ib + 1 == b.size) = true) : IL a b (out.push p) ia (ib + 1) (n + 1) := by
  obtain ⟨h1, h2, h3, h4⟩ := x
  have e : ib + 1 ≠ b.size := fun c => e (beq_iff_eq.mpr c)
  exact ⟨h1.pushB h, h2, by omega, by omega⟩
theorem IL.kA {k : Nat} (x : IL a b out ia ib n) (hk : k ≤ a.size - ia) (e : ¬ (ia + k + 1 == a.size) = true) (e1 : ¬ (ia + k == a.size) = true) : IL a b (out ++ a.extract ia (ia + k)) (ia + k) ib n := by
  obtain ⟨h1, h2, h3, h4⟩ := x
  have e : ia + k + 1 ≠ a.size := fun c => e (beq_iff_eq.mpr c)
  have e1 : ia + k ≠ a.size := fun c => e1 (beq_iff_eq.mpr c)
  exact ⟨h1.blockA k, by omega, h3, by omega⟩
theorem IL.kB {k : Nat} (x : IL a b out ia ib n) (hk : k ≤ b.size - ib) (e : ¬ (ib + k == b.size) = true) : IL a b (out ++ b.extract ib (ib + k)) ia (ib + k) n := by
  obtain ⟨h1, h2, h3, h4⟩ := x
  have e : ib + k ≠ b.size := fun c => e (beq_iff_eq.mpr c)
  exact ⟨h1.blockB k, h2, by omega, by omega⟩
theorem IL.init {g : Keyed} (h1 : 1 ≤ a.size) (h2 : 1 ≤ b.size) (h : b[0]? = some g) (e : ¬ (1 == b.size) = true) (e1 : ¬ (0 + 1 == a.size) = true) : IL a b #[g] 0 1 0 := by
  have e : 1 ≠ b.size := fun c => e (beq_iff_eq.mpr c)
  have e1 : 0 + 1 ≠ a.size := fun c => e1 (beq_iff_eq.mpr c)
  exact ⟨PL.init h, by omega, by omega, by omega⟩
theorem IL.mono {m : Nat} (x : IL a b out ia ib n) (h : m ≤ n) : IL a b out ia ib m := ⟨x.P, x.a1, x.b1, Nat.le_trans h x.n1⟩
theorem IL.over (x : IL a b out ia ib n) (h : a.size + b.size ≤ n) : False := by have := x.n1; have := x.a1; have := x.b1; omega
end
section
variable {prog : Program} {w : World} {A : Around} {E : Value → Shared → Prop} {s : Shared} {a b out : Array Keyed} {mg ia ib ac bc n : Nat}
theorem wpS_lo1 {st : SortSt} {Q : ForInStep G6 → SortSt → Prop} (hk : kindOf st = oneType') (ha : AllI a) (hb : AllI b) (x : IL a b out ia ib n)
    (k1 : ∀ r o i j k l, r.toList.Perm (a.toList ++ b.toList) → Q (.done (some r, o, i, j, k, l)) st) (k2 : ∀ o i j k l, IL a b o i j (n + 1) → Q (.done (none, o, i, j, k, l)) st ∧ Q (.yield (none, o, i, j, k, l)) st) :
    wpS (model prog w) A E s (lo1 a b mg out ia ib ac bc) Q st := by
  refine wpS_bind (wpS_elemP hb x.b1 fun p _ hp => wpS_bind (wpS_elemP ha x.lta fun q _ hq => wpS_bind (wpS_ltP hk hp hq fun bw => ?_)))
  refine wpS_ite (fun _ => wpS_bind (wpS_elemP hb x.b1 fun p hp _ => ?_)) fun _ => wpS_bind (wpS_elemP ha x.lta fun p hp _ => ?_)
  · exact wpS_ite (fun _ => wpS_pure (k1 _ _ _ _ _ _ (x.P.pushB hp).done)) fun e => wpS_ite (fun _ => wpS_pure (k2 _ _ _ _ _ (x.pB hp e)).1) fun _ => wpS_pure (k2 _ _ _ _ _ (x.pB hp e)).2
  · exact wpS_ite (fun _ => wpS_pure (k1 _ _ _ _ _ _ (x.P.pushA hp).last)) fun e => wpS_ite (fun _ => wpS_pure (k2 _ _ _ _ _ (x.pA hp e)).1) fun _ => wpS_pure (k2 _ _ _ _ _ (x.pA hp e)).2
theorem wpS_lo4 {st : SortSt} {Q : ForInStep G7 → SortSt → Prop} (ha : AllI a) (x : IL a b out ia ib n)
    (k1 : ∀ r o i j k l m, r.toList.Perm (a.toList ++ b.toList) → Q (.done (some r, o, i, j, k, l, m)) st) (k2 : ∀ o i j k l m, IL a b o i j (n + 1) → Q (.done (none, o, i, j, k, l, m)) st ∧ Q (.yield (none, o, i, j, k, l, m)) st) :
    wpS (model prog w) A E s (lo4 a b out ia ib mg ac bc) Q st :=
  wpS_bind (wpS_elemP ha x.lta fun p hp _ => wpS_ite (fun _ => wpS_pure (k1 _ _ _ _ _ _ _ (x.P.pushA hp).last)) fun e => wpS_ite (fun _ => wpS_pure (k2 _ _ _ _ _ _ (x.pA hp e)).1) fun _ => wpS_pure (k2 _ _ _ _ _ _ (x.pA hp e)).2)
theorem wpS_lo3 {st : SortSt} {Q : ForInStep G7 → SortSt → Prop} (hk : kindOf st = oneType') (ha : AllI a) (hb : AllI b) (x : IL a b out ia ib n)
    (k1 : ∀ r o i j k l m, r.toList.Perm (a.toList ++ b.toList) → Q (.done (some r, o, i, j, k, l, m)) st) (k2 : ∀ o i j k l m, IL a b o i j (n + 2) → Q (.done (none, o, i, j, k, l, m)) st ∧ Q (.yield (none, o, i, j, k, l, m)) st) :
    wpS (model prog w) A E s (lo3 a b out ia ib mg ac bc) Q st := by
  refine wpS_bind (wpS_elemP hb x.b1 fun p hp _ => wpS_ite (fun _ => wpS_pure (k1 _ _ _ _ _ _ _ (x.P.pushB hp).done)) fun e => ?_)
  have y := x.pB hp e
  refine wpS_bind (wpS_elemP ha y.lta fun q _ hq => wpS_bind (wpS_gallop hk hq hb (Nat.le_of_eq (Nat.add_sub_cancel' (Nat.le_of_lt y.b1))) (Nat.sub_pos_of_lt y.b1) fun k hk' => ?_))
  refine wpS_ite (fun _ => wpS_ite (fun _ => wpS_pure (k1 _ _ _ _ _ _ _ (y.P.blockB k).done)) fun e1 => ?_) fun _ => ?_
  · exact wpS_lo4 ha (y.kB hk' e1) k1 k2
  · exact wpS_lo4 ha y k1 k2
theorem wpS_lo2 {st st' : SortSt} {Q : ForInStep G7 → SortSt → Prop} (hk : kindOf st = oneType') (hS : Sim st st') (ha : AllI a) (hb : AllI b) (x : IL a b out ia ib n)
    (k1 : ∀ r o i j k l m st', Sim st st' → r.toList.Perm (a.toList ++ b.toList) → Q (.done (some r, o, i, j, k, l, m)) st') (k2 : ∀ o i j k l m st', Sim st st' → IL a b o i j (n + 2) → Q (.done (none, o, i, j, k, l, m)) st' ∧ Q (.yield (none, o, i, j, k, l, m)) st') :
    wpS (model prog w) A E s (lo2 a b out ia ib ac bc mg) Q st' := by
  refine wpS_bind (wpS_setMin hS fun st2 hS2 => wpS_bind (wpS_elemP hb x.b1 fun p _ hpI => wpS_bind (wpS_gallop (hS2.kind hk) hpI ha (Nat.le_of_eq (Nat.add_sub_cancel' (Nat.le_of_lt x.lta))) (Nat.sub_pos_of_lt x.lta) fun k hk' => ?_)))
  refine wpS_ite (fun _ => wpS_ite (fun _ => wpS_pure (k1 _ _ _ _ _ _ _ _ hS2 (x.P.blockA k).last)) fun e => wpS_ite (fun _ => wpS_pure (k1 _ _ _ _ _ _ _ _ hS2 (x.P.blockA k).done)) fun e1 => ?_) fun _ => ?_
  · exact wpS_lo3 (hS2.kind hk) ha hb (x.kA hk' e e1) (fun _ _ _ _ _ _ _ => k1 _ _ _ _ _ _ _ _ hS2) fun _ _ _ _ _ _ => k2 _ _ _ _ _ _ _ hS2
  · exact wpS_lo3 (hS2.kind hk) ha hb x (fun _ _ _ _ _ _ _ => k1 _ _ _ _ _ _ _ _ hS2) fun _ _ _ _ _ _ => k2 _ _ _ _ _ _ _ hS2
inductive K6 (a b : Array Keyed) (st : SortSt) (n : Nat) : G6 → SortSt → Prop
  | mk {out ia ib ac bc st'} (h : IL a b out ia ib n) (s : Sim st st') : K6 a b st n (none, out, ia, ib, ac, bc) st'
inductive T6 (a b : Array Keyed) (st : SortSt) (n : Nat) : G6 → SortSt → Prop
  | ret {r o i j k l st'} (h : r.toList.Perm (a.toList ++ b.toList)) (s : Sim st st') : T6 a b st n (some r, o, i, j, k, l) st'
  | go {out ia ib ac bc st'} (h : IL a b out ia ib n) (s : Sim st st') : T6 a b st n (none, out, ia, ib, ac, bc) st'
inductive K7 (a b : Array Keyed) (st : SortSt) (n : Nat) : G7 → SortSt → Prop
  | mk {out ia ib mg ac bc st'} (h : IL a b out ia ib n) (s : Sim st st') : K7 a b st n (none, out, ia, ib, mg, ac, bc) st'
inductive T7 (a b : Array Keyed) (st : SortSt) (n : Nat) : G7 → SortSt → Prop
  | ret {r o i j k l m st'} (h : r.toList.Perm (a.toList ++ b.toList)) (s : Sim st st') : T7 a b st n (some r, o, i, j, k, l, m) st'
  | go {out ia ib mg ac bc st'} (h : IL a b out ia ib n) (s : Sim st st') : T7 a b st n (none, out, ia, ib, mg, ac, bc) st'
inductive K5 (a b : Array Keyed) (st : SortSt) (n : Nat) : G5 → SortSt → Prop
  | mk {out ia ib mg st'} (h : IL a b out ia ib n) (s : Sim st st') : K5 a b st n (none, out, ia, ib, mg) st'
inductive T5 (a b : Array Keyed) (st : SortSt) : G5 → SortSt → Prop
  | ret {r o i j k st'} (h : r.toList.Perm (a.toList ++ b.toList)) (s : Sim st st') : T5 a b st (some r, o, i, j, k) st'
theorem wpS_loC {st st' : SortSt} {c : G7} {y : Nat} {Q : ForInStep G5 → SortSt → Prop} (h : T7 a b st (y + 1) c st') (kr : ∀ c' st', T5 a b st c' st' → Q (.done c') st') (ky : ∀ c' st', K5 a b st (y + 1) c' st' → Q (.yield c') st') : wpS (model prog w) A E s (loC c) Q st' := by
  cases h with
  | ret h s => exact wpS_pure (kr _ _ (.ret h s))
  | go h s => exact wpS_bind (wpS_setMin s fun _ s2 => wpS_pure (ky _ _ (.mk h s2)))
theorem wpS_loD {st st' : SortSt} {c : G6} {y : Nat} {Q : ForInStep G5 → SortSt → Prop} (hk : kindOf st = oneType') (ha : AllI a) (hb : AllI b) (h : T6 a b st (y + 1) c st') (kr : ∀ c' st', T5 a b st c' st' → Q (.done c') st') (ky : ∀ c' st', K5 a b st (y + 1) c' st' → Q (.yield c') st') : wpS (model prog w) A E s (loD a b mg c) Q st' := by
  cases h with
  | ret h s => exact wpS_pure (kr _ _ (.ret h s))
  | go h s =>
    refine wpS_bind (wpS_lift (wpAny_rule ⟨rfl, ?_⟩))
    refine wpS_bind (wpS_mono (wpS_forRange (fun x c st' => K7 a b st (x + (y + 1)) c st') (Q := fun c st' => T7 a b st (y + 1) c st') ?_ ?_ (.mk (by rw [Nat.zero_add]; exact h) s)) fun c st' h => wpS_loC h kr ky)
    · intro x c st' _ _ h
      cases h with
      | mk h s =>
        have k1 : ∀ r o i j k l m st', Sim st st' → r.toList.Perm (a.toList ++ b.toList) → T7 a b st (y + 1) (some r, o, i, j, k, l, m) st' := fun _ _ _ _ _ _ _ _ s p => .ret p s
        have k2 : ∀ o i j k l m st', Sim st st' → IL a b o i j (x + (y + 1) + 2) → T7 a b st (y + 1) (none, o, i, j, k, l, m) st' ∧ K7 a b st (x + 1 + (y + 1)) (none, o, i, j, k, l, m) st' := fun _ _ _ _ _ _ _ s p => ⟨.go (p.mono (by omega)) s, .mk (p.mono (by omega)) s⟩
        exact wpS_ite (fun _ => wpS_lo2 hk s ha hb h k1 k2) fun _ => wpS_lo2 hk s ha hb h k1 k2
    · intro c st' h
      cases h with
      | mk h s => exact (h.over (by omega)).elim
theorem wpS_loT {st st' : SortSt} {c : G5} {y : Nat} {Q : ForInStep G5 → SortSt → Prop} (hk : kindOf st = oneType') (ha : AllI a) (hb : AllI b) (h : K5 a b st y c st') (kr : ∀ c' st', T5 a b st c' st' → Q (.done c') st') (ky : ∀ c' st', K5 a b st (y + 1) c' st' → Q (.yield c') st') : wpS (model prog w) A E s (loT a b c) Q st' := by
  cases h with
  | mk h s =>
    refine wpS_bind (wpS_mono (wpS_forRange (fun x c st' => K6 a b st (x + y) c st') (Q := fun c st' => T6 a b st (y + 1) c st') ?_ ?_ (.mk (by rw [Nat.zero_add]; exact h) s)) fun c st' h => wpS_loD hk ha hb h kr ky)
    · intro x c st' _ _ h
      cases h with
      | mk h s => exact wpS_lo1 (s.kind hk) ha hb h (fun _ _ _ _ _ _ p => .ret p s) fun _ _ _ _ _ p => ⟨.go (p.mono (by omega)) s, .mk (p.mono (by omega)) s⟩
    · intro c st' h
      cases h with
      | mk h s => exact (h.over (by omega)).elim
theorem wpS_mergeLo {st : SortSt} {Q : Array Keyed → SortSt → Prop} (hk : kindOf st = oneType') (ha : AllI a) (hb : AllI b) (ha1 : 1 ≤ a.size) (hb1 : 1 ≤ b.size)
    (h : ∀ out st', Sim st st' → out.toList.Perm (a.toList ++ b.toList) → Q out st') : wpS (model prog w) A E s (mergeLo' a b) Q st := by
  rw [mergeLo'_eq]
  refine wpS_bind (wpS_lift (wpAny_rule ⟨rfl, ?_⟩))
  refine wpS_bind (wpS_elemP hb hb1 fun p hp _ => ?_)
  refine wpS_ite (fun _ => wpS_pure (h _ _ (Sim.refl _) (PL.init (a := a) hp).done)) fun e => wpS_ite (fun _ => wpS_pure (h _ _ (Sim.refl _) (PL.init (a := a) hp).last)) fun e1 => ?_
  refine wpS_bind (wpS_get ?_)
  refine wpS_bind (wpS_mono (wpS_forRange (fun x c st' => K5 a b st x c st') (Q := fun c st' => T5 a b st c st') (fun x c st' _ _ h => wpS_loT hk ha hb h (fun _ _ h => h) fun _ _ h => h) ?_ (.mk (IL.init ha1 hb1 hp e e1) (Sim.refl _))) ?_)
  · intro c st' h
    cases h with
    | mk h s => exact (h.over (by omega)).elim
  · intro c st' z
    cases z with
    | ret p s => exact wpS_pure (h _ _ s p)
end
end Mine

-- Mg
theorem Mine.noneMg : True := by
  k_with_none
  exact trivial
open PySem PyProof.Rows
namespace Mine
noncomputable abbrev H5 := Option (Array Keyed) × Nat × Nat × Array Keyed × Nat
noncomputable abbrev H6 := Option (Array Keyed) × Nat × Nat × Array Keyed × Nat × Nat
noncomputable abbrev H7 := Option (Array Keyed) × Nat × Nat × Array Keyed × Nat × Nat × Nat
noncomputable def hiDone (a b out : Array Keyed) (na nb : Nat) : Array Keyed := a.extract 0 na ++ b.extract 0 nb ++ out.reverse
noncomputable def hiFst (a b out : Array Keyed) (na nb : Nat) : Array Keyed := b.extract 0 nb ++ a.extract 0 na ++ out.reverse
noncomputable def hi1 (a b : Array Keyed) (mg na nb : Nat) (out : Array Keyed) (ac bc : Nat) : StateT SortSt Sem (ForInStep H6) := do
  let p ← elem' b (nb - 1)
  let q ← elem' a (na - 1)
  let some aw ← lt' p q | return .done (some (hiDone a b out na nb), na, nb, out, ac, bc)
  if aw then
    let p ← elem' a (na - 1)
    if na - 1 == 0 then return .done (some (hiDone a b (out.push p) (na - 1) nb), na - 1, nb, out.push p, ac + 1, 0)
    else if ac + 1 ≥ mg then return .done (none, na - 1, nb, out.push p, ac + 1, 0)
    else return .yield (none, na - 1, nb, out.push p, ac + 1, 0)
  else
    let p ← elem' b (nb - 1)
    if nb - 1 == 1 then return .done (some (hiFst a b (out.push p) na (nb - 1)), na, nb - 1, out.push p, 0, bc + 1)
    else if bc + 1 ≥ mg then return .done (none, na, nb - 1, out.push p, 0, bc + 1)
    else return .yield (none, na, nb - 1, out.push p, 0, bc + 1)
noncomputable def hi4 (a b : Array Keyed) (na nb : Nat) (out : Array Keyed) (mg ac bc : Nat) : StateT SortSt Sem (ForInStep H7) := do
  let p ← elem' a (na - 1)
  if na - 1 == 0 then return .done (some (hiDone a b (out.push p) (na - 1) nb), na - 1, nb, out.push p, mg, ac, bc)
  else if ac < 7 && bc < 7 then return .done (none, na - 1, nb, out.push p, mg, ac, bc)
  else return .yield (none, na - 1, nb, out.push p, mg, ac, bc)
noncomputable def hi3 (a b : Array Keyed) (na nb : Nat) (out : Array Keyed) (mg ac bc : Nat) : StateT SortSt Sem (ForInStep H7) := do
  let p ← elem' b (nb - 1)
  if nb - 1 == 1 then return .done (some (hiFst a b (out.push p) na (nb - 1)), na, nb - 1, out.push p, mg, ac, bc)
  else do
    let q ← elem' a (na - 1)
    let some at_ ← gallop' true q b 0 (nb - 1) (nb - 1 - 1) | return .done (some (hiDone a b (out.push p) na (nb - 1)), na, nb - 1, out.push p, mg, ac, bc)
    if nb - 1 - at_ > 0 then
      if at_ == 1 then return .done (some (hiFst a b (out.push p ++ (b.extract at_ (nb - 1)).reverse) na at_), na, at_, out.push p ++ (b.extract at_ (nb - 1)).reverse, mg, ac, nb - 1 - at_)
      else if at_ == 0 then return .done (some (hiDone a b (out.push p ++ (b.extract at_ (nb - 1)).reverse) na at_), na, at_, out.push p ++ (b.extract at_ (nb - 1)).reverse, mg, ac, nb - 1 - at_)
      else hi4 a b na at_ (out.push p ++ (b.extract at_ (nb - 1)).reverse) mg ac (nb - 1 - at_)
    else hi4 a b na (nb - 1) (out.push p) mg ac (nb - 1 - at_)
noncomputable def hi2 (a b : Array Keyed) (na nb : Nat) (out : Array Keyed) (ac bc mg : Nat) : StateT SortSt Sem (ForInStep H7) := do
  setMinGallop' mg
  let p ← elem' b (nb - 1)
  let some at_ ← gallop' false p a 0 na (na - 1) | return .done (some (hiDone a b out na nb), na, nb, out, mg, ac, bc)
  if na - at_ > 0 then
    if at_ == 0 then return .done (some (hiDone a b (out ++ (a.extract at_ na).reverse) at_ nb), at_, nb, out ++ (a.extract at_ na).reverse, mg, na - at_, bc)
    else hi3 a b at_ nb (out ++ (a.extract at_ na).reverse) mg (na - at_) bc
  else hi3 a b na nb out mg (na - at_) bc
noncomputable def hiB (a b : Array Keyed) (na nb : Nat) (out : Array Keyed) (mg ac bc : Nat) : StateT SortSt Sem (ForInStep H7) :=
  if mg > 1 then hi2 a b na nb out ac bc (mg - 1) else hi2 a b na nb out ac bc mg
noncomputable def hiC (c : H7) : StateT SortSt Sem (ForInStep H5) :=
  match c.1 with
  | some r => pure (.done (some r, c.2.1, c.2.2.1, c.2.2.2.1, c.2.2.2.2.1))
  | none => do
    setMinGallop' (c.2.2.2.2.1 + 1)
    pure (.yield (none, c.2.1, c.2.2.1, c.2.2.2.1, c.2.2.2.2.1 + 1))
noncomputable def hiD (a b : Array Keyed) (mg : Nat) (c : H6) : StateT SortSt Sem (ForInStep H5) :=
  match c.1 with
  | some r => pure (.done (some r, c.2.1, c.2.2.1, c.2.2.2.1, mg))
  | none => do
    rule "list.sort.gallop"
    forIn [0:a.size + b.size] ((none, c.2.1, c.2.2.1, c.2.2.2.1, mg + 1, c.2.2.2.2.1, c.2.2.2.2.2) : H7) (fun _ (d : H7) => hiB a b d.2.1 d.2.2.1 d.2.2.2.1 d.2.2.2.2.1 d.2.2.2.2.2.1 d.2.2.2.2.2.2) >>= hiC
noncomputable def hiT (a b : Array Keyed) (c : H5) : StateT SortSt Sem (ForInStep H5) :=
  forIn [0:a.size + b.size] ((none, c.2.1, c.2.2.1, c.2.2.2.1, 0, 0) : H6) (fun _ (d : H6) => hi1 a b c.2.2.2.2 d.2.1 d.2.2.1 d.2.2.2.1 d.2.2.2.2.1 d.2.2.2.2.2) >>= hiD a b c.2.2.2.2
theorem mergeHi'_eq (a b : Array Keyed) : mergeHi' a b = (do
  rule "list.sort.merge-hi"
  let p ← elem' a (a.size - 1)
  if a.size - 1 == 0 then return hiDone a b #[p] (a.size - 1) b.size
  else if b.size == 1 then return hiFst a b #[p] (a.size - 1) b.size
  else do
    let g ← get
    let c ← forIn [0:a.size + b.size] ((none, a.size - 1, b.size, #[p], gallopOf g) : H5) (fun _ (d : H5) => hiT a b d)
    match c.1 with
    | some r => pure r
    | none => unsupported "internal:list.sort.merge-bound") := by kernel_rfl

/-- the merge from behind: what stands, and how many turns at least lie behind -/
structure IH (a b out : Array Keyed) (na nb n : Nat) : Prop where
  P : PH a b out na nb
  a1 : 1 ≤ na
  a2 : na ≤ a.size
  b1 : 2 ≤ nb
  b2 : nb ≤ b.size
  n1 : n + na + nb ≤ a.size + b.size
section
variable {a b out : Array Keyed} {na nb n : Nat} {p : Keyed}
theorem PH.pushA' (x : PH a b out na nb) (h1 : 1 ≤ na) (h : a[na - 1]? = some p) : PH a b (out.push p) (na - 1) nb := PH.pushA (by rw [Nat.sub_add_cancel h1]; exact x) h
theorem PH.pushB' (x : PH a b out na nb) (h1 : 1 ≤ nb) (h : b[nb - 1]? = some p) : PH a b (out.push p) na (nb - 1) := PH.pushB (by rw [Nat.sub_add_cancel h1]; exact x) h
theorem IH.ia (x : IH a b out na nb n) : na - 1 < a.size := by have := x.a1; have := x.a2; omega
theorem IH.ib (x : IH a b out na nb n) : nb - 1 < b.size := by have := x.b1; have := x.b2; omega
theorem IH.dA (x : IH a b out na nb n) (h : a[na - 1]? = some p) : (hiDone a b (out.push p) (na - 1) nb).toList.Perm (a.toList ++ b.toList) := (x.P.pushA' x.a1 h).done
theorem IH.dB (x : IH a b out na nb n) (h : b[nb - 1]? = some p) : (hiFst a b (out.push p) na (nb - 1)).toList.Perm (a.toList ++ b.toList) := (x.P.pushB' (Nat.le_of_succ_le x.b1) h).first
theorem IH.pA (x : IH a b out na nb n) (h : a[na - 1]? = some p) (e : ¬ (na - 1 == 0) = true) : IH a b (out.push p) (na - 1) nb (n + 1) := by
  obtain ⟨h1, h2, h3, h4, h5, h6⟩ := x
  have e : na - 1 ≠ 0 := fun c => e (beq_iff_eq.mpr c)
  exact ⟨h1.pushA' h2 h, by omega, by omega, h4, h5, by omega⟩
theorem IH.pB (x : IH a b out na nb n) (h : b[nb - 1]? = some p) (e : ¬ (nb - 1 == 1) = true) : IH a b (out.push p) na (nb - 1) (n + 1) := by
  obtain ⟨h1, h2, h3, h4, h5, h6⟩ := x
  have e : nb - 1 ≠ 1 := fun c => e (beq_iff_eq.mpr c)
  exact ⟨h1.pushB' (Nat.le_of_succ_le h4) h, h2, h3, by omega, by omega, by omega⟩
theorem IH.kA {k : Nat} (x : IH a b out na nb n) (hk : k ≤ na) (e : ¬ (k == 0) = true) : IH a b (out ++ (a.extract k na).reverse) k nb n := by
  obtain ⟨h1, h2, h3, h4, h5, h6⟩ := x
  have e : k ≠ 0 := fun c => e (beq_iff_eq.mpr c)
  exact ⟨h1.blockA hk, by omega, by omega, h4, h5, by omega⟩
theorem IH.kB {k : Nat} (x : IH a b out na nb n) (hk : k ≤ nb) (e : ¬ (k == 0) = true) (e1 : ¬ (k == 1) = true) : IH a b (out ++ (b.extract k nb).reverse) na k n := by
  obtain ⟨h1, h2, h3, h4, h5, h6⟩ := x
  have e : k ≠ 0 := fun c => e (beq_iff_eq.mpr c)
  have e1 : k ≠ 1 := fun c => e1 (beq_iff_eq.mpr c)
  exact ⟨h1.blockB hk, h2, h3, by omega, by omega, by omega⟩
theorem IH.init {g : Keyed} (h1 : 1 ≤ a.size) (h2 : 1 ≤ b.size) (h : a[a.size - 1]? = some g) (e : ¬ (a.size - 1 == 0) = true) (e1 : ¬ (b.size == 1) = true) : IH a b #[g] (a.size - 1) b.size 0 := by
  have e : a.size - 1 ≠ 0 := fun c => e (beq_iff_eq.mpr c)
  have e1 : b.size ≠ 1 := fun c => e1 (beq_iff_eq.mpr c)
  exact ⟨PH.init h1 h, by omega, by omega, by omega, by omega, by omega⟩
theorem IH.mono {m : Nat} (x : IH a b out na nb n) (h : m ≤ n) : IH a b out na nb m := ⟨x.P, x.a1, x.a2, x.b1, x.b2, by have := x.n1; omega⟩
theorem IH.over (x : IH a b out na nb n) (h : a.size + b.size ≤ n) : False := by have := x.n1; have := x.a1; omega
end
section
variable {prog : Program} {w : World} {A : Around} {E : Value → Shared → Prop} {s : Shared} {a b out : Array Keyed} {mg na nb ac bc n : Nat}
theorem wpS_hi1 {st : SortSt} {Q : ForInStep H6 → SortSt → Prop} (hk : kindOf st = oneType') (ha : AllI a) (hb : AllI b) (x : IH a b out na nb n)
    (k1 : ∀ r i j o k l, r.toList.Perm (a.toList ++ b.toList) → Q (.done (some r, i, j, o, k, l)) st) (k2 : ∀ i j o k l, IH a b o i j (n + 1) → Q (.done (none, i, j, o, k, l)) st ∧ Q (.yield (none, i, j, o, k, l)) st) :
    wpS (model prog w) A E s (hi1 a b mg na nb out ac bc) Q st := by
  refine wpS_bind (wpS_elemP hb x.ib fun p _ hp => wpS_bind (wpS_elemP ha x.ia fun q _ hq => wpS_bind (wpS_ltP hk hp hq fun bw => ?_)))
  refine wpS_ite (fun _ => wpS_bind (wpS_elemP ha x.ia fun p hp _ => ?_)) fun _ => wpS_bind (wpS_elemP hb x.ib fun p hp _ => ?_)
  · exact wpS_ite (fun _ => wpS_pure (k1 _ _ _ _ _ _ (x.dA hp))) fun e => wpS_ite (fun _ => wpS_pure (k2 _ _ _ _ _ (x.pA hp e)).1) fun _ => wpS_pure (k2 _ _ _ _ _ (x.pA hp e)).2
  · exact wpS_ite (fun _ => wpS_pure (k1 _ _ _ _ _ _ (x.dB hp))) fun e => wpS_ite (fun _ => wpS_pure (k2 _ _ _ _ _ (x.pB hp e)).1) fun _ => wpS_pure (k2 _ _ _ _ _ (x.pB hp e)).2
theorem wpS_hi4 {st : SortSt} {Q : ForInStep H7 → SortSt → Prop} (ha : AllI a) (x : IH a b out na nb n)
    (k1 : ∀ r i j o k l m, r.toList.Perm (a.toList ++ b.toList) → Q (.done (some r, i, j, o, k, l, m)) st) (k2 : ∀ i j o k l m, IH a b o i j (n + 1) → Q (.done (none, i, j, o, k, l, m)) st ∧ Q (.yield (none, i, j, o, k, l, m)) st) :
    wpS (model prog w) A E s (hi4 a b na nb out mg ac bc) Q st :=
  wpS_bind (wpS_elemP ha x.ia fun p hp _ => wpS_ite (fun _ => wpS_pure (k1 _ _ _ _ _ _ _ (x.dA hp))) fun e => wpS_ite (fun _ => wpS_pure (k2 _ _ _ _ _ _ (x.pA hp e)).1) fun _ => wpS_pure (k2 _ _ _ _ _ _ (x.pA hp e)).2)
theorem wpS_hi3 {st : SortSt} {Q : ForInStep H7 → SortSt → Prop} (hk : kindOf st = oneType') (ha : AllI a) (hb : AllI b) (x : IH a b out na nb n)
    (k1 : ∀ r i j o k l m, r.toList.Perm (a.toList ++ b.toList) → Q (.done (some r, i, j, o, k, l, m)) st) (k2 : ∀ i j o k l m, IH a b o i j (n + 2) → Q (.done (none, i, j, o, k, l, m)) st ∧ Q (.yield (none, i, j, o, k, l, m)) st) :
    wpS (model prog w) A E s (hi3 a b na nb out mg ac bc) Q st := by
  refine wpS_bind (wpS_elemP hb x.ib fun p hp _ => wpS_ite (fun _ => wpS_pure (k1 _ _ _ _ _ _ _ (x.dB hp))) fun e => ?_)
  have y := x.pB hp e
  refine wpS_bind (wpS_elemP ha y.ia fun q _ hq => wpS_bind (wpS_gallop hk hq hb (by rw [Nat.zero_add]; exact y.b2) (Nat.sub_lt (Nat.le_of_succ_le y.b1) Nat.one_pos) fun k hk' => ?_))
  refine wpS_ite (fun _ => wpS_ite (fun _ => wpS_pure (k1 _ _ _ _ _ _ _ (y.P.blockB hk').first)) fun e1 => wpS_ite (fun _ => wpS_pure (k1 _ _ _ _ _ _ _ (y.P.blockB hk').done)) fun e2 => ?_) fun _ => ?_
  · exact wpS_hi4 ha (y.kB hk' e2 e1) k1 k2
  · exact wpS_hi4 ha y k1 k2
theorem wpS_hi2 {st st' : SortSt} {Q : ForInStep H7 → SortSt → Prop} (hk : kindOf st = oneType') (hS : Sim st st') (ha : AllI a) (hb : AllI b) (x : IH a b out na nb n)
    (k1 : ∀ r i j o k l m st', Sim st st' → r.toList.Perm (a.toList ++ b.toList) → Q (.done (some r, i, j, o, k, l, m)) st') (k2 : ∀ i j o k l m st', Sim st st' → IH a b o i j (n + 2) → Q (.done (none, i, j, o, k, l, m)) st' ∧ Q (.yield (none, i, j, o, k, l, m)) st') :
    wpS (model prog w) A E s (hi2 a b na nb out ac bc mg) Q st' := by
  refine wpS_bind (wpS_setMin hS fun st2 hS2 => wpS_bind (wpS_elemP hb x.ib fun p _ hpI => wpS_bind (wpS_gallop (hS2.kind hk) hpI ha (by rw [Nat.zero_add]; exact x.a2) (Nat.sub_lt x.a1 Nat.one_pos) fun k hk' => ?_)))
  refine wpS_ite (fun _ => wpS_ite (fun _ => wpS_pure (k1 _ _ _ _ _ _ _ _ hS2 (x.P.blockA hk').done)) fun e => ?_) fun _ => ?_
  · exact wpS_hi3 (hS2.kind hk) ha hb (x.kA hk' e) (fun _ _ _ _ _ _ _ => k1 _ _ _ _ _ _ _ _ hS2) fun _ _ _ _ _ _ => k2 _ _ _ _ _ _ _ hS2
  · exact wpS_hi3 (hS2.kind hk) ha hb x (fun _ _ _ _ _ _ _ => k1 _ _ _ _ _ _ _ _ hS2) fun _ _ _ _ _ _ => k2 _ _ _ _ _ _ _ hS2
/-- the loops' states -/
inductive L6 (a b : Array Keyed) (st : SortSt) (n : Nat) : H6 → SortSt → Prop
  | mk {na nb out ac bc st'} (h : IH a b out na nb n) (s : Sim st st') : L6 a b st n (none, na, nb, out, ac, bc) st'
inductive R6 (a b : Array Keyed) (st : SortSt) (n : Nat) : H6 → SortSt → Prop
  | ret {r i j o k l st'} (h : r.toList.Perm (a.toList ++ b.toList)) (s : Sim st st') : R6 a b st n (some r, i, j, o, k, l) st'
  | go {na nb out ac bc st'} (h : IH a b out na nb n) (s : Sim st st') : R6 a b st n (none, na, nb, out, ac, bc) st'
inductive L7 (a b : Array Keyed) (st : SortSt) (n : Nat) : H7 → SortSt → Prop
  | mk {na nb out mg ac bc st'} (h : IH a b out na nb n) (s : Sim st st') : L7 a b st n (none, na, nb, out, mg, ac, bc) st'
inductive R7 (a b : Array Keyed) (st : SortSt) (n : Nat) : H7 → SortSt → Prop
  | ret {r i j o k l m st'} (h : r.toList.Perm (a.toList ++ b.toList)) (s : Sim st st') : R7 a b st n (some r, i, j, o, k, l, m) st'
  | go {na nb out mg ac bc st'} (h : IH a b out na nb n) (s : Sim st st') : R7 a b st n (none, na, nb, out, mg, ac, bc) st'
inductive L5 (a b : Array Keyed) (st : SortSt) (n : Nat) : H5 → SortSt → Prop
  | mk {na nb out mg st'} (h : IH a b out na nb n) (s : Sim st st') : L5 a b st n (none, na, nb, out, mg) st'
inductive R5 (a b : Array Keyed) (st : SortSt) : H5 → SortSt → Prop
  | ret {r i j o k st'} (h : r.toList.Perm (a.toList ++ b.toList)) (s : Sim st st') : R5 a b st (some r, i, j, o, k) st'
theorem wpS_hiC {st st' : SortSt} {c : H7} {y : Nat} {Q : ForInStep H5 → SortSt → Prop} (h : R7 a b st (y + 1) c st') (kr : ∀ c' st', R5 a b st c' st' → Q (.done c') st') (ky : ∀ c' st', L5 a b st (y + 1) c' st' → Q (.yield c') st') : wpS (model prog w) A E s (hiC c) Q st' := by
  cases h with
  | ret h s => exact wpS_pure (kr _ _ (.ret h s))
  | go h s => exact wpS_bind (wpS_setMin s fun _ s2 => wpS_pure (ky _ _ (.mk h s2)))
theorem wpS_hiD {st st' : SortSt} {c : H6} {y : Nat} {Q : ForInStep H5 → SortSt → Prop} (hk : kindOf st = oneType') (ha : AllI a) (hb : AllI b) (h : R6 a b st (y + 1) c st') (kr : ∀ c' st', R5 a b st c' st' → Q (.done c') st') (ky : ∀ c' st', L5 a b st (y + 1) c' st' → Q (.yield c') st') : wpS (model prog w) A E s (hiD a b mg c) Q st' := by
  cases h with
  | ret h s => exact wpS_pure (kr _ _ (.ret h s))
  | go h s =>
    refine wpS_bind (wpS_lift (wpAny_rule ⟨rfl, ?_⟩))
    refine wpS_bind (wpS_mono (wpS_forRange (fun x c st' => L7 a b st (x + (y + 1)) c st') (Q := fun c st' => R7 a b st (y + 1) c st') ?_ ?_ (.mk (by rw [Nat.zero_add]; exact h) s)) fun c st' h => wpS_hiC h kr ky)
    · intro x c st' _ _ h
      cases h with
      | mk h s =>
        have k1 : ∀ r i j o k l m st', Sim st st' → r.toList.Perm (a.toList ++ b.toList) → R7 a b st (y + 1) (some r, i, j, o, k, l, m) st' := fun _ _ _ _ _ _ _ _ s p => .ret p s
        have k2 : ∀ i j o k l m st', Sim st st' → IH a b o i j (x + (y + 1) + 2) → R7 a b st (y + 1) (none, i, j, o, k, l, m) st' ∧ L7 a b st (x + 1 + (y + 1)) (none, i, j, o, k, l, m) st' := fun _ _ _ _ _ _ _ s p => ⟨.go (p.mono (by omega)) s, .mk (p.mono (by omega)) s⟩
        exact wpS_ite (fun _ => wpS_hi2 hk s ha hb h k1 k2) fun _ => wpS_hi2 hk s ha hb h k1 k2
    · intro c st' h
      cases h with
      | mk h s => exact (h.over (by omega)).elim
theorem wpS_hiT {st st' : SortSt} {c : H5} {y : Nat} {Q : ForInStep H5 → SortSt → Prop} (hk : kindOf st = oneType') (ha : AllI a) (hb : AllI b) (h : L5 a b st y c st') (kr : ∀ c' st', R5 a b st c' st' → Q (.done c') st') (ky : ∀ c' st', L5 a b st (y + 1) c' st' → Q (.yield c') st') : wpS (model prog w) A E s (hiT a b c) Q st' := by
  cases h with
  | mk h s =>
    refine wpS_bind (wpS_mono (wpS_forRange (fun x c st' => L6 a b st (x + y) c st') (Q := fun c st' => R6 a b st (y + 1) c st') ?_ ?_ (.mk (by rw [Nat.zero_add]; exact h) s)) fun c st' h => wpS_hiD hk ha hb h kr ky)
    · intro x c st' _ _ h
      cases h with
      | mk h s => exact wpS_hi1 (s.kind hk) ha hb h (fun _ _ _ _ _ _ p => .ret p s) fun _ _ _ _ _ p => ⟨.go (p.mono (by omega)) s, .mk (p.mono (by omega)) s⟩
    · intro c st' h
      cases h with
      | mk h s => exact (h.over (by omega)).elim
theorem wpS_mergeHi {st : SortSt} {Q : Array Keyed → SortSt → Prop} (hk : kindOf st = oneType') (ha : AllI a) (hb : AllI b) (ha1 : 1 ≤ a.size) (hb1 : 1 ≤ b.size)
    (h : ∀ out st', Sim st st' → out.toList.Perm (a.toList ++ b.toList) → Q out st') : wpS (model prog w) A E s (mergeHi' a b) Q st := by
  rw [mergeHi'_eq]
  refine wpS_bind (wpS_lift (wpAny_rule ⟨rfl, ?_⟩))
  refine wpS_bind (wpS_elemP ha (Nat.sub_lt ha1 Nat.one_pos) fun p hp _ => ?_)
  refine wpS_ite (fun _ => wpS_pure (h _ _ (Sim.refl _) (PH.init ha1 hp).done)) fun e => wpS_ite (fun _ => wpS_pure (h _ _ (Sim.refl _) (PH.init ha1 hp).first)) fun e1 => ?_
  refine wpS_bind (wpS_get ?_)
  refine wpS_bind (wpS_mono (wpS_forRange (fun x c st' => L5 a b st x c st') (Q := fun c st' => R5 a b st c st') (fun x c st' _ _ h => wpS_hiT hk ha hb h (fun _ _ h => h) fun _ _ h => h) ?_ (.mk (IH.init ha1 hb1 hp e e1) (Sim.refl _))) ?_)
  · intro c st' h
    cases h with
    | mk h s => exact (h.over (by omega)).elim
  · intro c st' z
    cases z with
    | ret p s => exact wpS_pure (h _ _ s p)
end
end Mine

-- So3
theorem Mine.noneSo3 : True := by
  k_with_none
  exact trivial
open PySem PyProof.Rows
namespace Mine
theorem write_toList : ∀ (m : List Keyed) (xs : Array Keyed) (sa k : Nat), sa + k + m.length ≤ xs.size →
    ((m.zipIdx k).foldl (fun a (x : Keyed × Nat) => a.setIfInBounds (sa + x.2) x.1) xs).toList = xs.toList.take (sa + k) ++ (m ++ xs.toList.drop (sa + k + m.length))
  | [], xs, sa, k, _ => by simp
  | p :: m, xs, sa, k, h => by
    rw [List.zipIdx_cons, List.foldl_cons]
    rw [write_toList m _ sa (k + 1) (by simp at h ⊢; omega)]
    simp only [Array.toList_setIfInBounds]
    have hl : sa + k < xs.toList.length := by simp at h ⊢; omega
    rw [show sa + (k + 1) = sa + k + 1 by omega]
    rw [List.take_add_one, List.take_set_of_le (Nat.le_refl _), List.getElem?_set_self hl, List.drop_set_of_lt (by omega)]
    simp only [Option.toList, List.length_cons, List.append_assoc, List.singleton_append, List.cons_append, List.nil_append]
    rw [show sa + k + 1 + m.length = sa + k + (m.length + 1) by omega]
theorem write_perm {m : List Keyed} {xs : Array Keyed} {sa sb se : Nat} (h1 : sa ≤ sb) (h2 : sb ≤ se) (h3 : se ≤ xs.size) (hm : m.Perm ((xs.extract sa sb).toList ++ (xs.extract sb se).toList)) :
    (m.zipIdx.foldl (fun a (x : Keyed × Nat) => a.setIfInBounds (sa + x.2) x.1) xs).Perm xs := by
  rw [Array.perm_iff_toList_perm]
  obtain ⟨i, rfl⟩ := Nat.exists_eq_add_of_le h1
  obtain ⟨j, rfl⟩ := Nat.exists_eq_add_of_le h2
  have e1 : (xs.extract sa (sa + i)).toList ++ (xs.extract (sa + i) (sa + i + j)).toList = (xs.toList.drop sa).take (i + j) := by
    rw [ext_toList, ext_toList, Nat.add_sub_cancel_left, Nat.add_sub_cancel_left, ← List.drop_drop, ← List.take_add]
  rw [e1] at hm
  rw [Nat.add_assoc] at h3
  have hlen : m.length = i + j := by
    rw [hm.length_eq, List.length_take, List.length_drop, Array.length_toList]
    exact Nat.min_eq_left (Nat.le_sub_of_add_le' h3)
  rw [write_toList m xs sa 0 (by rw [hlen]; exact h3), Nat.add_zero, hlen]
  have e : xs.toList = xs.toList.take sa ++ ((xs.toList.drop sa).take (i + j) ++ xs.toList.drop (sa + (i + j))) := by
    rw [← List.drop_drop, List.take_append_drop, List.take_append_drop]
  conv => rhs; rw [e]
  exact List.Perm.append_left _ (List.Perm.append_right _ hm)
/-- the pending runs lie one behind the other and end at e -/
noncomputable def Ch (p : List (Nat × Nat × Nat)) (e : Nat) : Prop := ∀ i r, p[i]? = some r → 1 ≤ r.2.1 ∧ r.1 + r.2.1 ≤ e ∧ ((p[i + 1]?).map (·.1)).getD e = r.1 + r.2.1
theorem Ch.nil : Ch [] 0 := fun i r h => by simp at h
theorem Ch.push {p : List (Nat × Nat × Nat)} {e n x : Nat} (h : Ch p e) (hn : 1 ≤ n) : Ch (p ++ [(e, n, x)]) (e + n) := by
  intro i r hr
  by_cases hi : i < p.length
  · rw [List.getElem?_append_left hi] at hr
    obtain ⟨a, b, c⟩ := h i r hr
    refine ⟨a, by omega, ?_⟩
    by_cases hi2 : i + 1 < p.length
    · rw [List.getElem?_append_left hi2]
      rw [List.getElem?_eq_getElem hi2] at c ⊢
      exact c
    · rw [List.getElem?_append_right (by omega)]
      rw [List.getElem?_eq_none (by omega)] at c
      rw [show i + 1 - p.length = 0 by omega]
      exact c
  · rw [List.getElem?_append_right (by omega)] at hr
    have : i - p.length = 0 := by
      cases q : i - p.length with
      | zero => rfl
      | succ m => rw [q] at hr; simp at hr
    rw [this] at hr
    cases hr
    refine ⟨hn, Nat.le_refl _, ?_⟩
    rw [List.getElem?_eq_none (by simp; omega)]
    rfl
theorem Ch.merge {p : List (Nat × Nat × Nat)} {e i sa na pw sb nb q : Nat} (h : Ch p e) (ha : p[i]? = some (sa, na, pw)) (hb : p[i + 1]? = some (sb, nb, q)) : Ch ((p.set i (sa, na + nb, pw)).eraseIdx (i + 1)) e := by
  obtain ⟨a1, a2, a3⟩ := h i _ ha
  obtain ⟨b1, b2, b3⟩ := h (i + 1) _ hb
  rw [hb] at a3
  dsimp only [Option.map, Option.getD] at a3
  dsimp only at a1 a2 b1 b2 b3
  have hl : i + 1 < p.length := (List.getElem?_eq_some_iff.mp hb).1
  intro j r hr
  simp only [List.getElem?_eraseIdx, List.getElem?_set, List.length_set] at hr ⊢
  by_cases c1 : j < i
  · rw [if_pos (by omega), if_neg (by omega)] at hr
    obtain ⟨x1, x2, x3⟩ := h j r hr
    refine ⟨x1, x2, ?_⟩
    by_cases c2 : j + 1 = i
    · subst c2
      rw [ha] at x3
      rw [if_pos (by omega), if_pos rfl, if_pos (by omega)]
      exact x3
    · rw [if_pos (by omega), if_neg (by omega)]
      exact x3
  · by_cases c2 : j = i
    · subst c2
      rw [if_pos (by omega), if_pos rfl, if_pos (by omega)] at hr
      cases hr
      dsimp only
      refine ⟨by omega, by omega, ?_⟩
      rw [if_neg (by omega), if_neg (by omega)]
      rw [b3]; omega
    · rw [if_neg (by omega), if_neg (by omega)] at hr
      rw [if_neg (by omega), if_neg (by omega)]
      exact h (j + 1) r hr
theorem Ch.pow {p : List (Nat × Nat × Nat)} {e i x : Nat} (h : Ch p e) : Ch (p.modify i fun r => (r.1, r.2.1, x)) e := by
  intro j r hr
  rw [List.getElem?_modify] at hr
  obtain ⟨r0, h0, rfl⟩ := Option.map_eq_some_iff.mp hr
  obtain ⟨a, b, c⟩ := h j r0 h0
  have key : ∀ k : Nat, ((p.modify i fun r => (r.1, r.2.1, x))[k]?).map (·.1) = (p[k]?).map (·.1) := by
    intro k
    rw [List.getElem?_modify]
    cases p[k]? with
    | none => rfl
    | some t =>
      show some (if i = k then (t.1, t.2.1, x) else t).1 = some t.1
      split <;> rfl
  rw [key]
  split
  · exact ⟨a, b, c⟩
  · exact ⟨a, b, c⟩
section
variable {prog : Program} {w : World} {A : Around} {E : Value → Shared → Prop} {s : Shared} {a₀ : Array Keyed}
/-- what stands all through the sort -/
structure PB (a₀ : Array Keyed) (st : SortSt) : Prop where
  perm : (arrOf st).Perm a₀
  kind : kindOf st = oneType'
  failed : failedOf st = none
theorem PB.size {st : SortSt} (h : PB a₀ st) : (arrOf st).size = a₀.size := h.perm.size_eq
theorem PB.all {st : SortSt} (h : PB a₀ st) (h0 : AllI a₀) : AllI (arrOf st) := fun p hp => h0 p ((Array.perm_iff_toList_perm.mp h.perm).mem_iff.mp hp)
theorem PB.setArr {st : SortSt} (h : PB a₀ st) {xs : Array Keyed} (hp : xs.Perm (arrOf st)) : PB a₀ (setArr st xs) := ⟨hp.trans h.perm, h.kind, h.failed⟩
theorem AllI.ext {xs : Array Keyed} (h : AllI xs) (i j : Nat) : AllI (xs.extract i j) := fun p hp => h p (by
  rw [ext_toList] at hp
  exact List.mem_of_mem_drop (List.mem_of_mem_take hp))
theorem wpS_set {st st2 : SortSt} {Q : PUnit → SortSt → Prop} (h : Q ⟨⟩ st2) : wpS (model prog w) A E s (set st2) Q st := by
  unfold wpS; rw [StateT.run_set]; exact wpAny_pure ⟨rfl, h⟩
theorem erase_toList (p : Array (Nat × Nat × Nat)) (i : Nat) (x : Nat × Nat × Nat) (hi : i + 1 < p.size) : ((p.setIfInBounds i x).eraseIdxIfInBounds (i + 1)).toList = (p.toList.set i x).eraseIdx (i + 1) := by
  rw [Array.eraseIdxIfInBounds_eq, dif_pos (by simpa using hi), Array.toList_eraseIdx, Array.toList_setIfInBounds]
theorem wpS_mergeAt {st : SortSt} {i e : Nat} {Q : Bool → SortSt → Prop} (h0 : AllI a₀) (hB : PB a₀ st) (hc : Ch (pendingOf st).toList e) (he : e ≤ a₀.size) (hi : i + 1 < (pendingOf st).size)
    (h : ∀ st', PB a₀ st' → Ch (pendingOf st').toList e → (pendingOf st').size + 1 = (pendingOf st).size → Q true st') : wpS (model prog w) A E s (mergeAt' i) Q st := by
  rw [mergeAt'_eq]
  refine wpS_bind (wpS_get ?_)
  obtain ⟨⟨sa, na, pw⟩, ea⟩ : ∃ r, (pendingOf st)[i]? = some r := ⟨_, getElem?_pos _ i (by omega)⟩
  obtain ⟨⟨sb, nb, q⟩, eb⟩ : ∃ r, (pendingOf st)[i + 1]? = some r := ⟨_, getElem?_pos _ (i + 1) hi⟩
  have ea' : (pendingOf st).toList[i]? = some (sa, na, pw) := by rw [← ea]; simp
  have eb' : (pendingOf st).toList[i + 1]? = some (sb, nb, q) := by rw [← eb]; simp
  have hC := Ch.merge hc ea' eb'
  obtain ⟨U, a1, b1, E⟩ : sa + na + nb ≤ (arrOf st).size ∧ 1 ≤ na ∧ 1 ≤ nb ∧ sb = sa + na := by
    obtain ⟨a1, a2, a3⟩ := hc i _ ea'
    obtain ⟨b1, b2, b3⟩ := hc (i + 1) _ eb'
    rw [eb'] at a3
    dsimp only [Option.map, Option.getD] at a3
    dsimp only at a1 a2 b1 b2
    rw [hB.size]
    exact ⟨by rw [← a3]; exact Nat.le_trans b2 he, a1, b1, a3⟩
  subst E
  rw [ea, eb]
  dsimp only
  have hpt := erase_toList (pendingOf st) i (sa, na + nb, pw) hi
  have hps : (((pendingOf st).setIfInBounds i (sa, na + nb, pw)).eraseIdxIfInBounds (i + 1)).size + 1 = (pendingOf st).size := by
    rw [← Array.length_toList, hpt, List.length_eraseIdx, if_pos (by rw [List.length_set, Array.length_toList]; exact hi), List.length_set, Array.length_toList]
    exact Nat.sub_add_cancel (Nat.le_trans (Nat.le_add_left 1 _) (Nat.le_of_lt hi))
  generalize ((pendingOf st).setIfInBounds i (sa, na + nb, pw)).eraseIdxIfInBounds (i + 1) = P at hpt hps
  rw [← hpt] at hC
  have hB2 : PB a₀ (setPending st P) := ⟨hB.perm, hB.kind, hB.failed⟩
  refine wpS_bind (wpS_set ?_)
  clear ea eb ea' eb' hc hpt hi he
  have hI := hB.all h0
  refine wpS_bind (wpS_elemP hI (by omega) fun p1 _ hp1 => ?_)
  refine wpS_bind (wpS_gallop hB2.kind hp1 hI (by omega) (by omega) fun k hk => ?_)
  dsimp only
  by_cases e1 : na - k = 0
  · rw [if_pos (by simpa using e1)]
    exact wpS_pure (h _ hB2 hC hps)
  rw [if_neg (by simpa using e1)]
  refine wpS_bind (wpS_elemP hI (by omega) fun p2 _ hp2 => ?_)
  refine wpS_bind (wpS_gallop hB2.kind hp2 hI (by omega) (by omega) fun k2 hk2 => ?_)
  dsimp only
  by_cases e2 : k2 = 0
  · rw [if_pos (by simpa using e2)]
    exact wpS_pure (h _ hB2 hC hps)
  rw [if_neg (by simpa using e2)]
  have fin : ∀ (out : Array Keyed) (st' : SortSt), Sim (setPending st P) st' → out.toList.Perm (((arrOf st).extract (sa + k) (sa + na)).toList ++ ((arrOf st).extract (sa + na) (sa + na + k2)).toList) →
      wpS (model prog w) A E s (do
        modify fun s => setArr s (List.foldl (fun a x => a.setIfInBounds (sa + k + x.snd) x.fst) (arrOf s) out.toList.zipIdx)
        let __do_lift ← get
        pure (failedOf __do_lift).isNone) Q st' := by
    rintro out st' ⟨g, rfl⟩ hp
    refine wpS_bind (wpS_modify ?_)
    refine wpS_bind (wpS_get (wpS_pure ?_))
    have hB3 : PB a₀ (setGal (setPending st P) g) := ⟨hB.perm, hB.kind, hB.failed⟩
    have hB4 := hB3.setArr (write_perm (xs := arrOf st) (sa := sa + k) (sb := sa + na) (se := sa + na + k2) (by omega) (by omega) (by omega) hp)
    have hf : (failedOf (setArr (setGal (setPending st P) g) (List.foldl (fun a x => a.setIfInBounds (sa + k + x.snd) x.fst) (arrOf st) out.toList.zipIdx))).isNone = true := by
      rw [hB4.failed]; rfl
    have := h _ hB4 hC hps
    rw [← hf] at this
    exact this
  have sx : ((arrOf st).extract (sa + k) (sa + na)).size = sa + na - (sa + k) := by rw [Array.size_extract]; omega
  have sy : ((arrOf st).extract (sa + na) (sa + na + k2)).size = k2 := by rw [Array.size_extract]; omega
  split
  · exact wpS_bind (wpS_mergeLo hB2.kind (hI.ext _ _) (hI.ext _ _) (by omega) (by omega) fun out st' hS hp => fin out st' hS hp)
  · exact wpS_bind (wpS_mergeHi hB2.kind (hI.ext _ _) (hI.ext _ _) (by omega) (by omega) fun out st' hS hp => fin out st' hS hp)
theorem wpS_ltAtP {st : SortSt} {i j : Nat} {Q : Option Bool → SortSt → Prop} (hB : PB a₀ st) (h0 : AllI a₀) (hi : i < a₀.size) (hj : j < a₀.size)
    (h : ∀ b, Q (some b) st) : wpS (model prog w) A E s (ltAt' i j) Q st := by
  rw [ltAt'_eq]
  refine wpS_bind (wpS_get ?_)
  have hI := hB.all h0
  have hsz := hB.size
  refine wpS_bind (wpS_elemP hI (by omega) fun p _ hp => ?_)
  refine wpS_bind (wpS_elemP hI (by omega) fun q _ hq => ?_)
  exact wpS_ltP hB.kind hp hq h
theorem wpS_binarySortP {st : SortSt} {lo n ok : Nat} {Q : Bool → SortSt → Prop} (h0 : AllI a₀) (hn : lo + n ≤ a₀.size) (hB : PB a₀ st)
    (h : ∀ st', PB a₀ st' → pendingOf st' = pendingOf st → Q true st') : wpS (model prog w) A E s (binarySort' lo n ok) Q st := by
  rw [binarySort'_eq]
  refine wpS_bind (wpS_mono (wpS_forRange (I := fun k c st' => c = (none, ()) ∧ PB a₀ st' ∧ pendingOf st' = pendingOf st)
    (Q := fun c st' => c = (none, ()) ∧ PB a₀ st' ∧ pendingOf st' = pendingOf st) ?step (fun _ _ h => h) ⟨rfl, hB, rfl⟩) ?post)
  case post =>
    rintro c st' ⟨rfl, hB', hp⟩
    exact wpS_pure (h st' hB' hp)
  case step =>
    rintro k c st' hak hkn ⟨rfl, hB', hp⟩
    refine wpS_bind (wpS_mono (wpS_forRange (I := fun x c st'' => st'' = st' ∧ ∃ l r, c = (none, l, r) ∧ r ≤ k)
      (Q := fun c st'' => st'' = st' ∧ ∃ l r, c = (none, l, r) ∧ r ≤ k) ?istep (fun _ _ h => h) ⟨rfl, 0, k, rfl, Nat.le_refl _⟩) ?ipost)
    case istep =>
      rintro x c st'' _ hxk ⟨rfl, l, r, rfl, hr⟩
      dsimp only
      by_cases hge : l ≥ r
      · rw [if_pos hge]
        exact wpS_pure ⟨rfl, l, r, rfl, hr⟩
      · rw [if_neg hge]
        refine wpS_bind (wpS_ltAtP hB' h0 (by omega) (by omega) fun b => ?_)
        dsimp only
        cases b with
        | true => exact wpS_pure ⟨rfl, _, _, rfl, by omega⟩
        | false => exact wpS_pure ⟨rfl, _, _, rfl, by omega⟩
    case ipost =>
      rintro c st'' ⟨rfl, l, r, rfl, hr⟩
      show wpS _ _ _ _ (do moveDown' (lo + k) (lo + l); pure (ForInStep.yield (none, ()))) _ _
      rw [moveDown'_eq]
      exact wpS_bind (wpS_modify (wpS_pure ⟨rfl, hB'.setArr (bubble_perm _ _ _), hp⟩))
theorem wpS_rev {st : SortSt} {i j : Nat} {Q : Unit → SortSt → Prop} (hB : PB a₀ st) (h : ∀ st', PB a₀ st' → pendingOf st' = pendingOf st → Q () st') :
    wpS (model prog w) A E s (reverseSlice' i j) Q st := by
  rw [reverseSlice'_eq]; exact wpS_modify (h _ (hB.setArr (mirror_perm _ _ _ _)) rfl)
theorem wpS_countRunP {st : SortSt} {lo nrem : Nat} {Q : Option Nat → SortSt → Prop} (h0 : AllI a₀) (hn : lo + nrem ≤ a₀.size) (h1 : 1 ≤ nrem) (hB : PB a₀ st)
    (h : ∀ m st', PB a₀ st' → pendingOf st' = pendingOf st → 1 ≤ m → m ≤ nrem → Q (some m) st') :
    wpS (model prog w) A E s (countRun' lo nrem) Q st := by
  rw [countRun'_eq]
  have asc : ∀ (a : Nat) (st1 : SortSt) (Q1 : Option (Option Nat) × Nat → SortSt → Prop), 1 ≤ a → a ≤ nrem → PB a₀ st1 → (∀ m, a ≤ m → m ≤ nrem → Q1 (none, m) st1) →
      wpS (model prog w) A E s (forIn [a:nrem] ((none, a) : Option (Option Nat) × Nat) fun _ __s => do
        let __x ← ltAt' (lo + __s.snd) (lo + __s.snd - 1)
        match __x with
        | some smaller => if smaller = true then pure (ForInStep.done (none, __s.snd)) else pure (ForInStep.yield (none, __s.snd + 1))
        | _ => pure (ForInStep.done (some none, __s.snd))) Q1 st1 := by
    intro a st1 Q1 ha ha2 hB1 hQ
    refine wpS_forRange (I := fun x c st' => st' = st1 ∧ c = (none, x)) ?step ?fin ⟨rfl, rfl⟩
    case fin =>
      rintro c st' ⟨rfl, rfl⟩
      exact hQ _ (by omega) (by omega)
    case step =>
      rintro x c st' hax hxn ⟨rfl, rfl⟩
      dsimp only
      refine wpS_bind (wpS_ltAtP hB1 h0 (by omega) (by omega) fun b => ?_)
      dsimp only
      cases b with
      | true => exact wpS_pure (hQ _ hax (by omega))
      | false => exact wpS_pure ⟨rfl, rfl⟩
  refine wpS_bind (asc 1 st _ (Nat.le_refl _) h1 hB fun n hn1 hn2 => ?_)
  dsimp only
  by_cases hnn : n = nrem
  · rw [if_pos (by simpa using hnn)]
    exact wpS_pure (h n st hB rfl hn1 hn2)
  rw [if_neg (by simpa using hnn)]
  have desc : ∀ (st1 : SortSt), PB a₀ st1 → pendingOf st1 = pendingOf st → wpS (model prog w) A E s (do
      rule "list.sort.descending-run"
      let mut n := n + 1
      let mut neq := 0
      for _ in [n:nrem] do
        let some smaller ← ltAt' (lo + n) (lo + n - 1) | return none
        if smaller then
          if neq > 0 then reverseSlice' (lo + n - (neq + 1)) (lo + n)
          neq := 0
        else
          let some larger ← ltAt' (lo + n - 1) (lo + n) | return none
          if larger then break
          neq := neq + 1
        n := n + 1
      if neq > 0 then reverseSlice' (lo + n - (neq + 1)) (lo + n)
      reverseSlice' lo (lo + n)
      for _ in [n:nrem] do
        let some smaller ← ltAt' (lo + n) (lo + n - 1) | return none
        if smaller then break
        n := n + 1
      return some n) Q st1 := by
    intro st1 hB1 hp1
    refine wpS_bind (wpS_lift (wpAny_rule ⟨rfl, ?_⟩))
    dsimp only
    refine wpS_bind (wpS_mono (wpS_forRange (I := fun x c st' => ∃ neq, c = (none, x, neq) ∧ PB a₀ st' ∧ pendingOf st' = pendingOf st)
      (Q := fun c st' => ∃ m neq, c = (none, m, neq) ∧ PB a₀ st' ∧ pendingOf st' = pendingOf st ∧ n + 1 ≤ m ∧ m ≤ nrem) ?step ?fin ⟨0, rfl, hB1, hp1⟩) ?post)
    case fin =>
      rintro c st' ⟨neq, rfl, hB', hp⟩
      exact ⟨_, neq, rfl, hB', hp, by omega, by omega⟩
    case step =>
      rintro x c st' hax hxn ⟨neq, rfl, hB', hp⟩
      dsimp only
      refine wpS_bind (wpS_ltAtP hB' h0 (by omega) (by omega) fun b => ?_)
      dsimp only
      cases b with
      | true =>
        rw [if_pos rfl]
        split
        · refine wpS_bind (wpS_rev hB' fun st2 hB2 hp2 => ?_)
          exact wpS_pure ⟨0, rfl, hB2, hp2.trans hp⟩
        · exact wpS_pure ⟨0, rfl, hB', hp⟩
      | false =>
        rw [if_neg (by decide)]
        refine wpS_bind (wpS_ltAtP hB' h0 (by omega) (by omega) fun b2 => ?_)
        dsimp only
        cases b2 with
        | true => exact wpS_pure ⟨x, neq, rfl, hB', hp, hax, by omega⟩
        | false => exact wpS_pure ⟨neq + 1, rfl, hB', hp⟩
    case post =>
      rintro c st' ⟨m, neq, rfl, hB', hp, hm1, hm2⟩
      dsimp only
      have last : ∀ st2, PB a₀ st2 → pendingOf st2 = pendingOf st → wpS (model prog w) A E s (do
          let mut n := m
          reverseSlice' lo (lo + n)
          for _ in [n:nrem] do
            let some smaller ← ltAt' (lo + n) (lo + n - 1) | return none
            if smaller then break
            n := n + 1
          return some n) Q st2 := by
        intro st2 hB2 hp2
        refine wpS_bind (wpS_rev hB2 fun st3 hB3 hp3 => ?_)
        refine wpS_bind (asc m st3 _ (by omega) hm2 hB3 fun k hk1 hk2 => ?_)
        exact wpS_pure (h k st3 hB3 (hp3.trans hp2) (by omega) hk2)
      by_cases hq : neq > 0
      · rw [if_pos hq]
        refine wpS_bind (wpS_rev hB' fun st2 hB2 hp2 => ?_)
        exact last st2 hB2 (hp2.trans hp)
      · rw [if_neg hq]
        exact last st' hB' hp
  by_cases hgt : n > 1
  · rw [if_pos hgt]
    refine wpS_bind (wpS_ltAtP hB h0 (by omega) (by omega) fun b => ?_)
    dsimp only
    cases b with
    | true =>
      rw [if_pos rfl]
      exact wpS_pure (h n st hB rfl hn1 hn2)
    | false =>
      rw [if_neg (by decide)]
      refine wpS_bind (wpS_rev hB fun st2 hB2 hp2 => ?_)
      exact desc st2 hB2 hp2
  · rw [if_neg hgt]
    exact desc st hB rfl
end
end Mine

-- So4
theorem Mine.noneSo4 : True := by
  k_with_none
  exact trivial
open PySem PyProof.Rows
namespace Mine
section
variable {prog : Program} {w : World} {A : Around} {E : Value → Shared → Prop} {s : Shared} {a₀ : Array Keyed}
theorem wpS_sortRunsP {st : SortSt} {Q : Unit → SortSt → Prop} (h0 : AllI a₀) (hB : PB a₀ st) (hp0 : pendingOf st = #[])
    (h : ∀ st', PB a₀ st' → Q () st') : wpS (model prog w) A E s sortRuns' Q st := by
  rw [sortRuns'_eq]
  refine wpS_bind (wpS_get ?_)
  dsimp only
  rw [hB.size]
  refine wpS_bind (wpS_mono (wpS_forRange
    (I := fun x c st' => ∃ lo, c = (none, lo) ∧ lo ≤ a₀.size ∧ PB a₀ st' ∧ Ch (pendingOf st').toList lo)
    (Q := fun c st' => ∃ lo, c = (none, lo) ∧ lo ≤ a₀.size ∧ PB a₀ st' ∧ Ch (pendingOf st').toList lo) ?step (fun _ _ h => h) ⟨0, rfl, Nat.zero_le _, hB, by rw [hp0]; exact Ch.nil⟩) ?post)
  case step =>
    rintro x c st' _ hx ⟨lo, rfl, hlo, hB', hC⟩
    dsimp only
    by_cases hge : lo ≥ a₀.size
    · rw [if_pos hge]
      exact wpS_pure ⟨lo, rfl, hlo, hB', hC⟩
    rw [if_neg hge]
    refine wpS_bind (wpS_countRunP h0 (by omega) (by omega) hB' fun m st2 hB2 hp2 hm1 hm2 => ?_)
    dsimp only
    have push : ∀ n st4, 1 ≤ n → PB a₀ st4 → Ch (pendingOf st4).toList lo → PB a₀ (setPending st4 ((pendingOf st4).push (lo, n, 0))) ∧ Ch (pendingOf (setPending st4 ((pendingOf st4).push (lo, n, 0)))).toList (lo + n) := by
      intro n st4 hn hB4 hC4
      refine ⟨⟨hB4.perm, hB4.kind, hB4.failed⟩, ?_⟩
      show Ch ((pendingOf st4).push (lo, n, 0)).toList (lo + n)
      rw [Array.toList_push]
      exact hC4.push hn
    by_cases hlt : m < minRun' a₀.size a₀.size 0
    rw [if_pos hlt]
    refine wpS_bind (wpS_lift (wpAny_rule ⟨rfl, ?_⟩))
    refine wpS_bind (wpS_binarySortP h0 (by omega) hB2 fun st3 hB3 hp3 => ?_)
    simp only [Bool.not_true, Bool.false_eq_true, if_false]
    have hn : 1 ≤ min (a₀.size - lo) (minRun' a₀.size a₀.size 0) := by omega
    have hln : lo + min (a₀.size - lo) (minRun' a₀.size a₀.size 0) ≤ a₀.size := by omega
    have hC3 : Ch (pendingOf st3).toList lo := by rw [hp3, hp2]; exact hC
    rotate_left
    rw [if_neg hlt]
    have hB3 := hB2
    have hn := hm1
    have hln : lo + m ≤ a₀.size := by omega
    have hC3 : Ch (pendingOf st2).toList lo := by rw [hp2]; exact hC
    all_goals
      refine wpS_bind (wpS_get ?_)
      cases hb : (pendingOf _).back? with
      | none =>
        dsimp only
        exact wpS_bind (wpS_modify (wpS_pure ⟨_, rfl, hln, push _ _ hn hB3 hC3⟩))
      | some r =>
        obtain ⟨s1, n1, q1⟩ := r
        dsimp only
        refine wpS_bind (wpS_mono (wpS_forRange
          (I := fun x c st' => c = (none, ()) ∧ PB a₀ st' ∧ Ch (pendingOf st').toList lo)
          (Q := fun c st' => c = (none, ()) ∧ PB a₀ st' ∧ Ch (pendingOf st').toList lo) ?istep (fun _ _ h => h) ⟨rfl, hB3, hC3⟩) ?ipost)
        case ipost =>
          rintro c st4 ⟨rfl, hB4, hC4⟩
          refine wpS_bind (wpS_modify ?_)
          have hB5 : ∀ x, PB a₀ (setPending st4 ((pendingOf st4).modify ((pendingOf st4).size - 1) fun r => (r.1, r.2.1, x))) := fun x => ⟨hB4.perm, hB4.kind, hB4.failed⟩
          refine wpS_bind (wpS_modify (wpS_pure ⟨_, rfl, hln, push _ _ hn (hB5 _) ?_⟩))
          show Ch ((pendingOf st4).modify ((pendingOf st4).size - 1) fun r => (r.1, r.2.1, _)).toList lo
          rw [Array.toList_modify]
          exact hC4.pow
        case istep =>
          rintro y c st4 _ hy ⟨rfl, hB4, hC4⟩
          refine wpS_bind (wpS_get ?_)
          by_cases hsz : (pendingOf st4).size > 1
          · rw [if_pos hsz]
            obtain ⟨⟨sa, na, pw⟩, ea⟩ : ∃ r, (pendingOf st4)[(pendingOf st4).size - 2]? = some r := ⟨_, getElem?_pos _ ((pendingOf st4).size - 2) (by omega)⟩
            rw [ea]
            dsimp only
            split
            · exact wpS_pure ⟨rfl, hB4, hC4⟩
            · refine wpS_bind (wpS_mergeAt h0 hB4 hC4 (by omega) (by omega) fun st5 hB5 hC5 _ => ?_)
              exact wpS_pure ⟨rfl, hB5, hC5⟩
          · rw [if_neg hsz]
            exact wpS_pure ⟨rfl, hB4, hC4⟩
  case post =>
    rintro c st' ⟨lo, rfl, hlo, hB', hC⟩
    dsimp only
    refine wpS_bind (wpS_mono (wpS_forRange
      (I := fun x c st' => c = (none, ()) ∧ PB a₀ st' ∧ Ch (pendingOf st').toList lo)
      (Q := fun c st' => c = (none, ()) ∧ PB a₀ st' ∧ Ch (pendingOf st').toList lo) ?lstep (fun _ _ h => h) ⟨rfl, hB', hC⟩) ?lpost)
    case lpost =>
      rintro c st4 ⟨rfl, hB4, hC4⟩
      exact wpS_pure (h _ hB4)
    case lstep =>
      rintro y c st4 _ hy ⟨rfl, hB4, hC4⟩
      refine wpS_bind (wpS_get ?_)
      by_cases hsz : (pendingOf st4).size ≤ 1
      · rw [if_pos hsz]
        exact wpS_pure ⟨rfl, hB4, hC4⟩
      · rw [if_neg hsz]
        refine wpS_bind (wpS_mergeAt h0 hB4 hC4 hlo ?_ fun st5 hB5 hC5 _ => ?_)
        · have hle : ∀ (b : Bool) (i : Nat), (if b = true then i - 1 else i) ≤ i := by
            intro b i; cases b <;> simp
          exact Nat.lt_of_le_of_lt (Nat.succ_le_succ (hle _ _)) (by omega)
        · exact wpS_pure ⟨rfl, hB5, hC5⟩
theorem perm_out {vs : List Value} {ns : List Int} (hI : IntsAre vs ns) {xs : Array Keyed} (hp : xs.Perm (pairsOf vs)) :
    ∃ ns', IntsAre (xs.map (·.2)).toList ns' ∧ ns'.Perm ns := by
  have hl : xs.toList.Perm (vs.zip vs) := by rw [← pairsOf_toList]; exact Array.perm_iff_toList_perm.mp hp
  have hmem : ∀ p, p ∈ xs.toList → p.1 = p.2 ∧ p.1 ∈ vs := fun p hp' => mem_zip_self (hl.mem_iff.mp hp')
  refine ⟨xs.toList.map (fun p => numOf p.1), ?_, ?_⟩
  · have e : (xs.map (·.2)).toList = xs.toList.map (·.1) := by
      rw [Array.toList_map]; exact List.map_congr_left fun p hp' => (hmem p hp').1.symm
    rw [e]
    have h1 := intsAre_map (xs.toList.map (·.1)) (by
      intro v hv
      obtain ⟨p, hp', rfl⟩ := List.mem_map.mp hv
      exact hI.all _ (hmem p hp').2)
    rwa [List.map_map] at h1
  · have h1 := hl.map (fun p => numOf p.1)
    have e2 : (vs.zip vs).map (fun p => numOf p.1) = ns := by
      have : (vs.zip vs).map (fun p => numOf p.1) = ((vs.zip vs).map Prod.fst).map numOf := by rw [List.map_map]; rfl
      rw [this, List.map_fst_zip (Nat.le_refl _), hI.nums]
    rwa [e2] at h1
/-- list.sort of ints of any number: it ends, and gives the same ints in some order -/
theorem list_sort_perm {a : Addr} {vs : List Value} {ns : List Int} {n : Nat} {P : Fin → Shared → Prop} (ho : s.heap.get? a = some (seqObj "list" vs.toArray n))
    (hI : IntsAre vs ns) (hlen : vs.length ≤ 9000)
    (h : ∀ (out : Array Value) (ns' : List Int), IntsAre out.toList ns' → ns'.Perm ns → P (.done (.ret .none)) { s with heap := sortedHeap s.heap a vs out }) :
    wpAny (model prog w) A (Builtin.«list.sort» ⟨[.ref a], []⟩) P E s := by
  have hszl : vs.toArray.size = vs.length := by simp
  rw [list_sort_plain]
  have ha : a < s.heap.objs.size := Heap.lt_size ho
  refine wpAny_bind (listItems_at ho rfl ?_)
  refine wpAny_bind (listUpdate_at ho rfl ?_ (by rw [hszl, sizeLine_eq]; omega))
  obtain ⟨e1, ho1⟩ : ∃ e1, (s.heap.update a (Obj.mapSeq fun _ => #[])).get? a = some (seqObj "list" #[] e1) := ⟨_, get?_update_seq ho (fun _ => #[])⟩
  refine wpAny_bind (seqEpoch_at ho1 rfl ?_)
  refine wpAny_bind (wpAny_newTuple ?_)
  refine wpAny_bind (wpAny_newList ?_)
  refine wpAny_holding ?_
  have ho6 : (((s.heap.update a (Obj.mapSeq fun _ => #[])).push (seqObj "tuple" vs.toArray 0)).push (seqObj "list" #[] 0)).get? a = some (seqObj "list" #[] e1) := by
    rw [Heap.get?_push_ne _ _ _ (by rw [size_push', Heap.size_update]; exact Nat.ne_of_lt (Nat.lt_succ_of_lt ha)), Heap.get?_push_ne _ _ _ (by rw [Heap.size_update]; exact Nat.ne_of_lt ha)]
    exact ho1
  show wpAny (model prog w) A _ P E { s with heap := ((s.heap.update a (Obj.mapSeq fun _ => #[])).push (seqObj "tuple" vs.toArray 0)).push (seqObj "list" #[] 0) }
  dsimp only
  have fin : ∀ st' : SortSt, (arrOf st').Perm (pairsOf vs) → P (.done (.ret .none)) { s with heap := sortedHeap s.heap a vs ((arrOf st').map (·.2)) } := by
    intro st' hp
    obtain ⟨ns', h1, h2⟩ := perm_out hI hp
    exact h _ ns' h1 h2
  by_cases h2 : vs.toArray.size < 2
  · rw [if_pos h2, if_pos h2]
    refine wpAny_bind (wpAny_pure ?_)
    rw [StateT.run_pure]
    refine wpAny_bind (wpAny_pure ?_)
    dsimp only
    refine wpAny_bind (seqEpoch_at ho6 rfl ?_)
    refine wpAny_bind (listUpdate_at ho6 rfl ?_ (hsz2 := by rw [Array.size_map]; show (pairsOf vs).size ≤ _; rw [pairsOf_size, sizeLine_eq]; omega))
    simp only [bne_self_eq_false, Bool.false_eq_true, if_false]
    exact wpAny_pure (fin (SortSt.mk' general' (vs.toArray.zip vs.toArray) #[] 7 none) (Array.Perm.refl _))
  · rw [if_neg h2, if_neg h2]
    obtain ⟨v₁, v₂, rest, rfl⟩ : ∃ v₁ v₂ rest, vs = v₁ :: v₂ :: rest := by
      match vs, hszl, h2 with
      | [], _, h2 => simp at h2
      | [_], _, h2 => simp at h2
      | v₁ :: v₂ :: rest, _, _ => exact ⟨v₁, v₂, rest, rfl⟩
    rw [keyKind_ints hI]
    refine wpAny_bind (wpAny_pure ?_)
    refine wpAny_bind (wpAny_mono (wpS_sortRunsP (a₀ := pairsOf (v₁ :: v₂ :: rest)) (st := SortSt.mk' oneType' ((v₁ :: v₂ :: rest).toArray.zip (v₁ :: v₂ :: rest).toArray) #[] 7 none)
      (Q := fun _ st' => (arrOf st').Perm (pairsOf (v₁ :: v₂ :: rest)) ∧ failedOf st' = none)
      hI.intKeys ⟨Array.Perm.refl _, rfl, rfl⟩ rfl fun st' a1 => ⟨a1.perm, a1.failed⟩) ?_ fun _ _ e => e)
    rintro ⟨⟨⟩, st'⟩ s' ⟨rfl, hp, hf⟩
    dsimp only
    refine wpAny_bind (seqEpoch_at ho6 rfl ?_)
    refine wpAny_bind (listUpdate_at ho6 rfl ?_ (hsz2 := by refine Nat.le_trans (Nat.le_of_eq ((Array.size_map ..).trans (hp.size_eq.trans (pairsOf_size _)))) ?_; rw [sizeLine_eq]; omega))
    rw [hf]
    simp only [bne_self_eq_false, Bool.false_eq_true, if_false]
    exact wpAny_pure (fin st' hp)
end
end Mine

-- Cv
theorem Mine.noneCv : True := by
  k_with_none
  exact trivial
namespace Mine
section
local macro_rules | `(tactic| k_ne) => `(tactic| first | assumption | (refine Ne.symm ?_; assumption) | exact AllAp.ne (by assumption) (by k_memK) | exact (AllAp.ne (by assumption) (by k_memK)).symm)
local macro_rules | `(tactic| k_all) => `(tactic| assumption)
local macro_rules | `(tactic| walk_at $s:str) => `(tactic| k_extra $s)
noncomputable abbrev cvDict (w : World) (v : Value) (tk : Tok) : Obj := dictOf [⟨PyData.keyHash w.params (Str.ofString "glyphs"), .str (Str.ofString "glyphs") tk, v⟩] 1
set_option maxHeartbeats 4000000 in
theorem coverage_new {w : World} {mg mb : Str → Option Value} {A : Around} {E : Value → Shared → Prop} {Q : Value → Shared → Prop} {s : Shared} {h₀ : Heap} {L : Addr} {m : Str → Option Value} {news : List (Addr × Obj)} {t : Addr} (lo : Low A 240)
  (c : Cx w mg mb h₀) (F : Fr h₀ L s.heap m) (N : News h₀ L s.heap news)
  (ret : ∀ D dx tk h' tk', Fr h₀ L h' m → News h₀ L h' ((D, instObj 60 dx) :: (dx, cvDict w (.ref t) tk) :: news) → AllAp dx news → AllAp D ((dx, cvDict w (.ref t) tk) :: news) → Q (.ref D) { s with heap := h', toks := tk' }) :
  wpAny (model Pg w) A (call (.ref 60) [.ref t]) Q E s := by
  refine wpAny_low lo ?_
  have X := c.K
  k_dflt (refine' call_cls (fI := 36) F X N ?k4 ?k5 ?k6 ?_; (case k4 => k_is); (case k5 => k_is); (case k6 => k_is); k_whole; intro x dx h1 F1 N1 l1 l2)
  have on := On.of (mod := [x, dx]) c F1 N1 (by intro a ha; rcases List.mem_cons.mp ha with rfl | ha; exact ⟨_, .head _⟩; cases List.mem_singleton.mp ha; exact ⟨_, .tail _ (.head _)⟩)
  have X := on.cx.K
  have T := on.cx.T
  have hxd : x ≠ dx := Nat.ne_of_gt l2
  k_dflt (refine' enterC (K := Mine.hd.heap_39 w.params) [(x, instObj 60 dx), (dx, dictOf [] 0)] X T.nolimit ?k6 ?k7 ?k8 ?k9 ?kB ?kN ?_ ?c2 ?c3 ?c4 ?c5; (case k6 => k_is); (case k7 => k_is); (case k8 => k_room); (case k9 => exact BindsTo.of_eq rfl); (case c5 => decide); (case kB => exact locs rfl); (case c2 => exact rfl); (case c3 => exact rfl); (case c4 => exact rfl); (case kN => exact Has.of N1 (by intro p hp; rcases List.mem_cons.mp hp with rfl | hp; exact .head _; cases List.mem_singleton.mp hp; exact .tail _ (.head _))); k_whole; intro g' L' h' hg' hL' F' N'; (try dsimp only))
  have Cg := on.hide; rw [show ([x, dx] : List Addr) = ([(x, instObj 60 dx), (dx, dictOf [] 0)] : List (Addr × Obj)).map (·.1) from rfl, ← hg'] at Cg
  have Xg := Cg.K
  have Tg := Cg.T
  clear X T
  all_goals (try k_fold)
  k_steps
  all_goals dsimp only [InitBack]
  refine ⟨rfl, ?_⟩
  rename Fr _ _ _ _ => FF
  rename News _ _ _ _ => NN
  have S := Same.of_fr FF hg'
  have Nn : News h₀ L h1 news := fun p hp => N1 p (.tail _ (.tail _ hp))
  have hx := (N1 _ (.head _)).2
  have hd := (N1 _ (.tail _ (.head _))).2
  have nx : ∀ p ∈ news, p.1 ∉ [x, dx] := fun p hp hm => by
    have := l1 p hp
    rcases List.mem_cons.mp hm with e | hm
    · exact Nat.ne_of_lt (Nat.lt_trans this l2) e
    · exact Nat.ne_of_lt this (List.mem_singleton.mp hm)
  have F2 := Fr.same F1 S (fun hm => by
      rcases List.mem_cons.mp hm with e | hm
      · exact hx.1 e.symm
      · exact hd.1 (List.mem_singleton.mp hm).symm) (fun a ha => by
      rcases List.mem_cons.mp ha with e | hm
      · rw [e]; exact hx.2
      · rw [List.mem_singleton.mp hm]; exact hd.2)
  have N2 := News.same Nn S nx
  refine ret x dx _ _ _ F2 (News.turn N1 (new := [(x, _), (dx, _)]) (fun p hp => (NN p hp).1) ?_ N2) ⟨fun p hp => Nat.ne_of_lt (l1 p hp)⟩ ⟨?_⟩
  · intro p hp
    rcases List.mem_cons.mp hp with rfl | hp
    · exact ⟨_, .head _⟩
    · cases List.mem_singleton.mp hp; exact ⟨_, .tail _ (.head _)⟩
  · intro p hp
    rcases List.mem_cons.mp hp with rfl | hp
    · exact Nat.ne_of_lt l2
    · exact Nat.ne_of_lt (Nat.lt_trans (l1 p hp) l2)
end
end Mine

-- Co
theorem Mine.noneCo : True := by
  k_with_none
  exact trivial
namespace Mine
section
open PySem.Calls PyProof.V PySem.Spec
variable {prog : Program} {w : World} {A : Around} {E : Value → Shared → Prop} {s : Shared} {h₀ : Heap} {L d : Addr} {m : Str → Option Value} {news : List (Addr × Obj)} {Q : Value → Shared → Prop} {oo : Obj} {kvs : List (Int × Value)} {ks : List Int}
/-- sorted(dict of ints), any number of keys: the keys in some order -/
theorem sorted_led (hh : A.handled = none) (lo : (d == sysModules) = false) (F : Fr h₀ L s.heap m) (N : News h₀ L s.heap news) (hm : (d, oo) ∈ news) (hd : oo.IsDictOf (PySem.intKind prog w) kvs) (hf : FlatPairs PyData.int kvs (trueD ks)) (hlen : ks.length ≤ 9000)
    (h : ∀ B c h' tk us ns', Fr h₀ L h' m → News h₀ L h' ((B, listOf us.toArray c) :: news) → (∀ q ∈ news, q.1 < B) → IntsAre us ns' → ns'.Perm ks → Q (.ref B) { s with heap := h', toks := tk }) :
    wpAny (model prog w) A (call (.builtin "sorted") [.ref d]) Q E s := by
  have hDO : s.heap.DictOf (PySem.intKind prog w) d kvs := Heap.dictOf_iff.mpr ⟨oo, (N _ hm).1, hd⟩
  obtain ⟨ep, hat⟩ := hDO.dictAt
  have hkl := key_len hf
  refine kdu_sorted (kdl_dict (knd := PySem.intKind prog w) (kvs := kvs) (ep := ep) lo) hh F N hat (by rw [hkl, sizeLine_eq]; omega) fun B h' tk vs F' N' l1 hl hv => ?_
  have hvi : IntsAre vs ks := kdy_ints (by rw [hl, hkl]) fun j v hv' => by
    obtain ⟨k, x', hx, hk⟩ := hv j v hv'
    obtain ⟨hj, t, rfl⟩ := key_at hf hx hk
    exact ⟨k, hj, t, rfl⟩
  have z := N' _ (.head _)
  refine wpAny_call_entry PyProof.Rows.slot_list_sort ⟨_, z.1, rfl⟩ PyProof.Rows.entry_list_sort (list_sort_perm (n := 0) z.1 hvi (by rw [hvi.length]; exact hlen) fun out ns' hI hp => ⟨.none, rfl, ?_⟩) (PyProof.Rows.args_list_sort _)
  obtain ⟨c, hc⟩ := sortedHeap_at (vs := vs) (out := out) z.1
  have F4 : Fr h₀ L (sortedHeap h' B vs out) m :=
    ksk_fr (((ksk_fr F' (Heap.SameBut.update h' B (Obj.mapSeq fun _ => #[])) z.2.1 z.2.2).push (seqObj "tuple" vs.toArray 0)).push (seqObj "list" #[] 0)) (Heap.SameBut.update _ B (Obj.mapSeq fun _ => out)) z.2.1 z.2.2
  refine h B c _ _ out.toList ns' F4 (fun p hp => ?_) l1 hI hp
  rcases List.mem_cons.mp hp with rfl | hq
  · exact ⟨hc, z.2⟩
  · have y := N' p (.tail _ hq)
    exact ⟨(sortedHeap_old (Nat.ne_of_lt (l1 p hq)) (Heap.lt_size y.1)).trans y.1, y.2⟩
end
noncomputable abbrev tupZ (us : List Value) (nn : Nat) : Obj := { cls := .type "tuple", data := .seq us.toArray nn }
noncomputable def keysZ (ns : List Int) : List Int := ns.foldl keyPut []
theorem keysZ_take {ns : List Int} {i : Nat} {g : Int} (h : ns[i]? = some g) : keysZ (ns.take (i + 1)) = keyPut (keysZ (ns.take i)) g := by
  unfold keysZ
  rw [List.take_add_one, h, List.foldl_append]; rfl
section
local macro_rules | `(tactic| k_ne) => `(tactic| first | assumption | (refine Ne.symm ?_; assumption) | exact AllAp.ne (by assumption) (by k_memK) | exact (AllAp.ne (by assumption) (by k_memK)).symm)
local macro_rules | `(tactic| k_all) => `(tactic| assumption)
local macro_rules | `(tactic| walk_at $s:str) => `(tactic| k_extra $s)
set_option maxHeartbeats 4000000 in
theorem coverage_of_spec {w : World} {mg mb : Str → Option Value} {A : Around} {E : Value → Shared → Prop} {Q : Value → Shared → Prop} {s : Shared} {R : Addr} {vs : List Value} {ns : List Int} (lo : Low A 230)
  (on : On w mg mb [] s.heap) (hR : s.heap.IsList R vs.toArray) (hi : IntsAre vs ns) (hlen : ns.length ≤ 500)
  (ret : ∀ D dx t us nn tk ns' h' tk', IntsAre us ns' → ns'.Perm (keysZ ns) → Has h' [(D, instObj 60 dx), (dx, cvDict w (.ref t) tk), (t, tupZ us nn)] → s.heap.get? D = none → s.heap.get? dx = none → s.heap.get? t = none → D ≠ dx → D ≠ t → dx ≠ t → Same [] s.heap h' → Q (.ref D) { s with heap := h', toks := tk' }) :
  wpAny (model Pg w) A (call (.ref 71) [.ref R]) Q E s := by
  refine wpAny_low lo ?_
  have Ct := on.cx
  have X := Ct.K
  have T := Ct.T
  k_dflt (refine' enterK (K := Mine.hd.heap_39 w.params) [] X T.nolimit ?k6 ?k7 ?k8 ?k9 ?kB ?kN ?_ ?c2 ?c3 ?c4 ?c5; (case k6 => k_is); (case k7 => k_is); (case k8 => k_room); (case k9 => exact BindsTo.of_eq rfl); (case c5 => decide); (case kB => exact locs rfl); (case c2 => exact rfl); (case c3 => exact rfl); (case c4 => exact rfl); (case kN => exact has_nil); k_whole; intro g' L' h' hg' hL' F' N'; (try dsimp only))
  have Cg := on.hide; rw [show ([] : List Addr) = ([] : List (Addr × Obj)).map (·.1) from rfl, ← hg'] at Cg
  have Xg := Cg.K
  have Tg := Cg.T
  clear Ct X T
  have eg : g' = s.heap := hg'
  subst eg
  k_with_none
  k_with "eval Dict nil nil" => (k_dflt (refine' newDict_K ?k1 ?k2 (TopRead.nolimit (by k_asm)) ?_; (case k1 => k_asm); (case k2 => k_asm); k_whole); intro d h1 o F' N' l1 lo1 hs1 fs1 hi1 fi1; clear hs1 fs1; (try k_sweep))
  k_with "exec For Name Name cons nil" => (refine For_invT s.heap ?_ (fun _ => rfl))
  k_with "setItem ref int bool" => (k_dflt (refine' key_set ?F ?N ?U (by assumption) (by assumption) (by omega) ?_; (case F => k_asm); (case N => k_asm); (case U => k_updF)); intro h' o' kvs' F' N' hd' hf'; (try dsimp only at N'); (try k_sweep))
  k_with "call builtin:sorted" => (k_dflt (refine' sorted_led rfl lo1 ?F ?N ?M hI1 hI2 ?W ?_; (case F => k_asm); (case N => k_asm); (case M => k_mem); (case W => omega)); intro B cB hB tkB us ns' F' N' lB hUs hPm; (have lB' := lB); (have hUl := hUs.length); (have hPl := hPm.length_eq); k_lt lB'; (try k_sweep))
  k_with "call type:tuple" => (k_dflt (refine' kde_tupleOf ?k1 ?k2 ?k3 ?k4 ?k5 ?_; (case k1 => k_asm); (case k2 => k_asm); (case k3 => exact News.isList (by k_asm) (by k_mem)); (case k4 => (simp only [List.size_toArray]; omega)); (case k5 => exact (rfl : us.toArray.toList = us)); k_whole); intro T1 hT1 F' N' lT1; (have lT' := lT1); k_lt lT'; (try k_sweep))
  k_with "call ref" => (k_dflt (refine' coverage_new ?lo ?c ?F ?N ?_; (case lo => exact ⟨rfl, rfl, Nat.le_of_ble_eq_true rfl, Nat.le_of_ble_eq_true rfl⟩); (case c => assumption); (case F => k_asm); (case N => k_asm); k_whole); intro D dx tkD hD tkD' F' N' ap1 ap2; (try k_sweep))
  k_with "pyIter ref" => (
    rename Fr _ _ _ _ => lF
    rename News _ _ _ _ => lN
    refine loop_list (σ := Obj × List (Int × Value) × List Int) (fun c => [(d, c.1)]) [d] [] [Str.ofString "glyph"] (fun i c gr => c.1.IsDictOf (PySem.intKind Pg w) c.2.1 ∧ PyProof.V.FlatPairs PyData.int c.2.1 (trueD c.2.2) ∧ c.2.2 = keysZ (ns.take i) ∧ c.2.2.length ≤ i ∧ gr = []) (o, [], []) rfl (list_keeps hR lF.keep) (.inl (list_some hR)) lF lN (fun _ => rfl) (fun _ h => nomatch h) ⟨hi1, fi1, rfl, Nat.le_refl _, rfl⟩ ?_ ?_
    rotate_left
    rintro ⟨oo, kvs, ks⟩ gr u h tk9 ⟨hI1, hI2, hI3, hI4, rfl⟩ hga F' N'
    clear lF lN
    simp only [List.cons_append, List.nil_append, List.append_nil] at N'
    dsimp only at hI1 hI2 hI3 hI4
    have hvl := hi.length
    try dsimp only
    (first | (refine letT ?_; intro te) | (try k_fold))
    rotate_left
    intro i v cc1 gr u s₁ rest hv cc2 hgr _ hrest F' N'
    refine letT ?_
    intro te
    obtain ⟨oo, kvs, ks⟩ := cc1
    obtain ⟨hI1, hI2, hI3, hI4, rfl⟩ := cc2
    have hil : i < ns.length := by
      rw [← hi.length]; exact (List.getElem?_eq_some_iff.mp hv).1
    obtain ⟨t, hx⟩ := hi.get i (ns[i]'hil) (List.getElem?_eq_getElem hil)
    rw [hx] at hv; cases hv
    have hng : ns[i]? = some (ns[i]'hil) := List.getElem?_eq_getElem hil
    revert hng; generalize ns[i]'hil = g; intro hng
    dsimp only [List.cons_append, List.nil_append] at N'
    dsimp only at hI1 hI2 hI3 hI4
    have hn1 : ∀ p ∈ rest, p.1 ≠ d := fun p hp e => hrest p hp (e ▸ .head _)
    clear lF lN
    try dsimp only
    (first | (refine letT ?_; intro te) | (try k_fold)))
  all_goals (try k_fold)
  k_steps
  all_goals (try dsimp only)
  · rename Fr _ _ _ _ => FF
    rename News _ _ _ _ => NN
    rename Obj.IsDictOf _ _ _ => hd9
    rename PyProof.V.FlatPairs _ _ _ => hf9
    refine TurnEndG.intro (_, _, keyPut ks g) [] FF NN (fun _ h => nomatch h) (fun _ h => nomatch h) (fun z hz => by (repeat (first | with_reducible exact rfl | refine ov_if rfl hz ?_ | refine ov_sub rfl hz ?_))) ⟨hd9, hf9, ?_, ?_, rfl⟩
    · dsimp only
      rw [keysZ_take hng, hI3]
    · have := keyPut_len ks g
      dsimp only
      omega
  · rename Fr _ _ _ _ => FF
    rename News _ _ _ _ => NN
    refine ret D dx T1 us 0 tkD ns' hD _ hUs (hPm.trans (by rw [hI3, hvl, List.take_length])) (fun p hp => ?_) (NN _ (.head _)).2.2 (NN _ (.tail _ (.head _))).2.2 (NN _ (.tail _ (.tail _ (.head _)))).2.2 (by k_ne) (by k_ne) (by k_ne) (Same.of_fr FF hg')
    rcases List.mem_cons.mp hp with rfl | hp
    · exact (NN _ (.head _)).1
    rcases List.mem_cons.mp hp with rfl | hp
    · exact (NN _ (.tail _ (.head _))).1
    cases List.mem_singleton.mp hp
    exact (NN _ (.tail _ (.tail _ (.head _)))).1
end
end Mine

-- Do
theorem Mine.noneDo : True := by
  k_with_none
  exact trivial
namespace Mine
theorem ranges_of_call {w : World} {mg mb : Str → Option Value} {A : Around} {E : Value → Shared → Prop} {Q : Value → Shared → Prop} {s : Shared} {h₀ : Heap} {L : Addr} {m : Str → Option Value} {news : List (Addr × Obj)} {T : Addr} {vs : List Value} {ns : List Int} (lo : Low A 240)
  (c : Cx w mg mb h₀) (F : Fr h₀ L s.heap m) (N : News h₀ L s.heap news) (hT : s.heap.IsTuple T vs.toArray) (hi : IntsAre vs ns) (hlen : ns.length ≤ 5000)
  (ret : ∀ R us nn gr h' tk', PairsIn gr us (runsZ ns) → Fr h₀ L h' m → News h₀ L h' ((R, listOf us.toArray nn) :: (gr ++ news)) → (∀ p ∈ (R, listOf us.toArray nn) :: gr, ∀ q ∈ news, p.1 ≠ q.1) → (∀ p ∈ gr, p.1 ≠ R) → Q (.ref R) { s with heap := h', toks := tk' }) :
  wpAny (model Pg w) A (call (.ref 78) [.ref T]) Q E s := by
  refine ranges_of_spec lo (On.of c F N (fun a ha => nomatch ha)) hT hi hlen fun R us nn gr h' tk' hP H hf hne S => ?_
  have N' : News h₀ L h' news := News.same N S (fun p _ h => nomatch h)
  exact ret R us nn gr h' tk' hP (Fr.same F S (fun h => nomatch h) (fun a h => nomatch h)) (News.join F N' H hf) (News.ne_fresh N hf) hne
section
local macro_rules | `(tactic| k_ne) => `(tactic| first | assumption | (refine Ne.symm ?_; assumption) | exact AllAp.ne (by assumption) (by k_memK) | exact (AllAp.ne (by assumption) (by k_memK)).symm)
local macro_rules | `(tactic| k_all) => `(tactic| assumption)
local macro_rules | `(tactic| walk_at $s:str) => `(tactic| k_extra $s)
set_option maxHeartbeats 4000000 in
theorem digest_of_spec {w : World} {mg mb : Str → Option Value} {A : Around} {E : Value → Shared → Prop} {Q : Value → Shared → Prop} {s : Shared} {C cd tu : Addr} {tkc : Tok} {vs : List Value} {ns : List Int} (lo : Low A 230)
  (on : On w mg mb [C, cd] s.heap) (hC : Has s.heap [(C, instObj 60 cd), (cd, cvDict w (.ref tu) tkc)]) (hT : s.heap.IsTuple tu vs.toArray) (hTC : tu ≠ C) (hTd : tu ≠ cd) (hi : IntsAre vs ns) (hlen : ns.length ≤ 500)
  (ret : ∀ D dx rl tk a b c t0 t1 t2 h' tk', (a, b, c) = rowsFold (runsZ ns) → Has h' (dgL w D dx rl tk a t0 b t1 c t2) → s.heap.get? D = none → s.heap.get? dx = none → s.heap.get? rl = none → Same [] s.heap h' → Q (.ref D) { s with heap := h', toks := tk' }) :
  wpAny (model Pg w) A (call (.ref 148) [.ref C]) Q E s := by
  refine wpAny_low lo ?_
  have Ct := on.cx
  have X := Ct.K
  have T := Ct.T
  k_dflt (refine' enterK (K := Mine.hd.heap_39 w.params) [(C, instObj 60 cd), (cd, cvDict w (.ref tu) tkc)] X T.nolimit ?k6 ?k7 ?k8 ?k9 ?kB ?kN ?_ ?c2 ?c3 ?c4 ?c5; (case k6 => k_is); (case k7 => k_is); (case k8 => k_room); (case k9 => exact BindsTo.of_eq rfl); (case c5 => decide); (case kB => exact locs rfl); (case c2 => exact rfl); (case c3 => exact rfl); (case c4 => exact rfl); (case kN => exact hC); k_whole; intro g' L' h' hg' hL' F' N'; (try dsimp only))
  have Cg := on.hide; rw [show ([C, cd] : List Addr) = ([(C, instObj 60 cd), (cd, cvDict w (.ref tu) tkc)] : List (Addr × Obj)).map (·.1) from rfl, ← hg'] at Cg
  have Xg := Cg.K
  have Tg := Cg.T
  have hTg : g'.IsTuple tu vs.toArray := by
    obtain ⟨o, ho, r⟩ := hT
    refine ⟨o, ?_, r⟩
    rw [hg']
    refine hideAll_get _ ho fun hm => ?_
    rcases List.mem_cons.mp hm with e | hm
    · exact hTC e
    · exact hTd (List.mem_singleton.mp hm)
  clear Ct X T
  have hCd : C ≠ cd := fun e => by
    have a := hC _ (.head _)
    have b := hC _ (.tail _ (.head _))
    rw [e] at a
    rw [b] at a
    cases a
  k_with_none
  k_with "call ref" => (k_dflt (refine' digest_new ?lo ?c ?F ?N ?_; (case lo => exact ⟨rfl, rfl, Nat.le_of_ble_eq_true rfl, Nat.le_of_ble_eq_true rfl⟩); (case c => assumption); (case F => k_asm); (case N => k_asm); k_whole; intro D dx rl tk t0 t1 t2 h1 tk1 F' N' a1 a2 a3; (try k_sweep)))
  k_with "call ref" => (k_dflt (refine' add_range_call ?lo ?c ?F ?N ?h1 ?h2 ?h3 ?_; (case lo => exact ⟨rfl, rfl, Nat.le_of_ble_eq_true rfl, Nat.le_of_ble_eq_true rfl⟩); (case c => assumption); (case F => k_asm); (case N => k_asm); (case h1 => k_mem); (case h2 => k_mem); (case h3 => k_mem); k_whole; intro t0' t1' t2' h' tk' F' nn'; (have N' := nn' _ (by k_upd)); clear nn'; (try k_sweep)))
  k_with "call ref" => (k_dflt (refine' ranges_of_call (vs := vs) (ns := ns) ?lo ?c ?F ?N ?hT hi ?hl ?_; (case lo => exact ⟨rfl, rfl, Nat.le_of_ble_eq_true rfl, Nat.le_of_ble_eq_true rfl⟩); (case c => assumption); (case F => k_asm); (case N => k_asm); (case hT => exact tuple_keeps hTg (Fr.keep (by assumption))); (case hl => omega); k_whole; intro R us nn gr h3 tk3 hP F' N' hfr hgR; (try k_sweep)))
  k_with "exec For Tuple Call cons nil" => (refine For_invT g' ?_ (fun _ => rfl))
  k_with "pyIter ref" => (
    rename Fr _ _ _ _ => lF
    rename News _ _ _ _ => lN
    have lN2 : News g' _ _ ([(rl, dgRows 0 t0 0 t1 0 t2), (D, instObj 137 dx), (dx, dgDict w rl tk)] ++ ((R, listOf us.toArray nn) :: (C, instObj 60 cd) :: (cd, cvDict w (.ref tu) tkc) :: gr)) := News.sub lN (by
      dsimp only [List.cons_append, List.nil_append]
      (repeat' (first | with_reducible exact sub_nil | with_reducible exact sub_refl | with_reducible exact sub_left | with_reducible exact sub_right | (with_reducible refine sub_app ?_ ?_) | (refine sub_cons (by first | k_memK | k_ownIn | exact List.mem_append_right _ (by k_memK) | exact List.Mem.tail _ (List.mem_append_right _ (by k_memK))) ?_) | refine sub_step ?_ | exact sub_left | exact sub_right | exact sub_refl)))
    have hdis : ∀ p ∈ (R, listOf us.toArray nn) :: (C, instObj 60 cd) :: (cd, cvDict w (.ref tu) tkc) :: gr, p.1 ∉ [rl, D, dx] := by
      have e1 : C ≠ rl := by k_ne
      have e2 : C ≠ D := by k_ne
      have e3 : C ≠ dx := by k_ne
      have e4 : cd ≠ rl := by k_ne
      have e5 : cd ≠ D := by k_ne
      have e6 : cd ≠ dx := by k_ne
      have eg : ∀ p ∈ (R, listOf us.toArray nn) :: gr, p.1 ∉ [rl, D, dx] := fun p hp => nin3 (hfr p hp _ (.head _)) (hfr p hp _ (.tail _ (.head _))) (hfr p hp _ (.tail _ (.tail _ (.head _))))
      exact all_cons (eg _ (.head _)) (all_cons (nin3 e1 e2 e3) (all_cons (nin3 e4 e5 e6) fun p hp => eg p (.tail _ hp)))
    have hPl := hP.length
    refine loop_list (σ := (Tok × Tok × Tok) × (Int × Int × Int)) (vs := us) (fun c => [(rl, dgRows c.2.1 c.1.1 c.2.2.1 c.1.2.1 c.2.2.2 c.1.2.2), (D, instObj 137 dx), (dx, dgDict w rl tk)]) [rl, D, dx] ((R, listOf us.toArray nn) :: (C, instObj 60 cd) :: (cd, cvDict w (.ref tu) tkc) :: gr) [Str.ofString "first", Str.ofString "last"] (fun i c gr2 => c.2 = rowsFold ((runsZ ns).take i) ∧ gr2 = []) ((t0, t1, t2), (0, 0, 0)) rfl (News.isList lN2 (.tail _ (.tail _ (.tail _ (.head _))))) (.inr ⟨_, .head _⟩) lF lN2 (fun _ => rfl) hdis ⟨rfl, rfl⟩ ?_ ?_
    rotate_left
    rintro ⟨⟨t0, t1, t2⟩, ⟨a, b, c⟩⟩ gr2 u h tk9 ⟨hI, rfl⟩ hga F' N'
    clear lF lN lN2
    dsimp only [List.cons_append, List.nil_append] at N'
    dsimp only at hI
    try dsimp only
    (first | (refine letT ?_; intro te) | (try k_fold))
    rotate_left
    intro i v cc1 gr2 u s₁ rest hv cc2 hgr htl hrest F' N'
    refine letT ?_
    intro te
    obtain ⟨⟨t0, t1, t2⟩, ⟨a, b, c⟩⟩ := cc1
    obtain ⟨hI, rfl⟩ := cc2
    obtain ⟨r, hr, p, u1, u2, rfl, ht⟩ := (hP.at (Has.of (l := gr) N' (fun p hp => List.mem_append_right _ (htl p (.tail _ (.tail _ (.tail _ hp))))))).2 i v hv
    dsimp only [List.cons_append, List.nil_append] at N'
    dsimp only at hI
    have hn1 : ∀ p ∈ rest, p.1 ≠ rl := fun p hp e => hrest p hp (e ▸ .head _)
    clear lF lN lN2
    try dsimp only
    (first | (refine letT ?_; intro te) | (try k_fold)))
  all_goals (try k_fold)
  k_steps
  all_goals (try dsimp only)
  · refine TurnEndG.intro ((t0', t1', t2'), (_, _, _)) [] F' N' (fun _ h => nomatch h) (fun _ h => nomatch h) (fun z hz => by (repeat (first | with_reducible exact rfl | refine ov_if rfl hz ?_ | refine ov_sub rfl hz ?_))) ⟨rowsFold_take' hr hI, rfl⟩
  · rw [hPl, List.take_length] at hI
    have e1 : C ≠ rl := by k_ne
    have e2 : C ≠ D := by k_ne
    have e3 : C ≠ dx := by k_ne
    have e4 : cd ≠ rl := by k_ne
    have e5 : cd ≠ D := by k_ne
    have e6 : cd ≠ dx := by k_ne
    have H' : Has h [(C, instObj 60 cd), (cd, cvDict w (.ref tu) tkc)] := Has.of N' (fun p hp => by
      rcases List.mem_cons.mp hp with rfl | hp
      · exact .tail _ (.tail _ (.tail _ (.tail _ (.head _))))
      · cases List.mem_singleton.mp hp; exact .tail _ (.tail _ (.tail _ (.tail _ (.tail _ (.head _))))))
    have S : Same [] s.heap h := Same.shrink (Same.of_fr F' hg') fun a ha _ o ho => has_back hC H' ha ho
    refine ret D dx rl tk a b c t0 t1 t2 h tk9 hI (fun p hp => (N' p ?_).1) (fresh_of N' hg' (.tail _ (.head _)) (nin2 e2.symm e5.symm)) (fresh_of N' hg' (.tail _ (.tail _ (.head _))) (nin2 e3.symm e6.symm)) (fresh_of N' hg' (.head _) (nin2 e1.symm e4.symm)) S
    rcases List.mem_cons.mp hp with rfl | hp
    · exact .tail _ (.head _)
    rcases List.mem_cons.mp hp with rfl | hp
    · exact .tail _ (.tail _ (.head _))
    · cases List.mem_singleton.mp hp; exact .head _
end
end Mine

-- Cl
theorem Mine.noneCl : True := by
  k_with_none
  exact trivial
namespace Mine
theorem law_ranges_call {w : World} {mg mb : Str → Option Value} {A : Around} {E : Value → Shared → Prop} {Q : Value → Shared → Prop} {s : Shared} {h₀ : Heap} {L : Addr} {m : Str → Option Value} {news : List (Addr × Obj)} {P C : Addr} {cvs : List Value} {cns : List Int} {seat rest0 : Int} {t1 t2 : Tok} {n : Nat} (lo : Low A 240)
  (c : Cx w mg mb h₀) (F : Fr h₀ L s.heap m) (N : News h₀ L s.heap news) (hP : (P, penO C seat t1 rest0 t2 n) ∈ news) (hC : Cells s.heap C cvs cns)
  (hs0 : 0 ≤ seat) (hs1 : seat ≤ 500) (hr : 0 ≤ rest0)
  (ret : ∀ R us nn gr rs seat' rest' t1' t2' h' tk', PairsIn gr us rs → (∀ r ∈ rs, InBnd r) → rs.length ≤ 6 → 0 ≤ seat' → seat' ≤ seat + 20 → 0 ≤ rest' → Fr h₀ L h' m → (∀ news', Upd P (penO C seat t1 rest0 t2 n) (penO C seat' t1' rest' t2' n) news news' → News h₀ L h' ((R, listOf us.toArray nn) :: (gr ++ news'))) → (∀ p ∈ (R, listOf us.toArray nn) :: gr, s.heap.get? p.1 = none) → (∀ p ∈ gr, p.1 ≠ R) → Same [P] s.heap h' → Q (.ref R) { s with heap := h', toks := tk' }) :
  wpAny (model Pg w) A (call (.ref 162) [.ref P]) Q E s := by
  refine law_ranges_spec lo (On.of c F N fun a ha => by cases List.mem_singleton.mp ha; exact ⟨_, hP⟩) (N _ hP).1 hC hs0 hs1 hr fun R us nn gr rs seat' rest' t1' t2' h' tk' a1 a2 a3 a4 a5 a6 e H hf hn S => ?_
  exact ret R us nn gr rs seat' rest' t1' t2' h' tk' a1 a2 a3 a4 a5 a6 (Fr.same1 F N hP S) (fun news' U => News.join F (News.upd1 N S U e) H hf) hf hn S
theorem law_bits_call {w : World} {mg mb : Str → Option Value} {A : Around} {E : Value → Shared → Prop} {Q : Value → Shared → Prop} {s : Shared} {h₀ : Heap} {L : Addr} {m : Str → Option Value} {news : List (Addr × Obj)} {R : Addr} {vs : List Value} {rs : List (Int × Int)} {sh : Int} {t1 : Tok} (lo : Low A 240)
  (c : Cx w mg mb h₀) (F : Fr h₀ L s.heap m) (N : News h₀ L s.heap news) (hR : s.heap.IsList R vs.toArray) (hp : PairsAt s.heap vs rs) (hb : ∀ r ∈ rs, InBnd r) (hlen : rs.length ≤ 100) (hs0 : 0 ≤ sh) (hs1 : sh ≤ 60)
  (ret : ∀ t h' tk', Fr h₀ L h' m → News h₀ L h' news → Same [] s.heap h' → Q (.int ((bitKeys sh rs).map fun k => 1 * 2 ^ k.toNat).sum t) { s with heap := h', toks := tk' }) :
  wpAny (model Pg w) A (call (.ref 167) [.ref R, .int sh t1]) Q E s :=
  law_bits_spec lo (On.of c F N fun a ha => nomatch ha) hR hp hb hlen hs0 hs1 fun t h' tk' S => ret t h' tk' (Fr.same F S (fun h => nomatch h) (fun a h => nomatch h)) (News.same N S (fun p _ h => nomatch h)) S
theorem law_digest_call {w : World} {mg mb : Str → Option Value} {A : Around} {E : Value → Shared → Prop} {Q : Value → Shared → Prop} {s : Shared} {h₀ : Heap} {L : Addr} {m : Str → Option Value} {news : List (Addr × Obj)} {R : Addr} {vs : List Value} {rs : List (Int × Int)} (lo : Low A 220)
  (c : Cx w mg mb h₀) (F : Fr h₀ L s.heap m) (N : News h₀ L s.heap news) (hR : s.heap.IsList R vs.toArray) (hp : PairsAt s.heap vs rs)
  (ret : ∀ D dx rl tk a b c t0 t1 t2 h' tk', (a, b, c) = rowsFold rs → Fr h₀ L h' m → News h₀ L h' (dgL w D dx rl tk a t0 b t1 c t2 ++ news) → s.heap.get? D = none → s.heap.get? dx = none → s.heap.get? rl = none → D ≠ dx → D ≠ rl → dx ≠ rl → Same [] s.heap h' → Q (.ref D) { s with heap := h', toks := tk' }) :
  wpAny (model Pg w) A (call (.ref 174) [.ref R]) Q E s := by
  refine law_digest_spec lo (On.of c F N fun a ha => nomatch ha) hR hp fun D dx rl tk a b c t0 t1 t2 h' tk' e H f1 f2 f3 S => ?_
  obtain ⟨n1, n2, n3⟩ := dgL_ne H
  refine ret D dx rl tk a b c t0 t1 t2 h' tk' e (Fr.same F S (fun h => nomatch h) (fun a h => nomatch h)) (News.join F (News.same N S (fun p _ h => nomatch h)) H fun p hp => ?_) f1 f2 f3 n1 n2 n3 S
  rcases List.mem_cons.mp hp with rfl | hp
  · exact f1
  rcases List.mem_cons.mp hp with rfl | hp
  · exact f2
  · cases List.mem_singleton.mp hp; exact f3
theorem told_call {w : World} {mg mb : Str → Option Value} {A : Around} {E : Value → Shared → Prop} {Q : Value → Shared → Prop} {s : Shared} {h₀ : Heap} {L : Addr} {m : Str → Option Value} {news : List (Addr × Obj)} {D dx rl : Addr} {tk : Tok} {r0 : Int} {t0 : Tok} {r1 : Int} {t1 : Tok} {r2 : Int} {t2 : Tok} (lo : Low A 240)
  (c : Cx w mg mb h₀) (F : Fr h₀ L s.heap m) (N : News h₀ L s.heap news) (h1 : (D, instObj 137 dx) ∈ news) (h2 : (dx, dgDict w rl tk) ∈ news) (h3 : (rl, dgRows r0 t0 r1 t1 r2 t2) ∈ news)
  (ret : ∀ T h' tk', Fr h₀ L h' m → News h₀ L h' ((T, { cls := .type "tuple", data := .seq #[.int r0 t0, .int r1 t1, .int r2 t2] }) :: news) → AllAp T news → Q (.ref T) { s with heap := h', toks := tk' }) :
  wpAny (model Pg w) A (call (.ref 134) [.ref D]) Q E s := by
  obtain ⟨on, H⟩ := on_dg c F N h1 h2 h3
  refine told_spec lo on H fun T h' tk' HT fT S => ?_
  exact ret T h' tk' (Fr.same F S (fun h => nomatch h) (fun a h => nomatch h)) (News.join F (News.same N S (fun p _ h => nomatch h)) HT fun p hp => by cases List.mem_singleton.mp hp; exact fT) (AllAp.of N fT)
theorem may_have_call {w : World} {mg mb : Str → Option Value} {A : Around} {E : Value → Shared → Prop} {Q : Value → Shared → Prop} {s : Shared} {h₀ : Heap} {L : Addr} {m : Str → Option Value} {news : List (Addr × Obj)} {D dx rl : Addr} {tk : Tok} {r0 : Int} {t0 : Tok} {r1 : Int} {t1 : Tok} {r2 : Int} {t2 : Tok} {glyph : Int} {u : Tok} (lo : Low A 240)
  (c : Cx w mg mb h₀) (F : Fr h₀ L s.heap m) (N : News h₀ L s.heap news) (h1 : (D, instObj 137 dx) ∈ news) (h2 : (dx, dgDict w rl tk) ∈ news) (h3 : (rl, dgRows r0 t0 r1 t1 r2 t2) ∈ news)
  (ret : ∀ h' tk', Fr h₀ L h' m → News h₀ L h' news → Q (.bool (mayHaveZ r0 r1 r2 glyph)) { s with heap := h', toks := tk' }) :
  wpAny (model Pg w) A (call (.ref 120) [.ref D, .int glyph u]) Q E s := by
  obtain ⟨on, H⟩ := on_dg c F N h1 h2 h3
  exact may_have_spec lo on H fun h' tk' S => ret h' tk' (Fr.same F S (fun h => nomatch h) (fun a h => nomatch h)) (News.same N S (fun p _ h => nomatch h))
theorem may_meet_call {w : World} {mg mb : Str → Option Value} {A : Around} {E : Value → Shared → Prop} {Q : Value → Shared → Prop} {s : Shared} {h₀ : Heap} {L : Addr} {m : Str → Option Value} {news : List (Addr × Obj)} {D dx rl : Addr} {tk : Tok} {r0 : Int} {t0 : Tok} {r1 : Int} {t1 : Tok} {r2 : Int} {t2 : Tok} {D2 dx2 rl2 : Addr} {tkb : Tok} {q0 : Int} {v0 : Tok} {q1 : Int} {v1 : Tok} {q2 : Int} {v2 : Tok} (lo : Low A 240)
  (c : Cx w mg mb h₀) (F : Fr h₀ L s.heap m) (N : News h₀ L s.heap news) (h1 : (D, instObj 137 dx) ∈ news) (h2 : (dx, dgDict w rl tk) ∈ news) (h3 : (rl, dgRows r0 t0 r1 t1 r2 t2) ∈ news) (k1 : (D2, instObj 137 dx2) ∈ news) (k2 : (dx2, dgDict w rl2 tkb) ∈ news) (k3 : (rl2, dgRows q0 v0 q1 v1 q2 v2) ∈ news)
  (ret : ∀ h' tk', Fr h₀ L h' m → News h₀ L h' news → Q (.bool (mayMeetZ r0 r1 r2 q0 q1 q2)) { s with heap := h', toks := tk' }) :
  wpAny (model Pg w) A (call (.ref 127) [.ref D, .ref D2]) Q E s := by
  obtain ⟨on, H⟩ := on_dg c F N h1 h2 h3
  obtain ⟨on2, H2⟩ := on_dg c F N k1 k2 k3
  refine may_meet_spec lo (On.of c F N fun a ha => ?_) H H2 fun h' tk' S => ret h' tk' (Fr.same F S (fun h => nomatch h) (fun a h => nomatch h)) (News.same N S (fun p _ h => nomatch h))
  simp only [List.mem_cons, List.not_mem_nil, or_false] at ha
  rcases ha with rfl | rfl | rfl | rfl | rfl | rfl
  · exact ⟨_, h1⟩
  · exact ⟨_, h2⟩
  · exact ⟨_, h3⟩
  · exact ⟨_, k1⟩
  · exact ⟨_, k2⟩
  · exact ⟨_, k3⟩
theorem coverage_of_call {w : World} {mg mb : Str → Option Value} {A : Around} {E : Value → Shared → Prop} {Q : Value → Shared → Prop} {s : Shared} {h₀ : Heap} {L : Addr} {m : Str → Option Value} {news : List (Addr × Obj)} {R : Addr} {vs : List Value} {ns : List Int} (lo : Low A 230)
  (c : Cx w mg mb h₀) (F : Fr h₀ L s.heap m) (N : News h₀ L s.heap news) (hR : s.heap.IsList R vs.toArray) (hi : IntsAre vs ns) (hlen : ns.length ≤ 500)
  (ret : ∀ D dx t us nn tk ns' h' tk', IntsAre us ns' → ns'.Perm (keysZ ns) → Fr h₀ L h' m → News h₀ L h' ([(D, instObj 60 dx), (dx, cvDict w (.ref t) tk), (t, tupZ us nn)] ++ news) → AllAp D news → AllAp dx news → AllAp t news → D ≠ dx → D ≠ t → dx ≠ t → Q (.ref D) { s with heap := h', toks := tk' }) :
  wpAny (model Pg w) A (call (.ref 71) [.ref R]) Q E s := by
  refine coverage_of_spec lo (On.of c F N fun a ha => nomatch ha) hR hi hlen fun D dx t us nn tk ns' h' tk' a1 a2 H f1 f2 f3 n1 n2 n3 S => ?_
  refine ret D dx t us nn tk ns' h' tk' a1 a2 (Fr.same F S (fun h => nomatch h) (fun a h => nomatch h)) (News.join F (News.same N S (fun p _ h => nomatch h)) H fun p hp => ?_) (AllAp.of N f1) (AllAp.of N f2) (AllAp.of N f3) n1 n2 n3
  rcases List.mem_cons.mp hp with rfl | hp
  · exact f1
  rcases List.mem_cons.mp hp with rfl | hp
  · exact f2
  · cases List.mem_singleton.mp hp; exact f3
theorem digest_of_call {w : World} {mg mb : Str → Option Value} {A : Around} {E : Value → Shared → Prop} {Q : Value → Shared → Prop} {s : Shared} {h₀ : Heap} {L : Addr} {m : Str → Option Value} {news : List (Addr × Obj)} {C cd tu : Addr} {tkc : Tok} {vs : List Value} {nn : Nat} {ns : List Int} (lo : Low A 230)
  (c : Cx w mg mb h₀) (F : Fr h₀ L s.heap m) (N : News h₀ L s.heap news) (h1 : (C, instObj 60 cd) ∈ news) (h2 : (cd, cvDict w (.ref tu) tkc) ∈ news) (h3 : (tu, tupZ vs nn) ∈ news) (n1 : C ≠ tu) (n2 : cd ≠ tu) (hi : IntsAre vs ns) (hlen : ns.length ≤ 500)
  (ret : ∀ D dx rl tk a b c t0 t1 t2 h' tk', (a, b, c) = rowsFold (runsZ ns) → Fr h₀ L h' m → News h₀ L h' (dgL w D dx rl tk a t0 b t1 c t2 ++ news) → AllAp D news → AllAp dx news → AllAp rl news → D ≠ dx → D ≠ rl → dx ≠ rl → Q (.ref D) { s with heap := h', toks := tk' }) :
  wpAny (model Pg w) A (call (.ref 148) [.ref C]) Q E s := by
  refine digest_of_spec (tkc := tkc) lo (On.of c F N fun a ha => ?_) (Has.of N fun p hp => ?_) ⟨_, (N _ h3).1, rfl, _, rfl⟩ n1.symm n2.symm hi hlen fun D dx rl tk a b c t0 t1 t2 h' tk' e H f1 f2 f3 S => ?_
  · rcases List.mem_cons.mp ha with rfl | ha
    · exact ⟨_, h1⟩
    · cases List.mem_singleton.mp ha; exact ⟨_, h2⟩
  · rcases List.mem_cons.mp hp with rfl | hp
    · exact h1
    · cases List.mem_singleton.mp hp; exact h2
  obtain ⟨n1, n2, n3⟩ := dgL_ne H
  refine ret D dx rl tk a b c t0 t1 t2 h' tk' e (Fr.same F S (fun h => nomatch h) (fun a h => nomatch h)) (News.join F (News.same N S (fun p _ h => nomatch h)) H fun p hp => ?_) (AllAp.of N f1) (AllAp.of N f2) (AllAp.of N f3) n1 n2 n3
  rcases List.mem_cons.mp hp with rfl | hp
  · exact f1
  rcases List.mem_cons.mp hp with rfl | hp
  · exact f2
  · cases List.mem_singleton.mp hp; exact f3
end Mine

-- Cm
theorem Mine.noneCm : True := by
  k_with_none
  exact trivial
namespace Mine
/-- a comprehension's items, its list, and what the items' making laid -/
inductive Trip (F : Value → Value → List (Addr × Obj) → Prop) : List Value → List Value → List (Addr × Obj) → Prop
  | nil : Trip F [] [] []
  | snoc {vs ys : List Value} {l l' : List (Addr × Obj)} {v y : Value} : Trip F vs ys l → F v y l' → Trip F (vs ++ [v]) (ys ++ [y]) (l' ++ l)
theorem Trip.len {F : Value → Value → List (Addr × Obj) → Prop} {vs ys : List Value} {l : List (Addr × Obj)} (h : Trip F vs ys l) : ys.length = vs.length := by
  induction h with
  | nil => rfl
  | snoc _ _ ih => rw [List.length_append, List.length_append, ih]; rfl
section
variable {prog : Program} {w : World} {A : Around} {R : Result → Shared → Prop} {s : Shared}
theorem compLoop_gen {elt iter : Expr} {x : Str} {px : Pos} {scope : Scope} {pos : Pos} {I D : Addr} {fp wr : List Addr} {n : Nat} {P : Nat → Value → Prop} {St : Nat → Heap → Prop} {cenv : Env}
    (own : List Addr) (Bd : Heap → Value → Prop) (B0 : Heap → Prop) (F : Value → Value → List (Addr × Obj) → Prop) (W : Walks prog w A I fp wr n P St)
    (hstore : ∀ (s' : Shared) v (Q' : Unit → Shared → Prop) E', B0 s'.heap → (∀ h' tk, Bd h' v → (∀ b o, b ∉ own → s'.heap.get? b = some o → h'.get? b = some o) → Q' () { s' with heap := h', toks := tk }) → wpAny (model prog w) A (storeName cenv x v) Q' E' s')
    (hB0 : ∀ h h', B0 h → (∀ b ∈ own, ∀ o, h.get? b = some o → h'.get? b = some o) → B0 h')
    (hB1 : ∀ h v, Bd h v → B0 h)
    (hob : ∀ h, B0 h → ∀ b ∈ own, ∃ o, h.get? b = some o)
    (hDo : D ∉ own) (hDf : D ∉ fp) (hof : ∀ b ∈ own, b ∉ fp)
    (hlive : ∀ i h, St i h → ∀ b ∈ wr, ∃ o, h.get? b = some o)
    (hst : St 0 s.heap) (hacc : s.heap.PlainList D #[]) (hb : B0 s.heap)
    (helt : ∀ i v (s₂ : Shared) E', i < n → P i v → Bd s₂.heap v → (∀ b o, b ∉ own → b ∉ wr → b ≠ D → s.heap.get? b = some o → s₂.heap.get? b = some o) →
      wpAny (model prog w) A (eval elt cenv) (fun y s₃ => (∃ l, F v y l ∧ (∀ p ∈ l, s₂.heap.get? p.1 = none) ∧ Has s₃.heap l) ∧ Keeps s₂ s₃) E' s₂)
    (hR : ∀ h' tk (vs ys : List Value) l, B0 h' → h'.PlainList D ys.toArray → vs.length = n → (∀ j v, vs[j]? = some v → P j v) → Trip F vs ys l → Has h' l → (∀ p ∈ l, s.heap.get? p.1 = none) → (∀ p ∈ l, p.1 ≠ D) → (∀ p ∈ l, p.1 ∉ own) →
      (∀ b o, b ∉ own → b ∉ wr → b ≠ D → s.heap.get? b = some o → h'.get? b = some o) → R (.ok .next) { s with heap := h', toks := tk })
    (hsz : n ≤ sizeLine) :
    codeAny (model prog w) A (.compLoop (.ListComp elt [⟨.Name x px, iter, [], 0⟩] scope pos) 0 (.ref I) (.ref D) cenv) R s := by
  have hDw : D ∉ wr := fun h => hDf (W.sub _ h)
  have how : ∀ b ∈ own, b ∉ wr := fun b hb h => hof b hb (W.sub _ h)
  refine codeAny_compLoop_list
    (fun k s' => ∃ (H : Heap) (tk : Nat) (vs ys : List Value) (l : List (Addr × Obj)), s' = { s with heap := H, toks := tk } ∧ St vs.length H ∧ H.PlainList D ys.toArray ∧ B0 H ∧ (∀ j v, vs[j]? = some v → P j v) ∧ Trip F vs ys l ∧ Has H l ∧
      (∀ p ∈ l, s.heap.get? p.1 = none ∧ p.1 ≠ D ∧ p.1 ∉ own ∧ p.1 ∉ wr) ∧ vs.length ≤ n ∧ k = n + 1 - vs.length ∧ (∀ b o, b ∉ own → b ∉ wr → b ≠ D → s.heap.get? b = some o → H.get? b = some o)) ?_ (n + 1)
    ⟨s.heap, s.toks, [], [], [], rfl, hst, hacc, hb, (fun _ _ h => by simp at h), .nil, (fun _ h => nomatch h), (fun _ h => nomatch h), Nat.zero_le _, rfl, fun _ _ _ _ _ e => e⟩
  rintro k s' ⟨H, tk, vs, ys, l, rfl, hst', hacc', hb', hP, hT, hL, hl, hi, rfl, hk⟩
  by_cases hlt : vs.length < n
  · refine W.item vs.length _ _ _ hlt hst' fun v h₁ tk₁ hPv hst₁ hk₁ => ?_
    dsimp only
    have hb₁ : B0 h₁ := hB0 _ _ hb' fun b hbo o e => hk₁ b o (how b hbo) e
    refine wpAny_assign_Name (hstore { s with heap := h₁, toks := tk₁ } v _ _ hb₁ fun h₂ tk₂ hbd₂ hk₂ => ?_)
    dsimp only at hk₂
    have hst₂ : St (vs.length + 1) h₂ := W.frame _ _ _ hst₁ fun b hbf o e => hk₂ b o (fun h => hof b h hbf) e
    have up₂ : ∀ b o, b ∉ own → b ∉ wr → H.get? b = some o → h₂.get? b = some o := fun b o hbo hbw e => hk₂ b o hbo (hk₁ b o hbw e)
    refine wpAny_mono (helt vs.length v { s with heap := h₂, toks := tk₂ } _ hlt hPv hbd₂ fun b o h1 h2 h3 e => up₂ b o h1 h2 (hk b o h1 h2 h3 e)) (fun y s₃ h₃ => ?_) fun _ _ e => e
    obtain ⟨⟨l', hF, hf, hH⟩, h₃, tk₃, rfl, hk₃⟩ := h₃
    dsimp only at hf hH hk₃
    have hst₃ : St (vs.length + 1) h₃ := W.frame _ _ _ hst₂ fun b _ o e => hk₃ b o e
    have hb₃ : B0 h₃ := hB0 _ _ (hB1 _ _ hbd₂) fun b _ o e => hk₃ b o e
    have hacc₃ : h₃.PlainList D ys.toArray := hacc'.at fun o e => hk₃ _ o (up₂ D o hDo hDw e)
    have hys : ys.toArray.size ≤ sizeLine := by
      rw [List.size_toArray, hT.len]; exact Nat.le_trans hi hsz
    refine wpAny_list_append_plain (hsz := hys) hacc₃ fun h₄ hl₄ hs₄ => ?_
    have none2 : ∀ a, h₂.get? a = none → a ∉ own ∧ a ∉ wr ∧ a ≠ D ∧ s.heap.get? a = none := by
      intro a ha
      have q1 : a ∉ own := fun h => by
        obtain ⟨o, ho⟩ := hob _ (hB1 _ _ hbd₂) a h
        rw [ho] at ha; cases ha
      have q2 : a ∉ wr := fun h => by
        obtain ⟨o, ho⟩ := hlive _ _ hst₂ a h
        rw [ho] at ha; cases ha
      have q3 : a ≠ D := fun h => by
        obtain ⟨c, hc⟩ := hacc'
        have := up₂ D _ hDo hDw hc
        rw [h, this] at ha; cases ha
      refine ⟨q1, q2, q3, ?_⟩
      cases e : s.heap.get? a with
      | none => rfl
      | some o => have := up₂ a o q1 q2 (hk a o q1 q2 q3 e); rw [this] at ha; cases ha
    refine ⟨n + 1 - (vs.length + 1), by omega, h₄, tk₃, vs ++ [v], ys ++ [y], l' ++ l, rfl, ?_, ?_, ?_, ?_, .snoc hT hF, ?_, ?_, ?_, ?_, ?_⟩
    · have := W.frame _ _ h₄ hst₃ fun b hbf o e => hs₄.extBut b o (fun h => hDf (h ▸ hbf)) e
      simpa using this
    · simpa using hl₄
    · exact hB0 _ _ hb₃ fun b hbo o e => hs₄.extBut b o (fun h => hDo (h ▸ hbo)) e
    · intro j u hj
      rcases Nat.lt_trichotomy j vs.length with h | h | h
      · exact hP j u (by rwa [List.getElem?_append_left h] at hj)
      · subst h; simp at hj; subst hj; exact hPv
      · have hnone : (vs ++ [v])[j]? = none := List.getElem?_eq_none (by rw [List.length_append, List.length_singleton]; omega)
        rw [hnone] at hj; cases hj
    · intro p hp
      rcases List.mem_append.mp hp with hp | hp
      · exact hs₄.extBut p.1 p.2 (none2 _ (hf p hp)).2.2.1 (hH p hp)
      · obtain ⟨q1, q2, q3, q4⟩ := hl p hp
        exact hs₄.extBut p.1 p.2 q2 (hk₃ _ _ (up₂ _ _ q3 q4 (hL p hp)))
    · intro p hp
      rcases List.mem_append.mp hp with hp | hp
      · obtain ⟨q1, q2, q3, q4⟩ := none2 _ (hf p hp)
        exact ⟨q4, q3, q1, q2⟩
      · exact hl p hp
    · rw [List.length_append, List.length_singleton]; exact hlt
    · rw [List.length_append, List.length_singleton]
    · intro b o h1 h2 h3 e
      exact hs₄.extBut b o h3 (hk₃ b o (up₂ b o h1 h2 (hk b o h1 h2 h3 e)))
  · have hin : vs.length = n := by omega
    refine W.done _ _ _ (hin ▸ hst') fun h₁ tk₁ hk₁ => ?_
    refine hR h₁ tk₁ vs ys l (hB0 _ _ hb' fun b hbo o e => hk₁ b o (how b hbo) e) (hacc'.at fun o e => hk₁ _ o hDw e) hin hP hT (fun p hp => hk₁ _ _ (hl p hp).2.2.2 (hL p hp)) (fun p hp => (hl p hp).1) (fun p hp => (hl p hp).2.1) (fun p hp => (hl p hp).2.2.1) fun b o h1 h2 h3 e => hk₁ b o h2 (hk b o h1 h2 h3 e)
end
section
variable {prog : Program} {w : World} {A : Around} {E : Value → Shared → Prop} {s : Shared} {env : Env}
/-- a comprehension's own frame, cells and all -/
noncomputable abbrev compEnvG (scope : Scope) (cl : List (Str × Addr)) (C : Addr) (env : Env) : Env := compEnvC scope (cellsFrom (C + 1) scope.names cl) C env
theorem newFunctionEnv_in {M : Model} {scope : Scope} {cl : List (Str × Addr)} {Q : Env → Shared → Prop}
    (hQ : Q { scope := scope, locals := s.heap.objs.size, globals := env.globals, cells := cellsFrom (s.heap.objs.size + 1) scope.names cl, qual := env.qual, func := none, code := env.code, frame := env.frame, builtins := env.builtins }
      { s with heap := pushCells (s.heap.push { cls := .type "dict", data := .dict #[] }) scope.names }) :
    wpAny M A (newFunctionEnv scope env.globals cl [] env.qual none .none (some env)) Q E s := by
  simp only [newFunctionEnv, Option.isSome_some, if_true]
  refine wpAny_bind (wpAny_alloc ?_)
  refine wpAny_bind (wpAny_layCells _ (fun name kind cells => by cases hkc : kind == NameKind.cell <;> simp [hkc]) _ _ _ _ ?_)
  rw [show ({ s with heap := s.heap.push { cls := .type "dict", data := .dict #[] } } : Shared).heap.objs.size = s.heap.objs.size + 1 from Heap.size_push ..]
  refine wpAny_bind ?_
  rw [List.forIn_nil]
  exact wpAny_pure (wpAny_pure hQ)
/-- where a comprehension ends that lays objects -/
noncomputable def CompG (prog : Program) (w : World) (A : Around) (env : Env) (scope : Scope) (cl : List (Str × Addr)) (elt : Expr) (Bd : Addr → Heap → Value → Prop) (Q : Value → Shared → Prop) (it : Value) (s₂ : Shared) : Prop :=
  ∃ (I : Addr) (fp wr : List Addr) (n : Nat) (P : Nat → Value → Prop) (St : Nat → Heap → Prop) (F : Value → Value → List (Addr × Obj) → Prop), it = .ref I ∧ Walks prog w A I fp wr n P St ∧ n ≤ sizeLine ∧ (∀ i h, St i h → ∀ b ∈ wr, ∃ o, h.get? b = some o) ∧ St 0 s₂.heap ∧ (∀ b ∈ fp, b < s₂.heap.objs.size) ∧
    (∀ C i v (s₃ : Shared) E', s₂.heap.objs.size ≤ C → i < n → P i v → Bd C s₃.heap v → (∀ b o, b ∉ wr → s₂.heap.get? b = some o → s₃.heap.get? b = some o) →
      wpAny (model prog w) A (eval elt (compEnvG scope cl C env)) (fun y s₄ => (∃ l, F v y l ∧ (∀ p ∈ l, s₃.heap.get? p.1 = none) ∧ Has s₄.heap l) ∧ Keeps s₃ s₄) E' s₃) ∧
    (∀ D h' tk c (vs ys : List Value) l, s₂.heap.get? D = none → h'.get? D = some (listOf ys.toArray c) → vs.length = n → (∀ j v, vs[j]? = some v → P j v) → Trip F vs ys l → Has h' l → (∀ p ∈ l, s₂.heap.get? p.1 = none) → (∀ p ∈ l, p.1 ≠ D) →
      (∀ b o, b ∉ wr → s₂.heap.get? b = some o → h'.get? b = some o) → Q (.ref D) { s₂ with heap := h', toks := tk })
theorem comp_core {elt iter : Expr} {x : Str} {px : Pos} {scope : Scope} {cl : List (Str × Addr)} {pos : Pos} {RR : Value → Addr → Result → Shared → Prop} {s₂ : Shared} {I : Addr} {fp wr : List Addr} {n : Nat} {P : Nat → Value → Prop} {St : Nat → Heap → Prop} (F : Value → Value → List (Addr × Obj) → Prop)
    (own : Addr → List Addr) (Bd : Addr → Heap → Value → Prop) (B0 : Addr → Heap → Prop)
    (hstore : ∀ C (s' : Shared) v (Q' : Unit → Shared → Prop) E', B0 C s'.heap → (∀ h' tk, Bd C h' v → (∀ b o, b ∉ own C → s'.heap.get? b = some o → h'.get? b = some o) → Q' () { s' with heap := h', toks := tk }) → wpAny (model prog w) A (storeName (compEnvG scope cl C env) x v) Q' E' s')
    (hB0 : ∀ C h h', B0 C h → (∀ b ∈ own C, ∀ o, h.get? b = some o → h'.get? b = some o) → B0 C h')
    (hB1 : ∀ C h v, Bd C h v → B0 C h)
    (hob : ∀ C h, B0 C h → ∀ b ∈ own C, ∃ o, h.get? b = some o)
    (hown : ∀ C, ∀ b ∈ own C, C ≤ b)
    (hnew : ∀ h : Heap, B0 h.objs.size (pushCells (h.push { cls := .type "dict", data := .dict #[] }) scope.names))
    (W : Walks prog w A I fp wr n P St) (hsz : n ≤ sizeLine) (hlive : ∀ i h, St i h → ∀ b ∈ wr, ∃ o, h.get? b = some o) (hst : St 0 s₂.heap) (hfp : ∀ b ∈ fp, b < s₂.heap.objs.size)
    (helt : ∀ C i v (s₃ : Shared) E', s₂.heap.objs.size ≤ C → i < n → P i v → Bd C s₃.heap v → (∀ b o, b ∉ wr → s₂.heap.get? b = some o → s₃.heap.get? b = some o) →
      wpAny (model prog w) A (eval elt (compEnvG scope cl C env)) (fun y s₄ => (∃ l, F v y l ∧ (∀ p ∈ l, s₃.heap.get? p.1 = none) ∧ Has s₄.heap l) ∧ Keeps s₃ s₄) E' s₃)
    (hRR : ∀ D C h' tk c (vs ys : List Value) l, s₂.heap.objs.size ≤ D → D < C → B0 C h' → h'.get? D = some (listOf ys.toArray c) → vs.length = n → (∀ j v, vs[j]? = some v → P j v) → Trip F vs ys l → Has h' l → (∀ p ∈ l, s₂.heap.get? p.1 = none) → (∀ p ∈ l, p.1 ≠ D) → (∀ p ∈ l, p.1 ∉ own C) →
      (∀ b o, b ∉ wr → s₂.heap.get? b = some o → h'.get? b = some o) → RR (.ref D) C (.ok .next) { s₂ with heap := h', toks := tk }) :
    wpAny (model prog w) A (newList []) (fun acc s₃ => wpAny (model prog w) A (newFunctionEnv scope env.globals cl [] env.qual none .none (some env)) (fun cenv s₄ =>
      codeAny (model prog w) A (.compStart (.ListComp elt [⟨.Name x px, iter, [], 0⟩] scope pos) 0 (.ref I) acc { cenv with scope := relabel scope env }) (RR acc cenv.locals) s₄) E s₃) E s₂ := by
  refine wpAny_newObj_type (newFunctionEnv_in ?_)
  dsimp only
  generalize hH2 : s₂.heap.push { cls := .type "list", dict := none, data := .seq ([] : List Value).toArray } = H2
  have hCs : H2.objs.size = s₂.heap.objs.size + 1 := by rw [← hH2, Heap.size_push]
  generalize hH3 : pushCells (H2.push { cls := .type "dict", data := .dict #[] }) scope.names = H3
  have hb : B0 H2.objs.size H3 := by rw [← hH3]; exact hnew H2
  have up : ∀ b o, s₂.heap.get? b = some o → H3.get? b = some o := fun b o e => by
    rw [← hH3, ← hH2]; exact pushCells_keeps _ _ _ _ (Heap.get?_push_of_some _ (Heap.get?_push_of_some _ e))
  have hacc : H3.PlainList s₂.heap.objs.size #[] := ⟨0, by
    rw [← hH3]; exact pushCells_keeps _ _ _ _ (Heap.get?_push_of_some _ (hH2 ▸ Heap.get?_push_size _ rfl))⟩
  have hst₁ : St 0 H3 := W.frame _ _ _ hst fun b _ o e => up b o e
  have bo : ∀ b ∈ own H2.objs.size, s₂.heap.objs.size < b := fun b hbo => by
    have := hown _ b hbo; rw [hCs] at this; exact this
  have below : ∀ b, b < s₂.heap.objs.size → b ∉ own H2.objs.size ∧ b ≠ s₂.heap.objs.size := fun b hbs => ⟨fun hbo => absurd (bo b hbo) (Nat.not_lt.mpr (Nat.le_of_lt hbs)), Nat.ne_of_lt hbs⟩
  have old : ∀ a, H3.get? a = none → s₂.heap.get? a = none := fun a ha => by
    cases e : s₂.heap.get? a with
    | none => rfl
    | some o => rw [up a o e] at ha; cases ha
  have loop : ∀ s₃ : Shared, s₃ = { s₂ with heap := H3 } →
      codeAny (model prog w) A (.compLoop (.ListComp elt [⟨.Name x px, iter, [], 0⟩] scope pos) 0 (.ref I) (.ref s₂.heap.objs.size) (compEnvG scope cl H2.objs.size env))
        (RR (.ref s₂.heap.objs.size) H2.objs.size) s₃ := by
    rintro s₃ rfl
    refine compLoop_gen (cenv := compEnvG scope cl H2.objs.size env) (own H2.objs.size) (Bd H2.objs.size) (B0 H2.objs.size) F W (hstore _) (hB0 _) (hB1 _) (hob _)
      (fun hm => absurd (bo _ hm) (Nat.lt_irrefl _)) (fun hm => absurd (hfp _ hm) (Nat.lt_irrefl _)) (fun b hbo hbf => absurd (bo b hbo) (Nat.not_lt.mpr (Nat.le_of_lt (hfp b hbf)))) hlive hst₁ hacc hb
      (fun i v s₃ E' hi hP hbd hk => helt _ i v s₃ E' (by rw [hCs]; exact Nat.le_succ _) hi hP hbd fun b o hbw e => hk b o (below b (Heap.lt_size e)).1 hbw (below b (Heap.lt_size e)).2 (up b o e)) ?_ hsz
    intro h' tk vs ys l hb' hpl hlen hP hT hL hf hD ho hk
    obtain ⟨c, hc⟩ := hpl
    refine hRR s₂.heap.objs.size H2.objs.size h' tk c vs ys l (Nat.le_refl _) (by rw [hCs]; exact Nat.lt_succ_self _) hb' hc hlen hP hT hL (fun p hp => old _ (hf p hp)) hD ho ?_
    intro b o hbw e
    obtain ⟨q1, q2⟩ := below b (Heap.lt_size e)
    exact hk b o q1 hbw q2 (up b o e)
  exact codeAny_compStart_list (loop _ rfl) (W.self 0 _ _ _ hst₁ (loop _ rfl))
theorem ListComp_gen {elt iter : Expr} {x : Str} {px : Pos} {scope : Scope} {cl : List (Str × Addr)} {pos : Pos} {Q : Value → Shared → Prop}
    (own : Addr → List Addr) (Bd : Addr → Heap → Value → Prop) (B0 : Addr → Heap → Prop)
    (hclos : closureFor scope env = pure cl) (hkind : scope.kind = .function)
    (hnames : ∀ y ∈ scope.names, y.2 = .local → scope.names.lookup y.1 = some .local)
    (hstore : ∀ C (s' : Shared) v (Q' : Unit → Shared → Prop) E', B0 C s'.heap → (∀ h' tk, Bd C h' v → (∀ b o, b ∉ own C → s'.heap.get? b = some o → h'.get? b = some o) → Q' () { s' with heap := h', toks := tk }) → wpAny (model prog w) A (storeName (compEnvG scope cl C env) x v) Q' E' s')
    (hB0 : ∀ C h h', B0 C h → (∀ b ∈ own C, ∀ o, h.get? b = some o → h'.get? b = some o) → B0 C h')
    (hB1 : ∀ C h v, Bd C h v → B0 C h)
    (hob : ∀ C h, B0 C h → ∀ b ∈ own C, ∃ o, h.get? b = some o)
    (hown : ∀ C, ∀ b ∈ own C, C ≤ b)
    (hC : ∀ C h, B0 C h → ∃ m, h.Ns C m)
    (hCo : ∀ C, C ∈ own C)
    (hnew : ∀ h : Heap, B0 h.objs.size (pushCells (h.push { cls := .type "dict", data := .dict #[] }) scope.names))
    (h : wpAny (model prog w) A (eval iter env) (fun xv s₁ => wpAny (model prog w) A (pyIter xv) (CompG prog w A env scope cl elt Bd Q) E s₁) E s)
    (hs : ∀ x, foldedSetIterable iter env x = pure x := by intro _; rfl) :
    wpAny (model prog w) A (eval (.ListComp elt [⟨.Name x px, iter, [], 0⟩] scope pos) env) Q E s := by
  rw [eval_ListComp]
  refine wpAny_comprehension_free (use := none) rfl hs hclos hkind hnames (wpAny_mono h (fun xv s₁ h₁ => wpAny_mono h₁ (fun it s₂ h₂ => ?_) fun _ _ e => e) fun _ _ e => e)
  obtain ⟨I, fp, wr, n, P, St, F, rfl, W, hsz, hlive, hst, hfp, helt, hQ⟩ := h₂
  refine wpAny_newObj_type (newFunctionEnv_in ?_)
  dsimp only
  generalize hH2 : s₂.heap.push { cls := .type "list", dict := none, data := .seq ([] : List Value).toArray } = H2
  have hCs : H2.objs.size = s₂.heap.objs.size + 1 := by rw [← hH2, Heap.size_push]
  generalize hH3 : pushCells (H2.push { cls := .type "dict", data := .dict #[] }) scope.names = H3
  have hb : B0 H2.objs.size H3 := by rw [← hH3]; exact hnew H2
  have up : ∀ b o, s₂.heap.get? b = some o → H3.get? b = some o := fun b o e => by
    rw [← hH3, ← hH2]; exact pushCells_keeps _ _ _ _ (Heap.get?_push_of_some _ (Heap.get?_push_of_some _ e))
  have hacc : H3.PlainList s₂.heap.objs.size #[] := ⟨0, by
    rw [← hH3]; exact pushCells_keeps _ _ _ _ (Heap.get?_push_of_some _ (hH2 ▸ Heap.get?_push_size _ rfl))⟩
  have hst₁ : St 0 H3 := W.frame _ _ _ hst fun b _ o e => up b o e
  have bo : ∀ b ∈ own H2.objs.size, s₂.heap.objs.size < b := fun b hbo => by
    have := hown _ b hbo; rw [hCs] at this; exact this
  have below : ∀ b, b < s₂.heap.objs.size → b ∉ own H2.objs.size ∧ b ≠ s₂.heap.objs.size := fun b hbs => ⟨fun hbo => absurd (bo b hbo) (Nat.not_lt.mpr (Nat.le_of_lt hbs)), Nat.ne_of_lt hbs⟩
  have old : ∀ a, H3.get? a = none → s₂.heap.get? a = none := fun a ha => by
    cases e : s₂.heap.get? a with
    | none => rfl
    | some o => rw [up a o e] at ha; cases ha
  have loop : ∀ s₃ : Shared, s₃ = { s₂ with heap := H3 } →
      codeAny (model prog w) A (.compLoop (.ListComp elt [⟨.Name x px, iter, [], 0⟩] scope pos) 0 (.ref I) (.ref s₂.heap.objs.size) (compEnvG scope cl H2.objs.size env))
        (compPost (model prog w) A E none Q (.ref s₂.heap.objs.size) H2.objs.size) s₃ := by
    rintro s₃ rfl
    refine compLoop_gen (cenv := compEnvG scope cl H2.objs.size env) (own H2.objs.size) (Bd H2.objs.size) (B0 H2.objs.size) F W (hstore _) (hB0 _) (hB1 _) (hob _)
      (fun hm => absurd (bo _ hm) (Nat.lt_irrefl _)) (fun hm => absurd (hfp _ hm) (Nat.lt_irrefl _)) (fun b hbo hbf => absurd (bo b hbo) (Nat.not_lt.mpr (Nat.le_of_lt (hfp b hbf)))) hlive hst₁ hacc hb
      (fun i v s₃ E' hi hP hbd hk => helt _ i v s₃ E' (by rw [hCs]; exact Nat.le_succ _) hi hP hbd fun b o hbw e => hk b o (below b (Heap.lt_size e)).1 hbw (below b (Heap.lt_size e)).2 (up b o e)) ?_ hsz
    intro h' tk vs ys l hb' hpl hlen hP hT hL hf hD ho hk
    obtain ⟨m, hn⟩ := hC _ _ hb'
    obtain ⟨c, hc⟩ := hpl
    refine ⟨m, hn, fun h'' hs'' => ?_⟩
    have keep : ∀ b o, b ≠ H2.objs.size → h'.get? b = some o → h''.get? b = some o := fun b o hbC e => hs''.extBut b o hbC e
    refine hQ s₂.heap.objs.size h'' tk c vs ys l ?_ (keep _ _ (by rw [hCs]; exact Nat.ne_of_lt (Nat.lt_succ_self _)) hc) hlen hP hT (fun p hp => keep _ _ (fun e => ho p hp (by rw [e]; exact hCo _)) (hL p hp)) (fun p hp => old _ (hf p hp)) hD ?_
    · cases e : s₂.heap.get? s₂.heap.objs.size with
      | none => rfl
      | some o => exact absurd (Heap.lt_size e) (Nat.lt_irrefl _)
    · intro b o hbw e
      obtain ⟨q1, q2⟩ := below b (Heap.lt_size e)
      exact keep b o (by rw [hCs]; exact Nat.ne_of_lt (Nat.lt_succ_of_lt (Heap.lt_size e))) (hk b o q1 hbw q2 (up b o e))
  exact codeAny_compStart_list (loop _ rfl) (W.self 0 _ _ _ hst₁ (loop _ rfl))
noncomputable def BdL (x : Str) (C : Addr) (h : Heap) (v : Value) : Prop := ∃ m, h.Ns C m ∧ m x = some v
noncomputable def BdC (C : Addr) (h : Heap) (v : Value) : Prop := (∃ m, h.Ns C m) ∧ h.IsCell (C + 1) (some v)
theorem ns_some {h : Heap} {C : Addr} {m : Str → Option Value} (hn : h.Ns C m) : ∃ o, h.get? C = some o := let ⟨o, _, _, x, _⟩ := hn; ⟨o, x⟩
theorem ListComp_L {elt iter : Expr} {x : Str} {px : Pos} {scope : Scope} {cl : List (Str × Addr)} {pos : Pos} {Q : Value → Shared → Prop}
    (hclos : closureFor scope env = pure cl) (hkind : scope.kind = .function)
    (hnames : ∀ y ∈ scope.names, y.2 = .local → scope.names.lookup y.1 = some .local) (hx : scope.names.lookup x = some .local) (hcell : ∀ h, pushCells h scope.names = h)
    (h : wpAny (model prog w) A (eval iter env) (fun xv s₁ => wpAny (model prog w) A (pyIter xv) (CompG prog w A env scope cl elt (BdL x) Q) E s₁) E s)
    (hs : ∀ x, foldedSetIterable iter env x = pure x := by intro _; rfl) :
    wpAny (model prog w) A (eval (.ListComp elt [⟨.Name x px, iter, [], 0⟩] scope pos) env) Q E s := by
  refine ListComp_gen (fun C => [C]) (BdL x) (fun C h => ∃ m, h.Ns C m) hclos hkind hnames ?_ ?_ ?_ ?_ ?_ (fun C h y => y) (fun C => .head _) ?_ h hs
  · rintro C s' v Q' E' ⟨m, hn⟩ hQ
    refine wpAny_storeName_local (lookup_relabel_local hx) hn (fun h' hn' hs' => hQ h' _ ⟨_, hn', by simp⟩ fun b o hb e => hs'.extBut b o (fun q => hb (by rw [q]; exact .head _)) e) (by simp [compEnvC, relabel, hkind])
  · rintro C h h' ⟨m, hn⟩ hk
    exact ⟨m, hn.at' fun o e => hk C (.head _) o e⟩
  · rintro C h v ⟨m, hn, _⟩
    exact ⟨m, hn⟩
  · rintro C h ⟨m, hn⟩ b hb
    rw [List.mem_singleton.mp hb]; exact ns_some hn
  · intro C b hb
    rw [List.mem_singleton.mp hb]; exact Nat.le_refl _
  · intro h
    rw [hcell]
    exact ⟨_, Heap.Ns.new h (.type "dict")⟩
theorem ListComp_C {elt iter : Expr} {x : Str} {px : Pos} {scope : Scope} {cl : List (Str × Addr)} {pos : Pos} {Q : Value → Shared → Prop}
    (hclos : closureFor scope env = pure cl) (hkind : scope.kind = .function)
    (hnames : ∀ y ∈ scope.names, y.2 = .local → scope.names.lookup y.1 = some .local) (hx : (relabel scope env).names.lookup x = some .cell)
    (hc : ∀ C, (cellsFrom (C + 1) scope.names cl).lookup x = some (C + 1)) (hcell : ∀ h, pushCells h scope.names = h.push { cls := .type "cell", data := .cell none })
    (h : wpAny (model prog w) A (eval iter env) (fun xv s₁ => wpAny (model prog w) A (pyIter xv) (CompG prog w A env scope cl elt BdC Q) E s₁) E s)
    (hs : ∀ x, foldedSetIterable iter env x = pure x := by intro _; rfl) :
    wpAny (model prog w) A (eval (.ListComp elt [⟨.Name x px, iter, [], 0⟩] scope pos) env) Q E s := by
  refine ListComp_gen (fun C => [C, C + 1]) BdC (fun C h => (∃ m, h.Ns C m) ∧ ∃ v, h.IsCell (C + 1) v) hclos hkind hnames ?_ ?_ ?_ ?_ ?_ (fun C h y => y.1) (fun C => .head _) ?_ h hs
  · rintro C s' v Q' E' ⟨⟨m, hn⟩, v0, hv⟩ hQ
    refine wpAny_storeName_cell (env := compEnvG scope cl C env) hkind hx (hc C) hv fun h' hc' hs' => hQ h' _ ⟨⟨m, hn.sameBut hs' (Nat.ne_of_lt (Nat.lt_succ_self C))⟩, hc'⟩ fun b o hb e => hs'.extBut b o (fun q => hb (by rw [q]; exact .tail _ (.head _))) e
  · rintro C h h' ⟨⟨m, hn⟩, v, o, ho, hd⟩ hk
    exact ⟨⟨m, hn.at' fun o e => hk C (.head _) o e⟩, v, o, hk _ (.tail _ (.head _)) o ho, hd⟩
  · rintro C h v ⟨hn, hv⟩
    exact ⟨hn, _, hv⟩
  · rintro C h ⟨⟨m, hn⟩, v, o, ho, hd⟩ b hb
    rcases List.mem_cons.mp hb with rfl | hb
    · exact ns_some hn
    · rw [List.mem_singleton.mp hb]; exact ⟨o, ho⟩
  · intro C b hb
    rcases List.mem_cons.mp hb with rfl | hb
    · exact Nat.le_refl _
    · rw [List.mem_singleton.mp hb]; exact Nat.le_succ _
  · intro h
    rw [hcell]
    refine ⟨⟨_, (Heap.Ns.new h (.type "dict")).keeps fun b o e => Heap.get?_push_of_some _ e⟩, none, { cls := .type "cell", data := .cell none }, ?_, rfl⟩
    have e : h.objs.size + 1 = (h.push { cls := .type "dict", data := .dict #[] }).objs.size := (Heap.size_push ..).symm
    rw [e]
    exact Heap.get?_push_size _ rfl
noncomputable def CompGA (prog : Program) (w : World) (A : Around) (env : Env) (scope : Scope) (cl : List (Str × Addr)) (elt : Expr) (y : Str) (Bd : Addr → Heap → Value → Prop) (Q : Flow → Shared → Prop) (it : Value) (s₂ : Shared) : Prop :=
  ∃ (I : Addr) (fp wr : List Addr) (n : Nat) (P : Nat → Value → Prop) (St : Nat → Heap → Prop) (F : Value → Value → List (Addr × Obj) → Prop) (m : Str → Option Value), it = .ref I ∧ Walks prog w A I fp wr n P St ∧ n ≤ sizeLine ∧ (∀ i h, St i h → ∀ b ∈ wr, ∃ o, h.get? b = some o) ∧ St 0 s₂.heap ∧ (∀ b ∈ fp, b < s₂.heap.objs.size) ∧
    env.locals ∉ wr ∧ s₂.heap.Ns env.locals m ∧
    (∀ C i v (s₃ : Shared) E', s₂.heap.objs.size ≤ C → i < n → P i v → Bd C s₃.heap v → (∀ b o, b ∉ wr → s₂.heap.get? b = some o → s₃.heap.get? b = some o) →
      wpAny (model prog w) A (eval elt (compEnvG scope cl C env)) (fun y s₄ => (∃ l, F v y l ∧ (∀ p ∈ l, s₃.heap.get? p.1 = none) ∧ Has s₄.heap l) ∧ Keeps s₃ s₄) E' s₃) ∧
    (∀ D h' tk c (vs ys : List Value) l, s₂.heap.get? D = none → h'.get? D = some (listOf ys.toArray c) → vs.length = n → (∀ j v, vs[j]? = some v → P j v) → Trip F vs ys l → Has h' l → (∀ p ∈ l, s₂.heap.get? p.1 = none) → (∀ p ∈ l, p.1 ≠ D) →
      h'.Ns env.locals (fun z => if z = y then some (.ref D) else m z) → (∀ b o, b ≠ env.locals → b ∉ wr → s₂.heap.get? b = some o → h'.get? b = some o) → Q .next { s₂ with heap := h', toks := tk })
theorem Assign_ListComp_L {elt iter : Expr} {x y : Str} {px py : Pos} {scope : Scope} {cl : List (Str × Addr)} {pos spos : Pos} {Q : Flow → Shared → Prop}
    (hsw : swapsWith (.ListComp elt [⟨.Name x px, iter, [], 0⟩] scope pos) (some (.Name y py)) spos.line env = pure true)
    (hclos : closureFor scope env = pure cl) (hkind : scope.kind = .function)
    (hnames : ∀ y ∈ scope.names, y.2 = .local → scope.names.lookup y.1 = some .local) (hx : scope.names.lookup x = some .local) (hcell : ∀ h, pushCells h scope.names = h)
    (hy : env.kindOf y = some .local) (hp : (env.scope.kind == .class || (env.scope.kind == .module && env.locals != env.globals)) = false)
    (h : wpAny (model prog w) A (eval iter env) (fun xv s₁ => wpAny (model prog w) A (pyIter xv) (CompGA prog w A env scope cl elt y (BdL x) Q) E s₁) E s)
    (hs : ∀ x, foldedSetIterable iter env x = pure x := by intro _; rfl) :
    wpAny (model prog w) A (exec (.Assign [.Name y py] (.ListComp elt [⟨.Name x px, iter, [], 0⟩] scope pos) spos) env) Q E s := by
  rw [exec_Assign_Name_used _ _ _ _ hsw]
  refine wpAny_bind (wpAny_standAt (wpAny_bind ?_))
  show wpAny _ A (do let _ ← comprehension (.ListComp elt [⟨.Name x px, iter, [], 0⟩] scope pos) scope env _ (newList []) false (eval iter env) (some (assign (.Name y py) env))) _ _ s
  refine wpAny_bind (wpAny_mono (wpAny_comprehension_free (use := some (assign (.Name y py) env)) (Q := fun _ s' => Q .next s') rfl hs hclos hkind hnames
    (wpAny_mono h (fun xv s₁ h₁ => wpAny_mono h₁ (fun it s₂ h₂ => ?_) fun _ _ e => e) fun _ _ e => e)) (fun _ s' hq => wpAny_pure (wpAny_pure hq)) fun _ _ e => e)
  obtain ⟨I, fp, wr, n, P, St, F, m, rfl, W, hsz, hlive, hst, hfp, hLf, hn, helt, hQ⟩ := h₂
  refine comp_core (RR := fun acc C => compPost (model prog w) A E (some (assign (.Name y py) env)) (fun _ s' => Q .next s') acc C) F (fun C => [C]) (BdL x) (fun C h => ∃ m, h.Ns C m) ?_ ?_ ?_ ?_ ?_ ?_ W hsz hlive hst hfp helt ?_
  · rintro C s' v Q' E' ⟨m, hn⟩ hQ
    refine wpAny_storeName_local (lookup_relabel_local hx) hn (fun h' hn' hs' => hQ h' _ ⟨_, hn', by simp⟩ fun b o hb e => hs'.extBut b o (fun q => hb (by rw [q]; exact .head _)) e) (by simp [compEnvC, relabel, hkind])
  · rintro C h h' ⟨m, hn⟩ hk
    exact ⟨m, hn.at' fun o e => hk C (.head _) o e⟩
  · rintro C h v ⟨m, hn, _⟩
    exact ⟨m, hn⟩
  · rintro C h ⟨m, hn⟩ b hb
    rw [List.mem_singleton.mp hb]; exact ns_some hn
  · intro C b hb
    rw [List.mem_singleton.mp hb]; exact Nat.le_refl _
  · intro h
    rw [hcell]
    exact ⟨_, Heap.Ns.new h (.type "dict")⟩
  intro D C h' tk c vs ys l hDs hDC hb hc hlen hP hT hL hf hD ho hk
  obtain ⟨m', hnC⟩ := hb
  obtain ⟨oL, hoL⟩ := ns_some hn
  have hLs := Heap.lt_size hoL
  have hLD : env.locals ≠ D := Nat.ne_of_lt (Nat.lt_of_lt_of_le hLs hDs)
  have hLC : env.locals ≠ C := Nat.ne_of_lt (Nat.lt_trans (Nat.lt_of_lt_of_le hLs hDs) hDC)
  have hDn : s₂.heap.get? D = none := by
    cases e : s₂.heap.get? D with
    | none => rfl
    | some o => exact absurd (Heap.lt_size e) (Nat.not_lt.mpr hDs)
  have hCn : ∀ b o, s₂.heap.get? b = some o → b ≠ C := fun b o e => Nat.ne_of_lt (Nat.lt_trans (Nat.lt_of_lt_of_le (Heap.lt_size e) hDs) hDC)
  have hlL : ∀ p ∈ l, p.1 ≠ env.locals := fun p hp e => by
    have := hf p hp
    rw [e, hoL] at this; cases this
  show wpAny _ A (assign (.Name y py) env (.ref D)) _ _ _
  refine wpAny_assign_Name (wpAny_storeName_local hy (hn.at' fun o e => hk _ o hLf e) (fun h₂ hn₂ hs₂ => ?_) hp)
  refine ⟨m', hnC.sameBut hs₂ (Ne.symm hLC), fun h₃ hs₃ => ?_⟩
  refine hQ D h₃ _ c vs ys l hDn (hs₃.extBut _ _ (Nat.ne_of_lt hDC) (hs₂.extBut _ _ hLD.symm hc)) hlen hP hT (fun p hp => hs₃.extBut _ _ (fun e => ho p hp (by rw [e]; exact .head _)) (hs₂.extBut _ _ (hlL p hp) (hL p hp))) hf hD (hn₂.sameBut hs₃ hLC) fun b o hbL hbf e =>
    hs₃.extBut b o (hCn b o e) (hs₂.extBut b o hbL (hk b o hbf e))
end
end Mine

-- Du
theorem Mine.noneDu : True := by
  k_with_none
  exact trivial
namespace Mine
section
local macro_rules | `(tactic| k_ne) => `(tactic| first | assumption | (refine Ne.symm ?_; assumption) | exact AllAp.ne (by assumption) (by k_memK) | exact (AllAp.ne (by assumption) (by k_memK)).symm)
local macro_rules | `(tactic| k_all) => `(tactic| assumption)
local macro_rules | `(tactic| walk_at $s:str) => `(tactic| k_extra $s)
noncomputable abbrev bitsZ (sh : Int) (rs : List (Int × Int)) : Int := ((bitKeys sh rs).map fun k => 1 * 2 ^ k.toNat).sum
set_option maxHeartbeats 4000000 in
theorem bits_elt {w : World} {mg mb : Str → Option Value} {A : Around} {E : Value → Shared → Prop} {s : Shared} {h₀ : Heap} {L : Addr} {m : Str → Option Value} {news : List (Addr × Obj)} {env : Env} {c R : Addr} {m2 : Str → Option Value} {sh : Int} {t : Tok} {vs : List Value} {rs : List (Int × Int)} {p1 p2 p3 pos : Pos} (lo : Low A 240)
  (Cg : Cx w mg mb h₀) (F : Fr h₀ L s.heap m) (N : News h₀ L s.heap news) (hR : s.heap.IsList R vs.toArray) (hp : PairsAt s.heap vs rs) (hb : ∀ r ∈ rs, InBnd r) (hlen : rs.length ≤ 100) (hs0 : 0 ≤ sh) (hs1 : sh ≤ 60)
  (hg : env.globals = mainGlobals) (hk : env.scope.kind = .function) (k1 : env.kindOf (Str.ofString "_law_bits") = some .globalImplicit) (k2 : env.kindOf (Str.ofString "ranges") = some .cell) (k3 : env.kindOf (Str.ofString "shift") = some .local)
  (hc : env.cells.lookup (Str.ofString "ranges") = some c) (hv : s.heap.IsCell c (some (.ref R))) (hn : s.heap.Ns env.locals m2) (hm : m2 (Str.ofString "shift") = some (.int sh t)) :
  wpAny (model Pg w) A (eval (.Call (.Name (Str.ofString "_law_bits") p1) [.Name (Str.ofString "ranges") p2, .Name (Str.ofString "shift") p3] [] pos) env) (fun y s₄ => (∃ u, y = .int (bitsZ sh rs) u) ∧ Keeps s s₄) E s := by
  have Xg := Cg.K
  have Tg := Cg.T
  refine wpAny_Call_NameR (nameG_K F Xg Tg (by k_is) ?_ hg hk k1 (by decide))
  k_with_none
  k_with "call ref" => (refine Halt.mk ?_)
  k_with "eval Name" => (refine wpAny_Name (wpAny_loadName_cell hk k2 hc hv ?_) (by decide))
  k_with "eval Name" => (refine wpAny_Name (wpAny_loadName_local hk k3 hn hm ?_) (by decide))
  k_steps
  refine Halt.out ?_
  exact law_bits_spec lo (On.of Cg F N fun a ha => nomatch ha) hR hp hb hlen hs0 hs1 fun t h' tk' S => ⟨⟨t, rfl⟩, h', tk', rfl, fun b o e => S b o (fun h => nomatch h) e⟩
noncomputable abbrev scI : Scope := { kind := .function, names := [(Str.ofString ".0", .local), (Str.ofString "shift", .local), (Str.ofString "_law_bits", .globalImplicit), (Str.ofString "ranges", .free)], isGenerator := false, isCoroutine := false }
theorem clos_scI {env : Env} {c : Addr} (hc : env.cells.lookup (Str.ofString "ranges") = some c) : closureFor scI env = pure [(Str.ofString "ranges", c)] := by
  unfold closureFor
  have e : cellOf env (Str.ofString "ranges") = pure c := by unfold cellOf; rw [hc]
  simp [scI, e]
theorem Trip.at {F : Value → Value → List (Addr × Obj) → Prop} {vs ys : List Value} {l : List (Addr × Obj)} (h : Trip F vs ys l) : ∀ (i : Nat) (v : Value), vs[i]? = some v → ∃ y l', ys[i]? = some y ∧ F v y l' ∧ ∀ p ∈ l', p ∈ l := by
  induction h with
  | nil => intro i v e; simp at e
  | @snoc vs ys l l' v y hT hF ih =>
    intro i u e
    have hl := hT.len
    by_cases hi : i < vs.length
    · rw [List.getElem?_append_left hi] at e
      obtain ⟨y', l2, h1, h2, h3⟩ := ih i u e
      exact ⟨y', l2, by rw [List.getElem?_append_left (by omega)]; exact h1, h2, fun p hp => List.mem_append_right _ (h3 p hp)⟩
    · rw [List.getElem?_append_right (by omega)] at e
      have e0 : i - vs.length = 0 := by
        cases q : i - vs.length with
        | zero => rfl
        | succ n => rw [q] at e; simp at e
      rw [e0] at e
      cases e
      exact ⟨y, l', by rw [List.getElem?_append_right (by omega), hl, e0]; rfl, hF, fun p hp => List.mem_append_left _ hp⟩
noncomputable def BitF (rs : List (Int × Int)) (v y : Value) (l : List (Addr × Obj)) : Prop := l = [] ∧ ∃ n t u, v = .int n t ∧ y = .int (bitsZ n rs) u
theorem list_three {α : Type} {ys : List α} {a b c : α} (h : ys.length = 3) (e1 : ys[0]? = some a) (e2 : ys[1]? = some b) (e3 : ys[2]? = some c) : ys = [a, b, c] :=
  List.ext_getElem? fun i => match i with
    | 0 => e1
    | 1 => e2
    | 2 => e3
    | n + 3 => (List.getElem?_eq_none (by rw [h]; exact Nat.le_add_left 3 n)).trans (List.getElem?_eq_none (Nat.le_add_left 3 n)).symm
theorem list_two {α : Type} {ys : List α} {a b : α} (h : ys.length = 2) (e1 : ys[0]? = some a) (e2 : ys[1]? = some b) : ys = [a, b] :=
  List.ext_getElem? fun i => match i with
    | 0 => e1
    | 1 => e2
    | n + 2 => (List.getElem?_eq_none (by rw [h]; exact Nat.le_add_left 2 n)).trans (List.getElem?_eq_none (Nat.le_add_left 2 n)).symm
theorem list_of_arr {α : Type} {vs ws : List α} (h : vs.length = ws.toArray.size) (hP : ∀ (j : Nat) (v : α), vs[j]? = some v → ws.toArray[j]? = some v) : vs = ws := by
  refine List.ext_getElem? fun j => ?_
  rw [List.size_toArray] at h
  by_cases hj : j < vs.length
  · rw [List.getElem?_eq_getElem hj, ← hP j _ (List.getElem?_eq_getElem hj), List.getElem?_toArray]
  · rw [List.getElem?_eq_none (Nat.le_of_not_lt hj), List.getElem?_eq_none (h ▸ Nat.le_of_not_lt hj)]
theorem bit_three {rs : List (Int × Int)} {ys : List Value} {l : List (Addr × Obj)} {a b c : Int} {t1 t2 t3 : Tok} (h : Trip (BitF rs) [.int a t1, .int b t2, .int c t3] ys l) : ∃ u1 u2 u3, ys = [.int (bitsZ a rs) u1, .int (bitsZ b rs) u2, .int (bitsZ c rs) u3] := by
  obtain ⟨y1, _, e1, ⟨_, n1, s1, u1, q1, rfl⟩, _⟩ := h.at 0 _ rfl
  obtain ⟨y2, _, e2, ⟨_, n2, s2, u2, q2, rfl⟩, _⟩ := h.at 1 _ rfl
  obtain ⟨y3, _, e3, ⟨_, n3, s3, u3, q3, rfl⟩, _⟩ := h.at 2 _ rfl
  cases q1; cases q2; cases q3
  exact ⟨_, _, _, list_three h.len e1 e2 e3⟩
theorem relabel_scI {env : Env} (hk : env.scope.kind = .function) (k2 : env.kindOf (Str.ofString "ranges") = some .cell) : (relabel scI env).names = [(Str.ofString ".0", .local), (Str.ofString "shift", .local), (Str.ofString "_law_bits", .globalImplicit), (Str.ofString "ranges", .cell)] := by
  simp [relabel, scI, hk, k2]
theorem bits_comp {w : World} {mg mb : Str → Option Value} {A : Around} {E : Value → Shared → Prop} {Q : Value → Shared → Prop} {s : Shared} {h₀ : Heap} {L : Addr} {m : Str → Option Value} {news : List (Addr × Obj)} {env : Env} {c R T : Addr} {t0 t1 t2 : Tok} {vs : List Value} {rs : List (Int × Int)} {p1 p2 p3 pos : Pos} (lo : Low A 240)
  (Cg : Cx w mg mb h₀) (F : Fr h₀ L s.heap m) (N : News h₀ L s.heap news) (hR : s.heap.IsList R vs.toArray) (hp : PairsAt s.heap vs rs) (hb : ∀ r ∈ rs, InBnd r) (hlen : rs.length ≤ 100)
  (hg : env.globals = mainGlobals) (hk : env.scope.kind = .function) (k2 : env.kindOf (Str.ofString "ranges") = some .cell)
  (hv : s.heap.IsCell c (some (.ref R))) (hT : s.heap.IsTuple T #[.int 4 t0, .int 0 t1, .int 9 t2])
  (ret : ∀ D h' tk cc u0 u1 u2, s.heap.get? D = none → h'.get? D = some (listOf #[.int (bitsZ 4 rs) u0, .int (bitsZ 0 rs) u1, .int (bitsZ 9 rs) u2] cc) → (∀ b o, s.heap.get? b = some o → h'.get? b = some o) → Q (.ref D) { s with heap := h', toks := tk }) :
  wpAny (model Pg w) A (pyIter (.ref T)) (CompG Pg w A env scI [(Str.ofString "ranges", c)] (.Call (.Name (Str.ofString "_law_bits") p1) [.Name (Str.ofString "ranges") p2, .Name (Str.ofString "shift") p3] [] pos) (BdL (Str.ofString "shift")) Q) E s := by
  refine wpAny_pyIter_tuple hT ?_
  generalize hH2 : s.heap.push _ = H2
  have k12 : ∀ b o, s.heap.get? b = some o → H2.get? b = some o := fun b o e => by rw [← hH2]; exact Heap.get?_push_of_some _ e
  have hI : H2.get? s.heap.objs.size = some { cls := .type "tuple_iterator", data := .fields #[.ref T, .int 0 0] } := by rw [← hH2]; exact Heap.get?_push_size _ rfl
  obtain ⟨oT, hoT, _⟩ := id hT
  have hTlt := Heap.lt_size hoT
  have hsz : H2.objs.size = s.heap.objs.size + 1 := by rw [← hH2]; exact Heap.size_push ..
  refine ⟨s.heap.objs.size, _, _, _, _, _, BitF rs, rfl, Walks.tuple lo.handled s.heap.objs.size T (Nat.ne_of_lt hTlt) _, ?_, ?_, ⟨⟨_, hI, rfl, rfl⟩, tuple_keeps hT k12⟩, ?_, ?_, ?_⟩
  · show 3 ≤ sizeLine
    rw [sizeLine_eq]; decide
  · intro i h st b hb
    obtain ⟨o, ho, _⟩ := st.1
    rw [List.mem_singleton.mp hb]; exact ⟨o, ho⟩
  · intro b hb
    show b < H2.objs.size
    rw [hsz]
    rcases List.mem_cons.mp hb with rfl | hb
    · exact Nat.lt_succ_self _
    · rw [List.mem_singleton.mp hb]; exact Nat.lt_succ_of_lt hTlt
  · intro C i v s₃ E' hC hi hP hbd hk3
    obtain ⟨m3, hn, hm⟩ := hbd
    have k03 : ∀ b o, s.heap.get? b = some o → s₃.heap.get? b = some o := fun b o e => hk3 b o (fun h => absurd (Heap.lt_size e) (by rw [List.mem_singleton.mp h]; exact Nat.lt_irrefl _)) (k12 b o e)
    obtain ⟨n, t, rfl, hn0, hn1⟩ : ∃ n t, v = Value.int n t ∧ 0 ≤ n ∧ n ≤ 60 := by
      have hi3 : i < 3 := hi
      match i, hi3, hP with
      | 0, _, h => exact ⟨4, t0, (Option.some.inj h).symm, by decide, by decide⟩
      | 1, _, h => exact ⟨0, t1, (Option.some.inj h).symm, by decide, by decide⟩
      | 2, _, h => exact ⟨9, t2, (Option.some.inj h).symm, by decide, by decide⟩
    obtain ⟨oc, hoc, hdc⟩ := hv
    have hrl := relabel_scI hk k2
    refine wpAny_mono (bits_elt (c := c) (R := R) lo Cg (F.keeps k03) (fun p hp => ⟨k03 _ _ (N p hp).1, (N p hp).2⟩) (list_keeps hR k03) (hp.keeps k03) hb hlen hn0 hn1 hg rfl ?_ ?_ ?_ rfl ⟨oc, k03 _ _ hoc, hdc⟩ hn hm) (fun y s₄ h4 => ?_) fun _ _ e => e
    · show (relabel scI env).names.lookup _ = _
      rw [hrl]; rfl
    · show (relabel scI env).names.lookup _ = _
      rw [hrl]; rfl
    · show (relabel scI env).names.lookup _ = _
      rw [hrl]; rfl
    · obtain ⟨⟨u, rfl⟩, K⟩ := h4
      exact ⟨⟨[], ⟨rfl, n, t, u, rfl, rfl⟩, (fun _ h => nomatch h), fun _ h => nomatch h⟩, K⟩
  · intro D h' tk cc vs' ys l hD hl hlen' hP hTr hH hf hne hk4
    have e3 : vs' = [.int 4 t0, .int 0 t1, .int 9 t2] := list_of_arr hlen' hP
    subst e3
    obtain ⟨u0, u1, u2, rfl⟩ := bit_three hTr
    refine ret D h' tk cc u0 u1 u2 ?_ hl (fun b o e => hk4 b o (fun h => absurd (Heap.lt_size e) (by rw [List.mem_singleton.mp h]; exact Nat.lt_irrefl _)) (k12 b o e))
    cases q : s.heap.get? D with
    | none => rfl
    | some o => have := k12 _ _ q; dsimp only at hD; rw [hD] at this; cases this
set_option maxHeartbeats 4000000 in
theorem dues_elt {w : World} {mg mb : Str → Option Value} {A : Around} {E : Value → Shared → Prop} {s : Shared} {h₀ : Heap} {L : Addr} {m : Str → Option Value} {news : List (Addr × Obj)} {env : Env} {c R : Addr} {vs : List Value} {rs : List (Int × Int)} {p1 p2 p3 p4 p5 p6 p7 p8 p9 pa pb pc : Pos} (lo : Low A 240)
  (Cg : Cx w mg mb h₀) (F : Fr h₀ L s.heap m) (N : News h₀ L s.heap news) (hR : s.heap.IsList R vs.toArray) (hp : PairsAt s.heap vs rs) (hb : ∀ r ∈ rs, InBnd r) (hlen : rs.length ≤ 100)
  (hg : env.globals = mainGlobals) (hbn : env.builtins = builtinsNs) (hk : env.scope.kind = .function) (k1 : env.kindOf (Str.ofString "tuple") = some .globalImplicit) (k2 : env.kindOf (Str.ofString "ranges") = some .cell)
  (hc : env.cells.lookup (Str.ofString "ranges") = some c) (hv : s.heap.IsCell c (some (.ref R))) :
  wpAny (model Pg w) A (eval (.Call (.Name (Str.ofString "tuple") p1) [.ListComp (.Call (.Name (Str.ofString "_law_bits") p2) [.Name (Str.ofString "ranges") p3, .Name (Str.ofString "shift") p4] [] p5)
      [⟨.Name (Str.ofString "shift") p6, .Tuple [.Constant (.int 4) 0 p7, .Constant (.int 0) 0 p8, .Constant (.int 9) 0 p9] 0 pa, [], 0⟩] scI pb] [] pc) env)
    (fun y s₄ => (∃ l, (∃ T t0 t1 t2, y = .ref T ∧ l = [(T, tupZ [.int (bitsZ 4 rs) t0, .int (bitsZ 0 rs) t1, .int (bitsZ 9 rs) t2] 0)]) ∧ (∀ p ∈ l, s.heap.get? p.1 = none) ∧ Has s₄.heap l) ∧ Keeps s s₄) E s := by
  have Xg := Cg.K
  have Tg := Cg.T
  refine wpAny_Call_NameR (PySem.Calls.Name_function_global hk k1 (PySem.Calls.loadGlobal_builtin (env := env) (by rw [hg]; exact Tg.g.keeps F.keep) (mg_none_of Xg Tg.g (by k_is)) (by rw [hbn]; exact Tg.b.keeps F.keep) ((Tg.builtins _ (by decide)).trans PyProof.Rows.boot_tuple) ?_) (by decide))
  k_with_none
  k_with "eval ListComp Call cons" => (refine Halt.mk ?_)
  k_steps
  refine Halt.out (ListComp_L (cl := [(Str.ofString "ranges", c)]) (clos_scI hc) rfl (by decide) rfl (fun h => rfl) ?_)
  k_with_none
  k_with "newTuple cons int cons" => (refine wpAny_newTuple ?_)
  k_with "pyIter ref" => (refine Halt.mk ?_)
  k_steps
  refine Halt.out ?_
  try dsimp only
  refine bits_comp (s := _) (T := s.heap.objs.size) lo Cg (F.push _) (fun p hp => ⟨Heap.get?_push_of_some _ (N p hp).1, (N p hp).2⟩) (list_keeps hR fun b o e => Heap.get?_push_of_some _ e) (hp.keeps fun b o e => Heap.get?_push_of_some _ e) hb hlen hg hk k2 (by obtain ⟨oc, hoc, hdc⟩ := hv; exact ⟨oc, Heap.get?_push_of_some _ hoc, hdc⟩) ⟨_, Heap.get?_push_size _ rfl, rfl, _, rfl⟩ ?_
  intro D h' tk cc u0 u1 u2 hD hl hk5
  have k05 : ∀ b o, s.heap.get? b = some o → h'.get? b = some o := fun b o e => hk5 b o (Heap.get?_push_of_some _ e)
  k_with_none
  k_with "call type:tuple" => (refine Halt.mk ?_)
  k_steps
  refine Halt.out ?_
  refine call_tuple_list ⟨_, hl, rfl, _, rfl⟩ (fun h6 hk6 => ?_) (by rw [sizeLine_eq]; show 3 ≤ _; decide)
  dsimp only at hk6
  have k06 : ∀ b o, s.heap.get? b = some o → h6.get? b = some o := fun b o e => hk6 b o (k05 b o e)
  refine ⟨⟨[(h6.objs.size, tupZ [.int (bitsZ 4 rs) u0, .int (bitsZ 0 rs) u1, .int (bitsZ 9 rs) u2] 0)], ⟨_, u0, u1, u2, rfl, rfl⟩, ?_, ?_⟩, _, _, rfl, fun b o e => Heap.get?_push_of_some _ (k06 b o e)⟩
  · intro p hp
    cases List.mem_singleton.mp hp
    cases q : s.heap.get? h6.objs.size with
    | none => rfl
    | some o => exact absurd (Heap.lt_size (k06 _ _ q)) (Nat.lt_irrefl _)
  · intro p hp
    cases List.mem_singleton.mp hp
    exact Heap.get?_push_size _ rfl
theorem comp_two {w : World} {A : Around} {E : Value → Shared → Prop} {Q : Value → Shared → Prop} {s : Shared} {env : Env} {scope : Scope} {cl : List (Str × Addr)} {elt : Expr} {Bd : Addr → Heap → Value → Prop} {S R1 R2 : Addr} (G1 G2 : Value → List (Addr × Obj) → Prop)
  (hh : A.handled = none) (hS : s.heap.IsList S #[.ref R1, .ref R2]) (hne : R1 ≠ R2)
  (e1 : ∀ C (s₃ : Shared) E', Bd C s₃.heap (.ref R1) → s.heap.objs.size < C → (∀ b o, s.heap.get? b = some o → s₃.heap.get? b = some o) → wpAny (model Pg w) A (eval elt (compEnvG scope cl C env)) (fun y s₄ => (∃ l, G1 y l ∧ (∀ p ∈ l, s₃.heap.get? p.1 = none) ∧ Has s₄.heap l) ∧ Keeps s₃ s₄) E' s₃)
  (e2 : ∀ C (s₃ : Shared) E', Bd C s₃.heap (.ref R2) → s.heap.objs.size < C → (∀ b o, s.heap.get? b = some o → s₃.heap.get? b = some o) → wpAny (model Pg w) A (eval elt (compEnvG scope cl C env)) (fun y s₄ => (∃ l, G2 y l ∧ (∀ p ∈ l, s₃.heap.get? p.1 = none) ∧ Has s₄.heap l) ∧ Keeps s₃ s₄) E' s₃)
  (ret : ∀ D h' tk cc y1 y2 l1 l2, G1 y1 l1 → G2 y2 l2 → Has h' l1 → Has h' l2 → (∀ p ∈ l1, s.heap.get? p.1 = none ∧ p.1 ≠ D) → (∀ p ∈ l2, s.heap.get? p.1 = none ∧ p.1 ≠ D) → s.heap.get? D = none → h'.get? D = some (listOf #[y1, y2] cc) → (∀ b o, s.heap.get? b = some o → h'.get? b = some o) → Q (.ref D) { s with heap := h', toks := tk }) :
  wpAny (model Pg w) A (pyIter (.ref S)) (CompG Pg w A env scope cl elt Bd Q) E s := by
  refine wpAny_pyIter_list hS ?_
  generalize hH2 : s.heap.push _ = H2
  have k12 : ∀ b o, s.heap.get? b = some o → H2.get? b = some o := fun b o e => by rw [← hH2]; exact Heap.get?_push_of_some _ e
  have hI : H2.IsListIter s.heap.objs.size S 0 := by rw [← hH2]; exact ⟨_, Heap.get?_push_size _ rfl, rfl, rfl⟩
  obtain ⟨oT, hoT, _⟩ := id hS
  have hTlt := Heap.lt_size hoT
  have hsz : H2.objs.size = s.heap.objs.size + 1 := by rw [← hH2]; exact Heap.size_push ..
  refine ⟨s.heap.objs.size, _, _, _, _, _, (fun v y l => (v = .ref R1 → G1 y l) ∧ (v = .ref R2 → G2 y l)), rfl, Walks.list hh s.heap.objs.size S (Nat.ne_of_lt hTlt) _, ?_, ?_, ⟨hI, list_keeps hS k12⟩, ?_, ?_, ?_⟩
  · show 2 ≤ sizeLine
    rw [sizeLine_eq]; decide
  · intro i h st b hb
    obtain ⟨o, ho, _⟩ := st.1
    rw [List.mem_singleton.mp hb]; exact ⟨o, ho⟩
  · intro b hb
    show b < H2.objs.size
    rw [hsz]
    rcases List.mem_cons.mp hb with rfl | hb
    · exact Nat.lt_succ_self _
    · rw [List.mem_singleton.mp hb]; exact Nat.lt_succ_of_lt hTlt
  · intro C i v s₃ E' hC hi hP hbd hk3
    have k03 : ∀ b o, s.heap.get? b = some o → s₃.heap.get? b = some o := fun b o e => hk3 b o (fun h => absurd (Heap.lt_size e) (by rw [List.mem_singleton.mp h]; exact Nat.lt_irrefl _)) (k12 b o e)
    have hC' : s.heap.objs.size < C := Nat.lt_of_lt_of_le (by show _ < H2.objs.size; rw [hsz]; exact Nat.lt_succ_self _) hC
    have hi2 : i < 2 := hi
    match i, hi2, hP with
    | 0, _, h =>
      cases (Option.some.inj h)
      refine wpAny_mono (e1 C s₃ E' hbd hC' k03) (fun y s₄ h4 => ?_) fun _ _ e => e
      obtain ⟨⟨l, g, f, H⟩, K⟩ := h4
      exact ⟨⟨l, ⟨fun _ => g, fun e => absurd (Value.ref.inj e) hne⟩, f, H⟩, K⟩
    | 1, _, h =>
      cases (Option.some.inj h)
      refine wpAny_mono (e2 C s₃ E' hbd hC' k03) (fun y s₄ h4 => ?_) fun _ _ e => e
      obtain ⟨⟨l, g, f, H⟩, K⟩ := h4
      exact ⟨⟨l, ⟨fun e => absurd (Value.ref.inj e).symm hne, fun _ => g⟩, f, H⟩, K⟩
  · intro D h' tk cc vs' ys l hD hl hlen' hP hTr hH hf hne2 hk4
    have e3 : vs' = [.ref R1, .ref R2] := list_of_arr hlen' hP
    subst e3
    obtain ⟨y1, l1, q1, g1, s1⟩ := hTr.at 0 _ rfl
    obtain ⟨y2, l2, q2, g2, s2⟩ := hTr.at 1 _ rfl
    have hyl := hTr.len
    have hys : ys = [y1, y2] := list_two hyl q1 q2
    subst hys
    have old : ∀ a, H2.get? a = none → s.heap.get? a = none := fun a ha => by
      cases q : s.heap.get? a with
      | none => rfl
      | some o => have := k12 _ _ q; rw [ha] at this; cases this
    exact ret D h' tk cc y1 y2 l1 l2 (g1.1 rfl) (g2.2 rfl) (fun p hp => hH p (s1 p hp)) (fun p hp => hH p (s2 p hp)) (fun p hp => ⟨old _ (hf p (s1 p hp)), hne2 p (s1 p hp)⟩) (fun p hp => ⟨old _ (hf p (s2 p hp)), hne2 p (s2 p hp)⟩) (old _ hD) hl (fun b o e => hk4 b o (fun h => absurd (Heap.lt_size e) (by rw [List.mem_singleton.mp h]; exact Nat.lt_irrefl _)) (k12 b o e))
theorem comp_twoA {w : World} {A : Around} {E : Value → Shared → Prop} {Q : Flow → Shared → Prop} {s : Shared} {h₀ : Heap} {m : Str → Option Value} {y : Str} {env : Env} {scope : Scope} {cl : List (Str × Addr)} {elt : Expr} {Bd : Addr → Heap → Value → Prop} {S R1 R2 : Addr} (G1 G2 : Value → List (Addr × Obj) → Prop)
  (hh : A.handled = none) (F : Fr h₀ env.locals s.heap m) (hS : s.heap.IsList S #[.ref R1, .ref R2]) (hne : R1 ≠ R2)
  (e1 : ∀ C (s₃ : Shared) E', Bd C s₃.heap (.ref R1) → s.heap.objs.size < C → (∀ b o, s.heap.get? b = some o → s₃.heap.get? b = some o) → wpAny (model Pg w) A (eval elt (compEnvG scope cl C env)) (fun y s₄ => (∃ l, G1 y l ∧ (∀ p ∈ l, s₃.heap.get? p.1 = none) ∧ Has s₄.heap l) ∧ Keeps s₃ s₄) E' s₃)
  (e2 : ∀ C (s₃ : Shared) E', Bd C s₃.heap (.ref R2) → s.heap.objs.size < C → (∀ b o, s.heap.get? b = some o → s₃.heap.get? b = some o) → wpAny (model Pg w) A (eval elt (compEnvG scope cl C env)) (fun y s₄ => (∃ l, G2 y l ∧ (∀ p ∈ l, s₃.heap.get? p.1 = none) ∧ Has s₄.heap l) ∧ Keeps s₃ s₄) E' s₃)
  (ret : ∀ D h' tk cc y1 y2 l1 l2, G1 y1 l1 → G2 y2 l2 → Has h' l1 → Has h' l2 → (∀ p ∈ l1, s.heap.get? p.1 = none ∧ p.1 ≠ D) → (∀ p ∈ l2, s.heap.get? p.1 = none ∧ p.1 ≠ D) → s.heap.get? D = none → h'.get? D = some (listOf #[y1, y2] cc) → Fr h₀ env.locals h' (fun z => if z = y then some (.ref D) else m z) → (∀ b o, b ≠ env.locals → s.heap.get? b = some o → h'.get? b = some o) → Q .next { s with heap := h', toks := tk }) :
  wpAny (model Pg w) A (pyIter (.ref S)) (CompGA Pg w A env scope cl elt y Bd Q) E s := by
  refine wpAny_pyIter_list hS ?_
  generalize hH2 : s.heap.push _ = H2
  have k12 : ∀ b o, s.heap.get? b = some o → H2.get? b = some o := fun b o e => by rw [← hH2]; exact Heap.get?_push_of_some _ e
  have hI : H2.IsListIter s.heap.objs.size S 0 := by rw [← hH2]; exact ⟨_, Heap.get?_push_size _ rfl, rfl, rfl⟩
  obtain ⟨oT, hoT, _⟩ := id hS
  have hTlt := Heap.lt_size hoT
  have hsz : H2.objs.size = s.heap.objs.size + 1 := by rw [← hH2]; exact Heap.size_push ..
  refine ⟨s.heap.objs.size, _, _, _, _, _, (fun v y l => (v = .ref R1 → G1 y l) ∧ (v = .ref R2 → G2 y l)), m, rfl, Walks.list hh s.heap.objs.size S (Nat.ne_of_lt hTlt) _, ?_, ?_, ⟨hI, list_keeps hS k12⟩, ?_, (fun h => absurd F.ns.lt (by rw [List.mem_singleton.mp h]; exact Nat.lt_irrefl _)), (F.keeps k12).ns, ?_, ?_⟩
  · show 2 ≤ sizeLine
    rw [sizeLine_eq]; decide
  · intro i h st b hb
    obtain ⟨o, ho, _⟩ := st.1
    rw [List.mem_singleton.mp hb]; exact ⟨o, ho⟩
  · intro b hb
    show b < H2.objs.size
    rw [hsz]
    rcases List.mem_cons.mp hb with rfl | hb
    · exact Nat.lt_succ_self _
    · rw [List.mem_singleton.mp hb]; exact Nat.lt_succ_of_lt hTlt
  · intro C i v s₃ E' hC hi hP hbd hk3
    have k03 : ∀ b o, s.heap.get? b = some o → s₃.heap.get? b = some o := fun b o e => hk3 b o (fun h => absurd (Heap.lt_size e) (by rw [List.mem_singleton.mp h]; exact Nat.lt_irrefl _)) (k12 b o e)
    have hC' : s.heap.objs.size < C := Nat.lt_of_lt_of_le (by show _ < H2.objs.size; rw [hsz]; exact Nat.lt_succ_self _) hC
    have hi2 : i < 2 := hi
    match i, hi2, hP with
    | 0, _, h =>
      cases (Option.some.inj h)
      refine wpAny_mono (e1 C s₃ E' hbd hC' k03) (fun y s₄ h4 => ?_) fun _ _ e => e
      obtain ⟨⟨l, g, f, H⟩, K⟩ := h4
      exact ⟨⟨l, ⟨fun _ => g, fun e => absurd (Value.ref.inj e) hne⟩, f, H⟩, K⟩
    | 1, _, h =>
      cases (Option.some.inj h)
      refine wpAny_mono (e2 C s₃ E' hbd hC' k03) (fun y s₄ h4 => ?_) fun _ _ e => e
      obtain ⟨⟨l, g, f, H⟩, K⟩ := h4
      exact ⟨⟨l, ⟨fun e => absurd (Value.ref.inj e).symm hne, fun _ => g⟩, f, H⟩, K⟩
  · intro D h' tk cc vs' ys l hD hl hlen' hP hTr hH hf hne2 hns hk4
    have e3 : vs' = [.ref R1, .ref R2] := list_of_arr hlen' hP
    subst e3
    obtain ⟨y1, l1, q1, g1, s1⟩ := hTr.at 0 _ rfl
    obtain ⟨y2, l2, q2, g2, s2⟩ := hTr.at 1 _ rfl
    have hyl := hTr.len
    have hys : ys = [y1, y2] := list_two hyl q1 q2
    subst hys
    have old : ∀ a, H2.get? a = none → s.heap.get? a = none := fun a ha => by
      cases q : s.heap.get? a with
      | none => rfl
      | some o => have := k12 _ _ q; rw [ha] at this; cases this
    have kL : ∀ b o, b ≠ env.locals → s.heap.get? b = some o → h'.get? b = some o := fun b o hb e => hk4 b o hb (fun h => absurd (Heap.lt_size e) (by rw [List.mem_singleton.mp h]; exact Nat.lt_irrefl _)) (k12 b o e)
    exact ret D h' tk cc y1 y2 l1 l2 (g1.1 rfl) (g2.2 rfl) (fun p hp => hH p (s1 p hp)) (fun p hp => hH p (s2 p hp)) (fun p hp => ⟨old _ (hf p (s1 p hp)), hne2 p (s1 p hp)⟩) (fun p hp => ⟨old _ (hf p (s2 p hp)), hne2 p (s2 p hp)⟩) (old _ hD) hl ⟨hns, fun b o e => kL b o (Nat.ne_of_lt (Nat.lt_of_lt_of_le (Heap.lt_size e) F.above)) (F.keep b o e), F.above⟩ kL
inductive DigG (w : World) (rs : List (Int × Int)) (y : Value) (l : List (Addr × Obj)) : Prop
  | mk (D dx rl : Addr) (tk : Tok) (a b c : Int) (t0 t1 t2 : Tok) (ey : y = .ref D) (er : (a, b, c) = rowsFold rs) (n1 : D ≠ dx) (n2 : D ≠ rl) (n3 : dx ≠ rl) (el : l = dgL w D dx rl tk a t0 b t1 c t2)
set_option maxHeartbeats 4000000 in
theorem dig_elt {w : World} {mg mb : Str → Option Value} {A : Around} {E : Value → Shared → Prop} {s : Shared} {h₀ : Heap} {L : Addr} {m : Str → Option Value} {news : List (Addr × Obj)} {env : Env} {R : Addr} {m2 : Str → Option Value} {vs : List Value} {rs : List (Int × Int)} {p1 p2 pos : Pos} (lo : Low A 220)
  (Cg : Cx w mg mb h₀) (F : Fr h₀ L s.heap m) (N : News h₀ L s.heap news) (hR : s.heap.IsList R vs.toArray) (hp : PairsAt s.heap vs rs)
  (hg : env.globals = mainGlobals) (hk : env.scope.kind = .function) (k1 : env.kindOf (Str.ofString "_law_digest") = some .globalImplicit) (k3 : env.kindOf (Str.ofString "ranges") = some .local)
  (hn : s.heap.Ns env.locals m2) (hm : m2 (Str.ofString "ranges") = some (.ref R)) :
  wpAny (model Pg w) A (eval (.Call (.Name (Str.ofString "_law_digest") p1) [.Name (Str.ofString "ranges") p2] [] pos) env) (fun y s₄ => (∃ l, DigG w rs y l ∧ (∀ p ∈ l, s.heap.get? p.1 = none) ∧ Has s₄.heap l) ∧ Keeps s s₄) E s := by
  have Xg := Cg.K
  have Tg := Cg.T
  refine wpAny_Call_NameR (nameG_K F Xg Tg (by k_is) ?_ hg hk k1 (by decide))
  k_with_none
  k_with "call ref" => (refine Halt.mk ?_)
  k_with "eval Name" => (refine wpAny_Name (wpAny_loadName_local hk k3 hn hm ?_) (by decide))
  k_steps
  refine Halt.out ?_
  refine law_digest_spec lo (On.of Cg F N fun a ha => nomatch ha) hR hp fun D dx rl tk a b c t0 t1 t2 h' tk' e H f1 f2 f3 S => ?_
  obtain ⟨n1, n2, n3⟩ := dgL_ne H
  refine ⟨⟨_, ⟨D, dx, rl, tk, a, b, c, t0, t1, t2, rfl, e, n1, n2, n3, rfl⟩, fun p hp => ?_, H⟩, h', tk', rfl, fun b o e => S b o (fun h => nomatch h) e⟩
  rcases List.mem_cons.mp hp with rfl | hp
  · exact f1
  rcases List.mem_cons.mp hp with rfl | hp
  · exact f2
  · cases List.mem_singleton.mp hp; exact f3
end
end Mine

-- Pl
theorem Mine.nonePl : True := by
  k_with_none
  exact trivial
namespace Mine
/-- a row of 64 bits as a set of places -/
noncomputable def Rep (r : Int) (S : Nat → Prop) : Prop := ∃ b : BitVec 64, r = (b.toNat : Int) ∧ ∀ i, i < 64 → (b.getLsbD i = true ↔ S i)
theorem Rep.unique {r r' : Int} {S S' : Nat → Prop} (h : Rep r S) (h' : Rep r' S') (e : ∀ i, i < 64 → (S i ↔ S' i)) : r = r' := by
  obtain ⟨b, rfl, hb⟩ := h
  obtain ⟨c, rfl, hc⟩ := h'
  have : b = c := BitVec.eq_of_getLsbD_eq fun i hi => by
    have := (hb i hi).trans ((e i hi).trans (hc i hi).symm)
    exact Bool.eq_iff_iff.mpr this
  rw [this]
theorem Rep.cong {r : Int} {S S' : Nat → Prop} (h : Rep r S) (e : ∀ i, i < 64 → (S i ↔ S' i)) : Rep r S' := by
  obtain ⟨b, rfl, hb⟩ := h
  exact ⟨b, rfl, fun i hi => (hb i hi).trans (e i hi)⟩
theorem Rep.zero : Rep 0 (fun _ => False) := ⟨0#64, rfl, fun i _ => by simp⟩
theorem Rep.nat {v : Nat} {S : Nat → Prop} (hv : v < 2 ^ 64) (h : ∀ i, i < 64 → (v.testBit i = true ↔ S i)) : Rep (v : Int) S :=
  ⟨BitVec.ofNat 64 v, by rw [BitVec.toNat_ofNat, Nat.mod_eq_of_lt hv], fun i hi => by rw [BitVec.getLsbD_ofNat]; simp [hi, h i hi]⟩
theorem bitOr_nat (a b : Nat) : Builtin.bitOr (a : Int) (b : Int) = ((a ||| b : Nat) : Int) := by
  have e1 : ∀ n : Nat, Builtin.bitNot (n : Int) = -((n : Int) + 1) := fun n => by unfold Builtin.bitNot; omega
  have e2 : ∀ n : Nat, decide ((0 : Int) ≤ Builtin.bitNot (n : Int)) = false := fun n => by rw [e1]; exact decide_eq_false (by omega)
  have e3 : ∀ x : Int, Builtin.bitNot (Builtin.bitNot x) = x := fun x => by unfold Builtin.bitNot; omega
  unfold Builtin.bitOr Builtin.bitAnd
  rw [e2, e2]
  simp only [e3, Int.toNat_natCast]
theorem Rep.or {r q : Int} {S T : Nat → Prop} (h : Rep r S) (h' : Rep q T) : Rep (Builtin.bitOr r q) (fun i => S i ∨ T i) := by
  obtain ⟨b, rfl, hb⟩ := h
  obtain ⟨c, rfl, hc⟩ := h'
  refine ⟨b ||| c, by rw [bitOr_nat, BitVec.toNat_or], fun i hi => ?_⟩
  rw [BitVec.getLsbD_or, Bool.or_eq_true, hb i hi, hc i hi]
theorem Rep.add {r : Int} {S : Nat → Prop} {k : Nat} (h : Rep r S) (hk : k < 64) (hn : ¬ S k) : Rep (r + 1 * 2 ^ k) (fun i => S i ∨ i = k) := by
  obtain ⟨b, rfl, hb⟩ := h
  have hz : b &&& BitVec.twoPow 64 k = 0#64 := BitVec.eq_of_getLsbD_eq fun i hi => by
    rw [BitVec.getLsbD_and, BitVec.getLsbD_twoPow]
    by_cases e : k = i
    · subst e
      have : b.getLsbD k = false := by
        cases q : b.getLsbD k with
        | false => rfl
        | true => exact absurd ((hb k hk).mp q) hn
      simp [this]
    · simp [e]
  refine ⟨b ||| BitVec.twoPow 64 k, ?_, fun i hi => ?_⟩
  · rw [← BitVec.add_eq_or_of_and_eq_zero _ _ hz, BitVec.toNat_add_of_and_eq_zero hz, BitVec.toNat_twoPow, Nat.mod_eq_of_lt (Nat.pow_lt_pow_right (by decide) hk)]
    simp [Int.natCast_pow]
  · rw [BitVec.getLsbD_or, BitVec.getLsbD_twoPow, Bool.or_eq_true, hb i hi]
    simp [hk, eq_comm]
theorem Rep.span {a b : Int} (hab : a ≤ b) : Rep (spanZ a b) (fun i => ∃ x, a ≤ x ∧ x ≤ b ∧ x.fmod 64 = (i : Int)) := by
  have fa := fm64 a
  have fb := fm64 b
  have e64 : ∀ x : Int, x.fmod 64 = x % 64 := fun x => Int.fmod_eq_emod_of_nonneg _ (by decide)
  unfold spanZ
  split
  · rename_i h
    refine (Rep.nat (v := 18446744073709551615) (S := fun i => i < 64) (by decide) fun i hi => ?_).cong fun i hi => ?_
    · have : (2 ^ 64 - 1).testBit i = decide (i < 64) := Nat.testBit_two_pow_sub_one 64 i
      have e : (18446744073709551615 : Nat) = 2 ^ 64 - 1 := by decide
      rw [e, this]; simp
    · constructor
      · intro _
        refine ⟨a + ((i : Int) - a) % 64, ?_, ?_, ?_⟩
        · omega
        · omega
        · rw [e64]; omega
      · intro _; exact hi
  · rename_i h
    obtain ⟨lo, hlo⟩ : ∃ n : Nat, a.fmod 64 = (n : Int) := ⟨(a.fmod 64).toNat, by omega⟩
    obtain ⟨hi, hhi⟩ : ∃ n : Nat, b.fmod 64 = (n : Int) := ⟨(b.fmod 64).toNat, by omega⟩
    rw [hlo, hhi]
    rw [hlo] at fa
    rw [hhi] at fb
    rw [e64] at hlo hhi
    simp only [Int.toNat_natCast]
    split
    · rename_i hle
      have hle' : lo ≤ hi := by omega
      have e : (2 * 2 ^ hi - 1 * 2 ^ lo : Int) = ((2 ^ (hi + 1 - lo) - 1) * 2 ^ lo : Nat) := by
        have e1 : (2 : Nat) ^ (hi + 1) = 2 ^ (hi + 1 - lo) * 2 ^ lo := by rw [← Nat.pow_add]; congr 1; omega
        have e2 : 2 ^ lo ≤ 2 ^ (hi + 1) := Nat.pow_le_pow_right (by decide) (by omega)
        rw [Nat.sub_mul, ← e1, Nat.one_mul, Int.ofNat_sub e2]
        simp [Int.natCast_pow, Int.pow_succ]
        omega
      rw [e]
      refine (Rep.nat (S := fun i => lo ≤ i ∧ i ≤ hi) ?_ fun i hi' => ?_).cong fun i hi' => ?_
      · have : (2 ^ (hi + 1 - lo) - 1) * 2 ^ lo < 2 ^ (hi + 1 - lo) * 2 ^ lo := Nat.mul_lt_mul_of_pos_right (Nat.sub_lt (Nat.two_pow_pos _) (by decide)) (Nat.two_pow_pos _)
        rw [← Nat.pow_add] at this
        exact Nat.lt_of_lt_of_le this (Nat.pow_le_pow_right (by decide) (by omega))
      · rw [Nat.testBit_mul_two_pow, Nat.testBit_two_pow_sub_one]
        simp
        omega
      · constructor
        · rintro ⟨h1, h2⟩
          exact ⟨a + ((i : Int) - lo), by omega, by omega, by rw [e64]; omega⟩
        · rintro ⟨x, h1, h2, h3⟩
          rw [e64] at h3
          omega
    · rename_i hle
      have hlt : hi < lo := by omega
      have e : (18446744073709551615 - 1 * 2 ^ lo + 2 * 2 ^ hi : Int) = (2 ^ lo * (2 ^ (64 - lo) - 1) + (2 ^ (hi + 1) - 1) : Nat) := by
        have e1 : (2 : Nat) ^ 64 = 2 ^ lo * 2 ^ (64 - lo) := by rw [← Nat.pow_add]; congr 1; omega
        have e2 : 2 ^ lo ≤ 2 ^ 64 := Nat.pow_le_pow_right (by decide) (by omega)
        have e3 := Nat.two_pow_pos (hi + 1)
        rw [Nat.mul_sub, ← e1, Nat.mul_one]
        have e4 : ((2 ^ 64 - 2 ^ lo + (2 ^ (hi + 1) - 1) : Nat) : Int) = (2 ^ 64 : Nat) - (2 ^ lo : Nat) + ((2 ^ (hi + 1) : Nat) - 1) := by omega
        rw [e4]
        simp [Int.natCast_pow, Int.pow_succ]
        omega
      rw [e]
      have hbl : 2 ^ (hi + 1) - 1 < 2 ^ lo := Nat.lt_of_lt_of_le (Nat.sub_lt (Nat.two_pow_pos _) (by decide)) (Nat.pow_le_pow_right (by decide) (by omega))
      refine (Rep.nat (S := fun i => lo ≤ i ∨ i ≤ hi) ?_ fun i hi' => ?_).cong fun i hi' => ?_
      · have e1 : (2 : Nat) ^ 64 = 2 ^ lo * 2 ^ (64 - lo) := by rw [← Nat.pow_add]; congr 1; omega
        have e2 : 2 ^ lo ≤ 2 ^ 64 := Nat.pow_le_pow_right (by decide) (by omega)
        rw [Nat.mul_sub, ← e1, Nat.mul_one]
        omega
      · rw [Nat.two_pow_add_eq_or_of_lt hbl, Nat.testBit_or, Nat.testBit_two_pow_mul, Nat.testBit_two_pow_sub_one, Nat.testBit_two_pow_sub_one]
        simp
        omega
      · constructor
        · rintro (h1 | h1)
          · exact ⟨a + ((i : Int) - lo), by omega, by omega, by rw [e64]; omega⟩
          · exact ⟨b - ((hi : Int) - i), by omega, by omega, by rw [e64]; omega⟩
        · rintro ⟨x, h1, h2, h3⟩
          rw [e64] at h3
          omega
end Mine

-- Pm
theorem Mine.nonePm : True := by
  k_with_none
  exact trivial
namespace Mine
noncomputable def foldZ (sh : Int) (rs : List (Int × Int)) : Int := rs.foldl (fun a r => addZ sh a r.1 r.2) 0
theorem foldZ_snoc (sh : Int) (rs : List (Int × Int)) (r : Int × Int) : foldZ sh (rs ++ [r]) = addZ sh (foldZ sh rs) r.1 r.2 := by
  unfold foldZ; rw [List.foldl_append]; rfl
theorem rowsFold_eq (rs : List (Int × Int)) : rowsFold rs = (foldZ 4 rs, foldZ 0 rs, foldZ 9 rs) := by
  refine list_snoc_ind (P := fun rs => rowsFold rs = (foldZ 4 rs, foldZ 0 rs, foldZ 9 rs)) rfl (fun rs r ih => ?_) rs
  have : rowsFold (rs ++ [r]) = rowStep (rowsFold rs) r := by unfold rowsFold; rw [List.foldl_append]; rfl
  rw [this, ih, foldZ_snoc, foldZ_snoc, foldZ_snoc]; rfl
/-- the ranges go up -/
noncomputable def Up (rs : List (Int × Int)) : Prop := ∀ r ∈ rs, r.1 ≤ r.2
/-- what the ranges cover -/
noncomputable def Un (rs : List (Int × Int)) (g : Int) : Prop := ∃ r ∈ rs, r.1 ≤ g ∧ g ≤ r.2
noncomputable def plc (sh g : Int) : Int := (g.fdiv (2 ^ sh.toNat)).fmod 64
theorem between {s : Nat} {a b x : Int} (hab : a ≤ b) (h1 : a.fdiv (2 ^ s) ≤ x) (h2 : x ≤ b.fdiv (2 ^ s)) : ∃ g, a ≤ g ∧ g ≤ b ∧ g.fdiv (2 ^ s) = x := by
  have hp : (0 : Int) < 2 ^ s := Int.pow_pos (by decide)
  rw [Int.fdiv_eq_ediv_of_nonneg _ (Int.le_of_lt hp)] at h1 h2
  by_cases h : a ≤ x * 2 ^ s
  · refine ⟨x * 2 ^ s, h, ?_, ?_⟩
    · exact Int.mul_le_of_le_ediv hp h2
    · rw [Int.fdiv_eq_ediv_of_nonneg _ (Int.le_of_lt hp), Int.mul_ediv_cancel _ (Int.ne_of_gt hp)]
  · refine ⟨a, Int.le_refl _, hab, ?_⟩
    rw [Int.fdiv_eq_ediv_of_nonneg _ (Int.le_of_lt hp)]
    refine Int.le_antisymm h1 ?_
    exact Int.le_ediv_of_mul_le hp (by omega)
theorem foldZ_rep (sh : Int) (rs : List (Int × Int)) (hu : Up rs) : Rep (foldZ sh rs) (fun i => ∃ g, Un rs g ∧ plc sh g = (i : Int)) := by
  revert hu
  refine list_snoc_ind (P := fun rs => Up rs → Rep (foldZ sh rs) (fun i => ∃ g, Un rs g ∧ plc sh g = (i : Int))) (fun _ => ?_) (fun rs r ih hu => ?_) rs
  · exact Rep.zero.cong fun i _ => ⟨fun h => h.elim, fun ⟨g, ⟨r, hr, _⟩, _⟩ => nomatch hr⟩
  · have hr : r.1 ≤ r.2 := hu r (List.mem_append_right _ (.head _))
    rw [foldZ_snoc]
    unfold addZ
    refine (Rep.or (ih fun r hr => hu r (List.mem_append_left _ hr)) (Rep.span (fdiv_mono sh.toNat hr))).cong fun i hi => ?_
    constructor
    · rintro (⟨g, ⟨q, hq, h1, h2⟩, h3⟩ | ⟨x, h1, h2, h3⟩)
      · exact ⟨g, ⟨q, List.mem_append_left _ hq, h1, h2⟩, h3⟩
      · obtain ⟨g, g1, g2, g3⟩ := between hr h1 h2
        exact ⟨g, ⟨r, List.mem_append_right _ (.head _), g1, g2⟩, by unfold plc; rw [g3]; exact h3⟩
    · rintro ⟨g, ⟨q, hq, h1, h2⟩, h3⟩
      rcases List.mem_append.mp hq with hq | hq
      · exact .inl ⟨g, ⟨q, hq, h1, h2⟩, h3⟩
      · rw [List.mem_singleton.mp hq] at h1 h2
        exact .inr ⟨_, fdiv_mono sh.toNat h1, fdiv_mono sh.toNat h2, h3⟩
theorem foldZ_eq {sh : Int} {rs rs' : List (Int × Int)} (hu : Up rs) (hu' : Up rs') (e : ∀ g, Un rs g ↔ Un rs' g) : foldZ sh rs = foldZ sh rs' :=
  Rep.unique (foldZ_rep sh rs hu) (foldZ_rep sh rs' hu') fun i _ => ⟨fun ⟨g, h1, h2⟩ => ⟨g, (e g).mp h1, h2⟩, fun ⟨g, h1, h2⟩ => ⟨g, (e g).mpr h1, h2⟩⟩
theorem keyPut_nodup {ks : List Int} {k : Int} (h : ks.Nodup) : (keyPut ks k).Nodup := by
  unfold keyPut
  split
  · exact h
  · rename_i hn
    rw [List.nodup_append]
    exact ⟨h, by simp, fun a ha b hb e => hn (by rw [← List.mem_singleton.mp hb, ← e]; exact ha)⟩
theorem putAll_nodup {ks : List Int} {a : Int} {n : Nat} (h : ks.Nodup) : (putAll ks a n).Nodup := by
  induction n with
  | zero => exact h
  | succ n ih => rw [putAll_succ]; exact keyPut_nodup ih
theorem bitKeys_nodup (sh : Int) (rs : List (Int × Int)) : (bitKeys sh rs).Nodup := by
  refine list_snoc_ind (P := fun rs => (bitKeys sh rs).Nodup) List.nodup_nil (fun rs r ih => ?_) rs
  rw [bitKeys_snoc]; exact putAll_nodup ih
theorem keys_rep {ks : List Int} (hn : ks.Nodup) (hb : ∀ k ∈ ks, 0 ≤ k ∧ k < 64) : Rep ((ks.map fun k => 1 * 2 ^ k.toNat).sum) (fun i => (i : Int) ∈ ks) := by
  induction ks with
  | nil => exact Rep.zero.cong fun i _ => ⟨fun h => h.elim, fun h => nomatch h⟩
  | cons k ks ih =>
    obtain ⟨h1, h2⟩ := List.nodup_cons.mp hn
    obtain ⟨b1, b2⟩ := hb k (.head _)
    have hk : ((k.toNat : Nat) : Int) = k := Int.toNat_of_nonneg b1
    rw [List.map_cons, List.sum_cons, Int.add_comm]
    refine (Rep.add (ih h2 fun k hk => hb k (.tail _ hk)) (k := k.toNat) (by omega) (by rw [hk]; exact h1)).cong fun i _ => ?_
    rw [List.mem_cons]
    constructor
    · rintro (h | h)
      · exact .inr h
      · exact .inl (by omega)
    · rintro (h | h)
      · exact .inr (by omega)
      · exact .inl h
theorem bitKeys_mem (sh : Int) (rs : List (Int × Int)) (hu : Up rs) (x : Int) : x ∈ bitKeys sh rs ↔ ∃ g, Un rs g ∧ plc sh g = x := by
  revert hu
  refine list_snoc_ind (P := fun rs => Up rs → (x ∈ bitKeys sh rs ↔ ∃ g, Un rs g ∧ plc sh g = x)) (fun _ => ?_) (fun rs r ih hu => ?_) rs
  · exact ⟨(fun h => nomatch h), (fun ⟨g, ⟨r, hr, _⟩, _⟩ => nomatch hr)⟩
  · have hr : r.1 ≤ r.2 := hu r (List.mem_append_right _ (.head _))
    have hm := fdiv_mono sh.toNat hr
    rw [bitKeys_snoc, putAll_mem, ih fun r hr => hu r (List.mem_append_left _ hr)]
    constructor
    · rintro (⟨g, ⟨q, hq, h1, h2⟩, h3⟩ | ⟨n, h1, h2⟩)
      · exact ⟨g, ⟨q, List.mem_append_left _ hq, h1, h2⟩, h3⟩
      · obtain ⟨g, g1, g2, g3⟩ := between (s := sh.toNat) (x := r.1.fdiv (2 ^ sh.toNat) + n) hr (by omega) (by omega)
        exact ⟨g, ⟨r, List.mem_append_right _ (.head _), g1, g2⟩, by unfold plc; rw [g3]; exact h2.symm⟩
    · rintro ⟨g, ⟨q, hq, h1, h2⟩, h3⟩
      rcases List.mem_append.mp hq with hq | hq
      · exact .inl ⟨g, ⟨q, hq, h1, h2⟩, h3⟩
      · rw [List.mem_singleton.mp hq] at h1 h2
        have m1 := fdiv_mono sh.toNat h1
        have m2 := fdiv_mono sh.toNat h2
        refine .inr ⟨(g.fdiv (2 ^ sh.toNat) - r.1.fdiv (2 ^ sh.toNat)).toNat, by omega, ?_⟩
        rw [← h3]; unfold plc
        congr 1; omega
/-- a digest's row is what the law gathers -/
theorem foldZ_bits (sh : Int) (rs : List (Int × Int)) (hu : Up rs) : foldZ sh rs = ((bitKeys sh rs).map fun k => 1 * 2 ^ k.toNat).sum :=
  Rep.unique (foldZ_rep sh rs hu) (keys_rep (bitKeys_nodup sh rs) (bitKeys_bnd sh rs)) fun i _ => (bitKeys_mem sh rs hu i).symm
theorem rows_bits (rs : List (Int × Int)) (hb : ∀ r ∈ rs, InBnd r) : rowsFold rs = (((bitKeys 4 rs).map fun k => 1 * 2 ^ k.toNat).sum, ((bitKeys 0 rs).map fun k => 1 * 2 ^ k.toNat).sum, ((bitKeys 9 rs).map fun k => 1 * 2 ^ k.toNat).sum) := by
  have hu : Up rs := fun r hr => (hb r hr).2.1
  rw [rowsFold_eq, foldZ_bits _ _ hu, foldZ_bits _ _ hu, foldZ_bits _ _ hu]
theorem rows_rev (rs : List (Int × Int)) (hb : ∀ r ∈ rs, InBnd r) : rowsFold rs.reverse = rowsFold rs := by
  have hu : Up rs := fun r hr => (hb r hr).2.1
  have hu' : Up rs.reverse := fun r hr => hu r (List.mem_reverse.mp hr)
  have e : ∀ g, Un rs.reverse g ↔ Un rs g := fun g => ⟨fun ⟨r, hr, h⟩ => ⟨r, List.mem_reverse.mp hr, h⟩, fun ⟨r, hr, h⟩ => ⟨r, List.mem_reverse.mpr hr, h⟩⟩
  rw [rowsFold_eq, rowsFold_eq, foldZ_eq hu' hu e, foldZ_eq hu' hu e, foldZ_eq hu' hu e]
/-- runs of successive numbers cover the numbers and no more, whatever their order -/
theorem runs_cover (ns : List Int) : Up (runsZ ns) ∧ ∀ g, Un (runsZ ns) g ↔ g ∈ ns := by
  refine list_snoc_ind (P := fun ns => Up (runsZ ns) ∧ ∀ g, Un (runsZ ns) g ↔ g ∈ ns) ⟨fun r hr => (nomatch hr), fun g => ⟨fun ⟨r, hr, _⟩ => (nomatch hr), fun h => (nomatch h)⟩⟩ (fun ns x ih => ?_) ns
  obtain ⟨hu, he⟩ := ih
  have e : runsZ (ns ++ [x]) = runStep (runsZ ns) x := by unfold runsZ; rw [List.foldl_append]; rfl
  rw [e]
  generalize runsZ ns = rs at hu he
  have key : ∀ r' : List (Int × Int), (∀ g, Un r' g ↔ Un rs g ∨ g = x) → ∀ g, Un r' g ↔ g ∈ ns ++ [x] := fun r' h g => by
    rw [h g, he g, List.mem_append, List.mem_singleton]
  revert hu he key
  refine list_snoc_ind (P := fun rs => Up rs → (∀ g, Un rs g ↔ g ∈ ns) → (∀ r' : List (Int × Int), (∀ g, Un r' g ↔ Un rs g ∨ g = x) → ∀ g, Un r' g ↔ g ∈ ns ++ [x]) → Up (runStep rs x) ∧ ∀ g, Un (runStep rs x) g ↔ g ∈ ns ++ [x]) (fun hu he key => ?_) (fun rs r _ hu he key => ?_) rs
  · rw [runStep_nil]
    refine ⟨fun r hr => by rw [List.mem_singleton.mp hr]; exact Int.le_refl _, key _ fun g => ?_⟩
    constructor
    · rintro ⟨r, hr, h1, h2⟩
      rw [List.mem_singleton.mp hr] at h1 h2
      exact .inr (Int.le_antisymm h2 h1)
    · rintro (⟨r, hr, _⟩ | rfl)
      · exact nomatch hr
      · exact ⟨_, .head _, Int.le_refl _, Int.le_refl _⟩
  · obtain ⟨a, b⟩ := r
    have hab : a ≤ b := hu (a, b) (List.mem_append_right _ (.head _))
    rw [runStep_snoc]
    split
    · rename_i hx
      refine ⟨fun r hr => ?_, key _ fun g => ?_⟩
      · rcases List.mem_append.mp hr with hr | hr
        · exact hu r (List.mem_append_left _ hr)
        · rw [List.mem_singleton.mp hr]; show a ≤ x; omega
      · constructor
        · rintro ⟨r, hr, h1, h2⟩
          rcases List.mem_append.mp hr with hr | hr
          · exact .inl ⟨r, List.mem_append_left _ hr, h1, h2⟩
          · rw [List.mem_singleton.mp hr] at h1 h2
            by_cases hg : g = x
            · exact .inr hg
            · exact .inl ⟨(a, b), List.mem_append_right _ (.head _), h1, by dsimp only at h2 ⊢; omega⟩
        · rintro (⟨r, hr, h1, h2⟩ | rfl)
          · rcases List.mem_append.mp hr with hr | hr
            · exact ⟨r, List.mem_append_left _ hr, h1, h2⟩
            · rw [List.mem_singleton.mp hr] at h1 h2
              exact ⟨(a, x), List.mem_append_right _ (.head _), h1, by dsimp only at h2 ⊢; omega⟩
          · exact ⟨(a, g), List.mem_append_right _ (.head _), by dsimp only; omega, Int.le_refl _⟩
    · refine ⟨fun r hr => ?_, key _ fun g => ?_⟩
      · rcases List.mem_append.mp hr with hr | hr
        · exact hu r hr
        · rw [List.mem_singleton.mp hr]; exact Int.le_refl _
      · constructor
        · rintro ⟨r, hr, h1, h2⟩
          rcases List.mem_append.mp hr with hr | hr
          · exact .inl ⟨r, hr, h1, h2⟩
          · rw [List.mem_singleton.mp hr] at h1 h2
            exact .inr (Int.le_antisymm h2 h1)
        · rintro (⟨r, hr, h1, h2⟩ | rfl)
          · exact ⟨r, List.mem_append_left _ hr, h1, h2⟩
          · exact ⟨(g, g), List.mem_append_right _ (.head _), Int.le_refl _, Int.le_refl _⟩
end Mine

-- Pn
theorem Mine.nonePn : True := by
  k_with_none
  exact trivial
namespace Mine
noncomputable def single (ns : List Int) : List (Int × Int) := ns.map fun g => (g, g)
theorem single_up (ns : List Int) : Up (single ns) := fun r hr => by
  obtain ⟨g, _, rfl⟩ := List.mem_map.mp hr; exact Int.le_refl _
theorem single_un (ns : List Int) (g : Int) : Un (single ns) g ↔ g ∈ ns := by
  constructor
  · rintro ⟨r, hr, h1, h2⟩
    obtain ⟨x, hx, rfl⟩ := List.mem_map.mp hr
    rw [Int.le_antisymm h2 h1]; exact hx
  · intro h
    exact ⟨(g, g), List.mem_map.mpr ⟨g, h, rfl⟩, Int.le_refl _, Int.le_refl _⟩
theorem rows_eq {rs rs' : List (Int × Int)} (hu : Up rs) (hu' : Up rs') (e : ∀ g, Un rs g ↔ Un rs' g) : rowsFold rs = rowsFold rs' := by
  rw [rowsFold_eq, rowsFold_eq, foldZ_eq hu hu' e, foldZ_eq hu hu' e, foldZ_eq hu hu' e]
theorem keysZ_mem (ns : List Int) (g : Int) : g ∈ keysZ ns ↔ g ∈ ns := by
  refine list_snoc_ind (P := fun ns => g ∈ keysZ ns ↔ g ∈ ns) (by rfl) (fun ns x ih => ?_) ns
  have e : keysZ (ns ++ [x]) = keyPut (keysZ ns) x := by unfold keysZ; rw [List.foldl_append]; rfl
  rw [e, keyPut_mem, ih, List.mem_append, List.mem_singleton]
/-- the numbers of the ranges, one behind the other -/
noncomputable def listed (rs : List (Int × Int)) : List Int := rs.flatMap fun r => rangeKs r.1 (r.2 + 1 - r.1).toNat
theorem rangeKs_mem {a g : Int} {n : Nat} : g ∈ rangeKs a n ↔ a ≤ g ∧ g < a + n := by
  unfold rangeKs
  rw [List.mem_map]
  constructor
  · rintro ⟨i, hi, rfl⟩
    have := List.mem_range.mp hi
    omega
  · rintro ⟨h1, h2⟩
    exact ⟨(g - a).toNat, List.mem_range.mpr (by omega), by omega⟩
theorem listed_mem (rs : List (Int × Int)) (g : Int) : g ∈ listed rs ↔ Un rs g := by
  unfold listed
  rw [List.mem_flatMap]
  constructor
  · rintro ⟨r, hr, h⟩
    obtain ⟨h1, h2⟩ := rangeKs_mem.mp h
    exact ⟨r, hr, h1, by omega⟩
  · rintro ⟨r, hr, h1, h2⟩
    exact ⟨r, hr, rangeKs_mem.mpr ⟨h1, by omega⟩⟩
theorem rows_single {rs : List (Int × Int)} (hb : ∀ r ∈ rs, InBnd r) : rowsFold (single (listed rs)) = rowsFold rs :=
  rows_eq (single_up _) (fun r hr => (hb r hr).2.1) fun g => (single_un _ g).trans (listed_mem rs g)
theorem rows_runs {ns ns' : List Int} (hp : ns'.Perm (keysZ ns)) : rowsFold (runsZ ns') = rowsFold (single ns) :=
  rows_eq (runs_cover ns').1 (single_up _) fun g => ((runs_cover ns').2 g).trans ((hp.mem_iff.trans (keysZ_mem ns g)).trans (single_un ns g).symm)
theorem bitAnd_nat (a b : Nat) : Builtin.bitAnd (a : Int) (b : Int) = ((a &&& b : Nat) : Int) := by
  unfold Builtin.bitAnd
  rw [decide_eq_true (show (0 : Int) ≤ (a : Int) by omega), decide_eq_true (show (0 : Int) ≤ (b : Int) by omega)]
  simp only [Int.toNat_natCast]
theorem rep_bit {r : Int} {S : Nat → Prop} (h : Rep r S) {k : Nat} (hk : k < 64) : (Builtin.bitAnd (r.fdiv (2 ^ k)) 1 = 0 ∧ ¬ S k) ∨ (Builtin.bitAnd (r.fdiv (2 ^ k)) 1 = 1 ∧ S k) := by
  obtain ⟨b, rfl, hb⟩ := h
  have e1 : ((b.toNat : Int)).fdiv (2 ^ k) = ((b.toNat / 2 ^ k : Nat) : Int) := by
    rw [Int.fdiv_eq_ediv_of_nonneg _ (Int.le_of_lt (Int.pow_pos (by decide)))]
    simp [Int.natCast_pow]
  have e2 : Builtin.bitAnd (((b.toNat / 2 ^ k : Nat) : Int)) 1 = ((b.toNat / 2 ^ k % 2 : Nat) : Int) := by
    have := bitAnd_nat (b.toNat / 2 ^ k) 1
    rw [Nat.and_one_is_mod] at this
    exact this
  have e3 : b.getLsbD k = decide (b.toNat / 2 ^ k % 2 = 1) := by
    rw [BitVec.getLsbD, Nat.testBit_eq_decide_div_mod_eq]
  rw [e1, e2]
  have := hb k hk
  rw [e3, decide_eq_true_iff] at this
  rcases Nat.mod_two_eq_zero_or_one (b.toNat / 2 ^ k) with h | h
  · left; rw [h]; exact ⟨rfl, fun hs => by have := this.mpr hs; omega⟩
  · right; rw [h]; exact ⟨rfl, this.mp h⟩
theorem plc_bnd (sh g : Int) : 0 ≤ plc sh g ∧ plc sh g < 64 := fm64 _
theorem bitZ_fold (sh : Int) (rs : List (Int × Int)) (hu : Up rs) (g : Int) : (bitZ (foldZ sh rs) sh g = 0 ∧ ¬ ∃ x, Un rs x ∧ plc sh x = plc sh g) ∨ (bitZ (foldZ sh rs) sh g = 1 ∧ ∃ x, Un rs x ∧ plc sh x = plc sh g) := by
  obtain ⟨b1, b2⟩ := plc_bnd sh g
  have hk : (((plc sh g).toNat : Nat) : Int) = plc sh g := Int.toNat_of_nonneg b1
  have := rep_bit (foldZ_rep sh rs hu) (k := (plc sh g).toNat) (by omega)
  rw [hk] at this
  exact this
theorem bitZ_01 {rs : List (Int × Int)} {a b c : Int} (hb : ∀ r ∈ rs, InBnd r) (e : (a, b, c) = rowsFold rs) (g : Int) : (bitZ a 4 g = 0 ∨ bitZ a 4 g = 1) ∧ (bitZ b 0 g = 0 ∨ bitZ b 0 g = 1) ∧ (bitZ c 9 g = 0 ∨ bitZ c 9 g = 1) := by
  rw [rowsFold_eq] at e
  have hu : Up rs := fun r hr => (hb r hr).2.1
  injection e with e1 e; injection e with e2 e3
  rw [e1, e2, e3]
  refine ⟨?_, ?_, ?_⟩ <;> exact (bitZ_fold _ rs hu g).elim (fun h => .inl h.1) fun h => .inr h.1
/-- what was put in is found -/
theorem may_have_in {rs : List (Int × Int)} {a b c : Int} (hb : ∀ r ∈ rs, InBnd r) (e : (a, b, c) = rowsFold rs) {g : Int} (hg : Un rs g) : mayHaveZ a b c g = true := by
  rw [rowsFold_eq] at e
  have hu : Up rs := fun r hr => (hb r hr).2.1
  injection e with e1 e; injection e with e2 e3
  have k : ∀ sh, bitZ (foldZ sh rs) sh g ≠ 0 := fun sh h => (bitZ_fold sh rs hu g).elim (fun q => q.2 ⟨g, hg, rfl⟩) fun q => by rw [h] at q; exact absurd q.1 (by decide)
  unfold mayHaveZ
  rw [e1, e2, e3, if_neg (k 4), if_neg (k 0), if_neg (k 9)]
/-- the last check: a span's bits are the sum of its residues' powers -/
theorem span_sum {a b : Int} (hab : a ≤ b) (hd : b - a ≤ 62) : spanZ a b = ((rangeKs a (b + 1 - a).toNat).map fun x => 1 * 2 ^ (x.fmod 64).toNat).sum := by
  have e64 : ∀ x : Int, x.fmod 64 = x % 64 := fun x => Int.fmod_eq_emod_of_nonneg _ (by decide)
  have h := keys_rep (ks := (rangeKs a (b + 1 - a).toNat).map fun x => x.fmod 64) ?_ ?_
  · rw [List.map_map] at h
    refine Rep.unique (Rep.span hab) h fun i _ => ?_
    rw [List.mem_map]
    constructor
    · rintro ⟨x, h1, h2, h3⟩
      exact ⟨x, rangeKs_mem.mpr ⟨h1, by omega⟩, h3⟩
    · rintro ⟨x, hx, h3⟩
      obtain ⟨h1, h2⟩ := rangeKs_mem.mp hx
      exact ⟨x, h1, by omega, h3⟩
  · unfold rangeKs
    rw [List.map_map, List.nodup_iff_pairwise_ne, List.pairwise_map]
    refine List.Pairwise.imp_of_mem ?_ List.pairwise_lt_range
    intro i j hi hj hij e
    have := List.mem_range.mp hi
    have := List.mem_range.mp hj
    simp only [Function.comp, e64] at e
    omega
  · intro k hk
    obtain ⟨x, _, rfl⟩ := List.mem_map.mp hk
    exact fm64 x
theorem span_wide {a b : Int} (hd : 62 < b - a) : spanZ a b = 18446744073709551615 := by
  unfold spanZ; rw [if_pos (by omega)]
end Mine

-- Z3
theorem Mine.noneZ3 : True := by
  k_with_none
  exact trivial
namespace Mine
noncomputable abbrev IsTri (h : Heap) (T : Addr) (a b c : Value) : Prop := h.get? T = some { cls := .type "tuple", data := .seq #[a, b, c] }
/-- a zip object over three lists, laid at n, its parts in a row -/
structure Zip3 (h : Heap) (n l1 l2 l3 : Nat) (f : Value) (k : Nat) (xs ys ws : Array Value) : Prop where
  z : IsZip h (n + 5) (n + 3) (n + 4) f
  ti : IsTri h (n + 3) (.ref n) (.ref (n + 1)) (.ref (n + 2))
  to : ∃ a b c, IsTri h (n + 4) a b c
  i1 : h.IsListIter n l1 k
  i2 : h.IsListIter (n + 1) l2 k
  i3 : h.IsListIter (n + 2) l3 k
  p1 : h.IsList l1 xs
  p2 : h.IsList l2 ys
  p3 : h.IsList l3 ws
theorem list_keeps' {h h' : Heap} {a : Addr} {items : Array Value} (x : h.IsList a items) (hk : ∀ o, h.get? a = some o → h'.get? a = some o) : h'.IsList a items := x.at hk
section
variable {prog : Program} {w : World} {A : Around} {E : Value → Shared → Prop} {s : Shared}
theorem updateSeq_tri {T : Addr} {a b c x : Value} {k : Nat} {Q : Unit → Shared → Prop} (hT : IsTri s.heap T a b c)
    (h : ∀ h', h'.get? T = some { cls := .type "tuple", data := .seq ((#[a, b, c] : Array Value).setIfInBounds k x) } → Heap.SameBut T s.heap h' → Q () { s with heap := h' }) :
    wpAny (model prog w) A (updateSeq T (·.setIfInBounds k x)) Q E s := by
  refine wpAny_updateSeq hT rfl (h _ ?_ (Heap.SameBut.update ..))
  rw [Heap.get?_update_self _ hT rfl]
  simp [Obj.mapSeq]
theorem zip3_item {n l1 l2 l3 : Nat} {k : Nat} {xs ys ws : Array Value} {x y v : Value} {Q : Option Value → Shared → Prop} (Z : Zip3 s.heap n l1 l2 l3 .none k xs ys ws) (g1 : l1 < n) (g2 : l2 < n) (g3 : l3 < n)
    (hx : xs[k]? = some x) (hy : ys[k]? = some y) (hv : ws[k]? = some v)
    (hQ : ∀ h', Zip3 h' n l1 l2 l3 (rawInt s.heap.objs.size) (k + 1) xs ys ws → IsTri h' s.heap.objs.size x y v → (∀ (c : Nat) o, c ≠ n + 5 → c ≠ n + 4 → c ≠ n → c ≠ n + 1 → c ≠ n + 2 → s.heap.get? c = some o → h'.get? c = some o) → Q (some (.ref s.heap.objs.size)) { s with heap := h' }) :
    wpAny (model prog w) A (pyNext (.ref (n + 5))) Q E s := by
  obtain ⟨hz, hTI, ⟨a, b, c, hTO⟩, h1, h2, h3, p1, p2, p3⟩ := Z
  have hT : s.TypeIs (.ref (n + 5)) "zip" := ⟨_, hz, rfl⟩
  unfold pyNext
  refine wpAny_bind (wpAny_attempt (wpAny_callSpecial?_slot (name := Str.ofString "__next__") hT F.slot_zip_next
    (wpAny_call_entry F.slot_zip_next hT F.entry_zip_next ?_ (F.args_zip_next_1 _))))
  show wpAny _ _ (field (.ref (n + 5)) 2 >>= _) _ _ _
  refine wpAny_bind (wpAny_field hz rfl (x := .bool false) rfl ?_)
  show wpAny _ _ (field (.ref (n + 5)) 3 >>= _) _ _ _
  refine wpAny_bind (wpAny_field hz rfl (x := .ref (n + 3)) rfl ?_)
  refine wpAny_bind (wpAny_seqItems hTI rfl ?_)
  show wpAny _ _ (Builtin.SmallTypes.ownedTupleIsFree (.ref (n + 5)) >>= _) _ _ _
  refine wpAny_bind ?_
  unfold Builtin.SmallTypes.ownedTupleIsFree
  refine wpAny_bind (wpAny_field hz rfl (x := .none) rfl (wpAny_pure ?_))
  simp only [if_true]
  refine wpAny_bind (wpAny_rule ?_)
  refine wpAny_bind (wpAny_field hz rfl (x := .ref (n + 4)) rfl ?_)
  refine wpAny_bind (wpAny_setField_rec hz (by simp) fun ha hza hsa => ?_)
  have ka : ∀ (q : Nat) o, q ≠ n + 5 → s.heap.get? q = some o → ha.get? q = some o := fun q o e1 e => hsa.extBut _ _ e1 e
  refine wpAny_bind ?_
  simp only [List.zipIdx_cons, List.zipIdx_nil, List.forIn_cons, List.forIn_nil]
  refine wpAny_bind (wpAny_bind (wpAny_onRaise ?_))
  show wpAny _ _ (Builtin.SmallTypes.nextOf (.ref n) >>= _) _ _ _
  refine wpAny_bind (wpAny_nextOf_list_item (h1.at fun o e => ka _ o (by refine (?_ : @Ne Nat _ _); omega) e) (list_keeps' p1 fun o e => ka _ o (by refine (?_ : @Ne Nat _ _); omega) e) hx fun hb h1b hsb => wpAny_pure ?_)
  have kb : ∀ (q : Nat) o, q ≠ n + 5 → q ≠ n → s.heap.get? q = some o → hb.get? q = some o := fun q o e1 e2 e => hsb.extBut _ _ e2 (ka q o e1 e)
  refine wpAny_bind (wpAny_seqItems (kb _ _ (by refine (?_ : @Ne Nat _ _); omega) (by refine (?_ : @Ne Nat _ _); omega) hTO) rfl ?_)
  refine wpAny_bind (updateSeq_tri (kb _ _ (by refine (?_ : @Ne Nat _ _); omega) (by refine (?_ : @Ne Nat _ _); omega) hTO) fun hc hTOc hsc => ?_)
  replace hTOc : IsTri hc (n + 4) x b c := hTOc
  have kc : ∀ (q : Nat) o, q ≠ n + 5 → q ≠ n → q ≠ n + 4 → s.heap.get? q = some o → hc.get? q = some o := fun q o e1 e2 e3 e => hsc.extBut _ _ e3 (kb q o e1 e2 e)
  refine wpAny_bind (wpAny_letGo (wpAny_pure ?_))
  refine wpAny_bind (wpAny_bind (wpAny_onRaise ?_))
  show wpAny _ _ (Builtin.SmallTypes.nextOf (.ref (n + 1)) >>= _) _ _ _
  refine wpAny_bind (wpAny_nextOf_list_item (h2.at fun o e => kc _ o (by refine (?_ : @Ne Nat _ _); omega) (by refine (?_ : @Ne Nat _ _); omega) (by refine (?_ : @Ne Nat _ _); omega) e) (list_keeps' p2 fun o e => kc _ o (by refine (?_ : @Ne Nat _ _); omega) (by refine (?_ : @Ne Nat _ _); omega) (by refine (?_ : @Ne Nat _ _); omega) e) hy fun hd h2d hsd => wpAny_pure ?_)
  have kd : ∀ (q : Nat) o, q ≠ n + 5 → q ≠ n → q ≠ n + 4 → q ≠ n + 1 → s.heap.get? q = some o → hd.get? q = some o := fun q o e1 e2 e3 e4 e => hsd.extBut _ _ e4 (kc q o e1 e2 e3 e)
  have hTOd : IsTri hd (n + 4) x b c := hsd.extBut _ _ (by refine (?_ : @Ne Nat _ _); omega) hTOc
  refine wpAny_bind (wpAny_seqItems hTOd rfl ?_)
  refine wpAny_bind (updateSeq_tri hTOd fun he hTOe hse => ?_)
  replace hTOe : IsTri he (n + 4) x y c := hTOe
  have ke : ∀ (q : Nat) o, q ≠ n + 5 → q ≠ n → q ≠ n + 4 → q ≠ n + 1 → s.heap.get? q = some o → he.get? q = some o := fun q o e1 e2 e3 e4 e => hse.extBut _ _ e3 (kd q o e1 e2 e3 e4 e)
  refine wpAny_bind (wpAny_letGo (wpAny_pure ?_))
  refine wpAny_bind (wpAny_bind (wpAny_onRaise ?_))
  show wpAny _ _ (Builtin.SmallTypes.nextOf (.ref (n + 2)) >>= _) _ _ _
  refine wpAny_bind (wpAny_nextOf_list_item (h3.at fun o e => ke _ o (by refine (?_ : @Ne Nat _ _); omega) (by refine (?_ : @Ne Nat _ _); omega) (by refine (?_ : @Ne Nat _ _); omega) (by refine (?_ : @Ne Nat _ _); omega) e) (list_keeps' p3 fun o e => ke _ o (by refine (?_ : @Ne Nat _ _); omega) (by refine (?_ : @Ne Nat _ _); omega) (by refine (?_ : @Ne Nat _ _); omega) (by refine (?_ : @Ne Nat _ _); omega) e) hv fun hf h3f hsf => wpAny_pure ?_)
  have hTOf : IsTri hf (n + 4) x y c := hsf.extBut _ _ (by refine (?_ : @Ne Nat _ _); omega) hTOe
  refine wpAny_bind (wpAny_seqItems hTOf rfl ?_)
  refine wpAny_bind (updateSeq_tri hTOf fun hg hTOg hsg => ?_)
  replace hTOg : IsTri hg (n + 4) x y v := hTOg
  have kg : ∀ (q : Nat) o, q ≠ n + 5 → q ≠ n + 4 → q ≠ n → q ≠ n + 1 → q ≠ n + 2 → s.heap.get? q = some o → hg.get? q = some o := fun q o e1 e3 e2 e4 e5 e => hsg.extBut _ _ e3 (hsf.extBut _ _ e5 (ke q o e1 e2 e3 e4 e))
  refine wpAny_bind (wpAny_letGo (wpAny_pure (wpAny_pure ?_)))
  refine wpAny_bind (wpAny_seqItems hTOg rfl ?_)
  refine wpAny_bind (wpAny_newTuple ?_)
  have hsz : hg.objs.size = s.heap.objs.size := by rw [hsg.1, hsf.1, hse.1, hsd.1, hsc.1, hsb.1, hsa.1]
  have hzg : IsZip hg (n + 5) (n + 3) (n + 4) .ellipsis := hsg.extBut _ _ (by refine (?_ : @Ne Nat _ _); omega) (hsf.extBut _ _ (by refine (?_ : @Ne Nat _ _); omega) (hse.extBut _ _ (by refine (?_ : @Ne Nat _ _); omega) (hsd.extBut _ _ (by refine (?_ : @Ne Nat _ _); omega) (hsc.extBut _ _ (by refine (?_ : @Ne Nat _ _); omega) (hsb.extBut _ _ (by refine (?_ : @Ne Nat _ _); omega) hza)))))
  have i1g : hg.IsListIter n l1 (k + 1) := ((((h1b.extBut hsc.extBut (by refine (?_ : @Ne Nat _ _); omega)).extBut hsd.extBut (by refine (?_ : @Ne Nat _ _); omega)).extBut hse.extBut (by refine (?_ : @Ne Nat _ _); omega)).extBut hsf.extBut (by refine (?_ : @Ne Nat _ _); omega)).extBut hsg.extBut (by refine (?_ : @Ne Nat _ _); omega)
  have i2g : hg.IsListIter (n + 1) l2 (k + 1) := ((h2d.extBut hse.extBut (by refine (?_ : @Ne Nat _ _); omega)).extBut hsf.extBut (by refine (?_ : @Ne Nat _ _); omega)).extBut hsg.extBut (by refine (?_ : @Ne Nat _ _); omega)
  have i3g : hg.IsListIter (n + 2) l3 (k + 1) := h3f.extBut hsg.extBut (by refine (?_ : @Ne Nat _ _); omega)
  have hzlt : n + 5 < hg.objs.size := Heap.lt_size hzg
  show wpAny _ _ (Builtin.SmallTypes.ownedTupleHandOut (.ref (n + 5)) (.ref hg.objs.size) >>= _) _ _ _
  refine wpAny_bind ?_
  unfold Builtin.SmallTypes.ownedTupleHandOut
  have hz6 : IsZip (hg.push { cls := .type "tuple", data := .seq #[x, y, v] }) (n + 5) (n + 3) (n + 4) .ellipsis := Heap.get?_push_of_some _ hzg
  refine wpAny_bind (wpAny_setField_rec hz6 (by simp) fun h7 hz7 hs7 => ?_)
  replace hz7 : IsZip h7 (n + 5) (n + 3) (n + 4) (rawInt hg.objs.size) := hz7
  refine wpAny_setField_rec hz7 (by simp) fun h8 hz8 hs8 => ?_
  replace hz8 : IsZip h8 (n + 5) (n + 3) (n + 4) (rawInt hg.objs.size) := hz8
  have up : ∀ (q : Nat) o, q ≠ n + 5 → hg.get? q = some o → h8.get? q = some o := fun q o e1 e => hs8.extBut _ _ e1 (hs7.extBut _ _ e1 (Heap.get?_push_of_some _ e))
  have hT8 : IsTri h8 hg.objs.size x y v := hs8.extBut _ _ (Nat.ne_of_gt hzlt) (hs7.extBut _ _ (Nat.ne_of_gt hzlt) (Heap.get?_push_size _ rfl))
  rw [hsz] at hz8 hT8
  refine wpAny_pure ⟨_, rfl, ?_⟩
  refine wpAny_pure ?_
  show Q (some (.ref hg.objs.size)) _
  rw [hsz]
  have kk : ∀ (q : Nat) o, q ≠ n + 5 → q ≠ n + 4 → q ≠ n → q ≠ n + 1 → q ≠ n + 2 → s.heap.get? q = some o → h8.get? q = some o := fun q o e1 e2 e3 e4 e5 e => up q o e1 (kg q o e1 e2 e3 e4 e5 e)
  exact hQ h8 ⟨hz8, kk _ _ (by refine (?_ : @Ne Nat _ _); omega) (by refine (?_ : @Ne Nat _ _); omega) (by refine (?_ : @Ne Nat _ _); omega) (by refine (?_ : @Ne Nat _ _); omega) (by refine (?_ : @Ne Nat _ _); omega) hTI, ⟨_, _, _, up _ _ (by refine (?_ : @Ne Nat _ _); omega) hTOg⟩, i1g.at fun o e => up _ o (by refine (?_ : @Ne Nat _ _); omega) e, i2g.at fun o e => up _ o (by refine (?_ : @Ne Nat _ _); omega) e, i3g.at fun o e => up _ o (by refine (?_ : @Ne Nat _ _); omega) e,
    list_keeps' p1 fun o e => kk _ o (by refine (?_ : @Ne Nat _ _); omega) (by refine (?_ : @Ne Nat _ _); omega) (by refine (?_ : @Ne Nat _ _); omega) (by refine (?_ : @Ne Nat _ _); omega) (by refine (?_ : @Ne Nat _ _); omega) e, list_keeps' p2 fun o e => kk _ o (by refine (?_ : @Ne Nat _ _); omega) (by refine (?_ : @Ne Nat _ _); omega) (by refine (?_ : @Ne Nat _ _); omega) (by refine (?_ : @Ne Nat _ _); omega) (by refine (?_ : @Ne Nat _ _); omega) e, list_keeps' p3 fun o e => kk _ o (by refine (?_ : @Ne Nat _ _); omega) (by refine (?_ : @Ne Nat _ _); omega) (by refine (?_ : @Ne Nat _ _); omega) (by refine (?_ : @Ne Nat _ _); omega) (by refine (?_ : @Ne Nat _ _); omega) e⟩ hT8 kk
theorem zip3_end {n l1 l2 l3 : Nat} {k : Nat} {xs ys ws : Array Value} {Q : Option Value → Shared → Prop} (hh : A.handled = none) (Z : Zip3 s.heap n l1 l2 l3 .none k xs ys ws) (g1 : l1 < n) (hx : xs[k]? = none)
    (hQ : ∀ h', (∀ (c : Nat) o, c ≠ n + 5 → c ≠ n + 4 → c ≠ n → c ≠ n + 1 → c ≠ n + 2 → s.heap.get? c = some o → h'.get? c = some o) → Q none { s with heap := h' }) :
    wpAny (model prog w) A (pyNext (.ref (n + 5))) Q E s := by
  obtain ⟨hz, hTI, ⟨a, b, c, hTO⟩, h1, h2, h3, p1, p2, p3⟩ := Z
  have hT : s.TypeIs (.ref (n + 5)) "zip" := ⟨_, hz, rfl⟩
  unfold pyNext
  refine wpAny_bind (wpAny_attempt (wpAny_callSpecial?_slot (name := Str.ofString "__next__") hT F.slot_zip_next
    (wpAny_call_entry F.slot_zip_next hT F.entry_zip_next ?_ (F.args_zip_next_1 _))))
  show wpAny _ _ (field (.ref (n + 5)) 2 >>= _) _ _ _
  refine wpAny_bind (wpAny_field hz rfl (x := .bool false) rfl ?_)
  show wpAny _ _ (field (.ref (n + 5)) 3 >>= _) _ _ _
  refine wpAny_bind (wpAny_field hz rfl (x := .ref (n + 3)) rfl ?_)
  refine wpAny_bind (wpAny_seqItems hTI rfl ?_)
  show wpAny _ _ (Builtin.SmallTypes.ownedTupleIsFree (.ref (n + 5)) >>= _) _ _ _
  refine wpAny_bind ?_
  unfold Builtin.SmallTypes.ownedTupleIsFree
  refine wpAny_bind (wpAny_field hz rfl (x := .none) rfl (wpAny_pure ?_))
  simp only [if_true]
  refine wpAny_bind (wpAny_rule ?_)
  refine wpAny_bind (wpAny_field hz rfl (x := .ref (n + 4)) rfl ?_)
  refine wpAny_bind (wpAny_setField_rec hz (by simp) fun ha hza hsa => ?_)
  have ka : ∀ (q : Nat) o, q ≠ n + 5 → s.heap.get? q = some o → ha.get? q = some o := fun q o e1 e => hsa.extBut _ _ e1 e
  refine wpAny_bind ?_
  simp only [List.zipIdx_cons, List.zipIdx_nil, List.forIn_cons, List.forIn_nil]
  refine wpAny_bind (wpAny_bind (wpAny_onRaise ?_))
  show wpAny _ _ (Builtin.SmallTypes.nextOf (.ref n) >>= _) _ _ _
  refine wpAny_bind (wpAny_nextOf_list_end hh (h1.at fun o e => ka _ o (by refine (?_ : @Ne Nat _ _); omega) e) (list_keeps' p1 fun o e => ka _ o (by refine (?_ : @Ne Nat _ _); omega) e) hx fun h₂ e hs₂ he => ?_)
  obtain ⟨oe, hoe, hce⟩ := he
  have hz₂ : IsZip h₂ (n + 5) (n + 3) (n + 4) .ellipsis := hs₂ _ _ (by refine (?_ : @Ne Nat _ _); omega) hza
  have hez : e ≠ n + 5 := fun q => by subst q; rw [hz₂] at hoe; cases hoe; simp at hce
  refine wpAny_setField_rec hz₂ (by simp) fun h₃ _ hs₃ => ?_
  refine wpAny_bind (wpAny_isInstance (T := "StopIteration") (b := true) ⟨oe, hs₃.extBut _ _ hez hoe, hce⟩ isSubtype_stop ?_)
  exact wpAny_pure (hQ h₃ fun c o c1 c2 c3 c4 c5 x => hs₃.extBut _ _ c1 (hs₂ _ _ c3 (ka c o c1 x)))
theorem typeCall_zip_3 (a b c : Value) : checkTypeCall "zip" ⟨[a, b, c], []⟩ = pure () := by kernel_rfl
theorem newCall_zip_3 (a b c : Value) : checkBuiltinCall "zip.__new__" ⟨[.type "zip", a, b, c], []⟩ = pure () := by kernel_rfl
theorem args_object_init_4 (a b c d : Value) : argsOk "object.__init__" ⟨[a, b, c, d], []⟩ := by
  unfold argsOk; rw [signature?_of (id := "object.__init__") (n := ['_', '_', 't', 'i', 'n', 'i', '_', '_']) (o := ['t', 'c', 'e', 'j', 'b', 'o']) (by kernel_rfl) PySem.F.owner_object]; kernel_rfl
noncomputable abbrev z31 (h : Heap) (l1 : Addr) : Heap := h.push { cls := .type "list_iterator", data := .fields #[.ref l1, .int 0 0] }
noncomputable abbrev z32 (h : Heap) (l1 l2 : Addr) : Heap := (z31 h l1).push { cls := .type "list_iterator", data := .fields #[.ref l2, .int 0 0] }
noncomputable abbrev z33 (h : Heap) (l1 l2 l3 : Addr) : Heap := (z32 h l1 l2).push { cls := .type "list_iterator", data := .fields #[.ref l3, .int 0 0] }
noncomputable abbrev z34 (h : Heap) (l1 l2 l3 : Addr) : Heap := (z33 h l1 l2 l3).push { cls := .type "tuple", data := .seq #[.ref h.objs.size, .ref (z31 h l1).objs.size, .ref (z32 h l1 l2).objs.size] }
noncomputable abbrev z35 (h : Heap) (l1 l2 l3 : Addr) : Heap := (z34 h l1 l2 l3).push { cls := .type "tuple", data := .seq #[.none, .none, .none] }
noncomputable abbrev z36 (h : Heap) (l1 l2 l3 : Addr) : Heap := (z35 h l1 l2 l3).push { cls := .type "zip", data := .fields #[.none, .bool false, .bool false, .ref (z33 h l1 l2 l3).objs.size, .ref (z34 h l1 l2 l3).objs.size] }
set_option maxHeartbeats 4000000 in
theorem meets_zip_new3 (l1 l2 l3 : Addr) (xs ys ws : Array Value) :
    Meets (Builtin.«zip.__new__» ⟨[.type "zip", .ref l1, .ref l2, .ref l3], []⟩) (fun _ R s => s.heap.IsList l1 xs ∧ s.heap.IsList l2 ys ∧ s.heap.IsList l3 ws ∧
      R (.ok (.ret (.ref (z35 s.heap l1 l2 l3).objs.size))) { s with heap := z36 s.heap l1 l2 l3 }) :=
  .of_wp fun prog w A R s h => by
    obtain ⟨hp, g, d, tk, os⟩ := s; obtain ⟨hl1, hl2, hl3, h⟩ := h
    have hsub := sub_zip
    have hL1 : Heap.IsList (Shared.heap ⟨hp, g, d, tk, os⟩) l1 xs := hl1
    have hL2 : Heap.IsList (Shared.heap ⟨hp.push { cls := .type "list_iterator", data := .fields #[.ref l1, .int 0 0] }, g, d, tk, os⟩) l2 ys := Heap.IsList.push hl2 _
    have hL3 : Heap.IsList (Shared.heap ⟨(hp.push { cls := .type "list_iterator", data := .fields #[.ref l1, .int 0 0] }).push { cls := .type "list_iterator", data := .fields #[.ref l2, .int 0 0] }, g, d, tk, os⟩) l3 ws := Heap.IsList.push (Heap.IsList.push hl3 _) _
    wp_walk using wpAny_pyIter_list hL1, wpAny_pyIter_list hL2, wpAny_pyIter_list hL3
    exact ⟨_, rfl, h⟩
theorem call_zip_3 {l1 l2 l3 : Addr} {xs ys ws : Array Value} {Q : Value → Shared → Prop} (hl1 : s.heap.IsList l1 xs) (hl2 : s.heap.IsList l2 ys) (hl3 : s.heap.IsList l3 ws)
    (h : ∀ h', Zip3 h' s.heap.objs.size l1 l2 l3 .none 0 xs ys ws → (∀ c o, s.heap.get? c = some o → h'.get? c = some o) → Q (.ref (s.heap.objs.size + 5)) { s with heap := h' }) :
    wpAny (model prog w) A (call (.type "zip") [.ref l1, .ref l2, .ref l3]) Q E s := by
  refine callType_new F.called_zip (by decide) (typeCall_zip_3 _ _ _) (newCall_zip_3 _ _ _) (fun obj => args_object_init_4 obj _ _ _) F.entry_zip_new
    (meets_zip_new3 l1 l2 l3 xs ys ws) ⟨hl1, hl2, hl3, ?_⟩
  have z1 : (z31 s.heap l1).objs.size = s.heap.objs.size + 1 := Heap.size_push ..
  have z2 : (z32 s.heap l1 l2).objs.size = s.heap.objs.size + 2 := by rw [Heap.size_push, z1]
  have z3 : (z33 s.heap l1 l2 l3).objs.size = s.heap.objs.size + 3 := by rw [Heap.size_push, z2]
  have z4 : (z34 s.heap l1 l2 l3).objs.size = s.heap.objs.size + 4 := by rw [Heap.size_push, z3]
  have z5 : (z35 s.heap l1 l2 l3).objs.size = s.heap.objs.size + 5 := by rw [Heap.size_push, z4]
  have up : ∀ c o, s.heap.get? c = some o → (z36 s.heap l1 l2 l3).get? c = some o := fun c o x =>
    Heap.get?_push_of_some _ (Heap.get?_push_of_some _ (Heap.get?_push_of_some _ (Heap.get?_push_of_some _ (Heap.get?_push_of_some _ (Heap.get?_push_of_some _ x)))))
  have q6 : (z36 s.heap l1 l2 l3).get? (z35 s.heap l1 l2 l3).objs.size = some _ := Heap.get?_push_size _ rfl
  have q5 : (z36 s.heap l1 l2 l3).get? (z34 s.heap l1 l2 l3).objs.size = some _ := Heap.get?_push_of_some _ (Heap.get?_push_size _ rfl)
  have q4 : (z36 s.heap l1 l2 l3).get? (z33 s.heap l1 l2 l3).objs.size = some _ := Heap.get?_push_of_some _ (Heap.get?_push_of_some _ (Heap.get?_push_size _ rfl))
  have q3 : (z36 s.heap l1 l2 l3).get? (z32 s.heap l1 l2).objs.size = some _ := Heap.get?_push_of_some _ (Heap.get?_push_of_some _ (Heap.get?_push_of_some _ (Heap.get?_push_size _ rfl)))
  have q2 : (z36 s.heap l1 l2 l3).get? (z31 s.heap l1).objs.size = some _ := Heap.get?_push_of_some _ (Heap.get?_push_of_some _ (Heap.get?_push_of_some _ (Heap.get?_push_of_some _ (Heap.get?_push_size _ rfl))))
  have q1 : (z36 s.heap l1 l2 l3).get? s.heap.objs.size = some _ := Heap.get?_push_of_some _ (Heap.get?_push_of_some _ (Heap.get?_push_of_some _ (Heap.get?_push_of_some _ (Heap.get?_push_of_some _ (Heap.get?_push_size _ rfl)))))
  show _ ∧ _
  rw [z3, z4, z5] at q6
  rw [z4] at q5
  rw [z1, z2, z3] at q4
  rw [z2] at q3
  rw [z1] at q2
  rw [z5]
  exact ⟨⟨_, q6, rfl⟩, h _ ⟨q6, q4, ⟨_, _, _, q5⟩, ⟨_, q1, rfl, rfl⟩, ⟨_, q2, rfl, rfl⟩, ⟨_, q3, rfl, rfl⟩, hl1.at fun o e => up _ o e, hl2.at fun o e => up _ o e, hl3.at fun o e => up _ o e⟩ up⟩
end
end Mine

-- Z4
theorem Mine.noneZ4 : True := by
  k_with_none
  exact trivial
namespace Mine
theorem Zip3.frame {h h' : Heap} {n l1 l2 l3 : Nat} {f : Value} {k : Nat} {xs ys ws : Array Value} (Z : Zip3 h n l1 l2 l3 f k xs ys ws)
    (hk : ∀ b ∈ [n + 5, n + 3, n + 4, n, n + 1, n + 2, l1, l2, l3], ∀ o, h.get? b = some o → h'.get? b = some o) : Zip3 h' n l1 l2 l3 f k xs ys ws := by
  obtain ⟨hz, hTI, ⟨a, b, c, hTO⟩, h1, h2, h3, p1, p2, p3⟩ := Z
  exact ⟨hk _ (by simp) _ hz, hk _ (by simp) _ hTI, ⟨a, b, c, hk _ (by simp) _ hTO⟩, h1.at fun o e => hk _ (by simp) o e, h2.at fun o e => hk _ (by simp) o e, h3.at fun o e => hk _ (by simp) o e,
    p1.at fun o e => hk _ (by simp) o e, p2.at fun o e => hk _ (by simp) o e, p3.at fun o e => hk _ (by simp) o e⟩
section
variable {prog : Program} {w : World} {A : Around} {E : Value → Shared → Prop} {s : Shared}
theorem turns_zip3 {elts : List Expr} {kk : Nat} {pos : Pos} (hh : A.handled = none) {n l1 l2 l3 : Nat} {m : Nat} {xs ys ws : Array Value} (g1 : l1 < n) (g2 : l2 < n) (g3 : l3 < n) (e1 : xs.size = m) (e2 : ys.size = m) (e3 : ws.size = m) :
    KTurns prog w A (.Tuple elts kk pos) (n + 5) [n + 5, n + 3, n + 4, n, n + 1, n + 2, l1, l2, l3] [n + 5, n + 4, n, n + 1, n + 2] m
      (fun i v h => ∃ T x y z, v = .ref T ∧ xs[i]? = some x ∧ ys[i]? = some y ∧ ws[i]? = some z ∧ IsTri h T x y z)
      (fun i v h => ∃ T x y z, v = .ref T ∧ xs[i]? = some x ∧ ys[i]? = some y ∧ ws[i]? = some z ∧ IsTri h T x y z ∧ T ≠ n + 5 ∧ Zip3 h n l1 l2 l3 (rawInt T) (i + 1) xs ys ws)
      (fun i h => Zip3 h n l1 l2 l3 .none i xs ys ws) where
  sub := fun b hb => by simp at hb ⊢; rcases hb with rfl | rfl | rfl | rfl | rfl <;> simp
  frame := fun i h h' Z hk => Z.frame hk
  item := fun i s Q E hi Z hQ => by
    have a1 : xs[i]? = some xs[i] := Array.getElem?_eq_getElem (by omega)
    have a2 : ys[i]? = some ys[i] := Array.getElem?_eq_getElem (by omega)
    have a3 : ws[i]? = some ws[i] := Array.getElem?_eq_getElem (by omega)
    have hlt : n + 5 < s.heap.objs.size := Heap.lt_size Z.z
    refine zip3_item Z g1 g2 g3 a1 a2 a3 fun h' Z' hT hk => ?_
    refine hQ (.ref s.heap.objs.size) h' s.toks ⟨_, _, _, _, rfl, a1, a2, a3, hT, Nat.ne_of_gt hlt, Z'⟩ fun c o hc e => hk c o (fun q => hc (by rw [q]; simp)) (fun q => hc (by rw [q]; simp)) (fun q => hc (by rw [q]; simp)) (fun q => hc (by rw [q]; simp)) (fun q => hc (by rw [q]; simp)) e
  go := fun i v s Q E hm hQ => by
    obtain ⟨T, x, y, z, rfl, a1, a2, a3, hT, hne, Z⟩ := hm
    refine wpAny_letOwnedTupleGo_zip Z.z fun h' hz' hs' => ?_
    have up : ∀ (q : Nat) o, q ≠ n + 5 → s.heap.get? q = some o → h'.get? q = some o := fun q o e1 e => hs'.extBut _ _ e1 e
    obtain ⟨_, hTI, ⟨a, b, c, hTO⟩, h1, h2, h3, p1, p2, p3⟩ := Z
    refine hQ h' ⟨T, x, y, z, rfl, a1, a2, a3, up _ _ hne hT⟩ ⟨hz', up _ _ (by refine (?_ : @Ne Nat _ _); omega) hTI, ⟨a, b, c, up _ _ (by refine (?_ : @Ne Nat _ _); omega) hTO⟩, h1.at fun o e => up _ o (by refine (?_ : @Ne Nat _ _); omega) e, h2.at fun o e => up _ o (by refine (?_ : @Ne Nat _ _); omega) e, h3.at fun o e => up _ o (by refine (?_ : @Ne Nat _ _); omega) e,
      p1.at fun o e => up _ o (by refine (?_ : @Ne Nat _ _); omega) e, p2.at fun o e => up _ o (by refine (?_ : @Ne Nat _ _); omega) e, p3.at fun o e => up _ o (by refine (?_ : @Ne Nat _ _); omega) e⟩ fun c o hc e => up c o (fun q => hc (by rw [q]; simp)) e
  done := fun s Q E Z hQ => by
    refine zip3_end hh Z g1 (Array.getElem?_eq_none (by omega)) fun h' hk => hQ h' s.toks fun c o hc e => hk c o (fun q => hc (by rw [q]; simp)) (fun q => hc (by rw [q]; simp)) (fun q => hc (by rw [q]; simp)) (fun q => hc (by rw [q]; simp)) (fun q => hc (by rw [q]; simp)) e
end
end Mine

-- Z5
theorem Mine.noneZ5 : True := by
  k_with_none
  exact trivial
namespace Mine
section
variable {prog : Program} {w : World} {A : Around} {E : Value → Shared → Prop} {s : Shared} {env : Env} {h₀ : Heap} {target : Expr} {body : List Stmt} {Q : Flow → Shared → Prop}
theorem loopK {σ : Type} {I : Addr} {fp wr : List Addr} {n : Nat} {P Md : Nat → Value → Heap → Prop} {St : Nat → Heap → Prop} {m₀ : Str → Option Value} (Led : σ → List (Addr × Obj)) (adr : List Addr) (tl : List (Addr × Obj)) (S : List Str) (Inv : Nat → σ → List (Addr × Obj) → Prop) (c₀ : σ)
    (W : KTurns prog w A target I fp wr n P Md St) (hLf : env.locals ∉ fp) (hwr : ∀ b ∈ wr, h₀.get? b = none) (hob : ∀ i h, St i h → ∀ b ∈ wr, ∃ o, h.get? b = some o) (hst : St 0 s.heap)
    (hfa : ∀ a ∈ adr, h₀.get? a = none → a ∉ fp) (htl : ∀ p ∈ tl, p.1 ∉ wr) (F : Fr h₀ env.locals s.heap m₀) (N : News h₀ env.locals s.heap (Led c₀ ++ tl))
    (hadr : ∀ c, (Led c).map (·.1) = adr) (hdis : ∀ p ∈ tl, p.1 ∉ adr) (h0 : Inv 0 c₀ [])
    (turn : ∀ i v c gr u (s₁ : Shared) rest, i < n → P i v s₁.heap → Inv i c gr → (∀ p ∈ gr, p ∈ rest) → (∀ p ∈ tl, p ∈ rest) → (∀ p ∈ rest, p.1 ∉ adr) → Fr h₀ env.locals s₁.heap (over S u m₀) → News h₀ env.locals s₁.heap (Led c ++ rest) →
      wpAny (model prog w) A (assign target env v) (fun _ s₃ => wpAny (model prog w) A (execs body env) (TurnEndG h₀ env.locals Led adr gr rest S m₀ (Inv (i + 1)) s₁) E s₃) E s₁)
    (done : ∀ c gr u h tk, Inv n c gr → (∀ p ∈ gr, p.1 ∉ adr) → Fr h₀ env.locals h (over S u m₀) → News h₀ env.locals h (Led c ++ (gr ++ tl)) → Q .next { s with heap := h, toks := tk }) :
    TurnsAt prog w A h₀ env target body Q E (.ref I) s := by
  have hnone : ∀ a ∈ adr, h₀.get? a = none := fun a ha => by
    rw [← hadr c₀] at ha
    obtain ⟨p, hp, rfl⟩ := List.mem_map.mp ha
    exact (N p (List.mem_append_left _ hp)).2.2
  have hfa' : ∀ a ∈ adr, a ∉ fp := fun a ha => hfa a ha (hnone a ha)
  refine ⟨I, fp, wr, n, P, Md, St, m₀, Led c₀ ++ tl, (fun i m nx => ∃ c gr u, nx = Led c ++ (gr ++ tl) ∧ (∀ p ∈ gr, p.1 ∉ adr) ∧ m = over S u m₀ ∧ Inv i c gr), rfl, W, hLf, hwr, ?_, hst, F, N, ⟨c₀, [], m₀, rfl, fun _ h => (nomatch h), over_of fun _ _ => rfl, h0⟩, ?_, ?_⟩
  · intro p hp hI
    rcases List.mem_append.mp hp with h | h
    · exact hfa' p.1 (by rw [← hadr c₀]; exact List.mem_map.mpr ⟨p, h, rfl⟩) (W.sub _ hI)
    · exact htl p h hI
  · rintro i v m₁ news₁ hh1 ttk1 own hin hP ⟨c, gr, u, rfl, hga, rfl, hI⟩ hoff hown hget hfp hst F₁ N₁
    have hownadr : ∀ p ∈ own, p.1 ∉ adr := fun p hp ha => hfa' _ ha (hown p hp)
    have N₂ : News h₀ env.locals hh1 (Led c ++ (gr ++ (tl ++ own))) := fun p hp => N₁ p (by
      rcases List.mem_append.mp hp with h | h
      · exact List.mem_append_right _ (List.mem_append_left _ h)
      · rcases List.mem_append.mp h with h | h
        · exact List.mem_append_right _ (List.mem_append_right _ (List.mem_append_left _ h))
        · rcases List.mem_append.mp h with h | h
          · exact List.mem_append_right _ (List.mem_append_right _ (List.mem_append_right _ h))
          · exact List.mem_append_left _ h)
    refine wpAny_mono (turn i v c gr u { s with heap := hh1, toks := ttk1 } (gr ++ (tl ++ own)) hin hP hI (fun p hp => List.mem_append_left _ hp) (fun p hp => List.mem_append_right _ (List.mem_append_left _ hp)) (fun p hp => ?_) F₁ N₂) (fun _ s₃ h₃ => wpAny_mono h₃ (fun f s₄ h₄ => ?_) fun _ _ e => e) fun _ _ e => e
    · rcases List.mem_append.mp hp with h | h
      · exact hga p h
      · rcases List.mem_append.mp h with h | h
        · exact hdis p h
        · exact hownadr p h
    · obtain ⟨rfl, c', new, m', h', tk', rfl, F', N', hn1, hn2, hm', hI'⟩ := h₄
      refine ⟨rfl, h', tk', m', Led c' ++ ((new ++ gr) ++ tl), rfl, F', ?_, ?_, c', new ++ gr, m', rfl, ?_, over_of hm', hI'⟩
      · intro p hp
        refine N' p ?_
        rcases List.mem_append.mp hp with h | h
        · exact List.mem_append_right _ (List.mem_append_right _ (List.mem_append_right _ (List.mem_append_right _ h)))
        · rcases List.mem_append.mp h with h | h
          · exact List.mem_append_left _ h
          · rcases List.mem_append.mp h with h | h
            · rcases List.mem_append.mp h with h | h
              · exact List.mem_append_right _ (List.mem_append_left _ h)
              · exact List.mem_append_right _ (List.mem_append_right _ (List.mem_append_left _ h))
            · exact List.mem_append_right _ (List.mem_append_right _ (List.mem_append_right _ (List.mem_append_left _ h)))
      · intro p hp hI
        rcases List.mem_append.mp hp with h | h
        · exact hfa' p.1 (by rw [← hadr c']; exact List.mem_map.mpr ⟨p, h, rfl⟩) (W.sub _ hI)
        · rcases List.mem_append.mp h with h | h
          · rcases List.mem_append.mp h with h | h
            · obtain ⟨o, ho⟩ := hob _ _ hst _ hI
              exact hn2 p h (p.1, o) (List.mem_append_right _ (List.mem_append_right _ (hfp _ (W.sub _ hI) (hwr _ hI) o ho))) rfl
            · exact hoff p (List.mem_append_right _ (List.mem_append_left _ h)) hI
          · exact htl p h hI
      · intro p hp
        rcases List.mem_append.mp hp with h | h
        · exact hn1 p h
        · exact hga p h
  · rintro h' tk m' news' F' N' _ ⟨c, gr, u, rfl, hga, rfl, hI⟩
    exact done c gr u h' tk hI hga F' N'

theorem loop_zip3 {σ : Type} {elts : List Expr} {kk : Nat} {pos : Pos} {l1 l2 l3 : Addr} {n : Nat} {xs ys ws : Array Value} {m₀ : Str → Option Value} (Led : σ → List (Addr × Obj)) (adr : List Addr) (tl : List (Addr × Obj)) (S : List Str) (Inv : Nat → σ → List (Addr × Obj) → Prop) (c₀ : σ)
    (hh : A.handled = none) (hl1 : s.heap.IsList l1 xs) (hl2 : s.heap.IsList l2 ys) (hl3 : s.heap.IsList l3 ws) (e1 : xs.size = n) (e2 : ys.size = n) (e3 : ws.size = n) (m1 : ∃ o, (l1, o) ∈ tl) (m2 : ∃ o, (l2, o) ∈ tl) (m3 : ∃ o, (l3, o) ∈ tl)
    (F : Fr h₀ env.locals s.heap m₀) (N : News h₀ env.locals s.heap (Led c₀ ++ tl))
    (hadr : ∀ c, (Led c).map (·.1) = adr) (hdis : ∀ p ∈ tl, p.1 ∉ adr) (h0 : Inv 0 c₀ [])
    (turn : ∀ i T x y z c gr u (s₁ : Shared) rest, i < n → xs[i]? = some x → ys[i]? = some y → ws[i]? = some z → IsTri s₁.heap T x y z → Inv i c gr → (∀ p ∈ gr, p ∈ rest) → (∀ p ∈ tl, p ∈ rest) → (∀ p ∈ rest, p.1 ∉ adr) → Fr h₀ env.locals s₁.heap (over S u m₀) → News h₀ env.locals s₁.heap (Led c ++ rest) →
      wpAny (model prog w) A (assign (.Tuple elts kk pos) env (.ref T)) (fun _ s₃ => wpAny (model prog w) A (execs body env) (TurnEndG h₀ env.locals Led adr gr rest S m₀ (Inv (i + 1)) s₁) E s₃) E s₁)
    (done : ∀ c gr u h tk, Inv n c gr → (∀ p ∈ gr, p.1 ∉ adr) → Fr h₀ env.locals h (over S u m₀) → News h₀ env.locals h (Led c ++ (gr ++ tl)) → Q .next { s with heap := h, toks := tk }) :
    wpAny (model prog w) A (call (.type "zip") [.ref l1, .ref l2, .ref l3]) (fun xv s₁ => wpAny (model prog w) A (pyIter xv) (fun it s₂ => TurnsAt prog w A h₀ env (.Tuple elts kk pos) body Q E it s₂) E s₁) E s := by
  have inl : ∀ {l : Addr} {it : Array Value}, s.heap.IsList l it → l < s.heap.objs.size := fun h => by obtain ⟨o, ho, _⟩ := h; exact Heap.lt_size ho
  have hLs : env.locals < s.heap.objs.size := F.ns.lt
  have nl : ∀ {l : Addr}, (∃ o, (l, o) ∈ tl) → l ≠ env.locals ∧ l ∉ adr := fun ⟨o, ho⟩ => ⟨(N _ (List.mem_append_right _ ho)).2.1, hdis _ ho⟩
  have nb : h₀.objs.size ≤ s.heap.objs.size := Nat.le_trans F.above (Nat.le_of_lt hLs)
  have fresh : ∀ b : Addr, s.heap.objs.size ≤ b → h₀.get? b = none := fun b hb => by
    cases q : h₀.get? b with
    | none => rfl
    | some o => exact absurd (Heap.lt_size q) (Nat.not_lt.mpr (Nat.le_trans nb hb))
  have old : ∀ p ∈ Led c₀ ++ tl, p.1 < s.heap.objs.size := fun p hp => Heap.lt_size (N p hp).1
  refine call_zip_3 hl1 hl2 hl3 fun h' Z hk => ?_
  refine wpAny_pyIter_zip Z.z ?_
  have W := turns_zip3 (prog := prog) (w := w) (A := A) (elts := elts) (kk := kk) (pos := pos) hh (n := s.heap.objs.size) (l1 := l1) (l2 := l2) (l3 := l3) (inl hl1) (inl hl2) (inl hl3) e1 e2 e3
  refine loopK (s := { s with heap := h' }) Led adr tl S Inv c₀ W ?_ ?_ ?_ Z ?_ ?_ (F.keeps hk) (News.grown N hk) hadr hdis h0 ?_ done
  · intro hm
    simp only [List.mem_cons, List.not_mem_nil, or_false] at hm
    rcases hm with e | e | e | e | e | e | e | e | e
    · exact absurd hLs (by rw [e]; exact Nat.not_lt.mpr (Nat.le_add_right _ _))
    · exact absurd hLs (by rw [e]; exact Nat.not_lt.mpr (Nat.le_add_right _ _))
    · exact absurd hLs (by rw [e]; exact Nat.not_lt.mpr (Nat.le_add_right _ _))
    · exact absurd hLs (by rw [e]; exact Nat.lt_irrefl _)
    · exact absurd hLs (by rw [e]; exact Nat.not_lt.mpr (Nat.le_add_right _ _))
    · exact absurd hLs (by rw [e]; exact Nat.not_lt.mpr (Nat.le_add_right _ _))
    · exact (nl m1).1 e.symm
    · exact (nl m2).1 e.symm
    · exact (nl m3).1 e.symm
  · intro b hb
    simp only [List.mem_cons, List.not_mem_nil, or_false] at hb
    rcases hb with rfl | rfl | rfl | rfl | rfl
    · exact fresh _ (Nat.le_add_right _ _)
    · exact fresh _ (Nat.le_add_right _ _)
    · exact fresh _ (Nat.le_refl _)
    · exact fresh _ (Nat.le_add_right _ _)
    · exact fresh _ (Nat.le_add_right _ _)
  · intro i h Zi b hb
    obtain ⟨hz, hTI, ⟨a, b', c, hTO⟩, ⟨o1, q1, _⟩, ⟨o2, q2, _⟩, ⟨o3, q3, _⟩, _, _, _⟩ := Zi
    simp only [List.mem_cons, List.not_mem_nil, or_false] at hb
    rcases hb with rfl | rfl | rfl | rfl | rfl
    · exact ⟨_, hz⟩
    · exact ⟨_, hTO⟩
    · exact ⟨_, q1⟩
    · exact ⟨_, q2⟩
    · exact ⟨_, q3⟩
  · intro a ha _ hm
    have halt : a < s.heap.objs.size := by
      rw [← hadr c₀] at ha
      obtain ⟨p, hp, rfl⟩ := List.mem_map.mp ha
      exact old p (List.mem_append_left _ hp)
    simp only [List.mem_cons, List.not_mem_nil, or_false] at hm
    rcases hm with e | e | e | e | e | e | e | e | e
    · exact absurd halt (by rw [e]; exact Nat.not_lt.mpr (Nat.le_add_right _ _))
    · exact absurd halt (by rw [e]; exact Nat.not_lt.mpr (Nat.le_add_right _ _))
    · exact absurd halt (by rw [e]; exact Nat.not_lt.mpr (Nat.le_add_right _ _))
    · exact absurd halt (by rw [e]; exact Nat.lt_irrefl _)
    · exact absurd halt (by rw [e]; exact Nat.not_lt.mpr (Nat.le_add_right _ _))
    · exact absurd halt (by rw [e]; exact Nat.not_lt.mpr (Nat.le_add_right _ _))
    · exact (nl m1).2 (e ▸ ha)
    · exact (nl m2).2 (e ▸ ha)
    · exact (nl m3).2 (e ▸ ha)
  · intro p hp hm
    have hlt := old p (List.mem_append_right _ hp)
    simp only [List.mem_cons, List.not_mem_nil, or_false] at hm
    rcases hm with e | e | e | e | e
    · exact absurd hlt (by rw [e]; exact Nat.not_lt.mpr (Nat.le_add_right _ _))
    · exact absurd hlt (by rw [e]; exact Nat.not_lt.mpr (Nat.le_add_right _ _))
    · exact absurd hlt (by rw [e]; exact Nat.lt_irrefl _)
    · exact absurd hlt (by rw [e]; exact Nat.not_lt.mpr (Nat.le_add_right _ _))
    · exact absurd hlt (by rw [e]; exact Nat.not_lt.mpr (Nat.le_add_right _ _))
  · rintro i v c gr u s₁ rest hi ⟨T, x, y, z, rfl, a1, a2, a3, hT⟩
    exact turn i T x y z c gr u s₁ rest hi a1 a2 a3 hT
end
end Mine

-- Sv
theorem Mine.noneSv : True := by
  k_with_none
  exact trivial
namespace Mine
theorem pick_two (vs : List Value) (b : Nat) : slicePick vs.toArray none (some (b : Int)) none = (vs.take b).toArray := by
  by_cases h : b ≤ vs.length
  · have := slicePick_upto vs.toArray b (by simpa using h)
    simpa using this
  · have e : sliceBounds none (some (b : Int)) none vs.toArray.size = (((0 : Nat) : Int), (vs.toArray.size : Int), 1) := by
      simp only [sliceBounds, Option.getD_none]
      have h2 : ¬ ((b : Int) < 0) := by omega
      simp only [h2, if_false, show (1 : Int) > 0 by decide, if_true]
      congr 1
      congr 1
      have : vs.toArray.size = vs.length := by simp
      omega
    unfold slicePick
    rw [e]
    simp only [sliceRange_one, pick_run]
    rw [List.take_of_length_le (l := vs) (by omega)]
    simp
theorem pick_rev (vs : List Value) : slicePick vs.toArray none none (some (-1)) = vs.reverse.toArray := by
  have e : sliceBounds none none (some (-1)) vs.toArray.size = ((vs.toArray.size : Int) - 1, -1, -1) := by
    simp [sliceBounds]
  have hsz : vs.toArray.size = vs.length := by simp
  unfold slicePick
  rw [e]
  congr 1
  have e2 : sliceRange ((vs.toArray.size : Int) - 1) (-1) (-1) = (List.range vs.length).reverse := by
    unfold sliceRange
    rw [hsz]
    simp only [show ¬ ((-1 : Int) > 0) by decide, if_false]
    have e3 : (if (vs.length : Int) - 1 > -1 then ((vs.length : Int) - 1 - -1 - -1 - 1) / (- -1) else 0) = (vs.length : Int) := by
      by_cases hp : (vs.length : Int) - 1 > -1
      · rw [if_pos hp, show (- -1 : Int) = 1 from rfl, Int.ediv_one]; omega
      · rw [if_neg hp]; omega
    rw [e3, Int.toNat_natCast]
    refine List.ext_getElem? fun i => ?_
    by_cases hi : i < vs.length
    · rw [List.getElem?_map, List.getElem?_reverse (by simpa using hi)]
      simp only [List.length_range]
      rw [List.getElem?_range hi, List.getElem?_range (by omega)]
      simp only [Option.map_some]
      congr 1
      omega
    · rw [List.getElem?_eq_none (by simp; omega), List.getElem?_eq_none (by simp; omega)]
  rw [e2, List.filterMap_reverse]
  have := pick_run vs.toArray 0 vs.length
  simp only [Nat.zero_add, List.map_id', List.drop_zero] at this
  rw [this]
  simp
theorem PairsAt.rev {h : Heap} {vs : List Value} {rs : List (Int × Int)} (x : PairsAt h vs rs) : PairsAt h vs.reverse rs.reverse := by
  refine ⟨by rw [List.length_reverse, List.length_reverse, x.1], fun i v hv => ?_⟩
  by_cases hi : i < vs.length
  · rw [List.getElem?_reverse hi] at hv
    obtain ⟨r, hr, hp⟩ := x.2 _ v hv
    rw [x.1] at hr hi
    exact ⟨r, by rw [List.getElem?_reverse hi]; exact hr, hp⟩
  · rw [List.getElem?_eq_none (by rw [List.length_reverse]; omega)] at hv; cases hv
theorem PairsAt.take {h : Heap} {vs : List Value} {rs : List (Int × Int)} (x : PairsAt h vs rs) (k : Nat) : PairsAt h (vs.take k) (rs.take k) := by
  refine ⟨by rw [List.length_take, List.length_take, x.1], fun i v hv => ?_⟩
  rw [List.getElem?_take] at hv ⊢
  by_cases hi : i < k
  · rw [if_pos hi] at hv ⊢
    exact x.2 _ v hv
  · rw [if_neg hi] at hv; cases hv
section
variable {prog : Program} {w : World} {A : Around} {E : Value → Shared → Prop} {s : Shared}
theorem slice_led {value slice : Expr} {l : Addr} {vl vu vt : Value} {lo hi st : Option Int} {Q : Value → Shared → Prop} {h₀ : Heap} {L : Addr} {m : Str → Option Value} {news : List (Addr × Obj)} {vs ws : List Value} {nn : Nat} {ops : List Value}
    (F : Fr h₀ L s.heap m) (N : News h₀ L s.heap news) (hm : (l, listOf vs.toArray nn) ∈ news)
    (pl : IsPart vl lo) (pu : IsPart vu hi) (pt : IsPart vt st) (h0 : st ≠ some 0) (e : slicePick vs.toArray lo hi st = ws.toArray) (hlen : vs.length ≤ 1000)
    (h : ∀ S h', Fr h₀ L h' m → News h₀ L h' ((S, listOf ws.toArray 0) :: news) → AllAp S news → Q (.ref S) { s with heap := h' })
    (hs : subscripted slice false (.ref l) (.ref s.heap.objs.size) = operate ops (getItem (.ref l) (.ref s.heap.objs.size)) := by with_unfolding_all rfl)
    (ht : ∀ r, letTemporaryGo value (.ref l) r = pure () := by intro _; with_unfolding_all rfl) :
    wpAny (model prog w) A (subscriptTail value slice (.ref l) (.ref s.heap.objs.size)) Q E { s with heap := s.heap.push { cls := .type "slice", data := .fields #[vl, vu, vt] } } := by
  have hl : s.heap.IsList l vs.toArray := News.isList N hm
  have hsz : vs.toArray.size ≤ sizeLine := by rw [sizeLine_eq]; simp; omega
  refine subscriptTail_ops (Heap.IsList.typeIs (s := { s with heap := s.heap.push { cls := .type "slice", data := .fields #[vl, vu, vt] } }) (hl.push _)) list_getitem_lookup
    (wpAny_getItem_list_slice (hl.push _) (Heap.IsSliceOf.new ..) pl pu pt h0 ?_ hsz) hs ht
  rw [e]
  have k : ∀ b o, s.heap.get? b = some o → ((s.heap.push { cls := .type "slice", data := .fields #[vl, vu, vt] }).push (listOf ws.toArray 0)).get? b = some o := fun b o q => Heap.get?_push_of_some _ (Heap.get?_push_of_some _ q)
  have fr : s.heap.get? (s.heap.push { cls := .type "slice", data := .fields #[vl, vu, vt] }).objs.size = none := by
    cases q : s.heap.get? (s.heap.push { cls := .type "slice", data := .fields #[vl, vu, vt] }).objs.size with
    | none => rfl
    | some o => have := Heap.lt_size q; rw [Heap.size_push] at this; exact absurd this (Nat.not_lt.mpr (Nat.le_succ _))
  refine h _ _ (F.keeps k) (News.join (l := [_]) F (News.grown N k) (fun p hp => ?_) (fun p hp => ?_)) (AllAp.of N fr)
  · cases List.mem_singleton.mp hp; exact Heap.get?_push_size _ rfl
  · cases List.mem_singleton.mp hp; exact fr
end
end Mine

-- Ex
theorem Mine.noneEx : True := by
  k_with_none
  exact trivial
namespace Mine
section
variable {prog : Program} {w : World} {A : Around} {E : Value → Shared → Prop} {s : Shared}
theorem rangeKs_succ (a : Int) (n : Nat) : rangeKs a (n + 1) = rangeKs a n ++ [a + (n : Int)] := by
  unfold rangeKs; rw [List.range_succ, List.map_append]; rfl
/-- list.extend's loop over a range's iterator, on a list that may hold something -/
theorem ext_loop {R : Result → Shared → Prop} {I D : Addr} {a : Int} {n : Nat} {res : Value} {vs : List Value} {ns : List Int} (hh : A.handled = none) (hDI : D ≠ I) (hsz : vs.length + n ≤ 100000) (hI : IntsAre vs ns)
    (hR : ∀ h' tk' ys c, IntsAre ys (ns ++ rangeKs a n) → h'.get? D = some (listOf ys.toArray c) → (∀ b o, b ≠ D → b ≠ I → s.heap.get? b = some o → h'.get? b = some o) → R (.ok (.ret res)) { s with heap := h', toks := tk' }) :
    ∀ (k i : Nat) (h : Heap) (tk : Nat) (ys : List Value) (c : Nat), n - i = k → i ≤ n → IsRangeIter h I (a + (i : Int) * 1) ((n : Int) - (i : Int)) 1 → IntsAre ys (ns ++ rangeKs a i) → ys.length = vs.length + i → h.get? D = some (listOf ys.toArray c) →
      (∀ b o, b ≠ D → b ≠ I → s.heap.get? b = some o → h.get? b = some o) →
      codeAny (model prog w) A (.builtin "list.extend.loop" ⟨[.ref D, .ref I, res], []⟩) R { s with heap := h, toks := tk } := by
  have W := Walks.range (prog := prog) (w := w) (A := A.in1) hh I a 1 n
  intro k
  induction k with
  | zero =>
    intro i h tk ys c hk hi hit hys hlen hD hkp
    have hin : i = n := by omega
    subst hin
    refine codeAny_builtin F.entry_extend_loop ?_
    rw [Around.under_plainId F.plain_extend_loop _]
    show wpAny _ A.in1 (pyNext (.ref I) >>= _) _ _ _
    refine wpAny_bind (W.done _ _ _ hit fun h' tk' hm => ?_)
    refine wpAny_pure (hR h' tk' ys c hys (hm D _ (fun e => hDI (List.mem_singleton.mp e)) hD) fun b o hb hbI e => hm b o (fun e => hbI (List.mem_singleton.mp e)) (hkp b o hb hbI e))
  | succ k ih =>
    intro i h tk ys c hk hi hit hys hlen hD hkp
    have hlt : i < n := by omega
    refine codeAny_builtin F.entry_extend_loop ?_
    rw [Around.under_plainId F.plain_extend_loop _]
    show wpAny _ A.in1 (pyNext (.ref I) >>= _) _ _ _
    refine wpAny_bind (W.item i _ _ _ hlt hit fun v h' tk' hP hit' hm => ?_)
    obtain ⟨t, rfl⟩ := hP
    have hD' := hm D _ (fun e => hDI (List.mem_singleton.mp e)) hD
    show wpAny _ A.in1 (updateSeq D (·.push (.int (a + (i : Int) * 1) t)) >>= _) _ _ _
    refine wpAny_bind ?_
    refine wpAny_updateSeq hD' rfl (wpAny_pure ⟨plainId_quiet F.plain_extend_loop _, ?_⟩)
      (by rw [sizeLine_eq]; simp; omega) (by rw [sizeLine_eq]; simp; omega)
    have hg := Heap.get?_update_self (Obj.mapSeq (·.push (Value.int (a + (i : Int) * 1) t))) hD' rfl
    have e1 : ys.toArray.push (Value.int (a + (i : Int) * 1) t) = (ys ++ [Value.int (a + (i : Int) * 1) t]).toArray := by simp
    refine ih (i + 1) _ _ (ys ++ [.int (a + (i : Int) * 1) t]) _ (by omega) hlt ?_ ?_ (by rw [List.length_append, hlen]; simp; omega) (by rw [← e1]; exact hg) ?_
    · exact (Heap.get?_update_other _ _ hDI).trans hit'
    · rw [rangeKs_succ, ← List.append_assoc]
      refine IntsAre.append hys ?_
      rw [Int.mul_one]
      exact .cons _ _ .nil
    · intro b o hb hbI e
      exact (Heap.get?_update_other _ _ (Ne.symm hb)).trans (hm b o (fun e => hbI (List.mem_singleton.mp e)) (hkp b o hb hbI e))
theorem extend_range {Q : Value → Shared → Prop} {D r : Addr} {a b : Int} {t u v : Tok} {n c₀ : Nat} {vs : List Value} {ns : List Int} (hh : A.handled = none) (hr : IsRange s.heap r a b 1 t u v) (hsmall : Builtin.Range.small a b 1 = true)
    (hn : Builtin.Range.rangeSize a b 1 = n) (hsz : vs.length + n ≤ 100000) (hI : IntsAre vs ns) (hD : s.heap.get? D = some (listOf vs.toArray c₀))
    (ret : ∀ h' tk' ys c, IntsAre ys (ns ++ rangeKs a n) → h'.get? D = some (listOf ys.toArray c) → Same [D] s.heap h' → Q .none { s with heap := h', toks := tk' }) :
    wpAny (model prog w) A (call (.builtin "list.extend") [.ref D, .ref r]) Q E s := by
  have hDr : D ≠ r := fun e => by rw [e, hr] at hD; simp at hD
  have hDlt : D < s.heap.objs.size := Heap.lt_size hD
  have hDI : D ≠ s.heap.objs.size := Nat.ne_of_lt hDlt
  have key : ∀ (h : Heap) (c₁ tk : Nat), IsRangeIter h s.heap.objs.size (a + ((0 : Nat) : Int) * 1) ((n : Int) - ((0 : Nat) : Int)) 1 → (∀ b o, b ≠ D → s.heap.get? b = some o → h.get? b = some o) →
      h.get? D = some (listOf vs.toArray c₁) → codeAny (model prog w) A (.builtin "list.extend.loop" ⟨[.ref D, .ref s.heap.objs.size, .none], []⟩) (wants Q E) { s with heap := h, toks := tk } := by
    intro h c₁ tk hit hk hS₁
    refine ext_loop hh hDI hsz hI (fun h' tk' ys c hys hD' hkp => ?_) n 0 h tk vs c₁ rfl (Nat.zero_le _) hit (by simpa [rangeKs] using hI) rfl hS₁ (fun b o hb _ e => hk b o hb e)
    exact ret h' tk' ys c hys hD' fun b o hb e => hkp b o (fun h => hb (by rw [h]; exact .head _)) (Nat.ne_of_lt (Heap.lt_size e)) e
  refine wpAny_call (codeAny_call_builtin F.slot_list_extend.plain F.entry_list_extend (F.slot_list_extend.check _ _ _ _ _ _ _ _ ⟨_, hD, rfl⟩ (F.args_list_extend_2 _ _) ?_))
  show wpAny _ _ (Builtin.List.listExtendWith (.ref D) (.ref r) .none) _ _ s
  unfold Builtin.List.listExtendWith
  refine wpAny_bind (wpAny_typeOf (T := "range") ⟨_, hr, rfl⟩ ?_)
  have h1 : Builtin.List.listSameRef (.ref D) (.ref r) = false := by simp [Builtin.List.listSameRef, hDr]
  have h2 : (Value.type "range" == Value.type "list") = false := by decide
  have h3 : (Value.type "range" == Value.type "tuple") = false := by decide
  simp only [h1, h2, h3, Bool.or_false, Bool.false_eq_true, if_false]
  refine wpAny_bind (wpAny_pyIter_range hr hsmall ?_)
  refine wpAny_bind (wpAny_holding (wpAny_hint_range (n := n) (Heap.get?_push_of_some _ hr) hn (by omega) ?_))
  have hit₁ : IsRangeIter (s.heap.push { cls := .type "range_iterator", data := .fields #[rawInt a, rawInt (Builtin.Range.rangeSize a b 1), rawInt 1] }) s.heap.objs.size (a + ((0 : Nat) : Int) * 1) ((n : Int) - ((0 : Nat) : Int)) 1 := by
    show IsRangeIter _ _ _ _ _; rw [hn]; simpa using Heap.get?_push_size _ rfl
  have hS₁ := Heap.get?_push_of_some { cls := .type "range_iterator", data := .fields #[rawInt a, rawInt (Builtin.Range.rangeSize a b 1), rawInt 1] } hD
  refine wpAny_ite_split (fun _ => ?_) (fun _ => wpAny_pure ⟨plainId_quiet F.plain_extend_loop _, key _ c₀ _ hit₁ (fun b o _ e => Heap.get?_push_of_some _ e) hS₁⟩)
  refine wpAny_bind (wpAny_rule ?_)
  refine wpAny_bind ?_
  show wpAny _ _ (updateSeq D (·.push .none) >>= fun _ => updateSeq D (·.pop)) _ _ _
  refine wpAny_bind (wpAny_updateSeq hS₁ rfl ?_ (by rw [sizeLine_eq]; simp; omega) (by rw [sizeLine_eq]; simp; omega))
  have hS₂ := Heap.get?_update_self (Obj.mapSeq (·.push Value.none)) hS₁ rfl
  refine wpAny_updateSeq hS₂ rfl ?_ (by rw [sizeLine_eq]; simp; omega) (by rw [sizeLine_eq]; simp; omega)
  have hS₃ := Heap.get?_update_self (Obj.mapSeq (·.pop)) hS₂ rfl
  have e4 : (vs.toArray.push Value.none).pop = vs.toArray := by simp
  refine wpAny_pure ⟨plainId_quiet F.plain_extend_loop _, key _ _ _ ?_ (fun b o hb e => ?_) (by rw [← e4]; exact hS₃)⟩
  · exact (Heap.get?_update_other _ _ hDI).trans ((Heap.get?_update_other _ _ hDI).trans hit₁)
  · exact (Heap.get?_update_other _ _ (Ne.symm hb)).trans ((Heap.get?_update_other _ _ (Ne.symm hb)).trans (Heap.get?_push_of_some _ e))
theorem extend_led {Q : Value → Shared → Prop} {h₀ : Heap} {L D r : Addr} {m : Str → Option Value} {news : List (Addr × Obj)} {a b : Int} {t u v : Tok} {n c₀ : Nat} {vs : List Value} {ns : List Int} (hh : A.handled = none) (F : Fr h₀ L s.heap m) (N : News h₀ L s.heap news)
    (hD : (D, listOf vs.toArray c₀) ∈ news) (hr : IsRange s.heap r a b 1 t u v) (hsmall : Builtin.Range.small a b 1 = true)
    (hn : Builtin.Range.rangeSize a b 1 = n) (hsz : vs.length + n ≤ 100000) (hI : IntsAre vs ns)
    (ret : ∀ h' tk' ys c, IntsAre ys (ns ++ rangeKs a n) → Fr h₀ L h' m → (∀ news', Upd D (listOf vs.toArray c₀) (listOf ys.toArray c) news news' → News h₀ L h' news') → Q .none { s with heap := h', toks := tk' }) :
    wpAny (model prog w) A (call (.builtin "list.extend") [.ref D, .ref r]) Q E s :=
  extend_range hh hr hsmall hn hsz hI (N _ hD).1 fun h' tk' ys c hys hD' S => ret h' tk' ys c hys (Fr.same1 F N hD S) fun news' U => News.upd1 N S U hD'
end
theorem News.prune {h₀ h : Heap} {L d : Addr} {o : Obj} {news keep : List (Addr × Obj)} (N : News h₀ L h ((d, o) :: news)) (ap : AllAp d news) (hk : ∀ p ∈ keep, p ∈ news) : News h₀ L h ((d, o) :: keep) ∧ ∀ p ∈ keep, p.1 ≠ d :=
  ⟨News.sub N (fun p hp => by
    rcases List.mem_cons.mp hp with rfl | hp
    · exact .head _
    · exact .tail _ (hk p hp)), fun p hp => ap.all p (hk p hp)⟩
theorem ltOf {d : Addr} : ∀ {l : List (Addr × Obj)}, AllLt d l → ∀ p ∈ l, p.1 < d
  | [], _, _, hp => (nomatch hp)
  | q :: r, h, p, hp => by
    rcases List.mem_cons.mp hp with rfl | hp
    · exact h.1
    · exact ltOf h.2 p hp
theorem News.pruneLt {h₀ h : Heap} {L d : Addr} {o : Obj} {news keep : List (Addr × Obj)} (N : News h₀ L h ((d, o) :: news)) (lt : AllLt d news) (hk : ∀ p ∈ keep, p ∈ news) : News h₀ L h ((d, o) :: keep) ∧ ∀ p ∈ keep, p.1 ≠ d :=
  News.prune N ⟨fun p hp => Nat.ne_of_lt (ltOf lt p hp)⟩ hk
theorem listed_take {rs : List (Int × Int)} {i : Nat} {r : Int × Int} (h : rs[i]? = some r) : listed (rs.take (i + 1)) = listed (rs.take i) ++ rangeKs r.1 (r.2 + 1 - r.1).toNat := by
  unfold listed
  rw [List.take_add_one, h]
  simp
theorem listed_len {rs : List (Int × Int)} (hb : ∀ r ∈ rs, InBnd r) : (listed rs).length ≤ 65 * rs.length := by
  induction rs with
  | nil => simp [listed]
  | cons r rs ih =>
    have h1 := ih (fun q hq => hb q (.tail _ hq))
    obtain ⟨b1, b2, b3, b4⟩ := hb r (.head _)
    have e : listed (r :: rs) = rangeKs r.1 (r.2 + 1 - r.1).toNat ++ listed rs := by simp [listed]
    have e2 : (rangeKs r.1 (r.2 + 1 - r.1).toNat).length = (r.2 + 1 - r.1).toNat := by simp [rangeKs]
    rw [e, List.length_append, e2, List.length_cons]
    omega
theorem take_bnd {rs : List (Int × Int)} (hb : ∀ r ∈ rs, InBnd r) (k : Nat) : ∀ r ∈ rs.take k, InBnd r := fun r hr => hb r (List.mem_of_mem_take hr)
theorem glyph_len {rs : List (Int × Int)} (hb : ∀ r ∈ rs, InBnd r) (i : Nat) : (listed ((rs.take 2).take i)).length ≤ 130 := by
  have h := listed_len (take_bnd (take_bnd hb 2) i)
  have h2 : ((rs.take 2).take i).length ≤ 2 := by rw [List.length_take, List.length_take]; omega
  omega
theorem News.prune2 {h₀ h : Heap} {L d : Addr} {b : Addr × Obj} {o : Obj} {keep : List (Addr × Obj)} (N : News h₀ L h ((d, o) :: b :: keep)) (a : ∀ p ∈ keep, p.1 ≠ d) : News h₀ L h ((d, o) :: keep) ∧ ∀ p ∈ keep, p.1 ≠ d :=
  ⟨News.sub N (fun p hp => by
    rcases List.mem_cons.mp hp with rfl | hp
    · exact .head _
    · exact .tail _ (.tail _ hp)), a⟩
theorem News.front5 {h₀ h : Heap} {L : Addr} {a b d g y z : Addr × Obj} {l : List (Addr × Obj)} (N : News h₀ L h (a :: b :: d :: g :: y :: z :: l)) : News h₀ L h (z :: a :: b :: d :: g :: y :: l) := News.sub N (by (repeat' (first | with_reducible exact sub_nil | with_reducible exact sub_refl | with_reducible exact sub_left | with_reducible exact sub_right | (with_reducible refine sub_app ?_ ?_) | (refine sub_cons (by first | k_memK | k_ownIn) ?_) | refine sub_step ?_ | exact sub_left | exact sub_right | exact sub_refl)))
theorem dis4 {rl D dx x3 : Addr} {e0 e1 g y z : Addr × Obj} {l : List (Addr × Obj)} (a1 : AllAp dx (g :: y :: z :: l)) (a2 : AllAp D (e1 :: g :: y :: z :: l)) (a3 : AllAp rl (e0 :: e1 :: g :: y :: z :: l)) (h : ∀ p ∈ g :: y :: l, p.1 ≠ x3) : ∀ p ∈ g :: y :: l, p.1 ∉ [x3, rl, D, dx] := fun p hp hm => by
  have hp' : p ∈ g :: y :: z :: l := by
    simp only [List.mem_cons] at hp ⊢
    rcases hp with h | h | h <;> simp [h]
  rcases List.mem_cons.mp hm with e | hm
  · exact h p hp e
  rcases List.mem_cons.mp hm with e | hm
  · exact a3.all p (.tail _ (.tail _ hp')) e
  rcases List.mem_cons.mp hm with e | hm
  · exact a2.all p (.tail _ hp') e
  · exact a1.all p hp' (List.mem_singleton.mp hm)
theorem keysZ_len (ns : List Int) : (keysZ ns).length ≤ ns.length := by
  have h : ∀ (ns acc : List Int), (ns.foldl keyPut acc).length ≤ acc.length + ns.length := by
    intro ns
    induction ns with
    | nil => intro acc; simp
    | cons k ns ih =>
      intro acc
      have h1 := ih (keyPut acc k)
      have h2 := keyPut_len acc k
      rw [List.foldl_cons, List.length_cons]
      omega
  have h1 := h ns []
  rw [List.length_nil, Nat.zero_add] at h1
  exact h1
end Mine

-- Ey
theorem Mine.noneEy : True := by
  k_with_none
  exact trivial
namespace Mine
theorem may_have_true {w : World} {mg mb : Str → Option Value} {A : Around} {E : Value → Shared → Prop} {Q : Value → Shared → Prop} {s : Shared} {h₀ : Heap} {L : Addr} {m : Str → Option Value} {news : List (Addr × Obj)} {D dx rl : Addr} {tk : Tok} {r0 : Int} {t0 : Tok} {r1 : Int} {t1 : Tok} {r2 : Int} {t2 : Tok} {glyph : Int} {u : Tok} {rs : List (Int × Int)} (lo : Low A 240)
  (c : Cx w mg mb h₀) (F : Fr h₀ L s.heap m) (N : News h₀ L s.heap news) (h1 : (D, instObj 137 dx) ∈ news) (h2 : (dx, dgDict w rl tk) ∈ news) (h3 : (rl, dgRows r0 t0 r1 t1 r2 t2) ∈ news)
  (hb : ∀ r ∈ rs, InBnd r) (e : (r0, r1, r2) = rowsFold rs) (hg : Un rs glyph)
  (ret : ∀ h' tk', Fr h₀ L h' m → News h₀ L h' news → Q (.bool true) { s with heap := h', toks := tk' }) :
  wpAny (model Pg w) A (call (.ref 120) [.ref D, .int glyph u]) Q E s :=
  may_have_call lo c F N h1 h2 h3 fun h' tk' F' N' => by rw [may_have_in hb e hg]; exact ret h' tk' F' N'
theorem News.turn21 {h₀ h : Heap} {L : Addr} {a b d : Addr × Obj} {l : List (Addr × Obj)} (N : News h₀ L h (a :: b :: d :: l)) : News h₀ L h (b :: d :: a :: l) := News.sub N (by (repeat' (first | with_reducible exact sub_nil | with_reducible exact sub_refl | with_reducible exact sub_left | with_reducible exact sub_right | (with_reducible refine sub_app ?_ ?_) | (refine sub_cons (by first | k_memK | k_ownIn) ?_) | refine sub_step ?_ | exact sub_left | exact sub_right | exact sub_refl)))
theorem ints3 {ys : List Value} {a b c : Int} (h : IntsAre ys [a, b, c]) : ∃ u v w, ys = [.int a u, .int b v, .int c w] := by
  cases h with
  | cons x t h => cases h with
    | cons y t h => cases h with
      | cons z t h => cases h; exact ⟨_, _, _, rfl⟩
theorem News.join1 {h₀ h h' : Heap} {L D : Addr} {m : Str → Option Value} {o : Obj} {news : List (Addr × Obj)} (F : Fr h₀ L h m) (N : News h₀ L h news) (hk : ∀ b o, b ≠ L → h.get? b = some o → h'.get? b = some o) (hD : h.get? D = none) (hl : h'.get? D = some o) : News h₀ L h' ((D, o) :: news) ∧ AllAp D news :=
  ⟨News.join (l := [(D, o)]) F (fun p hp => ⟨hk _ _ (N p hp).2.1 (N p hp).1, (N p hp).2⟩) (has_one hl) (fun p hp => by cases List.mem_singleton.mp hp; exact hD), AllAp.of N hD⟩
end Mine

-- Cr
theorem Mine.noneCr : True := by
  k_with_none
  exact trivial
namespace Mine
/-- a comprehension over a range whose items are ints -/
noncomputable def RngF (a : Int) (f : Nat → Int) (v y : Value) (l : List (Addr × Obj)) : Prop := l = [] ∧ ∃ (i : Nat) (t u : Tok), v = .int (a + (i : Int)) t ∧ y = .int (f i) u
theorem ints_of {a : Int} {f : Nat → Int} {vs ys : List Value} {l : List (Addr × Obj)} (h : Trip (RngF a f) vs ys l) : ∀ n, vs.length = n → (∀ (j : Nat) v, vs[j]? = some v → ∃ t, v = Value.int (a + (j : Int) * 1) t) → IntsAre ys ((List.range n).map f) := by
  induction h with
  | nil => intro n hn _; cases hn; exact .nil
  | @snoc vs ys l l' v y hT hF ih =>
    intro n hn hP
    rw [List.length_append] at hn
    simp only [List.length_cons, List.length_nil, Nat.zero_add] at hn
    subst hn
    rw [List.range_succ, List.map_append]
    obtain ⟨_, i, t, u, rfl, rfl⟩ := hF
    have h1 := hP vs.length _ (by rw [List.getElem?_append_right (Nat.le_refl _), Nat.sub_self]; rfl)
    obtain ⟨t', e⟩ := h1
    injection e with e _
    have hi : i = vs.length := by omega
    subst hi
    refine IntsAre.append (ih _ rfl fun j v hj => hP j v (by rw [List.getElem?_append_left (List.getElem?_eq_some_iff.mp hj).1]; exact hj)) ?_
    exact .cons _ _ .nil
section
variable {w : World} {A : Around} {E : Value → Shared → Prop} {s : Shared} {env : Env} {scope : Scope} {cl : List (Str × Addr)} {elt : Expr} {x : Str} {r : Addr} {a b : Int} {t u v : Tok} {n : Nat}
theorem comp_range {Q : Value → Shared → Prop} (f : Nat → Int)
  (hh : A.handled = none) (hr : IsRange s.heap r a b 1 t u v) (hsmall : Builtin.Range.small a b 1 = true) (hn : Builtin.Range.rangeSize a b 1 = n) (hsz : n ≤ sizeLine)
  (helt : ∀ C i t (s₃ : Shared) E', i < n → BdL x C s₃.heap (.int (a + (i : Int)) t) → (∀ b o, s.heap.get? b = some o → s₃.heap.get? b = some o) → wpAny (model Pg w) A (eval elt (compEnvG scope cl C env)) (fun y s₄ => (∃ u, y = .int (f i) u) ∧ Keeps s₃ s₄) E' s₃)
  (ret : ∀ D h' tk cc ys, IntsAre ys ((List.range n).map f) → s.heap.get? D = none → h'.get? D = some (listOf ys.toArray cc) → (∀ b o, s.heap.get? b = some o → h'.get? b = some o) → Q (.ref D) { s with heap := h', toks := tk }) :
  wpAny (model Pg w) A (pyIter (.ref r)) (CompG Pg w A env scope cl elt (BdL x) Q) E s := by
  refine wpAny_pyIter_range hr hsmall ?_
  generalize hH2 : s.heap.push _ = H2
  have k12 : ∀ b o, s.heap.get? b = some o → H2.get? b = some o := fun b o e => by rw [← hH2]; exact Heap.get?_push_of_some _ e
  have hI : IsRangeIter H2 s.heap.objs.size (a + ((0 : Nat) : Int) * 1) ((n : Int) - ((0 : Nat) : Int)) 1 := by
    rw [← hH2, ← hn]; show IsRangeIter _ _ _ _ _; simpa using Heap.get?_push_size _ rfl
  have hsz2 : H2.objs.size = s.heap.objs.size + 1 := by rw [← hH2]; exact Heap.size_push ..
  refine ⟨s.heap.objs.size, _, _, n, _, _, RngF a f, rfl, Walks.range hh s.heap.objs.size a 1 n, hsz, ?_, hI, ?_, ?_, ?_⟩
  · intro i h st b hb
    rw [List.mem_singleton.mp hb]; exact ⟨_, st⟩
  · intro b hb
    show b < H2.objs.size
    rw [List.mem_singleton.mp hb, hsz2]; exact Nat.lt_succ_self _
  · intro C i v s₃ E' hC hi hP hbd hk3
    have k03 : ∀ b o, s.heap.get? b = some o → s₃.heap.get? b = some o := fun b o e => hk3 b o (fun h => absurd (Heap.lt_size e) (by rw [List.mem_singleton.mp h]; exact Nat.lt_irrefl _)) (k12 b o e)
    obtain ⟨t9, rfl⟩ := hP
    rw [Int.mul_one] at hbd ⊢
    refine wpAny_mono (helt C i t9 s₃ E' hi hbd k03) (fun y s₄ h4 => ?_) fun _ _ e => e
    obtain ⟨⟨u, rfl⟩, K⟩ := h4
    exact ⟨⟨[], ⟨rfl, i, t9, u, rfl, rfl⟩, (fun _ h => nomatch h), fun _ h => nomatch h⟩, K⟩
  · intro D h' tk cc vs' ys l hD hl hlen' hP hTr hH hf hne hk4
    refine ret D h' tk cc ys (ints_of hTr n hlen' hP) ?_ hl (fun b o e => hk4 b o (fun h => absurd (Heap.lt_size e) (by rw [List.mem_singleton.mp h]; exact Nat.lt_irrefl _)) (k12 b o e))
    cases q : s.heap.get? D with
    | none => rfl
    | some o => have := k12 _ _ q; dsimp only at hD; rw [hD] at this; cases this
theorem comp_rangeA {Q : Flow → Shared → Prop} {h₀ : Heap} {m : Str → Option Value} {y : Str} (f : Nat → Int)
  (hh : A.handled = none) (F : Fr h₀ env.locals s.heap m) (hr : IsRange s.heap r a b 1 t u v) (hsmall : Builtin.Range.small a b 1 = true) (hn : Builtin.Range.rangeSize a b 1 = n) (hsz : n ≤ sizeLine)
  (helt : ∀ C i t (s₃ : Shared) E', i < n → BdL x C s₃.heap (.int (a + (i : Int)) t) → (∀ b o, s.heap.get? b = some o → s₃.heap.get? b = some o) → wpAny (model Pg w) A (eval elt (compEnvG scope cl C env)) (fun y s₄ => (∃ u, y = .int (f i) u) ∧ Keeps s₃ s₄) E' s₃)
  (ret : ∀ D h' tk cc ys, IntsAre ys ((List.range n).map f) → s.heap.get? D = none → h'.get? D = some (listOf ys.toArray cc) → Fr h₀ env.locals h' (fun z => if z = y then some (.ref D) else m z) → (∀ b o, b ≠ env.locals → s.heap.get? b = some o → h'.get? b = some o) → Q .next { s with heap := h', toks := tk }) :
  wpAny (model Pg w) A (pyIter (.ref r)) (CompGA Pg w A env scope cl elt y (BdL x) Q) E s := by
  refine wpAny_pyIter_range hr hsmall ?_
  generalize hH2 : s.heap.push _ = H2
  have k12 : ∀ b o, s.heap.get? b = some o → H2.get? b = some o := fun b o e => by rw [← hH2]; exact Heap.get?_push_of_some _ e
  have hI : IsRangeIter H2 s.heap.objs.size (a + ((0 : Nat) : Int) * 1) ((n : Int) - ((0 : Nat) : Int)) 1 := by
    rw [← hH2, ← hn]; show IsRangeIter _ _ _ _ _; simpa using Heap.get?_push_size _ rfl
  have hsz2 : H2.objs.size = s.heap.objs.size + 1 := by rw [← hH2]; exact Heap.size_push ..
  refine ⟨s.heap.objs.size, _, _, n, _, _, RngF a f, m, rfl, Walks.range hh s.heap.objs.size a 1 n, hsz, ?_, hI, ?_, (fun h => absurd F.ns.lt (by rw [List.mem_singleton.mp h]; exact Nat.lt_irrefl _)), (F.keeps k12).ns, ?_, ?_⟩
  · intro i h st b hb
    rw [List.mem_singleton.mp hb]; exact ⟨_, st⟩
  · intro b hb
    show b < H2.objs.size
    rw [List.mem_singleton.mp hb, hsz2]; exact Nat.lt_succ_self _
  · intro C i v s₃ E' hC hi hP hbd hk3
    have k03 : ∀ b o, s.heap.get? b = some o → s₃.heap.get? b = some o := fun b o e => hk3 b o (fun h => absurd (Heap.lt_size e) (by rw [List.mem_singleton.mp h]; exact Nat.lt_irrefl _)) (k12 b o e)
    obtain ⟨t9, rfl⟩ := hP
    rw [Int.mul_one] at hbd ⊢
    refine wpAny_mono (helt C i t9 s₃ E' hi hbd k03) (fun y s₄ h4 => ?_) fun _ _ e => e
    obtain ⟨⟨u, rfl⟩, K⟩ := h4
    exact ⟨⟨[], ⟨rfl, i, t9, u, rfl, rfl⟩, (fun _ h => nomatch h), fun _ h => nomatch h⟩, K⟩
  · intro D h' tk cc vs' ys l hD hl hlen' hP hTr hH hf hne2 hns hk4
    have old : ∀ a, H2.get? a = none → s.heap.get? a = none := fun a ha => by
      cases q : s.heap.get? a with
      | none => rfl
      | some o => have := k12 _ _ q; rw [ha] at this; cases this
    have kL : ∀ b o, b ≠ env.locals → s.heap.get? b = some o → h'.get? b = some o := fun b o hb e => hk4 b o hb (fun h => absurd (Heap.lt_size e) (by rw [List.mem_singleton.mp h]; exact Nat.lt_irrefl _)) (k12 b o e)
    exact ret D h' tk cc ys (ints_of hTr n hlen' hP) (old _ hD) hl ⟨hns, fun b o e => kL b o (Nat.ne_of_lt (Nat.lt_of_lt_of_le (Heap.lt_size e) F.above)) (F.keep b o e), F.above⟩ kL
end
end Mine

-- Be
theorem Mine.noneBe : True := by
  k_with_none
  exact trivial
namespace Mine
section
local macro_rules | `(tactic| k_ne) => `(tactic| first | assumption | (refine Ne.symm ?_; assumption) | exact AllAp.ne (by assumption) (by k_memK) | exact (AllAp.ne (by assumption) (by k_memK)).symm)
local macro_rules | `(tactic| k_all) => `(tactic| assumption)
local macro_rules | `(tactic| walk_at $s:str) => `(tactic| k_extra $s)
noncomputable abbrev bitF (r0 r1 r2 g : Int) (i : Nat) : Int := bitZ ([r0, r1, r2].getD i 0) ([4, 0, 9].getD i 0) g
theorem tup_push (h : Heap) (l : List Value) : IsTup (h.push { cls := .type "tuple", data := .seq l.toArray }) h.objs.size l.toArray := ⟨_, Heap.get?_push_size _ rfl, rfl, _, rfl⟩
set_option maxHeartbeats 4000000 in
theorem bit_elt {w : World} {A : Around} {E : Value → Shared → Prop} {s : Shared} {env : Env} {T cd cg : Addr} {r0 r1 r2 g : Int} {a0 a1 a2 tg t : Tok} {i : Nat} {m2 : Str → Option Value} {p1 p2 p3 p4 p5 p6 p7 p8 p9 pa pb pc pd pe pf pg : Pos} (hi : i < 3) (lo : Low A 240)
  (hk : env.scope.kind = .function) (k1 : env.kindOf (Str.ofString "due") = some .cell) (k2 : env.kindOf (Str.ofString "glyph") = some .cell) (k3 : env.kindOf (Str.ofString "row") = some .local)
  (c1 : env.cells.lookup (Str.ofString "due") = some cd) (c2 : env.cells.lookup (Str.ofString "glyph") = some cg)
  (hT : IsTup s.heap T #[.int r0 a0, .int r1 a1, .int r2 a2]) (v1 : s.heap.IsCell cd (some (.ref T))) (v2 : s.heap.IsCell cg (some (.int g tg))) (hn : s.heap.Ns env.locals m2) (hm : m2 (Str.ofString "row") = some (.int (0 + (i : Int)) t)) :
  wpAny (model Pg w) A (eval (.BinOp (.BinOp (.Subscript (.Name (Str.ofString "due") p1) (.Name (Str.ofString "row") p2) p3) .RShift (.BinOp (.BinOp (.Name (Str.ofString "glyph") p4) .RShift (.Subscript (.Tuple [.Constant (.int 4) 0 p5, .Constant (.int 0) 0 p6, .Constant (.int 9) 0 p7] 0 p8) (.Name (Str.ofString "row") p9) pa) pb) .Mod (.Constant (.int 64) 0 pc) pd) pe) .BitAnd (.Constant (.int 1) 0 pf) pg) env) (fun y s₄ => (∃ u, y = .int (bitF r0 r1 r2 g i) u) ∧ Keeps s s₄) E s := by
  k_with_none
  k_with "binaryOp RShift int int" => (refine rshift_int (fm64 _).1 ?_)
  k_with "subscriptTail" => (refine Halt.mk ?_)
  k_with "subscriptTail" => (refine item_tupleT (l := [.int 4 _, .int 0 _, .int 9 _]) (tup_push _ _) (by decide) (by decide) rfl rfl ?_)
  k_with "subscriptTail" => (refine item_tupleT (l := [.int r0 a0, .int r1 a1, .int r2 a2]) hT (by decide) (by decide) rfl rfl ?_)
  k_with "newTuple cons int cons" => (refine wpAny_newTuple ?_)
  k_with "eval Name" => (refine Halt.mk ?_)
  k_with "eval Name" => (refine wpAny_Name (wpAny_loadName_cell hk k1 c1 v1 ?_) (by decide))
  k_with "eval Name" => (refine wpAny_Name (wpAny_loadName_cell hk k2 c2 v2 ?_) (by decide))
  k_with "eval Name" => (refine wpAny_Name (wpAny_loadName_local hk k3 hn hm ?_) (by decide))
  k_with "eval Name" => (refine wpAny_Name (wpAny_loadName_local hk k3 (hn.keeps fun b o e => Heap.get?_push_of_some _ e) hm ?_) (by decide))
  have h3 : i = 0 ∨ i = 1 ∨ i = 2 := by omega
  rcases h3 with rfl | rfl | rfl
  all_goals (
    k_steps
    exact ⟨_, _, rfl, fun b o e => Heap.get?_push_of_some _ e⟩)
theorem have_bits {rs : List (Int × Int)} {a b c : Int} (hb : ∀ r ∈ rs, InBnd r) (e : (a, b, c) = rowsFold rs) (g : Int) : (mayHaveZ a b c g != decide ([bitF a b c g 0, bitF a b c g 1, bitF a b c g 2] = [1, 1, 1])) = false := by
  obtain ⟨h1, h2, h3⟩ := bitZ_01 hb e g
  show (mayHaveZ a b c g != decide ([bitZ a 4 g, bitZ b 0 g, bitZ c 9 g] = [1, 1, 1])) = false
  unfold mayHaveZ
  rcases h1 with h1 | h1 <;> rcases h2 with h2 | h2 <;> rcases h3 with h3 | h3 <;> rw [h1, h2, h3] <;> decide
noncomputable abbrev scB : Scope := { kind := .function, names := [(Str.ofString ".0", .local), (Str.ofString "row", .local), (Str.ofString "due", .free), (Str.ofString "glyph", .free)], isGenerator := false, isCoroutine := false }
theorem clos_scB {env : Env} {c1 c2 : Addr} (h1 : env.cells.lookup (Str.ofString "due") = some c1) (h2 : env.cells.lookup (Str.ofString "glyph") = some c2) : closureFor scB env = pure [(Str.ofString "glyph", c2), (Str.ofString "due", c1)] := by
  unfold closureFor
  have e1 : cellOf env (Str.ofString "due") = pure c1 := by unfold cellOf; rw [h1]
  have e2 : cellOf env (Str.ofString "glyph") = pure c2 := by unfold cellOf; rw [h2]
  simp [scB, e1, e2]
theorem relabel_scB {env : Env} (hk : env.scope.kind = .function) (k1 : env.kindOf (Str.ofString "due") = some .cell) (k2 : env.kindOf (Str.ofString "glyph") = some .cell) : (relabel scB env).names = [(Str.ofString ".0", .local), (Str.ofString "row", .local), (Str.ofString "due", .cell), (Str.ofString "glyph", .cell)] := by
  simp [relabel, scB, hk, k1, k2]
noncomputable abbrev scH : Scope := { kind := .function, names := [(Str.ofString ".0", .local), (Str.ofString "row", .local), (Str.ofString "dues", .free)], isGenerator := false, isCoroutine := false }
theorem clos_scH {env : Env} {c1 : Addr} (h1 : env.cells.lookup (Str.ofString "dues") = some c1) : closureFor scH env = pure [(Str.ofString "dues", c1)] := by
  unfold closureFor
  have e1 : cellOf env (Str.ofString "dues") = pure c1 := by unfold cellOf; rw [h1]
  simp [scH, e1]
theorem relabel_scH {env : Env} (hk : env.scope.kind = .function) (k1 : env.kindOf (Str.ofString "dues") = some .cell) : (relabel scH env).names = [(Str.ofString ".0", .local), (Str.ofString "row", .local), (Str.ofString "dues", .cell)] := by
  simp [relabel, scH, hk, k1]
noncomputable abbrev shrF (r0 r1 r2 q0 q1 q2 : Int) (i : Nat) : Int := Builtin.bitAnd ([r0, r1, r2].getD i 0) ([q0, q1, q2].getD i 0)
theorem bitAnd_comm (x y : Int) : Builtin.bitAnd x y = Builtin.bitAnd y x := by
  unfold Builtin.bitAnd
  by_cases hx : 0 ≤ x <;> by_cases hy : 0 ≤ y <;> simp [hx, hy, Nat.and_comm, Nat.or_comm]
theorem meet_bits (a b c d e f : Int) : (mayMeetZ a b c d e f != !([shrF a b c d e f 0, shrF a b c d e f 1, shrF a b c d e f 2].any fun x => x == 0)) = false := by
  show (mayMeetZ a b c d e f != !([Builtin.bitAnd a d, Builtin.bitAnd b e, Builtin.bitAnd c f].any fun x => x == 0)) = false
  unfold mayMeetZ
  by_cases h1 : Builtin.bitAnd a d = 0 <;> by_cases h2 : Builtin.bitAnd b e = 0 <;> by_cases h3 : Builtin.bitAnd c f = 0 <;> simp [h1, h2, h3]
theorem meet_swap (a b c d e f : Int) : mayMeetZ a b c d e f = mayMeetZ d e f a b c := by
  unfold mayMeetZ
  rw [bitAnd_comm a d, bitAnd_comm b e, bitAnd_comm c f]
set_option maxHeartbeats 4000000 in
theorem shr_elt {w : World} {A : Around} {E : Value → Shared → Prop} {s : Shared} {env : Env} {DU T1 T2 cd : Addr} {r0 r1 r2 q0 q1 q2 : Int} {a0 a1 a2 b0 b1 b2 t : Tok} {i : Nat} {m2 : Str → Option Value} {p1 p2 p3 p4 p5 p6 p7 p8 p9 pa pb : Pos} (hi : i < 3) (lo : Low A 240)
  (hk : env.scope.kind = .function) (k1 : env.kindOf (Str.ofString "dues") = some .cell) (k3 : env.kindOf (Str.ofString "row") = some .local)
  (c1 : env.cells.lookup (Str.ofString "dues") = some cd)
  (hD : s.heap.IsList DU #[.ref T1, .ref T2]) (hT1 : IsTup s.heap T1 #[.int r0 a0, .int r1 a1, .int r2 a2]) (hT2 : IsTup s.heap T2 #[.int q0 b0, .int q1 b1, .int q2 b2]) (v1 : s.heap.IsCell cd (some (.ref DU))) (hn : s.heap.Ns env.locals m2) (hm : m2 (Str.ofString "row") = some (.int (0 + (i : Int)) t)) :
  wpAny (model Pg w) A (eval (.BinOp (.Subscript (.Subscript (.Name (Str.ofString "dues") p1) (.Constant (.int 0) 0 p2) p3) (.Name (Str.ofString "row") p4) p5) .BitAnd (.Subscript (.Subscript (.Name (Str.ofString "dues") p6) (.Constant (.int 1) 0 p7) p8) (.Name (Str.ofString "row") p9) pa) pb) env) (fun y s₄ => (∃ u, y = .int (shrF r0 r1 r2 q0 q1 q2 i) u) ∧ Keeps s s₄) E s := by
  k_with_none
  k_with "subscriptTail" => (refine Halt.mk ?_)
  k_with "subscriptTail" => (refine item_listL (l := [.ref T1, .ref T2]) hD (by decide) (by decide) rfl ?_)
  k_with "subscriptTail" => (refine item_tupleT (l := [.int r0 a0, .int r1 a1, .int r2 a2]) hT1 (by decide) (by decide) rfl rfl ?_)
  k_with "subscriptTail" => (refine item_tupleT (l := [.int q0 b0, .int q1 b1, .int q2 b2]) hT2 (by decide) (by decide) rfl rfl ?_)
  k_with "eval Name" => (refine Halt.mk ?_)
  k_with "eval Name" => (refine wpAny_Name (wpAny_loadName_cell hk k1 c1 v1 ?_) (by decide))
  k_with "eval Name" => (refine wpAny_Name (wpAny_loadName_local hk k3 hn hm ?_) (by decide))
  have h3 : i = 0 ∨ i = 1 ∨ i = 2 := by omega
  rcases h3 with rfl | rfl | rfl
  all_goals (
    k_steps
    exact ⟨_, _, rfl, fun b o e => e⟩)
set_option maxHeartbeats 4000000 in
theorem num_elt {w : World} {A : Around} {E : Value → Shared → Prop} {s : Shared} {env : Env} {g : Int} {t : Tok} {m2 : Str → Option Value} {p1 p2 p3 p4 p5 : Pos} (lo : Low A 240)
  (hk : env.scope.kind = .function) (k3 : env.kindOf (Str.ofString "number") = some .local) (hn : s.heap.Ns env.locals m2) (hm : m2 (Str.ofString "number") = some (.int g t)) :
  wpAny (model Pg w) A (eval (.BinOp (.Constant (.int 1) 0 p1) .LShift (.BinOp (.Name (Str.ofString "number") p2) .Mod (.Constant (.int 64) 0 p3) p4) p5) env) (fun y s₄ => (∃ u, y = .int (1 * 2 ^ (g.fmod 64).toNat) u) ∧ Keeps s s₄) E s := by
  k_with_none
  k_with "eval Name" => (refine wpAny_Name (wpAny_loadName_local hk k3 hn hm ?_) (by decide))
  have h64 := fm64 g
  k_steps
  exact ⟨_, _, rfl, fun b o e => e⟩
end
end Mine

-- the law
theorem Mine.noneLa : True := by
  k_with_none
  exact trivial
namespace Mine
structure Cut1 (H : Prop) where
  A : Prop
  ok : Hid A → H
structure Cut2 (H : Prop) where
  A : Prop
  B : Prop
  ok : Hid A → Hid B → H
structure Cut3 (H : Prop) where
  A : Prop
  B : Prop
  C : Prop
  ok : Hid A → Hid B → Hid C → H
theorem store_cell {M : Model} {A : Around} {E : Value → Shared → Prop} {Q : Unit → Shared → Prop} {s : Shared} {h₀ : Heap} {L c : Addr} {m : Str → Option Value} {rest : List (Addr × Obj)} {env : Env} {x : Str} {o : Obj} {v0 : Option Value} {v : Value}
  (hk : env.scope.kind = .function) (hl : env.kindOf x = some .cell) (hc : env.cells.lookup x = some c) (F : Fr h₀ L s.heap m) (N : News h₀ L s.heap ((c, o) :: rest)) (hd : o.data = .cell v0) (hr : ∀ p ∈ rest, p.1 ≠ c)
  (h : ∀ h' o', o'.data = .cell (some v) → Fr h₀ L h' m → News h₀ L h' ((c, o') :: rest) → Q () { s with heap := h' }) : wpAny M A (storeName env x v) Q E s := by
  have z := N _ (.head _)
  refine wpAny_storeName_cell hk hl hc ⟨o, z.1, hd⟩ fun h' hc' hs' => ?_
  obtain ⟨o', ho', hd'⟩ := hc'
  refine h h' o' hd' (ksk_fr F hs' z.2.1 z.2.2) fun p hp => ?_
  rcases List.mem_cons.mp hp with rfl | hp
  · exact ⟨ho', z.2⟩
  · have y := N p (.tail _ hp)
    exact ⟨hs'.extBut p.1 p.2 (hr p hp) y.1, y.2⟩
noncomputable def DueG (rs : List (Int × Int)) (y : Value) (l : List (Addr × Obj)) : Prop := ∃ T t0 t1 t2, y = .ref T ∧ l = [(T, tupZ [.int (bitsZ 4 rs) t0, .int (bitsZ 0 rs) t1, .int (bitsZ 9 rs) t2] 0)]
inductive TurnIn (w : World) (rest : List (Addr × Obj)) (x y z : Value) : Prop
  | mk (R : Addr) (us : List Value) (nn : Nat) (gr : List (Addr × Obj)) (rs : List (Int × Int)) (T : Addr) (d0 d1 d2 : Tok) (X xd xr : Addr) (xk xa xb xc : Tok) (ex : x = .ref R) (ey : y = .ref T) (ez : z = .ref X)
    (mR : (R, listOf us.toArray nn) ∈ rest) (mT : (T, tupZ [.int (bitsZ 4 rs) d0, .int (bitsZ 0 rs) d1, .int (bitsZ 9 rs) d2] 0) ∈ rest) (mX : (X, instObj 137 xd) ∈ rest) (mxd : (xd, dgDict w xr xk) ∈ rest) (mxr : (xr, dgRows (bitsZ 4 rs) xa (bitsZ 0 rs) xb (bitsZ 9 rs) xc) ∈ rest)
    (hPI : PairsIn gr us rs) (hgr : ∀ p ∈ gr, p ∈ rest) (hB : ∀ r ∈ rs, InBnd r) (hL : rs.length ≤ 6) (n1 : X ≠ xd) (n2 : X ≠ xr) (n3 : xd ≠ xr)
theorem nin3_all {l : List (Addr × Obj)} {a b c : Addr} (h1 : ∀ p ∈ l, p.1 ≠ a) (h2 : ∀ p ∈ l, p.1 ≠ b) (h3 : ∀ p ∈ l, p.1 ≠ c) : ∀ p ∈ l, p.1 ∉ [a, b, c] := fun p hp => nin3 (h1 p hp) (h2 p hp) (h3 p hp)
theorem Fr.lets {h₀ h : Heap} {L : Addr} {m : Str → Option Value} {G : Prop} (F : Fr h₀ L h m) (k : let mm := m; Fr h₀ L h mm → G) : G := k F
theorem cx_of {w : World} {mg mb : Str → Option Value} {mean : ExcName → Option Value} {h : Heap} (KX : (Mine.hd.heap_39 w.params).In h) (T : Top Mine.hd.view_39 (looseW Mine.hd.view_39 [Str.ofString "EVERY_BIT"]) mean mg mb h) : Cx w mg mb h := ⟨KX, topRead_of T⟩
theorem News.back {h₀ h : Heap} {L : Addr} {a : Addr × Obj} {g l : List (Addr × Obj)} (N : News h₀ L h (a :: (g ++ l))) : News h₀ L h (a :: (l ++ g)) := News.sub N (fun p hp => by
  rcases List.mem_cons.mp hp with rfl | hp
  · exact .head _
  · exact .tail _ (List.mem_append.mpr (List.mem_append.mp hp).symm))
theorem law_sep {h₀ h : Heap} {L DU T1 T2 SS R2 R1 P C D' c3 c2 c1 : Addr} {oDU oT1 oT2 oSS oR2 oR1 oP oC oD o3 o2 o1 oDU' oT1' oT2' oSS' oR2' oR1' oR1'' oP' oP'' oP3 oC' oC'' oC3 oD'' oD3 oD4 q3 q2 q1 r3 r2 r1 s3 s2 s1 oR23 oR13 : Obj} {g1 g2 : List (Addr × Obj)}
  (N : News h₀ L h ((DU, oDU) :: (T1, oT1) :: (T2, oT2) :: (SS, oSS) :: (R2, oR2) :: (R1, oR1) :: (P, oP) :: (C, oC) :: (D', oD) :: (c3, o3) :: (c2, o2) :: (c1, o1) :: (g1 ++ g2)))
  (hc : c1 < c2 ∧ c2 < c3) (oCf : D' ≠ C ∧ c3 ≠ C ∧ c2 ≠ C ∧ c1 ≠ C) (lP : C < P ∧ D' < P ∧ c3 < P ∧ c2 < P ∧ c1 < P)
  (gA : ∀ p ∈ (R1, oR1') :: g1, ∀ q ∈ [(P, oP'), (C, oC'), (D', oD''), (c3, q3), (c2, q2), (c1, q1)], p.1 ≠ q.1)
  (gA2 : ∀ p ∈ (R2, oR2') :: g2, ∀ q ∈ (R1, oR1'') :: (P, oP'') :: (C, oC'') :: (D', oD3) :: (c3, r3) :: (c2, r2) :: (c1, r1) :: g1, p.1 ≠ q.1)
  (lS : R2 < SS ∧ R1 < SS ∧ P < SS ∧ C < SS ∧ D' < SS ∧ c3 < SS ∧ c2 < SS ∧ c1 < SS ∧ AllLt SS (g1 ++ g2))
  (gA3 : ∀ p ∈ [(DU, oDU'), (T1, oT1'), (T2, oT2')], ∀ q ∈ (SS, oSS') :: (R2, oR23) :: (R1, oR13) :: (P, oP3) :: (C, oC3) :: (D', oD4) :: (c3, s3) :: (c2, s2) :: (c1, s1) :: (g1 ++ g2), p.1 ≠ q.1) :
  News h₀ L h ((c1, o1) :: (c2, o2) :: (c3, o3) :: (P, oP) :: (DU, oDU) :: (T1, oT1) :: (T2, oT2) :: (SS, oSS) :: (R2, oR2) :: (R1, oR1) :: (C, oC) :: (g1 ++ g2)) ∧
  (∀ a, (a = c1 ∨ a = c2 ∨ a = c3 ∨ a = P) → ∀ p ∈ (DU, oDU) :: (T1, oT1) :: (T2, oT2) :: (SS, oSS) :: (R2, oR2) :: (R1, oR1) :: (C, oC) :: (g1 ++ g2), p.1 ≠ a) ∧ P ≠ c1 ∧ P ≠ c2 ∧ P ≠ c3 ∧ R1 ≠ R2 ∧ DU ≠ SS ∧ (∀ p ∈ g1 ++ g2, p.1 ≠ SS) := by
  refine ⟨News.sub N ?_, fun a ha => ?_, ?_, ?_, ?_, ?_, ?_, ?_⟩
  · (repeat' (first | with_reducible exact sub_nil | with_reducible exact sub_refl | with_reducible exact sub_left | with_reducible exact sub_right | (with_reducible refine sub_app ?_ ?_) | (refine sub_cons (by first | k_memK | k_ownIn) ?_) | refine sub_step ?_ | exact sub_left | exact sub_right | exact sub_refl))
  · have q1 : ∀ p ∈ (R1, oR1') :: g1, p.1 ≠ a := by
      rcases ha with e | e | e | e <;> rw [e]
      · exact fun p hp => gA p hp _ (.tail _ (.tail _ (.tail _ (.tail _ (.tail _ (.head _))))))
      · exact fun p hp => gA p hp _ (.tail _ (.tail _ (.tail _ (.tail _ (.head _)))))
      · exact fun p hp => gA p hp _ (.tail _ (.tail _ (.tail _ (.head _))))
      · exact fun p hp => gA p hp _ (.head _)
    have q2 : ∀ p ∈ (R2, oR2') :: g2, p.1 ≠ a := by
      rcases ha with e | e | e | e <;> rw [e]
      · exact fun p hp => gA2 p hp _ (.tail _ (.tail _ (.tail _ (.tail _ (.tail _ (.tail _ (.head _)))))))
      · exact fun p hp => gA2 p hp _ (.tail _ (.tail _ (.tail _ (.tail _ (.tail _ (.head _))))))
      · exact fun p hp => gA2 p hp _ (.tail _ (.tail _ (.tail _ (.tail _ (.head _)))))
      · exact fun p hp => gA2 p hp _ (.tail _ (.head _))
    have q3 : ∀ p ∈ [(DU, oDU'), (T1, oT1'), (T2, oT2')], p.1 ≠ a := by
      rcases ha with e | e | e | e <;> rw [e]
      · exact fun p hp => gA3 p hp _ (.tail _ (.tail _ (.tail _ (.tail _ (.tail _ (.tail _ (.tail _ (.tail _ (.head _)))))))))
      · exact fun p hp => gA3 p hp _ (.tail _ (.tail _ (.tail _ (.tail _ (.tail _ (.tail _ (.tail _ (.head _))))))))
      · exact fun p hp => gA3 p hp _ (.tail _ (.tail _ (.tail _ (.tail _ (.tail _ (.tail _ (.head _)))))))
      · exact fun p hp => gA3 p hp _ (.tail _ (.tail _ (.tail _ (.head _))))
    have sS : SS ≠ a := by
      rcases ha with e | e | e | e <;> rw [e]
      · exact Nat.ne_of_gt lS.2.2.2.2.2.2.2.1
      · exact Nat.ne_of_gt lS.2.2.2.2.2.2.1
      · exact Nat.ne_of_gt lS.2.2.2.2.2.1
      · exact Nat.ne_of_gt lS.2.2.1
    have sC : C ≠ a := by
      rcases ha with e | e | e | e <;> rw [e]
      · exact oCf.2.2.2.symm
      · exact oCf.2.2.1.symm
      · exact oCf.2.1.symm
      · exact Nat.ne_of_lt lP.1
    exact all_cons (q3 (DU, oDU') (.head _)) (all_cons (q3 (T1, oT1') (.tail _ (.head _))) (all_cons (q3 (T2, oT2') (.tail _ (.tail _ (.head _)))) (all_cons sS (all_cons (q2 (R2, oR2') (.head _)) (all_cons (q1 (R1, oR1') (.head _)) (all_cons sC (all_app (fun p hp => q1 p (.tail _ hp)) fun p hp => q2 p (.tail _ hp))))))))
  · exact Nat.ne_of_gt lP.2.2.2.2
  · exact Nat.ne_of_gt lP.2.2.2.1
  · exact Nat.ne_of_gt lP.2.2.1
  · exact (gA2 _ (.head _) _ (.head _)).symm
  · exact gA3 _ (.head _) _ (.head _)
  · exact fun p hp => Nat.ne_of_lt (kst_ltOf lS.2.2.2.2.2.2.2.2 p hp)
section
local macro_rules | `(tactic| k_ne) => `(tactic| first | assumption | (refine Ne.symm ?_; assumption) | exact AllAp.ne (by assumption) (by k_memK) | exact (AllAp.ne (by assumption) (by k_memK)).symm)
local macro_rules | `(tactic| k_all) => `(tactic| assumption)
local macro_rules | `(tactic| walk_at $s:str) => `(tactic| k_extra $s)
local macro_rules | `(tactic| k_mem) => `(tactic| k_ownIn)
local macro_rules | `(tactic| k_memK) => `(tactic| k_ownIn)
set_option maxHeartbeats 16000000
noncomputable def w1 : Cut1 PySem.Challenge.rw_nu0150_01.Holds := ⟨_, by
  intro hcut1
  refine Mine.hd.ok ?_
  k_with_none
  k_go0
  rename_i o3 o2 o1 d3 d2 d1 N0 X0
  rename World => w
  rename Shared => s1
  have z1 : o1.data = .cell none := d1
  have z2 : o2.data = .cell none := d2
  have z3 : o3.data = .cell none := d3
  rename Top _ _ _ _ _ _ => TT
  rename Frag.In _ _ => KX
  rename PySem.Heap.IsList _ _ _ => hL
  rename IntsAre _ _ => hI
  rename ¬ ((63 : Nat) : Int) < _ => hcond
  have Cg := cx_of KX TT
  have Tg := Cg.T
  refine noE (letQ ?_)
  intro qk
  k_with_none
  k_with "call ref" => (refine Halt.mk ?_)
  k_steps
  rename_i zc1 zc2 zc3 zc4 zc5 zc6 zc7 zc8 zc9 zc10 zc11 zc12 zc13 zc14 zc15 zc16 zc17 zc18 zc19 zc20 zc21 zc22 zc23 zc24 zc25 zc26 zc27 zc28 zc29 zc30 zc31 zc32 zc33 zc34 zc35 zc36 zc37 zc38 zc39 zc40 zc41 zc42 zc43 zc44 zc45 zc46 zc47 zc48 zc49 zc50 zc51 zc52 zc53 zc54 zc55 zc56 zc57 zc58 zc59 zc60 zc61 zc62 zc63 zc64 zc65
  revert w zc1 s1 zc2 zc3 zc4 zc5 zc6 zc7 zc8 zc9 zc10 zc11 KX zc12 zc13 zc14 TT zc15 zc16 zc17 zc18 zc19 zc20 zc21 zc22 zc23 zc24 zc25 zc26 zc27 zc28 zc29 zc30 zc31 zc32 zc33 zc34 hL zc35 zc36 zc37 hI zc38 hcond zc39 zc40 zc41 zc42 zc43 o3 o2 o1 d3 d2 d1 X0 z1 z2 z3 Cg Tg qk zc44 zc45 zc46 zc47 zc48 zc49 zc50 zc51 zc52 zc53 ys zc54 zc55 zc56 zc57 zc58 zc59 zc60 zc61 zc62 zc63 zc64 zc65 tk
  exact hcut1.out⟩
noncomputable def w2 : Cut1 w1.A := ⟨_, by
  intro hcut1
  intro w _ s1 _ _ _ _ _ _ _ _ _ _ KX _ _ _ TT _ _ _ _ _ _ _ _ _ _ _ _ _ _ _ _ _ _ _ _ hL _ _ _ hI _ hcond _ _ _ _ _ o3 o2 o1 d3 d2 d1 X0 z1 z2 z3 Cg Tg qk _ _ _ _ _ _ _ _ _ _ ys _ _ _ _ _ _ _ _ _ _ _ _ tk
  k_with_none
  refine Halt.out ?_
  rename Fr _ _ _ _ => lF
  rename News _ _ _ _ => lN
  rename_i hI8 hL8 C hB tkB oC P hD lP hE
  rename (kHook _ _ _).says _ _ => q1
  rename CellsAre _ _ _ => q2
  rename Below _ _ _ _ => q3
  rename Ground _ _ _ _ _ _ _ _ _ => q4
  rename Flt.MathXP _ _ _ => q5
  rename LooseAre _ _ _ => q6
  rename Glob _ _ _ _ _ _ _ _ => q7
  rename Tables _ _ _ _ => q8
  rename TopE _ _ _ _ => q9
  rename TopW _ _ _ => q10
  rename BMod _ _ _ _ _ => q11
  rename Shared.gens _ = _ => q12
  rename Well _ _ _ _ => q13
  rename Reads _ _ _ _ => q14
  rename ReadsAll _ _ _ _ => q15
  rename ReadsAllW _ _ _ _ _ _ => q16
  rename Spec.Shape.has _ _ = true => q17
  rename Dflts _ _ _ _ _ _ => q18
  clear q2 q3 q4 q5 q6 q7 q8 q9 q10 q11 q13 q14 q15 q16 q17 q18 d1 d2 d3 TT
  have hCe := Cells.mk (News.isList lN (.tail _ (.head _))) hI8 (by rw [List.length_map, List.length_take]; omega)
  k_dflt (refine' law_ranges_call (P := P) (by exact ⟨rfl, rfl, by show (301 + 1 : Nat) ≤ _; decide, by first | exact Nat.le_of_ble_eq_true rfl | decide⟩) Cg lF lN (.head _) hCe (by omega) (by omega) (by omega) ?_)
  intro R1 us1 nn1 gr1 rs1 seat1 rest1 t11 t12 h1 tk1 hPI1 hB1 hL1 hs0 hs1 hr1 F1 nn' hf1 hg1 S1
  have gA := News.ne_fresh lN hf1
  have apR1 := AllAp.of lN (hf1 _ (.head _))
  have gP : ∀ p ∈ gr1, p.1 ≠ P := fun p hp => gA p (.tail _ hp) _ (.head _)
  have N1 := News.back (nn' _ (by k_upd))
  dsimp only [List.cons_append, List.nil_append] at N1
  clear nn' lF lN S1 hCe
  all_goals (try dsimp only)
  dsimp only at apR1
  k_steps
  rename_i zc1 zc2 zc3 zc4 zc5 zc6 zc7 zc8 zc9 zc10 zc11 zc12 zc13 zc14 zc15 zc16 zc17 zc18 zc19 zc20 zc21 zc22 zc23 zc24 zc25 zc26 zc27 zc28 zc29 zc30 zc31 zc32 zc33 zc34 zc35 zc36 zc37
  clear zc37 zc36 zc35 zc34 zc33 zc32 zc30 zc27 zc26 zc25 zc24 zc21 zc20 zc19 zc18 zc17 zc16 zc14 zc13 zc11 zc10 zc9 zc6 zc4
  revert w zc1 s1 zc2 zc3 zc5 zc7 zc8 q12 q1 zc12 zc15 zc22 zc23 hL hI hcond o3 o2 o1 z1 z2 z3 Cg Tg qk zc28 zc29 zc31 ys hI8 hL8 C hB tkB oC P hD lP hE tk R1 us1 nn1 gr1 rs1 seat1 rest1 t11 t12 h1 tk1 hPI1 hB1 hL1 hs0 hs1 hr1 F1 hf1 hg1 gA apR1 gP N1
  exact hcut1.out⟩
noncomputable def w3 : Cut1 w2.A := ⟨_, by
  intro hcut1
  intro w _ s1 _ _ _ _ _ q12 q1 _ _ _ _ hL hI hcond o3 o2 o1 z1 z2 z3 Cg Tg qk _ _ _ ys hI8 hL8 C hB tkB oC P hD lP hE tk R1 us1 nn1 gr1 rs1 seat1 rest1 t11 t12 h1 tk1 hPI1 hB1 hL1 hs0 hs1 hr1 F1 hf1 hg1 gA apR1 gP N1
  k_with_none
  refine Halt.out ?_
  have hCe := Cells.mk (News.isList N1 (.tail _ (.tail _ (.head _)))) hI8 (by rw [List.length_map, List.length_take]; omega)
  k_dflt (refine' law_ranges_call (P := P) (by exact ⟨rfl, rfl, by show (301 + 1 : Nat) ≤ _; decide, by first | exact Nat.le_of_ble_eq_true rfl | decide⟩) Cg F1 N1 (.tail _ (.head _)) hCe (by omega) (by omega) (by omega) ?_)
  intro R2 us2 nn2 gr2 rs2 seat2 rest2 t21 t22 h2 tk2 hPI2 hB2 hL2 hs2 hs3 hrs2 F2 nn' hf2 hg2 S2
  have gA2 := News.ne_fresh N1 hf2
  have apR2 : AllAp R2 _ := AllAp.of N1 (hf2 _ (.head _))
  have gP2 : ∀ p ∈ gr2, p.1 ≠ P := fun p hp => gA2 p (.tail _ hp) _ (.tail _ (.head _))
  have N2 := News.back (nn' _ (by k_upd))
  dsimp only [List.cons_append, List.nil_append] at N2
  clear nn' F1 N1 S2 hCe
  k_with_none
  k_with "call ref" => (refine Halt.mk ?_)
  k_with "eval ListComp Call cons" => (refine Halt.mk ?_)
  all_goals (try dsimp only)
  k_steps
  rename Fr _ _ _ _ => F3
  rename News _ _ _ _ => N3
  rename_i SS hS3 lS hSS
  rename_i zc1 zc2 zc3 zc4 zc5 zc6 zc7 zc8 zc9 zc10 zc11 zc12 zc13 zc14
  revert w zc1 s1 zc2 zc3 zc4 zc5 zc6 q12 q1 zc7 zc8 zc9 zc10 hL hI hcond o3 o2 o1 z1 z2 z3 Cg Tg qk zc11 zc12 zc13 ys hI8 hL8 C hB tkB oC P hD lP hE zc14 R1 us1 nn1 gr1 rs1 seat1 rest1 t11 t12 h1 tk1 hPI1 hB1 hL1 hs0 hs1 hr1 hf1 hg1 gA apR1 gP R2 us2 nn2 gr2 rs2 seat2 rest2 t21 t22 h2 tk2 hPI2 hB2 hL2 hs2 hs3 hrs2 hf2 hg2 gA2 apR2 gP2 SS hS3 lS hSS F3 N3 tk
  exact hcut1.out⟩
noncomputable def w4 : Cut1 w3.A := ⟨_, by
  intro hcut1
  intro w _ s1 _ _ _ _ _ q12 q1 _ _ _ _ hL hI hcond o3 o2 o1 z1 z2 z3 Cg Tg qk _ _ _ ys hI8 hL8 C hB tkB oC P hD lP hE _ R1 us1 nn1 gr1 rs1 seat1 rest1 t11 t12 h1 tk1 hPI1 hB1 hL1 hs0 hs1 hr1 hf1 hg1 gA apR1 gP R2 us2 nn2 gr2 rs2 seat2 rest2 t21 t22 h2 tk2 hPI2 hB2 hL2 hs2 hs3 hrs2 hf2 hg2 gA2 apR2 gP2 SS hS3 lS hSS F3 N3 tk
  k_with_none
  refine Halt.out ?_
  refine ListComp_C (cl := []) (closureFor_none (by decide)) rfl (by decide) (by rfl) (fun C => rfl) (fun h => rfl) ?_
  k_with_none
  k_with "pyIter ref" => (refine Halt.mk ?_)
  k_with "storeName ref" => (refine Halt.mk ?_)
  k_with "call ref" => (refine Halt.mk ?_)
  k_with "eval ListComp Call cons" => (refine Halt.mk ?_)
  k_steps
  refine Halt.out ?_
  have hR12 : R1 ≠ R2 := apR2.1 (R1, _) (.head _)
  have hPA1 := hPI1.at (Has.of (l := gr1) N3 (by (repeat' (first | with_reducible exact sub_nil | with_reducible exact sub_refl | with_reducible exact sub_left | with_reducible exact sub_right | (with_reducible refine sub_app ?_ ?_) | (refine sub_cons (by first | k_memK | k_ownIn) ?_) | refine sub_step ?_ | exact sub_left | exact sub_right | exact sub_refl))))
  have hPA2 := hPI2.at (Has.of (l := gr2) N3 (by (repeat' (first | with_reducible exact sub_nil | with_reducible exact sub_refl | with_reducible exact sub_left | with_reducible exact sub_right | (with_reducible refine sub_app ?_ ?_) | (refine sub_cons (by first | k_memK | k_ownIn) ?_) | refine sub_step ?_ | exact sub_left | exact sub_right | exact sub_refl))))
  have hLR1 := News.isList (a := R1) N3 (.tail _ (.tail _ (.head _)))
  have hLR2 := News.isList (a := R2) N3 (.tail _ (.head _))
  refine comp_two (DueG rs1) (DueG rs2) rfl (News.isList N3 (.head _)) hR12 ?_ ?_ ?_
  · intro C9 s₃ E' hbd hC k03
    exact dues_elt (c := C9 + 1) (by exact ⟨rfl, rfl, by show (301 + 1 : Nat) ≤ _; decide, by first | exact Nat.le_of_ble_eq_true rfl | decide⟩) Cg (F3.keeps k03) (fun p hp => ⟨k03 _ _ (N3 p hp).1, (N3 p hp).2⟩) (list_keeps hLR1 k03) (hPA1.keeps k03) hB1 (by omega) rfl rfl rfl rfl rfl rfl hbd.2
  · intro C9 s₃ E' hbd hC k03
    exact dues_elt (c := C9 + 1) (by exact ⟨rfl, rfl, by show (301 + 1 : Nat) ≤ _; decide, by first | exact Nat.le_of_ble_eq_true rfl | decide⟩) Cg (F3.keeps k03) (fun p hp => ⟨k03 _ _ (N3 p hp).1, (N3 p hp).2⟩) (list_keeps hLR2 k03) (hPA2.keeps k03) hB2 (by omega) rfl rfl rfl rfl rfl rfl hbd.2
  intro DU hDU tkDU ccDU y1 y2 l1 l2 g1 g2 HD1 HD2 fd1 fd2 fD hDl kD
  obtain ⟨T1, a0, a1, a2, rfl, rfl⟩ := g1
  obtain ⟨T2, c0, c1, c2, rfl, rfl⟩ := g2
  have F4 := F3.keeps kD
  have N4 := News.join F3 (News.grown N3 kD) (l := [(DU, _), (T1, _), (T2, _)]) (fun p hp => by
    rcases List.mem_cons.mp hp with rfl | hp
    · exact hDl
    rcases List.mem_cons.mp hp with rfl | hp
    · exact HD1 _ (.head _)
    · cases List.mem_singleton.mp hp; exact HD2 _ (.head _)) (fun p hp => by
    rcases List.mem_cons.mp hp with rfl | hp
    · exact fD
    rcases List.mem_cons.mp hp with rfl | hp
    · exact (fd1 _ (.head _)).1
    · cases List.mem_singleton.mp hp; exact (fd2 _ (.head _)).1)
  have gA3 := News.ne_fresh N3 (l := [(DU, listOf #[.ref T1, .ref T2] ccDU), (T1, tupZ [.int (bitsZ 4 rs1) a0, .int (bitsZ 0 rs1) a1, .int (bitsZ 9 rs1) a2] 0), (T2, tupZ [.int (bitsZ 4 rs2) c0, .int (bitsZ 0 rs2) c1, .int (bitsZ 9 rs2) c2] 0)]) (fun p hp => by
    rcases List.mem_cons.mp hp with rfl | hp
    · exact fD
    rcases List.mem_cons.mp hp with rfl | hp
    · exact (fd1 _ (.head _)).1
    · cases List.mem_singleton.mp hp; exact (fd2 _ (.head _)).1)
  dsimp only [List.cons_append, List.nil_append] at N4
  clear HD1 HD2 hDl hPA1 hPA2 hLR1 hLR2
  all_goals (try dsimp only)
  rename_i zc1 zc2 zc3 zc4 zc5 zc6 zc7 zc8 zc9 zc10 zc11 zc12 zc13 zc14
  revert w zc1 s1 zc2 zc3 zc4 zc5 zc6 q12 q1 zc7 zc8 zc9 zc10 hL hI hcond o3 o2 o1 z1 z2 z3 Cg Tg qk zc11 zc12 zc13 ys hI8 hL8 C hB tkB oC P hD lP hE zc14 R1 us1 nn1 gr1 rs1 seat1 rest1 t11 t12 h1 tk1 hPI1 hB1 hL1 hs0 hs1 hr1 hf1 hg1 gA apR1 gP R2 us2 nn2 gr2 rs2 seat2 rest2 t21 t22 h2 tk2 hPI2 hB2 hL2 hs2 hs3 hrs2 hf2 hg2 gA2 apR2 gP2 SS hS3 lS hSS F3 N3 tk hR12 DU hDU tkDU ccDU fD kD T1 a0 a1 a2 fd1 T2 c0 c1 c2 fd2 F4 N4 gA3
  exact hcut1.out⟩
noncomputable def w5 : Cut1 w4.A := ⟨_, by
  intro hcut1
  intro w _ s1 _ _ _ _ _ q12 q1 _ _ _ _ hL hI hcond o3 o2 o1 z1 z2 z3 Cg Tg qk _ _ _ ys hI8 hL8 C hB tkB oC P hD lP hE _ R1 us1 nn1 gr1 rs1 seat1 rest1 t11 t12 h1 tk1 hPI1 hB1 hL1 hs0 hs1 hr1 hf1 hg1 gA apR1 gP R2 us2 nn2 gr2 rs2 seat2 rest2 t21 t22 h2 tk2 hPI2 hB2 hL2 hs2 hs3 hrs2 hf2 hg2 gA2 apR2 gP2 SS hS3 lS hSS F3 N3 tk hR12 DU hDU tkDU ccDU fD kD T1 a0 a1 a2 fd1 T2 c0 c1 c2 fd2 F4 N4 gA3
  k_with_none
  obtain ⟨N5, hsep, p1, p2, p3, hR12', hDS, hgS⟩ := law_sep N4 ⟨Nat.lt_succ_self _, Nat.lt_succ_self _⟩ oC lP gA gA2 lS gA3
  clear N4 gA gA2 gA3 lS fd1 fd2 fD hf1 hf2 apR1 apR2 gP gP2
  refine store_cell (c := _ + 1) rfl rfl rfl F4 N5 z1 ?_ ?_
  · exact all_cons (Nat.succ_ne_self _) (all_cons (Nat.ne_of_gt (Nat.lt_succ_of_lt (Nat.lt_succ_self _))) (all_cons p1 (hsep _ (.inl rfl))))
  intro h5 o1' z1' F5 N5'
  clear F4 N5 kD
  try dsimp only
  k_with_none
  k_with "pyIter ref" => (refine Halt.mk ?_)
  k_with "call ref" => (refine Halt.mk ?_)
  k_with "exec Assign cons ListComp" => (refine Halt.mk ?_)
  k_with "exec For Tuple Call cons cons" => (refine Halt.mk ?_)
  k_steps
  rename_i zc1 zc2 zc3 zc4 zc5 zc6 zc7 zc8 zc9 zc10 zc11 zc12 zc13 zc14
  clear zc14
  revert w zc1 s1 zc2 zc3 zc4 zc5 zc6 q12 q1 zc7 zc8 zc9 zc10 hL hI hcond o3 o2 o1 z1 z2 z3 Cg Tg qk zc11 zc12 zc13 ys hI8 hL8 C hB tkB oC P hD lP hE R1 us1 nn1 gr1 rs1 seat1 rest1 t11 t12 h1 tk1 hPI1 hB1 hL1 hs0 hs1 hr1 hg1 R2 us2 nn2 gr2 rs2 seat2 rest2 t21 t22 h2 tk2 hPI2 hB2 hL2 hs2 hs3 hrs2 hg2 SS hS3 hSS F3 N3 tk hR12 DU hDU tkDU ccDU T1 a0 a1 a2 T2 c0 c1 c2 hsep p1 p2 p3 hR12' hDS hgS h5 o1' z1' F5 N5'
  exact hcut1.out⟩
noncomputable def w6 : Cut1 w5.A := ⟨_, by
  intro hcut1
  intro w _ s1 _ _ _ _ _ q12 q1 _ _ _ _ hL hI hcond o3 o2 o1 z1 z2 z3 Cg Tg qk _ _ _ ys hI8 hL8 C hB tkB oC P hD lP hE R1 us1 nn1 gr1 rs1 seat1 rest1 t11 t12 h1 tk1 hPI1 hB1 hL1 hs0 hs1 hr1 hg1 R2 us2 nn2 gr2 rs2 seat2 rest2 t21 t22 h2 tk2 hPI2 hB2 hL2 hs2 hs3 hrs2 hg2 SS hS3 hSS F3 N3 tk hR12 DU hDU tkDU ccDU T1 a0 a1 a2 T2 c0 c1 c2 hsep p1 p2 p3 hR12' hDS hgS h5 o1' z1' F5 N5'
  k_with_none
  refine Halt.out (Assign_ListComp_L (cl := []) (by rfl) (closureFor_none (by decide)) rfl (by decide) rfl (fun h => rfl) rfl rfl ?_)
  k_steps
  refine Halt.out ?_
  rename Fr _ _ _ _ => F6
  rename News _ _ _ _ => N6
  have hPA1 := hPI1.at (Has.of (l := gr1) N6 (by (repeat' (first | with_reducible exact sub_nil | with_reducible exact sub_refl | with_reducible exact sub_left | with_reducible exact sub_right | (with_reducible refine sub_app ?_ ?_) | (refine sub_cons (by first | k_memK | k_ownIn) ?_) | refine sub_step ?_ | exact sub_left | exact sub_right | exact sub_refl))))
  have hPA2 := hPI2.at (Has.of (l := gr2) N6 (by (repeat' (first | with_reducible exact sub_nil | with_reducible exact sub_refl | with_reducible exact sub_left | with_reducible exact sub_right | (with_reducible refine sub_app ?_ ?_) | (refine sub_cons (by first | k_memK | k_ownIn) ?_) | refine sub_step ?_ | exact sub_left | exact sub_right | exact sub_refl))))
  have hLR1 := News.isList (a := R1) N6 (by k_memK)
  have hLR2 := News.isList (a := R2) N6 (by k_memK)
  refine comp_twoA (DigG w rs1) (DigG w rs2) rfl F6 (News.isList (a := SS) N6 (by k_memK)) hR12 ?_ ?_ ?_
  · intro C9 s₃ E' hbd hC k03
    obtain ⟨m9, hn9, hm9⟩ := hbd
    exact dig_elt (by exact ⟨rfl, rfl, by show (301 + 1 : Nat) ≤ _; decide, by first | exact Nat.le_of_ble_eq_true rfl | decide⟩) Cg (F6.keeps k03) (fun p hp => ⟨k03 _ _ (N6 p hp).1, (N6 p hp).2⟩) (list_keeps hLR1 k03) (hPA1.keeps k03) rfl rfl rfl rfl hn9 hm9
  · intro C9 s₃ E' hbd hC k03
    obtain ⟨m9, hn9, hm9⟩ := hbd
    exact dig_elt (by exact ⟨rfl, rfl, by show (301 + 1 : Nat) ≤ _; decide, by first | exact Nat.le_of_ble_eq_true rfl | decide⟩) Cg (F6.keeps k03) (fun p hp => ⟨k03 _ _ (N6 p hp).1, (N6 p hp).2⟩) (list_keeps hLR2 k03) (hPA2.keeps k03) rfl rfl rfl rfl hn9 hm9
  intro DG hDG tkDG ccDG y1 y2 l1 l2 g1 g2 HD1 HD2 fd1 fd2 fD hDl F7 kD
  obtain ⟨X1, xd1, xr1, xk1, ra1, rb1, rc1, xa1, xb1, xc1, rfl, hrw1, nx1, nx2, nx3, rfl⟩ := g1
  obtain ⟨X2, xd2, xr2, xk2, ra2, rb2, rc2, xa2, xb2, xc2, rfl, hrw2, ny1, ny2, ny3, rfl⟩ := g2
  have gG := News.ne_fresh N6 (l := (DG, listOf #[.ref X1, .ref X2] ccDG) :: (dgL w X1 xd1 xr1 xk1 ra1 xa1 rb1 xb1 rc1 xc1 ++ dgL w X2 xd2 xr2 xk2 ra2 xa2 rb2 xb2 rc2 xc2)) (fun p hp => by
    rcases List.mem_cons.mp hp with rfl | hp
    · exact fD
    rcases List.mem_append.mp hp with hp | hp
    · exact (fd1 p hp).1
    · exact (fd2 p hp).1)
  have N7 := News.join (h := _) (m := _) (news := _) (l := (DG, listOf #[.ref X1, .ref X2] ccDG) :: (dgL w X1 xd1 xr1 xk1 ra1 xa1 rb1 xb1 rc1 xc1 ++ dgL w X2 xd2 xr2 xk2 ra2 xa2 rb2 xb2 rc2 xc2)) F6 (h' := hDG) (fun p hp => ⟨kD _ _ (N6 p hp).2.1 (N6 p hp).1, (N6 p hp).2⟩) (fun p hp => by
    rcases List.mem_cons.mp hp with rfl | hp
    · exact hDl
    rcases List.mem_append.mp hp with hp | hp
    · exact HD1 p hp
    · exact HD2 p hp) (fun p hp => by
    rcases List.mem_cons.mp hp with rfl | hp
    · exact fD
    rcases List.mem_append.mp hp with hp | hp
    · exact (fd1 p hp).1
    · exact (fd2 p hp).1)
  dsimp only [dgL, List.cons_append, List.nil_append] at N7
  have hb1 := (hrw1.trans (rows_bits rs1 hB1))
  have hb2 := (hrw2.trans (rows_bits rs2 hB2))
  injection hb1 with q1 hb1
  injection hb1 with q2 q3
  injection hb2 with q4 hb2
  injection hb2 with q5 q6
  subst q1 q2 q3 q4 q5 q6
  clear F6 N6 HD1 HD2 hDl kD hPA1 hPA2 hLR1 hLR2 fD
  rename_i zc1 zc2 zc3 zc4 zc5 zc6 zc7 zc8 zc9 zc10 zc11 zc12 zc13
  revert w zc1 s1 zc2 zc3 zc4 zc5 zc6 q12 q1 zc7 zc8 zc9 zc10 hL hI hcond o3 o2 o1 z1 z2 z3 Cg Tg qk zc11 zc12 zc13 ys hI8 hL8 C hB tkB oC P hD lP hE R1 us1 nn1 gr1 rs1 seat1 rest1 t11 t12 h1 tk1 hPI1 hB1 hL1 hs0 hs1 hr1 hg1 R2 us2 nn2 gr2 rs2 seat2 rest2 t21 t22 h2 tk2 hPI2 hB2 hL2 hs2 hs3 hrs2 hg2 SS hS3 hSS F3 N3 tk hR12 DU hDU tkDU ccDU T1 a0 a1 a2 T2 c0 c1 c2 hsep p1 p2 p3 hR12' hDS hgS h5 o1' z1' DG hDG tkDG ccDG F7 X1 xd1 xr1 xk1 xa1 xb1 xc1 nx1 nx2 nx3 X2 xd2 xr2 xk2 xa2 xb2 xc2 ny1 ny2 ny3 hrw1 fd1 hrw2 fd2 gG N7
  exact hcut1.out⟩
noncomputable def w7 : Cut3 w6.A := ⟨_, _, _, by
  intro hcut1 hcut2 hcut3
  intro w _ s1 _ _ _ _ _ q12 q1 _ _ _ _ hL hI hcond o3 o2 o1 z1 z2 z3 Cg Tg qk _ _ _ ys hI8 hL8 C hB tkB oC P hD lP hE R1 us1 nn1 gr1 rs1 seat1 rest1 t11 t12 h1 tk1 hPI1 hB1 hL1 hs0 hs1 hr1 hg1 R2 us2 nn2 gr2 rs2 seat2 rest2 t21 t22 h2 tk2 hPI2 hB2 hL2 hs2 hs3 hrs2 hg2 SS hS3 hSS F3 N3 tk hR12 DU hDU tkDU ccDU T1 a0 a1 a2 T2 c0 c1 c2 hsep p1 p2 p3 hR12' hDS hgS h5 o1' z1' DG hDG tkDG ccDG F7 X1 xd1 xr1 xk1 xa1 xb1 xc1 nx1 nx2 nx3 X2 xd2 xr2 xk2 xa2 xb2 xc2 ny1 ny2 ny3 hrw1 fd1 hrw2 fd2 gG N7
  k_with_none
  k_with_none
  k_with "call ref" => (refine Halt.mk ?_)
  k_with "call type:zip" => (refine Halt.mk ?_)
  k_with "exec For Tuple Call cons cons" => (refine Halt.mk ?_)
  try dsimp only
  k_steps
  refine Halt.out (letQ ?_)
  intro qkZ
  refine For_turns F7 ?_
  k_steps
  refine Halt.out ?_
  rename Fr _ _ _ _ => F8
  refine Fr.lets F8 ?_
  clear F8
  intro mmZ F8
  rename News _ _ _ _ => N8
  have N9 := News.sub (news' := [(s1.heap.objs.size + 1 + 1, o2), (s1.heap.objs.size + 1 + 1 + 1, o3), (P, penO C seat2 t21 rest2 t22 0)] ++ ((s1.heap.objs.size + 1, o1') :: (DU, listOf #[.ref T1, .ref T2] ccDU) :: (T1, tupZ [.int (bitsZ 4 rs1) a0, .int (bitsZ 0 rs1) a1, .int (bitsZ 9 rs1) a2] 0) :: (T2, tupZ [.int (bitsZ 4 rs2) c0, .int (bitsZ 0 rs2) c1, .int (bitsZ 9 rs2) c2] 0) :: (SS, listOf #[.ref R1, .ref R2] 0) :: (R2, listOf us2.toArray nn2) :: (R1, listOf us1.toArray nn1) :: (C, LCg.lst ys) :: (DG, listOf #[.ref X1, .ref X2] ccDG) :: (dgL w X1 xd1 xr1 xk1 (bitsZ 4 rs1) xa1 (bitsZ 0 rs1) xb1 (bitsZ 9 rs1) xc1 ++ dgL w X2 xd2 xr2 xk2 (bitsZ 4 rs2) xa2 (bitsZ 0 rs2) xb2 (bitsZ 9 rs2) xc2 ++ (gr1 ++ gr2)))) N8 (by (repeat' (first | with_reducible exact sub_nil | with_reducible exact sub_refl | with_reducible exact sub_left | with_reducible exact sub_right | (with_reducible refine sub_app ?_ ?_) | (refine sub_cons (by first | k_memK | k_ownIn) ?_) | refine sub_step ?_ | exact sub_left | exact sub_right | exact sub_refl)))
  clear N8
  have hlS := News.isList (a := SS) N9 (by k_memK)
  have hlU := News.isList (a := DU) N9 (by k_memK)
  have hlG := News.isList (a := DG) N9 (by k_memK)
  refine loop_zip3 (n := 2) (σ := (Obj × Obj) × (Int × Tok × Int × Tok)) (fun c => [(s1.heap.objs.size + 1 + 1, c.1.1), (s1.heap.objs.size + 1 + 1 + 1, c.1.2), (P, penO C c.2.1 c.2.2.1 c.2.2.2.1 c.2.2.2.2 0)]) [s1.heap.objs.size + 1 + 1, s1.heap.objs.size + 1 + 1 + 1, P] _ [Str.ofString "ranges", Str.ofString "digest", Str.ofString "glyphs", Str.ofString "first", Str.ofString "last", Str.ofString "single", Str.ofString "lap", Str.ofString "bits"]
    (fun i c gr => (∃ v, c.1.1.data = .cell v) ∧ (∃ v, c.1.2.data = .cell v) ∧ 0 ≤ c.2.1 ∧ c.2.1 ≤ 40 + 20 * (i : Int) ∧ 0 ≤ c.2.2.2.1 ∧ gr = []) ((o2, o3), (seat2, t21, rest2, t22)) rfl hlS hlU hlG rfl rfl rfl ⟨_, by k_memK⟩ ⟨_, by k_memK⟩ ⟨_, by k_memK⟩ F8 N9 (fun _ => rfl) ?_ ⟨⟨_, z2⟩, ⟨_, z3⟩, by omega, by show seat2 ≤ 40 + 20 * ((0 : Nat) : Int); omega, by omega, rfl⟩ ?_ ?_
  · rename_i zc1 zc2 zc3 zc4 zc5 zc6 zc7 zc8 zc9 zc10 zc11 zc12 zc13
    revert w zc1 s1 zc2 zc3 zc4 zc5 zc6 q12 q1 zc7 zc8 zc9 zc10 hL hI hcond o3 o2 o1 z1 z2 z3 Cg Tg qk zc11 zc12 zc13 ys hI8 hL8 C hB tkB oC P hD lP hE R1 us1 nn1 gr1 rs1 seat1 rest1 t11 t12 h1 tk1 hPI1 hB1 hL1 hs0 hs1 hr1 hg1 R2 us2 nn2 gr2 rs2 seat2 rest2 t21 t22 h2 tk2 hPI2 hB2 hL2 hs2 hs3 hrs2 hg2 SS hS3 hSS F3 N3 tk hR12 DU hDU tkDU ccDU T1 a0 a1 a2 T2 c0 c1 c2 hsep p1 p2 p3 hR12' hDS hgS h5 o1' z1' DG hDG tkDG ccDG X1 xd1 xr1 xk1 xa1 xb1 xc1 nx1 nx2 nx3 X2 xd2 xr2 xk2 xa2 xb2 xc2 ny1 ny2 ny3 hrw1 fd1 hrw2 fd2 gG qkZ mmZ F8 N9 hlS hlU hlG
    exact hcut1.out
  · intro i T x y z c gr u s₁ rest hi hx hy hz hT hIv hgr htl hrest F9 N10
    refine letT ?_
    intro te
    obtain ⟨⟨od, og⟩, ⟨sq, tq, rq, uq⟩⟩ := c
    obtain ⟨⟨vd, hI1⟩, ⟨vg, hI2⟩, hI3, hI4, hI5, rfl⟩ := hIv
    obtain ⟨R, us, nn, gr3, rs, T9, d0, d1', d2', X, xd, xr, xk, xa, xb, xc, rfl, rfl, rfl, mR, mT, mX, mxd, mxr, hPI, hgr3, hB, hLn, nX1, nX2, nX3⟩ : TurnIn w rest x y z := by
      have h2 : i = 0 ∨ i = 1 := by omega
      rcases h2 with rfl | rfl
      · exact ⟨R1, us1, nn1, gr1, rs1, T1, a0, a1, a2, X1, xd1, xr1, xk1, xa1, xb1, xc1, (Option.some.inj hx).symm, (Option.some.inj hy).symm, (Option.some.inj hz).symm, htl _ (by k_memK), htl _ (by k_memK), htl _ (by k_memK), htl _ (by k_memK), htl _ (by k_memK), hPI1, fun p hp => htl p ((by (repeat' (first | with_reducible exact sub_nil | with_reducible exact sub_refl | with_reducible exact sub_left | with_reducible exact sub_right | (with_reducible refine sub_app ?_ ?_) | (refine sub_cons (by first | k_memK | k_ownIn) ?_) | refine sub_step ?_ | exact sub_left | exact sub_right | exact sub_refl)) : ∀ p ∈ gr1, p ∈ _) p hp), hB1, hL1, nx1, nx2, nx3⟩
      · exact ⟨R2, us2, nn2, gr2, rs2, T2, c0, c1, c2, X2, xd2, xr2, xk2, xa2, xb2, xc2, (Option.some.inj hx).symm, (Option.some.inj hy).symm, (Option.some.inj hz).symm, htl _ (by k_memK), htl _ (by k_memK), htl _ (by k_memK), htl _ (by k_memK), htl _ (by k_memK), hPI2, fun p hp => htl p ((by (repeat' (first | with_reducible exact sub_nil | with_reducible exact sub_refl | with_reducible exact sub_left | with_reducible exact sub_right | (with_reducible refine sub_app ?_ ?_) | (refine sub_cons (by first | k_memK | k_ownIn) ?_) | refine sub_step ?_ | exact sub_left | exact sub_right | exact sub_refl)) : ∀ p ∈ gr2, p ∈ _) p hp), hB2, hL2, ny1, ny2, ny3⟩
    have hTt : s₁.heap.IsTuple T #[.ref R, .ref T9, .ref X] := ⟨_, hT, rfl, _, rfl⟩
    have mC := htl (C, LCg.lst ys) (by k_memK)
    have r2 : ∀ p ∈ rest, p.1 ≠ s1.heap.objs.size + 1 + 1 := fun p hp e => hrest p hp (by rw [e]; exact .head _)
    have r3 : ∀ p ∈ rest, p.1 ≠ s1.heap.objs.size + 1 + 1 + 1 := fun p hp e => hrest p hp (by rw [e]; exact .tail _ (.head _))
    have rP : ∀ p ∈ rest, p.1 ≠ P := fun p hp e => hrest p hp (by rw [e]; exact .tail _ (.tail _ (.head _)))
    dsimp only [List.cons_append, List.nil_append] at N10
    clear hgr hx hy hz hT N9 F8 hlS hlU hlG
    rename_i zc1 zc2 zc3 zc4 zc5 zc6 zc7 zc8 zc9 zc10 zc11 zc12 zc13 zc14
    clear zc14
    revert w zc1 s1 zc2 zc3 zc4 zc5 zc6 q12 q1 zc7 zc8 zc9 zc10 hL hI hcond o3 o2 o1 z1 z2 z3 Cg Tg qk zc11 zc12 zc13 ys hI8 hL8 C tkB oC P hD lP hE R1 us1 nn1 gr1 rs1 seat1 rest1 t11 t12 h1 tk1 hPI1 hB1 hL1 hs0 hs1 hr1 hg1 R2 us2 nn2 gr2 rs2 seat2 rest2 t21 t22 h2 tk2 hPI2 hB2 hL2 hs2 hs3 hrs2 hg2 SS hS3 hSS F3 N3 tk hR12 DU hDU tkDU ccDU T1 a0 a1 a2 T2 c0 c1 c2 hsep p1 p2 p3 hR12' hDS hgS h5 o1' z1' DG hDG tkDG ccDG X1 xd1 xr1 xk1 xa1 xb1 xc1 nx1 nx2 nx3 X2 xd2 xr2 xk2 xa2 xb2 xc2 ny1 ny2 ny3 hrw1 fd1 hrw2 fd2 gG qkZ mmZ i T u s₁ rest hi htl hrest F9 od og sq tq rq uq N10 vd hI1 vg hI2 hI3 hI4 hI5 te R us nn gr3 rs T9 d0 d1' d2' X xd xr xk xa xb xc mR mT mX mxd mxr hPI hgr3 hB hLn nX1 nX2 nX3 hTt mC r2 r3 rP
    exact hcut2.out
  · rename_i zc1 zc2 zc3 zc4 zc5 zc6 zc7 zc8 zc9 zc10 zc11 zc12 zc13
    revert w zc1 s1 zc2 zc3 zc4 zc5 zc6 q12 q1 zc7 zc8 zc9 zc10 hL hI hcond o3 o2 o1 z1 z2 z3 Cg Tg qk zc11 zc12 zc13 ys hI8 hL8 C hB tkB oC P hD lP hE R1 us1 nn1 gr1 rs1 seat1 rest1 t11 t12 h1 tk1 hPI1 hB1 hL1 hs0 hs1 hr1 hg1 R2 us2 nn2 gr2 rs2 seat2 rest2 t21 t22 h2 tk2 hPI2 hB2 hL2 hs2 hs3 hrs2 hg2 SS hS3 hSS F3 N3 tk hR12 DU hDU tkDU ccDU T1 a0 a1 a2 T2 c0 c1 c2 hsep p1 p2 p3 hR12' hDS hgS h5 o1' z1' DG hDG tkDG ccDG X1 xd1 xr1 xk1 xa1 xb1 xc1 nx1 nx2 nx3 X2 xd2 xr2 xk2 xa2 xb2 xc2 ny1 ny2 ny3 hrw1 fd1 hrw2 fd2 gG qkZ mmZ F8 N9 hlS hlU hlG
    exact hcut3.out⟩
theorem vdis : w7.A := by
  intro w _ s1 _ _ _ _ _ q12 q1 _ _ _ _ hL hI hcond o3 o2 o1 z1 z2 z3 Cg Tg qk _ _ _ ys hI8 hL8 C hB tkB oC P hD lP hE R1 us1 nn1 gr1 rs1 seat1 rest1 t11 t12 h1 tk1 hPI1 hB1 hL1 hs0 hs1 hr1 hg1 R2 us2 nn2 gr2 rs2 seat2 rest2 t21 t22 h2 tk2 hPI2 hB2 hL2 hs2 hs3 hrs2 hg2 SS hS3 hSS F3 N3 tk hR12 DU hDU tkDU ccDU T1 a0 a1 a2 T2 c0 c1 c2 hsep p1 p2 p3 hR12' hDS hgS h5 o1' z1' DG hDG tkDG ccDG X1 xd1 xr1 xk1 xa1 xb1 xc1 nx1 nx2 nx3 X2 xd2 xr2 xk2 xa2 xb2 xc2 ny1 ny2 ny3 hrw1 fd1 hrw2 fd2 gG qkZ mmZ F8 N9 hlS hlU hlG
  k_with_none
  refine nin3_all ?_ ?_ ?_
  · have hs := hsep (s1.heap.objs.size + 1 + 1) (.inr (.inl rfl))
    have hg : ∀ p ∈ (DG, listOf #[.ref X1, .ref X2] ccDG) :: (dgL w X1 xd1 xr1 xk1 (bitsZ 4 rs1) xa1 (bitsZ 0 rs1) xb1 (bitsZ 9 rs1) xc1 ++ dgL w X2 xd2 xr2 xk2 (bitsZ 4 rs2) xa2 (bitsZ 0 rs2) xb2 (bitsZ 9 rs2) xc2), p.1 ≠ (s1.heap.objs.size + 1 + 1) := fun p hp => gG p hp _ (.tail _ (.head _))
    exact all_cons (Nat.succ_ne_self _).symm (all_cons (hs _ (.head _)) (all_cons (hs _ (.tail _ (.head _))) (all_cons (hs _ (.tail _ (.tail _ (.head _)))) (all_cons (hs _ (.tail _ (.tail _ (.tail _ (.head _))))) (all_cons (hs _ (.tail _ (.tail _ (.tail _ (.tail _ (.head _)))))) (all_cons (hs _ (.tail _ (.tail _ (.tail _ (.tail _ (.tail _ (.head _))))))) (all_cons (hs _ (.tail _ (.tail _ (.tail _ (.tail _ (.tail _ (.tail _ (.head _)))))))) (all_cons (hg _ (.head _)) (all_app (fun p hp => hg p (.tail _ hp)) fun p hp => hs p (.tail _ (.tail _ (.tail _ (.tail _ (.tail _ (.tail _ (.tail _ (hp)))))))))))))))))
  · have hs := hsep (s1.heap.objs.size + 1 + 1 + 1) (.inr (.inr (.inl rfl)))
    have hg : ∀ p ∈ (DG, listOf #[.ref X1, .ref X2] ccDG) :: (dgL w X1 xd1 xr1 xk1 (bitsZ 4 rs1) xa1 (bitsZ 0 rs1) xb1 (bitsZ 9 rs1) xc1 ++ dgL w X2 xd2 xr2 xk2 (bitsZ 4 rs2) xa2 (bitsZ 0 rs2) xb2 (bitsZ 9 rs2) xc2), p.1 ≠ (s1.heap.objs.size + 1 + 1 + 1) := fun p hp => gG p hp _ (.tail _ (.tail _ (.head _)))
    exact all_cons (Nat.ne_of_lt (Nat.lt_succ_of_lt (Nat.lt_succ_self _))) (all_cons (hs _ (.head _)) (all_cons (hs _ (.tail _ (.head _))) (all_cons (hs _ (.tail _ (.tail _ (.head _)))) (all_cons (hs _ (.tail _ (.tail _ (.tail _ (.head _))))) (all_cons (hs _ (.tail _ (.tail _ (.tail _ (.tail _ (.head _)))))) (all_cons (hs _ (.tail _ (.tail _ (.tail _ (.tail _ (.tail _ (.head _))))))) (all_cons (hs _ (.tail _ (.tail _ (.tail _ (.tail _ (.tail _ (.tail _ (.head _)))))))) (all_cons (hg _ (.head _)) (all_app (fun p hp => hg p (.tail _ hp)) fun p hp => hs p (.tail _ (.tail _ (.tail _ (.tail _ (.tail _ (.tail _ (.tail _ (hp)))))))))))))))))
  · have hs := hsep P (.inr (.inr (.inr rfl)))
    have hg : ∀ p ∈ (DG, listOf #[.ref X1, .ref X2] ccDG) :: (dgL w X1 xd1 xr1 xk1 (bitsZ 4 rs1) xa1 (bitsZ 0 rs1) xb1 (bitsZ 9 rs1) xc1 ++ dgL w X2 xd2 xr2 xk2 (bitsZ 4 rs2) xa2 (bitsZ 0 rs2) xb2 (bitsZ 9 rs2) xc2), p.1 ≠ P := fun p hp => gG p hp _ (.tail _ (.tail _ (.tail _ (.head _))))
    exact all_cons p1.symm (all_cons (hs _ (.head _)) (all_cons (hs _ (.tail _ (.head _))) (all_cons (hs _ (.tail _ (.tail _ (.head _)))) (all_cons (hs _ (.tail _ (.tail _ (.tail _ (.head _))))) (all_cons (hs _ (.tail _ (.tail _ (.tail _ (.tail _ (.head _)))))) (all_cons (hs _ (.tail _ (.tail _ (.tail _ (.tail _ (.tail _ (.head _))))))) (all_cons (hs _ (.tail _ (.tail _ (.tail _ (.tail _ (.tail _ (.tail _ (.head _)))))))) (all_cons (hg _ (.head _)) (all_app (fun p hp => hg p (.tail _ hp)) fun p hp => hs p (.tail _ (.tail _ (.tail _ (.tail _ (.tail _ (.tail _ (.tail _ (hp)))))))))))))))))
noncomputable def va : Cut1 w7.B := ⟨_, by
  intro hcut1
  intro w _ s1 _ _ _ _ _ q12 q1 _ _ _ _ hL hI hcond o3 o2 o1 z1 z2 z3 Cg Tg qk _ _ _ ys hI8 hL8 C tkB oC P hD lP hE R1 us1 nn1 gr1 rs1 seat1 rest1 t11 t12 h1 tk1 hPI1 hB1 hL1 hs0 hs1 hr1 hg1 R2 us2 nn2 gr2 rs2 seat2 rest2 t21 t22 h2 tk2 hPI2 hB2 hL2 hs2 hs3 hrs2 hg2 SS hS3 hSS F3 N3 tk hR12 DU hDU tkDU ccDU T1 a0 a1 a2 T2 c0 c1 c2 hsep p1 p2 p3 hR12' hDS hgS h5 o1' z1' DG hDG tkDG ccDG X1 xd1 xr1 xk1 xa1 xb1 xc1 nx1 nx2 nx3 X2 xd2 xr2 xk2 xa2 xb2 xc2 ny1 ny2 ny3 hrw1 fd1 hrw2 fd2 gG qkZ mmZ i T u s₁ rest hi htl hrest F9 od og sq tq rq uq N10 vd hI1 vg hI2 hI3 hI4 hI5 te R us nn gr3 rs T9 d0 d1' d2' X xd xr xk xa xb xc mR mT mX mxd mxr hPI hgr3 hB hLn nX1 nX2 nX3 hTt mC r2 r3 rP
  k_with_none
  k_with_none
  k_with "subscriptTail Name Slice ref ref" => (refine Halt.mk ?_)
  k_with "call ref" => (refine Halt.mk ?_)
  k_with "call ref" => (k_dflt (refine' told_call ?lo ?c ?F ?N ?h1 ?h2 ?h3 ?_; (case lo => exact (by exact ⟨rfl, rfl, by show (301 + 1 : Nat) ≤ _; decide, by first | exact Nat.le_of_ble_eq_true rfl | decide⟩)); (case c => assumption); (case F => k_asm); (case N => k_asm); (case h1 => k_mem); (case h2 => k_mem); (case h3 => k_mem); k_whole; intro TA hA tkA F' N' apA; (try k_sweep)))
  have hr2 : ∀ p ∈ (s1.heap.objs.size + 1 + 1 + 1, og) :: (P, penO C sq tq rq uq 0) :: rest, p.1 ≠ s1.heap.objs.size + 1 + 1 := all_cons (Nat.succ_ne_self _) (all_cons p2 r2)
  k_with "storeName ref" => (refine store_cell (c := s1.heap.objs.size + 1 + 1) rfl rfl rfl (by k_asm) (by k_asm) hI1 hr2 ?_; intro h9 od9 hz9 F' N'; (try k_sweep))
  try dsimp only
  k_steps
  refine Halt.out ?_
  rename Fr _ _ _ _ => F1
  rename News _ _ _ _ => N1
  have hlnn := hPI.length
  k_dflt (refine' slice_led F1 N1 (l := R) (vs := us) (ws := us.reverse) ?hm .none .none (.int (-1) _) (by decide) (pick_rev us) (by omega) ?_; (case hm => k_mem); k_whole; intro SR h2 F2 N2 apS; (try k_sweep))
  k_with_none
  k_with "call ref" => (refine Halt.mk ?_)
  k_with "call ref" => (k_dflt (refine' told_call ?lo ?c ?F ?N ?h1 ?h2 ?h3 ?_; (case lo => exact (by exact ⟨rfl, rfl, by show (301 + 1 : Nat) ≤ _; decide, by first | exact Nat.le_of_ble_eq_true rfl | decide⟩)); (case c => assumption); (case F => k_asm); (case N => k_asm); (case h1 => k_mem); (case h2 => k_mem); (case h3 => k_mem); k_whole; intro TA hA tkA F' N' apA; (try k_sweep)))
  k_steps
  refine Halt.out ?_
  rename News _ _ _ _ => N3
  rename Fr _ _ _ _ => F3
  have hPAr := (hPI.at (Has.of (l := gr3) N3 (fun p hp => (by (repeat' (first | with_reducible exact sub_nil | with_reducible exact sub_refl | with_reducible exact sub_left | with_reducible exact sub_right | (with_reducible refine sub_app ?_ ?_) | (refine sub_cons (by first | k_memK | k_ownIn) ?_) | refine sub_step ?_ | exact sub_left | exact sub_right | exact sub_refl)) : ∀ p ∈ rest, p ∈ _) p (hgr3 p hp)))).rev
  k_dflt (refine' law_digest_call (vs := us.reverse) (rs := rs.reverse) (by exact ⟨rfl, rfl, by show (301 + 1 : Nat) ≤ _; decide, by first | exact Nat.le_of_ble_eq_true rfl | decide⟩) Cg F3 N3 (News.isList N3 (by k_memK)) hPAr ?_; k_whole)
  intro D1 dx1 rl1 tkd ra rb rc t0 t1 t2 h3 tk3 hrr F4 N4 f1 f2 f3 n1 n2 n3 S4
  obtain ⟨qa, qb, qc⟩ : ra = bitsZ 4 rs ∧ rb = bitsZ 0 rs ∧ rc = bitsZ 9 rs := by
    have e := hrr.trans ((rows_rev rs hB).trans (rows_bits rs hB))
    injection e with e1 e; injection e with e2 e3
    exact ⟨e1, e2, e3⟩
  subst qa qb qc
  dsimp only [dgL, List.cons_append, List.nil_append] at N4
  clear S4 hrr hPAr F3 N3 f1 f2 f3
  try dsimp only
  k_with_none
  k_with "pyIter ref" => (refine Halt.mk ?_)
  k_with "exec For Tuple Subscript cons nil" => (refine Halt.mk ?_)
  k_with "call ref" => (refine Halt.mk ?_)
  k_with "call ref" => (k_dflt (refine' told_call ?lo ?c ?F ?N ?h1 ?h2 ?h3 ?_; (case lo => exact (by exact ⟨rfl, rfl, by show (301 + 1 : Nat) ≤ _; decide, by first | exact Nat.le_of_ble_eq_true rfl | decide⟩)); (case c => assumption); (case F => k_asm); (case N => k_asm); (case h1 => k_mem); (case h2 => k_mem); (case h3 => k_mem); k_whole; intro TA hA tkA F' N' apA; (try k_sweep)))
  k_steps
  rename_i GL hG4 lGL h4 F5 N5
  rename_i zc1 zc2 zc3 zc4 zc5 zc6 zc7 zc8 zc9 zc10 zc11 zc12 zc13 zc14 zc15 zc16 zc17 zc18 zc19 zc20 zc21 zc22 zc23 zc24 zc25
  clear zc25 zc24 zc23 zc21 zc20 zc19 zc15 zc14
  revert w zc1 s1 zc2 zc3 zc4 zc5 zc6 q12 q1 zc7 zc8 zc9 zc10 hL hI hcond o3 o2 o1 z1 z2 z3 Cg Tg qk zc11 zc12 zc13 ys hI8 hL8 C tkB oC P hD lP hE R1 us1 nn1 gr1 rs1 seat1 rest1 t11 t12 h1 tk1 hPI1 hB1 hL1 hs0 hs1 hr1 hg1 R2 us2 nn2 gr2 rs2 seat2 rest2 t21 t22 tk2 hPI2 hB2 hL2 hs2 hs3 hrs2 hg2 SS hS3 hSS hR12 DU hDU tkDU ccDU T1 a0 a1 a2 T2 c0 c1 c2 hsep p1 p2 p3 hR12' hDS hgS h5 o1' z1' DG hDG tkDG ccDG X1 xd1 xr1 xk1 xa1 xb1 xc1 nx1 nx2 nx3 X2 xd2 xr2 xk2 xa2 xb2 xc2 ny1 ny2 ny3 hrw1 fd1 hrw2 fd2 gG qkZ mmZ i T u s₁ rest hi htl hrest F9 od og sq tq rq uq N10 vd hI1 vg hI2 hI3 hI4 hI5 te R us nn gr3 rs T9 d0 d1' d2' X xd xr xk xa xb xc mR mT mX mxd mxr hPI hgr3 hB hLn nX1 nX2 nX3 hTt mC r2 r3 rP hr2 zc16 zc17 zc18 h9 od9 hz9 zc22 hlnn SR h2 apS D1 dx1 rl1 tkd t0 t1 t2 h3 tk3 n1 n2 n3 TA hA tkA apA GL hG4 lGL h4 F5 N5 tk
  exact hcut1.out⟩
noncomputable def vb : Cut1 va.A := ⟨_, by
  intro hcut1
  intro w _ s1 _ _ _ _ _ q12 q1 _ _ _ _ hL hI hcond o3 o2 o1 z1 z2 z3 Cg Tg qk _ _ _ ys hI8 hL8 C tkB oC P hD lP hE R1 us1 nn1 gr1 rs1 seat1 rest1 t11 t12 h1 tk1 hPI1 hB1 hL1 hs0 hs1 hr1 hg1 R2 us2 nn2 gr2 rs2 seat2 rest2 t21 t22 tk2 hPI2 hB2 hL2 hs2 hs3 hrs2 hg2 SS hS3 hSS hR12 DU hDU tkDU ccDU T1 a0 a1 a2 T2 c0 c1 c2 hsep p1 p2 p3 hR12' hDS hgS h5 o1' z1' DG hDG tkDG ccDG X1 xd1 xr1 xk1 xa1 xb1 xc1 nx1 nx2 nx3 X2 xd2 xr2 xk2 xa2 xb2 xc2 ny1 ny2 ny3 hrw1 fd1 hrw2 fd2 gG qkZ mmZ i T u s₁ rest hi htl hrest F9 od og sq tq rq uq N10 vd hI1 vg hI2 hI3 hI4 hI5 te R us nn gr3 rs T9 d0 d1' d2' X xd xr xk xa xb xc mR mT mX mxd mxr hPI hgr3 hB hLn nX1 nX2 nX3 hTt mC r2 r3 rP hr2 _ _ _ h9 od9 hz9 _ hlnn SR h2 apS D1 dx1 rl1 tkd t0 t1 t2 h3 tk3 n1 n2 n3 TA hA tkA apA GL hG4 lGL h4 F5 N5 tk
  k_with_none
  refine Halt.out (letQ ?_)
  intro qk4
  refine For_invT s1.heap ?_ (fun _ => rfl)
  obtain ⟨N6, aG⟩ := News.pruneLt N5 lGL (fun p hp => .tail _ (.tail _ (.tail _ (.tail _ (.tail _ (.tail _ hp))))))
  clear N5 lGL apA apS hr2
  k_with_none
  k_with "subscriptTail Name Slice ref ref" => (refine Halt.mk ?_)
  k_with "pyIter ref" => (refine Halt.mk ?_)
  k_with "call builtin:list.extend" => (refine Halt.mk ?_)
  k_with "exec For Name Name cons nil" => (refine Halt.mk ?_)
  k_steps
  refine Halt.out ?_
  rename Fr _ _ _ _ => F7
  rename News _ _ _ _ => N7
  k_dflt (refine' slice_led F7 N7 (l := R) (vs := us) (ws := us.take 2) ?hm .none (.int 2 _) .none (by decide) (pick_two us 2) (by omega) ?_; (case hm => k_mem); k_whole; intro SR h2 F2 N2 apS)
  clear F7 N7
  k_steps
  refine Halt.out ?_
  refine Fr.lets F2 ?_
  clear F2
  intro mm6 F2
  have N3 := News.swap N2
  refine loop_list (σ := List Value × List Int × Nat) (vs := us.take 2) (fun c => [(GL, listOf c.1.toArray c.2.2)]) [GL] _ [Str.ofString "first", Str.ofString "last"] (fun i c gr => IntsAre c.1 c.2.1 ∧ c.2.1 = listed ((rs.take 2).take i) ∧ gr = []) ([], [], 0) rfl (News.isList N2 (.head _)) (.inr ⟨_, .head _⟩) F2 N3 (fun _ => rfl) ?hdis ⟨.nil, by simp [listed], rfl⟩ ?_ ?_
  case hdis =>
    intro p hp hm
    have hm := List.mem_singleton.mp hm
    rcases List.mem_cons.mp hp with rfl | hp
    · exact (apS.all _ (.head _)) hm.symm
    · exact aG p hp hm
  · intro i6 v cc gr u6 s6 rest6 hv hIv hgr htl6 hrest6 F' N'
    refine letT ?_
    intro te
    obtain ⟨vs6, ns6, c6⟩ := cc
    obtain ⟨hJ1, hJ2, rfl⟩ := hIv
    obtain ⟨r, hr, p, u1, u2, rfl, ht⟩ := ((hPI.at (Has.of (l := gr3) N' (fun p hp => List.mem_append_right _ (htl6 p ((by (repeat' (first | with_reducible exact sub_nil | with_reducible exact sub_refl | with_reducible exact sub_left | with_reducible exact sub_right | (with_reducible refine sub_app ?_ ?_) | (refine sub_cons (by first | k_memK | k_ownIn) ?_) | refine sub_step ?_ | exact sub_left | exact sub_right | exact sub_refl)) : ∀ p ∈ rest, p ∈ _) p (hgr3 p hp)))))).take 2).2 i6 v hv
    dsimp only [List.cons_append, List.nil_append] at N'
    dsimp only at hJ1 hJ2
    have hbr := take_bnd hB 2 r (List.mem_of_getElem? hr)
    obtain ⟨b1, b2, b3, b4⟩ := hbr
    have hn6 : ∀ p ∈ rest6, p.1 ≠ GL := fun p hp e => hrest6 p hp (e ▸ .head _)
    have hlv := glyph_len hB i6
    rw [← hJ2] at hlv
    clear F2 N2 N3 apS aG htl6 hrest6 hgr
    try dsimp only
    k_steps
    refine Halt.out ?_
    rename IsRange _ _ _ _ _ _ _ _ => rgX
    rename Fr _ _ _ _ => F8
    rename News _ _ _ _ => N8
    have hIL := hJ1.length
    refine extend_led (n := (r.2 + 1 - r.1).toNat) rfl F8 N8 (.head _) rgX (small_of b1 (by omega) (by omega) (by omega)) (rangeSize_nat _ _) (by omega) hJ1 ?_
    intro h' tk' ys' c' hys F9 nn'
    have N9 := nn' _ (.head hn6)
    clear nn'
    k_steps
    refine TurnEndG.intro (ys', _, c') [] F9 N9 (fun _ h => nomatch h) (fun _ h => nomatch h) (fun z hz => by (repeat (first | with_reducible exact rfl | refine ov_if rfl hz ?_ | refine ov_sub rfl hz ?_))) ⟨hys, by rw [hJ2]; exact (listed_take hr).symm, rfl⟩
  · rintro ⟨vs6, ns6, c6⟩ gr u6 h6 tk6 ⟨hJ1, hJ2, rfl⟩ hga F' N'
    rename_i zc1 zc2 zc3 zc4 zc5 zc6 zc7 zc8 zc9 zc10 zc11 zc12 zc13 zc14 zc15 zc16 zc17 zc18 zc19
    clear zc19 zc18 zc17
    revert w zc1 s1 zc2 zc3 zc4 zc5 zc6 q12 q1 zc7 zc8 zc9 zc10 hL hI hcond o3 o2 o1 z1 z2 z3 Cg Tg qk zc11 zc12 zc13 ys hI8 hL8 C tkB oC P hD lP hE R1 us1 nn1 gr1 rs1 seat1 rest1 t11 t12 h1 tk1 hPI1 hB1 hL1 hs0 hs1 hr1 hg1 R2 us2 nn2 gr2 rs2 seat2 rest2 t21 t22 tk2 hPI2 hB2 hL2 hs2 hs3 hrs2 hg2 SS hS3 hSS hR12 DU hDU tkDU ccDU T1 a0 a1 a2 T2 c0 c1 c2 hsep p1 p2 p3 hR12' hDS hgS h5 o1' z1' DG hDG tkDG ccDG X1 xd1 xr1 xk1 xa1 xb1 xc1 nx1 nx2 nx3 X2 xd2 xr2 xk2 xa2 xb2 xc2 ny1 ny2 ny3 hrw1 fd1 hrw2 fd2 gG qkZ mmZ i T u s₁ rest hi htl hrest F9 od og sq tq rq uq N10 vd hI1 vg hI2 hI3 hI4 hI5 te R us nn gr3 rs T9 d0 d1' d2' X xd xr xk xa xb xc mR mT mX mxd mxr hPI hgr3 hB hLn nX1 nX2 nX3 hTt mC r2 r3 rP zc14 zc15 zc16 h9 od9 hz9 hlnn D1 dx1 rl1 tkd t0 t1 t2 h3 tk3 n1 n2 n3 TA hA tkA GL hG4 h4 tk qk4 aG SR h2 N2 apS mm6 F2 N3 vs6 ns6 c6 u6 h6 tk6 hJ1 hJ2 hga F' N'
    exact hcut1.out⟩
noncomputable def vc : Cut1 vb.A := ⟨_, by
  intro hcut1
  intro w _ s1 _ _ _ _ _ q12 q1 _ _ _ _ hL hI hcond o3 o2 o1 z1 z2 z3 Cg Tg qk _ _ _ ys hI8 hL8 C tkB oC P hD lP hE R1 us1 nn1 gr1 rs1 seat1 rest1 t11 t12 h1 tk1 hPI1 hB1 hL1 hs0 hs1 hr1 hg1 R2 us2 nn2 gr2 rs2 seat2 rest2 t21 t22 tk2 hPI2 hB2 hL2 hs2 hs3 hrs2 hg2 SS hS3 hSS hR12 DU hDU tkDU ccDU T1 a0 a1 a2 T2 c0 c1 c2 hsep p1 p2 p3 hR12' hDS hgS h5 o1' z1' DG hDG tkDG ccDG X1 xd1 xr1 xk1 xa1 xb1 xc1 nx1 nx2 nx3 X2 xd2 xr2 xk2 xa2 xb2 xc2 ny1 ny2 ny3 hrw1 fd1 hrw2 fd2 gG qkZ mmZ i T u s₁ rest hi htl hrest F9 od og sq tq rq uq N10 vd hI1 vg hI2 hI3 hI4 hI5 te R us nn gr3 rs T9 d0 d1' d2' X xd xr xk xa xb xc mR mT mX mxd mxr hPI hgr3 hB hLn nX1 nX2 nX3 hTt mC r2 r3 rP _ _ _ h9 od9 hz9 hlnn D1 dx1 rl1 tkd t0 t1 t2 h3 tk3 n1 n2 n3 TA hA tkA GL hG4 h4 tk qk4 aG SR h2 N2 apS mm6 F2 N3 vs6 ns6 c6 u6 h6 tk6 hJ1 hJ2 hga F' N'
  k_with_none
  have hns : ns6 = listed (rs.take 2) := hJ2.trans (by
    rw [List.take_of_length_le]
    have := hPI.length
    rw [List.length_take, List.length_take]; omega)
  have hg130 : ns6.length ≤ 130 := by
    have h1 := listed_len (take_bnd hB 2)
    rw [← hns, List.length_take] at h1
    omega
  dsimp only at hJ1
  clear hJ2
  dsimp only [List.nil_append, List.cons_append] at N'
  rename Fr _ _ _ _ => F1
  rename News _ _ _ _ => N1
  clear N3 N2 F2 apS hga
  obtain ⟨N4, aG4⟩ := News.prune2 N1 aG
  clear N1 aG
  k_with_none
  k_with "exec For Name Name cons nil" => (refine Halt.mk ?_)
  k_with "call ref" => (k_dflt (refine' digest_new ?lo ?c ?F ?N ?_; (case lo => exact (by exact ⟨rfl, rfl, by show (301 + 1 : Nat) ≤ _; decide, by first | exact Nat.le_of_ble_eq_true rfl | decide⟩)); (case c => assumption); (case F => k_asm); (case N => k_asm); k_whole; intro D dx rl tkd t0 t1 t2 hD tkD FD ND aD1 aD2 aD3; (try k_sweep)))
  try dsimp only
  k_steps
  refine Halt.out (letQ ?_)
  intro qk7
  refine For_invT s1.heap ?_ (fun _ => rfl)
  clear FD ND
  k_with_none
  k_with "pyIter ref" => (refine Halt.mk ?_)
  k_steps
  refine Halt.out ?_
  rename Fr _ _ _ _ => F2
  refine Fr.lets F2 ?_
  clear F2
  intro mm7 F2
  rename News _ _ _ _ => N2
  have N3 := News.front5 N2
  have q3 := aD3.all (s1.heap.objs.size + 1 + 1 + 1, og) (.tail _ (.tail _ (.tail _ (.tail _ (.head _)))))
  have q4 := aD2.all (s1.heap.objs.size + 1 + 1 + 1, og) (.tail _ (.tail _ (.tail _ (.head _))))
  have q5 := aD1.all (s1.heap.objs.size + 1 + 1 + 1, og) (.tail _ (.tail _ (.head _)))
  have q6 := aD3.all _ (.head _)
  have q7 := aD3.all _ (.tail _ (.head _))
  have q8 := aD2.all _ (.head _)
  have q9 := aG4 _ (.tail _ (.head _))
  dsimp only at q3 q4 q5 q6 q7 q8 q9
  have hdis := dis4 (x3 := s1.heap.objs.size + 1 + 1 + 1) aD1 aD2 aD3 (all_cons q9.symm (all_cons (Nat.succ_ne_self _).symm (all_cons p3 r3)))
  refine loop_list (σ := Obj × (Tok × Tok × Tok) × (Int × Int × Int)) (vs := vs6) (fun c => [(s1.heap.objs.size + 1 + 1 + 1, c.1), (rl, dgRows c.2.2.1 c.2.1.1 c.2.2.2.1 c.2.1.2.1 c.2.2.2.2 c.2.1.2.2), (D, instObj 137 dx), (dx, dgDict w rl tkd)]) [s1.heap.objs.size + 1 + 1 + 1, rl, D, dx] _ [] (fun i c gr => (∃ v, c.1.data = .cell v) ∧ c.2.2 = rowsFold ((single ns6).take i) ∧ gr = []) (og, (t0, t1, t2), (0, 0, 0)) rfl (News.isList N2 (.tail _ (.tail _ (.tail _ (.head _))))) (.inr ⟨_, .head _⟩) F2 N3 (fun _ => rfl) hdis ⟨⟨_, hI2⟩, rfl, rfl⟩ ?_ ?_
  · intro i7 v cc gr u7 s7 rest7 hv hIv hgr htl7 hrest7 F' N'
    refine letT ?_
    intro te
    obtain ⟨og7, ⟨e0, e1, e2⟩, ⟨a, b, c⟩⟩ := cc
    obtain ⟨⟨v7, hK1⟩, hK2, rfl⟩ := hIv
    have hil : i7 < ns6.length := by rw [← hJ1.length]; exact (List.getElem?_eq_some_iff.mp hv).1
    obtain ⟨t, hx⟩ := hJ1.get i7 (ns6[i7]'hil) (List.getElem?_eq_getElem hil)
    rw [hx] at hv; cases hv
    have hng : (single ns6)[i7]? = some (ns6[i7]'hil, ns6[i7]'hil) := by simp [single, hil]
    revert hng; generalize ns6[i7]'hil = g; intro hng
    dsimp only [List.cons_append, List.nil_append] at N'
    dsimp only at hK1 hK2
    have hr3 : ∀ o, ∀ p ∈ (rl, o) :: (D, instObj 137 dx) :: (dx, dgDict w rl tkd) :: rest7, p.1 ≠ s1.heap.objs.size + 1 + 1 + 1 := fun o => all_cons q3.symm (all_cons q4.symm (all_cons q5.symm fun p hp e => hrest7 p hp (e ▸ .head _)))
    have hrl : ∀ p ∈ (D, instObj 137 dx) :: (dx, dgDict w rl tkd) :: rest7, p.1 ≠ rl := all_cons q6 (all_cons q7 fun p hp e => hrest7 p hp (e ▸ .tail _ (.head _)))
    clear F2 N2 N3 hdis htl7 hrest7 hgr aG4 aD1 aD2 aD3
    try dsimp only
    k_with_none
    k_with "call ref" => (k_dflt (refine' add_call ?lo ?c ?F ?N ?h1 ?h2 ?h3 ?_; (case lo => exact (by exact ⟨rfl, rfl, by show (301 + 1 : Nat) ≤ _; decide, by first | exact Nat.le_of_ble_eq_true rfl | decide⟩)); (case c => assumption); (case F => k_asm); (case N => k_asm); (case h1 => k_mem); (case h2 => k_mem); (case h3 => k_mem); k_whole; intro t0' t1' t2' h' tk' F' nn'; (have N' := nn' _ (.tail q3 (.head hrl))); clear nn'; (try k_sweep)))
    k_with "storeName int" => (refine store_cell (c := s1.heap.objs.size + 1 + 1 + 1) rfl rfl rfl (by k_asm) (by k_asm) hK1 (hr3 _) ?_; intro h9 og9 hz9' F' N'; (try k_sweep))
    k_steps
    rename Fr _ _ _ _ => F9
    rename News _ _ _ _ => N9
    refine TurnEndG.intro (og9, (t0', t1', t2'), (_, _, _)) [] F9 N9 (fun _ h => nomatch h) (fun _ h => nomatch h) (fun z _ => by simp [over]) ⟨⟨_, hz9'⟩, rowsFold_take' hng hK2, rfl⟩
  · rintro ⟨og7, ⟨e0, e1, e2⟩, ⟨a, b, c⟩⟩ gr u7 h7 tk7 ⟨⟨v7, hK1⟩, hK2, rfl⟩ hga F' N'
    rename_i zc1 zc2 zc3 zc4 zc5 zc6 zc7 zc8 zc9 zc10 zc11 zc12 zc13 zc14 zc15 zc16 zc17 zc18 zc19 zc20
    clear zc19 zc18 zc17 zc16 zc15 zc14
    revert w zc1 s1 zc2 zc3 zc4 zc5 zc6 q12 q1 zc7 zc8 zc9 zc10 hL hI hcond o3 o2 o1 z1 z2 z3 Cg Tg qk zc11 zc12 zc13 ys hI8 hL8 C tkB oC P lP hE R1 us1 nn1 gr1 rs1 seat1 rest1 t11 t12 h1 tk1 hPI1 hB1 hL1 hs0 hs1 hr1 hg1 R2 us2 nn2 gr2 rs2 seat2 rest2 t21 t22 tk2 hPI2 hB2 hL2 hs2 hs3 hrs2 hg2 SS hS3 hSS hR12 DU hDU tkDU ccDU T1 a0 a1 a2 T2 c0 c1 c2 hsep p1 p2 p3 hR12' hDS hgS h5 o1' z1' DG hDG tkDG ccDG X1 xd1 xr1 xk1 xa1 xb1 xc1 nx1 nx2 nx3 X2 xd2 xr2 xk2 xa2 xb2 xc2 ny1 ny2 ny3 hrw1 fd1 hrw2 fd2 gG qkZ mmZ i T u s₁ rest hi htl hrest od og sq tq rq uq vd hI1 vg hI2 hI3 hI4 hI5 te R us nn gr3 rs T9 d0 d1' d2' X xd xr xk xa xb xc mR mT mX mxd mxr hPI hgr3 hB hLn nX1 nX2 nX3 hTt mC r2 r3 rP h9 od9 hz9 hlnn D1 dx1 rl1 h3 tk3 n1 n2 n3 TA hA tkA GL hG4 h4 tk qk4 SR h2 mm6 vs6 ns6 c6 u6 h6 tk6 hJ1 hns hg130 aG4 D dx rl tkd t0 t1 t2 hD tkD aD1 aD2 aD3 zc20 N2 qk7 mm7 F2 N3 q3 q4 q5 q6 q7 q8 q9 hdis og7 e0 e1 e2 a b c u7 h7 tk7 v7 hK1 hK2 hga F' N'
    exact hcut1.out⟩
noncomputable def vd : Cut1 vc.A := ⟨_, by
  intro hcut1
  intro w _ s1 _ _ _ _ _ q12 q1 _ _ _ _ hL hI hcond o3 o2 o1 z1 z2 z3 Cg Tg qk _ _ _ ys hI8 hL8 C tkB oC P lP hE R1 us1 nn1 gr1 rs1 seat1 rest1 t11 t12 h1 tk1 hPI1 hB1 hL1 hs0 hs1 hr1 hg1 R2 us2 nn2 gr2 rs2 seat2 rest2 t21 t22 tk2 hPI2 hB2 hL2 hs2 hs3 hrs2 hg2 SS hS3 hSS hR12 DU hDU tkDU ccDU T1 a0 a1 a2 T2 c0 c1 c2 hsep p1 p2 p3 hR12' hDS hgS h5 o1' z1' DG hDG tkDG ccDG X1 xd1 xr1 xk1 xa1 xb1 xc1 nx1 nx2 nx3 X2 xd2 xr2 xk2 xa2 xb2 xc2 ny1 ny2 ny3 hrw1 fd1 hrw2 fd2 gG qkZ mmZ i T u s₁ rest hi htl hrest od og sq tq rq uq vd hI1 vg hI2 hI3 hI4 hI5 te R us nn gr3 rs T9 d0 d1' d2' X xd xr xk xa xb xc mR mT mX mxd mxr hPI hgr3 hB hLn nX1 nX2 nX3 hTt mC r2 r3 rP h9 od9 hz9 hlnn D1 dx1 rl1 h3 tk3 n1 n2 n3 TA hA tkA GL hG4 h4 tk qk4 SR h2 mm6 vs6 ns6 c6 u6 h6 tk6 hJ1 hns hg130 aG4 D dx rl tkd t0 t1 t2 hD tkD aD1 aD2 aD3 _ N2 qk7 mm7 F2 N3 q3 q4 q5 q6 q7 q8 q9 hdis og7 e0 e1 e2 a b c u7 h7 tk7 v7 hK1 hK2 hga F' N'
  k_with_none
  dsimp only [List.cons_append, List.nil_append] at N'
  dsimp only at hK1 hK2
  have hrs1 : (a, b, c) = rowsFold (single ns6) := hK2.trans (by
    rw [List.take_of_length_le]
    have := hJ1.length
    simp only [single, List.length_map]; omega)
  have hrw : (a, b, c) = rowsFold (rs.take 2) := hrs1.trans (by rw [hns]; exact rows_single (take_bnd hB 2))
  clear F2 N2 N3 hdis hga aG4 aD1 aD2 aD3 hK2
  k_with_none
  k_with "subscriptTail Name Slice ref ref" => (refine Halt.mk ?_)
  k_with "exec For Tuple Name cons nil" => (refine Halt.mk ?_)
  k_with "call ref" => (refine Halt.mk ?_)
  k_with "call ref" => (k_dflt (refine' told_call ?lo ?c ?F ?N ?h1 ?h2 ?h3 ?_; (case lo => exact (by exact ⟨rfl, rfl, by show (301 + 1 : Nat) ≤ _; decide, by first | exact Nat.le_of_ble_eq_true rfl | decide⟩)); (case c => assumption); (case F => k_asm); (case N => k_asm); (case h1 => k_mem); (case h2 => k_mem); (case h3 => k_mem); k_whole; intro TA hA tkA F' N' apA; (try k_sweep)))
  try dsimp only
  k_steps
  refine Halt.out ?_
  rename Fr _ _ _ _ => F3
  rename News _ _ _ _ => N3
  k_dflt (refine' slice_led F3 N3 (l := R) (vs := us) (ws := us.take 2) ?hm .none (.int 2 _) .none (by decide) (pick_two us 2) (by omega) ?_; (case hm => k_mem); k_whole; intro SR2 h2 F2 N2 apS)
  clear F3 N3
  k_steps
  refine Halt.out ?_
  rename News _ _ _ _ => N3
  rename Fr _ _ _ _ => F3
  have hPAr := (hPI.at (Has.of (l := gr3) N3 (fun p hp => (by (repeat' (first | with_reducible exact sub_nil | with_reducible exact sub_refl | with_reducible exact sub_left | with_reducible exact sub_right | (with_reducible refine sub_app ?_ ?_) | (refine sub_cons (by first | k_memK | k_ownIn) ?_) | refine sub_step ?_ | exact sub_left | exact sub_right | exact sub_refl)) : ∀ p ∈ rest, p ∈ _) p (hgr3 p hp)))).take 2
  k_dflt (refine' law_digest_call (vs := us.take 2) (rs := rs.take 2) (by exact ⟨rfl, rfl, by show (301 + 1 : Nat) ≤ _; decide, by first | exact Nat.le_of_ble_eq_true rfl | decide⟩) Cg F3 N3 (News.isList N3 (by k_memK)) hPAr ?_; k_whole)
  intro D2 dx2 rl2 tk2d ra rb rc g0 g1 g2 h3 tk3 hrr F4 N4 f1 f2 f3 m1 m2 m3 S4
  obtain ⟨qa, qb, qc⟩ : ra = a ∧ rb = b ∧ rc = c := by
    have e := hrr.trans hrw.symm
    injection e with e1 e; injection e with e2 e3
    exact ⟨e1, e2, e3⟩
  subst qa qb qc
  dsimp only [dgL, List.cons_append, List.nil_append] at N4
  clear S4 hrr hPAr F3 N3 f1 f2 f3
  try dsimp only
  k_steps
  refine Halt.out ?_
  rename News _ _ _ _ => N3
  rename Fr _ _ _ _ => F3
  k_dflt (refine' coverage_of_call (vs := vs6) (ns := ns6) (by exact ⟨rfl, rfl, by show (301 + 1 : Nat) ≤ _; decide, by first | exact Nat.le_of_ble_eq_true rfl | decide⟩) Cg F3 N3 (News.isList N3 (by k_memK)) hJ1 (by omega) ?_; k_whole)
  intro CV cvd cvt us8 nn8 tk8 ns8 h8 tk8' hI8' hP8 F8 N8 ac1 ac2 ac3 k1 k2 k3
  dsimp only [List.cons_append, List.nil_append] at N8
  clear F3 N3
  have hl8 := hP8.length_eq
  have hk8 := keysZ_len ns6
  try dsimp only
  k_steps
  refine Halt.out ?_
  rename News _ _ _ _ => N3
  rename Fr _ _ _ _ => F3
  k_dflt (refine' digest_of_call (C := CV) (cd := cvd) (tu := cvt) (vs := us8) (ns := ns8) (by exact ⟨rfl, rfl, by show (301 + 1 : Nat) ≤ _; decide, by first | exact Nat.le_of_ble_eq_true rfl | decide⟩) Cg F3 N3 (by k_memK) (by k_memK) (by k_memK) k2 k3 hI8' (by omega) ?_; k_whole)
  intro D3 dx3 rl3 tk3d sa sb sc i0 i1 i2 h3' tk3' hrr F5 N5 ad1 ad2 ad3 j1 j2 j3
  obtain ⟨qa, qb, qc⟩ : ra = sa ∧ rb = sb ∧ rc = sc := by
    have e := hrr.trans ((rows_runs hP8).trans hrs1.symm)
    injection e with e1 e; injection e with e2 e3
    exact ⟨e1.symm, e2.symm, e3.symm⟩
  subst qa qb qc
  dsimp only [dgL, List.cons_append, List.nil_append] at N5
  clear hrr F3 N3 ac1 ac2 ac3 ad1 ad2 ad3
  try dsimp only
  k_steps
  rename Fr _ _ _ _ => F3
  rename News _ _ _ _ => N3
  have N6 := News.sub (news' := (s1.heap.objs.size + 1 + 1, od9) :: (s1.heap.objs.size + 1 + 1 + 1, og7) :: (P, penO C sq tq rq uq 0) :: rest) N3 (by (repeat' (first | with_reducible exact sub_nil | with_reducible exact sub_refl | with_reducible exact sub_left | with_reducible exact sub_right | (with_reducible refine sub_app ?_ ?_) | (refine sub_cons (by first | k_memK | k_ownIn) ?_) | refine sub_step ?_ | exact sub_left | exact sub_right | exact sub_refl)))
  clear N3 hrs1 hrw hns hg130 hJ1 hI8' hP8 hl8 hk8 apS q3 q4 q5 q6 q7 q8 q9 n1 n2 n3 m1 m2 m3 k1 k2 k3 j1 j2 j3 hlnn
  rename_i zc1 zc2 zc3 zc4 zc5 zc6 zc7 zc8 zc9 zc10 zc11 zc12 zc13 zc14 zc15 zc16 zc17 zc18 zc19 zc20 zc21 zc22 zc23 zc24 zc25 zc26 zc27 zc28 zc29 zc30 zc31 zc32
  clear zc32 zc31 zc30 zc28 zc27 zc26 zc24 zc23 zc22 zc20 zc19 zc18 zc17 zc16 zc15 zc14
  revert w zc1 s1 zc2 zc3 zc4 zc5 zc6 q12 q1 zc7 zc8 zc9 zc10 hL hI hcond o3 o2 o1 z1 z2 z3 Cg Tg qk zc11 zc12 zc13 ys hI8 hL8 C tkB oC P lP hE R1 us1 nn1 gr1 rs1 seat1 rest1 t11 t12 h1 tk1 hPI1 hB1 hL1 hs0 hs1 hr1 hg1 R2 us2 nn2 gr2 rs2 seat2 rest2 t21 t22 tk2 hPI2 hB2 hL2 hs2 hs3 hrs2 hg2 SS hS3 hSS hR12 DU hDU tkDU ccDU T1 a0 a1 a2 T2 c0 c1 c2 hsep p1 p2 p3 hR12' hDS hgS h5 o1' z1' DG hDG tkDG ccDG X1 xd1 xr1 xk1 xa1 xb1 xc1 nx1 nx2 nx3 X2 xd2 xr2 xk2 xa2 xb2 xc2 ny1 ny2 ny3 hrw1 fd1 hrw2 fd2 gG qkZ mmZ i T u s₁ rest hi htl hrest od og sq tq rq uq vd hI1 vg hI2 hI3 hI4 hI5 te R us nn gr3 rs T9 d0 d1' d2' X xd xr xk xa xb xc mR mT mX mxd mxr hPI hgr3 hB hLn nX1 nX2 nX3 hTt mC r2 r3 rP h9 od9 hz9 D1 dx1 rl1 GL hG4 h4 tk qk4 SR mm6 vs6 ns6 c6 u6 h6 tk6 D dx rl tkd t0 t1 t2 hD tkD qk7 mm7 og7 e0 e1 e2 u7 h7 tk7 v7 hK1 zc21 SR2 h2 D2 dx2 rl2 tk2d ra rb rc g0 g1 g2 h3 tk3 zc25 CV cvd cvt us8 nn8 tk8 ns8 h8 tk8' D3 dx3 rl3 tk3d i0 i1 i2 h3' tk3' zc29 TA hA tkA F3 apA N6
  exact hcut1.out⟩
noncomputable def ve : Cut1 vd.A := ⟨_, by
  intro hcut1
  intro w _ s1 _ _ _ _ _ q12 q1 _ _ _ _ hL hI hcond o3 o2 o1 z1 z2 z3 Cg Tg qk _ _ _ ys hI8 hL8 C tkB oC P lP hE R1 us1 nn1 gr1 rs1 seat1 rest1 t11 t12 h1 tk1 hPI1 hB1 hL1 hs0 hs1 hr1 hg1 R2 us2 nn2 gr2 rs2 seat2 rest2 t21 t22 tk2 hPI2 hB2 hL2 hs2 hs3 hrs2 hg2 SS hS3 hSS hR12 DU hDU tkDU ccDU T1 a0 a1 a2 T2 c0 c1 c2 hsep p1 p2 p3 hR12' hDS hgS h5 o1' z1' DG hDG tkDG ccDG X1 xd1 xr1 xk1 xa1 xb1 xc1 nx1 nx2 nx3 X2 xd2 xr2 xk2 xa2 xb2 xc2 ny1 ny2 ny3 hrw1 fd1 hrw2 fd2 gG qkZ mmZ i T u s₁ rest hi htl hrest od og sq tq rq uq vd hI1 vg hI2 hI3 hI4 hI5 te R us nn gr3 rs T9 d0 d1' d2' X xd xr xk xa xb xc mR mT mX mxd mxr hPI hgr3 hB hLn nX1 nX2 nX3 hTt mC r2 r3 rP h9 od9 hz9 D1 dx1 rl1 GL hG4 h4 tk qk4 SR mm6 vs6 ns6 c6 u6 h6 tk6 D dx rl tkd t0 t1 t2 hD tkD qk7 mm7 og7 e0 e1 e2 u7 h7 tk7 v7 hK1 _ SR2 h2 D2 dx2 rl2 tk2d ra rb rc g0 g1 g2 h3 tk3 _ CV cvd cvt us8 nn8 tk8 ns8 h8 tk8' D3 dx3 rl3 tk3d i0 i1 i2 h3' tk3' _ TA hA tkA F3 apA N6
  k_with_none
  refine Halt.out (letQ ?_)
  intro qk9
  refine For_invT s1.heap ?_ (fun _ => rfl)
  k_with_none
  k_with "pyIter ref" => (refine Halt.mk ?_)
  k_steps
  refine Halt.out ?_
  rename Fr _ _ _ _ => F2
  refine Fr.lets F2 ?_
  clear F2
  intro mm9 F2
  rename News _ _ _ _ => N2
  have e9 : (bitsZ 4 rs, bitsZ 0 rs, bitsZ 9 rs) = rowsFold rs := (rows_bits rs hB).symm
  refine loop_list (σ := Unit) (vs := us) (fun _ => []) [] _ [Str.ofString "first", Str.ofString "last"] (fun i c gr => gr = []) () rfl (News.isList (a := R) N2 (by k_memK)) (.inr ⟨_, by k_memK⟩) F2 N2 (fun _ => rfl) (fun _ _ h => nomatch h) rfl ?_ ?_
  · rintro i9 v ⟨⟩ gr u9 s9 rest9 hv rfl hgr htl9 hrest9 F' N'
    refine letT ?_
    intro te
    dsimp only [List.nil_append] at N'
    obtain ⟨r, hr, p, v1, v2, rfl, ht⟩ := (hPI.at (Has.of (l := gr3) N' (fun p hp => htl9 p ((by (repeat' (first | with_reducible exact sub_nil | with_reducible exact sub_refl | with_reducible exact sub_left | with_reducible exact sub_right | (with_reducible refine sub_app ?_ ?_) | (refine sub_cons (by first | k_memK | k_ownIn) ?_) | refine sub_step ?_ | exact sub_left | exact sub_right | exact sub_refl)) : ∀ p ∈ rest, p ∈ _) p (hgr3 p hp))))).2 i9 v hv
    have mr := List.mem_of_getElem? hr
    obtain ⟨b1, b2, b3, b4⟩ := hB r mr
    have un1 : Un rs r.1 := ⟨r, mr, Int.le_refl _, b2⟩
    have un2 : Un rs r.2 := ⟨r, mr, b2, Int.le_refl _⟩
    have y1 := htl9 (X, instObj 137 xd) (by k_memK)
    have y2 := htl9 (xd, dgDict w xr xk) (by k_memK)
    have y3 := htl9 (xr, dgRows (bitsZ 4 rs) xa (bitsZ 0 rs) xb (bitsZ 9 rs) xc) (by k_memK)
    clear F2 N2 htl9 hrest9 hgr
    try dsimp only
    k_with_none
    k_with "call ref" => (k_dflt (refine' may_have_true ?lo ?c ?F ?N y1 y2 y3 hB e9 ?g ?_; (case lo => exact (by exact ⟨rfl, rfl, by show (301 + 1 : Nat) ≤ _; decide, by first | exact Nat.le_of_ble_eq_true rfl | decide⟩)); (case c => assumption); (case F => k_asm); (case N => k_asm); (case g => first | exact un1 | exact un2); k_whole; intro h' tk' F' N'; (try k_sweep)))
    k_steps
    rename Fr _ _ _ _ => F9
    rename News _ _ _ _ => N9
    refine TurnEndG.intro () [] F9 N9 (fun _ h => nomatch h) (fun _ h => nomatch h) (fun z hz => by (repeat (first | with_reducible exact rfl | refine ov_if rfl hz ?_ | refine ov_sub rfl hz ?_))) rfl
  · rintro ⟨⟩ gr u9 h9 tk9 rfl hga F' N'
    dsimp only [List.nil_append] at N'
    clear F2 N2 hga
    rename_i zc1 zc2 zc3 zc4 zc5 zc6 zc7 zc8 zc9 zc10 zc11 zc12 zc13 zc14 zc15 zc16 zc17
    clear zc14
    revert w zc1 s1 zc2 zc3 zc4 zc5 zc6 q12 q1 zc7 zc8 zc9 zc10 hL hI hcond o3 o2 o1 z1 z2 z3 Cg Tg qk zc11 zc12 zc13 ys hI8 hL8 C tkB oC P lP hE R1 us1 nn1 gr1 rs1 seat1 rest1 t11 t12 h1 tk1 hPI1 hB1 hL1 hs0 hs1 hr1 hg1 R2 us2 nn2 gr2 rs2 seat2 rest2 t21 t22 tk2 hPI2 hB2 hL2 hs2 hs3 hrs2 hg2 SS hS3 hSS hR12 DU hDU tkDU ccDU T1 a0 a1 a2 T2 c0 c1 c2 hsep p1 p2 p3 hR12' hDS hgS h5 o1' z1' DG hDG tkDG ccDG X1 xd1 xr1 xk1 xa1 xb1 xc1 nx1 nx2 nx3 X2 xd2 xr2 xk2 xa2 xb2 xc2 ny1 ny2 ny3 hrw1 fd1 hrw2 fd2 gG qkZ mmZ i T u s₁ rest hi htl hrest od og sq tq rq uq vd hI1 vg hI2 hI3 hI4 hI5 te R us nn gr3 rs T9 d0 d1' d2' X xd xr xk xa xb xc mR mT mX mxd mxr hPI hgr3 hB hLn nX1 nX2 nX3 hTt mC r2 r3 rP od9 hz9 D1 dx1 rl1 GL hG4 h4 tk qk4 SR mm6 vs6 ns6 c6 u6 h6 tk6 D dx rl tkd t0 t1 t2 hD tkD qk7 mm7 og7 e0 e1 e2 u7 h7 tk7 v7 hK1 zc15 SR2 h2 D2 dx2 rl2 tk2d ra rb rc g0 g1 g2 h3 tk3 zc16 CV cvd cvt us8 nn8 tk8 ns8 h8 tk8' D3 dx3 rl3 tk3d i0 i1 i2 h3' tk3' zc17 TA hA tkA apA qk9 mm9 e9 u9 h9 tk9 F' N'
    exact hcut1.out⟩
noncomputable def vf : Cut2 ve.A := ⟨_, _, by
  intro hcut1 hcut2
  intro w _ s1 _ _ _ _ _ q12 q1 _ _ _ _ hL hI hcond o3 o2 o1 z1 z2 z3 Cg Tg qk _ _ _ ys hI8 hL8 C tkB oC P lP hE R1 us1 nn1 gr1 rs1 seat1 rest1 t11 t12 h1 tk1 hPI1 hB1 hL1 hs0 hs1 hr1 hg1 R2 us2 nn2 gr2 rs2 seat2 rest2 t21 t22 tk2 hPI2 hB2 hL2 hs2 hs3 hrs2 hg2 SS hS3 hSS hR12 DU hDU tkDU ccDU T1 a0 a1 a2 T2 c0 c1 c2 hsep p1 p2 p3 hR12' hDS hgS h5 o1' z1' DG hDG tkDG ccDG X1 xd1 xr1 xk1 xa1 xb1 xc1 nx1 nx2 nx3 X2 xd2 xr2 xk2 xa2 xb2 xc2 ny1 ny2 ny3 hrw1 fd1 hrw2 fd2 gG qkZ mmZ i T u s₁ rest hi htl hrest od og sq tq rq uq vd hI1 vg hI2 hI3 hI4 hI5 te R us nn gr3 rs T9 d0 d1' d2' X xd xr xk xa xb xc mR mT mX mxd mxr hPI hgr3 hB hLn nX1 nX2 nX3 hTt mC r2 r3 rP od9 hz9 D1 dx1 rl1 GL hG4 h4 tk qk4 SR mm6 vs6 ns6 c6 u6 h6 tk6 D dx rl tkd t0 t1 t2 hD tkD qk7 mm7 og7 e0 e1 e2 u7 h7 tk7 v7 hK1 _ SR2 h2 D2 dx2 rl2 tk2d ra rb rc g0 g1 g2 h3 tk3 _ CV cvd cvt us8 nn8 tk8 ns8 h8 tk8' D3 dx3 rl3 tk3d i0 i1 i2 h3' tk3' _ TA hA tkA apA qk9 mm9 e9 u9 h9 tk9 F' N'
  k_with_none
  rename Fr _ _ _ _ => F1
  rename News _ _ _ _ => N1
  k_with_none
  k_with "exec For Name Call cons nil" => (refine Halt.mk ?_)
  k_steps
  refine Halt.out (letQ ?_)
  intro qkL
  refine For_invT s1.heap ?_ (fun _ => rfl)
  k_with "pyIter ref" => (refine Halt.mk ?_)
  k_steps
  refine Halt.out ?_
  rename IsRange _ _ _ _ _ _ _ _ => rgL
  rename Fr _ _ _ _ => F2
  refine Fr.lets F2 ?_
  clear F2
  intro mmL F2
  rename News _ _ _ _ => N2
  have N3 := News.turn21 N2
  have hdis : ∀ p ∈ (s1.heap.objs.size + 1 + 1, od9) :: rest, p.1 ∉ [s1.heap.objs.size + 1 + 1 + 1, P] := all_cons (nin2 (Nat.succ_ne_self _).symm p2.symm) fun p hp => nin2 (r3 p hp) (rP p hp)
  refine loop_range (n := 4) (σ := Obj × (Int × Tok × Int × Tok)) (fun c => [(s1.heap.objs.size + 1 + 1 + 1, c.1), (P, penO C c.2.1 c.2.2.1 c.2.2.2.1 c.2.2.2.2 0)]) [s1.heap.objs.size + 1 + 1 + 1, P] _ [Str.ofString "lap", Str.ofString "bits"] (fun i c gr => (∃ v, c.1.data = .cell v) ∧ 0 ≤ c.2.1 ∧ c.2.1 ≤ sq + 2 * (i : Int) ∧ 0 ≤ c.2.2.2.1 ∧ gr = []) (og7, (sq, tq, rq, uq)) rfl rgL (by decide) (by decide) F2 N3 (fun _ => rfl) hdis ⟨⟨_, hK1⟩, hI3, by show sq ≤ sq + 2 * ((0 : Nat) : Int); omega, hI5, rfl⟩ ?_ ?_
  · intro i4 t9 cc gr u4 s4 rest4 hi4 hIv hgr htl4 hrest4 F' N'
    refine letT ?_
    intro te
    obtain ⟨og4, sx, tx, rx, ux⟩ := cc
    obtain ⟨⟨v4, hM1⟩, hM2, hM3, hM4, rfl⟩ := hIv
    dsimp only at hM1 hM2 hM3 hM4 hI4
    have r43 : ∀ p ∈ rest4, p.1 ≠ s1.heap.objs.size + 1 + 1 + 1 := fun p hp e => hrest4 p hp (by rw [e]; exact .head _)
    have r4P : ∀ p ∈ rest4, p.1 ≠ P := fun p hp e => hrest4 p hp (by rw [e]; exact .tail _ (.head _))
    dsimp only [List.cons_append, List.nil_append] at N'
    have N4 := N'
    have m4 := htl4 (s1.heap.objs.size + 1 + 1, od9) (.head _)
    have mT4 := htl4 _ (.tail _ mT)
    have mX4 := htl4 _ (.tail _ mX)
    have mxd4 := htl4 _ (.tail _ mxd)
    have mxr4 := htl4 _ (.tail _ mxr)
    have mC4 := htl4 _ (.tail _ mC)
    clear N' N3 N2 F2 rgL hgr
    rename_i zc1 zc2 zc3 zc4 zc5 zc6 zc7 zc8 zc9 zc10 zc11 zc12 zc13 zc14 zc15 zc16 zc17 zc18 zc19 zc20 zc21 zc22 zc23 zc24 zc25
    clear zc25 zc24 zc23 zc22 zc21 zc20
    revert w zc1 s1 zc2 zc3 zc4 zc5 zc6 q12 q1 zc7 zc8 zc9 zc10 hL hI hcond o3 o2 o1 z1 z2 z3 Cg Tg qk zc11 zc12 zc13 ys hI8 hL8 C tkB oC P lP hE R1 us1 nn1 gr1 rs1 seat1 rest1 t11 t12 h1 tk1 hPI1 hB1 hL1 hs0 hs1 hr1 hg1 R2 us2 nn2 gr2 rs2 seat2 rest2 t21 t22 tk2 hPI2 hB2 hL2 hs2 hs3 hrs2 hg2 SS hS3 hSS hR12 DU hDU tkDU ccDU T1 a0 a1 a2 T2 c0 c1 c2 hsep p1 p2 p3 hR12' hDS hgS h5 o1' z1' DG hDG tkDG ccDG X1 xd1 xr1 xk1 xa1 xb1 xc1 nx1 nx2 nx3 X2 xd2 xr2 xk2 xa2 xb2 xc2 ny1 ny2 ny3 hrw1 fd1 hrw2 fd2 gG qkZ mmZ i T u s₁ rest hi htl hrest od og sq tq rq uq vd hI1 vg hI2 hI3 hI4 hI5 zc14 R us nn gr3 rs T9 d0 d1' d2' X xd xr xk xa xb xc mR mT mX mxd mxr hPI hgr3 hB hLn nX1 nX2 nX3 hTt mC r2 r3 rP od9 hz9 D1 dx1 rl1 GL hG4 h4 tk qk4 SR mm6 vs6 ns6 c6 u6 h6 tk6 D dx rl tkd t0 t1 t2 hD tkD qk7 mm7 og7 e0 e1 e2 u7 h7 tk7 v7 hK1 zc15 SR2 h2 D2 dx2 rl2 tk2d ra rb rc g0 g1 g2 h3 tk3 zc16 CV cvd cvt us8 nn8 tk8 ns8 h8 tk8' D3 dx3 rl3 tk3d i0 i1 i2 h3' tk3' zc17 TA hA tkA apA qk9 mm9 e9 u9 h9 tk9 zc18 zc19 qkL mmL hdis i4 t9 u4 s4 rest4 hi4 htl4 hrest4 F' og4 sx tx rx ux v4 hM1 hM2 hM3 hM4 te r43 r4P N4 m4 mT4 mX4 mxd4 mxr4 mC4
    exact hcut1.out
  · rintro ⟨og4, sx, tx, rx, ux⟩ gr u4 h4 tk4 ⟨⟨v4, hM1⟩, hM2, hM3, hM4, rfl⟩ hga F' N'
    rename_i zc1 zc2 zc3 zc4 zc5 zc6 zc7 zc8 zc9 zc10 zc11 zc12 zc13 zc14 zc15 zc16 zc17 zc18 zc19 zc20 zc21 zc22 zc23 zc24 zc25
    clear zc25 zc14
    revert w zc1 s1 zc2 zc3 zc4 zc5 zc6 q12 q1 zc7 zc8 zc9 zc10 hL hI hcond o3 o2 o1 z1 z2 z3 Cg Tg qk zc11 zc12 zc13 ys hI8 hL8 C tkB oC P lP hE R1 us1 nn1 gr1 rs1 seat1 rest1 t11 t12 h1 tk1 hPI1 hB1 hL1 hs0 hs1 hr1 hg1 R2 us2 nn2 gr2 rs2 seat2 rest2 t21 t22 tk2 hPI2 hB2 hL2 hs2 hs3 hrs2 hg2 SS hS3 hSS hR12 DU hDU tkDU ccDU T1 a0 a1 a2 T2 c0 c1 c2 hsep p1 p2 p3 hR12' hDS hgS h5 o1' z1' DG hDG tkDG ccDG X1 xd1 xr1 xk1 xa1 xb1 xc1 nx1 nx2 nx3 X2 xd2 xr2 xk2 xa2 xb2 xc2 ny1 ny2 ny3 hrw1 fd1 hrw2 fd2 gG qkZ mmZ i T u s₁ rest hi htl hrest od og sq tq rq uq vd hI1 vg hI2 hI3 hI4 hI5 te R us nn gr3 rs T9 d0 d1' d2' X xd xr xk xa xb xc mR mT mX mxd mxr hPI hgr3 hB hLn nX1 nX2 nX3 hTt mC r2 r3 rP od9 hz9 D1 dx1 rl1 GL hG4 tk qk4 SR mm6 vs6 ns6 c6 u6 h6 tk6 D dx rl tkd t0 t1 t2 hD tkD qk7 mm7 og7 e0 e1 e2 u7 h7 tk7 v7 hK1 zc15 SR2 h2 D2 dx2 rl2 tk2d ra rb rc g0 g1 g2 h3 tk3 zc16 CV cvd cvt us8 nn8 tk8 ns8 h8 tk8' D3 dx3 rl3 tk3d i0 i1 i2 h3' tk3' zc17 TA hA tkA apA qk9 mm9 e9 u9 h9 tk9 zc18 zc19 qkL zc20 zc21 zc22 zc23 zc24 rgL N2 mmL F2 N3 hdis og4 sx tx rx ux u4 h4 tk4 v4 hM1 hM2 hM3 hM4 hga F' N'
    exact hcut2.out⟩
theorem vlt : vf.A := by
  intro w _ s1 _ _ _ _ _ q12 q1 _ _ _ _ hL hI hcond o3 o2 o1 z1 z2 z3 Cg Tg qk _ _ _ ys hI8 hL8 C tkB oC P lP hE R1 us1 nn1 gr1 rs1 seat1 rest1 t11 t12 h1 tk1 hPI1 hB1 hL1 hs0 hs1 hr1 hg1 R2 us2 nn2 gr2 rs2 seat2 rest2 t21 t22 tk2 hPI2 hB2 hL2 hs2 hs3 hrs2 hg2 SS hS3 hSS hR12 DU hDU tkDU ccDU T1 a0 a1 a2 T2 c0 c1 c2 hsep p1 p2 p3 hR12' hDS hgS h5 o1' z1' DG hDG tkDG ccDG X1 xd1 xr1 xk1 xa1 xb1 xc1 nx1 nx2 nx3 X2 xd2 xr2 xk2 xa2 xb2 xc2 ny1 ny2 ny3 hrw1 fd1 hrw2 fd2 gG qkZ mmZ i T u s₁ rest hi htl hrest od og sq tq rq uq vd hI1 vg hI2 hI3 hI4 hI5 _ R us nn gr3 rs T9 d0 d1' d2' X xd xr xk xa xb xc mR mT mX mxd mxr hPI hgr3 hB hLn nX1 nX2 nX3 hTt mC r2 r3 rP od9 hz9 D1 dx1 rl1 GL hG4 h4 tk qk4 SR mm6 vs6 ns6 c6 u6 h6 tk6 D dx rl tkd t0 t1 t2 hD tkD qk7 mm7 og7 e0 e1 e2 u7 h7 tk7 v7 hK1 _ SR2 h2 D2 dx2 rl2 tk2d ra rb rc g0 g1 g2 h3 tk3 _ CV cvd cvt us8 nn8 tk8 ns8 h8 tk8' D3 dx3 rl3 tk3d i0 i1 i2 h3' tk3' _ TA hA tkA apA qk9 mm9 e9 u9 h9 tk9 _ _ qkL mmL hdis i4 t9 u4 s4 rest4 hi4 htl4 hrest4 F' og4 sx tx rx ux v4 hM1 hM2 hM3 hM4 te r43 r4P N4 m4 mT4 mX4 mxd4 mxr4 mC4
  k_with_none
  have hPr : ∀ o, ∀ p ∈ (s1.heap.objs.size + 1 + 1 + 1, o) :: rest4, p.1 ≠ P := fun o => all_cons p3.symm r4P
  have h3r : ∀ o, ∀ p ∈ (P, o) :: rest4, p.1 ≠ s1.heap.objs.size + 1 + 1 + 1 := fun o => all_cons p3 r43
  k_with_none
  k_with "call ref" => (refine Halt.mk ?_)
  k_steps
  refine Halt.out ?_
  rename Fr _ _ _ _ => F5
  rename News _ _ _ _ => N5
  have N6 := News.sub (news' := (P, penO C sx tx rx ux 0) :: (s1.heap.objs.size + 1 + 1 + 1, og4) :: rest4) N5 (by (repeat' (first | with_reducible exact sub_nil | with_reducible exact sub_refl | with_reducible exact sub_left | with_reducible exact sub_right | (with_reducible refine sub_app ?_ ?_) | (refine sub_cons (by first | k_memK | k_ownIn) ?_) | refine sub_step ?_ | exact sub_left | exact sub_right | exact sub_refl)))
  clear N5
  k_dflt (refine' draw_call (cvs := ys) (P := P) (by exact ⟨rfl, rfl, by show (301 + 1 : Nat) ≤ _; decide, by first | exact Nat.le_of_ble_eq_true rfl | decide⟩) Cg F5 N6 (.head _) (Cells.mk (News.isList N6 (by k_memK)) hI8 (by rw [List.length_map, List.length_take]; omega)) hM2 (by omega) hM4 (by decide) (by decide) ?_; k_whole)
  intro d7 t7 seat7 rest7 t17 t27 h7 tk7 hd0 hd1 hse0 hse1 hre0 F7 S7 nn'
  have N7 := nn' _ (.head (hPr _))
  clear nn' S7 N6 F5
  try dsimp only
  k_steps
  refine Halt.out ?_
  rename Fr _ _ _ _ => F5
  rename News _ _ _ _ => N5
  k_dflt (refine' draw_call (cvs := ys) (P := P) (by exact ⟨rfl, rfl, by show (301 + 1 : Nat) ≤ _; decide, by first | exact Nat.le_of_ble_eq_true rfl | decide⟩) Cg F5 N5 (.head _) (Cells.mk (News.isList N5 (by k_memK)) hI8 (by rw [List.length_map, List.length_take]; omega)) hse0 (by omega) hre0 (by decide) (by decide) ?_; k_whole)
  intro d8 t8 seat8 rest8 t18 t28 h8 tk8 he0 he1 hsf0 hsf1 hrf0 F8 S8 nn'
  have N8 := nn' _ (.head (hPr _))
  clear nn' S8 N5 F5
  k_with_none
  k_with "storeName int" => (refine Halt.mk ?_)
  try dsimp only
  k_steps
  refine Halt.out ?_
  rename Fr _ _ _ _ => F5
  rename News _ _ _ _ => N5
  have N9 := News.sub (news' := (s1.heap.objs.size + 1 + 1 + 1, og4) :: (P, penO C seat8 t18 rest8 t28 0) :: rest4) N5 (by (repeat' (first | with_reducible exact sub_nil | with_reducible exact sub_refl | with_reducible exact sub_left | with_reducible exact sub_right | (with_reducible refine sub_app ?_ ?_) | (refine sub_cons (by first | k_memK | k_ownIn) ?_) | refine sub_step ?_ | exact sub_left | exact sub_right | exact sub_refl)))
  clear N5
  refine store_cell (c := s1.heap.objs.size + 1 + 1 + 1) rfl rfl rfl F5 N9 hM1 (h3r _) ?_
  intro h9' og5 hz5 F6 N6
  obtain ⟨g, tg, hz5⟩ : ∃ g tg, og5.data = .cell (some (.int g tg)) := ⟨_, _, hz5⟩
  clear F5 N9
  k_with_none
  k_with "exec Assign cons ListComp" => (refine Halt.mk ?_)
  k_with "pyIter ref" => (refine Halt.mk ?_)
  k_with "call ref" => (refine Halt.mk ?_)
  try dsimp only
  k_steps
  refine Halt.out (Assign_ListComp_L (cl := [(Str.ofString "glyph", s1.heap.objs.size + 1 + 1 + 1), (Str.ofString "due", s1.heap.objs.size + 1 + 1)]) (by rfl) (clos_scB rfl rfl) rfl (by decide) rfl (fun h => rfl) rfl rfl ?_)
  k_steps
  refine Halt.out ?_
  rename IsRange _ _ _ _ _ _ _ _ => rgB
  rename Fr _ _ _ _ => F7
  rename News _ _ _ _ => N7
  refine comp_rangeA (n := 3) (bitF (bitsZ 4 rs) (bitsZ 0 rs) (bitsZ 9 rs) g) rfl F7 rgB (by decide) (by decide) (by rw [sizeLine_eq]; decide) ?_ ?_
  · intro C9 i9 t9' s9 E9 hi9 hbd k09
    obtain ⟨m9, hn9, hm9⟩ := hbd
    exact bit_elt (T := T9) (cd := s1.heap.objs.size + 1 + 1) (cg := s1.heap.objs.size + 1 + 1 + 1) hi9 (by exact ⟨rfl, rfl, by show (301 + 1 : Nat) ≤ _; decide, by first | exact Nat.le_of_ble_eq_true rfl | decide⟩) rfl rfl rfl rfl rfl rfl ⟨_, k09 _ _ (N7 (T9, _) (by k_memK)).1, rfl, _, rfl⟩ ⟨od9, k09 _ _ (N7 (_, od9) (by k_memK)).1, hz9⟩ ⟨og5, k09 _ _ (N7 (_, og5) (by k_memK)).1, hz5⟩ hn9 hm9
  intro D9 h9 tk9 cc9 ys9 hI9 hD9 hl9 F8 k8
  obtain ⟨u0, u1', u2', rfl⟩ := ints3 hI9
  obtain ⟨N8, aD9⟩ := News.join1 F7 N7 k8 hD9 hl9
  clear F7 N7 rgB hI9 hl9 hD9 k8
  try dsimp only
  k_steps
  refine Halt.out ?_
  rename Fr _ _ _ _ => F5
  rename News _ _ _ _ => N5
  k_dflt (refine' may_have_call (glyph := g) (by exact ⟨rfl, rfl, by show (301 + 1 : Nat) ≤ _; decide, by first | exact Nat.le_of_ble_eq_true rfl | decide⟩) Cg F5 N5 (by k_memK) (by k_memK) (by k_memK) ?_; k_whole)
  intro h10 tk10 F6 N6
  clear F5 N5
  try dsimp only
  have hb9 := have_bits hB e9 g
  k_steps
  · rename Fr _ _ _ _ => F9
    rename News _ _ _ _ => N9
    refine TurnEndG.intro (og5, (seat8, t18, rest8, t28)) [] F9 (News.sub N9 ?_) (fun _ h => nomatch h) (fun _ h => nomatch h) (fun z hz => by (repeat (first | with_reducible exact rfl | refine ov_if rfl hz ?_ | refine ov_sub rfl hz ?_))) ⟨⟨_, hz5⟩, hsf0, by show seat8 ≤ sq + 2 * ((i4 + 1 : Nat) : Int); omega, hrf0, rfl⟩
    (repeat' (first | with_reducible exact sub_nil | with_reducible exact sub_refl | with_reducible exact sub_left | with_reducible exact sub_right | (with_reducible refine sub_app ?_ ?_) | (refine sub_cons (by first | k_memK | k_ownIn) ?_) | refine sub_step ?_ | exact sub_left | exact sub_right | exact sub_refl))
theorem vle : vf.B := by
  intro w _ s1 _ _ _ _ _ q12 q1 _ _ _ _ hL hI hcond o3 o2 o1 z1 z2 z3 Cg Tg qk _ _ _ ys hI8 hL8 C tkB oC P lP hE R1 us1 nn1 gr1 rs1 seat1 rest1 t11 t12 h1 tk1 hPI1 hB1 hL1 hs0 hs1 hr1 hg1 R2 us2 nn2 gr2 rs2 seat2 rest2 t21 t22 tk2 hPI2 hB2 hL2 hs2 hs3 hrs2 hg2 SS hS3 hSS hR12 DU hDU tkDU ccDU T1 a0 a1 a2 T2 c0 c1 c2 hsep p1 p2 p3 hR12' hDS hgS h5 o1' z1' DG hDG tkDG ccDG X1 xd1 xr1 xk1 xa1 xb1 xc1 nx1 nx2 nx3 X2 xd2 xr2 xk2 xa2 xb2 xc2 ny1 ny2 ny3 hrw1 fd1 hrw2 fd2 gG qkZ mmZ i T u s₁ rest hi htl hrest od og sq tq rq uq vd hI1 vg hI2 hI3 hI4 hI5 te R us nn gr3 rs T9 d0 d1' d2' X xd xr xk xa xb xc mR mT mX mxd mxr hPI hgr3 hB hLn nX1 nX2 nX3 hTt mC r2 r3 rP od9 hz9 D1 dx1 rl1 GL hG4 tk qk4 SR mm6 vs6 ns6 c6 u6 h6 tk6 D dx rl tkd t0 t1 t2 hD tkD qk7 mm7 og7 e0 e1 e2 u7 h7 tk7 v7 hK1 _ SR2 h2 D2 dx2 rl2 tk2d ra rb rc g0 g1 g2 h3 tk3 _ CV cvd cvt us8 nn8 tk8 ns8 h8 tk8' D3 dx3 rl3 tk3d i0 i1 i2 h3' tk3' _ TA hA tkA apA qk9 mm9 e9 u9 h9 tk9 _ _ qkL _ _ _ _ _ rgL N2 mmL F2 N3 hdis og4 sx tx rx ux u4 h4 tk4 v4 hM1 hM2 hM3 hM4 hga F' N'
  k_with_none
  dsimp only [List.cons_append, List.nil_append] at N'
  dsimp only at hM1 hM2 hM3 hM4
  have hJ4 : sq ≤ 40 + 20 * (i : Int) := hI4
  try dsimp only
  k_steps
  rename Fr _ _ _ _ => F9
  rename News _ _ _ _ => N9
  refine TurnEndG.intro ((od9, og4), (sx, tx, rx, ux)) [] F9 (News.sub N9 ?_) (fun _ h => nomatch h) (fun _ h => nomatch h) (fun z hz => by (repeat (first | with_reducible exact rfl | refine ov_if rfl hz ?_ | refine ov_sub rfl hz ?_))) ⟨⟨_, hz9⟩, ⟨_, hM1⟩, hM2, by show sx ≤ 40 + 20 * ((i + 1 : Nat) : Int); omega, hM4, rfl⟩
  (repeat' (first | with_reducible exact sub_nil | with_reducible exact sub_refl | with_reducible exact sub_left | with_reducible exact sub_right | (with_reducible refine sub_app ?_ ?_) | (refine sub_cons (by first | k_memK | k_ownIn) ?_) | refine sub_step ?_ | exact sub_left | exact sub_right | exact sub_refl))
noncomputable def vi : Cut1 w7.C := ⟨_, by
  intro hcut1
  intro w _ s1 _ _ _ _ _ q12 q1 _ _ _ _ hL hI hcond o3 o2 o1 z1 z2 z3 Cg Tg qk _ _ _ ys hI8 hL8 C hB tkB oC P hD lP hE R1 us1 nn1 gr1 rs1 seat1 rest1 t11 t12 h1 tk1 hPI1 hB1 hL1 hs0 hs1 hr1 hg1 R2 us2 nn2 gr2 rs2 seat2 rest2 t21 t22 h2 tk2 hPI2 hB2 hL2 hs2 hs3 hrs2 hg2 SS hS3 hSS F3 N3 tk hR12 DU hDU tkDU ccDU T1 a0 a1 a2 T2 c0 c1 c2 hsep p1 p2 p3 hR12' hDS hgS h5 o1' z1' DG hDG tkDG ccDG X1 xd1 xr1 xk1 xa1 xb1 xc1 nx1 nx2 nx3 X2 xd2 xr2 xk2 xa2 xb2 xc2 ny1 ny2 ny3 hrw1 fd1 hrw2 fd2 gG qkZ mmZ F8 N9 hlS hlU hlG
  k_with_none
  rintro ⟨⟨od, og⟩, ⟨sq, tq, rq, uq⟩⟩ gr u h tk ⟨⟨vd, hI1⟩, ⟨vg, hI2⟩, hI3, hI4, hI5, rfl⟩ hga F' N'
  dsimp only [List.cons_append, List.nil_append, dgL] at N'
  dsimp only at hI1 hI2 hI3 hI4 hI5
  clear N9 F8 hlS hlU hlG hga fd1 fd2 gG
  refine Fr.lets F' ?_
  clear F'
  intro mmU F'
  k_with_none
  k_with "exec Assign cons ListComp" => (refine Halt.mk ?_)
  k_with "pyIter ref" => (refine Halt.mk ?_)
  k_with "call ref" => (refine Halt.mk ?_)
  try dsimp only
  k_steps
  refine Halt.out (Assign_ListComp_L (cl := [(Str.ofString "dues", s1.heap.objs.size + 1)]) (by rfl) (clos_scH rfl) rfl (by decide) rfl (fun h => rfl) rfl rfl ?_)
  k_steps
  refine Halt.out ?_
  rename IsRange _ _ _ _ _ _ _ _ => rgB
  rename Fr _ _ _ _ => F7
  rename News _ _ _ _ => N7
  refine comp_rangeA (n := 3) (shrF (bitsZ 4 rs1) (bitsZ 0 rs1) (bitsZ 9 rs1) (bitsZ 4 rs2) (bitsZ 0 rs2) (bitsZ 9 rs2)) rfl F7 rgB (by decide) (by decide) (by rw [sizeLine_eq]; decide) ?_ ?_
  · intro C9 i9 t9' s9 E9 hi9 hbd k09
    obtain ⟨m9, hn9, hm9⟩ := hbd
    exact shr_elt (DU := DU) (T1 := T1) (T2 := T2) (cd := s1.heap.objs.size + 1) hi9 (by exact ⟨rfl, rfl, by show (301 + 1 : Nat) ≤ _; decide, by first | exact Nat.le_of_ble_eq_true rfl | decide⟩) rfl rfl rfl rfl (list_keeps (News.isList (a := DU) N7 (by k_memK)) k09) ⟨_, k09 _ _ (N7 (T1, _) (by k_memK)).1, rfl, _, rfl⟩ ⟨_, k09 _ _ (N7 (T2, _) (by k_memK)).1, rfl, _, rfl⟩ ⟨o1', k09 _ _ (N7 (_, o1') (by k_memK)).1, z1'⟩ hn9 hm9
  intro D9 h9 tk9 cc9 ys9 hI9 hD9 hl9 F8 k8
  obtain ⟨u0, u1', u2', rfl⟩ := ints3 hI9
  obtain ⟨N8, aD9⟩ := News.join1 F7 N7 k8 hD9 hl9
  clear F7 N7 rgB hI9 hl9 hD9 k8
  try dsimp only
  k_steps
  refine Halt.out ?_
  rename Fr _ _ _ _ => F5
  rename News _ _ _ _ => N5
  k_dflt (refine' may_meet_call (D := X1) (D2 := X2) (by exact ⟨rfl, rfl, by show (301 + 1 : Nat) ≤ _; decide, by first | exact Nat.le_of_ble_eq_true rfl | decide⟩) Cg F5 N5 (by k_memK) (by k_memK) (by k_memK) (by k_memK) (by k_memK) (by k_memK) ?_; k_whole)
  intro h10 tk10 F6 N6
  clear F5 N5
  have hm1 := meet_bits (bitsZ 4 rs1) (bitsZ 0 rs1) (bitsZ 9 rs1) (bitsZ 4 rs2) (bitsZ 0 rs2) (bitsZ 9 rs2)
  try dsimp only
  k_steps
  refine Halt.out ?_
  rename Fr _ _ _ _ => F5
  rename News _ _ _ _ => N5
  k_dflt (refine' may_meet_call (D := X2) (D2 := X1) (by exact ⟨rfl, rfl, by show (301 + 1 : Nat) ≤ _; decide, by first | exact Nat.le_of_ble_eq_true rfl | decide⟩) Cg F5 N5 (by k_memK) (by k_memK) (by k_memK) (by k_memK) (by k_memK) (by k_memK) ?_; k_whole)
  intro h11 tk11 F7 N7
  clear F5 N5
  have hm2 := meet_bits (bitsZ 4 rs1) (bitsZ 0 rs1) (bitsZ 9 rs1) (bitsZ 4 rs2) (bitsZ 0 rs2) (bitsZ 9 rs2)
  rw [meet_swap] at hm2
  try dsimp only
  k_steps
  refine Halt.out ?_
  rename Fr _ _ _ _ => F5
  rename News _ _ _ _ => N5
  have N6 := News.sub (news' := [(P, penO C sq tq rq uq 0), (s1.heap.objs.size + 1 + 1, od), (s1.heap.objs.size + 1 + 1 + 1, og), (s1.heap.objs.size + 1, o1'), (C, LCg.lst ys)]) N5 (by (repeat' (first | with_reducible exact sub_nil | with_reducible exact sub_refl | with_reducible exact sub_left | with_reducible exact sub_right | (with_reducible refine sub_app ?_ ?_) | (refine sub_cons (by first | k_memK | k_ownIn) ?_) | refine sub_step ?_ | exact sub_left | exact sub_right | exact sub_refl)))
  rename_i zc1 zc2 zc3 zc4 zc5 zc6 zc7 zc8 zc9 zc10 zc11 zc12 zc13 zc14 zc15 zc16 zc17 zc18 zc19 zc20 zc21 zc22 zc23 zc24 zc25 zc26 zc27
  clear zc23 zc22 zc21 zc20 zc19 zc18 zc15 zc14
  revert w zc1 s1 zc2 zc3 zc4 zc5 zc6 q12 q1 zc7 zc8 zc9 zc10 hL hI hcond o3 o2 o1 z1 z2 z3 Cg Tg qk zc11 zc12 zc13 ys hI8 hL8 C hB tkB oC P hD lP hE R1 us1 nn1 gr1 rs1 seat1 rest1 t11 t12 h1 tk1 hPI1 hB1 hL1 hs0 hs1 hr1 hg1 R2 us2 nn2 gr2 rs2 seat2 rest2 t21 t22 h2 tk2 hPI2 hB2 hL2 hs2 hs3 hrs2 hg2 SS hS3 hSS F3 N3 hR12 DU hDU tkDU ccDU T1 a0 a1 a2 T2 c0 c1 c2 hsep p1 p2 p3 hR12' hDS hgS h5 o1' z1' DG hDG tkDG ccDG X1 xd1 xr1 xk1 xa1 xb1 xc1 nx1 nx2 nx3 X2 xd2 xr2 xk2 xa2 xb2 xc2 ny1 ny2 ny3 hrw1 hrw2 qkZ mmZ od og sq tq rq uq u h vd hI1 vg hI2 hI3 hI4 hI5 zc16 mmU zc17 D9 h9 tk9 cc9 u0 u1' u2' aD9 h10 tk10 hm1 zc24 zc25 h11 tk11 F5 N5 hm2 zc26 zc27 tk N6
  exact hcut1.out⟩
theorem vfl : vi.A := by
  intro w _ s1 _ _ _ _ _ q12 q1 _ _ _ _ hL hI hcond o3 o2 o1 z1 z2 z3 Cg Tg qk _ _ _ ys hI8 hL8 C hB tkB oC P hD lP hE R1 us1 nn1 gr1 rs1 seat1 rest1 t11 t12 h1 tk1 hPI1 hB1 hL1 hs0 hs1 hr1 hg1 R2 us2 nn2 gr2 rs2 seat2 rest2 t21 t22 h2 tk2 hPI2 hB2 hL2 hs2 hs3 hrs2 hg2 SS hS3 hSS F3 N3 hR12 DU hDU tkDU ccDU T1 a0 a1 a2 T2 c0 c1 c2 hsep p1 p2 p3 hR12' hDS hgS h5 o1' z1' DG hDG tkDG ccDG X1 xd1 xr1 xk1 xa1 xb1 xc1 nx1 nx2 nx3 X2 xd2 xr2 xk2 xa2 xb2 xc2 ny1 ny2 ny3 hrw1 hrw2 qkZ mmZ od og sq tq rq uq u h vd hI1 vg hI2 hI3 hI4 hI5 _ mmU _ D9 h9 tk9 cc9 u0 u1' u2' aD9 h10 tk10 hm1 _ _ h11 tk11 F5 N5 hm2 _ _ tk N6
  k_with_none
  have hCP : C ≠ P := hsep P (.inr (.inr (.inr rfl))) (C, LCg.lst ys) (.tail _ (.tail _ (.tail _ (.tail _ (.tail _ (.tail _ (.head _)))))))
  have hPr : ∀ p ∈ [(s1.heap.objs.size + 1 + 1, od), (s1.heap.objs.size + 1 + 1 + 1, og), (s1.heap.objs.size + 1, o1'), (C, LCg.lst ys)], p.1 ≠ P := all_cons p2.symm (all_cons p3.symm (all_cons p1.symm (all_cons hCP all_nil)))
  clear N5 hsep aD9
  have hJ4 : sq ≤ 100 := by have : sq ≤ 40 + 20 * ((2 : Nat) : Int) := hI4; omega
  k_dflt (refine' draw_call (cvs := ys) (P := P) (by exact ⟨rfl, rfl, by show (301 + 1 : Nat) ≤ _; decide, by first | exact Nat.le_of_ble_eq_true rfl | decide⟩) Cg F5 N6 (.head _) (Cells.mk (News.isList N6 (by k_memK)) hI8 (by rw [List.length_map, List.length_take]; omega)) hI3 (by omega) hI5 (by decide) (by decide) ?_; k_whole)
  intro d7 t7 seat7 rest7 t17 t27 h7 tk7 hd0 hd1 hse0 hse1 hre0 F8 S8 nn'
  have N8 := nn' _ (.head hPr)
  clear nn' S8 N6 F5
  k_with_none
  k_with "call ref" => (refine Halt.mk ?_)
  k_with "exec Assign cons IfExp" => (refine Halt.mk ?_)
  try dsimp only
  k_steps
  refine Halt.out ?_
  rename Fr _ _ _ _ => F5
  rename News _ _ _ _ => N5
  k_dflt (refine' draw_call (cvs := ys) (P := P) (by exact ⟨rfl, rfl, by show (301 + 1 : Nat) ≤ _; decide, by first | exact Nat.le_of_ble_eq_true rfl | decide⟩) Cg F5 N5 (.head _) (Cells.mk (News.isList N5 (by k_memK)) hI8 (by rw [List.length_map, List.length_take]; omega)) hse0 (by omega) hre0 (by decide) (by decide) ?_; k_whole)
  intro d8 t8 seat8 rest8 t18 t28 h8 tk8 he0 he1 hsf0 hsf1 hrf0 F8 S8 nn'
  have N8 := nn' _ (.head hPr)
  clear nn' S8 N5 F5
  try dsimp only
  k_steps
  refine Halt.out ?_
  rename Fr _ _ _ _ => F5
  rename News _ _ _ _ => N5
  rename _ < _ ∧ _ => lt9
  k_dflt (refine' draw_call (cvs := ys) (P := P) (by exact ⟨rfl, rfl, by show (301 + 1 : Nat) ≤ _; decide, by first | exact Nat.le_of_ble_eq_true rfl | decide⟩) Cg F5 N5 (.tail _ (.head _)) (Cells.mk (News.isList N5 (by k_memK)) hI8 (by rw [List.length_map, List.length_take]; omega)) hsf0 (by omega) hrf0 (by decide) (by decide) ?_; k_whole)
  intro d9 t9 seat9 rest9 t19 t29 h9' tk9' hg0 hg1 hsg0 hsg1 hrg0 F9 S9 nn'
  have N9 := nn' _ (.tail (Nat.ne_of_gt lt9.1) (.head hPr))
  clear nn' S9 N5 F5
  try dsimp only
  k_steps
  refine Halt.out ?_
  rename Fr _ _ _ _ => F5
  rename News _ _ _ _ => N5
  have N6 := News.sub (news' := [(s1.heap.objs.size + 1 + 1, od), (s1.heap.objs.size + 1 + 1 + 1, og), (s1.heap.objs.size + 1, o1')]) N5 (by (repeat' (first | with_reducible exact sub_nil | with_reducible exact sub_refl | with_reducible exact sub_left | with_reducible exact sub_right | (with_reducible refine sub_app ?_ ?_) | (refine sub_cons (by first | k_memK | k_ownIn) ?_) | refine sub_step ?_ | exact sub_left | exact sub_right | exact sub_refl)))
  clear N5
  have hq := getD_bnd (ns := [d8, 62, 63, 64]) (i := Int.toNat d9) (lo := 0) (hi := 5536) (fun x hx => by
    simp only [List.mem_cons, List.not_mem_nil, or_false] at hx
    rcases hx with rfl | rfl | rfl | rfl <;> omega) (by decide) (by decide)
  generalize [d8, 62, 63, 64].getD (Int.toNat d9) 0 = sp at hq F5 ⊢
  obtain ⟨hq0, hq1⟩ := hq
  k_with_none
  k_with "call ref" => (refine Halt.mk ?_)
  k_with "storeName int" => (refine Halt.mk ?_)
  k_with "pyIter ref" => (refine Halt.mk ?_)
  k_with "eval ListComp BinOp cons" => (refine Halt.mk ?_)
  try dsimp only
  k_steps
  · refine Halt.out ?_
    have hr2 : ∀ p ∈ [(s1.heap.objs.size + 1 + 1 + 1, og), (s1.heap.objs.size + 1, o1')], p.1 ≠ s1.heap.objs.size + 1 + 1 := all_cons (Nat.succ_ne_self _) (all_cons (Nat.succ_ne_self _).symm all_nil)
    have hv : spanZ d7 (d7 + sp) = 18446744073709551615 := span_wide (by omega)
    try dsimp only
    refine store_cell (c := s1.heap.objs.size + 1 + 1) rfl rfl rfl F5 N6 hI1 hr2 ?_
    intro h10 od10 hz10 F10 N10
    have hz11 : ∃ dv tdv, dv = (18446744073709551615 : Int) ∧ od10.data = .cell (some (.int dv tdv)) := by
      refine ⟨_, _, ?_, hz10⟩
      rfl
    clear F5 N6 hz10
    obtain ⟨dv, tdv, hdv, hz10⟩ := hz11
    have hb : (spanZ d7 (d7 + sp) == dv) = true := beq_iff_eq.mpr (hv.trans hdv.symm)
    k_with_none
    k_with "call ref" => (k_dflt (refine' span_call ?lo ?c ?F ?N ?_; (case lo => exact (by exact ⟨rfl, rfl, by show (301 + 1 : Nat) ≤ _; decide, by first | exact Nat.le_of_ble_eq_true rfl | decide⟩)); (case c => assumption); (case F => k_asm); (case N => k_asm); k_whole; intro t99 h99 tk99 F' N'; (try k_sweep)))
    try dsimp only
    k_steps
  · refine Halt.out (ListComp_L (cl := []) (closureFor_none (by decide)) rfl (by decide) rfl (fun h => rfl) ?_)
    k_with_none
    k_with "pyIter ref" => (refine Halt.mk ?_)
    k_steps
    refine Halt.out ?_
    rename IsRange _ _ _ _ _ _ _ _ => rgB
    rename Fr _ _ _ _ => F7
    rename News _ _ _ _ => N7
    refine comp_range (n := (d7 + sp + 1 - d7).toNat) (fun i => 1 * 2 ^ ((d7 + (i : Int)).fmod 64).toNat) rfl rgB (small_of (by omega) (by omega) (by omega) (by omega)) (rangeSize_nat _ _) (by rw [sizeLine_eq]; omega) ?_ ?_
    · intro C9 i9 t9' s9 E9 hi9 hbd k09
      obtain ⟨m9, hn9, hm9⟩ := hbd
      exact num_elt (by exact ⟨rfl, rfl, by show (301 + 1 : Nat) ≤ _; decide, by first | exact Nat.le_of_ble_eq_true rfl | decide⟩) rfl rfl hn9 hm9
    intro DL h10 tk10 cc10 ys10 hI10 hD10 hl10 k10
    obtain ⟨N8, aDL⟩ := News.join1 F7 N7 (fun b o _ e => k10 b o e) hD10 hl10
    have F8 := F7.keeps k10
    have hl10' := hI10.length
    rw [List.length_map, List.length_range] at hl10'
    clear F7 N7 rgB hD10 hl10 k10
    k_with_none
    k_with "call ref" => (k_dflt (refine' span_call ?lo ?c ?F ?N ?_; (case lo => exact (by exact ⟨rfl, rfl, by show (301 + 1 : Nat) ≤ _; decide, by first | exact Nat.le_of_ble_eq_true rfl | decide⟩)); (case c => assumption); (case F => k_asm); (case N => k_asm); k_whole; intro t99 h99 tk99 F' N'; (try k_sweep)))
    k_with "storeName int" => (refine Halt.mk ?_)
    try dsimp only
    k_steps
    refine Halt.out ?_
    rename Fr _ _ _ _ => F5
    rename News _ _ _ _ => N5
    have N6 := News.sub (news' := [(s1.heap.objs.size + 1 + 1, od), (s1.heap.objs.size + 1 + 1 + 1, og), (s1.heap.objs.size + 1, o1')]) N5 (by (repeat' (first | with_reducible exact sub_nil | with_reducible exact sub_refl | with_reducible exact sub_left | with_reducible exact sub_right | (with_reducible refine sub_app ?_ ?_) | (refine sub_cons (by first | k_memK | k_ownIn) ?_) | refine sub_step ?_ | exact sub_left | exact sub_right | exact sub_refl)))
    clear N5
    have hr2 : ∀ p ∈ [(s1.heap.objs.size + 1 + 1 + 1, og), (s1.heap.objs.size + 1, o1')], p.1 ≠ s1.heap.objs.size + 1 + 1 := all_cons (Nat.succ_ne_self _) (all_cons (Nat.succ_ne_self _).symm all_nil)
    have hv : spanZ d7 (d7 + sp) = ((List.range (d7 + sp + 1 - d7).toNat).map fun (i : Nat) => (1 : Int) * 2 ^ ((d7 + (i : Int)).fmod 64).toNat).sum := (span_sum (by omega) (by omega)).trans (by rw [rangeKs, List.map_map]; rfl)
    try dsimp only
    refine store_cell (c := s1.heap.objs.size + 1 + 1) rfl rfl rfl F5 N6 hI1 hr2 ?_
    intro h11 od10 hz10 F10 N10
    have hz11 : ∃ dv tdv, dv = spanZ d7 (d7 + sp) ∧ od10.data = .cell (some (.int dv tdv)) := by
      refine ⟨_, _, ?_, hz10⟩
      exact hv.symm
    clear F5 N6 hz10
    obtain ⟨dv, tdv, hdv, hz10⟩ := hz11
    have hb : (spanZ d7 (d7 + sp) == dv) = true := beq_iff_eq.mpr hdv.symm
    try dsimp only
    k_steps
end
theorem law_x : PySem.Challenge.rw_nu0150_01.Holds :=
  w1.ok ⟨w2.ok ⟨w3.ok ⟨w4.ok ⟨w5.ok ⟨w6.ok ⟨w7.ok ⟨vdis⟩ ⟨va.ok ⟨vb.ok ⟨vc.ok ⟨vd.ok ⟨ve.ok ⟨vf.ok ⟨vlt⟩ ⟨vle⟩⟩⟩⟩⟩⟩⟩ ⟨vi.ok ⟨vfl⟩⟩⟩⟩⟩⟩⟩⟩
end Mine

theorem PySem.Challenge.cw_nu0150_01_holds : PySem.Challenge.rw_nu0150_01.Holds :=
  Mine.law_x
