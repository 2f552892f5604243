import PyProof.Rows.All
import Wide.All
import OpenK.AllK
import Wide.FinOn
import Lean
import PySem.Challenge.RW_pb0194_01
open PySem PySem.W PyProof.Rows
set_option Elab.async false
set_option maxRecDepth 100000
set_option maxHeartbeats 8000000
namespace Mine
/-- a row of the same program that the head refuses behind its laying of the written part and the view: their constants stay -/
abbrev bad : OpenRow := { PySem.Challenge.rw_pb0194_01.row with within := [5] }
def Nought : Prop := True
theorem bad_nought (_ : bad.Holds) : Nought := trivial
set_option linter.unusedSimpArgs false in
theorem hd : Nought ∨ True := by simp (disch := k_head) only [bad_nought, or_true]
end Mine
namespace Mine
abbrev Wd := List (Addr × Obj)
abbrev PW : Program := PySem.Challenge.pw_pb0194_01
/-- the around of every call here -/
abbrev Ar (dp un : Nat) (fr : Option (List Env)) (gd : Option (List Code)) : Around := { handled := none, depth := dp, frames := fr, guards := gd, units := un }
def Room (r dp un : Nat) : Prop := dp + 10 * r ≤ 900 ∧ un + 100 * r ≤ 9000
theorem room_sub {r r' d dp un dp' un' : Nat} (h : Room r dp un) (e : r = d + r') (hd : dp' ≤ dp + 10 * d) (hu : un' ≤ un + 100 * d) : Room r' dp' un' := by
  unfold Room at *; omega
theorem room_le {r r' dp un : Nat} (h : Room r dp un) (e : r' ≤ r) : Room r' dp un := by
  unfold Room at *; omega
theorem nle_of {a n m : Nat} (h : a ≤ n) (d : Nat.ble n m = true) : a ≤ m := Nat.le_trans h (Nat.le_of_ble_eq_true d)
theorem ile_lo {x n m : Int} (h : n ≤ x) (d : decide (m ≤ n) = true) : m ≤ x := Int.le_trans (of_decide_eq_true d) h
theorem ile_hi {x n m : Int} (h : x ≤ n) (d : decide (n ≤ m) = true) : x ≤ m := Int.le_trans h (of_decide_eq_true d)
theorem ilt_lo {x n m : Int} (h : n ≤ x) (d : decide (m < n) = true) : m < x := Int.lt_of_lt_of_le (of_decide_eq_true d) h
theorem ilt_hi {x n m : Int} (h : x ≤ n) (d : decide (n < m) = true) : x < m := Int.lt_of_le_of_lt h (of_decide_eq_true d)
theorem ilt_hi2 {x n m : Int} (h : x < n) (d : decide (n ≤ m) = true) : x < m := Int.lt_of_lt_of_le h (of_decide_eq_true d)
theorem nle_tn {x : Int} {n m : Nat} (h : x ≤ (n : Int)) (d : Nat.ble n m = true) : (x - 0).toNat ≤ m := by
  have := Nat.le_of_ble_eq_true d; omega
theorem sub_nil {α : Type} {B : List α} : ∀ p ∈ ([] : List α), p ∈ B := fun _ h => nomatch h
theorem sub_cons {α : Type} {x : α} {A B : List α} (h1 : x ∈ B) (h2 : ∀ p ∈ A, p ∈ B) : ∀ p ∈ x :: A, p ∈ B := fun p hp => (List.mem_cons.mp hp).elim (fun e => e ▸ h1) (h2 p)
theorem sub_app {α : Type} {A A' B : List α} (h1 : ∀ p ∈ A, p ∈ B) (h2 : ∀ p ∈ A', p ∈ B) : ∀ p ∈ A ++ A', p ∈ B := fun p hp => (List.mem_append.mp hp).elim (h1 p) (h2 p)
theorem mem_of_sub {α : Type} {p : α} {A B : List α} (h : ∀ q ∈ A, q ∈ B) (hp : p ∈ A) : p ∈ B := h p hp
theorem stopC (f : Addr) {M : Model} {A : Around} {a : List Value} {Q E : Value → Shared → Prop} {s : Shared} (h : wpAny M A (call (.ref f) a) Q E s) : wpAny M A (call (.ref f) a) Q E s := h
theorem room_u1 {r dp un a : Nat} (h : Room r dp un) (ha : a ≤ 800) : un + a < cLine := by
  have := cLine_is; unfold Room at h; omega
theorem room_u2 {r dp un a b : Nat} (h : Room r dp un) (ha : a + b ≤ 800) : un + a + b < cLine := by
  have := cLine_is; unfold Room at h; omega
theorem ne_l {a b : Addr} (h : a < b) : a ≠ b := Nat.ne_of_lt h
theorem ne_g {a b : Addr} (h : b < a) : a ≠ b := Nat.ne_of_gt h
theorem ne_l1 {a b : Addr} {c : Prop} (h : a < b ∧ c) : a ≠ b := Nat.ne_of_lt h.1
theorem ne_g1 {a b : Addr} {c : Prop} (h : b < a ∧ c) : a ≠ b := Nat.ne_of_gt h.1
theorem ne_l2 {a b : Addr} {c d : Prop} (h : d ∧ a < b ∧ c) : a ≠ b := Nat.ne_of_lt h.2.1
theorem ne_g2 {a b : Addr} {c d : Prop} (h : d ∧ b < a ∧ c) : a ≠ b := Nat.ne_of_gt h.2.1
theorem ne_l3 {a b : Addr} {c d e : Prop} (h : d ∧ e ∧ a < b ∧ c) : a ≠ b := Nat.ne_of_lt h.2.2.1
theorem ne_g3 {a b : Addr} {c d e : Prop} (h : d ∧ e ∧ b < a ∧ c) : a ≠ b := Nat.ne_of_gt h.2.2.1
/-- what a call may not touch stands -/
def Step (D : List Addr) (h h' : Heap) : Prop := ∀ b o, b ∉ D → h.get? b = some o → h'.get? b = some o
structure Grows (tl tl' : Wd) (h h' : Heap) : Prop where
  sub : ∀ p ∈ tl, p ∈ tl'
  at_ : ∀ p ∈ tl', h'.get? p.1 = some p.2
  fresh : ∀ p ∈ tl', p ∈ tl ∨ h.get? p.1 = none
/-- the ground: the top's part, and the ledger at a heap -/
structure Wo (w : World) (B : Heap) (led : Wd) (h : Heap) : Prop where
  X : (hd.heap_1 w.params).In B
  T : ∃ mean mg mb, Top hd.view_1 (looseW hd.view_1 []) mean mg mb B
  keep : ∀ b o, B.get? b = some o → h.get? b = some o
  at_ : ∀ p ∈ led, h.get? p.1 = some p.2
  off : ∀ p ∈ led, B.get? p.1 = none
/-- a call of the def at f -/
def Spec (w : World) (r : Nat) (f : Addr) (args : Args) (s : Shared) (D : List Addr) (tl : Wd) (Post : Value → Wd → Heap → Prop) : Prop :=
  ∀ (dp un : Nat) (fr : Option (List Env)) (gd : Option (List Code)) (R : Result → Shared → Prop), Room r dp un →
    (∀ v tl' h' tk, Step D s.heap h' → Grows tl tl' s.heap h' → Post v tl' h' → R (.ok (.ret v)) { s with heap := h', toks := tk }) →
    codeAny (model PW w) (Ar dp un fr gd) (.call (.ref f) args) R s

inductive QInt (tl : Wd) (X : Int) (r : Value) (tl' : Wd) (qh : Heap) : Prop
  | mk : ∀ t, r = .int X t → tl' = tl → QInt tl X r tl' qh
inductive QEq (tl : Wd) (x : Value) (r : Value) (tl' : Wd) (qh : Heap) : Prop
  | mk : r = x → tl' = tl → QEq tl x r tl' qh
theorem Step.refl (D : List Addr) (h : Heap) : Step D h h := fun _ _ _ e => e
theorem Step.trans {D : List Addr} {h₁ h₂ h₃ : Heap} (x : Step D h₁ h₂) (y : Step D h₂ h₃) : Step D h₁ h₃ := fun b o hb e => y b o hb (x b o hb e)
theorem Step.mono {D D' : List Addr} {h h' : Heap} (x : Step D h h') (hs : ∀ b ∈ D, b ∈ D') : Step D' h h' := fun b o hb e => x b o (fun m => hb (hs b m)) e
theorem Grows.refl {tl : Wd} {h : Heap} (e : ∀ p ∈ tl, h.get? p.1 = some p.2) : Grows tl tl h h := ⟨fun _ m => m, e, fun _ m => .inl m⟩
theorem Wo.sub {w : World} {B : Heap} {led led' : Wd} {h : Heap} (x : Wo w B led h) (hs : ∀ p ∈ led', p ∈ led) : Wo w B led' h :=
  ⟨x.X, x.T, x.keep, fun p m => x.at_ p (hs p m), fun p m => x.off p (hs p m)⟩

/-- behind a call: the ground again -/
theorem Wo.after {w : World} {B : Heap} {own own' tl tl' : Wd} {h h' : Heap} {D : List Addr} (x : Wo w B (own ++ tl) h) (hD : D = own.map (·.1)) (st : Step D h h') (g : Grows tl tl' h h')
    (ho : ∀ p ∈ own', h'.get? p.1 = some p.2) (ha : own'.map (·.1) = own.map (·.1)) : Wo w B (own' ++ tl') h' := by
  subst hD
  have offD : ∀ b ∈ own.map (·.1), B.get? b = none := fun b hb => by
    obtain ⟨p, hp, rfl⟩ := List.mem_map.mp hb
    exact x.off p (List.mem_append_left _ hp)
  refine ⟨x.X, x.T, fun b o e => st b o (fun m => by rw [offD b m] at e; cases e) (x.keep b o e), fun p hp => ?_, fun p hp => ?_⟩
  · rcases List.mem_append.mp hp with hp | hp
    · exact ho p hp
    · exact g.at_ p hp
  · rcases List.mem_append.mp hp with hp | hp
    · exact offD _ (ha ▸ List.mem_map_of_mem hp)
    · rcases g.fresh p hp with h1 | h1
      · exact x.off p (List.mem_append_right _ h1)
      · cases e : B.get? p.1 with
        | none => rfl
        | some o => rw [x.keep _ _ e] at h1; cases h1

/-- the entry of a def for the K walk -/
theorem enter {w : World} {B : Heap} {led : Wd} {s : Shared} {dp un : Nat} {fr : Option (List Env)} {gd : Option (List Code)} {r : Nat} {R : Result → Shared → Prop} {name qual : Str} {params : Arguments} {body : List Stmt} {scope : Scope}
    {dV kV doc pm cdv ct oc : Value} {an od : Option Addr} {osl : Array (Option Value)} {f : Addr} {args : Args} {binds : List (Str × Value)}
    (W : Wo w B led s.heap) (hr : Room r dp un) (h1 : 1 ≤ r)
    (ho : (hd.heap_1 w.params).lookup f = some ⟨oc, od, .func (fnOf name qual params body scope dV kV doc pm an cdv ct), osl⟩) (hcd : codeIn (hd.heap_1 w.params) cdv qual = true)
    (hbind : BindsTo s (fnOf name qual params body scope dV kV doc pm an cdv ct) args binds) (hloc : ∀ y ∈ binds, scope.names.lookup y.1 = some .local)
    (h : ∀ mean mg mb g L' h₁, Fr g L' h₁ (fun y => binds.reverse.lookup y) → News g L' h₁ led → (hd.heap_1 w.params).In g → Top hd.view_1 (looseW hd.view_1 []) mean mg mb g →
      (∀ b o, s.heap.get? b = some o → b ∉ led.map (·.1) → g.get? b = some o) → (∀ b o, g.get? b = some o → s.heap.get? b = some o) → s.heap.get? L' = none →
      wpAny (model PW w) ((Ar dp un fr gd).deeper (envOf qual scope L' f cdv)) (execs body (envOf qual scope L' f cdv))
        (fun fl s' => R (.ok (.ret (match fl with | .ret v => v | _ => .none))) s') (fun _ _ => False)
        { s with heap := h₁, toks := s.toks + binds.length })
    (hco : scope.isCoroutine = false := by rfl) (hgen : scope.isGenerator = false := by rfl) (hk : scope.kind = .function := by rfl)
    (hcell : ∀ x ∈ scope.names, x.2 ≠ .cell := by decide) : codeAny (model PW w) (Ar dp un fr gd) (.call (.ref f) args) R s := by
  obtain ⟨mean, mg, mb, T⟩ := W.T
  have Ts := T.keeps W.keep
  have Xs := W.X.keeps W.keep
  refine codeAny_call_def (fd := fnX name qual params body scope [] dV kV doc pm an cdv ct) (body := body) (binds := binds) (by have := hr.1; show dp < 1000; omega) (Xs _ _ ho) rfl Ts.nolimit (codeRec_of Xs hcd) rfl hbind hcell hloc (fun h₁ hns hk₁ => ?_) hco hgen hk
  have offB : ∀ b o, B.get? b = some o → b ∉ led.map (·.1) := fun b o e m => by
    obtain ⟨p, hp, rfl⟩ := List.mem_map.mp m
    rw [W.off p hp] at e; cases e
  have kB : ∀ b o, B.get? b = some o → (hideAll s.heap (led.map (·.1))).get? b = some o := fun b o e => hideAll_get _ (W.keep b o e) (offB b o e)
  refine wpAny_mono (h mean mg mb (hideAll s.heap (led.map (·.1))) s.heap.objs.size h₁ ⟨hns, fun b o e => hk₁ b o (of_hideAll _ e), Nat.le_of_eq (hideAll_size _ _)⟩ (fun p hp => ⟨hk₁ _ _ (W.at_ p hp), Nat.ne_of_lt (Heap.lt_size (W.at_ p hp)), hideAll_none _ (List.mem_map_of_mem hp)⟩)
    (W.X.keeps kB) (T.keeps kB) (fun b o e n => hideAll_get _ e n) (fun b o e => of_hideAll _ e) ?_) (fun _ _ x => x) fun _ _ x => x.elim
  cases e : s.heap.get? s.heap.objs.size with
  | none => rfl
  | some o => exact absurd (Heap.lt_size e) (Nat.lt_irrefl _)

/-- the end of a def behind the K walk: own' is what it made of own, new is new -/
theorem leave {g : Heap} {L' : Addr} {h h' : Heap} {m' : Str → Option Value} {own own' new tl : Wd} (at0 : ∀ p ∈ own ++ tl, h.get? p.1 = some p.2)
    (hg : ∀ b o, h.get? b = some o → b ∉ (own ++ tl).map (·.1) → g.get? b = some o) (F' : Fr g L' h' m') (N' : News g L' h' (own' ++ (new ++ tl))) (_ha : own'.map (·.1) = own.map (·.1)) (hf : ∀ n ∈ new, ∀ p ∈ own ++ tl, p.1 < n.1) :
    Step (own.map (·.1)) h h' ∧ Grows tl (new ++ tl) h h' ∧ ∀ p ∈ own', h'.get? p.1 = some p.2 := by
  refine ⟨fun b o hb e => ?_, ⟨fun p hp => List.mem_append_right _ hp, fun p hp => (N' p (List.mem_append_right _ hp)).1, fun p hp => ?_⟩, fun p hp => (N' p (List.mem_append_left _ hp)).1⟩
  · by_cases hm : b ∈ (own ++ tl).map (·.1)
    · obtain ⟨p, hp, rfl⟩ := List.mem_map.mp hm
      rcases List.mem_append.mp hp with q | q
      · exact absurd (List.mem_map_of_mem q) hb
      · have e1 := at0 p hp
        rw [e] at e1; cases e1
        exact (N' p (List.mem_append_right _ (List.mem_append_right _ q))).1
    · exact F'.keep b o (hg b o e hm)
  · rcases List.mem_append.mp hp with q | q
    · refine .inr ?_
      cases e : h.get? p.1 with
      | none => rfl
      | some o =>
        exfalso
        by_cases hm : p.1 ∈ (own ++ tl).map (·.1)
        · obtain ⟨p', hp', e'⟩ := List.mem_map.mp hm
          have := hf p q p' hp'
          rw [e'] at this
          exact Nat.lt_irrefl _ this
        · have := (N' p (List.mem_append_right _ hp)).2.2
          rw [hg _ _ e hm] at this; cases this
    · exact .inl q

section
variable {prog : Program} {w : World} {A : Around} {E : Value → Shared → Prop} {s : Shared} {h₀ : Heap} {L : Addr} {news : Wd}
theorem my_len {l : Addr} {vs : List Value} {n : Nat} {Q : Value → Shared → Prop} (N : News h₀ L s.heap news) (hm : (l, listOf vs.toArray n) ∈ news) (hz : vs.length ≤ 1000000) (h : Q (.int vs.length (s.toks + 1)) { s with toks := s.toks + 1 + 1 }) :
    wpAny (model prog w) A (call (.builtin "len") [.ref l]) Q E s := len_list (News.isList N hm) (by rw [List.size_toArray]; omega) (by rw [List.size_toArray]; exact h)
theorem my_item {value slice : PySem.Expr} {l : Addr} {vs : List Value} {cs : List Int} {n : Nat} {k : Int} {u : Tok} {Q : Value → Shared → Prop} (N : News h₀ L s.heap news) (hm : (l, listOf vs.toArray n) ∈ news) (hi : IntsAre vs cs)
    (hz : vs.length ≤ 1000000) (h0 : 0 ≤ k) (hk : k < (vs.length : Int)) (h : ∀ c t, c ∈ cs → Q (.int c t) s)
    (hs : subscripted slice false (.ref l) (.int k u) = operate [.ref l, .int k u] (getItem (.ref l) (.int k u)) := by with_unfolding_all rfl) :
    wpAny (model prog w) A (subscriptTail value slice (.ref l) (.int k u)) Q E s := by
  have hl := News.isList N hm
  have hlt : k.toNat < cs.length := by have := hi.length; omega
  obtain ⟨t, hx⟩ := hi.get k.toNat cs[k.toNat] (by simp [hlt])
  exact tail_any hl.typeIs slot_list_getitem.lookup (wpAny_getItem_list hl h0 (by omega) (by simpa using hx) (h _ _ (List.getElem_mem hlt))) hs
theorem my_abs {M : Model} {A : Around} {env : Env} {x : Str} {i : Int} {t : Tok} {Q : Unit → Shared → Prop} (h0 : 0 ≤ i) (h : ∀ j : Int, 0 ≤ j → wpAny M A (storeName env x (.int j t)) Q E s) : wpAny M A (storeName env x (.int i t)) Q E s := h i h0
end

abbrev tupOf (vs : List Value) (n : Nat) : Obj := { cls := .type "tuple", data := .seq vs.toArray n }
section
variable {w : World} {h₀ : Heap} {L : Addr} {m : Str → Option Value} {s : Shared} {led : Wd} {mean : ExcName → Option Value} {mg mb : Str → Option Value}
/-- the ground at a place of the K walk -/
theorem wo_of {h : Heap} (F : Fr h₀ L h m) (N : News h₀ L h led) (X : (hd.heap_1 w.params).In h₀) (T : Top hd.view_1 (looseW hd.view_1 []) mean mg mb h₀) : Wo w h₀ led h :=
  ⟨X, ⟨_, _, _, T⟩, F.keep, fun p hp => (N p hp).1, fun p hp => (N p hp).2.2⟩
/-- behind a call of a def (K walk): own is what it may change -/
theorem after_K {own own' tl tl' : Wd} {h h' : Heap} (F : Fr h₀ L h m) (N : News h₀ L h (own ++ tl)) (st : Step (own.map (·.1)) h h') (gr : Grows tl tl' h h') (ho : ∀ p ∈ own', h'.get? p.1 = some p.2) (ha : own'.map (·.1) = own.map (·.1)) :
    Fr h₀ L h' m ∧ News h₀ L h' (own' ++ tl') := by
  have nh : ∀ b, b ∈ own.map (·.1) → b ≠ L ∧ h₀.get? b = none := fun b hb => by
    obtain ⟨p, hp, rfl⟩ := List.mem_map.mp hb
    exact (N p (List.mem_append_left _ hp)).2
  refine ⟨⟨F.ns.at' fun o e => st L o (fun q => (nh L q).1 rfl) e, fun b o e => st b o (fun q => by rw [(nh b q).2] at e; cases e) (F.keep b o e), F.above⟩, fun p hp => ?_⟩
  rcases List.mem_append.mp hp with q | q
  · exact ⟨ho p q, nh p.1 (ha ▸ List.mem_map_of_mem q)⟩
  · refine ⟨gr.at_ p q, ?_⟩
    rcases gr.fresh p q with h1 | h1
    · exact (N p (List.mem_append_right _ h1)).2
    · refine ⟨fun e => ?_, ?_⟩
      · obtain ⟨o, _, _, hL, _⟩ := F.ns
        rw [e, hL] at h1; cases h1
      · cases e : h₀.get? p.1 with
        | none => rfl
        | some o => rw [F.keep _ _ e] at h1; cases h1
/-- a call that changes nothing that stood -/
theorem use0 {r dp un : Nat} {fr : Option (List Env)} {gd : Option (List Code)} {f : Addr} {args : Args} {Post : Value → Wd → Heap → Prop} {Q E : Value → Shared → Prop} (F : Fr h₀ L s.heap m) (N : News h₀ L s.heap led)
    (sp : Spec w r f args s [] led Post) (hr : Room r dp un)
    (k : ∀ v tl' h' tk, Post v tl' h' → Fr h₀ L h' m → News h₀ L h' tl' → (∀ p ∈ led, p ∈ tl') → (∀ p ∈ tl', p ∈ led ∨ ∀ q ∈ led, q.1 ≠ p.1) → Q v { s with heap := h', toks := tk }) :
    wpAny (model PW w) (Ar dp un fr gd) (call (.ref f) args.pos args.kw) Q E s := by
  refine wpAny_call (sp dp un fr gd _ hr fun v tl' h' tk st gr post => ?_)
  obtain ⟨F', N'⟩ := after_K (own := []) (own' := []) F N st gr (fun _ h => nomatch h) rfl
  refine k v tl' h' tk post F' N' gr.sub fun p hp => (gr.fresh p hp).imp id fun h1 q hq e => ?_
  have := (N q hq).1
  rw [e, h1] at this; cases this
theorem use0i {r dp un : Nat} {fr : Option (List Env)} {gd : Option (List Code)} {f : Addr} {a : List Value} {x : Int} {Q E : Value → Shared → Prop} (F : Fr h₀ L s.heap m) (N : News h₀ L s.heap led) (X : (hd.heap_1 w.params).In h₀) (T : Top hd.view_1 (looseW hd.view_1 []) mean mg mb h₀)
    (sp : Wo w h₀ led s.heap → Spec w r f ⟨a, []⟩ s [] led (QInt led x)) (hr : Room r dp un)
    (k : ∀ t h' tk, Fr h₀ L h' m → News h₀ L h' led → Q (.int x t) { s with heap := h', toks := tk }) :
    wpAny (model PW w) (Ar dp un fr gd) (call (.ref f) a) Q E s :=
  use0 (args := ⟨a, []⟩) F N (sp (wo_of F N X T)) hr fun _ _ h' tk ⟨t, e, e'⟩ F' N' _ _ => by
    subst e e'; exact k t h' tk F' N'
theorem use0e {r dp un : Nat} {fr : Option (List Env)} {gd : Option (List Code)} {f : Addr} {a : List Value} {x : Value} {Q E : Value → Shared → Prop} (F : Fr h₀ L s.heap m) (N : News h₀ L s.heap led) (X : (hd.heap_1 w.params).In h₀) (T : Top hd.view_1 (looseW hd.view_1 []) mean mg mb h₀)
    (sp : Wo w h₀ led s.heap → Spec w r f ⟨a, []⟩ s [] led (QEq led x)) (hr : Room r dp un)
    (k : ∀ h' tk, Fr h₀ L h' m → News h₀ L h' led → Q x { s with heap := h', toks := tk }) :
    wpAny (model PW w) (Ar dp un fr gd) (call (.ref f) a) Q E s :=
  use0 (args := ⟨a, []⟩) F N (sp (wo_of F N X T)) hr fun _ _ h' tk ⟨e, e'⟩ F' N' _ _ => by
    subst e e'; exact k h' tk F' N'
/-- a call that may change own -/
theorem use1 {r dp un : Nat} {fr : Option (List Env)} {gd : Option (List Code)} {f : Addr} {args : Args} {D : List Addr} {own tl : Wd} {Post : Value → Wd → Heap → Prop} {Q E : Value → Shared → Prop} (F : Fr h₀ L s.heap m) (N : News h₀ L s.heap (own ++ tl))
    (sp : Spec w r f args s D tl Post) (hD : D = own.map (·.1)) (hr : Room r dp un)
    (k : ∀ v tl' h' tk, Post v tl' h' → (∀ own' : Wd, own'.map (·.1) = own.map (·.1) → (∀ p ∈ own', h'.get? p.1 = some p.2) → Fr h₀ L h' m ∧ News h₀ L h' (own' ++ tl')) → (∀ p ∈ tl, p ∈ tl') → (∀ p ∈ tl', p ∈ tl ∨ ∀ q ∈ own ++ tl, q.1 ≠ p.1) → Q v { s with heap := h', toks := tk }) :
    wpAny (model PW w) (Ar dp un fr gd) (call (.ref f) args.pos args.kw) Q E s := by
  subst hD
  refine wpAny_call (sp dp un fr gd _ hr fun v tl' h' tk st gr post => ?_)
  refine k v tl' h' tk post (fun own' ha ho => after_K F N st gr ho ha) gr.sub fun p hp => (gr.fresh p hp).imp id fun h1 q hq e => ?_
  have := (N q hq).1
  rw [e, h1] at this; cases this
end
section
variable {prog : Program} {w : World} {A : Around} {E : Value → Shared → Prop} {s : Shared} {h₀ : Heap} {L : Addr} {news : Wd}
theorem my_lenT {l : Addr} {vs : List Value} {n : Nat} {Q : Value → Shared → Prop} (N : News h₀ L s.heap news) (hm : (l, tupOf vs n) ∈ news) (hz : vs.length ≤ 1000000) (h : Q (.int vs.length (s.toks + 1)) { s with toks := s.toks + 1 + 1 }) :
    wpAny (model prog w) A (call (.builtin "len") [.ref l]) Q E s := len_tuple (News.isTup N hm) (by rw [List.size_toArray]; omega) (by rw [List.size_toArray]; exact h)
theorem my_itemT {value slice : PySem.Expr} {l : Addr} {vs : List Value} {n : Nat} {k : Int} {u : Tok} {x : Value} {Q : Value → Shared → Prop} (N : News h₀ L s.heap news) (hm : (l, tupOf vs n) ∈ news)
    (hx : vs[k.toNat]? = some x) (h0 : 0 ≤ k) (hk : k < 1000000) (h : Q x s)
    (hs : subscripted slice false (.ref l) (.int k u) = operate [.ref l, .int k u] (getItem (.ref l) (.int k u)) := by with_unfolding_all rfl) :
    wpAny (model prog w) A (subscriptTail value slice (.ref l) (.int k u)) Q E s := by
  have hlt : k.toNat < vs.length := (List.getElem?_eq_some_iff.mp hx).1
  have hj : seqIndex? k vs.length = some k.toNat := by
    unfold seqIndex?
    have : ¬ k < 0 := by omega
    simp only [this, if_false]
    rw [if_pos]
    simp; omega
  exact item_tupleT (News.isTup N hm) (by omega) (by omega) hj hx h hs
theorem my_itemL {value slice : PySem.Expr} {l : Addr} {vs : List Value} {n : Nat} {k : Int} {u : Tok} {x : Value} {Q : Value → Shared → Prop} (N : News h₀ L s.heap news) (hm : (l, listOf vs.toArray n) ∈ news)
    (hx : vs[k.toNat]? = some x) (h0 : 0 ≤ k) (hk : k < 1000000) (h : Q x s)
    (hs : subscripted slice false (.ref l) (.int k u) = operate [.ref l, .int k u] (getItem (.ref l) (.int k u)) := by with_unfolding_all rfl) :
    wpAny (model prog w) A (subscriptTail value slice (.ref l) (.int k u)) Q E s := by
  have hl := News.isList N hm
  exact tail_any hl.typeIs slot_list_getitem.lookup (wpAny_getItem_list hl h0 (by omega) (by simpa using hx) h) hs
theorem ints_at {vs : List Value} {cs : List Int} (hi : IntsAre vs cs) {k : Nat} (hk : k < cs.length) : ∃ t, vs[k]? = some (.int (cs.getD k 0) t) := by
  obtain ⟨t, hx⟩ := hi.get k cs[k] (by simp [hk])
  exact ⟨t, by rw [hx]; simp [List.getD, hk]⟩
end
section
variable {prog : Program} {w : World} {A : Around} {E : Value → Shared → Prop} {s : Shared} {h₀ : Heap} {L : Addr} {news : Wd}
theorem my_itemTI {value slice : PySem.Expr} {l : Addr} {vs : List Value} {cs : List Int} {n : Nat} {k : Int} {u : Tok} {Q : Value → Shared → Prop} (N : News h₀ L s.heap news) (hm : (l, tupOf vs n) ∈ news) (hi : IntsAre vs cs)
    (h0 : 0 ≤ k) (hk : k < (cs.length : Int)) (hz : (cs.length : Int) ≤ 1000000) (h : ∀ t, Q (.int (cs.getD k.toNat 0) t) s)
    (hs : subscripted slice false (.ref l) (.int k u) = operate [.ref l, .int k u] (getItem (.ref l) (.int k u)) := by with_unfolding_all rfl) :
    wpAny (model prog w) A (subscriptTail value slice (.ref l) (.int k u)) Q E s := by
  obtain ⟨t, hx⟩ := ints_at hi (k := k.toNat) (by omega)
  exact my_itemT N hm hx h0 (by omega) (h t) hs
theorem my_mid {M : Model} {env : Env} {x : Str} {a b : Int} {t : Tok} {Q : Unit → Shared → Prop} (h0 : a < b) (h : ∀ j : Int, a ≤ j → j < b → wpAny M A (storeName env x (.int j t)) Q E s) :
    wpAny M A (storeName env x (.int ((a + b).fdiv 2) t)) Q E s := by
  have e : (a + b).fdiv 2 = (a + b) / 2 := Int.fdiv_eq_ediv_of_nonneg _ (by decide)
  rw [e]; exact h _ (by omega) (by omega)
end

local macro_rules | `(tactic| walk_at $s:str) => `(tactic| k_extra $s)
local macro_rules | `(tactic| omega) => `(tactic| k_extra "mine omega")

local macro_rules | `(tactic| k_all) => `(tactic| k_extra "mine k_all")
local macro_rules | `(tactic| k_mem) => `(tactic| k_extra "mine k_mem")

local macro_rules | `(tactic| ke_room) => `(tactic| k_extra "mine ke_room")
local macro_rules | `(tactic| k_ne) => `(tactic| k_extra "mine k_ne")

theorem row_j_1 : True := by
  (k_with "mine mem" => first | with_reducible assumption | exact List.mem_cons_self .. | exact List.mem_append_left _ (by k_extra "mine mem") | exact List.mem_append_right _ (by k_extra "mine mem") | exact List.mem_cons_of_mem _ (by k_extra "mine mem"))
  (k_with "mine sub" => first | exact sub_nil | exact sub_cons (by k_extra "mine mem") (by k_extra "mine sub") | exact sub_app (by k_extra "mine sub") (by k_extra "mine sub") | (intro _ _; k_extra "mine mem"))
  (k_with "mine omega" => first | with_reducible assumption | exact nle_of (by with_reducible assumption) rfl | exact ile_lo (by with_reducible assumption) rfl | exact ile_hi (by with_reducible assumption) rfl | exact ilt_lo (by with_reducible assumption) rfl | exact ilt_hi (by with_reducible assumption) rfl | exact ilt_hi2 (by with_reducible assumption) rfl | exact nle_tn (by with_reducible assumption) rfl | decide | omega +splitDisjunctions)
  (k_with "mine enter" => ( refine' enter (by assumption) (by assumption) (by decide) ?ho_q ?hcd_q ?hb_q ?hl_q ?_ ?c1_q ?c2_q ?c3_q ?c4_q; (case ho_q => k_is); (case hcd_q => k_is); (case hb_q => first | exact BindsTo.of_eq rfl | exact binds_K (Frag.In.keeps (Wo.X (by assumption)) (Wo.keep (by assumption))) rfl (by k_is) rfl rfl rfl); (case hl_q => exact locs rfl); (case c1_q => exact rfl); (case c2_q => exact rfl); (case c3_q => exact rfl); (case c4_q => decide); intro _ _ _ _ _ _ _ N_r; (try simp only [List.cons_append, List.nil_append] at N_r); revert N_r; intro _ _ _ _ _ _; (try dsimp only); (try k_fold)))
  (k_with "mine k_all" => assumption)
  (k_with "mine k_mem" => first | assumption | exact List.Mem.head _ | (refine' List.mem_cons_of_mem _ ?_; k_mem))
  (k_with "storeName" => ((with_reducible show wpAny _ _ (storeName _ (Str.ofString "great") (Value.int (_ + _) _)) _ _ _); (with_reducible refine my_abs (by omega) ?_); intro _ _))
  (k_with "call builtin:len" => (k_here; (with_reducible show wpAny _ _ (call (Value.builtin "len") [Value.ref _]) _ _ _); k_dflt (refine' my_len (by k_asm) (by k_mem) (by omega) ?_; k_whole)))
  (k_with "subscriptTail" => (k_here; (with_reducible show wpAny _ _ (subscriptTail _ _ (Value.ref _) (Value.int _ _)) _ _ _); (with_unfolding_all refine' my_item (by k_asm) (by k_mem) (by assumption) (by omega) (by omega) (by omega) ?_ ?k6_q; (case k6_q => with_unfolding_all rfl); k_whole); intro _ _ _))
  (k_with "mine go" => ((fail_if_success (with_reducible show wpAny _ _ (exec (Stmt.While _ _ _ _) _) _ _ _)); (fail_if_success (with_reducible show wpAny _ _ (exec (Stmt.For _ _ _ _ _) _) _ _ _)); (fail_if_success (with_reducible show wpAny _ _ (exec (Stmt.Assign _ (Expr.ListComp _ _ _ _) _) _) _ _ _)); (fail_if_success (with_reducible show wpAny _ _ (eval (Expr.ListComp _ _ _ _) _) _ _ _)); (fail_if_success (with_reducible show wpAny _ _ (pyIter _) _ _ _))))
  (k_with "mine one" => first | (k_unfold; (try dsimp only)) | (k_end; fail "end") | (walk1; (try dsimp only)) | (dsimp only; walk1) | (leave1; (try dsimp only)) | fail "no step")
  (k_with "mine no" => ((fail_if_success (with_reducible show wpAny _ _ (execs _ _) _ _ _)); (k_extra "mine go")))
  (k_with "mine steps" => repeat' (k_extra "mine go"; k_extra "mine one"))
  (k_with "mine room" => first | exact room_le (by assumption) (by decide) | exact room_sub (by assumption) rfl (Nat.add_le_add_left (by decide) _) (Nat.add_le_add_left (by decide) _) | (unfold Room at *; (try dsimp only [Around.deeper, Around.in1, Ar]); omega))
  (k_with "mine flds" => repeat (rename Flds _ _ => hF_r; cases hF_r))
  (k_with "mine obj" => first | assumption | exact IsObj.mono (by assumption) (fun p hp => by repeat (first | exact hp | refine List.mem_cons_of_mem _ ?_)))
  (k_with "call ref" => ((with_reducible show wpAny _ _ (call _ (_ ++ _)) _ _ _); dsimp only [List.cons_append, List.nil_append]))
  (k_with "mine ke_room" => first | exact room_u2 (by assumption) (by decide) | exact room_u1 (by assumption) (by decide) | (have h_r := cLine_is; (unfold Room at *); (try simp only [units_in1, units_deeper]); (try dsimp only [Around.deeper, Around.in1, Ar]); omega))
  (k_with "getMethod ref" => (k_here; (with_reducible show wpAny _ _ (getMethod (Value.ref _) (Str.ofString "get") _) _ _ _); k_dflt (refine kdg_method (knd := PySem.intKind PW _) (by k_asm) (by k_mem) (by assumption) ?_)))
  (k_with "call builtin:dict.get" => (k_here; k_dflt (refine kdg_get2 (knd := PySem.intKind PW _) (by k_asm) (by k_mem) (by assumption) (by assumption) (intKind_is _ _ _ _) _ rfl ?_)))
  (k_with "call builtin:len" => (k_here; (with_reducible show wpAny _ _ (call (Value.builtin "len") [Value.ref _]) _ _ _); k_dflt (refine' my_lenT (by k_asm) (by k_mem) (by omega) ?_; k_whole)))
  (k_with "subscriptTail" => (k_here; (with_reducible show wpAny _ _ (subscriptTail _ _ (Value.ref _) (Value.int _ _)) _ _ _); (with_unfolding_all refine' my_itemT (by k_asm) (by k_mem) (by assumption) (by omega) (by omega) ?_ ?k6_q; (case k6_q => with_unfolding_all rfl); k_whole)))
  (k_with "subscriptTail" => (k_here; (with_reducible show wpAny _ _ (subscriptTail _ _ (Value.ref _) (Value.int _ _)) _ _ _); (with_unfolding_all refine' my_itemL (by k_asm) (by k_mem) (by assumption) (by omega) (by omega) ?_ ?k6_q; (case k6_q => with_unfolding_all rfl); k_whole)))
  (k_with "subscriptTail" => (k_here; (with_reducible show wpAny _ _ (subscriptTail _ _ (Value.ref _) (Value.int _ _)) _ _ _); (with_unfolding_all refine' my_itemTI (by k_asm) (by k_mem) (by assumption) (by omega) (by omega) (by omega) ?_ ?k6_q; (case k6_q => with_unfolding_all rfl); k_whole); intro _))
  (k_with "storeName" => ((with_reducible refine my_mid (by omega) ?_); intro _ _ _))
  (k_with "mine k_ne" => ((try dsimp only); first | with_reducible assumption | exact Ne.symm (by with_reducible assumption) | exact ne_l (by with_reducible assumption) | exact ne_g (by with_reducible assumption) | exact ne_l1 (by with_reducible assumption) | exact ne_g1 (by with_reducible assumption) | exact ne_l2 (by with_reducible assumption) | exact ne_g2 (by with_reducible assumption) | exact ne_l3 (by with_reducible assumption) | exact ne_g3 (by with_reducible assumption) | (refine neN ?_; (try dsimp only); omega)))
  trivial
inductive Qdraw (tl : Wd) (P C : Addr) (spot base many : Int) (v : Value) (tl' : Wd) (h' : Heap) : Prop
  | mk : tl' = tl → ∀ x tx spot' t1' rest' t2' t3' n', v = .int x tx → 0 ≤ x → x < many →
      h'.get? P = some (listOf #[.ref C, .int spot' t1', .int rest' t2', .int base t3'] n') → 0 ≤ spot' → spot' ≤ spot + 1 → 0 ≤ rest' → Qdraw tl P C spot base many v tl' h'
theorem draw_spec {w : World} {B : Heap} {s : Shared} {tl : Wd} {P C : Addr} {vs : List Value} {cs : List Int} {spot rest base many : Int} {t1 t2 t3 tm : Tok} {n nc : Nat}
   (W : Wo w B ([(P, listOf #[.ref C, .int spot t1, .int rest t2, .int base t3] n)] ++ tl) s.heap) (hC : (C, listOf vs.toArray nc) ∈ tl) (hi : IntsAre vs cs) (hlen : vs.length ≤ 63) (hne : ∀ p ∈ tl, p.1 ≠ P)
   (h0 : 0 ≤ spot) (hk : spot ≤ 1000000) (hr0 : 0 ≤ rest) (hb0 : 0 ≤ base) (hb1 : base < 1009) (hm0 : 1 ≤ many) (hm1 : many ≤ 8) :
   Spec w 1 502 ⟨[.ref P, .int many tm], []⟩ s [P] tl (Qdraw tl P C spot base many) := by
  intro dp un fr gd R hR hret
  k_extra "mine enter"
  k_extra "mine steps"
  all_goals (
    obtain ⟨st, gr, ho⟩ := leave (own' := [(P, _)]) (new := []) W.at_ (by assumption) (by assumption) (by assumption) (by rfl) (fun _ h => nomatch h)
    refine hret _ _ _ _ st gr ⟨rfl, _, _, _, _, _, _, _, _, rfl, ?_, ?_, ho _ (List.mem_singleton.mpr rfl), ?_, ?_, ?_⟩
    all_goals first
      | exact Int.fmod_nonneg_of_pos _ (by omega)
      | exact Int.fmod_lt_of_pos _ (by omega)
      | exact Int.fdiv_nonneg (by omega) (by omega)
      | omega)

inductive Qini (P : Addr → Addr → List DictEntry → Nat → Wd → Prop) (x dx : Addr) (v : Value) (tl' : Wd) (h'' : Heap) : Prop
  | mk : v = .none → ∀ es n, h''.get? dx = some (dictOf es n) → P x dx es n tl' → Qini P x dx v tl' h''
inductive Qmake_of (tl : Wd) (C : Addr) (P : Addr → Addr → List DictEntry → Nat → Wd → Prop) (v : Value) (tl' : Wd) (h' : Heap) : Prop
  | mk : ∀ x dx es n tl₀, v = .ref x → tl' = (dx, dictOf es n) :: tl₀ → (x, instObj C dx) ∈ tl₀ → (∀ p ∈ tl, p ∈ tl₀) → (∀ p ∈ tl₀, p.1 ≠ dx) → P x dx es n tl₀ → Qmake_of tl C P v tl' h'
/-- the making of an object of a class: the class's __init__ walked upon a new object -/
theorem make_of {w : World} {B : Heap} {s : Shared} {tl : Wd} {r : Nat} {C fI : Addr} {args : List Value} {P : Addr → Addr → List DictEntry → Nat → Wd → Prop} (W : Wo w B tl s.heap)
    (hm : makesIn (hd.heap_1 w.params) C = true) (hi : findIn (hd.heap_1 w.params) (.ref C) "__init__" = some (some (.ref fI))) (hf : typeIn (hd.heap_1 w.params) (.ref fI) = some (.type "function"))
    (h : ∀ x dx h', Wo w B ([(dx, dictOf [] 0)] ++ ((x, instObj C dx) :: tl)) h' → (∀ p ∈ tl, p.1 < dx) → dx < x → (∀ b o, s.heap.get? b = some o → h'.get? b = some o) →
      Spec w r fI ⟨.ref x :: args, []⟩ { s with heap := h' } [dx] ((x, instObj C dx) :: tl) (Qini P x dx)) :
    Spec w (r + 1) C ⟨args, []⟩ s [] tl (Qmake_of tl C P) := by
  intro dp un fr gd R hR hret
  obtain ⟨hh, g, d, t, os⟩ := s
  have Xs := W.X.keeps W.keep
  have up : ∀ b o, hh.get? b = some o → ((hh.push emptyDict).push (instObj C hh.objs.size)).get? b = some o := fun b o e => Heap.get?_push_of_some _ (Heap.get?_push_of_some _ e)
  have e1 : ((hh.push emptyDict).push (instObj C hh.objs.size)).get? hh.objs.size = some (dictOf [] 0) := Heap.get?_push_of_some _ (Heap.get?_push_size _ rfl)
  have e2 : ((hh.push emptyDict).push (instObj C hh.objs.size)).get? (hh.objs.size + 1) = some (instObj C hh.objs.size) := by
    have := Heap.get?_push_size (hh.push emptyDict) (o := instObj C hh.objs.size) rfl
    rwa [Heap.size_push] at this
  have none0 : ∀ a, hh.objs.size ≤ a → hh.get? a = none := fun a ha => by
    cases e : hh.get? a with
    | none => rfl
    | some o' => exact absurd (Heap.lt_size e) (Nat.not_lt.mpr ha)
  have noneB : ∀ a, hh.objs.size ≤ a → B.get? a = none := fun a ha => by
    cases e : B.get? a with
    | none => rfl
    | some o' => have e' := W.keep _ _ e; have e'' := none0 a ha; rw [e'] at e''; cases e''
  have W' : Wo w B ([(hh.objs.size, dictOf [] 0)] ++ ((hh.objs.size + 1, instObj C hh.objs.size) :: tl)) ((hh.push emptyDict).push (instObj C hh.objs.size)) := by
    refine ⟨W.X, W.T, fun b o e => up b o (W.keep b o e), fun p hp => ?_, fun p hp => ?_⟩
    · rcases List.mem_cons.mp hp with rfl | hp
      · exact e1
      rcases List.mem_cons.mp hp with rfl | hp
      · exact e2
      exact up _ _ (W.at_ p hp)
    · rcases List.mem_cons.mp hp with rfl | hp
      · exact noneB _ (Nat.le_refl _)
      rcases List.mem_cons.mp hp with rfl | hp
      · exact noneB _ (Nat.le_succ _)
      exact W.off p hp
  refine make_core (makes_of Xs hm) (looks_findIn Xs hi) (fun self => bind_fn Xs self hf) (.inl rfl) ?_
  refine h (hh.objs.size + 1) hh.objs.size _ W' (fun p hp => Heap.lt_size (W.at_ p hp)) (Nat.lt_succ_self _) up (dp + 1) (un + 1) fr gd _ (by unfold Room at *; omega) ?_
  rintro v tl' h' tk st gr ⟨rfl, es, n, ho, hP⟩
  refine ⟨rfl, hret _ ((hh.objs.size, dictOf es n) :: tl') h' tk ?_ ⟨fun p hp => List.mem_cons_of_mem _ (gr.sub p (List.mem_cons_of_mem _ hp)), fun p hp => ?_, fun p hp => ?_⟩ ⟨_, _, es, n, tl', rfl, rfl, gr.sub _ (List.mem_cons_self ..), fun p hp => gr.sub p (List.mem_cons_of_mem _ hp), fun p hp q => ?_, hP⟩⟩
  · intro b o _ e
    exact st b o (fun hm => Nat.lt_irrefl _ (List.mem_singleton.mp hm ▸ Heap.lt_size e)) (up b o e)
  · rcases List.mem_cons.mp hp with rfl | hp
    · exact ho
    · exact gr.at_ p hp
  · rcases List.mem_cons.mp hp with rfl | hp
    · exact .inr (none0 _ (Nat.le_refl _))
    · rcases gr.fresh p hp with h1 | h1
      · rcases List.mem_cons.mp h1 with rfl | h1
        · exact .inr (none0 _ (Nat.le_succ _))
        · exact .inl h1
      · refine .inr ?_
        cases e : hh.get? p.1 with
        | none => rfl
        | some o => have h1' : ((hh.push emptyDict).push (instObj C hh.objs.size)).get? p.1 = none := h1; rw [up _ _ e] at h1'; cases h1'
  · rcases gr.fresh p hp with h1 | h1
    · rcases List.mem_cons.mp h1 with rfl | h1
      · exact Nat.succ_ne_self _ q
      · exact Nat.lt_irrefl _ (q ▸ Heap.lt_size (W.at_ p h1) : hh.objs.size < hh.objs.size)
    · have h1' : ((hh.push emptyDict).push (instObj C hh.objs.size)).get? p.1 = none := h1
      rw [q, e1] at h1'; cases h1'

/-- the same value but for its token -/
def Like : Value → Value → Prop
  | v, .int i _ => ∃ t, v = .int i t
  | v, .str x _ => ∃ t, v = .str x t
  | v, u => v = u
theorem Like.refl (v : Value) : Like v v := by cases v <;> first | exact rfl | exact ⟨_, rfl⟩
inductive Flds : List DictEntry → List (Str × Value) → Prop
  | nil : Flds [] []
  | cons {h : Int} {k : Tok} {n : Str} {v u : Value} {es : List DictEntry} {r : List (Str × Value)} : Like v u → Flds es r → Flds (⟨h, .str n k, v⟩ :: es) ((n, u) :: r)
inductive IsObj (tl : Wd) (x C : Addr) (fs : List (Str × Value)) : Prop
  | mk : ∀ dx es n, (x, instObj C dx) ∈ tl →
    (dx, dictOf es n) ∈ tl →
    Flds es fs → IsObj tl x C fs
theorem IsObj.mono {tl tl' : Wd} {x C : Addr} {fs : List (Str × Value)} (h : IsObj tl x C fs) (hs : ∀ p ∈ tl, p ∈ tl') : IsObj tl' x C fs :=
  let ⟨dx, es, n, a, b, c⟩ := h; ⟨dx, es, n, hs _ a, hs _ b, c⟩
/-- what the making of an object with these fields gives -/
def Makes1 (w : World) (r : Nat) (C : Addr) (args : List Value) (s : Shared) (tl : Wd) (fs : List (Str × Value)) : Prop :=
  Spec w r C ⟨args, []⟩ s [] tl (Qmake_of tl C fun x dx es _n tl₀ => Flds es fs ∧ tl₀ = (x, instObj C dx) :: tl)

/-- where a field stands -/
inductive FldAt : List (Str × Value) → Str → Value → Prop
  | here {n : Str} {v : Value} {r : List (Str × Value)} : FldAt ((n, v) :: r) n v
  | there {n n' : Str} {u v : Value} {r : List (Str × Value)} : (n' == n) = false → FldAt r n v → FldAt ((n', u) :: r) n v
/-- a field stored: the old one's place, or behind -/
inductive FldPut (n : Str) (v : Value) : List (Str × Value) → List (Str × Value) → Nat → Prop
  | nil {u : Value} : Like v u → FldPut n v [] [(n, u)] 1
  | here {u u' : Value} {r : List (Str × Value)} : Like v u' → FldPut n v ((n, u) :: r) ((n, u') :: r) 0
  | there {n' : Str} {u : Value} {r r' : List (Str × Value)} {k : Nat} : (n' == n) = false → FldPut n v r r' k → FldPut n v ((n', u) :: r) ((n', u) :: r') k
theorem isStr_key (n x : Str) (k : Tok) : (Value.str n k).isStr x = (n == x) := rfl
theorem FldAt.find {fs : List (Str × Value)} {n : Str} {v : Value} (h : FldAt fs n v) : ∀ {es : List DictEntry}, Flds es fs → ∃ e, es.find? (·.key.isStr n) = some e ∧ Like e.val v := by
  induction h with
  | here =>
    intro es hF
    cases hF with | cons l hF =>
    exact ⟨_, by rw [List.find?_cons, show (Value.isStr (Value.str _ _) _) = true from by rw [isStr_key]; exact beq_self_eq_true _], l⟩
  | there hne _ ih =>
    intro es hF
    cases hF with | cons l hF =>
    obtain ⟨e, he, hl⟩ := ih hF
    exact ⟨e, by rw [List.find?_cons, show (Value.isStr (Value.str _ _) _) = false from by rw [isStr_key]; exact hne]; exact he, hl⟩
theorem FldAt.get {fs : List (Str × Value)} {n : Str} {v : Value} (h : FldAt fs n v) {es : List DictEntry} (hF : Flds es fs) : ∃ u, getL n es = some (some u) ∧ Like u v := by
  obtain ⟨e, he, hl⟩ := h.find hF
  exact ⟨e.val, by unfold getL; rw [he], hl⟩
theorem flds_noref {fs : List (Str × Value)} : ∀ {es : List DictEntry}, Flds es fs → es.any (·.refKey) = false := by
  intro es hF
  induction hF with
  | nil => rfl
  | cons _ _ ih => rw [List.any_cons, ih]; rfl
theorem FldPut.put {fs fs' : List (Str × Value)} {n : Str} {v : Value} {c : Nat} (h : FldPut n v fs fs' c) : ∀ {es : List DictEntry} (hsh : Int) (t : Tok) (k : Nat), Flds es fs → Flds (putL n hsh (.str n t) v es) fs' ∧ putN n es k = k + c ∧ (getL n es).isSome = true ∧ (putL n hsh (.str n t) v es).length ≤ es.length + 1 := by
  intro es hsh t k hF
  have hg : (getL n es).isSome = true := by
    unfold getL
    split
    · rfl
    · rw [flds_noref hF]; rfl
  have key : Flds (putL n hsh (.str n t) v es) fs' ∧ (es.any (·.key.isStr n) = true ∧ c = 0 ∨ es.any (·.key.isStr n) = false ∧ c = 1) ∧ (putL n hsh (.str n t) v es).length ≤ es.length + 1 := by
    clear hg
    induction h generalizing es with
    | nil l =>
      cases hF
      exact ⟨.cons l .nil, .inr ⟨rfl, rfl⟩, Nat.le_refl _⟩
    | here l =>
      cases hF with | @cons h0 k0 _ _ _ _ _ _ hF =>
      have e : (Value.str n k0).isStr n = true := by rw [isStr_key]; exact beq_self_eq_true _
      refine ⟨?_, .inl ⟨by rw [List.any_cons, e]; rfl, rfl⟩, ?_⟩
      · unfold putL; rw [if_pos e]; exact .cons l hF
      · unfold putL; rw [if_pos e]; simp
    | @there n' _ _ _ _ hne _ ih =>
      cases hF with | @cons h0 k0 _ _ _ _ _ l hF =>
      obtain ⟨a, b, c⟩ := ih hF
      have e : (Value.str n' k0).isStr n = false := by rw [isStr_key]; exact hne
      refine ⟨?_, ?_, ?_⟩
      · unfold putL; rw [if_neg (by rw [e]; exact Bool.false_ne_true)]; exact .cons l a
      · rw [List.any_cons, e, Bool.false_or]; exact b
      · unfold putL; rw [if_neg (by rw [e]; exact Bool.false_ne_true)]; simpa using c
  refine ⟨key.1, ?_, hg, key.2.2⟩
  unfold putN
  rcases key.2.1 with ⟨a, b⟩ | ⟨a, b⟩
  · rw [if_pos a, b]; rfl
  · rw [if_neg (by rw [a]; exact Bool.false_ne_true), b]
theorem updF_upd' {d : Addr} {o o' : Obj} : ∀ {l : Wd} {g : Obj → Wd}, UpdF d o l g → Upd d o o' l (g o')
  | _, _, .head h => .head h
  | _, _, .tail h r => .tail h (updF_upd' r)
def plainV : Value → Bool
  | .int .. => false
  | .str .. => false
  | _ => true
theorem like_plain {u v : Value} (h : plainV v = true) (l : Like u v) : u = v := by
  cases v <;> first | exact l | cases h
section
variable {w : World} {A : Around} {E : Value → Shared → Prop} {s : Shared} {h₀ : Heap} {L x C dx : Addr} {m : Str → Option Value} {news : Wd} {es : List DictEntry} {fs fs' : List (Str × Value)} {n c : Nat} {name : Str} {K : Frag} {expr : Bool} {attr : Option Value}
theorem get_fR {v : Value} {Q : Value → Shared → Prop} (F : Fr h₀ L s.heap m) (X₀ : K.In h₀) (N : News h₀ L s.heap news) (hx : (x, instObj C dx) ∈ news) (hd : (dx, dictOf es n) ∈ news) (hF : Flds es fs) (hl : FldAt fs name v) (hp : plainV v = true) (hg : plainGet K C name = true) (hh : hasDictIn K C = true)
    (ha : findIn K (.ref C) name = some attr) (hn : noGet K attr = true) (hv : handedIn v = true) (h : Q v { s with toks := s.toks + 1 }) : wpAny (model PW w) A (getAttr (.ref x) name expr) Q E s := by
  obtain ⟨u, e, l⟩ := hl.get hF
  rw [like_plain hp l] at e
  exact get_own F X₀ (InstAt.of_news N hx hd) hg hh ha hn e hv h
theorem get_fI {i : Int} {t₀ : Tok} {Q : Value → Shared → Prop} (F : Fr h₀ L s.heap m) (X₀ : K.In h₀) (N : News h₀ L s.heap news) (hx : (x, instObj C dx) ∈ news) (hd : (dx, dictOf es n) ∈ news) (hF : Flds es fs) (hl : FldAt fs name (.int i t₀)) (hg : plainGet K C name = true) (hh : hasDictIn K C = true)
    (ha : findIn K (.ref C) name = some attr) (hn : noGet K attr = true) (h : ∀ t, Q (.int i t) { s with toks := s.toks + 1 }) : wpAny (model PW w) A (getAttr (.ref x) name expr) Q E s := by
  obtain ⟨u, e, t, rfl⟩ := hl.get hF
  exact get_own F X₀ (InstAt.of_news N hx hd) hg hh ha hn e rfl (h t)
theorem get_fS {i : Str} {t₀ : Tok} {Q : Value → Shared → Prop} (F : Fr h₀ L s.heap m) (X₀ : K.In h₀) (N : News h₀ L s.heap news) (hx : (x, instObj C dx) ∈ news) (hd : (dx, dictOf es n) ∈ news) (hF : Flds es fs) (hl : FldAt fs name (.str i t₀)) (hg : plainGet K C name = true) (hh : hasDictIn K C = true)
    (ha : findIn K (.ref C) name = some attr) (hn : noGet K attr = true) (h : ∀ t, Q (.str i t) { s with toks := s.toks + 1 }) : wpAny (model PW w) A (getAttr (.ref x) name expr) Q E s := by
  obtain ⟨u, e, t, rfl⟩ := hl.get hF
  exact get_own F X₀ (InstAt.of_news N hx hd) hg hh ha hn e rfl (h t)
theorem set_f {v : Value} {Q : Unit → Shared → Prop} {g : Obj → Wd} {n' : Nat} (F : Fr h₀ L s.heap m) (X₀ : (hd.heap_1 w.params).In h₀) (N : News h₀ L s.heap news) (hx : (x, instObj C dx) ∈ news) (hdd : (dx, dictOf es n) ∈ news) (hF : Flds es fs) (hl : FldPut name v fs fs' c) (hz : fs.length ≤ 100) (e : n' = n + c)
    (hs : findIn (hd.heap_1 w.params) (.ref C) "__setattr__" = some (some (.builtin "object.__setattr__"))) (hp : plainOver (hd.heap_1 w.params) C = true) (ht : takerIn (hd.heap_1 w.params) C name = some none) (hh : hasDictIn (hd.heap_1 w.params) C = true) (U : UpdF dx (dictOf es n) news g)
    (h : ∀ es' h', Flds es' fs' → Fr h₀ L h' m → News h₀ L h' (g (dictOf es' n')) → Q () { s with heap := h', toks := s.toks + 2 }) : wpAny (model PW w) A (setAttr (.ref x) name v) Q E s := by
  obtain ⟨a, b, c', d⟩ := hl.put (PyData.keyHash w.params name) (s.toks + 1) n hF
  subst e
  have len : es.length = fs.length := by
    clear a b c' d hdd U hl h
    induction hF with
    | nil => rfl
    | cons _ _ ih => simp only [List.length_cons] at hz ⊢; rw [ih (by omega)]
  exact set_dict F X₀ N (InstAt.of_news N hx hdd) rfl hs hp ht hh c' (by rw [b]) (updF_upd' U) (by omega) fun h' F' N' => h _ h' a F' N'
end
theorem fld_none {n : Str} {fs : List (Str × Value)} (hn : fs.all (fun p => !(p.1 == n)) = true) : ∀ {es : List DictEntry}, Flds es fs → getL n es = some none := by
  intro es hF
  have h1 : es.find? (·.key.isStr n) = none := by
    induction hF with
    | nil => rfl
    | cons _ _ ih =>
      rw [List.all_cons, Bool.and_eq_true] at hn
      rw [List.find?_cons, show (Value.isStr (Value.str _ _) _) = false from by rw [isStr_key]; simpa using hn.1]
      exact ih hn.2
  unfold getL
  rw [h1, flds_noref hF]; rfl
theorem method_f {w : World} {A : Around} {E : Value → Shared → Prop} {s : Shared} {h₀ : Heap} {L x C dx : Addr} {m : Str → Option Value} {news : Wd} {es : List DictEntry} {fs : List (Str × Value)} {n : Nat} {name : Str} {K : Frag} {pl : Sem Bool} {Q : Value × List Value → Shared → Prop} {f : Addr} (F : Fr h₀ L s.heap m) (X₀ : K.In h₀) (N : News h₀ L s.heap news) (hx : (x, instObj C dx) ∈ news) (hd : (dx, dictOf es n) ∈ news) (hF : Flds es fs) (hn : fs.all (fun p => !(p.1 == name)) = true) (hg : plainGet K C name = true)
    (hf : findIn K (.ref C) name = some (some (.ref f))) (ht : isFn K (.ref f) = true) (h : Q (.ref f, [.ref x]) s) : wpAny (model PW w) A (getMethod (.ref x) name pl) Q E s :=
  method_inst F X₀ (InstAt.of_news N hx hd) hg hf ht (fld_none hn hF) h
theorem row_j_2 : True := by
  (k_with "getMethod ref" => (k_here; k_dflt (refine' method_f ?k1_q ?k2_q ?k3_q ?k4_q ?k5_q ?k6_q ?k7_q ?c1_q ?c2_q ?c3_q ?_; (case k1_q => k_asm); (case k2_q => k_asm); (case k3_q => k_asm); (case k4_q => k_mem); (case k5_q => k_mem); (case k6_q => assumption); (case k7_q => kernel_rfl); (case c1_q => k_is); (case c2_q => k_is); (case c3_q => k_is); k_whole)))
  trivial
theorem like_int0 (i : Int) (t : Tok) : Like (.int i t) (.int i 0) := ⟨t, rfl⟩
theorem like_str0 (i : Str) (t : Tok) : Like (.str i t) (.str i 0) := ⟨t, rfl⟩

theorem row_j_3 : True := by
  (k_with "mine fldat" => repeat' (first | (with_reducible exact FldAt.here) | (with_reducible refine' FldAt.there (by decide +kernel) ?_)))
  (k_with "mine fldput" => repeat' (first | (with_reducible refine' FldPut.here ?_) | (with_reducible refine' FldPut.nil ?_) | (with_reducible refine' FldPut.there (by decide +kernel) ?_) | (with_reducible exact like_int0 _ _) | (with_reducible exact like_str0 _ _) | exact Like.refl _))
  (k_with "getAttr ref" => (k_here; k_dflt (first | (refine' get_fR ?k1_q ?k2_q ?k3_q ?k4_q ?k5_q ?k6_q ?k7_q ?k8_q ?c1_q ?c2_q ?c3_q ?c4_q ?k9_q ?_; (case k1_q => k_asm); (case k2_q => k_asm); (case k3_q => k_asm); (case k4_q => k_mem); (case k5_q => k_mem); (case k6_q => assumption); (case k7_q => k_extra "mine fldat"); (case k8_q => exact rfl); (case c1_q => k_is); (case c2_q => k_is); (case c3_q => k_is); (case c4_q => k_is); (case k9_q => k_handed); k_whole) | (refine' get_fI ?k1_q ?k2_q ?k3_q ?k4_q ?k5_q ?k6_q ?k7_q ?c1_q ?c2_q ?c3_q ?c4_q ?_; (case k1_q => k_asm); (case k2_q => k_asm); (case k3_q => k_asm); (case k4_q => k_mem); (case k5_q => k_mem); (case k6_q => assumption); (case k7_q => k_extra "mine fldat"); (case c1_q => k_is); (case c2_q => k_is); (case c3_q => k_is); (case c4_q => k_is); k_whole; intro _) | (refine' get_fS ?k1_q ?k2_q ?k3_q ?k4_q ?k5_q ?k6_q ?k7_q ?c1_q ?c2_q ?c3_q ?c4_q ?_; (case k1_q => k_asm); (case k2_q => k_asm); (case k3_q => k_asm); (case k4_q => k_mem); (case k5_q => k_mem); (case k6_q => assumption); (case k7_q => k_extra "mine fldat"); (case c1_q => k_is); (case c2_q => k_is); (case c3_q => k_is); (case c4_q => k_is); k_whole; intro _))))
  (k_with "setAttr ref" => (k_here; k_dflt (refine' set_f ?k1_q ?k2_q ?k3_q ?k4_q ?k5_q ?k6_q ?k7_q ?k8_q ?k9_q ?c1_q ?c2_q ?c3_q ?c4_q ?k10_q ?_; (case k1_q => k_asm); (case k2_q => k_asm); (case k3_q => k_asm); (case k4_q => k_mem); (case k5_q => k_mem); (case k6_q => assumption); (case k7_q => k_extra "mine fldput"); (case k8_q => exact Nat.le_of_ble_eq_true rfl); (case k9_q => first | exact (Nat.add_zero _).symm | exact rfl); (case c1_q => k_is); (case c2_q => k_is); (case c3_q => k_is); (case c4_q => k_is); (case k10_q => k_updF); k_whole); intro _ _ _ _ N_r; (try dsimp only at N_r); revert N_r; intro _; (try k_sweep)))
  trivial
theorem value_make {w : World} {B : Heap} {s : Shared} {tl : Wd} (W : Wo w B tl s.heap) (a b c d : Value) :
    Makes1 w 2 236 [a, b, c, d] s tl [("x_offset", a), ("y_offset", b), ("x_advance", c), ("y_advance", d)] := by
  refine make_of (r := 1) (P := fun x dx es n tl₀ => Flds es _ ∧ tl₀ = (x, instObj _ dx) :: _) W (by k_is) (by k_is) (by k_is) (fun x dx h' W' l1 l2 up => ?_)
  intro dp un fr gd R hR hret
  k_extra "mine enter"
  have l3 : ∀ p ∈ tl, p.1 ≠ dx := fun p hp => Nat.ne_of_lt (l1 p hp)
  k_lt2 l2
  have hF0 := Flds.nil
  k_extra "mine steps"
  obtain ⟨st, gr, ho⟩ := leave (own' := [(dx, _)]) (new := []) W'.at_ (by assumption) (by assumption) (by assumption) (by rfl) (fun _ h => nomatch h)
  exact hret _ _ _ _ st gr ⟨rfl, _, _, ho _ (List.mem_singleton.mpr rfl), by assumption, rfl⟩
theorem classdef_make {w : World} {B : Heap} {s : Shared} {tl : Wd} (W : Wo w B tl s.heap) (a : Value) :
    Makes1 w 2 382 [a] s tl [("classes", a)] := by
  refine make_of (r := 1) (P := fun x dx es n tl₀ => Flds es _ ∧ tl₀ = (x, instObj _ dx) :: _) W (by k_is) (by k_is) (by k_is) (fun x dx h' W' l1 l2 up => ?_)
  intro dp un fr gd R hR hret
  k_extra "mine enter"
  have l3 : ∀ p ∈ tl, p.1 ≠ dx := fun p hp => Nat.ne_of_lt (l1 p hp)
  k_lt2 l2
  have hF0 := Flds.nil
  k_extra "mine steps"
  obtain ⟨st, gr, ho⟩ := leave (own' := [(dx, _)]) (new := []) W'.at_ (by assumption) (by assumption) (by assumption) (by rfl) (fun _ h => nomatch h)
  exact hret _ _ _ _ st gr ⟨rfl, _, _, ho _ (List.mem_singleton.mpr rfl), by assumption, rfl⟩
theorem coverage_make {w : World} {B : Heap} {s : Shared} {tl : Wd} (W : Wo w B tl s.heap) (a : Value) :
    Makes1 w 2 424 [a] s tl [("glyphs", a)] := by
  refine make_of (r := 1) (P := fun x dx es n tl₀ => Flds es _ ∧ tl₀ = (x, instObj _ dx) :: _) W (by k_is) (by k_is) (by k_is) (fun x dx h' W' l1 l2 up => ?_)
  intro dp un fr gd R hR hret
  k_extra "mine enter"
  have l3 : ∀ p ∈ tl, p.1 ≠ dx := fun p hp => Nat.ne_of_lt (l1 p hp)
  k_lt2 l2
  have hF0 := Flds.nil
  k_extra "mine steps"
  obtain ⟨st, gr, ho⟩ := leave (own' := [(dx, _)]) (new := []) W'.at_ (by assumption) (by assumption) (by assumption) (by rfl) (fun _ h => nomatch h)
  exact hret _ _ _ _ st gr ⟨rfl, _, _, ho _ (List.mem_singleton.mpr rfl), by assumption, rfl⟩
theorem lookup_make {w : World} {B : Heap} {s : Shared} {tl : Wd} (W : Wo w B tl s.heap) (a b c d : Value) :
    Makes1 w 2 136 [a, b, c, d] s tl [("kind", a), ("flag", b), ("mark_set", c), ("tables", d)] := by
  refine make_of (r := 1) (P := fun x dx es n tl₀ => Flds es _ ∧ tl₀ = (x, instObj _ dx) :: _) W (by k_is) (by k_is) (by k_is) (fun x dx h' W' l1 l2 up => ?_)
  intro dp un fr gd R hR hret
  k_extra "mine enter"
  have l3 : ∀ p ∈ tl, p.1 ≠ dx := fun p hp => Nat.ne_of_lt (l1 p hp)
  k_lt2 l2
  have hF0 := Flds.nil
  k_extra "mine steps"
  obtain ⟨st, gr, ho⟩ := leave (own' := [(dx, _)]) (new := []) W'.at_ (by assumption) (by assumption) (by assumption) (by rfl) (fun _ h => nomatch h)
  exact hret _ _ _ _ st gr ⟨rfl, _, _, ho _ (List.mem_singleton.mpr rfl), by assumption, rfl⟩
theorem buffer_make {w : World} {B : Heap} {s : Shared} {tl : Wd} (W : Wo w B tl s.heap) (a : Value) :
    Makes1 w 2 105 [a] s tl [("row", a), ("is_backward", .bool false), ("last_lig", .int 0 0), ("last_split", .int 0 0)] := by
  refine make_of (r := 1) (P := fun x dx es n tl₀ => Flds es _ ∧ tl₀ = (x, instObj _ dx) :: _) W (by k_is) (by k_is) (by k_is) (fun x dx h' W' l1 l2 up => ?_)
  intro dp un fr gd R hR hret
  k_extra "mine enter"
  have l3 : ∀ p ∈ tl, p.1 ≠ dx := fun p hp => Nat.ne_of_lt (l1 p hp)
  k_lt2 l2
  have hF0 := Flds.nil
  k_extra "mine steps"
  obtain ⟨st, gr, ho⟩ := leave (own' := [(dx, _)]) (new := []) W'.at_ (by assumption) (by assumption) (by assumption) (by rfl) (fun _ h => nomatch h)
  exact hret _ _ _ _ st gr ⟨rfl, _, _, ho _ (List.mem_singleton.mpr rfl), by assumption, rfl⟩

section
variable {prog : Program} {w : World} {A : Around} {s : Shared} {cenv : Env} {g : Heap} {target elt iter : Expr} {ifs : List Expr} {scope : Scope} {pos : Pos}
abbrev NoE : Value → Shared → Prop := fun _ _ => False
theorem noE {α : Type} {M : Model} {A : Around} {t : Sem α} {Q : α → Shared → Prop} {E : Value → Shared → Prop} {s : Shared} (h : wpAny M A t Q NoE s) : wpAny M A t Q E s := wpAny_mono h (fun _ _ x => x) fun _ _ x => x.elim

/-- a turn of a comprehension is through -/
inductive CompEnd (g : Heap) (C D : Addr) (wr : List Addr) (kept : Wd) (J : Wd → Prop) (s₁ s₂ : Shared) : Prop
  | mk : ∀ h' tk m' news', s₂ = { s₁ with heap := h', toks := tk } →
    Fr g C h' m' →
    News g C h' (kept ++ news') →
    (∀ p ∈ news', p.1 ∉ wr ∧ p.1 ≠ D) →
    J news' → CompEnd g C D wr kept J s₁ s₂
/-- the tests of a comprehension's clause -/
abbrev testsOf (ifs : List Expr) (cenv : Env) : Sem Bool := forIn ifs true fun c r => if r = true then do let ok ← isTrue c cenv (eval c cenv); pure (ForInStep.yield ok) else pure (ForInStep.yield r)
def CompTurn (prog : Program) (w : World) (A : Around) (target elt : Expr) (ifs : List Expr) (cenv : Env) (v : Value) (End : Option Value → Shared → Prop) (s : Shared) : Prop :=
  wpAny (model prog w) A (assign target cenv v) (fun _ s₂ => wpAny (model prog w) A (testsOf ifs cenv) (fun ok s₃ =>
    if ok = true then wpAny (model prog w) A (eval elt cenv) (fun y s₄ => End (some y) s₄) NoE s₃ else End none s₃) NoE s₂) NoE s

inductive GSt (s : Shared) (g : Heap) (C D : Addr) (wr : List Addr) (St : Nat → Heap → Prop) (J : Nat → List Value → Wd → Prop) (n l0 k : Nat) (s' : Shared) : Prop
  | mk : ∀ h' tk m' news' ys i, s' = { s with heap := h', toks := tk } → St i h' → Fr g C h' m' → News g C h' news' → (∀ p ∈ news', p.1 ∉ wr ∧ p.1 ≠ D) → h'.PlainList D ys.toArray → ys.length ≤ l0 + i → J i ys news' → i ≤ n → k = n + 1 - i → GSt s g C D wr St J n l0 k s'
theorem comp_loopG {R : Result → Shared → Prop} {elt0 : Expr} {gens : List Comprehension} {d : Nat} {p0 : Pos} {ys₀ : List Value} {I C D : Addr} {fp wr : List Addr} {n : Nat} {P Md : Nat → Value → Heap → Prop} {St : Nat → Heap → Prop} {m : Str → Option Value} {news : Wd} (W : KTurns prog w A target I fp wr n P Md St)
    (hCf : C ∉ fp) (hDf : D ∉ fp) (hDC : D ≠ C) (hwr : ∀ b ∈ wr, g.get? b = none) (hgD : g.get? D = none) (hnw : ∀ p ∈ news, p.1 ∉ wr ∧ p.1 ≠ D) (hn : ys₀.length + n ≤ 1000000) (live : ∀ i h, St i h → ∀ b ∈ wr, ∃ o, h.get? b = some o) (hst : St 0 s.heap) (F : Fr g C s.heap m) (N : News g C s.heap news) (hD : s.heap.PlainList D ys₀.toArray)
    (J : Nat → List Value → Wd → Prop) (h0 : J 0 ys₀ news)
    (e0 : compTurn (.ListComp elt0 gens scope pos) d (.ref I) (.ref D) cenv = (standAt p0 >>= fun _ => pyNext (.ref I) >>= fun r => match r with
      | none => pure (.done .next)
      | some v => letOwnedTupleGo target (.ref I) v >>= fun _ => assign target cenv v >>= fun _ => testsOf ifs cenv >>= fun ok =>
        if ok = true then (eval elt cenv >>= fun x => call (.builtin "list.append") [.ref D, x] >>= fun _ => pure ()) >>= fun _ =>
          again (.compLoop (.ListComp elt0 gens scope pos) d (.ref I) (.ref D) cenv)
        else again (.compLoop (.ListComp elt0 gens scope pos) d (.ref I) (.ref D) cenv)))
    (step : ∀ i v ys m₁ news₁ h₁ tk₁ own oD, i < n → P i v h₁ → J i ys news₁ → (∀ p ∈ news₁, p.1 ∉ wr ∧ p.1 ≠ D) → (∀ p ∈ own, p.1 ∈ fp) → (∀ b ∈ wr, ∃ o, (b, o) ∈ own) → St (i + 1) h₁ →
      Fr g C h₁ m₁ → News g C h₁ ((own ++ [(D, oD)]) ++ news₁) → CompTurn prog w A target elt ifs cenv v (fun y s₄ => CompEnd g C D wr (own ++ [(D, oD)]) (J (i + 1) (ys ++ y.toList)) { s with heap := h₁, toks := tk₁ } s₄) { s with heap := h₁, toks := tk₁ })
    (hR : ∀ h' tk m' news' ys k, Fr g C h' m' → News g C h' ((D, listOf ys.toArray k) :: news') → (∀ p ∈ news', p.1 ∉ wr ∧ p.1 ≠ D) → J n ys news' → R (.ok .next) { s with heap := h', toks := tk }) :
    codeAny (model prog w) A (.compLoop (.ListComp elt0 gens scope pos) d (.ref I) (.ref D) cenv) R s := by
  have hCw : C ∉ wr := fun h => hCf (W.sub _ h)
  have hDw : D ∉ wr := fun h => hDf (W.sub _ h)
  have old : ∀ b o, g.get? b = some o → b ∉ wr := fun b o e hb => by rw [hwr b hb] at e; cases e
  refine codeAny_loop rfl
    (GSt s g C D wr St J n ys₀.length) ?_ (n + 1)
    ⟨s.heap, s.toks, m, news, ys₀, 0, rfl, hst, F, N, hnw, hD, Nat.le_refl _, h0, Nat.zero_le _, rfl⟩
  rintro k s' ⟨h', tk, m', news', ys, i, rfl, hst', F', N', hnw', hD', hys, hJ, hi, rfl⟩
  show wpAny _ A ((compTurn (.ListComp elt0 gens scope pos) d (.ref I) (.ref D) cenv).onRaise (fun x => do noteFrame x cenv; theTreesLotGoes x)) _ _ _
  refine wpAny_noted (noE ?_)
  rw [e0]
  refine wpAny_bind (wpAny_standAt (wpAny_bind ?_))
  have next : ∀ h₁ : Heap, (∀ b o, b ∉ wr → h'.get? b = some o → h₁.get? b = some o) → Fr g C h₁ m' ∧ News g C h₁ news' := fun h₁ hk₁ =>
    ⟨⟨F'.ns.at' fun o e => hk₁ _ o hCw e, fun b o e => hk₁ b o (old b o e) (F'.keep b o e), F'.above⟩, fun p hp => ⟨hk₁ _ _ (hnw' p hp).1 (N' p hp).1, (N' p hp).2⟩⟩
  by_cases hlt : i < n
  · refine W.item i _ _ _ hlt hst' fun v h₁ tk₁ hMd hk₁ => ?_
    refine wpAny_bind (W.go i v _ _ _ hMd fun h₂ hP hst₂ hk₂ => ?_)
    have up : ∀ b o, b ∉ wr → h'.get? b = some o → h₂.get? b = some o := fun b o hb x => hk₂ b o hb (hk₁ b o hb x)
    obtain ⟨F₂, N₂⟩ := next h₂ up
    obtain ⟨kD, hD₂⟩ := hD'.at fun o e => up D o hDw e
    have Nown : News g C h₂ (PyProof.Rows.ownOf g fp h₂) := news_ownOf hCf
    have ND : News g C h₂ [(D, listOf ys.toArray kD)] := fun p hp => by rw [List.mem_singleton.mp hp]; exact ⟨hD₂, hDC, hgD⟩
    have stay : ∀ h₃ m₃ news₃, Fr g C h₃ m₃ → News g C h₃ ((PyProof.Rows.ownOf g fp h₂ ++ [(D, listOf ys.toArray kD)]) ++ news₃) → St (i + 1) h₃ := fun h₃ m₃ news₃ F₃ N₃ => by
      refine W.frame _ _ _ hst₂ fun b hb o e => ?_
      cases hq : g.get? b with
      | some o₀ =>
        have : o₀ = o := by have q := F₂.keep b o₀ hq; rw [e] at q; exact (Option.some.inj q).symm
        exact this ▸ F₃.keep b o₀ hq
      | none => exact (N₃ _ (List.mem_append_left _ (List.mem_append_left _ (mem_ownOf hb hq e)))).1
    refine wpAny_bind (wpAny_mono (step i v ys m' news' h₂ tk₁ (PyProof.Rows.ownOf g fp h₂) (listOf ys.toArray kD) hlt hP hJ hnw' ownOf_sub (fun b hb => let ⟨o, e⟩ := live _ _ hst₂ b hb; ⟨o, mem_ownOf (W.sub b hb) (hwr b hb) e⟩) hst₂ F₂ ((Nown.append ND).append N₂)) (fun _ s₂ q₂ => ?_) fun _ _ e => e)
    refine wpAny_bind (wpAny_mono q₂ (fun ok s₃ q₃ => ?_) fun _ _ e => e)
    cases ok with
    | false =>
      obtain ⟨h₃, tk₃, m₃, news₃, rfl, F₃, N₃, hn₃, hJ₃⟩ := (show CompEnd _ _ _ _ _ _ _ _ from q₃)
      refine wpAny_pure ⟨rfl, n + 1 - (i + 1), by omega, h₃, tk₃, m₃, news₃, ys, i + 1, rfl, stay _ _ _ F₃ N₃, F₃, N₃.right, hn₃, ⟨kD, ?_⟩, by omega, by simpa using hJ₃, hlt, rfl⟩
      exact (N₃ _ (List.mem_append_left _ (List.mem_append_right _ (List.mem_singleton.mpr rfl)))).1
    | true =>
      refine wpAny_bind (wpAny_bind (wpAny_mono (show wpAny _ _ _ _ _ _ from q₃) (fun y s₄ q₄ => ?_) fun _ _ e => e))
      obtain ⟨h₄, tk₄, m₄, news₄, rfl, F₄, N₄, hn₄, hJ₄⟩ := q₄
      have hD₄ : h₄.PlainList D ys.toArray := ⟨kD, (N₄ _ (List.mem_append_left _ (List.mem_append_right _ (List.mem_singleton.mpr rfl)))).1⟩
      refine wpAny_bind (wpAny_list_append_plain (hsz := by rw [List.size_toArray, sizeLine_eq]; omega) hD₄ fun h₅ hl₅ hs₅ => wpAny_pure (wpAny_pure ⟨rfl, n + 1 - (i + 1), by omega, h₅, tk₄, m₄, news₄, ys ++ [y], i + 1, rfl, ?_, ?_, ?_, hn₄, ?_, ?_, hJ₄, hlt, rfl⟩))
      · refine W.frame _ _ _ (stay _ _ _ F₄ N₄) fun b hb o e => (hs₅.2 b fun q => hDf (q ▸ hb)).trans e
      · exact ⟨F₄.ns.at' fun o e => (hs₅.2 C (Ne.symm hDC)).trans e, fun b o e => (hs₅.2 b fun q => by rw [q, hgD] at e; cases e).trans (F₄.keep b o e), F₄.above⟩
      · exact fun p hp => ⟨(hs₅.2 p.1 (hn₄ p hp).2).trans (N₄.right p hp).1, (N₄.right p hp).2⟩
      · simpa using hl₅
      · simp; omega
  · have hin : i = n := by omega
    subst hin
    refine W.done _ _ _ hst' fun h₁ tk₁ hk₁ => wpAny_pure ?_
    obtain ⟨F₁, N₁⟩ := next h₁ hk₁
    obtain ⟨kD, hD₁⟩ := hD'.at fun o e => hk₁ D o hDw e
    refine hR h₁ tk₁ m' news' ys kD F₁ (fun p hp => ?_) hnw' hJ
    rcases List.mem_cons.mp hp with rfl | hp
    · exact ⟨hD₁, hDC, hgD⟩
    · exact N₁ p hp
theorem comp_loop {R : Result → Shared → Prop} {I C D : Addr} {fp wr : List Addr} {n : Nat} {P Md : Nat → Value → Heap → Prop} {St : Nat → Heap → Prop} {m : Str → Option Value} {news : Wd} (W : KTurns prog w A target I fp wr n P Md St)
    (hCf : C ∉ fp) (hDf : D ∉ fp) (hDC : D ≠ C) (hwr : ∀ b ∈ wr, g.get? b = none) (hgD : g.get? D = none) (hnw : ∀ p ∈ news, p.1 ∉ wr ∧ p.1 ≠ D) (hn : n ≤ 1000000) (live : ∀ i h, St i h → ∀ b ∈ wr, ∃ o, h.get? b = some o) (hst : St 0 s.heap) (F : Fr g C s.heap m) (N : News g C s.heap news) (hD : s.heap.PlainList D #[])
    (J : Nat → List Value → Wd → Prop) (h0 : J 0 [] news)
    (step : ∀ i v ys m₁ news₁ h₁ tk₁ own oD, i < n → P i v h₁ → J i ys news₁ → (∀ p ∈ news₁, p.1 ∉ wr ∧ p.1 ≠ D) → (∀ p ∈ own, p.1 ∈ fp) → (∀ b ∈ wr, ∃ o, (b, o) ∈ own) → St (i + 1) h₁ →
      Fr g C h₁ m₁ → News g C h₁ ((own ++ [(D, oD)]) ++ news₁) → CompTurn prog w A target elt ifs cenv v (fun y s₄ => CompEnd g C D wr (own ++ [(D, oD)]) (J (i + 1) (ys ++ y.toList)) { s with heap := h₁, toks := tk₁ } s₄) { s with heap := h₁, toks := tk₁ })
    (hR : ∀ h' tk m' news' ys k, Fr g C h' m' → News g C h' ((D, listOf ys.toArray k) :: news') → (∀ p ∈ news', p.1 ∉ wr ∧ p.1 ≠ D) → J n ys news' → R (.ok .next) { s with heap := h', toks := tk }) :
    codeAny (model prog w) A (.compLoop (.ListComp elt [⟨target, iter, ifs, 0⟩] scope pos) 0 (.ref I) (.ref D) cenv) R s :=
  comp_loopG (ys₀ := []) W hCf hDf hDC hwr hgD hnw (by simpa using hn) live hst F N hD J h0 (compTurn_list ..) step hR
end
section
variable {prog : Program} {w : World} {A : Around} {s : Shared} {env : Env} {h₀ : Heap} {L : Addr} {m : Str → Option Value} {target elt iter : Expr} {ifs : List Expr} {scope : Scope} {cl : List (Str × Addr)} {pos : Pos}

/-- what a loop goes through: n turns, the i-th value as P says -/
inductive Src (prog : Program) (w : World) (A : Around) (target : Expr) (h₀ : Heap) (L : Addr) (m : Str → Option Value) (news : Wd) (n : Nat) (P : Nat → Value → Heap → Prop) (it : Value) (s₂ : Shared) (wr : List Addr) : Prop
  | mk : ∀ (I : Addr) (fp : List Addr) (Md : Nat → Value → Heap → Prop) (St : Nat → Heap → Prop), it = .ref I →
    KTurns prog w A target I fp wr n P Md St →
    (∀ i (s : Shared) (Q : Value → Shared → Prop) (E : Value → Shared → Prop), St i s.heap → Q (.ref I) s → wpAny (model prog w) A (pyIter (.ref I)) Q E s) →
    (∀ i h, St i h → ∀ b ∈ wr, ∃ o, h.get? b = some o) →
    (∀ b ∈ fp, b < s₂.heap.objs.size) →
    L ∉ fp →
    (∀ b ∈ wr, h₀.get? b = none) →
    (∀ p ∈ news, p.1 ∉ wr) →
    n ≤ 1000000 →
    St 0 s₂.heap →
    Fr h₀ L s₂.heap m →
    News h₀ L s₂.heap news → Src prog w A target h₀ L m news n P it s₂ wr
/-- where a comprehension's iterator stands -/
inductive CompAt (prog : Program) (w : World) (A : Around) (h₀ : Heap) (L : Addr) (env : Env) (scope : Scope) (cl : List (Str × Addr)) (target elt : Expr) (ifs : List Expr) (Fin : Addr → Heap → Nat → Wd → List Value → Nat → Prop) (m : Str → Option Value) (it : Value) (s₂ : Shared) : Prop
  | mk : ∀ (wr : List Addr) (n : Nat) (P : Nat → Value → Heap → Prop) (news : Wd) (J : Nat → List Value → Wd → Prop), Src prog w A target h₀ L m news n P it s₂ wr →
    J 0 [] news →
    (∀ g C D i v ys m₁ news₁ h₁ tk₁ kept, (∀ b o, h₀.get? b = some o → g.get? b = some o) → i < n → P i v h₁ → J i ys news₁ → (∀ p ∈ news₁, p.1 ∉ wr ∧ p.1 ≠ D) → (∀ b, b ∈ wr ∨ b = D → ∃ o, (b, o) ∈ kept) →
      Fr g C h₁ m₁ → News g C h₁ (kept ++ news₁) → CompTurn prog w A target elt ifs (compEnvC scope cl C env) v (fun y s₄ => CompEnd g C D wr kept (J (i + 1) (ys ++ y.toList)) { s₂ with heap := h₁, toks := tk₁ } s₄) { s₂ with heap := h₁, toks := tk₁ }) →
    (∀ D h' tk news' ys k, Fr h₀ L h' m → News h₀ L h' ((D, listOf ys.toArray k) :: news') → (∀ p ∈ news', p.1 ≠ D) → J n ys news' → Fin D h' tk news' ys k) → CompAt prog w A h₀ L env scope cl target elt ifs Fin m it s₂
theorem comp_block {Fin : Addr → Heap → Nat → Wd → List Value → Nat → Prop} {it : Value} {s₂ : Shared} {RR : Value → Addr → Result → Shared → Prop} (at_ : CompAt prog w A h₀ L env scope cl target elt ifs Fin m it s₂)
    (hcell : ∀ y ∈ scope.names, y.2 ≠ .cell) (hkind : scope.kind = .function)
    (hRR : ∀ D C h' tk m' news' ys k, h'.Ns C m' → C ≠ L → h₀.get? C = none → D ≠ L → C ≠ D → (∀ p ∈ news', p.1 ≠ C) → Fr h₀ L h' m → News h₀ L h' ((D, listOf ys.toArray k) :: news') →
      (∀ h'' tk'', Fr h₀ L h'' m → News h₀ L h'' ((D, listOf ys.toArray k) :: news') → Fin D h'' tk'' news' ys k) → RR (.ref D) C (.ok .next) { s₂ with heap := h', toks := tk }) :
    wpAny (model prog w) A (newList []) (fun acc s₃ => wpAny (model prog w) A (newFunctionEnv scope env.globals cl [] env.qual none .none (some env)) (fun cenv s₄ =>
      codeAny (model prog w) A (.compStart (.ListComp elt [⟨target, iter, ifs, 0⟩] scope pos) 0 it acc { cenv with scope := relabel scope env }) (RR acc cenv.locals) s₄) NoE s₃) NoE s₂ := by
  obtain ⟨wr, n, P, news, J, ⟨I, fp, Md, St, rfl, W, hself, live, hfp, hLf, hwr, hnw, hn, hst, F, N⟩, h0, step, fin⟩ := at_
  refine wpAny_newObj_type (wpAny_newFunctionEnv hcell (by intro y hy; simp at hy) (fun h₁ hns₁ hsb₁ => ?_) hkind)
  dsimp only at hns₁ hsb₁ ⊢
  generalize hH2 : s₂.heap.push { cls := .type "list", dict := none, data := .seq ([] : List Value).toArray } = H2 at hns₁ hsb₁ ⊢
  have hC : H2.objs.size = s₂.heap.objs.size + 1 := by rw [← hH2, Heap.size_push]
  have hDC : s₂.heap.objs.size ≠ H2.objs.size := by rw [hC]; exact Nat.ne_of_lt (Nat.lt_succ_self _)
  have below : ∀ b, b < s₂.heap.objs.size → b ≠ H2.objs.size ∧ b ≠ s₂.heap.objs.size := fun b hb => ⟨by rw [hC]; exact Nat.ne_of_lt (Nat.lt_succ_of_lt hb), Nat.ne_of_lt hb⟩
  have hDf : s₂.heap.objs.size ∉ fp := fun hm => Nat.lt_irrefl _ (hfp _ hm)
  have hCf : H2.objs.size ∉ fp := fun hm => by have := hfp _ hm; rw [hC] at this; exact Nat.lt_irrefl _ (Nat.lt_of_succ_lt this)
  have old : ∀ b o, s₂.heap.get? b = some o → h₁.get? b = some o := fun b o e => hsb₁.extBut b o (below b (Heap.lt_size e)).1 (Heap.get?_push_of_some _ (hH2 ▸ Heap.get?_push_of_some _ e))
  have hacc : h₁.PlainList s₂.heap.objs.size #[] := ⟨_, hsb₁.extBut _ _ hDC (Heap.get?_push_of_some _ (hH2 ▸ Heap.get?_push_size _ rfl))⟩
  have fresh : ∀ a, s₂.heap.objs.size ≤ a → s₂.heap.get? a = none := fun a ha => by
    cases e : s₂.heap.get? a with
    | none => rfl
    | some o' => exact absurd (Heap.lt_size e) (Nat.not_lt.mpr ha)
  have hst₁ : St 0 h₁ := W.frame _ _ _ hst fun b _ o e => old b o e
  have hgsub : ∀ b o, (hideAll s₂.heap (news.map (·.1) ++ wr)).get? b = some o → s₂.heap.get? b = some o := fun b o e => of_hideAll _ e
  have hh₀ : ∀ b o, h₀.get? b = some o → (hideAll s₂.heap (news.map (·.1) ++ wr)).get? b = some o := fun b o e => hideAll_get _ (F.keep b o e) fun q => by
    rcases List.mem_append.mp q with q | q
    · obtain ⟨p, hp, rfl⟩ := List.mem_map.mp q
      rw [(N p hp).2.2] at e; cases e
    · rw [hwr b q] at e; cases e
  obtain ⟨oL, esL, epL, hL, hLd, hLk, hLm⟩ := F.ns
  have hgL : (hideAll s₂.heap (news.map (·.1) ++ wr)).get? L = some oL := hideAll_get _ hL fun q => by
    rcases List.mem_append.mp q with q | q
    · obtain ⟨p, hp, e⟩ := List.mem_map.mp q
      exact (N p hp).2.1 e
    · exact hLf (W.sub _ q)
  have hLs : L < s₂.heap.objs.size := Heap.lt_size hL
  generalize hG : hideAll s₂.heap (news.map (·.1) ++ wr) = g at hgsub hh₀ hgL
  have gsz : g.objs.size = s₂.heap.objs.size := by rw [← hG]; exact hideAll_size _ _
  have hgn : ∀ p ∈ news, g.get? p.1 = none := fun p hp => hG ▸ hideAll_none _ (List.mem_append_left _ (List.mem_map_of_mem hp))
  have hgw : ∀ b ∈ wr, g.get? b = none := fun b hb => hG ▸ hideAll_none _ (List.mem_append_right _ hb)
  have hgf : ∀ a, s₂.heap.objs.size ≤ a → g.get? a = none := fun a ha => by
    cases e : g.get? a with
    | none => rfl
    | some o => have q := hgsub a o e; rw [fresh a ha] at q; cases q
  have F₁ : Fr g H2.objs.size h₁ (fun x => ([] : List (Str × Value)).reverse.lookup x) := ⟨hns₁, fun b o e => old b o (hgsub b o e), by rw [gsz, hC]; exact Nat.le_succ _⟩
  have N₁ : News g H2.objs.size h₁ news := fun p hp => ⟨old _ _ (N p hp).1, (below _ (Heap.lt_size (N p hp).1)).1, hgn p hp⟩
  have loop : ∀ s₃ : Shared, s₃ = { s₂ with heap := h₁, toks := s₂.toks + ([] : List (Str × Value)).length } →
      codeAny (model prog w) A (.compLoop (.ListComp elt [⟨target, iter, ifs, 0⟩] scope pos) 0 (.ref I) (.ref s₂.heap.objs.size) (compEnvC scope cl H2.objs.size env))
        (RR (.ref s₂.heap.objs.size) H2.objs.size) s₃ := by
    rintro s₃ rfl
    refine comp_loop W hCf hDf hDC hgw (hgf _ (Nat.le_refl _)) (fun p hp => ⟨hnw p hp, (below _ (Heap.lt_size (N p hp).1)).2⟩) hn live hst₁ F₁ N₁ hacc J h0 (fun i v ys m₁ news₁ h₂ tk₁ own oD a b c d e e' f F₂ N₂ => ?_) fun h' tk m' news' ys k F' N' hn' hJ => ?_
    · exact step g _ _ i v ys m₁ news₁ h₂ tk₁ (own ++ [(_, oD)]) hh₀ a b c d (fun b hb => hb.elim (fun q => let ⟨o, x⟩ := e' b q; ⟨o, List.mem_append_left _ x⟩) fun q => ⟨oD, List.mem_append_right _ (q ▸ List.mem_singleton.mpr rfl)⟩) F₂ N₂
    · have hCL : H2.objs.size ≠ L := Nat.ne_of_gt (Nat.lt_of_lt_of_le hLs (by rw [hC]; exact Nat.le_succ _))
      have F'' : Fr h₀ L h' m := ⟨⟨oL, esL, epL, F'.keep L oL hgL, hLd, hLk, hLm⟩, fun b o e => F'.keep b o (hh₀ b o e), F.above⟩
      have N'' : News h₀ L h' ((s₂.heap.objs.size, listOf ys.toArray k) :: news') := fun p hp => by
        refine ⟨(N' p hp).1, fun q => ?_, ?_⟩
        · have := (N' p hp).2.2; rw [q, hgL] at this; cases this
        · cases e : h₀.get? p.1 with
          | none => rfl
          | some o => have := (N' p hp).2.2; rw [hh₀ _ _ e] at this; cases this
      refine hRR _ _ h' tk m' news' ys k F'.ns hCL ?_ (Nat.ne_of_gt hLs) (Ne.symm hDC) (fun p hp => (N' p (List.mem_cons_of_mem _ hp)).2.1) F'' N'' fun h'' tk'' Fx Nx => fin _ h'' tk'' news' ys k Fx Nx (fun p hp => (hn' p hp).2) hJ
      cases e : h₀.get? H2.objs.size with
      | none => rfl
      | some o => have := hgf H2.objs.size (by rw [hC]; exact Nat.le_succ _); rw [hh₀ _ _ e] at this; cases this
  exact codeAny_compStart_list (loop _ rfl) (hself 0 _ _ _ hst₁ (loop _ rfl))

theorem same_C {C D : Addr} {news' : Wd} {oD : Obj} {h' h'' : Heap} (hs : Heap.SameBut C h' h'') (hCL : C ≠ L) (hC0 : h₀.get? C = none) (hCD : C ≠ D) (hCn : ∀ p ∈ news', p.1 ≠ C) (F : Fr h₀ L h' m) (N : News h₀ L h' ((D, oD) :: news')) :
    Fr h₀ L h'' m ∧ News h₀ L h'' ((D, oD) :: news') :=
  ⟨⟨F.ns.sameBut hs (Ne.symm hCL), fun b o e => (hs.2 b fun q => by rw [q, hC0] at e; cases e).trans (F.keep b o e), F.above⟩, fun p hp => ⟨(hs.2 p.1 (by
    rcases List.mem_cons.mp hp with rfl | hp
    · exact Ne.symm hCD
    · exact hCn p hp)).trans (N p hp).1, (N p hp).2⟩⟩

theorem ListComp_K {Q : Value → Shared → Prop} (_F : Fr h₀ L s.heap m) (hclos : closureFor scope env = pure cl) (hcell : ∀ y ∈ scope.names, y.2 ≠ .cell) (hkind : scope.kind = .function)
    (hnames : ∀ y ∈ scope.names, y.2 = .local → scope.names.lookup y.1 = some .local)
    (h : wpAny (model prog w) A (eval iter env) (fun xv s₁ => wpAny (model prog w) A (pyIter xv) (fun it s₂ => CompAt prog w A h₀ L env scope cl target elt ifs (fun D h' tk _ _ _ => Q (.ref D) { s₂ with heap := h', toks := tk }) m it s₂) NoE s₁) NoE s)
    (hs : ∀ x, foldedSetIterable iter env x = pure x := by intro _; rfl) :
    wpAny (model prog w) A (eval (.ListComp elt [⟨target, iter, ifs, 0⟩] scope pos) env) Q NoE s := by
  rw [eval_ListComp]
  refine wpAny_comprehension_free (use := none) rfl hs hclos hkind hnames (wpAny_mono h (fun xv s₁ h₁ => wpAny_mono h₁ (fun it s₂ h₂ => ?_) fun _ _ e => e) fun _ _ e => e)
  refine comp_block (RR := fun acc C => compPost (model prog w) A NoE none Q acc C) h₂ hcell hkind ?_
  intro D C h' tk m' news' ys k hn hCL hC0 hDL hCD hCn F N fin
  exact ⟨m', hn, fun h'' hs'' => let ⟨a, b⟩ := same_C hs'' hCL hC0 hCD hCn F N; fin h'' tk a b⟩
end
section
variable {prog : Program} {w : World} {A : Around} {s : Shared} {env : Env} {h₀ : Heap} {m : Str → Option Value} {target elt iter : Expr} {ifs : List Expr} {scope : Scope} {cl : List (Str × Addr)} {pos : Pos}
theorem Assign_ListComp_K {y : Str} {py spos : Pos} {Q : Flow → Shared → Prop} (_F : Fr h₀ env.locals s.heap m) (hsw : swapsWith (.ListComp elt [⟨target, iter, ifs, 0⟩] scope pos) (some (.Name y py)) spos.line env = pure true) (hclos : closureFor scope env = pure cl) (hcell : ∀ y ∈ scope.names, y.2 ≠ .cell) (hkind : scope.kind = .function)
    (hnames : ∀ y ∈ scope.names, y.2 = .local → scope.names.lookup y.1 = some .local)
    (hy : env.kindOf y = some .local) (hp : (env.scope.kind == .class || (env.scope.kind == .module && env.locals != env.globals)) = false)
    (h : wpAny (model prog w) A (eval iter env) (fun xv s₁ => wpAny (model prog w) A (pyIter xv) (fun it s₂ => CompAt prog w A h₀ env.locals env scope cl target elt ifs
      (fun D h' tk news' ys k => ∀ h'', Fr h₀ env.locals h'' (fun z => if z = y then some (.ref D) else m z) → News h₀ env.locals h'' ((D, listOf ys.toArray k) :: news') → Q .next { s₂ with heap := h'', toks := tk + 1 }) m it s₂) NoE s₁) NoE s)
    (hs : ∀ x, foldedSetIterable iter env x = pure x := by intro _; rfl) :
    wpAny (model prog w) A (exec (.Assign [.Name y py] (.ListComp elt [⟨target, iter, ifs, 0⟩] scope pos) spos) env) Q NoE s := by
  rw [exec_Assign_Name_used _ _ _ _ hsw]
  refine wpAny_bind (wpAny_standAt (wpAny_bind ?_))
  show wpAny _ A (do let _ ← comprehension (.ListComp elt [⟨target, iter, ifs, 0⟩] scope pos) scope env _ (newList []) false (eval iter env) (some (assign (.Name y py) env))) _ _ s
  refine wpAny_bind (wpAny_mono (wpAny_comprehension_free (use := some (assign (.Name y py) env)) (Q := fun _ s' => Q .next s') rfl hs hclos hkind hnames
    (wpAny_mono h (fun xv s₁ h₁ => wpAny_mono h₁ (fun it s₂ h₂ => ?_) fun _ _ e => e) fun _ _ e => e)) (fun _ s' hq => wpAny_pure (wpAny_pure hq)) fun _ _ e => e)
  refine comp_block (RR := fun acc C => compPost (model prog w) A NoE (some (assign (.Name y py) env)) (fun _ s' => Q .next s') acc C) h₂ hcell hkind ?_
  intro D C h' tk m' news' ys k hn hCL hC0 hDL hCD hCn F N fin
  show wpAny _ A (assign (.Name y py) env (.ref D)) _ _ _
  refine wpAny_assign_Name (wpAny_storeName_local hy F.ns (fun h₂ hn₂ hs₂ => ?_) hp)
  have F₂ : Fr h₀ env.locals h₂ (fun z => if z = y then some (.ref D) else m z) := F.set hn₂ hs₂
  have N₂ := N.set hs₂
  refine ⟨m', hn.sameBut hs₂ hCL, fun h₃ hs₃ => ?_⟩
  obtain ⟨a, b⟩ := same_C hs₃ hCL hC0 hCD hCn F₂ N₂
  exact fin h' tk F N h₃ a b
end

section
variable {prog : Program} {w : World} {A : Around} {s : Shared} {env : Env} {h₀ : Heap} {L : Addr} {m : Str → Option Value} {x : Str} {px : Pos}
theorem next_free {h : Heap} (F : Fr h₀ L h m) : h₀.get? h.objs.size = none := by
  cases e : h₀.get? h.objs.size with
  | none => rfl
  | some o => exact absurd (Heap.lt_size (F.keep _ _ e)) (Nat.lt_irrefl _)
theorem src_list {l : Addr} {vs : List Value} {k : Nat} {news : Wd} {tk : Nat} (hh : A.handled = none) (F : Fr h₀ L s.heap m) (N : News h₀ L s.heap news) (hm : (l, listOf vs.toArray k) ∈ news) (hz : vs.length ≤ 1000000) :
    Src prog w A (.Name x px) h₀ L m news vs.length (fun i v _ => vs[i]? = some v) (.ref s.heap.objs.size) { s with heap := s.heap.push { cls := .type "list_iterator", data := .fields #[.ref l, .int 0 0] }, toks := tk } [s.heap.objs.size] := by
  have hl := (N _ hm)
  have hlt : l < s.heap.objs.size := Heap.lt_size hl.1
  refine ⟨s.heap.objs.size, [s.heap.objs.size, l], _, _, rfl, KTurns.ofWalks (n := vs.length) (P := fun i v => vs[i]? = some v) (St := fun i h => h.IsListIter s.heap.objs.size l i ∧ h.IsList l vs.toArray) ?_ (fun i v s Q E _ q => wpAny_pure q), fun i s Q E st q => wpAny_pyIter_listiter st.1 q, ?_, ?_, ?_, ?_, ?_, hz, ?_, F.push _, fun p hp => ⟨Heap.get?_push_of_some _ (N p hp).1, (N p hp).2⟩⟩
  · have W := Walks.list (prog := prog) (w := w) hh s.heap.objs.size l (Nat.ne_of_lt hlt) vs.toArray
    simpa using W
  · rintro i h ⟨⟨o, e, _⟩, _⟩ b hb
    rw [List.mem_singleton.mp hb]; exact ⟨o, e⟩
  · intro b hb
    show b < (s.heap.push _).objs.size
    rw [Heap.size_push]
    rcases List.mem_cons.mp hb with rfl | hb
    · exact Nat.lt_succ_self _
    · rw [List.mem_singleton.mp hb]; exact Nat.lt_succ_of_lt hlt
  · intro hb
    rcases List.mem_cons.mp hb with e | hb
    · exact Nat.lt_irrefl _ (e ▸ F.ns.lt)
    · exact hl.2.1 (List.mem_singleton.mp hb).symm
  · intro b hb
    rw [List.mem_singleton.mp hb]; exact next_free F
  · intro p hp hb
    exact Nat.lt_irrefl _ ((List.mem_singleton.mp hb) ▸ Heap.lt_size (N p hp).1)
  · exact ⟨⟨_, Heap.get?_push_size _ rfl, rfl, rfl⟩, (show s.heap.IsList l vs.toArray from ⟨_, hl.1, rfl, k, rfl⟩).push _⟩
inductive PureEnd (g : Heap) (C : Addr) (led : Wd) (s₁ : Shared) (R : Option Value → Prop) (y : Option Value) (s₂ : Shared) : Prop
  | mk : ∀ h' tk m' led', s₂ = { s₁ with heap := h', toks := tk } →
    Fr g C h' m' →
    News g C h' led' →
    (∀ p ∈ led, p ∈ led') →
    R y → PureEnd g C led s₁ R y s₂
/-- a turn of a comprehension that leaves the ledger as it was -/
theorem compAt_pure {scope : Scope} {cl : List (Str × Addr)} {elt target : Expr} {ifs : List Expr} {Fin : Addr → Heap → Nat → Wd → List Value → Nat → Prop} {news : Wd} {n : Nat} {P : Nat → Value → Heap → Prop} {it : Value} {s₂ : Shared} {wr : List Addr} (Rel : Nat → Option Value → Prop)
    (src : Src prog w A target h₀ L m news n P it s₂ wr)
    (step : ∀ g C i v m₁ h₁ tk₁ led, (∀ b o, h₀.get? b = some o → g.get? b = some o) → i < n → P i v h₁ → (∀ p ∈ news, p ∈ led) → Fr g C h₁ m₁ → News g C h₁ led →
      CompTurn prog w A target elt ifs (compEnvC scope cl C env) v (PureEnd g C led { s₂ with heap := h₁, toks := tk₁ } (Rel i)) { s₂ with heap := h₁, toks := tk₁ })
    (fin : ∀ D h' tk (os : List (Option Value)) k, Fr h₀ L h' m → News h₀ L h' ((D, listOf (os.filterMap id).toArray k) :: news) → os.length = n → (∀ i y, os[i]? = some y → Rel i y) → Fin D h' tk news (os.filterMap id) k) :
    CompAt prog w A h₀ L env scope cl target elt ifs Fin m it s₂ := by
  refine ⟨wr, n, P, news, fun i ys news' => news' = news ∧ ∃ os : List (Option Value), os.length = i ∧ (∀ j y, os[j]? = some y → Rel j y) ∧ ys = os.filterMap id, src, ⟨rfl, [], rfl, fun _ _ h => by simp at h, rfl⟩, ?_, ?_⟩
  · rintro g C D i v ys m₁ news₁ h₁ tk₁ kept hg hi hP ⟨rfl, os, ho, hR, rfl⟩ hoff hk F N
    have fin1 : ∀ (y : Option Value) (s₄ : Shared), PureEnd g C (kept ++ news₁) { s₂ with heap := h₁, toks := tk₁ } (Rel i) y s₄ →
        CompEnd g C D wr kept (fun news' => news' = news₁ ∧ ∃ os' : List (Option Value), os'.length = i + 1 ∧ (∀ j y, os'[j]? = some y → Rel j y) ∧ os.filterMap id ++ y.toList = os'.filterMap id) { s₂ with heap := h₁, toks := tk₁ } s₄ := by
      rintro y s₄ ⟨h', tk, m', led', rfl, F', N', hs, hy⟩
      refine ⟨h', tk, m', news₁, rfl, F', fun p hp => N' p (hs p hp), hoff, rfl, os ++ [y], by simp [ho], fun j y' hj => ?_, by cases y <;> simp⟩
      rcases Nat.lt_trichotomy j os.length with q | q | q
      · rw [List.getElem?_append_left q] at hj; exact hR j y' hj
      · subst q; simp at hj; subst hj; rw [ho]; exact hy
      · rw [List.getElem?_eq_none (by simp; omega)] at hj; cases hj
    refine wpAny_mono (step g C i v m₁ h₁ tk₁ (kept ++ news₁) hg hi hP (fun p hp => List.mem_append_right _ hp) F N) (fun _ s₂ q => wpAny_mono q (fun ok s₃ q => ?_) fun _ _ e => e) fun _ _ e => e
    cases ok with
    | false => simp only [Bool.false_eq_true, if_false] at q ⊢; exact fin1 none _ q
    | true => simp only [if_true] at q ⊢; exact wpAny_mono q (fun y s₄ q => fin1 (some y) _ q) fun _ _ e => e
  · rintro D h' tk news' ys k F N hoff ⟨rfl, os, ho, hR, rfl⟩
    exact fin D h' tk os k F N ho hR
end
section
variable {prog : Program} {w : World} {A : Around} {s : Shared} {env : Env} {g : Heap} {C : Addr} {m : Str → Option Value} {led : Wd} {E : Value → Shared → Prop}
theorem ld_gen {M : Model} {x : Str} {pos : Pos} {v : Value} {Q : Value → Shared → Prop} (F : Fr g env.locals s.heap m) (hv : m x = some v) (h : Q v s) (hk : env.scope.kind = .function) (hl : env.kindOf x = some .local) (hd : (x == ("__debug__" : Str)) = false) :
    wpAny M A (eval (.Name x pos) env) Q E s := wpAny_Name (wpAny_loadName_local hk hl F.ns hv h) hd
theorem blk_assign {M : Model} {x : Str} {px : Pos} {v : Value} {Q : Unit → Shared → Prop} (F : Fr g env.locals s.heap m) (N : News g env.locals s.heap led) (hl : env.kindOf x = some .local) (hp : (env.scope.kind == .class || (env.scope.kind == .module && env.locals != env.globals)) = false)
    (h : ∀ h', Fr g env.locals h' (fun y => if y = x then some v else m y) → News g env.locals h' led → Q () { s with heap := h', toks := s.toks + 1 }) : wpAny M A (assign (.Name x px) env v) Q E s :=
  wpAny_assign_Name (wpAny_storeName_local hl F.ns (fun h' hn hs => h h' (F.set hn hs) (N.set hs)) hp)
theorem tests_nil {cenv : Env} {M : Model} {Q : Bool → Shared → Prop} (h : Q true s) : wpAny M A (testsOf [] cenv) Q E s := wpAny_pure h
theorem tests_one {cenv : Env} {c : Expr} {M : Model} {Q : Bool → Shared → Prop} (h : wpAny M A (isTrue c cenv (eval c cenv)) Q E s) : wpAny M A (testsOf [c] cenv) Q E s := by
  unfold testsOf
  rw [List.forIn_cons]
  refine wpAny_bind ?_
  simp only [if_true]
  exact wpAny_bind (wpAny_mono h (fun b s' q => wpAny_pure (wpAny_pure q)) fun _ _ e => e)
end

theorem row_j_4 : True := by
  (k_with "eval Name" => (k_here; k_inBlock; k_dflt (refine' ld_gen ?k1_q ?k2_q ?_ ?k3_q ?k4_q ?k5_q; (case k1_q => k_asm); (case k2_q => first | exact rfl | assumption); (case k3_q => exact rfl); (case k4_q => exact rfl); (case k5_q => decide); k_whole)))
  trivial
section
variable {prog : Program} {w : World} {A : Around} {s : Shared} {env : Env} {h₀ : Heap} {test : PySem.Expr} {body : List Stmt} {Q : Flow → Shared → Prop}
inductive WhEnd (h₀ : Heap) (L : Addr) (news : Wd) (J : Nat → (Str → Option Value) → Prop) (n : Nat) (s₁ s₂ : Shared) : Prop
  | mk : ∀ n' h' tk m', n' < n →
    s₂ = { s₁ with heap := h', toks := tk } →
    Fr h₀ L h' m' →
    News h₀ L h' news →
    J n' m' → WhEnd h₀ L news J n s₁ s₂
def WhPost (h₀ : Heap) (L : Addr) (news : Wd) (J : Nat → (Str → Option Value) → Prop) (n : Nat) (s₁ : Shared) (Q : Flow → Shared → Prop) (f : Flow) (s₂ : Shared) : Prop :=
  match f with
  | .brk => Q .next s₂
  | .ret v => Q (.ret v) s₂
  | _ => WhEnd h₀ L news J n s₁ s₂
inductive WhSt (s : Shared) (h₀ : Heap) (L : Addr) (news : Wd) (J : Nat → (Str → Option Value) → Prop) (n : Nat) (s' : Shared) : Prop
  | mk : ∀ h' tk m', s' = { s with heap := h', toks := tk } → Fr h₀ L h' m' → News h₀ L h' news → J n m' → WhSt s h₀ L news J n s'
theorem while_K {pos : Pos} {m : Str → Option Value} {news : Wd} (J : Nat → (Str → Option Value) → Prop) (F : Fr h₀ env.locals s.heap m) (N : News h₀ env.locals s.heap news) (n : Nat) (h0 : J n m)
    (turn : ∀ n m h tk, J n m → Fr h₀ env.locals h m → News h₀ env.locals h news → wpAny (model prog w) A (isTrue test env (eval test env)) (fun b s₂ =>
      if b = true then wpAny (model prog w) A (execs body env) (WhPost h₀ env.locals news J n { s with heap := h, toks := tk } Q) NoE s₂ else Q .next s₂) NoE { s with heap := h, toks := tk }) :
    wpAny (model prog w) A (exec (.While test body [] pos) env) Q NoE s := by
  refine wpAny_While ?_
  refine codeAny_loop rfl (WhSt s h₀ env.locals news J) (fun n s' hI => ?_) n ⟨s.heap, s.toks, m, rfl, F, N, h0⟩
  obtain ⟨h', tk, m', rfl, F', N', hJ⟩ := hI
  show wpAny _ A ((whileTurn test body [] env).onRaise (fun x => do noteFrame x env; theTreesLotGoes x)) _ _ _
  refine wpAny_noted (noE ?_)
  simp only [whileTurn]
  refine wpAny_bind (wpAny_mono (turn n m' h' tk hJ F' N') (fun b s₂ q₂ => ?_) fun _ _ e => e)
  cases b with
  | false =>
    simp only [Bool.false_eq_true, if_false] at q₂ ⊢
    exact wpAny_bind (wpAny_execs_nil (wpAny_pure q₂))
  | true =>
    simp only [if_true] at q₂ ⊢
    refine wpAny_bind (wpAny_mono q₂ (fun f s₃ q₃ => ?_) fun _ _ e => e)
    cases f with
    | next => obtain ⟨n', h₃, tk₃, m₃, hn, rfl, F₃, N₃, hJ₃⟩ := (show WhEnd _ _ _ _ _ _ _ from q₃); exact wpAny_pure ⟨rfl, n', hn, h₃, tk₃, m₃, rfl, F₃, N₃, hJ₃⟩
    | cont => obtain ⟨n', h₃, tk₃, m₃, hn, rfl, F₃, N₃, hJ₃⟩ := (show WhEnd _ _ _ _ _ _ _ from q₃); exact wpAny_pure ⟨rfl, n', hn, h₃, tk₃, m₃, rfl, F₃, N₃, hJ₃⟩
    | brk => exact wpAny_pure q₃
    | ret v => exact wpAny_pure q₃
end

abbrev V4 := Int × Int × Int × Int
def IsVal (tl : Wd) (x : Addr) (v : V4) : Prop := IsObj tl x 236 [("x_offset", .int v.1 0), ("y_offset", .int v.2.1 0), ("x_advance", .int v.2.2.1 0), ("y_advance", .int v.2.2.2 0)]
inductive QVal (v : V4) (r : Value) (tl' : Wd) (qh : Heap) : Prop
  | mk : ∀ x, r = .ref x → IsVal tl' x v → QVal v r tl' qh
inductive Qtold_spec (tl : Wd) (v : V4) (r : Value) (tl' : Wd) (qh : Heap) : Prop
  | mk : ∀ t t1 t2 t3 t4, r = .ref t → tl' = (t, tupOf [.int v.1 t1, .int v.2.1 t2, .int v.2.2.1 t3, .int v.2.2.2 t4] 0) :: tl → Qtold_spec tl v r tl' qh
theorem told_spec {w : World} {B : Heap} {s : Shared} {tl : Wd} {x : Addr} {v : V4} (W : Wo w B tl s.heap) (hx : IsVal tl x v) :
    Spec w 1 226 ⟨[.ref x], []⟩ s [] tl (Qtold_spec tl v) := by
  obtain ⟨dx, es_dx, n_dx, hx, hdx, hF_dx⟩ := id hx
  intro dp un fr gd R hR hret
  k_extra "mine enter"
  k_extra "mine steps"
  obtain ⟨st, gr, ho⟩ := leave (own := []) (own' := []) (new := [(_, _)]) W.at_ (by assumption) (by assumption) (by assumption) (by rfl) (fun n hn p hp => by rw [List.mem_singleton.mp hn]; dsimp only; rename (∀ p ∈ tl, p.1 < _) => l9; exact l9 p hp)
  exact hret _ _ _ _ st gr ⟨_, _, _, _, _, rfl, rfl⟩
theorem told_K {w : World} {h₀ : Heap} {L : Addr} {m : Str → Option Value} {s : Shared} {led : Wd} {mean : ExcName → Option Value} {mg mb : Str → Option Value} {dp un : Nat} {fr : Option (List Env)} {gd : Option (List Code)} {x : Addr} {v : V4} {Q E : Value → Shared → Prop}
    (F : Fr h₀ L s.heap m) (N : News h₀ L s.heap led) (X : (hd.heap_1 w.params).In h₀) (T : Top hd.view_1 (looseW hd.view_1 []) mean mg mb h₀) (hx : IsVal led x v) (hr : Room 1 dp un)
    (k : ∀ t t1 t2 t3 t4 h' tk, Fr h₀ L h' m → News h₀ L h' ((t, tupOf [.int v.1 t1, .int v.2.1 t2, .int v.2.2.1 t3, .int v.2.2.2 t4] 0) :: led) → Q (.ref t) { s with heap := h', toks := tk }) :
    wpAny (model PW w) (Ar dp un fr gd) (call (.ref 226) [.ref x]) Q E s := by
  refine use0 (args := ⟨[.ref x], []⟩) F N (told_spec (wo_of F N X T) hx) hr ?_
  rintro _ _ h' tk ⟨t, t1, t2, t3, t4, rfl, rfl⟩ F' N' _ _
  exact k _ _ _ _ _ _ _ F' N'
theorem row_j_5 : True := by
  (k_with "call ref" => ((with_reducible show wpAny _ _ (call (Value.ref 226) [Value.ref _]) _ _ _); (refine' told_K (by k_asm) (by k_asm) (by k_asm) (by k_asm) (by k_extra "mine obj") (by k_extra "mine room") ?_); intro _ _ _ _ _ _ _ _ _))
  trivial
theorem nothing_spec {w : World} {B : Heap} {s : Shared} {tl : Wd} {x : Addr} {v : V4} (W : Wo w B tl s.heap) (hx : IsVal tl x v) :
    Spec w 2 233 ⟨[.ref x], []⟩ s [] tl (QEq tl (.bool (decide (v = (0, 0, 0, 0))))) := by
  have hv := hx
  obtain ⟨dx, es_dx, n_dx, hx, hdx, hF_dx⟩ := id hx
  intro dp un fr gd R hR hret
  k_extra "mine enter"
  k_extra "mine steps"
  obtain ⟨st, gr, ho⟩ := leave (own := []) (own' := []) (new := []) (tl := tl) W.at_ (by assumption) (by rename Fr _ _ _ _ => F9; exact F9) (by rename News _ _ _ _ => N9; exact fun p hp => N9 p (by repeat (first | exact hp | refine List.mem_cons_of_mem _ ?_))) (by rfl) (fun _ h => nomatch h)
  refine hret _ _ _ _ st gr ⟨?_, rfl⟩
  obtain ⟨a, b, c, d⟩ := v
  by_cases h1 : a = 0 <;> by_cases h2 : b = 0 <;> by_cases h3 : c = 0 <;> by_cases h4 : d = 0 <;> simp [h1, h2, h3, h4]
/-- a ClassDef whose classes are F -/
inductive IsCls (w : World) (tl : Wd) (x : Addr) (F : Int → Int) : Prop
  | mk : ∀ d od kvs, IsObj tl x 382 [("classes", .ref d)] →
    (d, od) ∈ tl →
    od.IsDictOf (intKind PW w) kvs →
    (d == sysModules) = false →
    (∀ g, match valueAt kvs g with | none => F g = 0 | some v => ∃ t, v = .int (F g) t) → IsCls w tl x F
theorem IsCls.mono {w : World} {tl tl' : Wd} {x : Addr} {F : Int → Int} (h : IsCls w tl x F) (hs : ∀ p ∈ tl, p ∈ tl') : IsCls w tl' x F :=
  let ⟨d, od, kvs, a, b, c, c1, c2⟩ := h; ⟨d, od, kvs, a.mono hs, hs _ b, c, c1, c2⟩
theorem class_spec {w : World} {B : Heap} {s : Shared} {tl : Wd} {x : Addr} {F : Int → Int} {g : Int} {tg : Tok} (W : Wo w B tl s.heap) (hx : IsCls w tl x F) :
    Spec w 1 360 ⟨[.ref x, .int g tg], []⟩ s [] tl (QInt tl (F g)) := by
  obtain ⟨d, od, kvs, hx, hd, hD, lo, hF⟩ := hx
  obtain ⟨dx, es_dx, n_dx, hx, hdx, hF_dx⟩ := id hx
  intro dp un fr gd R hR hret
  k_extra "mine enter"
  k_extra "mine steps"
  obtain ⟨st, gr, ho⟩ := leave (own := []) (own' := []) (new := []) (tl := tl) W.at_ (by assumption) (by rename Fr _ _ _ _ => F9; exact F9) (by rename News _ _ _ _ => N9; exact fun p hp => N9 p (by repeat (first | exact hp | refine List.mem_cons_of_mem _ ?_))) (by rfl) (fun _ h => nomatch h)
  have h9 := hF g
  cases e : valueAt kvs g with
  | none => rw [e] at h9; exact hret _ _ _ _ st gr ⟨_, by rw [show F g = 0 from h9]; rfl, rfl⟩
  | some v => rw [e] at h9; obtain ⟨t, rfl⟩ := h9; exact hret _ _ _ _ st gr ⟨_, rfl, rfl⟩

theorem row_j_6 : True := by
  (k_with "mine obj" => exact IsCls.mono (by assumption) (fun p hp => by repeat (first | exact hp | refine List.mem_cons_of_mem _ ?_)))
  (k_with "mine obj" => exact IsObj.mono (by assumption) (fun p hp => by repeat (first | exact hp | refine List.mem_cons_of_mem _ ?_)))
  (k_with "call ref" => (refine' use0i (f := 360) (by k_asm) (by k_asm) (by k_asm) (by k_asm) (fun W => class_spec W (by k_extra "mine obj")) (by k_extra "mine room") ?_; intro _ _ _ _ _))
  (k_with "call ref" => (refine' use0e (f := 233) (by k_asm) (by k_asm) (by k_asm) (by k_asm) (fun W => nothing_spec W (by k_extra "mine obj")) (by k_extra "mine room") ?_; intro _ _ _ _))
  trivial
inductive IsCov (tl : Wd) (x : Addr) (gs : List Int) : Prop
  | mk : ∀ t vs n, IsObj tl x 424 [("glyphs", .ref t)] →
    (t, tupOf vs n) ∈ tl →
    IntsAre vs gs →
    gs.Pairwise (· < ·) →
    gs.length ≤ 1000 → IsCov tl x gs
theorem IsCov.mono {tl tl' : Wd} {x : Addr} {gs : List Int} (h : IsCov tl x gs) (hs : ∀ p ∈ tl, p ∈ tl') : IsCov tl' x gs :=
  let ⟨t, vs, n, a, b, c, c1, c2⟩ := h; ⟨t, vs, n, a.mono hs, hs _ b, c, c1, c2⟩
section
theorem srch_lt {gs : List Int} {g : Int} (hp : gs.Pairwise (· < ·)) {i j : Nat} (hij : i ≤ j) (hj : j < gs.length) : gs.getD i 0 ≤ gs.getD j 0 := by
  have hi : i < gs.length := by omega
  simp only [List.getD, List.getElem?_eq_getElem hi, List.getElem?_eq_getElem hj, Option.getD_some]
  rcases Nat.lt_or_ge i j with h | h
  · exact Int.le_of_lt (List.pairwise_iff_getElem.mp hp i j hi hj h)
  · have : i = j := by omega
    subst this; exact Int.le_refl _
theorem srch_low {gs : List Int} {g mid : Int} (hp : gs.Pairwise (· < ·)) (h0 : 0 ≤ mid) (hm : mid < gs.length) (h : gs.getD mid.toNat 0 < g) (j : Nat) (hj : j < (mid + 1).toNat) : gs.getD j 0 < g :=
  Int.lt_of_le_of_lt (srch_lt (g := g) hp (by omega) (by omega)) h
theorem srch_high {gs : List Int} {g mid : Int} (hp : gs.Pairwise (· < ·)) (h : ¬ gs.getD mid.toNat 0 < g) (j : Nat) (hj : mid.toNat ≤ j) (hl : j < gs.length) : g ≤ gs.getD j 0 := by
  have := srch_lt (g := g) hp hj hl
  omega
theorem srch_yes {gs : List Int} {g lo : Int} (h : gs.getD lo.toNat 0 = g) (hl : lo.toNat < gs.length) : g ∈ gs := by
  simp only [List.getD, List.getElem?_eq_getElem hl, Option.getD_some] at h
  exact h ▸ List.getElem_mem hl
theorem srch_no {gs : List Int} {g lo hi : Int} (hp : gs.Pairwise (· < ·)) (hn : ¬ lo < hi) (hle : lo ≤ hi) (h1 : ∀ j : Nat, j < lo.toNat → gs.getD j 0 < g) (h2 : ∀ j : Nat, hi.toNat ≤ j → j < gs.length → g ≤ gs.getD j 0)
    (h3 : lo.toNat < gs.length → gs.getD lo.toNat 0 ≠ g) : g ∉ gs := by
  intro hm
  obtain ⟨j, hj, e⟩ := List.getElem_of_mem hm
  have ej : gs.getD j 0 = g := by simp [List.getD, hj, e]
  rcases Nat.lt_trichotomy j lo.toNat with h | h | h
  · have := h1 j h; omega
  · subst h; exact h3 hj ej
  · have hl : lo.toNat < gs.length := by omega
    have a := h2 lo.toNat (by omega) hl
    have b := h3 hl
    have c : gs.getD lo.toNat 0 < gs.getD j 0 := by
      simp only [List.getD, List.getElem?_eq_getElem hl, List.getElem?_eq_getElem hj, Option.getD_some]
      exact List.pairwise_iff_getElem.mp hp lo.toNat j hl hj h
    omega
 local macro_rules | `(tactic| walk_at "eval Name") => `(tactic| (k_here; k_dflt (refine' ld ?k1 ?k2 ?_; (case k1 => k_asm); (case k2 => first | exact rfl | assumption); k_whole)))
inductive IdxJ (x : Addr) (g : Int) (tg : Tok) (gs : List Int) (n : Nat) (m : Str → Option Value) : Prop
  | mk : ∀ lo hi tlo thi, m "low" = some (.int lo tlo) → m "high" = some (.int hi thi) → m "self" = some (.ref x) → m "glyph" = some (.int g tg) → 0 ≤ lo → lo ≤ hi → hi ≤ gs.length → n = (hi - lo).toNat → (∀ j : Nat, j < lo.toNat → gs.getD j 0 < g) → (∀ j : Nat, hi.toNat ≤ j → j < gs.length → g ≤ gs.getD j 0) → IdxJ x g tg gs n m
inductive Qindex_spec (tl : Wd) (gs : List Int) (g : Int) (r : Value) (tl' : Wd) (qh : Heap) : Prop
  | mk : ∀ i t, r = .int i t → (0 ≤ i ↔ g ∈ gs) → tl' = tl → Qindex_spec tl gs g r tl' qh
theorem index_spec {w : World} {B : Heap} {s : Shared} {tl : Wd} {x : Addr} {gs : List Int} {g : Int} {tg : Tok} (W : Wo w B tl s.heap) (hx : IsCov tl x gs) :
    Spec w 1 407 ⟨[.ref x, .int g tg], []⟩ s [] tl (Qindex_spec tl gs g) := by
  obtain ⟨t, vs, n, hx, ht, hi, hp, hlen⟩ := hx
  obtain ⟨dx, es_dx, n_dx, hx, hdx, hF_dx⟩ := id hx
  have hvl := hi.length
  intro dp un fr gd R hR hret
  k_extra "mine enter"
  k_extra "mine steps"
  refine while_K (IdxJ x g tg gs) (by assumption) (by assumption) gs.length ?_ ?_
  · refine ⟨0, vs.length, _, _, rfl, rfl, rfl, rfl, by omega, by omega, by omega, by omega, fun j hj => by omega, fun j h1 h2 => by omega⟩
  · rename News _ _ _ _ => N1
    rename Fr _ _ _ _ => F1
    clear N1 F1
    rintro n m h tk ⟨lo, hi', tlo, thi, hm1, hm2, hm3, hm4, b1, b2, b3, b4, b5, b6⟩ F2 N2
    k_extra "mine steps"
    · refine' ⟨_, _, _, _, ?hn, rfl, ?F, ?N, _, _, _, _, ?e1, ?e2, ?e3, ?e4, ?c1, ?c2, ?c3, rfl, ?c5, ?c6⟩
      case F => assumption
      case N => assumption
      case e1 => exact rfl
      case e2 => assumption
      case e3 => assumption
      case e4 => assumption
      case c5 => exact srch_low hp (by omega) (by omega) (by assumption)
      case c6 => assumption
      all_goals omega
    · refine' ⟨_, _, _, _, ?hnb, rfl, ?Fb, ?Nb, _, _, _, _, ?e1b, ?e2b, ?e3b, ?e4b, ?c1b, ?c2b, ?c3b, rfl, ?c5b, ?c6b⟩
      case Fb => assumption
      case Nb => assumption
      case e1b => assumption
      case e2b => exact rfl
      case e3b => assumption
      case e4b => assumption
      case c5b => assumption
      case c6b => exact srch_high hp (by assumption)
      all_goals omega
    · obtain ⟨st, gr, ho⟩ := leave (own := []) (own' := []) (new := []) (tl := tl) W.at_ (by assumption) (by rename Fr _ _ _ _ => F9; exact F9) (by rename News _ _ _ _ => N9; exact fun p hp => N9 p (by repeat (first | exact hp | refine List.mem_cons_of_mem _ ?_))) (by rfl) (fun _ h => nomatch h)
      exact hret _ _ _ _ st gr ⟨_, _, rfl, ⟨fun _ => srch_yes (by assumption) (by omega), fun _ => b1⟩, rfl⟩
    · obtain ⟨st, gr, ho⟩ := leave (own := []) (own' := []) (new := []) (tl := tl) W.at_ (by assumption) (by rename Fr _ _ _ _ => F9; exact F9) (by rename News _ _ _ _ => N9; exact fun p hp => N9 p (by repeat (first | exact hp | refine List.mem_cons_of_mem _ ?_))) (by rfl) (fun _ h => nomatch h)
      exact hret _ _ _ _ st gr ⟨_, _, rfl, ⟨fun q => absurd q (by decide), fun q => absurd q (srch_no hp (by assumption) b2 b5 b6 (fun _ => by assumption))⟩, rfl⟩
    · obtain ⟨st, gr, ho⟩ := leave (own := []) (own' := []) (new := []) (tl := tl) W.at_ (by assumption) (by rename Fr _ _ _ _ => F9; exact F9) (by rename News _ _ _ _ => N9; exact fun p hp => N9 p (by repeat (first | exact hp | refine List.mem_cons_of_mem _ ?_))) (by rfl) (fun _ h => nomatch h)
      exact hret _ _ _ _ st gr ⟨_, _, rfl, ⟨fun q => absurd q (by decide), fun q => absurd q (srch_no hp (by assumption) b2 b5 b6 (fun q => by omega))⟩, rfl⟩

end
theorem row_j_7 : True := by
  (k_with "mine obj" => exact IsCov.mono (by assumption) (fun p hp => by repeat (first | exact hp | refine List.mem_cons_of_mem _ ?_)))
  (k_with "call ref" => ((with_reducible show wpAny _ _ (call (Value.ref 407) [Value.ref _, Value.int _ _]) _ _ _); (refine' use0 (args := ⟨[Value.ref _, Value.int _ _], []⟩) (by k_asm) (by k_asm) (index_spec (wo_of (by k_asm) (by k_asm) (by k_asm) (by k_asm)) (by k_extra "mine obj")) (by k_extra "mine room") ?_); (rintro _ _ _ _ ⟨_, _, e1', _, e2'⟩ _ _ - -); (replace e1' := Eq.symm e1'); (subst e1'); (replace e2' := Eq.symm e2'); (subst e2')))
  trivial
theorem has_spec {w : World} {B : Heap} {s : Shared} {tl : Wd} {x : Addr} {gs : List Int} {g : Int} {tg : Tok} (W : Wo w B tl s.heap) (hx : IsCov tl x gs) :
    Spec w 2 414 ⟨[.ref x, .int g tg], []⟩ s [] tl (QEq tl (.bool (decide (g ∈ gs)))) := by
  have hx0 := hx
  obtain ⟨t, vs, n, hx, ht, hi, hp, hlen⟩ := hx
  obtain ⟨dx, es_dx, n_dx, hx, hdx, hF_dx⟩ := id hx
  intro dp un fr gd R hR hret
  k_extra "mine enter"
  k_extra "mine steps"
  obtain ⟨st, gr, ho⟩ := leave (own := []) (own' := []) (new := []) (tl := tl) W.at_ (by assumption) (by rename Fr _ _ _ _ => F9; exact F9) (by rename News _ _ _ _ => N9; exact fun p hp => N9 p (by repeat (first | exact hp | refine List.mem_cons_of_mem _ ?_))) (by rfl) (fun _ h => nomatch h)
  refine hret _ _ _ _ st gr ⟨?_, rfl⟩
  congr 1
  rename (0 ≤ _ ↔ g ∈ gs) => h9
  simp [← h9]

theorem row_j_8 : True := by
  (k_with "call ref" => (refine' use0e (f := 414) (by k_asm) (by k_asm) (by k_asm) (by k_asm) (fun W => has_spec W (by k_extra "mine obj")) (by k_extra "mine room") ?_; intro _ _ _ _))
  trivial
def AtAll {α : Type} (R : Value → α → Prop) (vs : List Value) (xs : List α) : Prop := vs.length = xs.length ∧ ∀ (i : Nat) (v : Value), vs[i]? = some v → ∃ x, xs[i]? = some x ∧ R v x
theorem AtAll.mono {α : Type} {R R' : Value → α → Prop} {vs : List Value} {xs : List α} (h : AtAll R vs xs) (hs : ∀ v x, R v x → R' v x) : AtAll R' vs xs :=
  ⟨h.1, fun i v e => let ⟨x, a, b⟩ := h.2 i v e; ⟨x, a, hs _ _ b⟩⟩
abbrev PP := V4 × V4
inductive PairAt (tl : Wd) (v : Value) (p : PP) : Prop
  | mk : ∀ t x y n, v = .ref t →
    (t, tupOf [.ref x, .ref y] n) ∈ tl →
    IsVal tl x p.1 →
    IsVal tl y p.2 → PairAt tl v p
theorem PairAt.mono {tl tl' : Wd} {v : Value} {p : PP} (h : PairAt tl v p) (hs : ∀ p ∈ tl, p ∈ tl') : PairAt tl' v p :=
  let ⟨t, x, y, n, e, a, b, c⟩ := h; ⟨t, x, y, n, e, hs _ a, IsObj.mono b hs, IsObj.mono c hs⟩
inductive RowAt (tl : Wd) (v : Value) (r : List PP) : Prop
  | mk : ∀ t vs n, v = .ref t →
    (t, tupOf vs n) ∈ tl →
    AtAll (PairAt tl) vs r →
    vs.length ≤ 1000 → RowAt tl v r
theorem RowAt.mono {tl tl' : Wd} {v : Value} {r : List PP} (h : RowAt tl v r) (hs : ∀ p ∈ tl, p ∈ tl') : RowAt tl' v r :=
  let ⟨t, vs, n, e, a, b, c⟩ := h; ⟨t, vs, n, e, hs _ a, b.mono fun _ _ q => q.mono hs, c⟩
/-- a PairClasses -/
structure PC where
  cov : List Int
  F : Int → Int
  G : Int → Int
  rows : List (List PP)
  sec : Bool
def PC.find (T : PC) (first second : Int) : Option PP := if first ∈ T.cov then (T.rows[(T.F first).toNat]?).bind fun r => r[(T.G second).toNat]? else none
inductive IsPC (w : World) (tl : Wd) (x : Addr) (T : PC) : Prop
  | mk : ∀ c f g r vs n, IsObj tl x 321 [("coverage", .ref c), ("firsts", .ref f), ("seconds", .ref g), ("rows", .ref r), ("is_second", .bool T.sec)] →
    IsCov tl c T.cov →
    IsCls w tl f T.F →
    IsCls w tl g T.G →
    (r, tupOf vs n) ∈ tl →
    AtAll (RowAt tl) vs T.rows →
    vs.length ≤ 1000 →
    (∀ i, 0 ≤ T.F i) →
    (∀ i, 0 ≤ T.G i) → IsPC w tl x T
theorem IsPC.mono {w : World} {tl tl' : Wd} {x : Addr} {T : PC} (h : IsPC w tl x T) (hs : ∀ p ∈ tl, p ∈ tl') : IsPC w tl' x T :=
  let ⟨c, f, g, r, vs, n, h1, h2, h3, h4, h5, h6, h7, h8, h9⟩ := h; ⟨c, f, g, r, vs, n, h1.mono hs, h2.mono hs, h3.mono hs, h4.mono hs, hs _ h5, h6.mono fun _ _ q => q.mono hs, h7, h8, h9⟩
inductive QPC (w : World) (T : PC) (r : Value) (tl' : Wd) (qh : Heap) : Prop
  | mk : ∀ x, r = .ref x → IsPC w tl' x T → QPC w T r tl' qh
theorem IsCov.dict {tl : Wd} {x : Addr} {gs : List Int} (h : IsCov tl x gs) : ∃ dx es n t, (x, instObj 424 dx) ∈ tl ∧ (dx, dictOf es n) ∈ tl ∧ Flds es [("glyphs", .ref t)] := by
  obtain ⟨t, _, _, ⟨dx, es, n, a, b, c⟩, _⟩ := h
  exact ⟨dx, es, n, t, a, b, c⟩
theorem IsCls.dict {w : World} {tl : Wd} {x : Addr} {F : Int → Int} (h : IsCls w tl x F) : ∃ dx es n t, (x, instObj 382 dx) ∈ tl ∧ (dx, dictOf es n) ∈ tl ∧ Flds es [("classes", .ref t)] := by
  obtain ⟨t, _, _, ⟨dx, es, n, a, b, c⟩, _⟩ := h
  exact ⟨dx, es, n, t, a, b, c⟩
section
variable {prog : Program} {w : World} {A : Around} {E : Value → Shared → Prop} {s : Shared} {h₀ : Heap} {L : Addr} {news : Wd}
theorem my_itemTA {α : Type} {R : Value → α → Prop} {xs : List α} {value slice : PySem.Expr} {l : Addr} {vs : List Value} {n : Nat} {k : Int} {u : Tok} {Q : Value → Shared → Prop} (N : News h₀ L s.heap news) (hm : (l, tupOf vs n) ∈ news) (hA : AtAll R vs xs)
    (h0 : 0 ≤ k) (hk : k < (vs.length : Int)) (hz : vs.length ≤ 1000) (h : ∀ v x, vs[k.toNat]? = some v → xs[k.toNat]? = some x → R v x → Q v s)
    (hs : subscripted slice false (.ref l) (.int k u) = operate [.ref l, .int k u] (getItem (.ref l) (.int k u)) := by with_unfolding_all rfl) :
    wpAny (model prog w) A (subscriptTail value slice (.ref l) (.int k u)) Q E s := by
  have hlt : k.toNat < vs.length := by omega
  obtain ⟨x, e, r⟩ := hA.2 k.toNat vs[k.toNat] (List.getElem?_eq_getElem hlt)
  exact my_itemT N hm (List.getElem?_eq_getElem hlt) h0 (by omega) (h _ x (List.getElem?_eq_getElem hlt) e r) hs
end
theorem row_j_9 : True := by
  (k_with "subscriptTail" => (k_here; (with_reducible show wpAny _ _ (subscriptTail _ _ (Value.ref _) (Value.int _ _)) _ _ _); (with_unfolding_all refine' my_itemTA (R := RowAt _) (by k_asm) (by k_mem) (by assumption) (by assumption) (by omega) (by omega) ?_ ?k6_q; (case k6_q => with_unfolding_all rfl); k_whole); (rintro _ _ _ _ ⟨_, _, _, e_r, _, _, _⟩); (subst e_r)))
  (k_with "subscriptTail" => (k_here; (with_reducible show wpAny _ _ (subscriptTail _ _ (Value.ref _) (Value.int _ _)) _ _ _); (with_unfolding_all refine' my_itemTA (R := PairAt _) (by k_asm) (by k_mem) (by assumption) (by assumption) (by omega) (by omega) ?_ ?k6_q; (case k6_q => with_unfolding_all rfl); k_whole); intro _ _ _ _ _))
  (k_with "subscriptTail" => (k_here; (with_reducible show wpAny _ _ (subscriptTail _ _ (Value.ref _) (Value.int _ _)) _ _ _); (with_unfolding_all refine' my_itemT (by k_asm) (by k_mem) (by with_reducible assumption) (by assumption) (by omega) ?_ ?k6_q; (case k6_q => with_unfolding_all rfl); k_whole)))
  trivial
theorem find_spec {w : World} {B : Heap} {s : Shared} {tl : Wd} {x : Addr} {T : PC} {first second : Int} {t1 t2 : Tok} (W : Wo w B tl s.heap) (hx : IsPC w tl x T) :
    Spec w 3 313 ⟨[.ref x, .int first t1, .int second t2], []⟩ s [] tl (fun r tl' _ => tl' = tl ∧ match T.find first second with | none => r = .none | some p => PairAt tl r p) := by
  obtain ⟨c, f, g, r, vs, n, hx, hc, hf, hg, hr, hA, hvl, hF0, hG0⟩ := hx
  obtain ⟨dx, es_dx, n_dx, hx, hdx, hF_dx⟩ := id hx
  have hF := hF0 first
  have hG := hG0 second
  obtain ⟨dc, es_dc, n_dc, f_dc, hci, hcd, hF_dc⟩ := hc.dict
  obtain ⟨df, es_df, n_df, f_df, hfi, hfd, hF_df⟩ := hf.dict
  obtain ⟨dg, es_dg, n_dg, f_dg, hgi, hgd, hF_dg⟩ := hg.dict
  intro dp un fr gd R hR hret
  k_extra "mine enter"
  k_extra "mine steps"
  all_goals (
    obtain ⟨st, gr, ho⟩ := leave (own := []) (own' := []) (new := []) (tl := tl) W.at_ (by assumption) (by rename Fr _ _ _ _ => F9; exact F9) (by rename News _ _ _ _ => N9; exact N9) (by rfl) (fun _ h => nomatch h)
    refine hret _ _ _ _ st gr ⟨rfl, ?_⟩
    have e0 := hA.1
    first
      | (rename T.rows[(T.F first).toNat]? = some _ => e1
         rename (_ : List PP)[(T.G second).toNat]? = some _ => e2
         have e3 := (show T.find first second = _ by
           unfold PC.find
           rw [if_pos (by assumption), e1, Option.bind_some, e2])
         rw [e3]
         assumption)
      | (rename T.rows[(T.F first).toNat]? = some _ => e1
         rename AtAll (PairAt tl) _ _ => e2
         have e2' := e2.1
         have e3 : T.find first second = none := by
           unfold PC.find
           rw [if_pos (by assumption), e1, Option.bind_some, List.getElem?_eq_none (by omega)]
         rw [e3])
      | (have e3 : T.find first second = none := by
           unfold PC.find
           rw [if_pos (by assumption), List.getElem?_eq_none (by omega), Option.bind_none]
         rw [e3])
      | (have e3 : T.find first second = none := by
           unfold PC.find
           rw [if_neg (by assumption)]
         rw [e3]))

theorem row_j_10 : True := by
  (k_with "mine obj" => exact IsPC.mono (by assumption) (fun p hp => by repeat (first | exact hp | refine List.mem_cons_of_mem _ ?_)))
  (k_with "mine obj" => exact PairAt.mono (by assumption) (fun p hp => by repeat (first | exact hp | refine List.mem_cons_of_mem _ ?_)))
  (k_with "mine obj" => exact AtAll.mono (R := PairAt _) (by assumption) (fun _ _ q => PairAt.mono q (fun p hp => by repeat (first | exact hp | refine List.mem_cons_of_mem _ ?_))))
  trivial
section
variable {w : World} {A : Around} {s : Shared} {h₀ : Heap} {L : Addr} {m : Str → Option Value}
/-- a list that a comprehension goes through -/
theorem pyIter_listK {l : Addr} {vs : List Value} {n : Nat} {news : Wd} {Q : Value → Shared → Prop} {E : Value → Shared → Prop} (N : News h₀ L s.heap news) (hm : (l, listOf vs.toArray n) ∈ news)
    (h : Q (.ref s.heap.objs.size) { s with heap := s.heap.push { cls := .type "list_iterator", data := .fields #[.ref l, .int 0 0] } }) : wpAny (model PW w) A (pyIter (.ref l)) Q E s := wpAny_pyIter_list (News.isList N hm) h
theorem ne_empty {prog : Program} {l l2 : Addr} {vs : List Value} {n n2 : Nat} {news : Wd} {Q : Value → Shared → Prop} {E : Value → Shared → Prop} (N : News h₀ L s.heap news) (hl : (l, listOf vs.toArray n) ∈ news) (h2 : (l2, listOf ([] : List Value).toArray n2) ∈ news) (hu : A.units < cLine)
    (h : Q (.bool (!vs.isEmpty)) s) : wpAny (model prog w) A (compareOp .NotEq (.ref l) (.ref l2)) Q E s := by
  have a := News.isList N hl
  have b := News.isList N h2
  refine cmp_ofNotEq ?_
  cases vs with
  | nil => exact SeqAt.RcNeAt.lists (e := fun _ => true) a b rfl hu (fun j h1 _ => absurd h1 (by simp)) prog w E Q h
  | cons v r => exact SeqAt.RcNeAt.lists_lengths a b (by simp) hu prog w E Q h
theorem any_filterMap {ps : List PP} {os : List (Option Value)} (hl : os.length = ps.length) (h : ∀ (i : Nat) y, os[i]? = some y → ∃ p, ps[i]? = some p ∧ (y.isSome = decide (p.2 ≠ (0, 0, 0, 0)))) :
    (!(os.filterMap id).isEmpty) = ps.any fun p => decide (p.2 ≠ (0, 0, 0, 0)) := by
  induction os generalizing ps with
  | nil => cases ps with
    | nil => rfl
    | cons p r => simp at hl
  | cons y r ih => cases ps with
    | nil => simp at hl
    | cons p q =>
      have := ih (ps := q) (by simpa using hl) (fun i y' e => h (i + 1) y' (by simpa using e))
      obtain ⟨p', e1, e2⟩ := h 0 y rfl
      simp only [List.getElem?_cons_zero, Option.some.injEq] at e1
      subst e1
      cases y with
      | none =>
        simp only [Option.isSome_none] at e2
        rw [List.any_cons, ← e2, List.filterMap_cons_none rfl, Bool.false_or]
        exact this
      | some v =>
        simp only [Option.isSome_some] at e2
        rw [List.any_cons, ← e2, Bool.true_or]
        rfl
end
theorem row_j_11 : True := by
  (k_with "compareOp NotEq" => (k_here; (with_reducible show wpAny _ _ (compareOp CmpOp.NotEq (Value.ref _) (Value.ref _)) _ _ _); k_dflt (refine' ne_empty ?N_q ?h1_q ?h2_q ?hu_q ?_; (case N_q => k_asm); (case h1_q => k_mem); (case h2_q => k_mem); (case hu_q => ke_room))))
  trivial
theorem moves_spec {w : World} {B : Heap} {s : Shared} {tl : Wd} {l : Addr} {vs : List Value} {ps : List PP} {n : Nat} (W : Wo w B tl s.heap) (hl : (l, listOf vs.toArray n) ∈ tl) (hA : AtAll (PairAt tl) vs ps) (hz : vs.length ≤ 1000) :
    Spec w 4 259 ⟨[.ref l], []⟩ s [] tl (QEq tl (.bool (ps.any fun p => decide (p.2 ≠ (0, 0, 0, 0))))) := by
  intro dp un fr gd R hR hret
  k_extra "mine enter"
  k_extra "mine steps"
  rename Fr _ _ _ _ => F1
  rename News _ _ _ _ => N1
  rename Frag.In _ _ => X1
  rename Top _ _ _ _ _ _ => T1
  refine ListComp_K (cl := []) F1 (by rfl) (by decide) (by rfl) (by decide) ?_
  k_extra "mine steps"
  refine pyIter_listK N1 hl ?_
  refine compAt_pure (fun i y => ∃ p, ps[i]? = some p ∧ (y.isSome = decide (p.2 ≠ (0, 0, 0, 0)))) (src_list rfl F1 N1 hl (by omega)) ?_ ?_
  · rintro g C i v m₁ h₁ tk₁ led hg hi hP hs F2 N2
    have X2 := X1.keeps hg
    have T2 := T1.keeps hg
    obtain ⟨p, hp, t, x, y, n, rfl, ht, hx, hy⟩ := hA.2 i v hP
    have ht2 := hs _ ht
    have hy2 := IsObj.mono hy hs
    obtain ⟨dy, es_dy, n_dy, hyi, hyd, hF_dy⟩ := id hy2
    refine blk_assign F2 N2 rfl rfl ?_
    intro h3 F3 N3
    clear F2 N2
    refine tests_one ?_
    k_extra "mine steps"
    · refine' ⟨_, _, _, _, rfl, ?F, ?N, ?sub, p, hp, ?fin⟩
      case F => assumption
      case N => assumption
      case sub => exact fun p hp => by repeat (first | exact hp | refine List.mem_cons_of_mem _ ?_)
      simp [*]
    · refine' ⟨_, _, _, _, rfl, ?Fb, ?Nb, ?subb, p, hp, ?finb⟩
      case Fb => assumption
      case Nb => assumption
      case subb => exact fun p hp => by repeat (first | exact hp | refine List.mem_cons_of_mem _ ?_)
      simp [*]
  · clear F1 N1
    intro D h' tk os k F2 N2 hos hRs
    k_extra "mine steps"
    obtain ⟨st, gr, ho⟩ := leave (own := []) (own' := []) (new := []) (tl := tl) W.at_ (by assumption) (by rename Fr _ _ _ _ => F9; exact F9) (by rename News _ _ _ _ => N9; exact fun p hp => N9 p (by repeat (first | exact hp | refine List.mem_cons_of_mem _ ?_))) (by rfl) (fun _ h => nomatch h)
    refine hret _ _ _ _ st gr ⟨?_, rfl⟩
    congr 1
    exact any_filterMap (by rw [hos, hA.1]) hRs

theorem row_j_12 : True := by
  (k_with "call ref" => (refine' use0e (f := 259) (by k_asm) (by k_asm) (by k_asm) (by k_asm) (fun W => moves_spec W (by k_mem) (by k_extra "mine obj") (by omega)) (by k_extra "mine room") ?_; intro _ _ _ _))
  trivial
section
variable {prog : Program} {w : World} {A : Around} {s : Shared} {cenv : Env} {g : Heap} {target elt iter t2 it2 : Expr} {ifs : List Expr} {scope : Scope} {pos : Pos}
abbrev twoOf (elt target iter t2 it2 : Expr) (ifs : List Expr) (scope : Scope) (pos : Pos) : Expr := .ListComp elt [⟨target, iter, ifs, 0⟩, ⟨t2, it2, [], 0⟩] scope pos
theorem compTurn_two0 (it acc : Value) : compTurn (twoOf elt target iter t2 it2 ifs scope pos) 0 it acc cenv = (standAt iter.pos >>= fun _ => pyNext it >>= fun r => match r with
      | none => pure (.done .next)
      | some v => letOwnedTupleGo target it v >>= fun _ => assign target cenv v >>= fun _ => testsOf ifs cenv >>= fun ok =>
        if ok = true then eval it2 cenv >>= fun x => standAt it2.pos >>= fun _ => foldedSetIterable it2 cenv x >>= fun x => holding [x] (pyIter x) >>= fun i2 => runOwn (.compStart (twoOf elt target iter t2 it2 ifs scope pos) 1 i2 acc cenv) cenv >>= fun _ =>
          again (.compLoop (twoOf elt target iter t2 it2 ifs scope pos) 0 it acc cenv)
        else again (.compLoop (twoOf elt target iter t2 it2 ifs scope pos) 0 it acc cenv)) := by rfl
theorem compTurn_two1 (it acc : Value) : compTurn (twoOf elt target iter t2 it2 ifs scope pos) 1 it acc cenv = (standAt it2.pos >>= fun _ => pyNext it >>= fun r => match r with
      | none => pure (.done .next)
      | some v => letOwnedTupleGo t2 it v >>= fun _ => assign t2 cenv v >>= fun _ => testsOf [] cenv >>= fun ok =>
        if ok = true then (eval elt cenv >>= fun x => call (.builtin "list.append") [acc, x] >>= fun _ => pure ()) >>= fun _ =>
          again (.compLoop (twoOf elt target iter t2 it2 ifs scope pos) 1 it acc cenv)
        else again (.compLoop (twoOf elt target iter t2 it2 ifs scope pos) 1 it acc cenv)) := by rfl
theorem codeAny_compStart_two {R : Result → Shared → Prop} {it acc : Value}
    (h0 : codeAny (model prog w) A (.compLoop (twoOf elt target iter t2 it2 ifs scope pos) 1 it acc cenv) R s)
    (h : wpAny (model prog w) A (pyIter it) (fun it' s' => codeAny (model prog w) A (.compLoop (twoOf elt target iter t2 it2 ifs scope pos) 1 it' acc cenv) R s') NoE s) :
    codeAny (model prog w) A (.compStart (twoOf elt target iter t2 it2 ifs scope pos) 1 it acc cenv) R s := by
  refine codeAny_of_tree ?_
  show wpAny _ _ ((compStart (twoOf elt target iter t2 it2 ifs scope pos) 1 it acc cenv).onRaise (fun x => do noteFrame x cenv; standAt theWindowsPlace)) _ _ s
  refine wpAny_notedAt (noE ?_)
  unfold compStart
  show wpAny _ _ (ask >>= _) _ _ s
  refine wpAny_bind (wpAny_askSetting (wpAny_ite ?_))
  split
  · first
      | exact wpAny_bind (wpAny_pure (wpAny_pure (And.intro rfl h0)))
      | exact wpAny_pure (And.intro rfl h0)
  · first
      | exact wpAny_bind (wpAny_rule (wpAny_bind (wpAny_standAt (wpAny_bind (wpAny_mono h (fun it' s' h' => wpAny_pure (And.intro rfl h')) fun _ _ x => x)))))
      | (refine wpAny_bind (wpAny_rule ?_); show wpAny _ _ (standAt it2.pos >>= _) _ _ s; exact wpAny_bind (wpAny_standAt (wpAny_bind (wpAny_mono h (fun it' s' h' => wpAny_pure (And.intro rfl h')) fun _ _ x => x))))

/-- [x for row in rows for x in row], rows a tuple of tuples: the outer loop -/
inductive FIn (s : Shared) (g : Heap) (L D I r₀ : Addr) (us : Nat → List Value) (news : Wd) (i : Nat) (s' : Shared) : Prop
  | mk : ∀ h' tk m', s' = { s with heap := h', toks := tk } → h'.IsTupleIter I r₀ i → Fr g L h' m' → News g L h' news → h'.PlainList D ((List.range i).flatMap us).toArray → FIn s g L D I r₀ us news i s'
inductive FSt (s : Shared) (g : Heap) (L D I r₀ : Addr) (us : Nat → List Value) (news : Wd) (n k : Nat) (s' : Shared) : Prop
  | mk : ∀ h' tk m' i, s' = { s with heap := h', toks := tk } → h'.IsTupleIter I r₀ i → Fr g L h' m' → News g L h' news → h'.PlainList D ((List.range i).flatMap us).toArray → i ≤ n → k = n + 1 - i → FSt s g L D I r₀ us news n k s'
theorem flat_loop {x1 x2 : Str} {p1 p2 p3 p4 : Pos} {R : Result → Shared → Prop} {I C D r₀ : Addr} {vs : List Value} {n0 : Nat} {us : Nat → List Value} {m : Str → Option Value} {news : Wd} (hh : A.handled = none)
    (hC : cenv.locals = C) (hk : cenv.scope.kind = .function) (hp : (cenv.scope.kind == .class || (cenv.scope.kind == .module && cenv.locals != cenv.globals)) = false)
    (hx1 : cenv.kindOf x1 = some .local) (hx2 : cenv.kindOf x2 = some .local) (hd1 : (x1 == ("__debug__" : Str)) = false) (hd2 : (x2 == ("__debug__" : Str)) = false)
    (hIC : I ≠ C) (hID : I ≠ D) (hDC : D ≠ C) (hgI : g.get? I = none) (hgD : g.get? D = none) (hnI : ∀ p ∈ news, p.1 ≠ I ∧ p.1 ≠ D) (hr : (r₀, tupOf vs n0) ∈ news)
    (hus : ∀ (i : Nat) (v : Value), vs[i]? = some v → ∃ t k, v = .ref t ∧ (t, tupOf (us i) k) ∈ news) (hz : vs.length ≤ 1000) (hzu : ∀ i, (us i).length ≤ 1000)
    (hit : s.heap.IsTupleIter I r₀ 0) (F : Fr g C s.heap m) (N : News g C s.heap news) (hD : s.heap.PlainList D #[])
    (hs2 : ∀ x, foldedSetIterable (.Name x1 p3) cenv x = pure x)
    (hR : ∀ h' tk m' k, Fr g C h' m' → News g C h' ((D, listOf ((List.range vs.length).flatMap us).toArray k) :: news) → R (.ok .next) { s with heap := h', toks := tk }) :
    codeAny (model prog w) A (.compLoop (twoOf (.Name x2 p4) (.Name x1 p1) iter (.Name x2 p2) (.Name x1 p3) [] scope pos) 0 (.ref I) (.ref D) cenv) R s := by
  subst hC
  have hAm : A.mark none = A := by unfold Around.mark; simp
  have hIr : r₀ ≠ I := (hnI _ hr).1
  have hlen : ∀ i, i ≤ vs.length → ((List.range i).flatMap us).length ≤ i * 1000 := fun i => by
    induction i with
    | zero => intro _; simp
    | succ i ih => intro h; rw [List.range_succ, List.flatMap_append, List.length_append]; have h1 := ih (by omega); have h2 := hzu i; rw [List.flatMap_cons, List.flatMap_nil, List.append_nil]; omega
  refine codeAny_loop rfl
    (FSt s g cenv.locals D I r₀ us news vs.length) ?_ (vs.length + 1)
    ⟨s.heap, s.toks, m, 0, rfl, hit, F, N, by simpa using hD, Nat.zero_le _, rfl⟩
  rintro k s' ⟨h', tk, m', i, rfl, hit', F', N', hD', hi, rfl⟩
  show wpAny _ A ((compTurn (twoOf (.Name x2 p4) (.Name x1 p1) iter (.Name x2 p2) (.Name x1 p3) [] scope pos) 0 (.ref I) (.ref D) cenv).onRaise (fun x => do noteFrame x cenv; theTreesLotGoes x)) _ _ _
  refine wpAny_noted (noE ?_)
  rw [compTurn_two0]
  refine wpAny_bind (wpAny_standAt (wpAny_bind ?_))
  have hrt : h'.IsTuple r₀ vs.toArray := ⟨_, (N' _ hr).1, rfl, _, rfl⟩
  have same : ∀ h₁, Heap.ExtBut I h' h₁ → Fr g cenv.locals h₁ m' ∧ News g cenv.locals h₁ news ∧ h₁.PlainList D ((List.range i).flatMap us).toArray := fun h₁ hs₁ =>
    ⟨⟨F'.ns.extBut hs₁ hIC.symm, fun b o e => hs₁ b o (fun q => by rw [q, hgI] at e; cases e) (F'.keep b o e), F'.above⟩, fun p hp => ⟨hs₁ _ _ (hnI p hp).1 (N' p hp).1, (N' p hp).2⟩, hD'.extBut hs₁ hID.symm⟩
  by_cases hlt : i < vs.length
  · have hv : vs[i]? = some vs[i] := List.getElem?_eq_getElem hlt
    obtain ⟨t, kt, hvt, ht⟩ := hus i _ hv
    refine wpAny_pyNext_tuple_item hit' hrt (x := vs[i]) (by simp [hlt]) fun h₁ hit₁ hs₁ => ?_
    obtain ⟨F₁, N₁, D₁⟩ := same h₁ hs₁.extBut
    refine wpAny_bind (wpAny_pure ?_)
    obtain ⟨kD, D₁⟩ := D₁
    obtain ⟨oI, eI, cI, dI⟩ := id hit₁
    have N₁' : News g cenv.locals h₁ ((I, oI) :: (D, listOf ((List.range i).flatMap us).toArray kD) :: news) := fun p hp => by
      rcases List.mem_cons.mp hp with rfl | hp
      · exact ⟨eI, hIC, hgI⟩
      rcases List.mem_cons.mp hp with rfl | hp
      · exact ⟨D₁, hDC, hgD⟩
      exact N₁ p hp
    refine wpAny_bind (blk_assign F₁ N₁' hx1 hp fun h₂ F₂ N₂ => ?_)
    refine wpAny_bind (tests_nil ?_)
    simp only [if_true]
    refine wpAny_bind (ld_gen (v := .ref t) F₂ (by simp [hvt]) ?_ hk hx1 hd1)
    refine wpAny_bind (wpAny_standAt (wpAny_bind (wpAny_of_eq (hs2 _) (wpAny_bind (wpAny_holding ?_)))))
    have htm : (t, tupOf (us i) kt) ∈ ((I, oI) :: (D, listOf ((List.range i).flatMap us).toArray kD) :: news) := List.mem_cons_of_mem _ (List.mem_cons_of_mem _ ht)
    have htt : h₂.IsTuple t (us i).toArray := ⟨_, (N₂ _ htm).1, rfl, _, rfl⟩
    refine wpAny_pyIter_tuple (s := { s with heap := h₂, toks := tk + 1 }) htt ?_
    have hI2 : ∀ p ∈ ((I, oI) :: (D, listOf ((List.range i).flatMap us).toArray kD) :: news), p.1 ≠ h₂.objs.size := fun p hp => Nat.ne_of_lt (Heap.lt_size (N₂ p hp).1)
    have ht2 : t ≠ h₂.objs.size := hI2 _ htm
    have F₃ : Fr g cenv.locals (h₂.push { cls := .type "tuple_iterator", data := .fields #[.ref t, .int 0 0] }) _ := F₂.push _
    have N₃ : News g cenv.locals (h₂.push { cls := .type "tuple_iterator", data := .fields #[.ref t, .int 0 0] }) ((I, oI) :: (D, listOf ((List.range i).flatMap us).toArray kD) :: news) := fun p hp => ⟨Heap.get?_push_of_some _ (N₂ p hp).1, (N₂ p hp).2⟩
    have hit2 : (h₂.push { cls := .type "tuple_iterator", data := .fields #[.ref t, .int 0 0] }).IsTupleIter h₂.objs.size t 0 := ⟨_, Heap.get?_push_size _ rfl, rfl, rfl⟩
    have hgI2 : g.get? h₂.objs.size = none := next_free F₂
    have hCI2 : cenv.locals ≠ h₂.objs.size := Nat.ne_of_lt F₂.ns.lt
    have htt' : (h₂.push { cls := .type "tuple_iterator", data := .fields #[.ref t, .int 0 0] }).IsTuple t (us i).toArray := htt.push _
    generalize hH3 : h₂.push { cls := .type "tuple_iterator", data := .fields #[.ref t, .int 0 0] } = h₃ at F₃ N₃ hit2 htt' ⊢
    have inner : codeAny (model prog w) A (.compLoop (twoOf (.Name x2 p4) (.Name x1 p1) iter (.Name x2 p2) (.Name x1 p3) [] scope pos) 1 (.ref h₂.objs.size) (.ref D) cenv)
        (fun r s' => match r with
          | .ok _ => FIn s g cenv.locals D I r₀ us news (i + 1) s'
          | .error _ => False) { s with heap := h₃, toks := tk + 1 } := by
      have W := Walks.tuple (prog := prog) (w := w) hh h₂.objs.size t ht2 (us i).toArray
      have hi2 : vs.length ≤ 1000 := hz
      have hl1 := hlen i (by omega)
      have hu1 := hzu i
      refine comp_loopG (gens := [⟨.Name x1 p1, iter, [], 0⟩, ⟨.Name x2 p2, .Name x1 p3, [], 0⟩]) (d := 1) (p0 := p3) (elt0 := .Name x2 p4) (elt := .Name x2 p4) (ifs := []) (ys₀ := (List.range i).flatMap us) (news := (I, oI) :: news) (fp := [h₂.objs.size, t]) (wr := [h₂.objs.size]) (n := (us i).length) (target := .Name x2 p2)
        (KTurns.ofWalks (n := (us i).length) (P := fun j v => (us i)[j]? = some v) (St := fun j h => h.IsTupleIter h₂.objs.size t j ∧ h.IsTuple t (us i).toArray) (by simpa using W) (fun _ _ _ _ _ _ q => wpAny_pure q))
        ?_ ?_ hDC ?_ hgD ?_ (by show _ ≤ _; omega) ?_ ⟨hit2, htt'⟩ F₃ ?_ ⟨kD, (N₃ _ (List.mem_cons_of_mem _ (List.mem_cons_self ..))).1⟩ (fun j ys news' => news' = (I, oI) :: news ∧ ys = (List.range i).flatMap us ++ (us i).take j) ⟨rfl, by simp⟩ (compTurn_two1 ..) ?_ ?_
      · intro hm
        rcases List.mem_cons.mp hm with e | hm
        · exact hCI2 e
        · exact (N₃ _ htm).2.1 (List.mem_singleton.mp hm).symm
      · intro hm
        rcases List.mem_cons.mp hm with e | hm
        · exact hI2 _ (List.mem_cons_of_mem _ (List.mem_cons_self ..)) e
        · exact (hnI _ ht).2 (List.mem_singleton.mp hm).symm
      · intro b hb; rw [List.mem_singleton.mp hb]; exact hgI2
      · intro p hp
        refine ⟨fun hb => ?_, fun e => ?_⟩
        · rcases List.mem_cons.mp hp with rfl | hp
          · exact hI2 _ (List.mem_cons_self ..) (List.mem_singleton.mp hb)
          · exact hI2 _ (List.mem_cons_of_mem _ (List.mem_cons_of_mem _ hp)) (List.mem_singleton.mp hb)
        · rcases List.mem_cons.mp hp with rfl | hp
          · exact hID e
          · exact (hnI p hp).2 e
      · rintro j h ⟨⟨o, e, _⟩, _⟩ b hb
        rw [List.mem_singleton.mp hb]; exact ⟨o, e⟩
      · intro p hp
        rcases List.mem_cons.mp hp with rfl | hp
        · exact N₃ _ (List.mem_cons_self ..)
        · exact N₃ _ (List.mem_cons_of_mem _ (List.mem_cons_of_mem _ hp))
      · rintro j v ys m₄ news₄ h₄ tk₄ own oD hj hP ⟨rfl, rfl⟩ hoff _ _ _ F₄ N₄
        refine blk_assign F₄ N₄ hx2 hp fun h₅ F₅ N₅ => tests_nil ?_
        simp only [if_true]
        refine ld_gen F₅ (v := v) (by simp) ⟨h₅, tk₄ + 1, _, _, rfl, F₅, N₅, hoff, rfl, ?_⟩ hk hx2 hd2
        rw [List.append_assoc]
        congr 1
        rw [List.take_succ]
        rw [show (us i)[j]? = some v from hP]
      · rintro h₄ tk₄ m₄ news₄ ys k F₄ N₄ hoff ⟨rfl, rfl⟩
        refine ⟨h₄, tk₄, m₄, rfl, ⟨oI, (N₄ _ (List.mem_cons_of_mem _ (List.mem_cons_self ..))).1, cI, dI⟩, F₄, fun p hp => N₄ _ (List.mem_cons_of_mem _ (List.mem_cons_of_mem _ hp)), k, ?_⟩
        rw [List.range_succ, List.flatMap_append, List.flatMap_cons, List.flatMap_nil, List.append_nil]
        have := (N₄ _ (List.mem_cons_self ..)).1
        rw [List.take_length] at this
        exact this
    refine wpAny_bind (wpAny_runOwn (by
      rw [hAm]
      refine codeAny_mono (codeAny_compStart_two inner (wpAny_pyIter_tupleiter hit2 inner)) (fun r s' q => ?_)
      cases r with
      | error e => exact q.elim
      | ok f =>
        obtain ⟨h', tk', m'', rfl, a, b, c, d⟩ := q
        exact wpAny_pure ⟨rfl, vs.length + 1 - (i + 1), by omega, h', tk', m'', i + 1, rfl, a, b, c, d, hlt, rfl⟩))
  · have hin : i = vs.length := by omega
    subst hin
    refine wpAny_pyNext_tuple_end hh hit' hrt (by simp) fun h₁ he => wpAny_pure ?_
    obtain ⟨F₁, N₁, kD, D₁⟩ := same h₁ he
    refine hR h₁ tk m' kD F₁ fun p hp => ?_
    rcases List.mem_cons.mp hp with rfl | hp
    · exact ⟨D₁, hDC, hgD⟩
    · exact N₁ p hp
end
section
variable {prog : Program} {w : World} {A : Around} {s : Shared} {env : Env} {h₀ : Heap} {L : Addr} {m : Str → Option Value} {iter : Expr} {scope : Scope} {cl : List (Str × Addr)} {pos : Pos}
theorem codeAny_compStart_two0 {cenv : Env} {target elt t2 it2 : Expr} {ifs : List Expr} {R : Result → Shared → Prop} {it acc : Value}
    (h0 : codeAny (model prog w) A (.compLoop (twoOf elt target iter t2 it2 ifs scope pos) 0 it acc cenv) R s)
    (h : wpAny (model prog w) A (pyIter it) (fun it' s' => codeAny (model prog w) A (.compLoop (twoOf elt target iter t2 it2 ifs scope pos) 0 it' acc cenv) R s') NoE s) :
    codeAny (model prog w) A (.compStart (twoOf elt target iter t2 it2 ifs scope pos) 0 it acc cenv) R s := by
  refine codeAny_of_tree ?_
  show wpAny _ _ ((compStart (twoOf elt target iter t2 it2 ifs scope pos) 0 it acc cenv).onRaise (fun x => do noteFrame x cenv; standAt theWindowsPlace)) _ _ s
  refine wpAny_notedAt (noE ?_)
  unfold compStart
  show wpAny _ _ (ask >>= _) _ _ s
  refine wpAny_bind (wpAny_askSetting (wpAny_ite ?_))
  split
  · first
      | exact wpAny_bind (wpAny_pure (wpAny_pure (And.intro rfl h0)))
      | exact wpAny_pure (And.intro rfl h0)
  · first
      | exact wpAny_bind (wpAny_rule (wpAny_bind (wpAny_standAt (wpAny_bind (wpAny_mono h (fun it' s' h' => wpAny_pure (And.intro rfl h')) fun _ _ x => x)))))
      | (refine wpAny_bind (wpAny_rule ?_); show wpAny _ _ (standAt iter.pos >>= _) _ _ s; exact wpAny_bind (wpAny_standAt (wpAny_bind (wpAny_mono h (fun it' s' h' => wpAny_pure (And.intro rfl h')) fun _ _ x => x))))

theorem Flat_K {x1 x2 : Str} {p1 p2 p3 p4 : Pos} {Q : Value → Shared → Prop} {r₀ : Addr} {vs : List Value} {n0 : Nat} {us : Nat → List Value} {news : Wd} (hh : A.handled = none)
    (hclos : closureFor scope env = pure cl) (hcell : ∀ y ∈ scope.names, y.2 ≠ .cell) (hkind : scope.kind = .function)
    (hnames : ∀ y ∈ scope.names, y.2 = .local → scope.names.lookup y.1 = some .local)
    (hx1 : ∀ C, (compEnvC scope cl C env).kindOf x1 = some .local) (hx2 : ∀ C, (compEnvC scope cl C env).kindOf x2 = some .local) (hd1 : (x1 == ("__debug__" : Str)) = false) (hd2 : (x2 == ("__debug__" : Str)) = false)
    (hs2 : ∀ C x, foldedSetIterable (.Name x1 p3) (compEnvC scope cl C env) x = pure x)
    (hr : (r₀, tupOf vs n0) ∈ news) (hus : ∀ (i : Nat) (v : Value), vs[i]? = some v → ∃ t k, v = .ref t ∧ (t, tupOf (us i) k) ∈ news) (hz : vs.length ≤ 1000) (hzu : ∀ i, (us i).length ≤ 1000)
    (h : wpAny (model prog w) A (eval iter env) (fun xv s₁ => xv = .ref r₀ ∧ Fr h₀ L s₁.heap m ∧ News h₀ L s₁.heap news ∧
      ∀ D h' tk k, Fr h₀ L h' m → News h₀ L h' ((D, listOf ((List.range vs.length).flatMap us).toArray k) :: news) → Q (.ref D) { s₁ with heap := h', toks := tk }) NoE s)
    (hs : ∀ x, foldedSetIterable iter env x = pure x := by intro _; rfl) :
    wpAny (model prog w) A (eval (twoOf (.Name x2 p4) (.Name x1 p1) iter (.Name x2 p2) (.Name x1 p3) [] scope pos) env) Q NoE s := by
  rw [eval_ListComp]
  refine wpAny_comprehension_free (use := none) rfl hs hclos hkind hnames (wpAny_mono h (fun xv s₁ h₁ => ?_) fun _ _ e => e)
  obtain ⟨rfl, F, N, fin⟩ := h₁
  have htp : s₁.heap.IsTuple r₀ vs.toArray := ⟨_, (N _ hr).1, rfl, _, rfl⟩
  refine wpAny_pyIter_tuple htp ?_
  have hLlt := F.ns.lt
  have hfree := next_free F
  have F := F.push { cls := .type "tuple_iterator", data := .fields #[.ref r₀, .int 0 0] }
  have hI : ∀ p ∈ news, p.1 ≠ s₁.heap.objs.size := fun p hp => Nat.ne_of_lt (Heap.lt_size (N p hp).1)
  have N : News h₀ L (s₁.heap.push { cls := .type "tuple_iterator", data := .fields #[.ref r₀, .int 0 0] }) news := fun p hp => ⟨Heap.get?_push_of_some _ (N p hp).1, (N p hp).2⟩
  have hit : (s₁.heap.push { cls := .type "tuple_iterator", data := .fields #[.ref r₀, .int 0 0] }).IsTupleIter s₁.heap.objs.size r₀ 0 := ⟨_, Heap.get?_push_size _ rfl, rfl, rfl⟩
  have hIlt : s₁.heap.objs.size < (s₁.heap.push { cls := .type "tuple_iterator", data := .fields #[.ref r₀, .int 0 0] }).objs.size := by rw [Heap.size_push]; exact Nat.lt_succ_self _
  generalize hH1 : s₁.heap.push { cls := .type "tuple_iterator", data := .fields #[.ref r₀, .int 0 0] } = h1 at F N hit hIlt ⊢
  have hIL : s₁.heap.objs.size ≠ L := Nat.ne_of_gt hLlt
  have hI0 : h₀.get? s₁.heap.objs.size = none := hfree
  generalize s₁.heap.objs.size = I at *
  refine wpAny_newObj_type (wpAny_newFunctionEnv hcell (by intro y hy; simp at hy) (fun h₂ hns₂ hsb₂ => ?_) hkind)
  dsimp only at hns₂ hsb₂ ⊢
  generalize hH2 : h1.push { cls := .type "list", dict := none, data := .seq ([] : List Value).toArray } = H2 at hns₂ hsb₂ ⊢
  have hC : H2.objs.size = h1.objs.size + 1 := by rw [← hH2, Heap.size_push]
  have hDC : h1.objs.size ≠ H2.objs.size := by rw [hC]; exact Nat.ne_of_lt (Nat.lt_succ_self _)
  have below : ∀ b, b < h1.objs.size → b ≠ H2.objs.size ∧ b ≠ h1.objs.size := fun b hb => ⟨by rw [hC]; exact Nat.ne_of_lt (Nat.lt_succ_of_lt hb), Nat.ne_of_lt hb⟩
  have old : ∀ b o, h1.get? b = some o → h₂.get? b = some o := fun b o e => hsb₂.extBut b o (below b (Heap.lt_size e)).1 (Heap.get?_push_of_some _ (hH2 ▸ Heap.get?_push_of_some _ e))
  have hacc : h₂.PlainList h1.objs.size #[] := ⟨_, hsb₂.extBut _ _ hDC (Heap.get?_push_of_some _ (hH2 ▸ Heap.get?_push_size _ rfl))⟩
  have fresh : ∀ a, h1.objs.size ≤ a → h1.get? a = none := fun a ha => by
    cases e : h1.get? a with
    | none => rfl
    | some o' => exact absurd (Heap.lt_size e) (Nat.not_lt.mpr ha)
  have hit₂ : h₂.IsTupleIter I r₀ 0 := by obtain ⟨o, a, b, c⟩ := hit; exact ⟨o, old _ _ a, b, c⟩
  have hgsub : ∀ b o, (hideAll h1 (news.map (·.1) ++ [I])).get? b = some o → h1.get? b = some o := fun b o e => of_hideAll _ e
  have hh₀ : ∀ b o, h₀.get? b = some o → (hideAll h1 (news.map (·.1) ++ [I])).get? b = some o := fun b o e => hideAll_get _ (F.keep b o e) fun q => by
    rcases List.mem_append.mp q with q | q
    · obtain ⟨p, hp, rfl⟩ := List.mem_map.mp q
      rw [(N p hp).2.2] at e; cases e
    · rw [List.mem_singleton.mp q, hI0] at e; cases e
  obtain ⟨oL, esL, epL, hL, hLd, hLk, hLm⟩ := F.ns
  have hgL : (hideAll h1 (news.map (·.1) ++ [I])).get? L = some oL := hideAll_get _ hL fun q => by
    rcases List.mem_append.mp q with q | q
    · obtain ⟨p, hp, e⟩ := List.mem_map.mp q
      exact (N p hp).2.1 e
    · exact hIL (List.mem_singleton.mp q).symm
  have hLs : L < h1.objs.size := Heap.lt_size hL
  generalize hG : hideAll h1 (news.map (·.1) ++ [I]) = g at hgsub hh₀ hgL
  have gsz : g.objs.size = h1.objs.size := by rw [← hG]; exact hideAll_size _ _
  have hgn : ∀ p ∈ news, g.get? p.1 = none := fun p hp => hG ▸ hideAll_none _ (List.mem_append_left _ (List.mem_map_of_mem hp))
  have hgI : g.get? I = none := hG ▸ hideAll_none _ (List.mem_append_right _ (List.mem_singleton.mpr rfl))
  have hgf : ∀ a, h1.objs.size ≤ a → g.get? a = none := fun a ha => by
    cases e : g.get? a with
    | none => rfl
    | some o => have q := hgsub a o e; rw [fresh a ha] at q; cases q
  have F₁ : Fr g H2.objs.size h₂ (fun x => ([] : List (Str × Value)).reverse.lookup x) := ⟨hns₂, fun b o e => old b o (hgsub b o e), by rw [gsz, hC]; exact Nat.le_succ _⟩
  have N₁ : News g H2.objs.size h₂ news := fun p hp => ⟨old _ _ (N p hp).1, (below _ (Heap.lt_size (N p hp).1)).1, hgn p hp⟩
  have hCL : H2.objs.size ≠ L := Nat.ne_of_gt (Nat.lt_of_lt_of_le hLs (by rw [hC]; exact Nat.le_succ _))
  have loop : ∀ s₃ : Shared, s₃.heap = h₂ → (∀ h tk, { s₃ with heap := h, toks := tk } = { s₁ with heap := h, toks := tk }) →
      codeAny (model prog w) A (.compLoop (twoOf (.Name x2 p4) (.Name x1 p1) iter (.Name x2 p2) (.Name x1 p3) [] scope pos) 0 (.ref I) (.ref h1.objs.size) (compEnvC scope cl H2.objs.size env))
        (compPost (model prog w) A NoE none Q (.ref h1.objs.size) H2.objs.size) s₃ := by
    intro s₃ e₃ e₄
    refine flat_loop (C := H2.objs.size) (D := h1.objs.size) hh rfl hkind ?_ (hx1 _) (hx2 _) hd1 hd2 (below _ hIlt).1 (below _ hIlt).2 hDC hgI (hgf _ (Nat.le_refl _)) (fun p hp => ⟨hI p hp, (below _ (Heap.lt_size (N p hp).1)).2⟩) hr hus hz hzu (e₃ ▸ hit₂) (e₃ ▸ F₁) (e₃ ▸ N₁) (e₃ ▸ hacc) (hs2 _) ?_
    · have e : (compEnvC scope cl H2.objs.size env).scope.kind = .function := hkind
      rw [e]; rfl
    · intro h' tk m' k F' N'
      have F'' : Fr h₀ L h' m := ⟨⟨oL, esL, epL, F'.keep L oL hgL, hLd, hLk, hLm⟩, fun b o e => F'.keep b o (hh₀ b o e), F.above⟩
      have N'' : News h₀ L h' ((h1.objs.size, listOf ((List.range vs.length).flatMap us).toArray k) :: news) := fun p hp => by
        refine ⟨(N' p hp).1, fun q => ?_, ?_⟩
        · have := (N' p hp).2.2; rw [q, hgL] at this; cases this
        · cases e : h₀.get? p.1 with
          | none => rfl
          | some o => have := (N' p hp).2.2; rw [hh₀ _ _ e] at this; cases this
      have hC0 : h₀.get? H2.objs.size = none := by
        cases e : h₀.get? H2.objs.size with
        | none => rfl
        | some o => have := hgf H2.objs.size (by rw [hC]; exact Nat.le_succ _); rw [hh₀ _ _ e] at this; cases this
      rw [e₄]
      refine ⟨m', F'.ns, fun h'' hs'' => ?_⟩
      obtain ⟨a, b⟩ := same_C hs'' hCL hC0 (Ne.symm hDC) (fun p hp => (N' p (List.mem_cons_of_mem _ hp)).2.1) F'' N''
      exact fin _ h'' tk k a b
  exact codeAny_compStart_two0 (loop _ rfl (fun _ _ => rfl)) (wpAny_pyIter_tupleiter hit₂ (loop _ rfl (fun _ _ => rfl)))
end
theorem Flat_N {prog : Program} {w : World} {A : Around} {s : Shared} {env : Env} {h₀ : Heap} {m : Str → Option Value} {scope : Scope} {pos : Pos} {x0 x1 x2 : Str} {p0 p1 p2 p3 p4 : Pos} {Q : Value → Shared → Prop} {r₀ : Addr} {vs : List Value} {n0 : Nat} {us : Nat → List Value} {news : Wd}
    (F : Fr h₀ env.locals s.heap m) (N : News h₀ env.locals s.heap news) (hm : m x0 = some (.ref r₀)) (hk : env.scope.kind = .function) (hx0 : env.kindOf x0 = some .local) (hd0 : (x0 == ("__debug__" : Str)) = false) (hh : A.handled = none)
    (hclos : closureFor scope env = pure []) (hcell : ∀ y ∈ scope.names, y.2 ≠ .cell) (hkind : scope.kind = .function)
    (hnames : ∀ y ∈ scope.names, y.2 = .local → scope.names.lookup y.1 = some .local)
    (hx1 : ∀ C, (compEnvC scope [] C env).kindOf x1 = some .local) (hx2 : ∀ C, (compEnvC scope [] C env).kindOf x2 = some .local) (hd1 : (x1 == ("__debug__" : Str)) = false) (hd2 : (x2 == ("__debug__" : Str)) = false)
    (hs2 : ∀ C x, foldedSetIterable (.Name x1 p3) (compEnvC scope [] C env) x = pure x)
    (hs : ∀ x, foldedSetIterable (.Name x0 p0) env x = pure x)
    (hr : (r₀, tupOf vs n0) ∈ news) (hus : ∀ (i : Nat) (v : Value), vs[i]? = some v → ∃ t k, v = .ref t ∧ (t, tupOf (us i) k) ∈ news) (hz : vs.length ≤ 1000) (hzu : ∀ i, (us i).length ≤ 1000)
    (fin : ∀ D h' tk k, Fr h₀ env.locals h' m → News h₀ env.locals h' ((D, listOf ((List.range vs.length).flatMap us).toArray k) :: news) → Q (.ref D) { s with heap := h', toks := tk }) :
    wpAny (model prog w) A (eval (twoOf (.Name x2 p4) (.Name x1 p1) (.Name x0 p0) (.Name x2 p2) (.Name x1 p3) [] scope pos) env) Q NoE s :=
  Flat_K (m := m) (L := env.locals) (news := news) (us := us) hh hclos hcell hkind hnames hx1 hx2 hd1 hd2 hs2 hr hus hz hzu
    (ld_gen F hm ⟨rfl, F, N, fin⟩ hk hx0 hd0) hs

theorem AtAll.append {α : Type} {R : Value → α → Prop} {vs vs' : List Value} {xs xs' : List α} (a : AtAll R vs xs) (b : AtAll R vs' xs') : AtAll R (vs ++ vs') (xs ++ xs') := by
  refine ⟨by simp [a.1, b.1], fun i v e => ?_⟩
  rcases Nat.lt_or_ge i vs.length with h | h
  · rw [List.getElem?_append_left h] at e
    rw [List.getElem?_append_left (by rw [← a.1]; exact h)]
    exact a.2 i v e
  · rw [List.getElem?_append_right h] at e
    rw [List.getElem?_append_right (by rw [← a.1]; exact h), ← a.1]
    exact b.2 _ v e
theorem rows_flat {tl : Wd} {vs : List Value} {rows : List (List PP)} (hA : AtAll (RowAt tl) vs rows) (h8 : ∀ r ∈ rows, r.length ≤ 8) :
    ∃ us : Nat → List Value, (∀ (i : Nat) (v : Value), vs[i]? = some v → ∃ t k, v = .ref t ∧ (t, tupOf (us i) k) ∈ tl) ∧ (∀ i, (us i).length ≤ 8) ∧ AtAll (PairAt tl) ((List.range vs.length).flatMap us) rows.flatten := by
  have h : ∀ i : Nat, ∃ u : List Value, u.length ≤ 8 ∧ ∀ v, vs[i]? = some v → ∃ t k r, v = .ref t ∧ (t, tupOf u k) ∈ tl ∧ rows[i]? = some r ∧ AtAll (PairAt tl) u r := fun i => by
    cases e : vs[i]? with
    | none => exact ⟨[], by simp, fun v e => by cases e⟩
    | some v =>
      obtain ⟨r, hr, t, u, k, rfl, ht, hu, _⟩ := hA.2 i v e
      exact ⟨u, by rw [hu.1]; exact h8 r (List.mem_of_getElem? hr), fun v' e' => by cases e'; exact ⟨t, k, r, rfl, ht, hr, hu⟩⟩
  obtain ⟨us, hus⟩ := Classical.axiomOfChoice h
  refine ⟨us, fun i v e => let ⟨t, k, _, a, b, _⟩ := (hus i).2 v e; ⟨t, k, a, b⟩, fun i => (hus i).1, ?_⟩
  have key : ∀ k, k ≤ vs.length → AtAll (PairAt tl) ((List.range k).flatMap us) (rows.take k).flatten := fun k => by
    induction k with
    | zero => intro _; exact ⟨by simp, fun i v e => by simp at e⟩
    | succ k ih =>
      intro hk
      have hlt : k < vs.length := by omega
      obtain ⟨t, kk, r, _, _, hr, hu⟩ := (hus k).2 vs[k] (List.getElem?_eq_getElem hlt)
      rw [List.range_succ, List.flatMap_append, List.flatMap_cons, List.flatMap_nil, List.append_nil, List.take_add_one, hr, Option.toList_some, List.flatten_append, List.flatten_cons, List.flatten_nil, List.append_nil]
      exact (ih (by omega)).append hu
  have := key vs.length (Nat.le_refl _)
  rwa [hA.1, List.take_length, ← hA.1] at this
theorem flat_len {rows : List (List PP)} (h8 : ∀ r ∈ rows, r.length ≤ 8) : rows.flatten.length ≤ rows.length * 8 := by
  induction rows with
  | nil => simp
  | cons r q ih =>
    have := ih fun x hx => h8 x (List.mem_cons_of_mem _ hx)
    have := h8 r (List.mem_cons_self ..)
    rw [List.flatten_cons, List.length_append, List.length_cons]; omega
theorem news_tail {g : Heap} {L : Addr} {h : Heap} {a : Addr × Obj} {l : Wd} (N : News g L h (a :: l)) : News g L h l := fun p hp => N p (List.mem_cons_of_mem _ hp)
theorem pc_make {w : World} {B : Heap} {s : Shared} {tl : Wd} {c f g r : Addr} {vs : List Value} {n : Nat} {rows : List (List PP)} {b : Bool} (W : Wo w B tl s.heap) (hr : (r, tupOf vs n) ∈ tl) (hA : AtAll (RowAt tl) vs rows) (hz : rows.length ≤ 8) (h8 : ∀ r ∈ rows, r.length ≤ 8) :
    Makes1 w 6 321 [.ref c, .ref f, .ref g, .ref r, .bool b] s tl [("coverage", .ref c), ("firsts", .ref f), ("seconds", .ref g), ("rows", .ref r), ("is_second", .bool (b || rows.flatten.any fun p => decide (p.2 ≠ (0, 0, 0, 0))))] := by
  obtain ⟨us, hus, hu8, hflat⟩ := rows_flat hA h8
  have hvl := hA.1
  have hfl : ((List.range vs.length).flatMap us).length ≤ 1000 := by have := flat_len h8; rw [hflat.1]; omega
  refine make_of (r := 5) (P := fun x dx es n tl₀ => Flds es _ ∧ tl₀ = (x, instObj _ dx) :: _) W (by k_is) (by k_is) (by k_is) (fun x dx h' W' l1 l2 up => ?_)
  intro dp un fr gd R hR hret
  k_extra "mine enter"
  have l3 : ∀ p ∈ tl, p.1 ≠ dx := fun p hp => Nat.ne_of_lt (l1 p hp)
  k_lt2 l2
  have hF0 := Flds.nil
  cases b with
  | true =>
    k_extra "mine steps"
    obtain ⟨st, gr, ho⟩ := leave (own' := [(dx, _)]) (new := []) W'.at_ (by assumption) (by assumption) (by assumption) (by rfl) (fun _ h => nomatch h)
    exact hret _ _ _ _ st gr ⟨rfl, _, _, ho _ (List.mem_singleton.mpr rfl), by assumption, rfl⟩
  | false =>
    k_extra "mine steps"
    rename Fr _ _ _ _ => F1
    rename News _ _ _ _ => N1
    refine Flat_N (us := us) F1 N1 (by rfl) (by rfl) (by rfl) (by decide) rfl (by rfl) (by decide) (by rfl) (by decide) (fun _ => rfl) (fun _ => rfl) (by decide) (by decide) (fun _ _ => rfl) (fun _ => rfl) (List.mem_cons_of_mem _ (List.mem_cons_of_mem _ hr)) (fun i v e => let ⟨t, k, a, b⟩ := hus i v e; ⟨t, k, a, List.mem_cons_of_mem _ (List.mem_cons_of_mem _ b)⟩) (by omega) (fun i => Nat.le_trans (hu8 i) (by decide)) ?_
    intro D h9 tk9 k9 F9 N9
    clear F1 N1
    k_extra "mine steps"
    (rename News _ _ _ _ => N9); (replace N9 := news_tail N9)
    k_extra "mine steps"
    obtain ⟨st, gr, ho⟩ := leave (own' := [(dx, _)]) (new := []) W'.at_ (by assumption) (by assumption) (by rename News _ _ _ _ => N9; exact N9) (by rfl) (fun _ h => nomatch h)
    exact hret _ _ _ _ st gr ⟨rfl, _, _, ho _ (List.mem_singleton.mpr rfl), by rw [Bool.false_or]; assumption, rfl⟩

/-- a dict of any keys, as it lies -/
def RawD (h : Heap) (d : Addr) (es : Array DictEntry) (ep : Nat) : Prop := ∃ o, h.get? d = some o ∧ o.ExactDict ∧ o.data = .dict es ep
section
variable {prog : Program} {w : World} {A : Around} {E : Value → Shared → Prop} {s : Shared} {it d v : Addr} {i ep : Nat} {es : Array DictEntry}
theorem RawD.typeIs (x : RawD s.heap d es ep) : s.TypeIs (.ref d) "dict" := let ⟨o, a, b, _⟩ := x; ⟨o, a, b.1⟩
theorem RawD.at' {h h' : Heap} (x : RawD h d es ep) (e : ∀ o, h.get? d = some o → h'.get? d = some o) : RawD h' d es ep := let ⟨o, a, r⟩ := x; ⟨o, e _ a, r⟩
theorem raw_values {Q : Value → Shared → Prop} (hd : (d == sysModules) = false) (x : RawD s.heap d es ep)
    (h : Q (.ref s.heap.objs.size) { s with heap := s.heap.push { cls := .type "dict_values", data := .fields #[.ref d] } }) : wpAny (model prog w) A (call (.builtin "dict.values") [.ref d]) Q E s := by
  have hT := x.typeIs
  refine wpAny_call_entry PySem.F.slot_dict_values hT PySem.F.entry_dict_values ?_ (PySem.F.args_dict_values_1 _)
  show wpAny _ _ (Builtin.Dict.noArgs "values" ⟨[.ref d], []⟩ >>= _) _ _ s
  refine wpAny_bind ?_
  unfold Builtin.Dict.noArgs
  refine wpAny_bind (wpAny_notOrdered_dict hT ?_)
  refine wpAny_pure ?_
  show wpAny _ _ (Builtin.Dict.showsAll d >>= _) _ _ s
  unfold Builtin.Dict.showsAll
  rw [if_neg (by rw [hd]; exact Bool.false_ne_true)]
  exact wpAny_bind (wpAny_pure (wpAny_bind (wpAny_newObj_type (wpAny_pure ⟨_, rfl, h⟩))))
theorem raw_iter_values {Q : Value → Shared → Prop} (hv : s.heap.IsValuesView v d) (x : RawD s.heap d es ep)
    (hQ : Q (.ref s.heap.objs.size) { s with heap := s.heap.push { cls := .type "dict_valueiterator", data := .fields #[.ref d, .int 0 0, .int es.size 0, .int ep 0] } }) :
    wpAny (model prog w) A (pyIter (.ref v)) Q E s := by
  obtain ⟨ov, hov, _, hdv⟩ := id hv
  obtain ⟨o, ho, _, hdat⟩ := id x
  refine wpAny_pyIter_slot hv.typeIs PySem.F.slot_dict_values_iter (wpAny_call_entry PySem.F.slot_dict_values_iter hv.typeIs PySem.F.entry_dict_values_iter ?_ (PySem.F.args_dict_values_iter_1 _))
  unfold Builtin.«dict_values.__iter__»
  refine wpAny_bind (wpAny_pure (wpAny_bind ?_))
  unfold Builtin.Dict_items.dictOf
  refine wpAny_bind (wpAny_field hov hdv (x := .ref d) rfl (wpAny_pure (wpAny_bind ?_)))
  unfold Builtin.Dict_items.newIterator
  refine wpAny_bind (wpAny_dictEntries ho hdat (wpAny_bind (wpAny_dictEpoch ho hdat ?_)))
  simp only [show Builtin.Dict_items.ownsTuple "dict_valueiterator" = false from by decide, Bool.false_eq_true, if_false]
  exact wpAny_newObj_type (wpAny_pure ⟨_, rfl, "dict_valueiterator", _, ⟨_, Heap.get?_push_size _ rfl, rfl⟩, PySem.F.slot_dict_valueiterator_next.lookup, by simpa [rawInt] using hQ⟩)
theorem raw_iter {Q : Value → Shared → Prop} (hd : (d == sysModules) = false) (x : RawD s.heap d es ep)
    (hQ : Q (.ref s.heap.objs.size) { s with heap := s.heap.push { cls := .type "dict_keyiterator", data := .fields #[.ref d, .int 0 0, .int es.size 0, .int ep 0] } }) :
    wpAny (model prog w) A (pyIter (.ref d)) Q E s := by
  have hT := x.typeIs
  obtain ⟨o, ho, _, hdat⟩ := id x
  refine wpAny_pyIter_slot hT PySem.F.slot_dict_iter (wpAny_call_entry PySem.F.slot_dict_iter hT PySem.F.entry_dict_iter ?_ (PySem.F.args_dict_iter_1 _))
  unfold Builtin.«dict.__iter__»
  refine wpAny_bind ?_
  unfold Builtin.Dict.dictSlotNone
  refine wpAny_bind (wpAny_notOrdered_dict hT (wpAny_pure ?_))
  show wpAny _ _ (Builtin.Dict.showsAll d >>= _) _ _ s
  unfold Builtin.Dict.showsAll
  rw [if_neg (by rw [hd]; exact Bool.false_ne_true)]
  refine wpAny_bind (wpAny_pure (wpAny_bind (wpAny_dictEntries ho hdat (wpAny_bind (wpAny_dictEpoch ho hdat ?_)))))
  exact wpAny_bind (wpAny_newObj_type (wpAny_pure ⟨_, rfl, "dict_keyiterator", _, ⟨_, Heap.get?_push_size _ rfl, rfl⟩, PySem.F.slot_dict_keyiterator_next.lookup, by simpa [rawInt] using hQ⟩))
end
section
variable {prog : Program} {w : World} {A : Around} {E : Value → Shared → Prop} {s : Shared} {it d v : Addr} {i ep : Nat} {es : Array DictEntry}
theorem raw_next_keys {Q : Option Value → Shared → Prop} (hh : A.handled = none) (hit : s.heap.IsKeyIter it d i es.size ep) (x : RawD s.heap d es ep)
    (hitem : ∀ (hi : i < es.size) h', h'.IsKeyIter it d (i + 1) es.size ep → Heap.SameBut it s.heap h' → Q (some es[i].key) { s with heap := h' })
    (hend : es.size ≤ i → ∀ h', Heap.ExtBut it s.heap h' → Q none { s with heap := h' }) : wpAny (model prog w) A (pyNext (.ref it)) Q E s := by
  obtain ⟨o, ho, hc, hd⟩ := id hit
  obtain ⟨od, hod, _, hdd⟩ := id x
  unfold pyNext
  refine wpAny_bind (wpAny_attempt (wpAny_callSpecial?_slot (name := Str.ofString "__next__") hit.typeIs PySem.F.slot_dict_keyiterator_next
    (wpAny_call_entry PySem.F.slot_dict_keyiterator_next hit.typeIs PySem.F.entry_dict_keyiterator_next ?_ (PySem.F.args_dict_keyiterator_next_1 _))))
  refine wpAny_bind (wpAny_pure (wpAny_bind (wpAny_bind (wpAny_bind (wpAny_typeNameOfWhole_keyiter hit.typeIs (wpAny_pure ?_))))))
  refine wpAny_bind (wpAny_fieldsOf ho hd ?_)
  have hown : Builtin.Dict_items.ownsTuple "dict_keyiterator" = false := by decide
  simp only [hown, Bool.false_eq_true, if_false]
  show wpAny _ _ (if (Value.ref d == Value.none) = true then _ else _) _ _ s
  rw [if_neg (show ¬ ((Value.ref d == Value.none) = true) from Bool.false_ne_true)]
  refine wpAny_bind (wpAny_pure (wpAny_bind (wpAny_dictEntries hod hdd ?_)))
  rw [if_neg (by simp)]
  refine wpAny_bind (wpAny_pure (wpAny_bind (wpAny_dictEpoch hod hdd ?_)))
  rw [if_neg (by simp)]
  refine wpAny_pure ?_
  rcases Nat.lt_or_ge i es.size with hlt | hge
  · simp only [show ¬ ((i : Int) < 0) from by omega, if_false, Int.toNat_natCast, Array.getElem?_eq_getElem hlt]
    refine wpAny_bind (wpAny_bind (wpAny_typeNameOfWhole_keyiter hit.typeIs (wpAny_pure (wpAny_bind (wpAny_isOneOf_keyiter hit.typeIs ?_)))))
    show wpAny _ _ (setField (.ref it) 1 (rawInt ((i : Int) + 1)) >>= _) _ _ s
    refine wpAny_bind (wpAny_setField ho hd (by simp) ?_)
    have hit' : (s.heap.update it (Obj.mapFields (·.setIfInBounds 1 (rawInt ((i : Int) + 1))))).IsKeyIter it d (i + 1) es.size ep :=
      ⟨_, Heap.get?_update_self _ ho (Obj.isFreed_of_fields (Obj.data_mapFields hd _)), (Obj.cls_mapFields ..).trans hc, by rw [Obj.data_mapFields hd]; simp [rawInt]⟩
    refine wpAny_bind (wpAny_holding ?_)
    repeat refine wpAny_bind (wpAny_isOneOf_keyiter (s := { s with heap := s.heap.update it (Obj.mapFields (·.setIfInBounds 1 (rawInt ((i : Int) + 1)))) }) hit'.typeIs ?_)
    show wpAny _ _ (pure es[i].key) _ _ _
    exact wpAny_pure (wpAny_pure ⟨_, rfl, wpAny_pure (hitem hlt _ hit' (Heap.SameBut.update ..))⟩)
  · simp only [show ¬ ((i : Int) < 0) from by omega, if_false, Int.toNat_natCast, Array.getElem?_eq_none hge]
    refine wpAny_bind (wpAny_bind (wpAny_typeNameOfWhole_keyiter hit.typeIs (wpAny_pure ?_)))
    show wpAny _ _ (setField (.ref it) 0 .none >>= _) _ _ s
    refine wpAny_bind (wpAny_setField ho hd (by simp) ?_)
    show wpAny _ _ (newExc (.type "StopIteration") [] >>= _) _ _ _
    refine wpAny_bind ?_
    simp only [newExc, newTuple]
    refine wpAny_bind (wpAny_newObj_type ?_ (by size_fits))
    refine wpAny_bind (m := firstArgMember _ _) (wpAny_of_eq (a := Value.none) (by first | rfl | (simp only [firstArgMember]; rfl)) (wpAny_newObj_type ?_ (by size_fits)))
    simp only [raiseNew]
    refine wpAny_bind (wpAny_handled ?_)
    rw [show A.in1.handled = none from hh]
    refine wpAny_bind (wpAny_pure (wpAny_throw ?_))
    refine wpAny_bind (wpAny_isInstance (T := "StopIteration") (b := true) ⟨_, Heap.get?_push_size _ rfl, rfl⟩ isSubtype_stop ?_)
    exact wpAny_pure (hend hge _ (((Heap.SameBut.update ..).extBut.push _).push _))
theorem walks_raw_keys (hh : A.handled = none) (I d : Addr) (hne : d ≠ I) (es : Array DictEntry) (ep : Nat) :
    Walks prog w A I [I, d] [I] es.size (fun i v => ∃ e, es[i]? = some e ∧ v = e.key) (fun i h => h.IsKeyIter I d i es.size ep ∧ RawD h d es ep) where
  sub := fun b hb => by simp at hb; simp [hb]
  frame := fun _ _ _ st hk => ⟨st.1.at fun o e => hk I (by simp) o e, st.2.at' fun o e => hk d (by simp) o e⟩
  item := fun i s Q E hi st hQ => raw_next_keys hh st.1 st.2
    (fun hi h' hit' hs' => hQ _ h' s.toks ⟨_, Array.getElem?_eq_getElem hi, rfl⟩ ⟨hit', st.2.at' fun o e => hs'.extBut d o hne e⟩ fun b o hb e => hs'.extBut b o (fun h => hb (by simp [h])) e)
    (fun hge => by exact absurd hge (Nat.not_le.mpr hi))
  done := fun s Q E st hQ => raw_next_keys hh st.1 st.2 (fun hi => by exact absurd hi (Nat.lt_irrefl _)) fun _ h' he' => hQ h' s.toks fun b o hb e => he' b o (fun h => hb (by simp [h])) e
  self := fun _ _ _ _ st hQ => wpAny_pyIter_keyiter st.1 hQ
end
section
variable {prog : Program} {w : World} {A : Around} {E : Value → Shared → Prop} {s : Shared} {it d v : Addr} {i ep : Nat} {es : Array DictEntry}
theorem raw_next_values {Q : Option Value → Shared → Prop} (hh : A.handled = none) (hit : s.heap.IsValIter it d i es.size ep) (x : RawD s.heap d es ep)
    (hitem : ∀ (hi : i < es.size) h', h'.IsValIter it d (i + 1) es.size ep → Heap.SameBut it s.heap h' → Q (some es[i].val) { s with heap := h' })
    (hend : es.size ≤ i → ∀ h', Heap.ExtBut it s.heap h' → Q none { s with heap := h' }) : wpAny (model prog w) A (pyNext (.ref it)) Q E s := by
  obtain ⟨o, ho, hc, hd⟩ := id hit
  obtain ⟨od, hod, _, hdd⟩ := id x
  unfold pyNext
  refine wpAny_bind (wpAny_attempt (wpAny_callSpecial?_slot (name := Str.ofString "__next__") hit.typeIs PySem.F.slot_dict_valueiterator_next
    (wpAny_call_entry PySem.F.slot_dict_valueiterator_next hit.typeIs PySem.F.entry_dict_valueiterator_next ?_ (PySem.F.args_dict_valueiterator_next_1 _))))
  refine wpAny_bind (wpAny_pure (wpAny_bind (wpAny_bind (wpAny_bind (wpAny_typeNameOfWhole_valiter hit.typeIs (wpAny_pure ?_))))))
  refine wpAny_bind (wpAny_fieldsOf ho hd ?_)
  have hown : Builtin.Dict_items.ownsTuple "dict_valueiterator" = false := by decide
  simp only [hown, Bool.false_eq_true, if_false]
  show wpAny _ _ (if (Value.ref d == Value.none) = true then _ else _) _ _ s
  rw [if_neg (show ¬ ((Value.ref d == Value.none) = true) from Bool.false_ne_true)]
  refine wpAny_bind (wpAny_pure (wpAny_bind (wpAny_dictEntries hod hdd ?_)))
  rw [if_neg (by simp)]
  refine wpAny_bind (wpAny_pure (wpAny_bind (wpAny_dictEpoch hod hdd ?_)))
  rw [if_neg (by simp)]
  refine wpAny_pure ?_
  rcases Nat.lt_or_ge i es.size with hlt | hge
  · simp only [show ¬ ((i : Int) < 0) from by omega, if_false, Int.toNat_natCast, Array.getElem?_eq_getElem hlt]
    refine wpAny_bind (wpAny_bind (wpAny_typeNameOfWhole_valiter hit.typeIs (wpAny_pure (wpAny_bind (wpAny_isOneOf_valiter hit.typeIs ?_)))))
    show wpAny _ _ (setField (.ref it) 1 (rawInt ((i : Int) + 1)) >>= _) _ _ s
    refine wpAny_bind (wpAny_setField ho hd (by simp) ?_)
    have hit' : (s.heap.update it (Obj.mapFields (·.setIfInBounds 1 (rawInt ((i : Int) + 1))))).IsValIter it d (i + 1) es.size ep :=
      ⟨_, Heap.get?_update_self _ ho (Obj.isFreed_of_fields (Obj.data_mapFields hd _)), (Obj.cls_mapFields ..).trans hc, by rw [Obj.data_mapFields hd]; simp [rawInt]⟩
    refine wpAny_bind (wpAny_holding ?_)
    repeat refine wpAny_bind (wpAny_isOneOf_valiter (s := { s with heap := s.heap.update it (Obj.mapFields (·.setIfInBounds 1 (rawInt ((i : Int) + 1)))) }) hit'.typeIs ?_)
    show wpAny _ _ (pure es[i].val) _ _ _
    exact wpAny_pure (wpAny_pure ⟨_, rfl, wpAny_pure (hitem hlt _ hit' (Heap.SameBut.update ..))⟩)
  · simp only [show ¬ ((i : Int) < 0) from by omega, if_false, Int.toNat_natCast, Array.getElem?_eq_none hge]
    refine wpAny_bind (wpAny_bind (wpAny_typeNameOfWhole_valiter hit.typeIs (wpAny_pure ?_)))
    show wpAny _ _ (setField (.ref it) 0 .none >>= _) _ _ s
    refine wpAny_bind (wpAny_setField ho hd (by simp) ?_)
    show wpAny _ _ (newExc (.type "StopIteration") [] >>= _) _ _ _
    refine wpAny_bind ?_
    simp only [newExc, newTuple]
    refine wpAny_bind (wpAny_newObj_type ?_ (by size_fits))
    refine wpAny_bind (m := firstArgMember _ _) (wpAny_of_eq (a := Value.none) (by first | rfl | (simp only [firstArgMember]; rfl)) (wpAny_newObj_type ?_ (by size_fits)))
    simp only [raiseNew]
    refine wpAny_bind (wpAny_handled ?_)
    rw [show A.in1.handled = none from hh]
    refine wpAny_bind (wpAny_pure (wpAny_throw ?_))
    refine wpAny_bind (wpAny_isInstance (T := "StopIteration") (b := true) ⟨_, Heap.get?_push_size _ rfl, rfl⟩ isSubtype_stop ?_)
    exact wpAny_pure (hend hge _ (((Heap.SameBut.update ..).extBut.push _).push _))
theorem walks_raw_values (hh : A.handled = none) (I d : Addr) (hne : d ≠ I) (es : Array DictEntry) (ep : Nat) :
    Walks prog w A I [I, d] [I] es.size (fun i v => ∃ e, es[i]? = some e ∧ v = e.val) (fun i h => h.IsValIter I d i es.size ep ∧ RawD h d es ep) where
  sub := fun b hb => by simp at hb; simp [hb]
  frame := fun _ _ _ st hk => ⟨st.1.at fun o e => hk I (by simp) o e, st.2.at' fun o e => hk d (by simp) o e⟩
  item := fun i s Q E hi st hQ => raw_next_values hh st.1 st.2
    (fun hi h' hit' hs' => hQ _ h' s.toks ⟨_, Array.getElem?_eq_getElem hi, rfl⟩ ⟨hit', st.2.at' fun o e => hs'.extBut d o hne e⟩ fun b o hb e => hs'.extBut b o (fun h => hb (by simp [h])) e)
    (fun hge => by exact absurd hge (Nat.not_le.mpr hi))
  done := fun s Q E st hQ => raw_next_values hh st.1 st.2 (fun hi => by exact absurd hi (Nat.lt_irrefl _)) fun _ h' he' => hQ h' s.toks fun b o hb e => he' b o (fun h => hb (by simp [h])) e
  self := fun _ _ _ _ st hQ => wpAny_pyIter_valiter st.1 hQ
end

abbrev TK (w : World) : HeapKind PW w (List Int) := tupleKind (intKind PW w)
/-- a dict whose keys are tuples of ints -/
structure TD (w : World) (o : Obj) (xs : List (List Int × Addr × Value)) : Prop where
  exact_ : o.ExactDict
  data : ∃ es ep, o.data = .dict es ep ∧ es.toList = xs.map (entryOfKey (TK w))
  nodup : (xs.map (·.1)).Nodup
def KeysIn (w : World) (tl : Wd) (xs : List (List Int × Addr × Value)) : Prop := ∀ x ∈ xs, ∃ vs n, (x.2.1, tupOf vs n) ∈ tl ∧ ItemsAre (intKind PW w) x.1 vs
theorem KeysIn.mono {w : World} {tl tl' : Wd} {xs : List (List Int × Addr × Value)} (h : KeysIn w tl xs) (hs : ∀ p ∈ tl, p ∈ tl') : KeysIn w tl' xs := fun x hx => let ⟨vs, n, a, b⟩ := h x hx; ⟨vs, n, hs _ a, b⟩
theorem td_empty (w : World) (n : Nat) : TD w (dictOf [] n) [] := ⟨⟨rfl, rfl, rfl⟩, ⟨_, _, rfl, rfl⟩, List.nodup_nil⟩
theorem items2 (w : World) (a b : Int) (t u : Tok) : ItemsAre (intKind PW w) [a, b] [.int a t, .int b u] := .cons (intKind_is _ _ _ _) (.cons (intKind_is _ _ _ _) .nil)
section
variable {w : World} {A : Around} {E : Value → Shared → Prop} {s : Shared} {h₀ : Heap} {L d a : Addr} {m : Str → Option Value} {led : Wd} {o : Obj} {xs : List (List Int × Addr × Value)} {k : List Int} {vs : List Value} {n : Nat}
theorem td_heap {h : Heap} (N : News h₀ L h led) (hd : (d, o) ∈ led) (t : TD w o xs) (ks : KeysIn w led xs) : h.DictOfH (TK w) d xs := by
  obtain ⟨es, ep, e1, e2⟩ := t.data
  refine ⟨o, es, ep, (N _ hd).1, t.exact_, e1, e2, fun x hx => ?_, t.nodup⟩
  obtain ⟨vs, n, hm, hi⟩ := ks x hx
  exact ⟨_, vs.toArray, n, (N _ hm).1, rfl, rfl, by simpa using hi⟩
theorem td_raw {h : Heap} (N : News h₀ L h led) (hd : (d, o) ∈ led) (t : TD w o xs) : ∃ es ep, RawD h d es ep ∧ es.toList = xs.map (entryOfKey (TK w)) := by
  obtain ⟨es, ep, e1, e2⟩ := t.data
  exact ⟨es, ep, ⟨o, (N _ hd).1, t.exact_, e1⟩, e2⟩
theorem td_key {h : Heap} (N : News h₀ L h led) (ha : (a, tupOf vs n) ∈ led) (hi : ItemsAre (intKind PW w) k vs) : (TK w).is h k a := ⟨_, vs.toArray, n, (N _ ha).1, rfl, rfl, by simpa using hi⟩
theorem td_method {pl : Sem Bool} {Q : Value × List Value → Shared → Prop} (N : News h₀ L s.heap led) (hd : (d, o) ∈ led) (t : TD w o xs) (h : Q (.builtin "dict.get", [.ref d]) s) : wpAny (model PW w) A (getMethod (.ref d) "get" pl) Q E s :=
  getMethod_builtin (show s.TypeIs (.ref d) "dict" from ⟨o, (N _ hd).1, t.exact_.1⟩) PySem.F.plainAttrs_dict PySem.F.slot_dict_get PySem.F.type_dict_get (fun b e => by injection e with e; subst e; exact ⟨o, (N _ hd).1, t.exact_.2.1⟩) h
theorem td_methodV {pl : Sem Bool} {Q : Value × List Value → Shared → Prop} (N : News h₀ L s.heap led) (hd : (d, o) ∈ led) (t : TD w o xs) (h : Q (.builtin "dict.values", [.ref d]) s) : wpAny (model PW w) A (getMethod (.ref d) "values" pl) Q E s :=
  getMethod_builtin (show s.TypeIs (.ref d) "dict" from ⟨o, (N _ hd).1, t.exact_.1⟩) PySem.F.plainAttrs_dict PySem.F.slot_dict_values PySem.F.type_dict_values (fun b e => by injection e with e; subst e; exact ⟨o, (N _ hd).1, t.exact_.2.1⟩) h
theorem td_get {Q : Value → Shared → Prop} (N : News h₀ L s.heap led) (hd : (d, o) ∈ led) (t : TD w o xs) (ks : KeysIn w led xs) (ha : (a, tupOf vs n) ∈ led) (hi : ItemsAre (intKind PW w) k vs) (lo : (d == sysModules) = false) (hu : A.units + 1 < cLine)
    (h : ∀ tk, Q (((atKey xs k).map (·.2)).getD .none) { s with toks := tk }) : wpAny (model PW w) A (call (.builtin "dict.get") [.ref d, .ref a]) Q E s :=
  call_meetsIn PySem.F.slot_dict_get (td_heap N hd t ks).typeIs PySem.F.entry_dict_get (PySem.F.args_dict_get_2 _ _) (meetsH_dict_get (TK w) d a lo) ⟨tupleKind_room_in1 hu, k, xs, td_key N ha hi, td_heap N hd t ks, h _⟩
theorem td_item {value slice : PySem.Expr} {Q : Value → Shared → Prop} {p : Addr × Value} (N : News h₀ L s.heap led) (hd : (d, o) ∈ led) (t : TD w o xs) (ks : KeysIn w led xs) (ha : (a, tupOf vs n) ∈ led) (hi : ItemsAre (intKind PW w) k vs) (hu : A.units + 1 < cLine)
    (hp : atKey xs k = some p) (h : ∀ tk, Q p.2 { s with toks := tk })
    (hs : subscripted slice false (.ref d) (.ref a) = operate [.ref d, .ref a] (getItem (.ref d) (.ref a)) := by with_unfolding_all rfl) (hg : ∀ r, letTemporaryGo value (.ref d) r = pure () := by intro _; with_unfolding_all rfl) :
    wpAny (model PW w) A (subscriptTail value slice (.ref d) (.ref a)) Q E s :=
  subscriptTail_builtin (td_heap N hd t ks).typeIs slot_dict_getitem.lookup (wpAny_getItem_heap (tupleKind_room_in1 hu) (td_key N ha hi) (td_heap N hd t ks) hp (h _)) hs hg
theorem td_set {Q : Unit → Shared → Prop} {rest : Wd} {v : Value} (F : Fr h₀ L s.heap m) (N : News h₀ L s.heap ((d, o) :: rest)) (hne : ∀ p ∈ rest, p.1 ≠ d) (t : TD w o xs) (ks : KeysIn w rest xs) (ha : (a, tupOf vs n) ∈ rest) (hi : ItemsAre (intKind PW w) k vs) (hu : A.units + 1 < cLine) (hz : xs.length ≤ 1000000)
    (h : ∀ o' h' tk, TD w o' (storedH xs k a v) → KeysIn w rest (storedH xs k a v) → Fr h₀ L h' m → News h₀ L h' ((d, o') :: rest) → Q () { s with heap := h', toks := tk }) : wpAny (model PW w) A (setItem (.ref d) (.ref a) v) Q E s := by
  have ks' : KeysIn w ((d, o) :: rest) xs := ks.mono fun p hp => List.mem_cons_of_mem _ hp
  refine wpAny_setItem_heap (knd := TK w) (tupleKind_room_in1 hu) (td_key N (List.mem_cons_of_mem _ ha) hi) (td_heap N (List.mem_cons_self ..) t ks') (fun h' hD hs => ?_) (by rw [sizeLine_eq]; omega)
  obtain ⟨o', es, ep, e1, e2, e3, e4, _, e6⟩ := hD
  have hd0 := N _ (List.mem_cons_self ..)
  refine h o' h' _ ⟨e2, ⟨es, ep, e3, e4⟩, e6⟩ (fun x hx => ?_) ⟨F.ns.sameBut hs (Ne.symm hd0.2.1), fun b o e => (hs.2 b fun q => by rw [q, hd0.2.2] at e; cases e).trans (F.keep b o e), F.above⟩ fun p hp => ?_
  · rcases mem_storedH hx with ⟨y, hy, q1, q2⟩ | ⟨q1, q2⟩
    · obtain ⟨vs, n, hm, hi⟩ := ks y hy
      exact ⟨vs, n, by rw [q2]; exact hm, by rw [q1]; exact hi⟩
    · exact ⟨vs, n, by rw [q2]; exact ha, by rw [q1]; exact hi⟩
  · rcases List.mem_cons.mp hp with rfl | hp
    · exact ⟨e1, hd0.2⟩
    · exact ⟨(hs.2 _ (hne p hp)).trans (N p (List.mem_cons_of_mem _ hp)).1, (N p (List.mem_cons_of_mem _ hp)).2⟩
theorem td_values {Q : Value → Shared → Prop} (F : Fr h₀ L s.heap m) (N : News h₀ L s.heap led) (hd : (d, o) ∈ led) (t : TD w o xs) (lo : (d == sysModules) = false)
    (h : ∀ D h', Fr h₀ L h' m → News h₀ L h' ((D, { cls := .type "dict_values", data := .fields #[.ref d] }) :: led) → (∀ q ∈ led, q.1 < D) → Q (.ref D) { s with heap := h' }) :
    wpAny (model PW w) A (call (.builtin "dict.values") [.ref d]) Q E s := by
  obtain ⟨es, ep, hr, _⟩ := td_raw N hd t
  exact raw_values lo hr (h _ _ (F.push _) (News.push F N _) fun q hq => Heap.lt_size (N q hq).1)
end

theorem row_j_13 : True := by
  (k_with "mine obj" => exact KeysIn.mono (by assumption) (fun p hp => by repeat (first | exact hp | refine List.mem_cons_of_mem _ ?_)))
  (k_with "getMethod ref" => (k_here; (with_reducible show wpAny _ _ (getMethod (Value.ref _) (Str.ofString "get") _) _ _ _); k_dflt (refine td_method (by k_asm) (by k_mem) (by assumption) ?_)))
  (k_with "getMethod ref" => (k_here; (with_reducible show wpAny _ _ (getMethod (Value.ref _) (Str.ofString "values") _) _ _ _); k_dflt (refine td_methodV (by k_asm) (by k_mem) (by assumption) ?_)))
  (k_with "call builtin:dict.get" => (k_here; (with_reducible show wpAny _ _ (call _ [Value.ref _, Value.ref _]) _ _ _); k_dflt (refine td_get (by k_asm) (by k_mem) (by assumption) (by k_extra "mine obj") (by k_mem) (items2 _ _ _ _ _) (by assumption) (by ke_room) ?_); (intro _)))
  trivial
/-- a PairGlyphs -/
inductive IsPG (w : World) (tl : Wd) (x : Addr) (D : Int → Int → Option PP) (b : Bool) : Prop
  | mk : ∀ d o xs, IsObj tl x 289 [("pairs", .ref d), ("is_second", .bool b)] →
    (d, o) ∈ tl →
    TD w o xs →
    KeysIn w tl xs →
    (d == sysModules) = false →
    (∀ f g, match atKey xs [f, g] with | none => D f g = none | some av => ∃ p, D f g = some p ∧ PairAt tl av.2 p) → IsPG w tl x D b
theorem IsPG.mono {w : World} {tl tl' : Wd} {x : Addr} {D : Int → Int → Option PP} {b : Bool} (h : IsPG w tl x D b) (hs : ∀ p ∈ tl, p ∈ tl') : IsPG w tl' x D b :=
  let ⟨d, o, xs, h1, h2, h3, h4, h5, h6⟩ := h; ⟨d, o, xs, h1.mono hs, hs _ h2, h3, h4.mono hs, h5, fun f g => by
    have := h6 f g
    split
    · simpa [*] using this
    · rename_i e; rw [e] at this; obtain ⟨p, a, b⟩ := this; exact ⟨p, a, b.mono hs⟩⟩
theorem pgfind_spec {w : World} {B : Heap} {s : Shared} {tl : Wd} {x : Addr} {D : Int → Int → Option PP} {b : Bool} {first second : Int} {t1 t2 : Tok} (W : Wo w B tl s.heap) (hx : IsPG w tl x D b) :
    Spec w 3 281 ⟨[.ref x, .int first t1, .int second t2], []⟩ s [] tl (fun r tl' _ => (∃ p, tl' = p :: tl) ∧ match D first second with | none => r = .none | some p => PairAt tl r p) := by
  obtain ⟨d, o, xs, hx, hd, ht, hk, lo, hD⟩ := hx
  obtain ⟨dx, es_dx, n_dx, hx, hdx, hF_dx⟩ := id hx
  intro dp un fr gd R hR hret
  k_extra "mine enter"
  k_extra "mine steps"
  obtain ⟨st, gr, ho⟩ := leave (own := []) (own' := []) (new := [(_, _)]) W.at_ (by assumption) (by rename Fr _ _ _ _ => F9; exact F9) (by rename News _ _ _ _ => N9; exact N9) (by rfl) (fun n hn p hp => by rw [List.mem_singleton.mp hn]; dsimp only; rename (∀ p ∈ tl, p.1 < _) => l9; exact l9 p hp)
  refine hret _ _ _ _ st gr ⟨⟨_, rfl⟩, ?_⟩
  have h := hD first second
  cases e : atKey xs [first, second] with
  | none => rw [e] at h; rw [show D first second = none from h]; rfl
  | some av => rw [e] at h; obtain ⟨p, q, r⟩ := h; rw [q]; exact r
section
variable {w : World} {A : Around} {s : Shared} {h₀ : Heap} {L : Addr} {m : Str → Option Value} {x : Str} {px : Pos}
theorem src_view {prog : Program} {d : Addr} {es : Array DictEntry} {ep : Nat} {news : Wd} {tk : Nat} (hh : A.handled = none) (F : Fr h₀ L s.heap m) (N : News h₀ L s.heap news) {od : Obj} (hm : (d, od) ∈ news) (hr : RawD s.heap d es ep) (hz : es.size ≤ 1000000) :
    Src prog w A (.Name x px) h₀ L m news es.size (fun i v _ => ∃ e, es[i]? = some e ∧ v = e.val) (.ref s.heap.objs.size) { s with heap := s.heap.push { cls := .type "dict_valueiterator", data := .fields #[.ref d, .int 0 0, .int es.size 0, .int ep 0] }, toks := tk } [s.heap.objs.size] := by
  have hl := (N _ hm)
  have hlt : d < s.heap.objs.size := Heap.lt_size hl.1
  refine ⟨s.heap.objs.size, [s.heap.objs.size, d], _, _, rfl, KTurns.ofWalks (walks_raw_values hh s.heap.objs.size d (Nat.ne_of_lt hlt) es ep) (fun i v s Q E _ q => wpAny_pure q), fun i s Q E st q => wpAny_pyIter_valiter st.1 q, ?_, ?_, ?_, ?_, ?_, hz, ?_, F.push _, fun p hp => ⟨Heap.get?_push_of_some _ (N p hp).1, (N p hp).2⟩⟩
  · rintro i h ⟨⟨o, e, _⟩, _⟩ b hb
    rw [List.mem_singleton.mp hb]; exact ⟨o, e⟩
  · intro b hb
    show b < (s.heap.push _).objs.size
    rw [Heap.size_push]
    rcases List.mem_cons.mp hb with rfl | hb
    · exact Nat.lt_succ_self _
    · rw [List.mem_singleton.mp hb]; exact Nat.lt_succ_of_lt hlt
  · intro hb
    rcases List.mem_cons.mp hb with e | hb
    · exact Nat.lt_irrefl _ (e ▸ F.ns.lt)
    · exact hl.2.1 (List.mem_singleton.mp hb).symm
  · intro b hb
    rw [List.mem_singleton.mp hb]; exact next_free F
  · intro p hp hb
    exact Nat.lt_irrefl _ ((List.mem_singleton.mp hb) ▸ Heap.lt_size (N p hp).1)
  · exact ⟨⟨_, Heap.get?_push_size _ rfl, rfl, rfl⟩, hr.at' fun o e => Heap.get?_push_of_some _ e⟩
theorem src_keys {prog : Program} {d : Addr} {es : Array DictEntry} {ep : Nat} {news : Wd} {tk : Nat} (hh : A.handled = none) (F : Fr h₀ L s.heap m) (N : News h₀ L s.heap news) {od : Obj} (hm : (d, od) ∈ news) (hr : RawD s.heap d es ep) (hz : es.size ≤ 1000000) :
    Src prog w A (.Name x px) h₀ L m news es.size (fun i v _ => ∃ e, es[i]? = some e ∧ v = e.key) (.ref s.heap.objs.size) { s with heap := s.heap.push { cls := .type "dict_keyiterator", data := .fields #[.ref d, .int 0 0, .int es.size 0, .int ep 0] }, toks := tk } [s.heap.objs.size] := by
  have hl := (N _ hm)
  have hlt : d < s.heap.objs.size := Heap.lt_size hl.1
  refine ⟨s.heap.objs.size, [s.heap.objs.size, d], _, _, rfl, KTurns.ofWalks (walks_raw_keys hh s.heap.objs.size d (Nat.ne_of_lt hlt) es ep) (fun i v s Q E _ q => wpAny_pure q), fun i s Q E st q => wpAny_pyIter_keyiter st.1 q, ?_, ?_, ?_, ?_, ?_, hz, ?_, F.push _, fun p hp => ⟨Heap.get?_push_of_some _ (N p hp).1, (N p hp).2⟩⟩
  · rintro i h ⟨⟨o, e, _⟩, _⟩ b hb
    rw [List.mem_singleton.mp hb]; exact ⟨o, e⟩
  · intro b hb
    show b < (s.heap.push _).objs.size
    rw [Heap.size_push]
    rcases List.mem_cons.mp hb with rfl | hb
    · exact Nat.lt_succ_self _
    · rw [List.mem_singleton.mp hb]; exact Nat.lt_succ_of_lt hlt
  · intro hb
    rcases List.mem_cons.mp hb with e | hb
    · exact Nat.lt_irrefl _ (e ▸ F.ns.lt)
    · exact hl.2.1 (List.mem_singleton.mp hb).symm
  · intro b hb
    rw [List.mem_singleton.mp hb]; exact next_free F
  · intro p hp hb
    exact Nat.lt_irrefl _ ((List.mem_singleton.mp hb) ▸ Heap.lt_size (N p hp).1)
  · exact ⟨⟨_, Heap.get?_push_size _ rfl, rfl, rfl⟩, hr.at' fun o e => Heap.get?_push_of_some _ e⟩
end
theorem movesV_spec {w : World} {B : Heap} {s : Shared} {tl : Wd} {l d : Addr} {o : Obj} {xs : List (List Int × Addr × Value)} {ps : List PP} (W : Wo w B tl s.heap) (hl : (l, { cls := .type "dict_values", data := .fields #[.ref d] }) ∈ tl) (hd : (d, o) ∈ tl) (ht : TD w o xs)
    (hA : AtAll (PairAt tl) (xs.map (·.2.2)) ps) (hz : ps.length ≤ 1000) :
    Spec w 4 259 ⟨[.ref l], []⟩ s [] tl (QEq tl (.bool (ps.any fun p => decide (p.2 ≠ (0, 0, 0, 0))))) := by
  intro dp un fr gd R hR hret
  k_extra "mine enter"
  k_extra "mine steps"
  rename Fr _ _ _ _ => F1
  rename News _ _ _ _ => N1
  rename Frag.In _ _ => X1
  rename Top _ _ _ _ _ _ => T1
  obtain ⟨es, ep, hr, hes⟩ := td_raw N1 hd ht
  have hsz : es.size = ps.length := by rw [← hA.1, ← Array.length_toList, hes]; simp
  refine ListComp_K (cl := []) F1 (by rfl) (by decide) (by rfl) (by decide) ?_
  k_extra "mine steps"
  refine raw_iter_values ⟨_, (N1 _ hl).1, rfl, rfl⟩ hr ?_
  refine compAt_pure (fun i y => ∃ p, ps[i]? = some p ∧ (y.isSome = decide (p.2 ≠ (0, 0, 0, 0)))) (src_view rfl F1 N1 hd hr (by omega)) ?_ ?_
  · rintro g C i v m₁ h₁ tk₁ led hg hi hP hs F2 N2
    have X2 := X1.keeps hg
    have T2 := T1.keeps hg
    obtain ⟨e, he, rfl⟩ := hP
    have hv : (xs.map (·.2.2))[i]? = some e.val := by
      have q : es.toList[i]? = some e := by rw [Array.getElem?_toList]; exact he
      rw [hes, List.getElem?_map] at q
      rw [List.getElem?_map]
      cases hx : xs[i]? with
      | none => rw [hx] at q; cases q
      | some x => rw [hx] at q; cases q; rfl
    obtain ⟨p, hp, t, x, y, n, ev, ht, hx, hy⟩ := hA.2 i _ hv
    rw [ev]
    have ht2 := hs _ ht
    have hy2 := IsObj.mono hy hs
    obtain ⟨dy, es_dy, n_dy, hyi, hyd, hF_dy⟩ := id hy2
    refine blk_assign F2 N2 rfl rfl ?_
    intro h3 F3 N3
    clear F2 N2
    refine tests_one ?_
    k_extra "mine steps"
    · refine' ⟨_, _, _, _, rfl, ?F, ?N, ?sub, p, hp, ?fin⟩
      case F => assumption
      case N => assumption
      case sub => exact fun p hp => by repeat (first | exact hp | refine List.mem_cons_of_mem _ ?_)
      simp [*]
    · refine' ⟨_, _, _, _, rfl, ?Fb, ?Nb, ?subb, p, hp, ?finb⟩
      case Fb => assumption
      case Nb => assumption
      case subb => exact fun p hp => by repeat (first | exact hp | refine List.mem_cons_of_mem _ ?_)
      simp [*]
  · clear F1 N1
    intro D h' tk os k F2 N2 hos hRs
    k_extra "mine steps"
    obtain ⟨st, gr, ho⟩ := leave (own := []) (own' := []) (new := []) (tl := tl) W.at_ (by assumption) (by rename Fr _ _ _ _ => F9; exact F9) (by rename News _ _ _ _ => N9; exact fun p hp => N9 p (by repeat (first | exact hp | refine List.mem_cons_of_mem _ ?_))) (by rfl) (fun _ h => nomatch h)
    refine hret _ _ _ _ st gr ⟨?_, rfl⟩
    congr 1
    exact any_filterMap (by rw [hos, hsz]) hRs
theorem row_j_14 : True := by
  (k_with "call builtin:dict.values" => (k_here; (with_reducible show wpAny _ _ (call _ [Value.ref _]) _ _ _); k_dflt (refine' td_values (by k_asm) (by k_asm) (by k_mem) (by assumption) (by assumption) ?_); (intro _ _ _ _ _)))
  (k_with "call ref" => (refine' use0e (f := 259) (by k_asm) (by k_asm) (by k_asm) (by k_asm) (fun W => movesV_spec W (by k_mem) (by k_mem) (by assumption) (by k_extra "mine obj") (by omega)) (by k_extra "mine room") ?_; intro _ _ _ _))
  trivial
theorem pg_make {w : World} {B : Heap} {s : Shared} {tl : Wd} {d : Addr} {o : Obj} {xs : List (List Int × Addr × Value)} {ps : List PP} {b : Bool} (W : Wo w B tl s.heap) (hd : (d, o) ∈ tl) (ht : TD w o xs) (lo : (d == sysModules) = false)
    (hA : AtAll (PairAt tl) (xs.map (·.2.2)) ps) (hz : ps.length ≤ 1000) :
    Makes1 w 6 289 [.ref d, .bool b] s tl [("pairs", .ref d), ("is_second", .bool (b || ps.any fun p => decide (p.2 ≠ (0, 0, 0, 0))))] := by
  refine make_of (r := 5) (P := fun x dx es n tl₀ => Flds es _ ∧ tl₀ = (x, instObj _ dx) :: _) W (by k_is) (by k_is) (by k_is) (fun x dx h' W' l1 l2 up => ?_)
  intro dp un fr gd R hR hret
  k_extra "mine enter"
  have l3 : ∀ p ∈ tl, p.1 ≠ dx := fun p hp => Nat.ne_of_lt (l1 p hp)
  k_lt2 l2
  have hF0 := Flds.nil
  cases b with
  | true =>
    k_extra "mine steps"
    obtain ⟨st, gr, ho⟩ := leave (own' := [(dx, _)]) (new := []) W'.at_ (by assumption) (by assumption) (by assumption) (by rfl) (fun _ h => nomatch h)
    exact hret _ _ _ _ st gr ⟨rfl, _, _, ho _ (List.mem_singleton.mpr rfl), by assumption, rfl⟩
  | false =>
    k_extra "mine steps"
    (rename News _ _ _ _ => N9); (replace N9 := news_tail N9)
    k_extra "mine steps"
    obtain ⟨st, gr, ho⟩ := leave (own' := [(dx, _)]) (new := []) W'.at_ (by assumption) (by assumption) (by assumption) (by rfl) (fun _ h => nomatch h)
    exact hret _ _ _ _ st gr ⟨rfl, _, _, ho _ (List.mem_singleton.mpr rfl), by rw [Bool.false_or]; assumption, rfl⟩
theorem hasG_spec {w : World} {B : Heap} {s : Shared} {tl : Wd} {x : Addr} {D : Int → Int → Option PP} {b : Bool} (W : Wo w B tl s.heap) (hx : IsPG w tl x D b) :
    Spec w 1 332 ⟨[.ref x], []⟩ s [] tl (QEq tl (.bool b)) := by
  obtain ⟨d, o, xs, hx, hd, ht, hk, lo, hD⟩ := hx
  obtain ⟨dx, es_dx, n_dx, hx, hdx, hF_dx⟩ := id hx
  intro dp un fr gd R hR hret
  k_extra "mine enter"
  k_extra "mine steps"
  obtain ⟨st, gr, ho⟩ := leave (own := []) (own' := []) (new := []) (tl := tl) W.at_ (by assumption) (by rename Fr _ _ _ _ => F9; exact F9) (by rename News _ _ _ _ => N9; exact fun p hp => N9 p (by repeat (first | exact hp | refine List.mem_cons_of_mem _ ?_))) (by rfl) (fun _ h => nomatch h)
  exact hret _ _ _ _ st gr ⟨rfl, rfl⟩
theorem hasC_spec {w : World} {B : Heap} {s : Shared} {tl : Wd} {x : Addr} {T : PC} (W : Wo w B tl s.heap) (hx : IsPC w tl x T) :
    Spec w 1 332 ⟨[.ref x], []⟩ s [] tl (QEq tl (.bool T.sec)) := by
  obtain ⟨c, f, g, r, vs, n, hx, hc, hf, hg, hr, hA, hvl, hF0, hG0⟩ := hx
  obtain ⟨dx, es_dx, n_dx, hx, hdx, hF_dx⟩ := id hx
  intro dp un fr gd R hR hret
  k_extra "mine enter"
  k_extra "mine steps"
  obtain ⟨st, gr, ho⟩ := leave (own := []) (own' := []) (new := []) (tl := tl) W.at_ (by assumption) (by rename Fr _ _ _ _ => F9; exact F9) (by rename News _ _ _ _ => N9; exact fun p hp => N9 p (by repeat (first | exact hp | refine List.mem_cons_of_mem _ ?_))) (by rfl) (fun _ h => nomatch h)
  exact hret _ _ _ _ st gr ⟨rfl, rfl⟩
/-- a table of either kind -/
inductive IsTab (w : World) (tl : Wd) (x : Addr) (D : Int → Int → Option PP) (b : Bool) : Prop
  | c (T : PC) : IsPC w tl x T → (∀ f g, T.find f g = D f g) → T.sec = b → IsTab w tl x D b
  | g : IsPG w tl x D b → IsTab w tl x D b
theorem IsTab.mono {w : World} {tl tl' : Wd} {x : Addr} {D : Int → Int → Option PP} {b : Bool} (h : IsTab w tl x D b) (hs : ∀ p ∈ tl, p ∈ tl') : IsTab w tl' x D b := by
  cases h with
  | c T a e q => exact .c T (a.mono hs) e q
  | g a => exact .g (a.mono hs)
theorem IsTab.inst {w : World} {tl : Wd} {x : Addr} {D : Int → Int → Option PP} {b : Bool} (h : IsTab w tl x D b) : ∃ dx C es n, (x, instObj C dx) ∈ tl ∧ (dx, dictOf es n) ∈ tl := by
  cases h with
  | c T a _ _ => obtain ⟨_, _, _, _, _, _, ⟨dx, es, n, a, b, _⟩, _⟩ := a; exact ⟨dx, 321, es, n, a, b⟩
  | g a => obtain ⟨_, _, _, ⟨dx, es, n, a, b, _⟩, _⟩ := a; exact ⟨dx, 289, es, n, a, b⟩
theorem has_second_spec {w : World} {B : Heap} {s : Shared} {tl : Wd} {x : Addr} {D : Int → Int → Option PP} {b : Bool} (W : Wo w B tl s.heap) (hx : IsTab w tl x D b) :
    Spec w 1 332 ⟨[.ref x], []⟩ s [] tl (QEq tl (.bool b)) := by
  cases hx with
  | c T a _ e => subst e; exact hasC_spec W a
  | g a => exact hasG_spec W a

theorem row_j_15 : True := by
  (k_with "mine obj" => exact IsPG.mono (by assumption) (fun p hp => by repeat (first | exact hp | refine List.mem_cons_of_mem _ ?_)))
  (k_with "mine obj" => exact IsTab.mono (by assumption) (fun p hp => by repeat (first | exact hp | refine List.mem_cons_of_mem _ ?_)))
  (k_with "call ref" => (refine' use0e (f := 332) (by k_asm) (by k_asm) (by k_asm) (by k_asm) (fun W => has_second_spec W (by k_extra "mine obj")) (by k_extra "mine room") ?_; intro _ _ _ _))
  trivial
/-- the end of a def: tl' is any ledger that holds the old one -/
theorem leaveG {g : Heap} {L' : Addr} {h h' : Heap} {m' : Str → Option Value} {own own' tl tl' : Wd} (at0 : ∀ p ∈ own ++ tl, h.get? p.1 = some p.2)
    (hg : ∀ b o, h.get? b = some o → b ∉ (own ++ tl).map (·.1) → g.get? b = some o) (F' : Fr g L' h' m') (N' : News g L' h' (own' ++ tl')) (hs : ∀ p ∈ tl, p ∈ tl') (hno : ∀ p ∈ tl', p.1 ∉ own.map (·.1)) :
    Step (own.map (·.1)) h h' ∧ Grows tl tl' h h' ∧ ∀ p ∈ own', h'.get? p.1 = some p.2 := by
  have N2 : News g L' h' tl' := fun p hp => N' p (List.mem_append_right _ hp)
  refine ⟨fun b o hb e => ?_, ⟨hs, fun p hp => (N2 p hp).1, fun p hp => ?_⟩, fun p hp => (N' p (List.mem_append_left _ hp)).1⟩
  · by_cases hm : b ∈ (own ++ tl).map (·.1)
    · obtain ⟨p, hp, rfl⟩ := List.mem_map.mp hm
      rcases List.mem_append.mp hp with q | q
      · exact absurd (List.mem_map_of_mem q) hb
      · have e1 := at0 p hp
        rw [e] at e1; cases e1
        exact (N2 p (hs p q)).1
    · exact F'.keep b o (hg b o e hm)
  · cases e : h.get? p.1 with
    | none => exact .inr rfl
    | some o =>
      by_cases hm : p.1 ∈ (own ++ tl).map (·.1)
      · obtain ⟨q, hq, eq⟩ := List.mem_map.mp hm
        rcases List.mem_append.mp hq with hq | hq
        · exact absurd (List.mem_map.mpr ⟨q, hq, eq⟩) (hno p hp)
        · have a := (N2 p hp).1
          have b := (N2 q (hs q hq)).1
          rw [eq, a] at b
          have : q = p := Prod.ext eq (Option.some.inj b).symm
          exact .inl (this ▸ hq)
      · have := (N2 p hp).2.2
        rw [hg _ _ e hm] at this; cases this
inductive Qgdef_make (tl : Wd) (a : Value) (b : Value) (c : Value) (v : Value) (tl' : Wd) (qh : Heap) : Prop
  | mk : ∀ x p q, v = .ref x → (∀ p ∈ tl, p ∈ tl') → IsObj tl' x 479 [("classes", a), ("attach", b), ("sets", c), ("points", .ref p), ("carets", .ref q)] → Qgdef_make tl a b c v tl' qh
theorem gdef_make {w : World} {B : Heap} {s : Shared} {tl : Wd} (W : Wo w B tl s.heap) (a b c : Value) :
    Spec w 2 479 ⟨[a, b, c], []⟩ s [] tl (Qgdef_make tl a b c) := by
  intro dp un fr gd R hR hret
  refine make_of (r := 1) (P := fun x dx es n tl₀ => ∃ p q, Flds es [("classes", a), ("attach", b), ("sets", c), ("points", .ref p), ("carets", .ref q)]) W (by k_is) (by k_is) (by k_is) (fun x dx h' W' l1 l2 up => ?_) dp un fr gd R hR ?_
  · clear hret hR
    intro dp un fr gd R hR hret
    k_extra "mine enter"
    have l3 : ∀ p ∈ tl, p.1 ≠ dx := fun p hp => Nat.ne_of_lt (l1 p hp)
    k_lt2 l2
    have hF0 := Flds.nil
    k_extra "mine steps"
    obtain ⟨st, gr, ho⟩ := leave (own' := [(dx, _)]) (new := []) W'.at_ (by assumption) (by rename Fr _ _ _ _ => F9; exact F9) (by rename News _ _ _ _ => N9; exact fun p hp => N9 p (by repeat (first | exact hp | refine List.mem_cons_of_mem _ ?_))) (by rfl) (fun _ h => nomatch h)
    refine' hret _ _ _ _ st gr ⟨rfl, _, _, ho _ (List.mem_singleton.mpr rfl), ?pp, ?qq, ?fin⟩
    case fin => assumption
  · rintro v tl' h' tk st gr ⟨x, dx, es, n, tl₀, rfl, rfl, m1, m2, m3, p, q, hF⟩
    exact hret _ _ _ _ st gr ⟨x, p, q, rfl, fun p hp => List.mem_cons_of_mem _ (m2 p hp), dx, es, n, List.mem_cons_of_mem _ m1, List.mem_cons_self .., hF⟩

/-- a Gdef that knows nothing -/
inductive IsGdef (w : World) (tl : Wd) (x : Addr) : Prop
  | mk : ∀ c b l p q, IsObj tl x 479 [("classes", .ref c), ("attach", b), ("sets", l), ("points", p), ("carets", q)] →
    IsCls w tl c (fun _ => 0) → IsGdef w tl x
theorem IsGdef.mono {w : World} {tl tl' : Wd} {x : Addr} (h : IsGdef w tl x) (hs : ∀ p ∈ tl, p ∈ tl') : IsGdef w tl' x :=
  let ⟨c, b, l, p, q, h1, h2⟩ := h; ⟨c, b, l, p, q, h1.mono hs, h2.mono hs⟩
theorem row_j_16 : True := by
  (k_with "mine obj" => exact IsGdef.mono (by assumption) (fun p hp => by repeat (first | exact hp | refine List.mem_cons_of_mem _ ?_)))
  (k_with "call ref" => ((with_reducible show wpAny _ _ (call (Value.ref 382) [Value.ref _]) _ _ _); (refine' use0 (args := ⟨[_], []⟩) (by k_asm) (by k_asm) (classdef_make (wo_of (by k_asm) (by k_asm) (by k_asm) (by k_asm)) _) (by k_extra "mine room") ?_); (rintro _ _ _ _ ⟨_, _, _, _, _, e1_r, e2_r, _, _, _, _, e3_r⟩ _ _ - -); (subst e1_r); (subst e2_r); (subst e3_r)))
  trivial
inductive Qnogdef_spec (w : World) (tl : Wd) (v : Value) (tl' : Wd) (qh : Heap) : Prop
  | mk : ∀ x, v = .ref x → (∀ p ∈ tl, p ∈ tl') → IsGdef w tl' x → Qnogdef_spec w tl v tl' qh
theorem nogdef_spec {w : World} {B : Heap} {s : Shared} {tl : Wd} (W : Wo w B tl s.heap) :
    Spec w 4 490 ⟨[], []⟩ s [] tl (Qnogdef_spec w tl) := by
  intro dp un fr gd R hR hret
  k_extra "mine enter"
  k_extra "mine steps"
  rename Fr _ _ _ _ => F1
  rename News _ _ _ _ => N1
  rename Frag.In _ _ => X1
  rename Top _ _ _ _ _ _ => T1
  rename_i e1 e2
  refine use0 (args := ⟨[_, _, _], []⟩) F1 N1 (gdef_make (wo_of F1 N1 X1 T1) _ _ _) (by k_extra "mine room") ?_
  rintro v' tl' h' tk' ⟨x', p', q', rfl, hs2, hx⟩ F2 N2 hs' hf'
  clear F1 N1 hs' 
  k_extra "mine steps"
  obtain ⟨st, gr, ho⟩ := leaveG (own := []) (own' := []) (tl := tl) W.at_ (by assumption) F2 N2 (fun p hp => hs2 p (by repeat (first | exact hp | refine List.mem_cons_of_mem _ ?_))) (fun _ _ h => nomatch h)
  refine hret _ _ _ _ st gr ⟨_, rfl, fun p hp => hs2 p (by repeat (first | exact hp | refine List.mem_cons_of_mem _ ?_)), _, _, _, _, _, hx, ?_⟩
  refine ⟨_, _, [], ⟨_, _, _, hs2 _ (by k_mem), hs2 _ (by k_mem), by assumption⟩, hs2 _ (by k_mem), by assumption, by assumption, fun g => rfl⟩

structure II where
  gl : Int
  cl : Int
  xa : Int
  ya : Int
  xo : Int
  yo : Int
  un : Bool
def infoF (i : II) : List (Str × Value) := [("code", .int 65 0), ("glyph", .int i.gl 0), ("cluster", .int i.cl 0), ("mask", .int 0 0), ("is_unsafe", .bool i.un), ("lig_id", .int 0 0), ("lig_part", .int 0 0), ("lig_count", .int 0 0), ("split_id", .int 0 0), ("kind", .str "" 0), ("x_advance", .int i.xa 0), ("y_advance", .int i.ya 0), ("x_offset", .int i.xo 0), ("y_offset", .int i.yo 0), ("parent", .int 0 0), ("bond", .str "" 0)]
def IsInfo (tl : Wd) (x : Addr) (i : II) : Prop := IsObj tl x 52 (infoF i)
inductive InfoV (tl : Wd) (v : Value) (i : II) : Prop
  | mk : ∀ x, v = .ref x →
    IsInfo tl x i → InfoV tl v i
theorem IsInfo.mono {tl tl' : Wd} {x : Addr} {i : II} (h : IsInfo tl x i) (hs : ∀ p ∈ tl, p ∈ tl') : IsInfo tl' x i := IsObj.mono h hs
theorem InfoV.mono {tl tl' : Wd} {v : Value} {i : II} (h : InfoV tl v i) (hs : ∀ p ∈ tl, p ∈ tl') : InfoV tl' v i := let ⟨x, a, b⟩ := h; ⟨x, a, IsObj.mono b hs⟩
theorem fa_gl (i : II) : FldAt (infoF i) "glyph" (.int i.gl 0) := by unfold infoF; k_extra "mine fldat"
theorem fa_cl (i : II) : FldAt (infoF i) "cluster" (.int i.cl 0) := by unfold infoF; k_extra "mine fldat"
theorem fa_kind (i : II) : FldAt (infoF i) "kind" (.str "" 0) := by unfold infoF; k_extra "mine fldat"
theorem fa_un (i : II) : FldAt (infoF i) "is_unsafe" (.bool i.un) := by unfold infoF; k_extra "mine fldat"
theorem fa_xo (i : II) : FldAt (infoF i) "x_offset" (.int i.xo 0) := by unfold infoF; k_extra "mine fldat"
theorem fa_yo (i : II) : FldAt (infoF i) "y_offset" (.int i.yo 0) := by unfold infoF; k_extra "mine fldat"
theorem fa_xa (i : II) : FldAt (infoF i) "x_advance" (.int i.xa 0) := by unfold infoF; k_extra "mine fldat"
theorem fa_ya (i : II) : FldAt (infoF i) "y_advance" (.int i.ya 0) := by unfold infoF; k_extra "mine fldat"
theorem fp_un (i : II) (b : Bool) : FldPut "is_unsafe" (.bool b) (infoF i) (infoF { i with un := b }) 0 := by unfold infoF; k_extra "mine fldput"
theorem fp_xo (i : II) (a : Int) (t : Tok) : FldPut "x_offset" (.int a t) (infoF i) (infoF { i with xo := a }) 0 := by unfold infoF; k_extra "mine fldput"
theorem fp_yo (i : II) (a : Int) (t : Tok) : FldPut "y_offset" (.int a t) (infoF i) (infoF { i with yo := a }) 0 := by unfold infoF; k_extra "mine fldput"
theorem fp_xa (i : II) (a : Int) (t : Tok) : FldPut "x_advance" (.int a t) (infoF i) (infoF { i with xa := a }) 0 := by unfold infoF; k_extra "mine fldput"

theorem row_j_17 : True := by
  (k_with "mine fldat" => ((with_reducible show FldAt (infoF _) _ _); with_reducible first | exact fa_gl _ | exact fa_cl _ | exact fa_kind _ | exact fa_un _ | exact fa_xo _ | exact fa_yo _ | exact fa_xa _ | exact fa_ya _))
  (k_with "mine fldput" => ((with_reducible show FldPut _ _ (infoF _) _ _); with_reducible first | exact fp_un _ _ | exact fp_xo _ _ _ | exact fp_yo _ _ _ | exact fp_xa _ _ _))
  trivial
theorem IsCls.dict' {w : World} {tl : Wd} {x : Addr} {F : Int → Int} (h : IsCls w tl x F) : ∃ dx es n t, (x, instObj 382 dx) ∈ tl ∧ (dx, dictOf es n) ∈ tl ∧ Flds es [("classes", .ref t)] := by
  obtain ⟨t, _, _, ⟨dx, es, n, a, b, c⟩, _⟩ := h
  exact ⟨dx, es, n, t, a, b, c⟩
theorem bit_spec {w : World} {B : Heap} {s : Shared} {tl : Wd} {t : Tok} (W : Wo w B tl s.heap) :
    Spec w 1 176 ⟨[.int 0 t], []⟩ s [] tl (QInt tl 0) := by
  intro dp un fr gd R hR hret
  k_extra "mine enter"
  k_extra "mine steps"
  obtain ⟨st, gr, ho⟩ := leave (own := []) (own' := []) (new := []) (tl := tl) W.at_ (by assumption) (by rename Fr _ _ _ _ => F9; exact F9) (by rename News _ _ _ _ => N9; exact fun p hp => N9 p (by repeat (first | exact hp | refine List.mem_cons_of_mem _ ?_))) (by rfl) (fun _ h => nomatch h)
  exact hret _ _ _ _ st gr ⟨_, rfl, rfl⟩
theorem row_j_18 : True := by
  (k_with "call ref" => (refine' use0i (f := 176) (by k_asm) (by k_asm) (by k_asm) (by k_asm) (fun W => bit_spec W) (by k_extra "mine room") ?_; intro _ _ _ _ _))
  trivial
theorem gclass_spec {w : World} {B : Heap} {s : Shared} {tl : Wd} {x : Addr} {g : Int} {t : Tok} (W : Wo w B tl s.heap) (hx : IsGdef w tl x) :
    Spec w 2 457 ⟨[.ref x, .int g t], []⟩ s [] tl (QInt tl 0) := by
  obtain ⟨c, b, l, p, q, hx, hc⟩ := hx
  obtain ⟨dx, es_dx, n_dx, hx, hdx, hF_dx⟩ := id hx
  obtain ⟨dc, es_dc, n_dc, f_dc, hci, hcd, hF_dc⟩ := hc.dict'
  intro dp un fr gd R hR hret
  k_extra "mine enter"
  k_extra "mine steps"
  obtain ⟨st, gr, ho⟩ := leave (own := []) (own' := []) (new := []) (tl := tl) W.at_ (by assumption) (by rename Fr _ _ _ _ => F9; exact F9) (by rename News _ _ _ _ => N9; exact fun p hp => N9 p (by repeat (first | exact hp | refine List.mem_cons_of_mem _ ?_))) (by rfl) (fun _ h => nomatch h)
  exact hret _ _ _ _ st gr ⟨_, rfl, rfl⟩
theorem row_j_19 : True := by
  (k_with "call ref" => (refine' use0i (f := 457) (by k_asm) (by k_asm) (by k_asm) (by k_asm) (fun W => gclass_spec W (by k_extra "mine obj")) (by k_extra "mine room") ?_; intro _ _ _ _ _))
  trivial
inductive IsLk (tl : Wd) (x : Addr) : Prop
  | mk : ∀ t, IsObj tl x 136 [("kind", .str "pair" 0), ("flag", .int 0 0), ("mark_set", .int 0 0), ("tables", t)] → IsLk tl x
theorem IsLk.mono {tl tl' : Wd} {x : Addr} (h : IsLk tl x) (hs : ∀ p ∈ tl, p ∈ tl') : IsLk tl' x := let ⟨t, a⟩ := h; ⟨t, a.mono hs⟩
theorem row_j_20 : True := by
  (k_with "mine obj" => exact IsLk.mono (by assumption) (fun p hp => by repeat (first | exact hp | refine List.mem_cons_of_mem _ ?_)))
  trivial
theorem IsGdef.dict {w : World} {tl : Wd} {x : Addr} (h : IsGdef w tl x) : ∃ (dx : Addr) (es : List DictEntry) (n : Nat) (f : Addr × Value × Value × Value × Value), (x, instObj 479 dx) ∈ tl ∧ (dx, dictOf es n) ∈ tl ∧ Flds es [("classes", .ref f.1), ("attach", f.2.1), ("sets", f.2.2.1), ("points", f.2.2.2.1), ("carets", f.2.2.2.2)] := by
  obtain ⟨c, b, l, p, q, ⟨dx, es, n, a, b', c'⟩, _⟩ := h
  exact ⟨dx, es, n, (c, b, l, p, q), a, b', c'⟩
theorem ignored_spec {w : World} {B : Heap} {s : Shared} {tl : Wd} {x l : Addr} {g : Int} {t : Tok} (W : Wo w B tl s.heap) (hg : IsGdef w tl x) (hl : IsLk tl l) :
    Spec w 3 183 ⟨[.ref x, .ref l, .int g t], []⟩ s [] tl (QEq tl (.bool false)) := by
  obtain ⟨dg, es_dg, n_dg, f_dg, hgi, hgd, hF_dg⟩ := hg.dict
  obtain ⟨tt, hl⟩ := hl
  obtain ⟨dx, es_dx, n_dx, hlx, hdx, hF_dx⟩ := id hl
  intro dp un fr gd R hR hret
  k_extra "mine enter"
  k_extra "mine steps"
  obtain ⟨st, gr, ho⟩ := leave (own := []) (own' := []) (new := []) (tl := tl) W.at_ (by assumption) (by rename Fr _ _ _ _ => F9; exact F9) (by rename News _ _ _ _ => N9; exact fun p hp => N9 p (by repeat (first | exact hp | refine List.mem_cons_of_mem _ ?_))) (by rfl) (fun _ h => nomatch h)
  exact hret _ _ _ _ st gr ⟨rfl, rfl⟩
theorem row_j_21 : True := by
  (k_with "call ref" => (refine' use0e (f := 183) (by k_asm) (by k_asm) (by k_asm) (by k_asm) (fun W => ignored_spec W (by k_extra "mine obj") (by k_extra "mine obj")) (by k_extra "mine room") ?_; intro _ _ _ _))
  trivial
/-- what a lookup sees -/
inductive IsScene (w : World) (tl : Wd) (x b row : Addr) : Prop
  | mk : ∀ g ls lk md dp_ st, IsObj tl x 158 [("buffer", .ref b), ("gdef", .ref g), ("lookups", ls), ("lookup", .ref lk), ("mask", md), ("depth", dp_), ("steps", st)] →
    IsObj tl b 105 [("row", .ref row), ("is_backward", .bool false), ("last_lig", .int 0 0), ("last_split", .int 0 0)] →
    IsGdef w tl g →
    IsLk tl lk → IsScene w tl x b row
theorem IsScene.mono {w : World} {tl tl' : Wd} {x b row : Addr} (h : IsScene w tl x b row) (hs : ∀ p ∈ tl, p ∈ tl') : IsScene w tl' x b row :=
  let ⟨g, ls, lk, md, dp_, st, h1, h2, h3, h4⟩ := h; ⟨g, ls, lk, md, dp_, st, h1.mono hs, h2.mono hs, h3.mono hs, h4.mono hs⟩
def AtL {α : Type} (R : Value → α → Prop) (vs : List Value) (xs : List α) : Prop := vs.length = xs.length ∧ ∀ (i : Nat) (v : Value), vs[i]? = some v → ∃ x, xs[i]? = some x ∧ R v x
theorem passes_spec {w : World} {B : Heap} {s : Shared} {tl : Wd} {x b row i : Addr} {vs : List Value} {n : Nat} {a : Int} {t : Tok} {st : II} (W : Wo w B tl s.heap) (hx : IsScene w tl x b row) (hr : (row, listOf vs.toArray n) ∈ tl)
    (ha : 0 ≤ a) (hz : a < 1000000) (hv : vs[a.toNat]? = some (.ref i)) (hi : IsInfo tl i st) :
    Spec w 4 190 ⟨[.ref x, .int a t], []⟩ s [] tl (QEq tl (.bool false)) := by
  obtain ⟨g, ls, lk, md, dp_, st_, hx, hb, hg, hl⟩ := hx
  obtain ⟨dx, es_dx, n_dx, hxx, hdx, hF_dx⟩ := id hx
  obtain ⟨db, es_db, n_db, hbx, hdb, hF_db⟩ := id hb
  obtain ⟨di, es, ni, hii, hdi, hF⟩ := hi
  intro dp un fr gd R hR hret
  k_extra "mine enter"
  k_extra "mine steps"
  obtain ⟨st, gr, ho⟩ := leave (own := []) (own' := []) (new := []) (tl := tl) W.at_ (by assumption) (by rename Fr _ _ _ _ => F9; exact F9) (by rename News _ _ _ _ => N9; exact fun p hp => N9 p (by repeat (first | exact hp | refine List.mem_cons_of_mem _ ?_))) (by rfl) (fun _ h => nomatch h)
  exact hret _ _ _ _ st gr ⟨rfl, rfl⟩

theorem row_j_22 : True := by
  (k_with "mine obj" => exact IsScene.mono (by assumption) (fun p hp => by repeat (first | exact hp | refine List.mem_cons_of_mem _ ?_)))
  (k_with "mine obj" => exact IsInfo.mono (by assumption) (fun p hp => by repeat (first | exact hp | refine List.mem_cons_of_mem _ ?_)))
  (k_with "call ref" => (refine' use0e (f := 190) (by k_asm) (by k_asm) (by k_asm) (by k_asm) (fun W => passes_spec W (by k_extra "mine obj") (by k_mem) (by omega) (by omega) (by assumption) (by k_extra "mine obj")) (by k_extra "mine room") ?_; intro _ _ _ _))
  trivial
inductive NeiJ (a : Int) (x : Addr) (n : Nat) (m : Str → Option Value) : Prop
  | mk : n = 0 → ∀ th ts, m "here" = some (.int (a + 1) th) → m "scene" = some (.ref x) → m "step" = some (.int 1 ts) → NeiJ a x n m
section
variable {w : World} {h₀ : Heap} {L : Addr} {m : Str → Option Value} {s : Shared} {A : Around}
theorem kinds_notin {u : Tok} {Q E : Value → Shared → Prop} (F : Fr h₀ L s.heap m) (X : (hd.heap_1 w.params).In h₀) (h : Q (.bool true) s) : wpAny (model PW w) A (compareOp .NotIn (.str "" u) (.ref 191)) Q E s := by
  obtain ⟨o, hm, hc, n, hd⟩ : ∃ o, (hd.heap_1 w.params).lookup 191 = some o ∧ o.cls = .type "tuple" ∧ ∃ n t1 t2 t3, o.data = .seq #[.str "zwj" t1, .str "zwnj" t2, .str "hidden" t3] n :=
    ⟨_, by k_is, by rfl, _, _, _, _, by rfl⟩
  obtain ⟨t1, t2, t3, hd⟩ := hd
  refine notin_tuple_strs (ys := ["zwj", "zwnj", "hidden"]) (IsTup.keeps ⟨_, X 191 _ hm, hc, _, hd⟩ F.keep) (.cons _ _ (.cons _ _ (.cons _ _ .nil))) ?_
  exact h
end
theorem row_j_23 : True := by
  (k_with "compareOp NotIn str ref" => (refine kinds_notin (by k_asm) (by k_asm) ?_))
  trivial
section
 local macro_rules | `(tactic| walk_at "eval Name") => `(tactic| (k_here; k_dflt (refine' ld ?k1 ?k2 ?_; (case k1 => k_asm); (case k2 => first | exact rfl | assumption); k_whole)))
theorem neigh_spec {w : World} {B : Heap} {s : Shared} {tl : Wd} {x b row : Addr} {vs : List Value} {is : List II} {n : Nat} {a : Int} {t t1 : Tok} (W : Wo w B tl s.heap) (hx : IsScene w tl x b row) (hr : (row, listOf vs.toArray n) ∈ tl) (hA : AtAll (InfoV tl) vs is)
    (ha : 0 ≤ a) (hlt : a < vs.length) (hz : vs.length ≤ 1000) :
    Spec w 5 198 ⟨[.ref x, .int a t, .int 1 t1], []⟩ s [] tl (QInt tl (if a + 1 < vs.length then a + 1 else -1)) := by
  have hx0 := hx
  obtain ⟨g, ls, lk, md, dp_, st_, hx, hb, hg, hl⟩ := hx
  obtain ⟨dx, es_dx, n_dx, hxx, hdx, hF_dx⟩ := id hx
  obtain ⟨db, es_db, n_db, hbx, hdb, hF_db⟩ := id hb
  intro dp un fr gd R hR hret
  k_extra "mine enter"
  k_extra "mine steps"
  refine while_K (NeiJ a x) (by assumption) (by assumption) 0 ?_ ?_
  · exact ⟨rfl, _, _, rfl, rfl, rfl⟩
  · rename News _ _ _ _ => N1
    rename Fr _ _ _ _ => F1
    clear N1 F1
    rintro n m h tk ⟨rfl, th, ts, hm1, hm2, hm3⟩ F2 N2
    by_cases hl : a + 1 < vs.length
    · obtain ⟨v, hv⟩ : ∃ v, vs[(a + 1).toNat]? = some v := ⟨_, List.getElem?_eq_getElem (by omega)⟩
      obtain ⟨i, hi, iv, rfl, hI⟩ := hA.2 _ _ hv
      have hI0 := hI
      obtain ⟨di, es, ni, hii, hdi, hF⟩ := hI
      k_extra "mine steps"
      obtain ⟨st, gr, ho⟩ := leave (own := []) (own' := []) (new := []) (tl := tl) W.at_ (by assumption) (by rename Fr _ _ _ _ => F9; exact F9) (by rename News _ _ _ _ => N9; exact fun p hp => N9 p (by repeat (first | exact hp | refine List.mem_cons_of_mem _ ?_))) (by rfl) (fun _ h => nomatch h)
      exact hret _ _ _ _ st gr ⟨_, (by rw [if_pos hl]), rfl⟩
    · k_extra "mine steps"
      obtain ⟨st, gr, ho⟩ := leave (own := []) (own' := []) (new := []) (tl := tl) W.at_ (by assumption) (by rename Fr _ _ _ _ => F9; exact F9) (by rename News _ _ _ _ => N9; exact fun p hp => N9 p (by repeat (first | exact hp | refine List.mem_cons_of_mem _ ?_))) (by rfl) (fun _ h => nomatch h)
      exact hret _ _ _ _ st gr ⟨_, (by rw [if_neg hl]), rfl⟩
end
theorem row_j_24 : True := by
  (k_with "call ref" => (refine' use0i (f := 198) (by k_asm) (by k_asm) (by k_asm) (by k_asm) (fun W => neigh_spec W (by k_extra "mine obj") (by k_mem) (by k_extra "mine obj") (by omega) (by omega) (by omega)) (by k_extra "mine room") ?_; intro _ _ _ _ _))
  (k_with "mine obj" => exact AtAll.mono (R := InfoV _) (by assumption) (fun _ _ q => InfoV.mono q (fun p hp => by repeat (first | exact hp | refine List.mem_cons_of_mem _ ?_))))
  trivial
theorem next_spec {w : World} {B : Heap} {s : Shared} {tl : Wd} {x b row : Addr} {vs : List Value} {is : List II} {n : Nat} {a : Int} {t : Tok} (W : Wo w B tl s.heap) (hx : IsScene w tl x b row) (hr : (row, listOf vs.toArray n) ∈ tl) (hA : AtAll (InfoV tl) vs is)
    (ha : 0 ≤ a) (hlt : a < vs.length) (hz : vs.length ≤ 1000) :
    Spec w 6 205 ⟨[.ref x, .int a t], []⟩ s [] tl (QInt tl (if a + 1 < vs.length then a + 1 else -1)) := by
  intro dp un fr gd R hR hret
  k_extra "mine enter"
  k_extra "mine steps"
  obtain ⟨st, gr, ho⟩ := leave (own := []) (own' := []) (new := []) (tl := tl) W.at_ (by assumption) (by rename Fr _ _ _ _ => F9; exact F9) (by rename News _ _ _ _ => N9; exact fun p hp => N9 p (by repeat (first | exact hp | refine List.mem_cons_of_mem _ ?_))) (by rfl) (fun _ h => nomatch h)
  exact hret _ _ _ _ st gr ⟨_, rfl, rfl⟩

def addV (i : II) (u : V4) : II := { i with xo := i.xo + u.1, yo := i.yo + u.2.1, xa := i.xa + u.2.2.1 }
inductive Qaddv (tl : Wd) (dx : Addr) (i : II) (r : Value) (tl' : Wd) (h' : Heap) : Prop
  | mk : tl' = tl → r = .none → ∀ es', h'.get? dx = some (dictOf es' 16) → Flds es' (infoF i) → Qaddv tl dx i r tl' h'
theorem addv_spec {w : World} {B : Heap} {s : Shared} {tl : Wd} {x dx v : Addr} {es : List DictEntry} {i : II} {u : V4} {b : Bool} (W : Wo w B ([(dx, dictOf es 16)] ++ tl) s.heap) (hx : (x, instObj 52 dx) ∈ tl) (hF : Flds es (infoF i)) (hv : IsVal tl v u) (hne : ∀ p ∈ tl, p.1 ≠ dx) :
    Spec w 1 247 ⟨[.ref x, .ref v, .bool b], []⟩ s [dx] tl (Qaddv tl dx (addV i u)) := by
  obtain ⟨dv, es_dv, n_dv, hvi, hvd, hF_dv⟩ := id hv
  have hd1 := hne _ hx
  have hd2 := hne _ hvi
  have hd3 := hne _ hvd
  intro dp un fr gd R hR hret
  k_extra "mine enter"
  k_extra "mine steps"
  obtain ⟨st, gr, ho⟩ := leaveG (own := [(dx, _)]) (own' := [(dx, _)]) (tl := tl) (tl' := tl) W.at_ (by assumption) (by rename Fr _ _ _ _ => F9; exact F9) (by rename News _ _ _ _ => N9; exact N9) (fun _ h => h) (fun p hp q => hne p hp (List.mem_singleton.mp q))
  exact hret _ _ _ _ st gr ⟨rfl, rfl, _, ho _ (List.mem_singleton.mpr rfl), by assumption⟩

section
variable {prog : Program} {w : World} {A : Around} {s : Shared} {env : Env} {h₀ : Heap} {L : Addr} {m : Str → Option Value} {target iter : Expr} {body : List Stmt}
/-- what a for statement goes through; st is what the body may change -/
inductive ForSrc (prog : Program) (w : World) (A : Around) (target : Expr) (h₀ : Heap) (L : Addr) (m : Str → Option Value) (st base : Wd) (n : Nat) (P : Nat → Value → Heap → Prop) (it : Value) (s₂ : Shared) : Prop
  | mk : ∀ (I : Addr) (fp wr : List Addr) (Md : Nat → Value → Heap → Prop) (St : Nat → Heap → Prop), it = .ref I →
    KTurns prog w A target I fp wr n P Md St →
    (∀ i (s : Shared) (Q : Value → Shared → Prop) (E : Value → Shared → Prop), St i s.heap → Q (.ref I) s → wpAny (model prog w) A (pyIter (.ref I)) Q E s) →
    (∀ i h, St i h → ∀ b ∈ fp, ∃ o, h.get? b = some o) →
    L ∉ fp →
    (∀ b ∈ wr, h₀.get? b = none) →
    (∀ p ∈ base, p.1 ∉ wr) →
    (∀ p ∈ st, p.1 ∉ fp) →
    St 0 s₂.heap →
    Fr h₀ L s₂.heap m →
    News h₀ L s₂.heap (st ++ base) → ForSrc prog w A target h₀ L m st base n P it s₂
inductive ForNext (h₀ : Heap) (L : Addr) (led : Wd) (Jn : (Str → Option Value) → Wd → Prop) (s₁ s₂ : Shared) : Prop
  | mk : ∀ h' tk m' st', s₂ = { s₁ with heap := h', toks := tk } → Fr h₀ L h' m' → News h₀ L h' (st' ++ led) → (∀ p ∈ st', ∀ q ∈ led, q.1 ≠ p.1) → Jn m' st' → ForNext h₀ L led Jn s₁ s₂
def ForEnd (h₀ : Heap) (L : Addr) (led : Wd) (Jn : (Str → Option Value) → Wd → Prop) (s₁ : Shared) (Q : Flow → Shared → Prop) (f : Flow) (s₂ : Shared) : Prop :=
  match f with
  | .ret v => Q (.ret v) s₂
  | .brk => Q .next s₂
  | _ => ForNext h₀ L led Jn s₁ s₂
inductive ForAt (prog : Program) (w : World) (A : Around) (h₀ : Heap) (env : Env) (target : Expr) (body : List Stmt) (Q : Flow → Shared → Prop) (it : Value) (s₂ : Shared) : Prop
  | mk : ∀ (n : Nat) (P : Nat → Value → Heap → Prop) (m : Str → Option Value) (st base : Wd) (J : Nat → (Str → Option Value) → Wd → Prop), ForSrc prog w A target h₀ env.locals m st base n P it s₂ →
    J 0 m st →
    (∀ p ∈ st, ∀ q ∈ base, q.1 ≠ p.1) →
    (∀ led i v m₁ st₁ h₁ tk₁, i < n → P i v h₁ → J i m₁ st₁ → (∀ p ∈ base, p ∈ led) → (∀ p ∈ st₁, ∀ q ∈ led, q.1 ≠ p.1) → Fr h₀ env.locals h₁ m₁ → News h₀ env.locals h₁ (st₁ ++ led) →
      wpAny (model prog w) A (assign target env v) (fun _ s₃ => wpAny (model prog w) A (execs body env) (ForEnd h₀ env.locals led (J (i + 1)) { s₂ with heap := h₁, toks := tk₁ } Q) NoE s₃) NoE { s₂ with heap := h₁, toks := tk₁ }) →
    (∀ h' tk m' st', Fr h₀ env.locals h' m' → News h₀ env.locals h' (st' ++ base) → (∀ p ∈ st', ∀ q ∈ base, q.1 ≠ p.1) → J n m' st' → Q .next { s₂ with heap := h', toks := tk }) → ForAt prog w A h₀ env target body Q it s₂
inductive ForSt (base : Wd) (fp : List Addr) (J : (Str → Option Value) → Wd → Prop) (m' : Str → Option Value) (news : Wd) : Prop
  | mk : ∀ st', news = st' ++ base → (∀ p ∈ st', p.1 ∉ fp) → (∀ p ∈ st', ∀ q ∈ base, q.1 ≠ p.1) → J m' st' → ForSt base fp J m' news
theorem for_K {pos : Pos} {Q : Flow → Shared → Prop} (_F : Fr h₀ env.locals s.heap m)
    (h : wpAny (model prog w) A (eval iter env) (fun xv s₁ => wpAny (model prog w) A (pyIter xv) (fun it s₂ => ForAt prog w A h₀ env target body Q it s₂) NoE s₁) NoE s)
    (hs : ∀ x, foldedSetIterable iter env x = pure x := by intro _; rfl) :
    wpAny (model prog w) A (exec (.For target iter body [] pos) env) Q NoE s := by
  refine For_turns (E := NoE) _F (wpAny_mono h (fun xv s₁ h₁ => wpAny_mono h₁ (fun it s₂ h₂ => ?_) fun _ _ e => e) fun _ _ e => e) hs (by passes_own)
  obtain ⟨n, P, m, st, base, J, ⟨I, fp, wr, Md, St, rfl, W, _, live, hLf, hwr, hbw, hsf, hst, F, N⟩, h0, hap, step, fin⟩ := h₂
  refine ⟨I, fp, wr, n, P, Md, St, m, st ++ base, fun i => ForSt base fp (J i), rfl, W, hLf, hwr, fun p hp => ?_, hst, F, N, ⟨st, rfl, hsf, hap, h0⟩, ?_, ?_⟩
  · rcases List.mem_append.mp hp with hp | hp
    · exact fun q => hsf p hp (W.sub _ q)
    · exact hbw p hp
  · rintro i v m₁ news₁ h₁ tk₁ own hi hP ⟨st₁, rfl, hsf₁, hap₁, hJ₁⟩ hnw hown hat hall hst₁ F₁ N₁
    have N₂ : News h₀ env.locals h₁ (st₁ ++ (own ++ base)) := fun p hp => N₁ p (by
      rcases List.mem_append.mp hp with q | q
      · exact List.mem_append_right _ (List.mem_append_left _ q)
      · rcases List.mem_append.mp q with q | q
        · exact List.mem_append_left _ q
        · exact List.mem_append_right _ (List.mem_append_right _ q))
    refine wpAny_mono (step (own ++ base) i v m₁ st₁ h₁ tk₁ hi hP hJ₁ (fun p hp => List.mem_append_right _ hp) (fun p hp q hq => ?_) F₁ N₂) (fun _ s₃ q₃ => wpAny_mono q₃ (fun f s₄ q₄ => ?_) fun _ _ e => e) fun _ _ e => e
    · rcases List.mem_append.mp hq with hq | hq
      · exact fun e => hsf₁ p hp (e ▸ hown q hq)
      · exact hap₁ p hp q hq
    · have conv : ForNext h₀ env.locals (own ++ base) (J (i + 1)) { s₂ with heap := h₁, toks := tk₁ } s₄ →
          LoopStepU h₀ env.locals wr own (ForSt base fp (J (i + 1))) { s₂ with heap := h₁, toks := tk₁ } .next s₄ := by
        rintro ⟨h', tk, m', st', rfl, F', N', ap', hJ'⟩
        have off : ∀ p ∈ st', p.1 ∉ fp := fun p hp hb => by
          obtain ⟨o, e⟩ := live _ _ hst₁ _ hb
          cases hn : h₀.get? p.1 with
          | some o₀ => have := (N' p (List.mem_append_left _ hp)).2.2; rw [hn] at this; cases this
          | none => exact ap' p hp _ (List.mem_append_left _ (hall _ hb hn _ e)) rfl
        refine ⟨rfl, h', tk, m', st' ++ base, rfl, F', fun p hp => N' p ?_, fun p hp => ?_, st', rfl, off, fun p hp q hq => ap' p hp q (List.mem_append_right _ hq), hJ'⟩
        · rcases List.mem_append.mp hp with q | q
          · exact List.mem_append_right _ (List.mem_append_left _ q)
          · rcases List.mem_append.mp q with q | q
            · exact List.mem_append_left _ q
            · exact List.mem_append_right _ (List.mem_append_right _ q)
        · rcases List.mem_append.mp hp with hp | hp
          · exact fun q => off p hp (W.sub _ q)
          · exact hbw p hp
      cases f with
      | ret v => exact q₄
      | brk => exact q₄
      | cont => exact conv q₄
      | next => exact conv q₄
  · rintro h' tk m' news' F' N' hnw ⟨st', rfl, _, hap', hJ'⟩
    exact fin h' tk m' st' F' N' hap' hJ'
end
section
variable {prog : Program} {w : World} {A : Around} {s : Shared} {h₀ : Heap} {L : Addr} {m : Str → Option Value} {x : Str} {px : Pos} {st base : Wd}
theorem for_list {l : Addr} {vs : List Value} {k : Nat} {tk : Nat} (hh : A.handled = none) (F : Fr h₀ L s.heap m) (N : News h₀ L s.heap (st ++ base)) (hm : (l, listOf vs.toArray k) ∈ base) (hap : ∀ p ∈ st, ∀ q ∈ base, q.1 ≠ p.1) :
    ForSrc prog w A (.Name x px) h₀ L m st base vs.length (fun i v _ => vs[i]? = some v) (.ref s.heap.objs.size) { s with heap := s.heap.push { cls := .type "list_iterator", data := .fields #[.ref l, .int 0 0] }, toks := tk } := by
  have hl := N _ (List.mem_append_right _ hm)
  have hlt : l < s.heap.objs.size := Heap.lt_size hl.1
  refine ⟨s.heap.objs.size, [s.heap.objs.size, l], [s.heap.objs.size], _, _, rfl, KTurns.ofWalks (n := vs.length) (P := fun i v => vs[i]? = some v) (St := fun i h => h.IsListIter s.heap.objs.size l i ∧ h.IsList l vs.toArray) ?_ (fun i v s Q E _ q => wpAny_pure q), fun i s Q E st q => wpAny_pyIter_listiter st.1 q, ?_, ?_, ?_, ?_, ?_, ?_, F.push _, fun p hp => ⟨Heap.get?_push_of_some _ (N p hp).1, (N p hp).2⟩⟩
  · have W := Walks.list (prog := prog) (w := w) hh s.heap.objs.size l (Nat.ne_of_lt hlt) vs.toArray
    simpa using W
  · rintro i h ⟨⟨o, e, _⟩, ⟨o2, e2, _⟩⟩ b hb
    rcases List.mem_cons.mp hb with rfl | hb
    · exact ⟨o, e⟩
    · rw [List.mem_singleton.mp hb]; exact ⟨o2, e2⟩
  · intro hb
    rcases List.mem_cons.mp hb with e | hb
    · exact Nat.lt_irrefl _ (e ▸ F.ns.lt)
    · exact hl.2.1 (List.mem_singleton.mp hb).symm
  · intro b hb
    rw [List.mem_singleton.mp hb]; exact next_free F
  · intro p hp hb
    exact Nat.lt_irrefl _ ((List.mem_singleton.mp hb) ▸ Heap.lt_size (N p (List.mem_append_right _ hp)).1)
  · intro p hp hb
    rcases List.mem_cons.mp hb with e | hb
    · exact Nat.lt_irrefl _ (e ▸ Heap.lt_size (N p (List.mem_append_left _ hp)).1)
    · exact hap p hp _ hm (List.mem_singleton.mp hb).symm
  · exact ⟨⟨_, Heap.get?_push_size _ rfl, rfl, rfl⟩, (show s.heap.IsList l vs.toArray from ⟨_, hl.1, rfl, k, rfl⟩).push _⟩
end

theorem row_j_25 : True := by
  (k_with "eval Name" => (k_here; (fail_if_success k_inBlock); k_dflt (refine' ld ?k1_q ?k2_q ?_; (case k1_q => k_asm); (case k2_q => first | exact rfl | assumption | ((repeat (refine Eq.trans (if_neg (by decide)) ?_)); assumption)); k_whole)))
  trivial
theorem slice_two {vs : List Value} {v1 v2 : Value} {a : Int} (h : 0 ≤ a) (h1 : vs[a.toNat]? = some v1) (h2 : vs[a.toNat + 1]? = some v2) : (slicePick vs.toArray (some a) (some (a + 1 + 1)) none).toList = [v1, v2] := by
  have hl := (List.getElem?_eq_some_iff.mp h2).1
  have e : sliceBounds (some a) (some (a + 1 + 1)) none vs.toArray.size = (((a.toNat : Nat) : Int), ((a.toNat + 2 : Nat) : Int), 1) := by
    simp only [sliceBounds, Option.getD_none, show (1 : Int) > 0 by decide, if_true, if_neg (show ¬ (a < 0) by omega), if_neg (show ¬ (a + 1 + 1 < 0) by omega), List.size_toArray]
    congr 1
    · omega
    · congr 1
      omega
  rw [kmk_pick_nat _ e]
  show (vs.drop a.toNat).take (a.toNat + 2 - a.toNat) = _
  rw [show a.toNat + 2 - a.toNat = 2 by omega]
  obtain ⟨h1l, e1⟩ := List.getElem?_eq_some_iff.mp h1
  obtain ⟨h2l, e2⟩ := List.getElem?_eq_some_iff.mp h2
  rw [List.drop_eq_getElem_cons h1l, List.drop_eq_getElem_cons h2l, e1, e2]
  rfl
theorem my_slice {w : World} {A : Around} {E : Value → Shared → Prop} {s : Shared} {hh h₀ : Heap} {L l : Addr} {m : Str → Option Value} {news : Wd} {value slice : PySem.Expr} {vs zs : List Value} {n : Nat} {a b : Int} {t u : Tok} {Q : Value → Shared → Prop}
    (e0 : s.heap = hh.push { cls := .type "slice", data := .fields #[.int a t, .int b u, .none] }) (F : Fr h₀ L hh m) (N : News h₀ L hh news) (hl : (l, listOf vs.toArray n) ∈ news) (e : (slicePick vs.toArray (some a) (some b) none).toList = zs) (hz : vs.length ≤ 1000000)
    (h : ∀ D h', Fr h₀ L h' m → News h₀ L h' ((D, listOf zs.toArray 0) :: news) → (∀ p ∈ news, p.1 < D) → Q (.ref D) { s with heap := h' })
    (hs : subscripted slice false (.ref l) (.ref hh.objs.size) = operate [.ref hh.objs.size, .ref l] (getItem (.ref l) (.ref hh.objs.size)) := by with_unfolding_all rfl) (ht : ∀ r, letTemporaryGo value (.ref l) r = pure () := by intro _; with_unfolding_all rfl) :
    wpAny (model PW w) A (subscriptTail value slice (.ref l) (.ref hh.objs.size)) Q E s := by
  obtain ⟨hp, g, d, tk, os⟩ := s
  dsimp only at e0
  subst e0
  exact kmk_slice_lit (s := { heap := hh, gens := g, drawn := d, toks := tk, os := os }) F N (News.isList N hl) (IsPart.int _ _) (IsPart.int _ _) e (fun D h' F' N' l1 => h D h' F' N' l1) hs ht (by rw [sizeLine_eq, List.size_toArray]; omega)
theorem row_j_26 : True := by
  (k_with "subscriptTail Name Slice ref ref" => (k_here; (with_reducible show wpAny _ _ (subscriptTail _ (PySem.Expr.Slice _ _ none _) (Value.ref _) (Value.ref _)) _ _ _); k_dflt (refine' my_slice (by rfl) (by k_asm) (by k_asm) (by k_mem) (slice_two (by assumption) (by assumption) (by assumption)) (by omega) ?_); intro _ _ _ _ _))
  (k_with "mine goF" => ((fail_if_success (with_reducible show wpAny _ _ (exec (Stmt.While _ _ _ _) _) _ _ _)); (fail_if_success (with_reducible show wpAny _ _ (exec (Stmt.Assign _ (Expr.ListComp _ _ _ _) _) _) _ _ _)); (fail_if_success (with_reducible show wpAny _ _ (eval (Expr.ListComp _ _ _ _) _) _ _ _))))
  (k_with "mine stepsF" => repeat' (k_extra "mine goF"; k_extra "mine one"))
  trivial
theorem news_pick {g : Heap} {L : Addr} {h : Heap} {D S d1 d2 : Addr} {oD oS o1 o2 : Obj} {tl : Wd} (N : News g L h ((D, oD) :: (S, oS) :: (d1, o1) :: (d2, o2) :: tl)) : News g L h ([(d1, o1), (d2, o2)] ++ ((S, oS) :: tl)) := fun p hp => N p (by
  rcases List.mem_append.mp hp with hp | hp
  · exact List.mem_cons_of_mem _ (List.mem_cons_of_mem _ (by
      rcases List.mem_cons.mp hp with rfl | hp
      · exact List.mem_cons_self ..
      · exact List.mem_cons_of_mem _ (by rw [List.mem_singleton.mp hp]; exact List.mem_cons_self ..)))
  · refine List.mem_cons_of_mem _ ?_
    rcases List.mem_cons.mp hp with rfl | hp
    · exact List.mem_cons_self ..
    · exact List.mem_cons_of_mem _ (List.mem_cons_of_mem _ (List.mem_cons_of_mem _ hp)))
theorem hang_ap {S d1 d2 : Addr} {oS o1 o2 : Obj} {tl : Wd} (l : ∀ p ∈ (d1, o1) :: (d2, o2) :: tl, p.1 < S) (h1 : ∀ p ∈ tl, p.1 ≠ d1) (h2 : ∀ p ∈ tl, p.1 ≠ d2) : ∀ p ∈ [(d1, o1), (d2, o2)], ∀ q ∈ (S, oS) :: tl, q.1 ≠ p.1 := by
  intro p hp q hq
  have l1 := l _ (List.mem_cons_self ..)
  have l2 := l _ (List.mem_cons_of_mem _ (List.mem_cons_self ..))
  rcases List.mem_cons.mp hp with rfl | hp
  · rcases List.mem_cons.mp hq with rfl | hq
    · exact Nat.ne_of_gt l1
    · exact h1 q hq
  · rw [List.mem_singleton.mp hp]
    rcases List.mem_cons.mp hq with rfl | hq
    · exact Nat.ne_of_gt l2
    · exact h2 q hq
theorem two_of {c d : Int} {os : List (Option Value)} (h : os.length = 2) (hR : ∀ (i : Nat) (y : Option Value), os[i]? = some y → ∃ t, y = some (.int (if i = 0 then c else d) t)) : ∃ ta tb, os = [some (.int c ta), some (.int d tb)] :=
  match os, h with
  | [p, q], _ => by
    obtain ⟨ta, rfl⟩ := hR 0 p rfl
    obtain ⟨tb, rfl⟩ := hR 1 q rfl
    exact ⟨ta, tb, rfl⟩
inductive HangJ (d1 d2 : Addr) (i1 i2 : II) (i : Nat) (m : Str → Option Value) (st : Wd) : Prop
  | mk : ∀ t e1' e2', m "least_cluster" = some (.int i1.cl t) → st = [(d1, dictOf e1' 16), (d2, dictOf e2' 16)] → Flds e1' (infoF i1) → Flds e2' (infoF (if i ≤ 1 then i2 else { i2 with un := true })) → HangJ d1 d2 i1 i2 i m st
inductive Qhang (tl : Wd) (d1 d2 : Addr) (i1 i2 : II) (r : Value) (tl' : Wd) (h' : Heap) : Prop
  | mk : tl' = tl → r = .none → ∀ es1 es2, h'.get? d1 = some (dictOf es1 16) → Flds es1 (infoF i1) → h'.get? d2 = some (dictOf es2 16) → Flds es2 (infoF { i2 with un := true }) → Qhang tl d1 d2 i1 i2 r tl' h'
theorem hang_spec {w : World} {B : Heap} {s : Shared} {tl : Wd} {b row x1 x2 d1 d2 : Addr} {e1 e2 : List DictEntry} {i1 i2 : II} {vs : List Value} {n : Nat} {a : Int} {t t2 : Tok} (W : Wo w B ([(d1, dictOf e1 16), (d2, dictOf e2 16)] ++ tl) s.heap)
    (hb : IsObj tl b 105 [("row", .ref row), ("is_backward", .bool false), ("last_lig", .int 0 0), ("last_split", .int 0 0)]) (hr : (row, listOf vs.toArray n) ∈ tl) (h1 : (x1, instObj 52 d1) ∈ tl) (h2 : (x2, instObj 52 d2) ∈ tl) (hF1 : Flds e1 (infoF i1)) (hF2 : Flds e2 (infoF i2))
    (hc : i1.cl < i2.cl) (ha : 0 ≤ a) (hz : vs.length ≤ 1000) (hv1 : vs[a.toNat]? = some (.ref x1)) (hv2 : vs[a.toNat + 1]? = some (.ref x2)) (hn1 : ∀ p ∈ tl, p.1 ≠ d1) (hn2 : ∀ p ∈ tl, p.1 ≠ d2) (hd : d1 ≠ d2) :
    Spec w 1 114 ⟨[.ref b, .int a t, .int (a + 1 + 1) t2], []⟩ s [d1, d2] tl (Qhang tl d1 d2 i1 i2) := by
  have hF10 := hF1
  have hF20 := hF2
  obtain ⟨db, es_db, n_db, hbx, hdb, hF_db⟩ := id hb
  intro dp un fr gd R hR hret
  k_extra "mine enter"
  k_extra "mine steps"
  rename Fr _ _ _ _ => F1
  rename News _ _ _ _ => N1
  rename Frag.In _ _ => X1
  rename Top _ _ _ _ _ _ => T1
  refine ListComp_K (cl := []) F1 (by rfl) (by decide) (by rfl) (by decide) ?_
  k_extra "mine steps"
  refine pyIter_listK (vs := [.ref x1, .ref x2]) N1 (by k_mem) ?_
  refine compAt_pure (fun i y => ∃ t, y = some (.int (if i = 0 then i1.cl else i2.cl) t)) (src_list rfl F1 N1 (by k_mem) (by simp)) ?_ ?_
  · rintro g C i v m₁ h₁ tk₁ led hg hi hP hs F2 N2
    have X2 := X1.keeps hg
    have T2 := T1.keeps hg
    have m1 := hs (d1, _) (by k_mem)
    have m2 := hs (d2, _) (by k_mem)
    have m3 := hs (x1, _) (by k_mem)
    have m4 := hs (x2, _) (by k_mem)
    refine blk_assign F2 N2 rfl rfl ?_
    intro h3 F3 N3
    clear F2 N2
    refine tests_nil ?_
    rcases i with _ | _ | i
    · obtain rfl := Option.some.inj hP
      simp only [if_true]
      k_extra "mine steps"
      refine' ⟨_, _, _, _, rfl, ?F, ?N, ?sub, _, ?fin⟩
      case F => assumption
      case N => assumption
      case sub => exact fun p hp => by repeat (first | exact hp | refine List.mem_cons_of_mem _ ?_)
      case fin => exact rfl
    · obtain rfl := Option.some.inj hP
      simp only [if_true]
      k_extra "mine steps"
      refine' ⟨_, _, _, _, rfl, ?Fb, ?Nb, ?subb, _, ?finb⟩
      case Fb => assumption
      case Nb => assumption
      case subb => exact fun p hp => by repeat (first | exact hp | refine List.mem_cons_of_mem _ ?_)
      case finb => exact rfl
    · simp at hP
  · clear F1 N1
    intro D h' tk os k F2 N2 hos hRs
    obtain ⟨ta, tb, rfl⟩ := two_of hos hRs
    dsimp only [List.filterMap, id] at N2 ⊢
    k_extra "mine steps"
    rename Fr _ _ _ _ => F3
    rename News _ _ _ _ => N3
    rename _ = i1.cl ∨ _ = i2.cl => hM
    rename _ ≤ i1.cl ∧ _ ≤ i2.cl => hM2
    rcases hM with hM | hM
    rotate_left
    · exact absurd hM2.1 (by omega)
    subst hM
    refine for_K F3 ?_
    k_extra "mine steps"
    refine pyIter_listK (vs := [.ref x1, .ref x2]) N3 (by k_mem) ?_
    refine ⟨_, _, _, _, _, HangJ d1 d2 i1 i2,
      for_list (vs := [.ref x1, .ref x2]) rfl F3 (news_pick N3) (List.mem_cons_self ..) (hang_ap (by assumption) hn1 hn2), ⟨_, _, _, rfl, rfl, hF10, hF20⟩, hang_ap (by assumption) hn1 hn2, ?_, ?_⟩
    · clear N3 F3
      rintro led i v m₁ st₁ h₁ tk₁ hi hP ⟨tl', e1', e2', hm, rfl, hG1, hG2⟩ hbase hap F4 N4
      have q1 := hbase _ (List.mem_cons_of_mem _ h1)
      have q2 := hbase _ (List.mem_cons_of_mem _ h2)
      have a1 : ∀ q ∈ led, q.1 ≠ d1 := fun q hq => hap (d1, _) (List.mem_cons_self ..) q hq
      have a2 : ∀ q ∈ led, q.1 ≠ d2 := fun q hq => hap (d2, _) (List.mem_cons_of_mem _ (List.mem_cons_self ..)) q hq
      refine blk_assign F4 N4 rfl rfl ?_
      intro h5 F5 N5
      clear F4 N4
      rcases i with _ | _ | i
      · obtain rfl := Option.some.inj hP
        replace hG2 : Flds e2' (infoF i2) := hG2
        k_extra "mine steps"
        all_goals first | (exfalso; omega) | skip
        rename Fr _ _ _ _ => F9
        rename News _ _ _ _ => N9
        exact ⟨_, _, _, [(d1, dictOf _ 16), (d2, dictOf _ 16)], rfl, F9, N9, fun p hp => by
          rcases List.mem_cons.mp hp with rfl | hp
          · exact a1
          · rw [List.mem_singleton.mp hp]; exact a2, _, _, _, (if_neg (by decide)).trans hm, rfl, hG1, hG2⟩
      · obtain rfl := Option.some.inj hP
        replace hG2 : Flds e2' (infoF i2) := hG2
        k_extra "mine steps"
        all_goals first | (exfalso; omega) | skip
        rename Fr _ _ _ _ => F9
        rename News _ _ _ _ => N9
        exact ⟨_, _, _, [(d1, dictOf _ 16), (d2, dictOf _ 16)], rfl, F9, N9, fun p hp => by
          rcases List.mem_cons.mp hp with rfl | hp
          · exact a1
          · rw [List.mem_singleton.mp hp]; exact a2, _, _, _, (if_neg (by decide)).trans hm, rfl, hG1, by assumption⟩
      · simp at hP
    · rintro h' tk m' st' F4 N4 hap ⟨_, e1', e2', -, rfl, hG1, hG2⟩
      clear N3 F3
      k_extra "mine steps"
      obtain ⟨st, gr, ho⟩ := leaveG (own := [(d1, _), (d2, _)]) (own' := [(d1, _), (d2, _)]) (tl := tl) (tl' := tl) W.at_ (by assumption) F4 (fun p hp => N4 p (by
        rcases List.mem_append.mp hp with q | q
        · exact List.mem_append_left _ q
        · exact List.mem_append_right _ (List.mem_cons_of_mem _ q))) (fun _ h => h) (fun p hp q => by
          rcases List.mem_cons.mp q with e | q
          · exact hn1 p hp e
          · exact hn2 p hp (List.mem_singleton.mp q))
      exact hret _ _ _ _ st gr ⟨rfl, rfl, _, _, ho _ (List.mem_cons_self ..), hG1, ho _ (List.mem_cons_of_mem _ (List.mem_cons_self ..)), hG2⟩

theorem next1_spec {w : World} {B : Heap} {s : Shared} {tl : Wd} {x b row : Addr} {vs : List Value} {is : List II} {n : Nat} {a : Int} {t : Tok} (W : Wo w B tl s.heap) (hx : IsScene w tl x b row) (hr : (row, listOf vs.toArray n) ∈ tl) (hA : AtAll (InfoV tl) vs is)
    (ha : 0 ≤ a) (hlt : a + 1 < vs.length) (hz : vs.length ≤ 1000) :
    Spec w 6 205 ⟨[.ref x, .int a t], []⟩ s [] tl (QInt tl (a + 1)) := by
  intro dp un fr gd R hR hret
  refine next_spec W hx hr hA ha (by omega) hz dp un fr gd R hR fun v tl' h' tk st gr ⟨t, e, e2⟩ => hret v tl' h' tk st gr ⟨t, ?_, e2⟩
  rw [e, if_pos hlt]
theorem next2_spec {w : World} {B : Heap} {s : Shared} {tl : Wd} {x b row : Addr} {vs : List Value} {is : List II} {n : Nat} {a : Int} {t : Tok} (W : Wo w B tl s.heap) (hx : IsScene w tl x b row) (hr : (row, listOf vs.toArray n) ∈ tl) (hA : AtAll (InfoV tl) vs is)
    (ha : 0 ≤ a) (hlt : a + 1 = vs.length) (hz : vs.length ≤ 1000) :
    Spec w 6 205 ⟨[.ref x, .int a t], []⟩ s [] tl (QInt tl (-1)) := by
  intro dp un fr gd R hR hret
  refine next_spec W hx hr hA ha (by omega) hz dp un fr gd R hR fun v tl' h' tk st gr ⟨t, e, e2⟩ => hret v tl' h' tk st gr ⟨t, ?_, e2⟩
  rw [e, if_neg (by omega)]
theorem row_j_27 : True := by
  (k_with "call ref" => (refine' use0i (f := 205) (by k_asm) (by k_asm) (by k_asm) (by k_asm) (fun W => next1_spec W (by k_extra "mine obj") (by k_mem) (by k_extra "mine obj") (by omega) (by omega) (by omega)) (by k_extra "mine room") ?_; intro _ _ _ _ _))
  (k_with "call ref" => (refine' use0i (f := 205) (by k_asm) (by k_asm) (by k_asm) (by k_asm) (fun W => next2_spec W (by k_extra "mine obj") (by k_mem) (by k_extra "mine obj") (by omega) (by omega) (by omega)) (by k_extra "mine room") ?_; intro _ _ _ _ _))
  trivial
section
variable {w : World} {h₀ : Heap} {L : Addr} {m : Str → Option Value} {s : Shared} {led : Wd} {mean : ExcName → Option Value} {mg mb : Str → Option Value} {dp un : Nat} {fr : Option (List Env)} {gd : Option (List Code)}
theorem use0b {r : Nat} {f : Addr} {args : Args} {base : Wd} {Post : Value → Wd → Heap → Prop} {Q E : Value → Shared → Prop} (F : Fr h₀ L s.heap m) (N : News h₀ L s.heap led)
    (sp : Spec w r f args s [] base Post) (hr : Room r dp un) (k : ∀ v tl' h' tk, Post v tl' h' → Fr h₀ L h' m → News h₀ L h' led → Q v { s with heap := h', toks := tk }) :
    wpAny (model PW w) (Ar dp un fr gd) (call (.ref f) args.pos args.kw) Q E s :=
  wpAny_call (sp dp un fr gd _ hr fun v tl' h' tk st _ post => k v tl' h' tk post ⟨F.ns.at' fun o e => st L o (fun q => nomatch q) e, fun b o e => st b o (fun q => nomatch q) (F.keep b o e), F.above⟩
    fun p hp => ⟨st _ _ (fun q => nomatch q) (N p hp).1, (N p hp).2⟩)
theorem findC_K {base : Wd} {x : Addr} {T : PC} {f g : Int} {t1 t2 : Tok} {Q E : Value → Shared → Prop} (F : Fr h₀ L s.heap m) (N : News h₀ L s.heap led) (X : (hd.heap_1 w.params).In h₀) (T0 : Top hd.view_1 (looseW hd.view_1 []) mean mg mb h₀) (hx : IsPC w base x T) (hsub : ∀ p ∈ base, p ∈ led) (hr : Room 3 dp un)
    (k0 : ∀ h' tk, T.find f g = none → Fr h₀ L h' m → News h₀ L h' led → Q .none { s with heap := h', toks := tk })
    (k1 : ∀ p t y z n h' tk, T.find f g = some p → Fr h₀ L h' m → News h₀ L h' led → (t, tupOf [.ref y, .ref z] n) ∈ base → IsVal base y p.1 → IsVal base z p.2 → Q (.ref t) { s with heap := h', toks := tk }) :
    wpAny (model PW w) (Ar dp un fr gd) (call (.ref 313) [.ref x, .int f t1, .int g t2]) Q E s := by
  refine use0b (args := ⟨[.ref x, .int f t1, .int g t2], []⟩) F N (find_spec ((wo_of F N X T0).sub hsub) hx) hr ?_
  rintro v tl' h' tk ⟨rfl, hv⟩ F' N'
  cases e : T.find f g with
  | none => rw [e] at hv; rw [show v = .none from hv]; exact k0 _ _ e F' N'
  | some p => rw [e] at hv; obtain ⟨t, y, z, n, rfl, a, b, c⟩ := hv; exact k1 p t y z n _ _ e F' N' a b c
theorem findG_K {base : Wd} {x : Addr} {D : Int → Int → Option PP} {b : Bool} {f g : Int} {t1 t2 : Tok} {Q E : Value → Shared → Prop} (F : Fr h₀ L s.heap m) (N : News h₀ L s.heap led) (X : (hd.heap_1 w.params).In h₀) (T0 : Top hd.view_1 (looseW hd.view_1 []) mean mg mb h₀) (hx : IsPG w base x D b) (hsub : ∀ p ∈ base, p ∈ led) (hr : Room 3 dp un)
    (k0 : ∀ h' tk, D f g = none → Fr h₀ L h' m → News h₀ L h' led → Q .none { s with heap := h', toks := tk })
    (k1 : ∀ p t y z n h' tk, D f g = some p → Fr h₀ L h' m → News h₀ L h' led → (t, tupOf [.ref y, .ref z] n) ∈ base → IsVal base y p.1 → IsVal base z p.2 → Q (.ref t) { s with heap := h', toks := tk }) :
    wpAny (model PW w) (Ar dp un fr gd) (call (.ref 281) [.ref x, .int f t1, .int g t2]) Q E s := by
  refine use0b (args := ⟨[.ref x, .int f t1, .int g t2], []⟩) F N (pgfind_spec ((wo_of F N X T0).sub hsub) hx) hr ?_
  rintro v tl' h' tk ⟨⟨q, rfl⟩, hv⟩ F' N'
  cases e : D f g with
  | none => rw [e] at hv; rw [show v = .none from hv]; exact k0 _ _ e F' N'
  | some p => rw [e] at hv; obtain ⟨t, y, z, n, rfl, a, b, c⟩ := hv; exact k1 p t y z n _ _ e F' N' a b c
end
theorem row_j_28 : True := by
  (k_with "call ref" => ((with_reducible show wpAny _ _ (call (Value.ref 313) [Value.ref _, Value.int _ _, Value.int _ _]) _ _ _); (refine' findC_K (by k_asm) (by k_asm) (by k_asm) (by k_asm) (by assumption) (fun p hp => by repeat (first | exact hp | refine List.mem_cons_of_mem _ ?_)) (by k_extra "mine room") ?_ ?_); (intro _ _ _ _ _); rotate_left; (intro _ _ _ _ _ _ _ _ _ _ _ _ _); rotate_left))
  (k_with "call ref" => ((with_reducible show wpAny _ _ (call (Value.ref 281) [Value.ref _, Value.int _ _, Value.int _ _]) _ _ _); (refine' findG_K (by k_asm) (by k_asm) (by k_asm) (by k_asm) (by assumption) (fun p hp => by repeat (first | exact hp | refine List.mem_cons_of_mem _ ?_)) (by k_extra "mine room") ?_ ?_); (intro _ _ _ _ _); rotate_left; (intro _ _ _ _ _ _ _ _ _ _ _ _ _); rotate_left))
  trivial
theorem apply2_spec {w : World} {B : Heap} {s : Shared} {tl : Wd} {x b row tb : Addr} {vs : List Value} {is : List II} {n : Nat} {a : Int} {t : Tok} {D : Int → Int → Option PP} {bs : Bool} (W : Wo w B tl s.heap) (hx : IsScene w tl x b row) (hr : (row, listOf vs.toArray n) ∈ tl) (hA : AtAll (InfoV tl) vs is)
    (ht : IsTab w tl tb D bs) (ha : 0 ≤ a) (hlt : a + 1 = vs.length) (hz : vs.length ≤ 1000) :
    Spec w 7 339 ⟨[.ref x, .ref tb, .int a t], []⟩ s [] tl (QInt tl (-1)) := by
  intro dp un fr gd R hR hret
  k_extra "mine enter"
  k_extra "mine steps"
  obtain ⟨st, gr, ho⟩ := leave (own := []) (own' := []) (new := []) (tl := tl) W.at_ (by assumption) (by rename Fr _ _ _ _ => F9; exact F9) (by rename News _ _ _ _ => N9; exact fun p hp => N9 p (by repeat (first | exact hp | refine List.mem_cons_of_mem _ ?_))) (by rfl) (fun _ h => nomatch h)
  exact hret _ _ _ _ st gr ⟨_, rfl, rfl⟩
theorem off2 {d1 d2 : Addr} {o1 o2 : Obj} {tl : Wd} (h1 : ∀ p ∈ tl, p.1 ≠ d1) (h2 : ∀ p ∈ tl, p.1 ≠ d2) : ∀ p ∈ tl, p.1 ∉ ([(d1, o1), (d2, o2)] : Wd).map (·.1) := fun p hp q => by
  rcases List.mem_cons.mp q with e | q
  · exact h1 p hp e
  · exact h2 p hp (List.mem_singleton.mp q)
theorem all2 {d1 d2 : Addr} {o1 o2 : Obj} {h : Heap} (h1 : h.get? d1 = some o1) (h2 : h.get? d2 = some o2) : ∀ p ∈ ([(d1, o1), (d2, o2)] : Wd), h.get? p.1 = some p.2 := fun p hp => by
  rcases List.mem_cons.mp hp with rfl | hp
  · exact h1
  · rw [List.mem_singleton.mp hp]; exact h2
theorem off1 {d1 d2 : Addr} {o2 : Obj} {tl : Wd} (h1 : ∀ p ∈ tl, p.1 ≠ d1) (hd : d1 ≠ d2) : ∀ p ∈ (d2, o2) :: tl, p.1 ≠ d1 := fun p hp => by
  rcases List.mem_cons.mp hp with rfl | hp
  · exact Ne.symm hd
  · exact h1 p hp
theorem all1 {d1 : Addr} {o1 : Obj} {h : Heap} (h1 : h.get? d1 = some o1) : ∀ p ∈ ([(d1, o1)] : Wd), h.get? p.1 = some p.2 := fun p hp => by
  rw [List.mem_singleton.mp hp]; exact h1
theorem news_sw {g : Heap} {L : Addr} {h : Heap} {p q : Addr × Obj} {tl : Wd} (N : News g L h ([p] ++ (q :: tl))) : News g L h ([q] ++ (p :: tl)) := fun x hx => N x (by
  rcases List.mem_cons.mp hx with rfl | hx
  · exact List.mem_cons_of_mem _ (List.mem_cons_self ..)
  rcases List.mem_cons.mp hx with rfl | hx
  · exact List.mem_cons_self ..
  · exact List.mem_cons_of_mem _ (List.mem_cons_of_mem _ hx))
inductive Qapply1_spec (tl : Wd) (d1 : Addr) (d2 : Addr) (i1 : II) (i2 : II) (a : Int) (D : Int → Int → Option PP) (bs : Bool) (r : Value) (tl' : Wd) (h' : Heap) : Prop
  | mk : tl' = tl → ∀ t es1 es2, h'.get? d1 = some (dictOf es1 16) → h'.get? d2 = some (dictOf es2 16) → (match D i1.gl i2.gl with
      | none => r = .int (-1) t ∧ Flds es1 (infoF i1) ∧ Flds es2 (infoF i2)
      | some p => r = .int (if bs = true then a + 1 + 1 else a + 1) t ∧ Flds es1 (infoF (addV i1 p.1)) ∧ Flds es2 (infoF (addV { i2 with un := true } p.2))) → Qapply1_spec tl d1 d2 i1 i2 a D bs r tl' h'
theorem apply1_spec {w : World} {B : Heap} {s : Shared} {tl : Wd} {x b row tb x1 x2 d1 d2 : Addr} {e1 e2 : List DictEntry} {i1 i2 : II} {vs : List Value} {is : List II} {n : Nat} {a : Int} {t : Tok} {D : Int → Int → Option PP} {bs : Bool} (W : Wo w B ([(d1, dictOf e1 16), (d2, dictOf e2 16)] ++ tl) s.heap)
    (hx : IsScene w tl x b row) (hr : (row, listOf vs.toArray n) ∈ tl) (hA : AtAll (InfoV ([(d1, dictOf e1 16), (d2, dictOf e2 16)] ++ tl)) vs is)
    (ht : IsTab w tl tb D bs) (h1 : (x1, instObj 52 d1) ∈ tl) (h2 : (x2, instObj 52 d2) ∈ tl) (hF1 : Flds e1 (infoF i1)) (hF2 : Flds e2 (infoF i2)) (hc : i1.cl < i2.cl)
    (ha : 0 ≤ a) (hlt : a + 1 < vs.length) (hz : vs.length ≤ 1000) (hv1 : vs[a.toNat]? = some (.ref x1)) (hv2 : vs[a.toNat + 1]? = some (.ref x2)) (hn1 : ∀ p ∈ tl, p.1 ≠ d1) (hn2 : ∀ p ∈ tl, p.1 ≠ d2) (hd : d1 ≠ d2) :
    Spec w 7 339 ⟨[.ref x, .ref tb, .int a t], []⟩ s [d1, d2] tl (Qapply1_spec tl d1 d2 i1 i2 a D bs) := by
  have hF10 := hF1
  have hF20 := hF2
  have hv2' : vs[(a + 1).toNat]? = some (.ref x2) := by rw [show (a + 1).toNat = a.toNat + 1 by omega]; exact hv2
  have hx0 := hx
  obtain ⟨g, ls, lk, md, dp_, st_, hx, hb, hg, hl⟩ := hx
  have hb0 := hb
  obtain ⟨dx, es_dx, n_dx, hxx, hdx, hF_dx⟩ := id hx
  obtain ⟨db, es_db, n_db, hbx, hdb, hF_db⟩ := id hb
  have ht0 := ht
  cases ht with
  | c T hT heq hsec =>
    have hT0 := hT
    obtain ⟨tc, tf, tg, tr, tvs, tn, hTx, _, _, _, _, _, _, _, _⟩ := hT
    obtain ⟨dt, es_dt, n_dt, hti, htd, hF_dt⟩ := id hTx
    intro dp un fr gd R hR hret
    k_extra "mine enter"
    k_extra "mine steps"
    · rename Fr _ _ _ _ => F9
      rename News _ _ _ _ => N9
      rename T.find _ _ = none => hD0
      have hD := (heq i1.gl i2.gl).symm.trans hD0
      obtain ⟨st, gr, ho⟩ := leaveG (own := [(d1, _), (d2, _)]) (own' := [(d1, _), (d2, _)]) (tl := tl) (tl' := tl) W.at_ (by assumption) F9 N9 (fun _ h => h) (off2 hn1 hn2)
      exact hret _ _ _ _ st gr ⟨rfl, _, _, _, ho _ (List.mem_cons_self ..), ho _ (List.mem_cons_of_mem _ (List.mem_cons_self ..)), by rw [hD]; exact ⟨rfl, hF10, hF20⟩⟩
    · rename Fr _ _ _ _ => F9
      rename News _ _ _ _ => N9
      rename Frag.In _ _ => X1
      rename Top _ _ _ _ _ _ => T1
      rename T.find _ _ = some _ => hD0
      have hD := (heq i1.gl i2.gl).symm.trans hD0
      rename IsVal _ _ (Prod.fst _) => hy9
      rename IsVal _ _ (Prod.snd _) => hz9
      rename (_, tupOf [Value.ref _, Value.ref _] _) ∈ _ => ht9
      refine use1 (args := ⟨[_, _, _], []⟩) (own := [(d1, _), (d2, _)]) (tl := tl) F9 N9 (hang_spec (wo_of F9 N9 X1 T1) hb0 hr h1 h2 hF10 hF20 hc ha hz hv1 hv2 hn1 hn2 hd) rfl (by k_extra "mine room") ?_
      rintro v' tl' h' tk' ⟨e9, rfl, es1, es2, g1, hG1, g2, hG2⟩ K _ _
      replace e9 := e9.symm
      subst e9
      obtain ⟨F2, N2⟩ := K [(d1, dictOf es1 16), (d2, dictOf es2 16)] rfl (all2 g1 g2)
      clear K F9 N9
      k_extra "mine steps"
      refine use1 (args := ⟨[_, _, _], []⟩) (own := [(d1, _)]) (tl := (d2, _) :: tl) F2 N2 (addv_spec (wo_of F2 N2 X1 T1) (List.mem_cons_of_mem _ h1) hG1 (IsObj.mono hy9 fun p hp => List.mem_cons_of_mem _ hp) (off1 hn1 hd)) rfl (by k_extra "mine room") ?_
      rintro v' tl' h' tk' ⟨e9, rfl, es3, g3, hG3⟩ K _ _
      replace e9 := e9.symm
      subst e9
      obtain ⟨F3, N3⟩ := K [(d1, dictOf es3 16)] rfl (all1 g3)
      clear K F2 N2
      k_extra "mine steps"
      refine use1 (args := ⟨[_, _, _], []⟩) (own := [(d2, _)]) (tl := (d1, _) :: tl) F3 (news_sw N3) (addv_spec (wo_of F3 (news_sw N3) X1 T1) (List.mem_cons_of_mem _ h2) hG2 (IsObj.mono hz9 fun p hp => List.mem_cons_of_mem _ hp) (off1 hn2 (Ne.symm hd))) rfl (by k_extra "mine room") ?_
      rintro v' tl' h' tk' ⟨e9, rfl, es4, g4, hG4⟩ K _ _
      replace e9 := e9.symm
      subst e9
      obtain ⟨F4, N4⟩ := K [(d2, dictOf es4 16)] rfl (all1 g4)
      clear K F3 N3
      k_extra "mine steps"
      all_goals (
        rename Fr _ _ _ _ => F9
        rename News _ _ _ _ => N9
        obtain ⟨st, gr, ho⟩ := leaveG (own := [(d1, _), (d2, _)]) (own' := [(d1, _), (d2, _)]) (tl := tl) (tl' := tl) W.at_ (by assumption) F9 (news_sw N9) (fun _ h => h) (off2 hn1 hn2)
        exact hret _ _ _ _ st gr ⟨rfl, _, _, _, ho _ (List.mem_cons_self ..), ho _ (List.mem_cons_of_mem _ (List.mem_cons_self ..)), by rw [hD]; exact ⟨by rename bs = _ => hb; subst hb; rfl, hG3, hG4⟩⟩)
  | g hG =>
    have hG0 := hG
    obtain ⟨d, o, xs, hGx, _, _, _, _, _⟩ := hG
    obtain ⟨dt, es_dt, n_dt, hti, htd, hF_dt⟩ := id hGx
    intro dp un fr gd R hR hret
    k_extra "mine enter"
    k_extra "mine steps"
    · rename Fr _ _ _ _ => F9
      rename News _ _ _ _ => N9
      rename D _ _ = none => hD0
      have hD := id hD0
      obtain ⟨st, gr, ho⟩ := leaveG (own := [(d1, _), (d2, _)]) (own' := [(d1, _), (d2, _)]) (tl := tl) (tl' := tl) W.at_ (by assumption) F9 N9 (fun _ h => h) (off2 hn1 hn2)
      exact hret _ _ _ _ st gr ⟨rfl, _, _, _, ho _ (List.mem_cons_self ..), ho _ (List.mem_cons_of_mem _ (List.mem_cons_self ..)), by rw [hD]; exact ⟨rfl, hF10, hF20⟩⟩
    · rename Fr _ _ _ _ => F9
      rename News _ _ _ _ => N9
      rename Frag.In _ _ => X1
      rename Top _ _ _ _ _ _ => T1
      rename D _ _ = some _ => hD0
      have hD := id hD0
      rename IsVal _ _ (Prod.fst _) => hy9
      rename IsVal _ _ (Prod.snd _) => hz9
      rename (_, tupOf [Value.ref _, Value.ref _] _) ∈ _ => ht9
      refine use1 (args := ⟨[_, _, _], []⟩) (own := [(d1, _), (d2, _)]) (tl := tl) F9 N9 (hang_spec (wo_of F9 N9 X1 T1) hb0 hr h1 h2 hF10 hF20 hc ha hz hv1 hv2 hn1 hn2 hd) rfl (by k_extra "mine room") ?_
      rintro v' tl' h' tk' ⟨e9, rfl, es1, es2, g1, hG1, g2, hG2⟩ K _ _
      replace e9 := e9.symm
      subst e9
      obtain ⟨F2, N2⟩ := K [(d1, dictOf es1 16), (d2, dictOf es2 16)] rfl (all2 g1 g2)
      clear K F9 N9
      k_extra "mine steps"
      refine use1 (args := ⟨[_, _, _], []⟩) (own := [(d1, _)]) (tl := (d2, _) :: tl) F2 N2 (addv_spec (wo_of F2 N2 X1 T1) (List.mem_cons_of_mem _ h1) hG1 (IsObj.mono hy9 fun p hp => List.mem_cons_of_mem _ hp) (off1 hn1 hd)) rfl (by k_extra "mine room") ?_
      rintro v' tl' h' tk' ⟨e9, rfl, es3, g3, hG3⟩ K _ _
      replace e9 := e9.symm
      subst e9
      obtain ⟨F3, N3⟩ := K [(d1, dictOf es3 16)] rfl (all1 g3)
      clear K F2 N2
      k_extra "mine steps"
      refine use1 (args := ⟨[_, _, _], []⟩) (own := [(d2, _)]) (tl := (d1, _) :: tl) F3 (news_sw N3) (addv_spec (wo_of F3 (news_sw N3) X1 T1) (List.mem_cons_of_mem _ h2) hG2 (IsObj.mono hz9 fun p hp => List.mem_cons_of_mem _ hp) (off1 hn2 (Ne.symm hd))) rfl (by k_extra "mine room") ?_
      rintro v' tl' h' tk' ⟨e9, rfl, es4, g4, hG4⟩ K _ _
      replace e9 := e9.symm
      subst e9
      obtain ⟨F4, N4⟩ := K [(d2, dictOf es4 16)] rfl (all1 g4)
      clear K F3 N3
      k_extra "mine steps"
      all_goals (
        rename Fr _ _ _ _ => F9
        rename News _ _ _ _ => N9
        obtain ⟨st, gr, ho⟩ := leaveG (own := [(d1, _), (d2, _)]) (own' := [(d1, _), (d2, _)]) (tl := tl) (tl' := tl) W.at_ (by assumption) F9 (news_sw N9) (fun _ h => h) (off2 hn1 hn2)
        exact hret _ _ _ _ st gr ⟨rfl, _, _, _, ho _ (List.mem_cons_self ..), ho _ (List.mem_cons_of_mem _ (List.mem_cons_self ..)), by rw [hD]; exact ⟨by rename bs = _ => hb; subst hb; rfl, hG3, hG4⟩⟩)

theorem val_flds {es : List DictEntry} {a b c d : Int} {t1 t2 t3 t4 : Tok} (h : Flds es [("x_offset", .int a t1), ("y_offset", .int b t2), ("x_advance", .int c t3), ("y_advance", .int d t4)]) :
    Flds es [("x_offset", .int a 0), ("y_offset", .int b 0), ("x_advance", .int c 0), ("y_advance", .int d 0)] := by
  cases h with | cons l1 h => cases h with | cons l2 h => cases h with | cons l3 h => cases h with | cons l4 h =>
  cases h
  exact .cons l1 (.cons l2 (.cons l3 (.cons l4 .nil)))
theorem row_j_29 : True := by
  (k_with "call ref" => ((with_reducible show wpAny _ _ (call (Value.ref 236) [_, _, _, _]) _ _ _); (refine' use0 (args := ⟨[_, _, _, _], []⟩) (by k_asm) (by k_asm) (value_make (wo_of (by k_asm) (by k_asm) (by k_asm) (by k_asm)) _ _ _ _) (by k_extra "mine room") ?_); (rintro _ _ _ _ ⟨_, _, _, _, _, e1_r, e2_r, -, -, -, _, e3_r⟩ _ _ - -); (subst e1_r); (subst e2_r); (subst e3_r)))
  trivial
theorem value491_spec {w : World} {B : Heap} {s : Shared} {tl : Wd} (W : Wo w B tl s.heap) :
    Spec w 3 516 ⟨[.ref 491], []⟩ s [] tl (QVal (0, 0, -30, 0)) := by
  intro dp un fr gd R hR hret
  k_extra "mine enter"
  k_extra "mine steps"
  rename Fr _ _ _ _ => F9
  rename News _ _ _ _ => N9
  obtain ⟨st, gr, ho⟩ := leaveG (own := []) (own' := []) (tl := tl) W.at_ (by assumption) F9 N9 (fun p hp => by repeat (first | exact hp | refine List.mem_cons_of_mem _ ?_)) (fun _ _ h => nomatch h)
  refine hret _ _ _ _ st gr ⟨_, rfl, _, _, _, List.mem_cons_of_mem _ (List.mem_cons_self ..), List.mem_cons_self .., ?_⟩
  exact val_flds (by assumption)
theorem value492_spec {w : World} {B : Heap} {s : Shared} {tl : Wd} (W : Wo w B tl s.heap) :
    Spec w 3 516 ⟨[.ref 492], []⟩ s [] tl (QVal (0, 0, 0, 0)) := by
  intro dp un fr gd R hR hret
  k_extra "mine enter"
  k_extra "mine steps"
  rename Fr _ _ _ _ => F9
  rename News _ _ _ _ => N9
  obtain ⟨st, gr, ho⟩ := leaveG (own := []) (own' := []) (tl := tl) W.at_ (by assumption) F9 N9 (fun p hp => by repeat (first | exact hp | refine List.mem_cons_of_mem _ ?_)) (fun _ _ h => nomatch h)
  refine hret _ _ _ _ st gr ⟨_, rfl, _, _, _, List.mem_cons_of_mem _ (List.mem_cons_self ..), List.mem_cons_self .., ?_⟩
  exact val_flds (by assumption)
theorem value493_spec {w : World} {B : Heap} {s : Shared} {tl : Wd} (W : Wo w B tl s.heap) :
    Spec w 3 516 ⟨[.ref 493], []⟩ s [] tl (QVal (5, -7, 0, 11)) := by
  intro dp un fr gd R hR hret
  k_extra "mine enter"
  k_extra "mine steps"
  rename Fr _ _ _ _ => F9
  rename News _ _ _ _ => N9
  obtain ⟨st, gr, ho⟩ := leaveG (own := []) (own' := []) (tl := tl) W.at_ (by assumption) F9 N9 (fun p hp => by repeat (first | exact hp | refine List.mem_cons_of_mem _ ?_)) (fun _ _ h => nomatch h)
  refine hret _ _ _ _ st gr ⟨_, rfl, _, _, _, List.mem_cons_of_mem _ (List.mem_cons_self ..), List.mem_cons_self .., ?_⟩
  exact val_flds (by assumption)
theorem value494_spec {w : World} {B : Heap} {s : Shared} {tl : Wd} (W : Wo w B tl s.heap) :
    Spec w 3 516 ⟨[.ref 494], []⟩ s [] tl (QVal (1, 2, 3, 4)) := by
  intro dp un fr gd R hR hret
  k_extra "mine enter"
  k_extra "mine steps"
  rename Fr _ _ _ _ => F9
  rename News _ _ _ _ => N9
  obtain ⟨st, gr, ho⟩ := leaveG (own := []) (own' := []) (tl := tl) W.at_ (by assumption) F9 N9 (fun p hp => by repeat (first | exact hp | refine List.mem_cons_of_mem _ ?_)) (fun _ _ h => nomatch h)
  refine hret _ _ _ _ st gr ⟨_, rfl, _, _, _, List.mem_cons_of_mem _ (List.mem_cons_self ..), List.mem_cons_self .., ?_⟩
  exact val_flds (by assumption)
def menuV (r : Addr) : V4 := if r = 491 then (0, 0, -30, 0) else if r = 492 then (0, 0, 0, 0) else if r = 493 then (5, -7, 0, 11) else (1, 2, 3, 4)
def IsMenu (r : Addr) : Prop := r = 491 ∨ r = 492 ∨ r = 493 ∨ r = 494
theorem value_spec {w : World} {B : Heap} {s : Shared} {tl : Wd} {a : Addr} (W : Wo w B tl s.heap) (h : IsMenu a) :
    Spec w 3 516 ⟨[.ref a], []⟩ s [] tl (QVal (menuV a)) := by
  rcases h with rfl | rfl | rfl | rfl
  · exact value491_spec W
  · exact value492_spec W
  · exact value493_spec W
  · exact value494_spec W

open PySem.Spec in
def d4 (v : V4) : PyData := .tuple [.int v.1, .int v.2.1, .int v.2.2.1, .int v.2.2.2]
def dP (p : PP) : PyData := .tuple [d4 p.1, d4 p.2]
def dO : Option PP → PyData
  | none => .none
  | some p => dP p
/-- what a value reads as, by the ledger and the top's part -/
def RD (w : World) (tl : Wd) (v : Value) (d : PyData) : Prop := ∀ h : Heap, (hd.heap_1 w.params).In h → (∀ p ∈ tl, h.get? p.1 = some p.2) → ∃ as, Reads h v d as
theorem RD.mono {w : World} {tl tl' : Wd} {v : Value} {d : PyData} (x : RD w tl v d) (hs : ∀ p ∈ tl, p ∈ tl') : RD w tl' v d := fun h X e => x h X fun p hp => e p (hs p hp)
theorem reads4 {h : Heap} {a : Addr} {v : V4} {t1 t2 t3 t4 : Tok} {n : Nat} (e : h.get? a = some (tupOf [.int v.1 t1, .int v.2.1 t2, .int v.2.2.1 t3, .int v.2.2.2 t4] n)) : Reads h (.ref a) (d4 v) [] :=
  .tuple e rfl rfl (.cons (.int _ _) (.cons (.int _ _) (.cons (.int _ _) (.cons (.int _ _) .nil))))
theorem rd_pair {w : World} {tl : Wd} {q a b : Addr} {p : PP} {n n1 n2 : Nat} {t1 t2 t3 t4 u1 u2 u3 u4 : Tok} (hq : (q, tupOf [.ref a, .ref b] n) ∈ tl) (ha : (a, tupOf [.int p.1.1 t1, .int p.1.2.1 t2, .int p.1.2.2.1 t3, .int p.1.2.2.2 t4] n1) ∈ tl)
    (hb : (b, tupOf [.int p.2.1 u1, .int p.2.2.1 u2, .int p.2.2.2.1 u3, .int p.2.2.2.2 u4] n2) ∈ tl) : RD w tl (.ref q) (dP p) :=
  fun _ _ e => ⟨_, .tuple (e _ hq) rfl rfl (.cons (reads4 (e _ ha)) (.cons (reads4 (e _ hb)) .nil))⟩
theorem toldn_spec {w : World} {B : Heap} {s : Shared} {tl : Wd} (W : Wo w B tl s.heap) :
    Spec w 2 542 ⟨[.none], []⟩ s [] tl (QEq tl .none) := by
  intro dp un fr gd R hR hret
  k_extra "mine enter"
  k_extra "mine steps"
  obtain ⟨st, gr, ho⟩ := leave (own := []) (own' := []) (new := []) (tl := tl) W.at_ (by assumption) (by rename Fr _ _ _ _ => F9; exact F9) (by rename News _ _ _ _ => N9; exact fun p hp => N9 p (by repeat (first | exact hp | refine List.mem_cons_of_mem _ ?_))) (by rfl) (fun _ h => nomatch h)
  exact hret _ _ _ _ st gr ⟨rfl, rfl⟩
theorem told2_spec {w : World} {B : Heap} {s : Shared} {tl : Wd} {v : Value} {p : PP} (W : Wo w B tl s.heap) (hv : PairAt tl v p) :
    Spec w 2 542 ⟨[v], []⟩ s [] tl (fun r tl' _ => RD w tl' r (dP p)) := by
  obtain ⟨t, x, y, n, rfl, ht, hx, hy⟩ := hv
  obtain ⟨dv, es_dv, n_dv, hvi, hvd, hF_dv⟩ := id hx
  obtain ⟨dw, es_dw, n_dw, hwi, hwd, hF_dw⟩ := id hy
  intro dp un fr gd R hR hret
  k_extra "mine enter"
  k_extra "mine steps"
  rename Fr _ _ _ _ => F9
  rename News _ _ _ _ => N9
  obtain ⟨st, gr, ho⟩ := leaveG (own := []) (own' := []) (tl := tl) W.at_ (by assumption) F9 N9 (fun p hp => by repeat (first | exact hp | refine List.mem_cons_of_mem _ ?_)) (fun _ _ h => nomatch h)
  exact hret _ _ _ _ st gr (rd_pair (by k_mem) (by k_mem) (by k_mem))
theorem tolds_spec {w : World} {B : Heap} {s : Shared} {tl : Wd} {v : Value} {o : Option PP} (W : Wo w B tl s.heap) (hv : match o with | none => v = .none | some p => PairAt tl v p) :
    Spec w 2 542 ⟨[v], []⟩ s [] tl (fun r tl' _ => RD w tl' r (dO o)) := by
  cases o with
  | none =>
    obtain rfl : v = .none := hv
    intro dp un fr gd R hR hret
    exact toldn_spec W dp un fr gd R hR fun v tl' h' tk st gr ⟨e, e2⟩ => hret v tl' h' tk st gr (by rw [e]; exact fun h _ _ => ⟨_, .none⟩)
  | some p => exact told2_spec W hv

abbrev rangeObj (a b : Int) (t u v : Tok) : Obj := { cls := .type "range", data := .fields #[.int a t, .int b u, .int 1 v] }
theorem range_size {a b : Int} : Builtin.Range.rangeSize a b 1 = ((b - a).toNat : Int) := by
  unfold Builtin.Range.rangeSize
  simp only [show (1 : Int) > 0 by decide, if_true]
  split <;> omega
theorem range_small {a b : Int} (h1 : -1000000 ≤ a) (h2 : a ≤ 1000000) (h3 : -1000000 ≤ b) (h4 : b ≤ 1000000) : Builtin.Range.small a b 1 = true := by
  unfold Builtin.Range.small
  rw [range_size]
  simp only [Builtin.Range.rangeFitsLong, show (1 : Int) > 0 by decide, if_true, Bool.and_eq_true, Bool.or_eq_true, decide_eq_true_eq]
  omega
section
variable {prog : Program} {w : World} {A : Around} {s : Shared} {h₀ : Heap} {L : Addr} {m : Str → Option Value} {x : Str} {px : Pos} {st base led : Wd} {r : Addr} {a b : Int} {t u v : Tok}
theorem pyIter_rangeK {Q E : Value → Shared → Prop} (N : News h₀ L s.heap led) (hm : (r, rangeObj a b t u v) ∈ led) (h1 : -1000000 ≤ a) (h2 : a ≤ 1000000) (h3 : -1000000 ≤ b) (h4 : b ≤ 1000000)
    (h : Q (.ref s.heap.objs.size) { s with heap := s.heap.push { cls := .type "range_iterator", data := .fields #[rawInt a, rawInt ((b - a).toNat : Nat), rawInt 1] } }) : wpAny (model prog w) A (pyIter (.ref r)) Q E s := by
  refine wpAny_pyIter_range (t := t) (u := u) (v := v) (N _ hm).1 (range_small h1 h2 h3 h4) ?_
  rw [range_size]
  exact h
theorem for_range {n : Nat} {tk : Nat} (hh : A.handled = none) (F : Fr h₀ L s.heap m) (N : News h₀ L s.heap (st ++ base)) :
    ForSrc prog w A (.Name x px) h₀ L m st base n (fun i v _ => ∃ t, v = .int (a + i) t) (.ref s.heap.objs.size) { s with heap := s.heap.push { cls := .type "range_iterator", data := .fields #[rawInt a, rawInt (n : Int), rawInt 1] }, toks := tk } := by
  refine ⟨s.heap.objs.size, [s.heap.objs.size], [s.heap.objs.size], _, _, rfl, KTurns.ofWalks (n := n) (P := fun i v => ∃ t, v = .int (a + i) t) (St := fun i h => IsRangeIter h s.heap.objs.size (a + (i : Nat) * 1) ((n : Int) - (i : Nat)) 1) ?_ (fun i v s Q E _ q => wpAny_pure q), fun i s Q E st q => wpAny_pyIter_rangeiter st q, ?_, ?_, ?_, ?_, ?_, ?_, F.push _, fun p hp => ⟨Heap.get?_push_of_some _ (N p hp).1, (N p hp).2⟩⟩
  · have W := Walks.range (prog := prog) (w := w) hh s.heap.objs.size a 1 n
    simpa using W
  · intro i h e b hb
    rw [List.mem_singleton.mp hb]; exact ⟨_, e⟩
  · intro hb
    exact Nat.lt_irrefl _ (List.mem_singleton.mp hb ▸ F.ns.lt)
  · intro b hb
    rw [List.mem_singleton.mp hb]; exact next_free F
  · intro p hp hb
    exact Nat.lt_irrefl _ ((List.mem_singleton.mp hb) ▸ Heap.lt_size (N p (List.mem_append_right _ hp)).1)
  · intro p hp hb
    exact Nat.lt_irrefl _ ((List.mem_singleton.mp hb) ▸ Heap.lt_size (N p (List.mem_append_left _ hp)).1)
  · show IsRangeIter _ _ _ _ _
    have := Heap.get?_push_size s.heap (o := { cls := .type "range_iterator", data := .fields #[rawInt a, rawInt (n : Int), rawInt 1] }) rfl
    simpa using this
theorem src_range {n : Nat} {tk : Nat} {news : Wd} (hh : A.handled = none) (F : Fr h₀ L s.heap m) (N : News h₀ L s.heap news) (hz : n ≤ 1000000) :
    Src prog w A (.Name x px) h₀ L m news n (fun i v _ => ∃ t, v = .int (a + i) t) (.ref s.heap.objs.size) { s with heap := s.heap.push { cls := .type "range_iterator", data := .fields #[rawInt a, rawInt (n : Int), rawInt 1] }, toks := tk } [s.heap.objs.size] := by
  refine ⟨s.heap.objs.size, [s.heap.objs.size], _, _, rfl, KTurns.ofWalks (n := n) (P := fun i v => ∃ t, v = .int (a + i) t) (St := fun i h => IsRangeIter h s.heap.objs.size (a + (i : Nat) * 1) ((n : Int) - (i : Nat)) 1) ?_ (fun i v s Q E _ q => wpAny_pure q), fun i s Q E st q => wpAny_pyIter_rangeiter st q, ?_, ?_, ?_, ?_, ?_, hz, ?_, F.push _, fun p hp => ⟨Heap.get?_push_of_some _ (N p hp).1, (N p hp).2⟩⟩
  · have W := Walks.range (prog := prog) (w := w) hh s.heap.objs.size a 1 n
    simpa using W
  · intro i h e b hb
    rw [List.mem_singleton.mp hb]; exact ⟨_, e⟩
  · intro b hb
    show b < (s.heap.push _).objs.size
    rw [Heap.size_push, List.mem_singleton.mp hb]; exact Nat.lt_succ_self _
  · intro hb
    exact Nat.lt_irrefl _ (List.mem_singleton.mp hb ▸ F.ns.lt)
  · intro b hb
    rw [List.mem_singleton.mp hb]; exact next_free F
  · intro p hp hb
    exact Nat.lt_irrefl _ ((List.mem_singleton.mp hb) ▸ Heap.lt_size (N p hp).1)
  · show IsRangeIter _ _ _ _ _
    have := Heap.get?_push_size s.heap (o := { cls := .type "range_iterator", data := .fields #[rawInt a, rawInt (n : Int), rawInt 1] }) rfl
    simpa using this
end

theorem allLt_out {d : Addr} : ∀ {l : Wd}, AllLt d l → ∀ p ∈ l, p.1 < d
  | [], _, _, h => nomatch h
  | q :: r, h, p, hp => by
    rcases List.mem_cons.mp hp with rfl | hp
    · exact h.1
    · exact allLt_out h.2 p hp
theorem cut_at : ∀ {l : List Value} {k : Nat} (h : k < l.length), kl_cut l k = some (l.take k, l[k], l.drop (k + 1))
  | [], k, h => absurd h (Nat.not_lt_zero _)
  | x :: r, 0, h => rfl
  | x :: r, k + 1, h => by
    have := cut_at (l := r) (k := k) (by simpa using h)
    simp [kl_cut, this]
theorem updF_upd {d : Addr} {o o' : Obj} : ∀ {l : Wd} {g : Obj → Wd}, UpdF d o l g → Upd d o o' l (g o')
  | _, _, .head h => .head h
  | _, _, .tail h r => .tail h (updF_upd r)
section
variable {w : World} {A : Around} {s : Shared} {h₀ : Heap} {L D : Addr} {m : Str → Option Value} {led : Wd} {g : Obj → Wd} {vl : List Value} {ls : List Int} {n : Nat}
theorem pop_K {x : Int} {u : Tok} {Q E : Value → Shared → Prop} (F : Fr h₀ L s.heap m) (N : News h₀ L s.heap led) (U : UpdF D (listOf vl.toArray n) led g) (hi : IntsAre vl ls) (h0 : 0 ≤ x) (h1 : x < vl.length) (hz : vl.length ≤ 1000)
    (h : ∀ h' t n', Fr h₀ L h' m → IntsAre (vl.eraseIdx x.toNat) (ls.eraseIdx x.toNat) → (vl.eraseIdx x.toNat).length + 1 = vl.length → News h₀ L h' (g (listOf (vl.eraseIdx x.toNat).toArray n')) → Q (.int (ls.getD x.toNat 0) t) { s with heap := h' }) :
    wpAny (model PW w) A (call (.builtin "list.pop") [.ref D, .int x u]) Q E s := by
  have hk : x.toNat < vl.length := by omega
  obtain ⟨t, ht⟩ := ints_at hi (k := x.toNat) (by rw [← hi.length]; exact hk)
  have hy : vl[x.toNat] = .int (ls.getD x.toNat 0) t := by
    rw [List.getElem?_eq_getElem hk] at ht; exact Option.some.inj ht
  have he : vl.take x.toNat ++ vl.drop (x.toNat + 1) = vl.eraseIdx x.toNat := (List.eraseIdx_eq_take_drop_succ ..).symm
  refine kl_popAt (k := x.toNat) (p := vl.take x.toNat) (q := vl.drop (x.toNat + 1)) (y := vl[x.toNat]) F N ?_ ?_ (cut_at hk) (updF_upd U) (by rw [sizeLine_eq]; show vl.length ≤ _; omega) fun h' F' N' => ?_
  · unfold Builtin.List.listFitsIndex
    simp; omega
  · unfold seqIndex?
    have : ¬ x < 0 := by omega
    simp only [this, if_false, List.size_toArray]
    rw [if_pos]
    simp; omega
  · rw [hy]
    rw [he] at N'
    refine h h' t _ F' ?_ ?_ N'
    · rw [List.eraseIdx_eq_take_drop_succ, List.eraseIdx_eq_take_drop_succ]
      exact (hi.take _).append (hi.drop _)
    · rw [List.length_eraseIdx_of_lt hk]; omega
end
theorem row_j_30 : True := by
  (k_with "call builtin:list.pop" => (k_here; k_dflt (refine' pop_K ?F_q ?N_q ?U_q ?I_q ?h0_q ?h1_q ?hz_q ?_; (case F_q => k_asm); (case N_q => k_asm); (case U_q => k_updF); (case I_q => assumption); (case h0_q => omega); (case h1_q => omega); (case hz_q => omega)); (intro _ _ _ _ _ _ N_r); (try dsimp only at N_r); revert N_r; intro _))
  trivial
section
variable {w : World} {A : Around} {s : Shared} {h₀ : Heap} {L D : Addr} {m : Str → Option Value} {led : Wd} {g : Obj → Wd} {vl : List Value} {n : Nat}
theorem push_K {x : Value} {Q E : Value → Shared → Prop} (F : Fr h₀ L s.heap m) (N : News h₀ L s.heap led) (U : UpdF D (listOf vl.toArray n) led g) (hz : vl.length ≤ 1000)
    (h : ∀ h' n', Fr h₀ L h' m → News h₀ L h' (g (listOf (vl ++ [x]).toArray n')) → Q .none { s with heap := h' }) :
    wpAny (model PW w) A (call (.builtin "list.append") [.ref D, x]) Q E s :=
  append_K F N (updF_upd U) (fun h' F' N' => h h' _ F' (by rw [show (vl ++ [x]).toArray = vl.toArray.push x by simp]; exact N')) (by rw [sizeLine_eq, List.size_toArray]; omega)
end

theorem row_j_31 : True := by
  (k_with "call builtin:list.append" => (k_here; (with_reducible show wpAny _ _ (call (Value.builtin _) [Value.ref _, _]) _ _ _); k_dflt (refine' push_K ?F_q ?N_q ?U_q ?hz_q ?_; (case F_q => k_asm); (case N_q => k_asm); (case U_q => k_updF); (case hz_q => omega)); (intro _ _ _ N_r); (try dsimp only at N_r); revert N_r; intro _))
  trivial
inductive Pen (C : Addr) (k : Nat) (o : Obj) : Prop
  | mk : ∀ (spot rest base : Int) (t1 t2 t3 : Tok) (n : Nat), o = listOf #[.ref C, .int spot t1, .int rest t2, .int base t3] n →
    0 ≤ spot →
    spot ≤ k →
    0 ≤ rest →
    0 ≤ base →
    base < 1009 → Pen C k o
theorem Pen.mono {C : Addr} {k k' : Nat} {o : Obj} (h : Pen C k o) (hk : k ≤ k') : Pen C k' o :=
  let ⟨a, b, c, t1, t2, t3, n, e, h1, h2, h3, h4, h5⟩ := h; ⟨a, b, c, t1, t2, t3, n, e, h1, by omega, h3, h4, h5⟩
inductive IsCells (tl : Wd) (C : Addr) : Prop
  | mk : ∀ vs cs nc, (C, listOf vs.toArray nc) ∈ tl →
    IntsAre vs cs →
    vs.length ≤ 63 → IsCells tl C
theorem IsCells.mono {tl tl' : Wd} {C : Addr} (h : IsCells tl C) (hs : ∀ p ∈ tl, p ∈ tl') : IsCells tl' C := let ⟨a, b, c, d, e, f⟩ := h; ⟨a, b, c, hs _ d, e, f⟩
theorem row_j_32 : True := by
  (k_with "mine obj" => exact IsCells.mono (by assumption) (fun p hp => by repeat (first | exact hp | refine List.mem_cons_of_mem _ ?_)))
  trivial
section
variable {w : World} {h₀ : Heap} {L : Addr} {m : Str → Option Value} {s : Shared} {led : Wd} {g : Obj → Wd} {mean : ExcName → Option Value} {mg mb : Str → Option Value} {dp un : Nat} {fr : Option (List Env)} {gd : Option (List Code)}
theorem draw_K {P C : Addr} {o : Obj} {k : Nat} {many : Int} {tm : Tok} {Q E : Value → Shared → Prop} (F : Fr h₀ L s.heap m) (N : News h₀ L s.heap led) (X : (hd.heap_1 w.params).In h₀) (T0 : Top hd.view_1 (looseW hd.view_1 []) mean mg mb h₀)
    (U : UpdF P o led g) (hC : IsCells led C) (hP : Pen C k o) (hCP : C ≠ P) (hk : k ≤ 1000000) (hm0 : 1 ≤ many) (hm1 : many ≤ 8) (hr : Room 1 dp un)
    (h : ∀ x tx o' h' tk, 0 ≤ x → x < many → Pen C (k + 1) o' → Fr h₀ L h' m → News h₀ L h' (g o') → Q (.int x tx) { s with heap := h', toks := tk }) :
    wpAny (model PW w) (Ar dp un fr gd) (call (.ref 502) [.ref P, .int many tm]) Q E s := by
  obtain ⟨pre, post, rfl, eg, a, b⟩ := U.split
  obtain ⟨vs, cs, nc, hm, hi, hl⟩ := hC
  obtain ⟨spot, rest, base, t1, t2, t3, n, rfl, p1, p2, p3, p4, p5⟩ := hP
  have hm' : (C, listOf vs.toArray nc) ∈ pre ++ post := by
    rcases List.mem_append.mp hm with q | q
    · exact List.mem_append_left _ q
    · rcases List.mem_cons.mp q with q | q
      · exact absurd (congrArg Prod.fst q) hCP
      · exact List.mem_append_right _ q
  have hne : ∀ p ∈ pre ++ post, p.1 ≠ P := fun p hp => (List.mem_append.mp hp).elim (a p) (b p)
  have N1 : News h₀ L s.heap ([(P, listOf #[.ref C, .int spot t1, .int rest t2, .int base t3] n)] ++ (pre ++ post)) := fun p hp => N p (by
    rcases List.mem_append.mp hp with q | q
    · rw [List.mem_singleton.mp q]; exact List.mem_append_right _ (List.mem_cons_self ..)
    · rcases List.mem_append.mp q with q | q
      · exact List.mem_append_left _ q
      · exact List.mem_append_right _ (List.mem_cons_of_mem _ q))
  refine use1 (args := ⟨[.ref P, .int many tm], []⟩) F N1 (draw_spec (wo_of F N1 X T0) hm' hi hl hne p1 (by omega) p3 p4 p5 hm0 hm1) rfl hr ?_
  rintro v tl' h' tk ⟨e, x, tx, spot', t1', rest', t2', t3', n', rfl, hx0, hx1, hg, q1, q2, q3⟩ K _ _
  replace e := e.symm
  subst e
  obtain ⟨F', N'⟩ := K [(P, listOf #[.ref C, .int spot' t1', .int rest' t2', .int base t3'] n')] rfl (fun p hp => by rw [List.mem_singleton.mp hp]; exact hg)
  refine h x tx _ h' tk hx0 hx1 ⟨spot', rest', base, t1', t2', t3', n', rfl, q1, by omega, q3, p4, p5⟩ F' ?_
  rw [eg]
  exact fun p hp => N' p (by
    rcases List.mem_append.mp hp with q | q
    · exact List.mem_append_right _ (List.mem_append_left _ q)
    · rcases List.mem_cons.mp q with q | q
      · rw [q]; exact List.mem_append_left _ (List.mem_cons_self ..)
      · exact List.mem_append_right _ (List.mem_append_right _ q))
end

theorem row_j_33 : True := by
  (k_with "call ref" => ((with_reducible show wpAny _ _ (call (Value.ref 502) [Value.ref _, Value.int _ _]) _ _ _); (refine' draw_K (by k_asm) (by k_asm) (by k_asm) (by k_asm) ?U_q (by k_extra "mine obj") (by assumption) (by assumption) (by omega) (by omega) (by omega) (by k_extra "mine room") ?_); (case U_q => k_updF); (intro _ _ _ _ _ _ _ _ _ N_r); (try dsimp only at N_r); revert N_r; intro _))
  trivial
theorem name_ref {g : Heap} {L : Addr} {h : Heap} {m : Str → Option Value} (_F : Fr g L h m) (x : Str) (e : ∃ a, m x = some (.ref a)) : ∃ a, some (Value.ref a) = m x := let ⟨a, q⟩ := e; ⟨a, q.symm⟩
theorem pick3 {g : Heap} {L : Addr} {h : Heap} {a b c d : Addr × Obj} {tl : Wd} (N : News g L h (a :: b :: c :: d :: tl)) : News g L h ([d, c, b] ++ tl) := fun p hp => N p (by
  rcases List.mem_append.mp hp with q | q
  · simp only [List.mem_cons, List.not_mem_nil, or_false] at q ⊢
    rcases q with q | q | q <;> simp [q]
  · exact List.mem_cons_of_mem _ (List.mem_cons_of_mem _ (List.mem_cons_of_mem _ (List.mem_cons_of_mem _ q))))
theorem pyIter_rangeF {w : World} {A : Around} {s : Shared} {r : Addr} {a b : Int} {t u v : Tok} {Q E : Value → Shared → Prop} (hr : IsRange s.heap r a b 1 t u v) (h1 : -1000000 ≤ a) (h2 : a ≤ 1000000) (h3 : -1000000 ≤ b) (h4 : b ≤ 1000000)
    (h : Q (.ref s.heap.objs.size) { s with heap := s.heap.push { cls := .type "range_iterator", data := .fields #[rawInt a, rawInt ((b - a).toNat : Nat), rawInt 1] } }) : wpAny (model PW w) A (pyIter (.ref r)) Q E s := by
  refine wpAny_pyIter_range (t := t) (u := u) (v := v) hr (range_small h1 h2 h3 h4) ?_
  rw [range_size]
  exact h
theorem apart3 {P Lf Fd : Addr} {o a b : Obj} {tl : Wd} (h1 : ∀ p ∈ tl, p.1 ≠ P) (h2 : P < Lf ∧ AllLt Lf tl) (h3 : Lf < Fd ∧ P < Fd ∧ AllLt Fd tl) : ∀ p ∈ [(P, o), (Lf, a), (Fd, b)], ∀ q ∈ tl, q.1 ≠ p.1 := by
  intro p hp q hq
  simp only [List.mem_cons, List.not_mem_nil, or_false] at hp
  rcases hp with rfl | rfl | rfl
  · exact h1 q hq
  · exact Nat.ne_of_lt (allLt_out h2.2 q hq)
  · exact Nat.ne_of_lt (allLt_out h3.2.2 q hq)
theorem perm_pop {fs ls : List Int} {k : Nat} (h : k < ls.length) : ((fs ++ [ls.getD k 0]) ++ ls.eraseIdx k).Perm (fs ++ ls) := by
  rw [List.append_assoc]
  refine List.Perm.append_left _ ?_
  rw [show ls.getD k 0 = ls[k] by simp [List.getD, h]]
  induction ls generalizing k with
  | nil => simp at h
  | cons a r ih =>
    cases k with
    | zero => exact List.Perm.refl _
    | succ k =>
      have h' : k < r.length := by simpa using h
      show (r[k] :: a :: r.eraseIdx k).Perm (a :: r)
      exact (List.Perm.swap ..).trans ((ih h').cons a)
inductive OrdJ (P Lf Fd C : Addr) (k : Nat) (many : Int) (i : Nat) (m : Str → Option Value) (st : Wd) : Prop
  | mk : ∀ o' vl vf ls fs nl nf k', st = [(P, o'), (Lf, listOf vl.toArray nl), (Fd, listOf vf.toArray nf)] → Pen C k' o' → k' ≤ k + i → IntsAre vl ls → IntsAre vf fs → vl.length + i = (many - 1).toNat → (fs ++ ls).Perm (0 :: rangeKs 1 (many - 1).toNat) → fs.head? = some 0 → vf.length = 1 + i →
    m "pen" = some (.ref P) → m "left" = some (.ref Lf) → m "found" = some (.ref Fd) → OrdJ P Lf Fd C k many i m st
inductive Qorder_spec (tl : Wd) (P : Addr) (C : Addr) (k : Nat) (many : Int) (r : Value) (tl' : Wd) (h' : Heap) : Prop
  | mk : ∀ d vf fs nf o' k', r = .ref d → tl' = (d, listOf vf.toArray nf) :: tl → IntsAre vf fs → h'.get? P = some o' → Pen C k' o' → k' ≤ k + 4 → fs.head? = some 0 → fs.Perm (0 :: rangeKs 1 (many - 1).toNat) → Qorder_spec tl P C k many r tl' h'
theorem order_spec {w : World} {B : Heap} {s : Shared} {tl : Wd} {P C : Addr} {o : Obj} {k : Nat} {many : Int} {tm : Tok} (W : Wo w B ([(P, o)] ++ tl) s.heap) (hC : IsCells tl C) (hP : Pen C k o) (hne : ∀ p ∈ tl, p.1 ≠ P) (hCP : C ≠ P) (hk : k ≤ 900000) (h1 : 1 ≤ many) (h2 : many ≤ 4) :
    Spec w 2 523 ⟨[.ref P, .int many tm], []⟩ s [P] tl (Qorder_spec tl P C k many) := by
  intro dp un fr gd R hR hret
  k_extra "mine enter"
  k_extra "mine steps"
  rename Fr _ _ _ _ => F3
  rename News _ _ _ _ => N3
  obtain ⟨Lf, e9⟩ := name_ref F3 "left" ⟨_, rfl⟩
  replace e9 := (show some (Value.ref Lf) = some (Value.ref _) from e9)
  have e8 := Value.ref.inj (Option.some.inj e9)
  clear e9
  subst e8
  obtain ⟨Fd, e9⟩ := name_ref F3 "found" ⟨_, rfl⟩
  replace e9 := (show some (Value.ref Fd) = some (Value.ref _) from e9)
  have e8 := Value.ref.inj (Option.some.inj e9)
  clear e9
  subst e8
  have l2 := (show P < Lf ∧ AllLt Lf tl by assumption)
  have l3 := (show Lf < Fd ∧ P < Fd ∧ AllLt Fd tl by assumption)
  refine for_K F3 ?_
  k_extra "mine steps"

  refine pyIter_rangeF (by assumption) (by first | decide +kernel | omega) (by first | decide +kernel | omega) (by first | decide +kernel | omega) (by first | decide +kernel | omega) ?_
  rename Fr _ _ _ _ => F4
  rename News _ _ _ _ => N4
  rename IntsAre _ _ => hI
  refine ⟨_, _, _, _, tl, OrdJ P Lf Fd C k many, for_range rfl F4 (pick3 N4), ⟨o, _, [.int 0 _], _, [0], _, _, k, rfl, hP, Nat.le_refl _, hI, .cons _ _ .nil, ?_, ?_, rfl, rfl, rfl, rfl, rfl⟩, apart3 hne l2 l3, ?_, ?_⟩
  · rw [hI.length, rangeKs_length]; rfl
  · exact List.Perm.refl _
  · clear N4 F4
    rintro led i v m₁ st₁ h₁ tk₁ hi ⟨tv, rfl⟩ ⟨o', vl, vf, ls, fs, nl, nf, k', rfl, hP', hk', hI1, hI2, hl, hperm, hhd, hvf, hm1, hm2, hm3⟩ hbase hap F5 N5
    have hC' := hC.mono hbase
    have a1 : ∀ q ∈ led, q.1 ≠ P := fun q hq => hap (P, o') (by simp) q hq
    have a2 : ∀ q ∈ led, q.1 ≠ Lf := fun q hq => hap (Lf, listOf vl.toArray nl) (by simp) q hq
    have a3 : ∀ q ∈ led, q.1 ≠ Fd := fun q hq => hap (Fd, listOf vf.toArray nf) (by simp) q hq
    refine blk_assign F5 N5 rfl rfl ?_
    intro h6 F6 N6
    clear F5 N5
    dsimp only [List.cons_append, List.nil_append] at N6
    k_extra "mine steps"
    rename Fr _ _ _ _ => F9
    rename News _ _ _ _ => N9
    rename Pen C (_ + 1) _ => hP9
    rename IntsAre (List.eraseIdx _ _) _ => hI9
    rename (List.eraseIdx _ _).length + 1 = _ => hl9
    have hlen : ls.length = vl.length := hI1.length.symm
    refine ⟨_, _, _, [(P, _), (Lf, listOf _ _), (Fd, listOf _ _)], rfl, F9, N9, fun p hp => ?_, _, _, _, _, _, _, _, _, rfl, hP9, by omega, hI9, hI2.append (.cons _ _ .nil), by omega, (perm_pop (by omega)).trans hperm, by rw [List.head?_append, hhd]; rfl, by rw [List.length_append, hvf]; simp; omega, (if_neg (by decide)).trans hm1, (if_neg (by decide)).trans hm2, (if_neg (by decide)).trans hm3⟩
    simp only [List.mem_cons, List.not_mem_nil, or_false] at hp
    rcases hp with rfl | rfl | rfl
    · exact a1
    · exact a2
    · exact a3
  · rintro h' tk m' st' F5 N5 hap ⟨o', vl, vf, ls, fs, nl, nf, k', rfl, hP', hk', hI1, hI2, hl, hperm, hhd, hvf, hm1, hm2, hm3⟩
    clear N4 F4
    k_extra "mine steps"
    have hv0 : vl = [] := List.length_eq_zero_iff.mp (by omega)
    have hl0 : ls = [] := List.length_eq_zero_iff.mp (by rw [← hI1.length, hv0]; rfl)
    subst hl0
    rw [List.append_nil] at hperm
    obtain ⟨st, gr, ho⟩ := leaveG (own := [(P, o)]) (own' := [(P, o')]) (tl := tl) (tl' := (Fd, listOf vf.toArray nf) :: tl) W.at_ (by assumption) F5 (fun p hp => N5 p (by
      rcases List.mem_cons.mp hp with rfl | hp
      · simp
      rcases List.mem_cons.mp hp with rfl | hp
      · simp
      · exact List.mem_append_right _ hp)) (fun p hp => List.mem_cons_of_mem _ hp) (fun p hp q => by
        rcases List.mem_cons.mp hp with rfl | hp
        · exact absurd (List.mem_singleton.mp q) (Nat.ne_of_gt l3.2.1)
        · exact hne p hp (List.mem_singleton.mp q))
    exact hret _ _ _ _ st gr ⟨Fd, vf, fs, nf, o', k', rfl, rfl, hI2, ho _ (List.mem_singleton.mpr rfl), hP', by omega, hhd, hperm⟩

section
variable {w : World} {A : Around} {s : Shared} {h₀ : Heap} {L : Addr} {m : Str → Option Value} {st base : Wd}
theorem enum_for {elts : List PySem.Expr} {k : Nat} {pos : Pos} {l : Addr} {vs : List Value} {nl : Nat} {K : Value → Shared → Prop} (hh : A.handled = none) (F : Fr h₀ L s.heap m) (N : News h₀ L s.heap (st ++ base)) (hm : (l, listOf vs.toArray nl) ∈ base) (hap : ∀ p ∈ st, ∀ q ∈ base, q.1 ≠ p.1)
    (h : ∀ it h', ForSrc PW w A (.Tuple elts k pos) h₀ L m st base vs.length (fun i v h => ∃ T x t, v = .ref T ∧ vs[i]? = some x ∧ h.IsTuple T #[.int i t, x]) it { s with heap := h' } → K it { s with heap := h' }) :
    wpAny (model PW w) A (call (.type "enumerate") [.ref l]) (fun xv s₁ => wpAny (model PW w) A (pyIter xv) (fun it s₂ => K it s₂) NoE s₁) NoE s := by
  have hl := N _ (List.mem_append_right _ hm)
  have hlt : l < s.heap.objs.size := Heap.lt_size hl.1
  have hLlt := F.ns.lt
  refine call_enumerate_list (News.isList N (List.mem_append_right _ hm)) fun h' he hit hsz hk => ?_
  refine wpAny_pyIter_enum (s := { s with heap := h' }) he ?_
  have none0 : ∀ a, s.heap.objs.size ≤ a → h₀.get? a = none := fun a ha => by
    cases e : h₀.get? a with
    | none => rfl
    | some o => exact absurd (Heap.lt_size (F.keep _ _ e)) (Nat.not_lt.mpr ha)
  have W := (WalksT.enumerate (prog := PW) (w := w) hh (s.heap.objs.size + 1) s.heap.objs.size l (Nat.succ_ne_self _) (Nat.ne_of_lt (Nat.lt_succ_of_lt hlt)) (Nat.ne_of_lt hlt) vs.toArray).toU
  have hL' : L ∉ [s.heap.objs.size + 1, s.heap.objs.size, l] := fun hb => by
    simp only [List.mem_cons, List.not_mem_nil, or_false] at hb
    rcases hb with e | e | e
    · exact Nat.lt_irrefl _ (Nat.lt_of_lt_of_le hLlt (e ▸ Nat.le_succ _))
    · exact Nat.lt_irrefl _ (e ▸ hLlt)
    · exact hl.2.1 e.symm
  have K0 := KTurns.ofWalksU (elts := elts) (k := k) (pos := pos) W
  rw [List.size_toArray] at K0
  refine h _ h' ⟨s.heap.objs.size + 1, [s.heap.objs.size + 1, s.heap.objs.size, l], [s.heap.objs.size + 1, s.heap.objs.size], _, fun i h => (∃ old, IsEnum h (s.heap.objs.size + 1) s.heap.objs.size i old) ∧ h.IsListIter s.heap.objs.size l i ∧ h.IsList l vs.toArray, rfl, ⟨K0.sub, K0.frame, K0.item, fun i v s Q E hm hQ => K0.go i v s Q E hm fun h' hP => hQ h' ?_, K0.done⟩, fun i s Q E st q => W.self i s Q E st q, ?_, hL', ?_, ?_, ?_, ⟨⟨_, he⟩, hit, (show h'.IsList l vs.toArray from ⟨_, hk _ _ hl.1, rfl, nl, rfl⟩)⟩, ⟨F.ns.at' fun o e => hk _ _ e, fun b o e => hk _ _ (F.keep b o e), F.above⟩, fun p hp => ⟨hk _ _ (N p hp).1, (N p hp).2⟩⟩
  · obtain ⟨T, vals, rfl, ⟨t, x, hx, rfl⟩, hT⟩ := hP
    exact ⟨T, x, t, rfl, by simpa using hx, hT⟩
  · rintro i h ⟨⟨old, he⟩, ⟨o, e, _⟩, ⟨o2, e2, _⟩⟩ b hb
    simp only [List.mem_cons, List.not_mem_nil, or_false] at hb
    rcases hb with rfl | rfl | rfl
    · exact ⟨_, he⟩
    · exact ⟨_, e⟩
    · exact ⟨_, e2⟩
  · intro b hb
    simp only [List.mem_cons, List.not_mem_nil, or_false] at hb
    rcases hb with rfl | rfl
    · exact none0 _ (Nat.le_succ _)
    · exact none0 _ (Nat.le_refl _)
  · intro p hp hb
    have := Heap.lt_size (N p (List.mem_append_right _ hp)).1
    simp only [List.mem_cons, List.not_mem_nil, or_false] at hb
    rcases hb with e | e
    · rw [e] at this; exact Nat.lt_irrefl _ (Nat.lt_of_succ_lt this)
    · rw [e] at this; exact Nat.lt_irrefl _ this
  · intro p hp hb
    have := Heap.lt_size (N p (List.mem_append_left _ hp)).1
    simp only [List.mem_cons, List.not_mem_nil, or_false] at hb
    rcases hb with e | e | e
    · rw [e] at this; exact Nat.lt_irrefl _ (Nat.lt_of_succ_lt this)
    · rw [e] at this; exact Nat.lt_irrefl _ this
    · exact hap p hp _ hm e.symm
end
theorem enum_forAt {w : World} {A : Around} {s : Shared} {h₀ : Heap} {env : Env} {m : Str → Option Value} {st base : Wd} {elts : List PySem.Expr} {k : Nat} {pos : Pos} {body : List Stmt} {Q : Flow → Shared → Prop} {l : Addr} {vs : List Value} {nl : Nat} (hh : A.handled = none) (F : Fr h₀ env.locals s.heap m) (N : News h₀ env.locals s.heap (st ++ base)) (hm : (l, listOf vs.toArray nl) ∈ base) (hap : ∀ p ∈ st, ∀ q ∈ base, q.1 ≠ p.1)
    (h : ∀ it h', ForSrc PW w A (.Tuple elts k pos) h₀ env.locals m st base vs.length (fun i v h => ∃ T x t, v = .ref T ∧ vs[i]? = some x ∧ h.IsTuple T #[.int i t, x]) it { s with heap := h' } → ForAt PW w A h₀ env (.Tuple elts k pos) body Q it { s with heap := h' }) :
    wpAny (model PW w) A (call (.type "enumerate") [.ref l]) (fun xv s₁ => wpAny (model PW w) A (pyIter xv) (fun it s₂ => ForAt PW w A h₀ env (.Tuple elts k pos) body Q it s₂) NoE s₁) NoE s := enum_for hh F N hm hap h

def clsN (ns os : List Int) (g : Int) : Int := if 0 < ns.getD g.toNat 0 then (if ns.getD g.toNat 0 < os.length then ((os.idxOf (ns.getD g.toNat 0) : Nat) : Int) else ns.getD g.toNat 0) else 0
def clsI (ns os : List Int) (i : Nat) (g : Int) : Int := if 0 ≤ g ∧ g < i then clsN ns os g else 0
theorem valueAt_put {K : Type} [DecidableEq K] (kvs : List (K × Value)) (k : K) (v : Value) (g : K) : valueAt (stored kvs k v) g = if g = k then some v else valueAt kvs g := by
  unfold stored
  split
  · rename_i h
    unfold valueAt
    induction kvs with
    | nil => simp at h
    | cons a r ih =>
      by_cases ha : a.1 = k
      · by_cases hg : g = k
        · subst hg; simp [ha]
        · have h1 : ¬ a.1 = g := fun q => hg (q.symm.trans ha)
          by_cases hr : (r.any fun kv => decide (kv.1 = k)) = true
          · have := ih hr
            simp only [hg, if_false] at this ⊢
            simpa [ha, h1, Ne.symm hg, show ¬ k = g from fun q => hg q.symm] using this
          · have hno : r.map (fun kv => if kv.1 = k then (kv.1, v) else kv) = r := by
              conv => rhs; rw [← List.map_id r]
              refine List.map_congr_left fun x hx => ?_
              rw [if_neg]
              · rfl
              · intro q; exact hr (List.any_eq_true.mpr ⟨x, hx, by simpa using q⟩)
            simp only [hg, if_false]
            rw [List.map_cons, hno]
            simp [ha, show ¬ k = g from fun q => hg q.symm]
      · have hr : (r.any fun kv => decide (kv.1 = k)) = true := by simpa [ha] using h
        have := ih hr
        by_cases hag : a.1 = g
        · have hg : ¬ g = k := fun q => ha (hag.trans q)
          simp [hag, hg]
        · simpa [ha, hag] using this
  · rename_i h
    unfold valueAt
    rw [List.find?_append]
    by_cases hg : g = k
    · subst hg
      have : kvs.find? (fun kv => decide (kv.1 = g)) = none := by
        rw [List.find?_eq_none]; intro x hx q; exact h (List.any_eq_true.mpr ⟨x, hx, q⟩)
      rw [this]; simp
    · simp [hg, show ¬ k = g from fun q => hg q.symm]
theorem cls_put {ns os : List Int} {i : Nat} {kvs : List (Int × Value)} {t : Tok} (hv : ∀ g, match valueAt kvs g with | none => clsI ns os i g = 0 | some v => ∃ t, v = .int (clsI ns os i g) t) (c : Int) (hc : c = clsN ns os i) :
    ∀ g, match valueAt (stored kvs (i : Int) (.int c t)) g with | none => clsI ns os (i + 1) g = 0 | some v => ∃ t, v = .int (clsI ns os (i + 1) g) t := by
  intro g
  rw [valueAt_put]
  by_cases hg : g = (i : Int)
  · subst hg
    rw [if_pos rfl]
    refine ⟨t, ?_⟩
    unfold clsI
    rw [if_pos (by omega), hc]
  · rw [if_neg hg]
    have e : clsI ns os (i + 1) g = clsI ns os i g := by
      unfold clsI
      by_cases h : 0 ≤ g ∧ g < (i : Int)
      · rw [if_pos h, if_pos (by omega)]
      · rw [if_neg h, if_neg (by omega)]
    rw [e]; exact hv g
theorem cls_skip {ns os : List Int} {i : Nat} {kvs : List (Int × Value)} (hv : ∀ g, match valueAt kvs g with | none => clsI ns os i g = 0 | some v => ∃ t, v = .int (clsI ns os i g) t) (hc : clsN ns os i = 0) :
    ∀ g, match valueAt kvs g with | none => clsI ns os (i + 1) g = 0 | some v => ∃ t, v = .int (clsI ns os (i + 1) g) t := by
  intro g
  have e : clsI ns os (i + 1) g = clsI ns os i g := by
    unfold clsI
    by_cases h : 0 ≤ g ∧ g < (i : Int)
    · rw [if_pos h, if_pos (by omega)]
    · rw [if_neg h]
      by_cases hg : g = (i : Int)
      · subst hg; rw [if_pos (by omega), hc]
      · rw [if_neg (by omega)]
  rw [e]; exact hv g
section
variable {w : World} {A : Around} {s : Shared} {h₀ : Heap} {L D : Addr} {m : Str → Option Value} {led : Wd}
theorem index_K {vs : List Value} {ns : List Int} {c : Int} {t : Tok} {n : Nat} {Q E : Value → Shared → Prop} (N : News h₀ L s.heap led) (hm : (D, listOf vs.toArray n) ∈ led) (hi : IntsAre vs ns) (hlay : PyData.layable0 (.list (ns.map .int)) = true)
    (hall : ∀ c : Int, 0 < c → c < ns.length → c ∈ ns) (h0 : 0 < c) (h1 : c < ns.length) (h : ∀ tk, Q (.int (ns.idxOf c : Nat) tk) { s with toks := s.toks + 1 }) : wpAny (model PW w) A (call (.builtin "list.index") [.ref D, .int c t]) Q E s :=
  index_list_ints (News.isList N hm) hi hlay (hall c h0 h1) (h _)
end
theorem row_j_34 : True := by
  (k_with "getMethod ref" => (k_here; (with_reducible show wpAny _ _ (getMethod (Value.ref _) (Str.ofString "index") _) _ _ _); k_dflt (refine' kl_method ?N_q ?m_q PySem.F.slot_list_index PySem.F.type_list_index ?_; (case N_q => k_asm); (case m_q => k_mem))))
  (k_with "call builtin:list.index" => (k_here; k_dflt (refine' index_K ?N_q ?m_q ?I_q ?l_q ?a_q ?h0_q ?h1_q ?_; (case N_q => k_asm); (case m_q => k_mem); (case I_q => assumption); (case l_q => assumption); (case a_q => assumption); (case h0_q => omega); (case h1_q => omega)); (intro _)))
  (k_with "setItem ref int" => (k_here; k_dflt (refine' kda_set (knd := PySem.intKind PW _) ?F_q ?N_q ?U_q ?d_q (intKind_is _ _ _ _) ?z_q ?_; (case F_q => k_asm); (case N_q => k_asm); (case U_q => k_updF); (case d_q => assumption); (case z_q => (rw [sizeLine_eq]; omega))); (intro _ _ _ N_r); (try dsimp only at N_r); revert N_r; (intro _ _)))
  trivial
inductive ClsJ (w : World) (dA oA : Addr) (ns os : List Int) (i : Nat) (m : Str → Option Value) (st : Wd) : Prop
  | mk : ∀ o kvs, st = [(dA, o)] → o.IsDictOf (intKind PW w) kvs → kvs.length ≤ i → m "found" = some (.ref dA) → m "order" = some (.ref oA) → (∀ g, match valueAt kvs g with | none => clsI ns os i g = 0 | some v => ∃ t, v = .int (clsI ns os i g) t) → ClsJ w dA oA ns os i m st
inductive Qclasses_spec (w : World) (ns : List Int) (os : List Int) (r : Value) (tl' : Wd) (qh : Heap) : Prop
  | mk : ∀ x, r = .ref x → IsCls w tl' x (clsI ns os ns.length) → Qclasses_spec w ns os r tl' qh
theorem classes_spec {w : World} {B : Heap} {s : Shared} {tl : Wd} {nA oA : Addr} {nv ov : List Value} {ns os : List Int} {nn no : Nat} (W : Wo w B tl s.heap) (hn : (nA, listOf nv.toArray nn) ∈ tl) (ho : (oA, listOf ov.toArray no) ∈ tl) (hI : IntsAre nv ns) (hO : IntsAre ov os)
    (hl : ns.length ≤ 100) (hl2 : os.length ≤ 100) (hlay : PyData.layable0 (.list (os.map .int)) = true) (hall : ∀ c : Int, 0 < c → c < os.length → c ∈ os) :
    Spec w 3 530 ⟨[.ref nA, .ref oA], []⟩ s [] tl (Qclasses_spec w ns os) := by
  have hnl := hI.length
  have hol := hO.length
  intro dp un fr gd R hR hret
  k_extra "mine enter"
  k_extra "mine steps"
  rename Fr _ _ _ _ => F3
  rename News _ _ _ _ => N3
  obtain ⟨dA, e9⟩ := name_ref F3 "found" ⟨_, rfl⟩
  replace e9 := (show some (Value.ref dA) = some (Value.ref _) from e9)
  have e8 := Value.ref.inj (Option.some.inj e9)
  clear e9
  subst e8
  have l1 := (show ∀ p ∈ tl, p.1 < dA by assumption)
  have lo := (show (dA == sysModules) = false by assumption)
  refine for_K F3 ?_
  k_extra "mine steps"
  refine enum_forAt (st := [(dA, _)]) (base := tl) rfl F3 N3 hn (fun p hp q hq => by rw [List.mem_singleton.mp hp]; exact Nat.ne_of_lt (l1 q hq)) ?_
  intro it h2 src
  refine ⟨_, _, _, _, _, ClsJ w dA oA ns os, src, ⟨_, [], rfl, by assumption, Nat.le_refl _, rfl, rfl, fun g => ?_⟩, ?_, ?_, ?_⟩
  · show clsI ns os 0 g = 0
    unfold clsI; rw [if_neg (by omega)]
  · intro p hp q hq
    rw [List.mem_singleton.mp hp]; exact Nat.ne_of_lt (l1 q hq)
  · clear N3 F3
    rintro led i v m₁ st₁ h₁ tk₁ hi ⟨T, xv, tt, rfl, hxv, hT⟩ ⟨o, kvs, rfl, hD, hkl, hm1, hm2, hval⟩ hbase hap F5 N5
    have a1 : ∀ q ∈ led, q.1 ≠ dA := fun q hq => hap (dA, o) (by simp) q hq
    have ho' := hbase _ ho
    obtain ⟨t1, hx1⟩ := ints_at hI (k := i) (by omega)
    rw [hxv] at hx1
    obtain rfl := Option.some.inj hx1
    refine unpackN_ F5 N5 hT rfl rfl rfl ?_
    intro h6 F6 N6
    clear F5 N5
    dsimp only [List.cons_append, List.nil_append] at N6
    k_extra "mine steps"
    · rename Fr _ _ _ _ => F9
      rename News _ _ _ _ => N9
      have hsl := stored_length_le kvs
      refine ⟨_, _, _, [(dA, _)], rfl, F9, N9, fun p hp => by rw [List.mem_singleton.mp hp]; exact a1, _, _, rfl, by assumption, Nat.le_trans (hsl _ _) (by omega), (if_neg (by decide)).trans ((if_neg (by decide)).trans hm1), (if_neg (by decide)).trans ((if_neg (by decide)).trans hm2), cls_put hval _ ?_⟩
      unfold clsN
      simp only [Int.toNat_natCast]
      rw [if_pos (by assumption), if_pos (by omega)]
    · rename Fr _ _ _ _ => F9
      rename News _ _ _ _ => N9
      have hsl := stored_length_le kvs
      refine ⟨_, _, _, [(dA, _)], rfl, F9, N9, fun p hp => by rw [List.mem_singleton.mp hp]; exact a1, _, _, rfl, by assumption, Nat.le_trans (hsl _ _) (by omega), (if_neg (by decide)).trans ((if_neg (by decide)).trans hm1), (if_neg (by decide)).trans ((if_neg (by decide)).trans hm2), cls_put hval _ ?_⟩
      unfold clsN
      simp only [Int.toNat_natCast]
      rw [if_pos (by assumption), if_neg (by omega)]
    · rename Fr _ _ _ _ => F9
      rename News _ _ _ _ => N9
      refine ⟨_, _, _, [(dA, _)], rfl, F9, N9, fun p hp => by rw [List.mem_singleton.mp hp]; exact a1, _, _, rfl, hD, by omega, (if_neg (by decide)).trans ((if_neg (by decide)).trans hm1), (if_neg (by decide)).trans ((if_neg (by decide)).trans hm2), cls_skip hval ?_⟩
      unfold clsN
      simp only [Int.toNat_natCast]
      rw [if_neg (by assumption)]
  · rintro h' tk m' st' F5 N5 hap ⟨o, kvs, rfl, hD, hkl, hm1, hm2, hval⟩
    clear N3 F3
    k_extra "mine steps"
    rename Fr _ _ _ _ => F9
    rename News _ _ _ _ => N9
    obtain ⟨st, gr, ho9⟩ := leaveG (own := []) (own' := []) (tl := tl) W.at_ (by assumption) F9 N9 (fun p hp => by
      refine List.mem_cons_of_mem _ (List.mem_cons_of_mem _ ?_)
      exact List.mem_append_right _ hp) (fun _ _ h => nomatch h)
    refine hret _ _ _ _ st gr ⟨_, rfl, dA, o, kvs, ⟨_, _, _, List.mem_cons_of_mem _ (List.mem_cons_self ..), List.mem_cons_self .., by assumption⟩, by k_mem, hD, lo, ?_⟩
    rw [← hnl]; exact hval

theorem intsAre_of : ∀ {vs : List Value} {gs : List Int}, vs.length = gs.length → (∀ (j : Nat) (v : Value), vs[j]? = some v → ∃ (g : Int) (t : Tok), gs[j]? = some g ∧ v = .int g t) → IntsAre vs gs
  | [], [], _, _ => .nil
  | v :: vs, g :: gs, hl, h => by
    obtain ⟨g', t, e, ev⟩ := h 0 v rfl
    simp only [List.getElem?_cons_zero, Option.some.injEq] at e
    subst e ev
    exact .cons _ _ (intsAre_of (by simpa using hl) fun j u hu => by simpa using h (j + 1) u (by simpa using hu))
  | [], _ :: _, hl, _ => by simp at hl
  | _ :: _, [], hl, _ => by simp at hl
section
variable {w : World} {A : Around} {s : Shared} {h₀ : Heap} {L d : Addr} {m : Str → Option Value} {led : Wd} {o : Obj} {kvs : List (Int × Value)} {gs : List Int}
theorem sorted_dict_K {Q : Value → Shared → Prop} {E : Value → Shared → Prop} (hh : A.handled = none) (F : Fr h₀ L s.heap m) (N : News h₀ L s.heap led) (hd : (d, o) ∈ led) (hD : o.IsDictOf (intKind PW w) kvs) (hk : kvs.map (·.1) = gs) (hl : gs.length < 64) (hp : gs.Pairwise (· < ·)) (lo : (d == sysModules) = false)
    (h : ∀ D h' tk vs' c, Fr h₀ L h' m → News h₀ L h' ((D, listOf (List.toArray vs') c) :: led) → (∀ q ∈ led, q.1 < D) → IntsAre vs' gs → Q (.ref D) { s with heap := h', toks := tk }) :
    wpAny (model PW w) A (call (.builtin "sorted") [.ref d]) Q E s := by
  obtain ⟨ep, hat⟩ := (kda_dict N hd hD).dictAt
  have hkl : kvs.length = gs.length := by rw [← hk]; simp
  refine kdu_sorted (kdl_dict (knd := intKind PW w) (kvs := kvs) (ep := ep) lo) hh F N hat (by rw [sizeLine_eq]; omega) fun D h' tk vs F' N' l1 hvl hv => ?_
  have hI : IntsAre vs gs := intsAre_of (by omega) fun j v e => by
    obtain ⟨k, x, e1, e2⟩ := hv j v e
    obtain ⟨t, rfl⟩ := Value.isInt_shape e2
    exact ⟨k, t, by rw [← hk, List.getElem?_map, e1]; rfl, rfl⟩
  refine ksk_lsort (vs := vs) F' N' (fun o => Upd.head fun p hp => Nat.ne_of_lt (l1 p hp)) (by simp) hI hl fun vs' ns' c h'' F'' N'' hI' _ hperm hpw _ => ?_
  have e : ns' = gs := lks_uniq hperm hpw (hp.imp fun h => Int.le_of_lt h)
  subst e
  exact h D h'' tk vs' c F'' N'' l1 hI'
end
theorem row_j_35 : True := by
  (k_with "call builtin:sorted" => (k_here; (with_reducible show wpAny _ _ (call (Value.builtin "sorted") [Value.ref _]) _ _ _); k_dflt (refine' sorted_dict_K ?hh_q ?F_q ?N_q ?m_q ?D_q ?k_q ?l_q ?p_q ?lo_q ?_; (case hh_q => rfl); (case F_q => k_asm); (case N_q => k_asm); (case m_q => k_mem); (case D_q => assumption); (case k_q => assumption); (case l_q => omega); (case p_q => assumption); (case lo_q => assumption)); (intro _ _ _ _ _ _ _ _ _)))
  (k_with "call ref" => ((with_reducible show wpAny _ _ (call (Value.ref 424) [_]) _ _ _); (refine' use0 (args := ⟨[_], []⟩) (by k_asm) (by k_asm) (coverage_make (wo_of (by k_asm) (by k_asm) (by k_asm) (by k_asm)) _) (by k_extra "mine room") ?_); (rintro _ _ _ _ ⟨_, _, _, _, _, e1_r, e2_r, -, -, -, _, e3_r⟩ _ _ - -); (subst e1_r); (subst e2_r); (subst e3_r)))
  trivial
inductive CvfJ (w : World) (dA : Addr) (gs : List Int) (i : Nat) (m : Str → Option Value) (st : Wd) : Prop
  | mk : ∀ o kvs, st = [(dA, o)] → o.IsDictOf (intKind PW w) kvs → kvs.map (·.1) = gs.take i → m "found" = some (.ref dA) → CvfJ w dA gs i m st
inductive Qcovof_spec (gs : List Int) (r : Value) (tl' : Wd) (qh : Heap) : Prop
  | mk : ∀ x, r = .ref x → IsCov tl' x gs → Qcovof_spec gs r tl' qh
theorem covof_spec {w : World} {B : Heap} {s : Shared} {tl : Wd} {gA : Addr} {gv : List Value} {gs : List Int} {ng : Nat} (W : Wo w B tl s.heap) (hg : (gA, listOf gv.toArray ng) ∈ tl) (hI : IntsAre gv gs) (hl : gs.length ≤ 60) (hp : gs.Pairwise (· < ·)) :
    Spec w 3 435 ⟨[.ref gA], []⟩ s [] tl (Qcovof_spec gs) := by
  have hgl := hI.length
  intro dp un fr gd R hR hret
  k_extra "mine enter"
  k_extra "mine steps"
  rename Fr _ _ _ _ => F3
  rename News _ _ _ _ => N3
  obtain ⟨dA, e9⟩ := name_ref F3 "found" ⟨_, rfl⟩
  replace e9 := (show some (Value.ref dA) = some (Value.ref _) from e9)
  have e8 := Value.ref.inj (Option.some.inj e9)
  clear e9
  subst e8
  have l1 := (show ∀ p ∈ tl, p.1 < dA by assumption)
  have lo := (show (dA == sysModules) = false by assumption)
  have ap : ∀ o : Obj, ∀ p ∈ ([(dA, o)] : Wd), ∀ q ∈ tl, q.1 ≠ p.1 := fun o p hp q hq => by rw [List.mem_singleton.mp hp]; exact Nat.ne_of_lt (l1 q hq)
  refine for_K F3 ?_
  k_extra "mine steps"
  refine wpAny_pyIter_list (News.isList N3 (List.mem_cons_of_mem _ hg)) ?_
  refine ⟨_, _, _, _, _, CvfJ w dA gs, for_list (st := [(dA, _)]) (base := tl) rfl F3 N3 hg (ap _), ⟨_, [], rfl, by assumption, rfl, rfl⟩, ap _, ?_, ?_⟩
  · clear N3 F3
    rintro led i v m₁ st₁ h₁ tk₁ hi hP ⟨o, kvs, rfl, hD, hk, hm1⟩ hbase hap F5 N5
    have a1 : ∀ q ∈ led, q.1 ≠ dA := fun q hq => hap (dA, o) (by simp) q hq
    have hkl : kvs.length ≤ i := by have := congrArg List.length hk; simp at this; omega
    obtain ⟨t1, hx1⟩ := ints_at hI (k := i) (by omega)
    rw [show gv[i]? = some v from hP] at hx1
    obtain rfl := Option.some.inj hx1
    refine blk_assign F5 N5 rfl rfl ?_
    intro h6 F6 N6
    clear F5 N5
    dsimp only [List.cons_append, List.nil_append] at N6
    k_extra "mine steps"
    rename Fr _ _ _ _ => F9
    rename News _ _ _ _ => N9
    refine ⟨_, _, _, [(dA, _)], rfl, F9, N9, fun p hp => by rw [List.mem_singleton.mp hp]; exact a1, _, _, rfl, by assumption, ?_, (if_neg (by decide)).trans hm1⟩
    have hno : ¬ (kvs.any fun kv => decide (kv.1 = gs.getD i 0)) = true := fun q => by
      obtain ⟨x, hx, e⟩ := List.any_eq_true.mp q
      have hx' : x.1 ∈ gs.take i := by rw [← hk]; exact List.mem_map_of_mem hx
      obtain ⟨j, hj, ej⟩ := List.getElem_of_mem hx'
      have hj2 : j < i := by simp at hj; omega
      have hlt := List.pairwise_iff_getElem.mp hp j i (by omega) (by omega) hj2
      rw [List.getElem_take] at ej
      have e' : x.1 = gs.getD i 0 := of_decide_eq_true e
      rw [show gs.getD i 0 = gs[i]'(by omega) by simp [List.getD, show i < gs.length by omega]] at e'
      omega
    unfold stored
    rw [if_neg hno, List.map_append, hk, List.take_add_one]
    congr 1
    simp [List.getD, show i < gs.length by omega]
  · rintro h' tk m' st' F5 N5 hap ⟨o, kvs, rfl, hD, hk, hm1⟩
    clear N3 F3
    rw [hgl, List.take_length] at hk
    k_extra "mine steps"
    rename Fr _ _ _ _ => F9
    rename News _ _ _ _ => N9
    obtain ⟨st, gr, ho⟩ := leaveG (own := []) (own' := []) (tl := tl) W.at_ (by assumption) F9 N9 (fun p hp => by
      repeat (first | exact List.mem_append_right _ hp | refine List.mem_cons_of_mem _ ?_)) (fun _ _ h => nomatch h)
    exact hret _ _ _ _ st gr ⟨_, rfl, _, _, _, ⟨_, _, _, List.mem_cons_of_mem _ (List.mem_cons_self ..), List.mem_cons_self .., by assumption⟩, by k_mem, by assumption, hp, by omega⟩

inductive Qinfo16 (tl : Wd) (g : Int) (c : Int) (v : Value) (tl' : Wd) (qh : Heap) : Prop
  | mk : ∀ x dx es, v = .ref x → tl' = (dx, dictOf es 16) :: (x, instObj 52 dx) :: tl → Flds es (infoF ⟨g, c, 0, 0, 0, 0, false⟩) → (∀ p ∈ (x, instObj 52 dx) :: tl, p.1 ≠ dx) → (∀ p ∈ tl, p.1 < dx) → dx < x → Qinfo16 tl g c v tl' qh
theorem info16 {w : World} {B : Heap} {s : Shared} {tl : Wd} (W : Wo w B tl s.heap) (g c : Int) (t1 t2 t3 : Tok) :
    Spec w 2 52 ⟨[.int 65 t1, .int g t2, .int c t3], []⟩ s [] tl (Qinfo16 tl g c) := by
  intro dp un fr gd R hR hret
  refine make_of (r := 1) (P := fun x dx es n tl₀ => Flds es (infoF ⟨g, c, 0, 0, 0, 0, false⟩) ∧ n = 16 ∧ tl₀ = (x, instObj 52 dx) :: tl ∧ (∀ p ∈ tl, p.1 < dx) ∧ dx < x) W (by k_is) (by k_is) (by k_is) (fun x dx h' W' l1 l2 up => ?_) dp un fr gd R hR ?_
  · clear hret hR
    intro dp un fr gd R hR hret
    k_extra "mine enter"
    have l3 : ∀ p ∈ tl, p.1 ≠ dx := fun p hp => Nat.ne_of_lt (l1 p hp)
    k_lt2 l2
    have hF0 := Flds.nil
    k_extra "mine steps"
    obtain ⟨st, gr, ho⟩ := leave (own' := [(dx, _)]) (new := []) W'.at_ (by assumption) (by assumption) (by assumption) (by rfl) (fun _ h => nomatch h)
    exact hret _ _ _ _ st gr ⟨rfl, _, _, ho _ (List.mem_singleton.mpr rfl), by assumption, rfl, rfl, l1, l2⟩
  · rintro v tl' h' tk st gr ⟨x, dx, es, n, tl₀, rfl, rfl, m1, m2, m3, hF, rfl, rfl, q1, q2⟩
    exact hret _ _ _ _ st gr ⟨x, dx, es, rfl, rfl, hF, m3, q1, q2⟩
inductive Qitold_spec (tl : Wd) (i : II) (r : Value) (tl' : Wd) (qh : Heap) : Prop
  | mk : ∀ t t1 t2 t3 t4 t5 t6, r = .ref t → tl' = (t, tupOf [.int i.gl t1, .int i.cl t2, .int i.xa t3, .int i.ya t4, .int i.xo t5, .int i.yo t6] 0) :: tl → Qitold_spec tl i r tl' qh
theorem itold_spec {w : World} {B : Heap} {s : Shared} {tl : Wd} {x : Addr} {i : II} (W : Wo w B tl s.heap) (hx : IsInfo tl x i) :
    Spec w 1 49 ⟨[.ref x], []⟩ s [] tl (Qitold_spec tl i) := by
  obtain ⟨di, es, ni, hii, hdi, hF⟩ := hx
  intro dp un fr gd R hR hret
  k_extra "mine enter"
  k_extra "mine steps"
  rename Fr _ _ _ _ => F9
  rename News _ _ _ _ => N9
  obtain ⟨st, gr, ho⟩ := leaveG (own := []) (own' := []) (tl := tl) W.at_ (by assumption) F9 N9 (fun p hp => by repeat (first | exact hp | refine List.mem_cons_of_mem _ ?_)) (fun _ _ h => nomatch h)
  exact hret _ _ _ _ st gr ⟨_, _, _, _, _, _, _, rfl, rfl⟩
inductive Qscene_make (tl : Wd) (a : Value) (b : Value) (c : Value) (d : Value) (e : Value) (v : Value) (tl' : Wd) (qh : Heap) : Prop
  | mk : ∀ x p q, v = .ref x → (∀ p ∈ tl, p ∈ tl') → IsObj tl' x 158 [("buffer", a), ("gdef", b), ("lookups", c), ("lookup", d), ("mask", e), ("depth", p), ("steps", q)] → Qscene_make tl a b c d e v tl' qh
theorem scene_make {w : World} {B : Heap} {s : Shared} {tl : Wd} (W : Wo w B tl s.heap) (a b c d e : Value) :
    Spec w 2 158 ⟨[a, b, c, d, e], []⟩ s [] tl (Qscene_make tl a b c d e) := by
  intro dp un fr gd R hR hret
  refine make_of (r := 1) (P := fun x dx es n tl₀ => ∃ p q, Flds es [("buffer", a), ("gdef", b), ("lookups", c), ("lookup", d), ("mask", e), ("depth", p), ("steps", q)]) W (by k_is) (by k_is) (by k_is) (fun x dx h' W' l1 l2 up => ?_) dp un fr gd R hR ?_
  · clear hret hR
    intro dp un fr gd R hR hret
    k_extra "mine enter"
    have l3 : ∀ p ∈ tl, p.1 ≠ dx := fun p hp => Nat.ne_of_lt (l1 p hp)
    k_lt2 l2
    have hF0 := Flds.nil
    k_extra "mine steps"
    obtain ⟨st, gr, ho⟩ := leave (own' := [(dx, _)]) (new := []) W'.at_ (by assumption) (by rename Fr _ _ _ _ => F9; exact F9) (by rename News _ _ _ _ => N9; exact fun p hp => N9 p (by repeat (first | exact hp | refine List.mem_cons_of_mem _ ?_))) (by rfl) (fun _ h => nomatch h)
    refine' hret _ _ _ _ st gr ⟨rfl, _, _, ho _ (List.mem_singleton.mpr rfl), ?pp, ?qq, ?fin⟩
    case fin => assumption
  · rintro v tl' h' tk st gr ⟨x, dx, es, n, tl₀, rfl, rfl, m1, m2, m3, p, q, hF⟩
    exact hret _ _ _ _ st gr ⟨x, p, q, rfl, fun p hp => List.mem_cons_of_mem _ (m2 p hp), dx, es, n, List.mem_cons_of_mem _ m1, List.mem_cons_self .., hF⟩

/-- a row of Infos: the object, its dict's address, its entries -/
abbrev TR := List (Addr × Addr × List DictEntry)
def dictsT (T : TR) : Wd := T.map fun t => (t.2.1, dictOf t.2.2 16)
def instsT (T : TR) : Wd := T.map fun t => (t.1, instObj 52 t.2.1)
def GoodT (T : TR) (base : Wd) : Prop := (∀ p ∈ dictsT T, ∀ q ∈ instsT T ++ base, q.1 ≠ p.1) ∧ (T.map fun t => t.2.1).Nodup
def FldsT (T : TR) (is : List II) : Prop := T.length = is.length ∧ ∀ (j : Nat) t, T[j]? = some t → ∃ i, is[j]? = some i ∧ Flds t.2.2 (infoF i)
theorem mem_dictsT {T : TR} {p : Addr × Obj} : p ∈ dictsT T ↔ ∃ t ∈ T, p = (t.2.1, dictOf t.2.2 16) := by
  unfold dictsT; rw [List.mem_map]; exact ⟨fun ⟨t, a, b⟩ => ⟨t, a, b.symm⟩, fun ⟨t, a, b⟩ => ⟨t, a, b.symm⟩⟩
theorem mem_instsT {T : TR} {p : Addr × Obj} : p ∈ instsT T ↔ ∃ t ∈ T, p = (t.1, instObj 52 t.2.1) := by
  unfold instsT; rw [List.mem_map]; exact ⟨fun ⟨t, a, b⟩ => ⟨t, a, b.symm⟩, fun ⟨t, a, b⟩ => ⟨t, a, b.symm⟩⟩
/-- one more Info -/
theorem GoodT.snoc {T : TR} {base : Wd} {x d : Addr} {es : List DictEntry} (h : GoodT T base) (hd : ∀ p ∈ (x, instObj 52 d) :: (dictsT T ++ (instsT T ++ base)), p.1 ≠ d) (hx : ∀ p ∈ dictsT T, p.1 ≠ x) : GoodT (T ++ [(x, d, es)]) base := by
  refine ⟨fun p hp q hq => ?_, ?_⟩
  · obtain ⟨t, ht, rfl⟩ := mem_dictsT.mp hp
    rcases List.mem_append.mp ht with ht | ht
    · have hp' : (t.2.1, dictOf t.2.2 16) ∈ dictsT T := mem_dictsT.mpr ⟨t, ht, rfl⟩
      rcases List.mem_append.mp hq with hq | hq
      · obtain ⟨u, hu, rfl⟩ := mem_instsT.mp hq
        rcases List.mem_append.mp hu with hu | hu
        · exact h.1 _ hp' _ (List.mem_append_left _ (mem_instsT.mpr ⟨u, hu, rfl⟩))
        · rw [List.mem_singleton.mp hu]
          exact fun e => hx _ hp' e.symm
      · exact h.1 _ hp' _ (List.mem_append_right _ hq)
    · rw [List.mem_singleton.mp ht]
      rcases List.mem_append.mp hq with hq | hq
      · obtain ⟨u, hu, rfl⟩ := mem_instsT.mp hq
        rcases List.mem_append.mp hu with hu | hu
        · exact hd (u.1, instObj 52 u.2.1) (List.mem_cons_of_mem _ (List.mem_append_right _ (List.mem_append_left _ (mem_instsT.mpr ⟨u, hu, rfl⟩))))
        · rw [List.mem_singleton.mp hu]
          exact hd _ (List.mem_cons_self ..)
      · exact hd q (List.mem_cons_of_mem _ (List.mem_append_right _ (List.mem_append_right _ hq)))
  · rw [List.map_append, List.nodup_append]
    refine ⟨h.2, by simp, fun a ha b hb => ?_⟩
    obtain ⟨t, ht, rfl⟩ := List.mem_map.mp ha
    simp only [List.map_cons, List.map_nil, List.mem_singleton] at hb
    subst hb
    exact hd (t.2.1, dictOf t.2.2 16) (List.mem_cons_of_mem _ (List.mem_append_left _ (mem_dictsT.mpr ⟨t, ht, rfl⟩)))
theorem FldsT.snoc {T : TR} {is : List II} {x d : Addr} {es : List DictEntry} {i : II} (h : FldsT T is) (hF : Flds es (infoF i)) : FldsT (T ++ [(x, d, es)]) (is ++ [i]) := by
  refine ⟨by simp [h.1], fun j t e => ?_⟩
  rcases Nat.lt_or_ge j T.length with hj | hj
  · rw [List.getElem?_append_left hj] at e
    rw [List.getElem?_append_left (by rw [← h.1]; exact hj)]
    exact h.2 j t e
  · rw [List.getElem?_append_right hj] at e
    rw [List.getElem?_append_right (by rw [← h.1]; exact hj), ← h.1]
    have hj0 : j - T.length = 0 := by
      rcases Nat.eq_zero_or_pos (j - T.length) with h | h
      · exact h
      · rw [List.getElem?_eq_none (by simp; omega)] at e; cases e
    rw [hj0] at e ⊢
    simp at e
    subst e
    exact ⟨i, rfl, hF⟩
/-- writing two entries -/
def setT (T : TR) (k : Nat) (es : List DictEntry) : TR := T.modify k fun t => (t.1, t.2.1, es)
theorem setT_map1 (T : TR) (k : Nat) (es : List DictEntry) : instsT (setT T k es) = instsT T := by
  unfold instsT setT
  apply List.ext_getElem?
  intro j
  simp only [List.getElem?_map, List.getElem?_modify]
  cases T[j]? <;> simp
  split <;> exact ⟨rfl, rfl⟩
theorem setT_map2 (T : TR) (k : Nat) (es : List DictEntry) : (setT T k es).map (fun t => t.2.1) = T.map fun t => t.2.1 := by
  unfold setT
  apply List.ext_getElem?
  intro j
  simp only [List.getElem?_map, List.getElem?_modify]
  cases T[j]? <;> simp
  split <;> rfl
theorem setT_map0 (T : TR) (k : Nat) (es : List DictEntry) : (setT T k es).map (fun t => t.1) = T.map fun t => t.1 := by
  unfold setT
  apply List.ext_getElem?
  intro j
  simp only [List.getElem?_map, List.getElem?_modify]
  cases T[j]? <;> simp
  split <;> rfl
theorem instsT_map {T T' : TR} (h1 : T'.map (fun t => t.1) = T.map fun t => t.1) (h2 : T'.map (fun t => t.2.1) = T.map fun t => t.2.1) : instsT T' = instsT T := by
  unfold instsT
  apply List.ext_getElem?
  intro j
  have e1 := congrArg (fun l => l[j]?) h1
  have e2 := congrArg (fun l => l[j]?) h2
  simp only [List.getElem?_map] at e1 e2 ⊢
  cases h : T[j]? <;> cases h' : T'[j]? <;> simp_all
theorem FldsT.set {T : TR} {is : List II} {k : Nat} {es : List DictEntry} {i : II} (h : FldsT T is) (hF : Flds es (infoF i)) : FldsT (setT T k es) (is.set k i) := by
  refine ⟨by unfold setT; simp [h.1], fun j t e => ?_⟩
  unfold setT at e
  rw [List.getElem?_modify] at e
  rw [List.getElem?_set]
  by_cases hk : k = j
  · subst hk
    simp only [if_true] at e ⊢
    cases hT : T[k]? with
    | none => rw [hT] at e; cases e
    | some t0 =>
      rw [hT] at e
      simp at e
      subst e
      have hl : k < is.length := by rw [← h.1]; exact (List.getElem?_eq_some_iff.mp hT).1
      exact ⟨i, by simp [hl], hF⟩
  · simp only [hk, if_false] at e ⊢
    simp at e
    exact h.2 j t e

/-- the entry of a def with cells -/
theorem enterC {w : World} {B : Heap} {led : Wd} {s : Shared} {dp un : Nat} {fr : Option (List Env)} {gd : Option (List Code)} {r : Nat} {R : Result → Shared → Prop} {name qual : Str} {params : Arguments} {body : List Stmt} {scope : Scope}
    {dV kV doc pm cdv ct oc : Value} {an od : Option Addr} {osl : Array (Option Value)} {f : Addr} {args : Args} {binds : List (Str × Value)}
    (W : Wo w B led s.heap) (hr : Room r dp un) (h1 : 1 ≤ r)
    (ho : (hd.heap_1 w.params).lookup f = some ⟨oc, od, .func (fnOf name qual params body scope dV kV doc pm an cdv ct), osl⟩) (hcd : codeIn (hd.heap_1 w.params) cdv qual = true)
    (hbind : BindsTo s (fnOf name qual params body scope dV kV doc pm an cdv ct) args binds) (hkind : (binds.all fun y => scope.names.lookup y.1 == some .local || scope.names.lookup y.1 == some .cell) = true)
    (hnd : ((cellsFrom 0 scope.names []).map (·.1)).Nodup)
    (h : ∀ mean mg mb g L' h₁ tk cells, Fr g L' h₁ (bindL (envOfC qual scope L' f cdv).kindOf binds fun _ => none) → News g L' h₁ (cells ++ led) →
      CellsAre (bindC (envOfC qual scope L' f cdv).kindOf binds fun _ => none) (cellsFrom (L' + 1) scope.names []) cells → (hd.heap_1 w.params).In g → Top hd.view_1 (looseW hd.view_1 []) mean mg mb g →
      (∀ b o, s.heap.get? b = some o → b ∉ led.map (·.1) → g.get? b = some o) → (∀ p ∈ led, p.1 < L') →
      wpAny (model PW w) ((Ar dp un fr gd).deeper (envOfC qual scope L' f cdv)) (execs body (envOfC qual scope L' f cdv))
        (fun fl s' => R (.ok (.ret (match fl with | .ret v => v | _ => .none))) s') (fun _ _ => False)
        { s with heap := h₁, toks := tk })
    (hco : scope.isCoroutine = false := by rfl) (hgen : scope.isGenerator = false := by rfl) (hk : scope.kind = .function := by rfl) : codeAny (model PW w) (Ar dp un fr gd) (.call (.ref f) args) R s := by
  obtain ⟨mean, mg, mb, T⟩ := W.T
  have Ts := T.keeps W.keep
  have Xs := W.X.keeps W.keep
  refine codeAny_call_function (by have := hr.1; show dp < 1000; omega) (Xs _ _ ho) rfl hco hgen rfl (codeRec_of Xs hcd) (hbind _ _ _ _ ?_)
  refine wpAny_newFunctionEnv_cells hk (kindsX hkind _) fun env' he s' x => ?_
  subst he
  refine ⟨Ts.nolimit.keeps x.toInCall.keep, codeAny_func ?_⟩
  obtain ⟨h₁, tk, rfl, _⟩ := x.done
  have hk₁ := x.toInCall.keep
  obtain ⟨cells, NC, Y⟩ := Cl.news (h₀ := s.heap) (Nat.le_refl _) fun n c hm => ⟨x.cell n c (lookup_of_mem_nodup (cellsFrom_names scope.names 0 (s.heap.objs.size + 1) [] [] rfl ▸ hnd) hm), x.above n c hm⟩
  have offB : ∀ b o, B.get? b = some o → b ∉ led.map (·.1) := fun b o e m => by
    obtain ⟨p, hp, rfl⟩ := List.mem_map.mp m
    rw [W.off p hp] at e; cases e
  have kB : ∀ b o, B.get? b = some o → (hideAll s.heap (led.map (·.1))).get? b = some o := fun b o e => hideAll_get _ (W.keep b o e) (offB b o e)
  refine wpAny_mono (h mean mg mb (hideAll s.heap (led.map (·.1))) s.heap.objs.size h₁ tk cells ⟨x.toInCall.ns, fun b o e => hk₁ b o (of_hideAll _ e), Nat.le_of_eq (hideAll_size _ _)⟩ (fun p hp => ?_) Y
    (W.X.keeps kB) (T.keeps kB) (fun b o e n => hideAll_get _ e n) (fun p hp => Heap.lt_size (W.at_ p hp))) (fun _ _ x => x) fun _ _ x => x.elim
  rcases List.mem_append.mp hp with hp | hp
  · refine ⟨(NC p hp).1, (NC p hp).2.1, ?_⟩
    cases q : (hideAll s.heap (led.map (·.1))).get? p.1 with
    | none => rfl
    | some o => have := of_hideAll _ q; rw [(NC p hp).2.2] at this; cases this
  · exact ⟨hk₁ _ _ (W.at_ p hp), Nat.ne_of_lt (Heap.lt_size (W.at_ p hp)), hideAll_none _ (List.mem_map_of_mem hp)⟩
section
variable {w : World} {h₀ : Heap} {L : Addr} {m : Str → Option Value} {s : Shared}
/-- a call against tl; own lies beside it, what stands in D may change -/
theorem useS {r dp un : Nat} {fr : Option (List Env)} {gd : Option (List Code)} {f : Addr} {args : Args} {D : List Addr} {own tl : Wd} {Post : Value → Wd → Heap → Prop} {Q E : Value → Shared → Prop} (F : Fr h₀ L s.heap m) (N : News h₀ L s.heap (own ++ tl))
    (sp : Spec w r f args s D tl Post) (hD : ∀ b ∈ D, b ∈ own.map (·.1)) (hr : Room r dp un)
    (k : ∀ v tl' h' tk, Post v tl' h' → (∀ own' : Wd, own'.map (·.1) = own.map (·.1) → (∀ p ∈ own', (p ∈ own ∧ p.1 ∉ D) ∨ h'.get? p.1 = some p.2) → Fr h₀ L h' m ∧ News h₀ L h' (own' ++ tl')) → (∀ p ∈ tl, p ∈ tl') → (∀ p ∈ tl', p ∈ tl ∨ ∀ q ∈ own ++ tl, q.1 ≠ p.1) → Q v { s with heap := h', toks := tk }) :
    wpAny (model PW w) (Ar dp un fr gd) (call (.ref f) args.pos args.kw) Q E s := by
  refine wpAny_call (sp dp un fr gd _ hr fun v tl' h' tk st gr post => ?_)
  refine k v tl' h' tk post (fun own' ha ho => ?_) gr.sub fun p hp => (gr.fresh p hp).imp id fun h1 q hq e => ?_
  · refine after_K F N (st.mono hD) gr (fun p hp => ?_) ha
    rcases ho p hp with ⟨q1, q2⟩ | q
    · exact st _ _ q2 (N p (List.mem_append_left _ q1)).1
    · exact q
  · have := (N q hq).1
    rw [e, h1] at this; cases this
/-- a call that changes nothing that stood: all of it stays, tl grows -/
theorem useB {r dp un : Nat} {fr : Option (List Env)} {gd : Option (List Code)} {f : Addr} {args : Args} {led tl : Wd} {Post : Value → Wd → Heap → Prop} {Q E : Value → Shared → Prop} (F : Fr h₀ L s.heap m) (N : News h₀ L s.heap led)
    (sp : Spec w r f args s [] tl Post) (hs : ∀ p ∈ tl, p ∈ led) (hr : Room r dp un)
    (k : ∀ v tl' h' tk, Post v tl' h' → Fr h₀ L h' m → News h₀ L h' (tl' ++ led) → (∀ p ∈ tl, p ∈ tl') → (∀ p ∈ tl', p ∈ tl ∨ ∀ q ∈ led, q.1 ≠ p.1) → Q v { s with heap := h', toks := tk }) :
    wpAny (model PW w) (Ar dp un fr gd) (call (.ref f) args.pos args.kw) Q E s := by
  have N1 : News h₀ L s.heap (led ++ tl) := fun p hp => by
    rcases List.mem_append.mp hp with q | q
    · exact N p q
    · exact N p (hs p q)
  refine useS (D := []) F N1 sp (fun _ h => nomatch h) hr fun v tl' h' tk post K hs' hf => ?_
  obtain ⟨F', N'⟩ := K led rfl fun p hp => .inl ⟨hp, fun h => nomatch h⟩
  refine k v tl' h' tk post F' (fun p hp => N' p ?_) hs' fun p hp => (hf p hp).imp id fun h q hq => h q (List.mem_append_left _ hq)
  rcases List.mem_append.mp hp with q | q
  · exact List.mem_append_right _ q
  · exact List.mem_append_left _ q
end
theorem Spec.weaken {w : World} {r r' : Nat} {f : Addr} {args : Args} {s : Shared} {D D' : List Addr} {tl : Wd} {Post Post' : Value → Wd → Heap → Prop} (sp : Spec w r f args s D tl Post) (hr : r ≤ r') (hD : ∀ b ∈ D, b ∈ D') (hP : ∀ v tl' h', Step D s.heap h' → Grows tl tl' s.heap h' → Post v tl' h' → Post' v tl' h') : Spec w r' f args s D' tl Post' :=
  fun dp un fr gd R hR hret => sp dp un fr gd R (by unfold Room at *; omega) fun v tl' h' tk st gr post => hret v tl' h' tk (st.mono hD) gr (hP v tl' h' st gr post)
/-- what tl' has over tl is new against led -/
theorem fresh_two : True := trivial
def FreshOf (tl tl' led : Wd) : Prop := ∀ p ∈ tl', p ∈ tl ∨ ∀ q ∈ led, q.1 ≠ p.1
theorem FreshOf.trans {tl tl' tl'' led x : Wd} (a : FreshOf tl tl' led) (b : FreshOf tl' tl'' (x ++ led)) : FreshOf tl tl'' led := fun p hp => by
  rcases b p hp with h | h
  · exact a p h
  · exact .inr fun q hq => h q (List.mem_append_right _ hq)
theorem FreshOf.cons {tl tl' led x : Wd} {D : Addr} {o : Obj} (a : FreshOf tl tl' led) (l : ∀ p ∈ x ++ led, p.1 < D) : FreshOf tl ((D, o) :: tl') led := fun p hp => by
  rcases List.mem_cons.mp hp with rfl | hp
  · exact .inr fun q hq => Nat.ne_of_lt (l q (List.mem_append_right _ hq))
  · exact a p hp
theorem FreshOf.mono {tl tl' led led' : Wd} (a : FreshOf tl tl' led) (h : ∀ p ∈ led', p ∈ led) : FreshOf tl tl' led' := fun p hp => (a p hp).imp id fun f q hq => f q (h q hq)
theorem FreshOf.refl {tl led : Wd} : FreshOf tl tl led := fun _ h => .inl h
theorem FreshOf.cons' {tl tl' led : Wd} {D : Addr} {o : Obj} (a : FreshOf tl tl' led) (l : ∀ p ∈ led, p.1 < D) : FreshOf tl ((D, o) :: tl') led := fun p hp => by
  rcases List.mem_cons.mp hp with rfl | hp
  · exact .inr fun q hq => Nat.ne_of_lt (l q hq)
  · exact a p hp
/-- a call that changes nothing that stood; own lies beside -/
theorem useO {w : World} {h₀ : Heap} {L : Addr} {m : Str → Option Value} {s : Shared} {r dp un : Nat} {fr : Option (List Env)} {gd : Option (List Code)} {f : Addr} {args : Args} {own tl : Wd} {Post : Value → Wd → Heap → Prop} {Q E : Value → Shared → Prop} (F : Fr h₀ L s.heap m) (N : News h₀ L s.heap (own ++ tl))
    (sp : Spec w r f args s [] tl Post) (hr : Room r dp un)
    (k : ∀ v tl' h' tk, Post v tl' h' → Fr h₀ L h' m → News h₀ L h' (own ++ tl') → (∀ p ∈ tl, p ∈ tl') → FreshOf tl tl' own → Q v { s with heap := h', toks := tk }) :
    wpAny (model PW w) (Ar dp un fr gd) (call (.ref f) args.pos args.kw) Q E s :=
  useS (D := []) F N sp (fun _ h => nomatch h) hr fun v tl' h' tk post K hs' hf => by
    obtain ⟨F', N'⟩ := K own rfl fun p hp => .inl ⟨hp, fun h => nomatch h⟩
    exact k v tl' h' tk post F' N' hs' fun p hp => (hf p hp).imp id fun h q hq => h q (List.mem_append_left _ hq)
theorem apart_fresh {own tl tl' : Wd} (a : ∀ p ∈ own, ∀ q ∈ tl, q.1 ≠ p.1) (f : FreshOf tl tl' own) : ∀ p ∈ own, ∀ q ∈ tl', q.1 ≠ p.1 := fun p hp q hq => by
  rcases f q hq with h | h
  · exact a p hp q h
  · exact Ne.symm (h p hp)
theorem stash {g : Heap} {L : Addr} {h : Heap} {a : Addr × Obj} {own tl : Wd} (N : News g L h (a :: (own ++ tl))) : News g L h (own ++ (a :: tl)) := fun p hp => N p (by
  rcases List.mem_append.mp hp with q | q
  · exact List.mem_cons_of_mem _ (List.mem_append_left _ q)
  · rcases List.mem_cons.mp q with rfl | q
    · exact List.mem_cons_self ..
    · exact List.mem_cons_of_mem _ (List.mem_append_right _ q))
theorem apart_cons {own tl : Wd} {a : Addr} {o : Obj} (h : ∀ p ∈ own, ∀ q ∈ tl, q.1 ≠ p.1) (l : ∀ p ∈ own ++ tl, p.1 < a) : ∀ p ∈ own, ∀ q ∈ (a, o) :: tl, q.1 ≠ p.1 := fun p hp q hq => by
  rcases List.mem_cons.mp hq with rfl | hq
  · exact Nat.ne_of_gt (l p (List.mem_append_left _ hp))
  · exact h p hp q hq
theorem fr_gen {g : Heap} {L : Addr} {h : Heap} {m : Str → Option Value} (F : Fr g L h m) : ∃ m', Fr g L h m' ∧ m' = m := ⟨m, F, rfl⟩

theorem row_j_36 : True := by
  (k_with "subscriptTail" => (k_here; (with_reducible show wpAny _ _ (subscriptTail _ _ (Value.ref _) (Value.int _ _)) _ _ _); (refine' my_itemT (by k_asm) (by k_mem) (by with_reducible assumption) (by omega) (by omega) ?_ ?k6_q; (case k6_q => with_unfolding_all rfl); k_whole)))
  (k_with "subscriptTail" => (k_here; (with_reducible show wpAny _ _ (subscriptTail _ _ (Value.ref _) (Value.int _ _)) _ _ _); (refine' my_itemL (by k_asm) (by k_mem) (by with_reducible assumption) (by omega) (by omega) ?_ ?k6_q; (case k6_q => with_unfolding_all rfl); k_whole)))
  (k_with "eval Name" => (k_here; (with_reducible show wpAny _ _ (eval (Expr.Name _ _) (envOfC _ _ _ _ _)) _ _ _); k_dflt (refine' nameX_C ?N_q ?c_q ?m_q ?d_q ?_ ?a_q ?b_q; (case a_q => rfl); (case b_q => rfl); (case N_q => k_asm); (case c_q => rfl); (case m_q => k_mem); (case d_q => k_asm); k_whole)))
  (k_with "eval Name" => (k_here; (with_reducible show wpAny _ _ (eval (Expr.Name _ _) (envOfC _ _ _ _ _)) _ _ _); k_dflt (refine' nameX_L ?F_q ?v_q ?_ ?a_q ?b_q; (case F_q => k_asm); (case a_q => rfl); (case b_q => rfl); (case v_q => first | assumption | ((repeat (refine Eq.trans (if_neg (by decide)) ?_)); first | exact if_pos rfl | assumption)); k_whole)))
  (k_with "mine k_mem" => first | assumption | exact List.Mem.head _ | (refine' List.mem_cons_of_mem _ ?_; k_mem) | (refine' List.mem_append_right _ ?_; k_mem))
  (k_with "mine enterC" => ( refine' enterC (by assumption) (by assumption) (by decide) ?ho_q ?hcd_q ?hb_q ?hl_q ?hnd_q ?_ ?c1_q ?c2_q ?c3_q; (case ho_q => k_is); (case hcd_q => k_is); (case hb_q => first | exact BindsTo.of_eq rfl | exact binds_K (Frag.In.keeps (Wo.X (by assumption)) (Wo.keep (by assumption))) rfl (by k_is) rfl rfl rfl); (case hl_q => exact rfl); (case hnd_q => decide +kernel); (case c1_q => exact rfl); (case c2_q => exact rfl); (case c3_q => exact rfl); intro _ _ _ _ _ _ _ _ _ N_r Y_r _ _ _ _; k_cells Y_r; (try simp only [List.cons_append, List.nil_append] at N_r); revert N_r; intro _; (try dsimp only); (try k_fold)))
  trivial
def relB (scope : Scope) (sk : ScopeKind) (sn : List (Str × NameKind)) : List (Str × NameKind) := scope.names.map fun (n, k) => if (k == .free && sk == .function && sn.lookup n == some .cell) then (n, .cell) else (n, k)
section
variable {n x : Str} {sc sc1 scope : Scope} {L a C C1 : Addr} {cd : Value} {k : NameKind} {cl cl1 : List (Str × Addr)}
theorem kind_fn (h : sc.names.lookup x = some k) : (envOfC n sc L a cd).kindOf x = some k := h
theorem kind_fn0 (h : sc.names.lookup x = some k) : (envOf n sc L a cd).kindOf x = some k := h
theorem kind_c1 (h : (relB scope sc.kind sc.names).lookup x = some k) : (compEnvC scope cl C (envOfC n sc L a cd)).kindOf x = some k := h
theorem kind_c0 (h : (relB scope sc.kind sc.names).lookup x = some k) : (compEnvC scope cl C (envOf n sc L a cd)).kindOf x = some k := h
theorem kind_c2 (h : (relB scope sc1.kind (relB sc1 sc.kind sc.names)).lookup x = some k) : (compEnvC scope cl C (compEnvC sc1 cl1 C1 (envOfC n sc L a cd))).kindOf x = some k := h
end
theorem row_j_37 : True := by
  (k_with "mine kind" => ((first | (with_reducible refine kind_fn ?_) | (with_reducible refine kind_fn0 ?_) | (with_reducible refine kind_c1 ?_) | (with_reducible refine kind_c0 ?_) | (with_reducible refine kind_c2 ?_)); decide +kernel))
  trivial
section
variable {M : Model} {A : Around} {E : Value → Shared → Prop} {s : Shared} {env : Env} {h₀ : Heap} {L c : Addr} {news : Wd} {x : Str} {pos : Pos} {v : Value} {o : Obj} {Q : Value → Shared → Prop} {m mg mb : Str → Option Value} {K : Frag} {p : Program} {loose : List Str}
theorem nmCell (hx : env.kindOf x = some .cell) (N : News h₀ L s.heap news) (hc : env.cells.lookup x = some c) (hm : (c, o) ∈ news) (hd : o.data = .cell (some v)) (h : Q v s) (hk : env.scope.kind = .function) (hb : (x == ("__debug__" : Str)) = false) :
    wpAny M A (eval (.Name x pos) env) Q E s := wpAny_Name (wpAny_loadName_cell hk hx hc ⟨o, N.get hm, hd⟩ h) hb
theorem nmFree (hx : env.kindOf x = some .free) (N : News h₀ L s.heap news) (hc : env.cells.lookup x = some c) (hm : (c, o) ∈ news) (hd : o.data = .cell (some v)) (h : Q v s) (hk : env.scope.kind = .function) (hb : (x == ("__debug__" : Str)) = false) (hn : (x == ("__classdict__" : Str)) = false) :
    wpAny M A (eval (.Name x pos) env) Q E s := wpAny_Name (wpAny_loadName_free hk hx hc ⟨o, N.get hm, hd⟩ h hn) hb
theorem nmB (hx : env.kindOf x = some .globalImplicit) (F : Fr h₀ L s.heap m) (X : K.In h₀) (T : TopRead p loose mg mb h₀) (e : nsIn K mainGlobals x = some none) (hv : bootBuiltins x = some v) (hn : x ≠ "__name__") (h : Q v s) (hg : env.globals = mainGlobals) (hb : env.builtins = builtinsNs) (hk : env.scope.kind = .function) (hd : (x == ("__debug__" : Str)) = false) :
    wpAny M A (eval (.Name x pos) env) Q E s :=
  PySem.Calls.Name_function_global hk hx (PySem.Calls.loadGlobal_builtin (env := env) (show s.heap.Ns env.globals mg from hg ▸ (T.keeps F.keep).g) (mg_none_of X T.g e) (show s.heap.Ns env.builtins mb from hb ▸ (T.keeps F.keep).b) ((T.builtins x hn).trans hv) h) hd
theorem nmK (hx : env.kindOf x = some .globalImplicit) (F : Fr h₀ L s.heap m) (X : K.In h₀) (T : TopRead p loose mg mb h₀) (e : nsIn K mainGlobals x = some (some v)) (h : Q v s) (hg : env.globals = mainGlobals) (hk : env.scope.kind = .function) (hd : (x == ("__debug__" : Str)) = false) :
    wpAny M A (eval (.Name x pos) env) Q E s := nameG_K F X T e h hg hk hx hd
theorem nmL (hx : env.kindOf x = some .local) (F : Fr h₀ env.locals s.heap m) (hv : m x = some v) (h : Q v s) (hk : env.scope.kind = .function) (hd : (x == ("__debug__" : Str)) = false) :
    wpAny M A (eval (.Name x pos) env) Q E s := ld_gen F hv h hk hx hd
end

theorem row_j_38 : True := by
  (k_with "mine look" => first | with_reducible assumption | ((repeat (refine Eq.trans (if_neg (by decide +kernel)) ?_)); first | exact if_pos rfl | with_reducible assumption) | exact rfl)
  (k_with "eval Name" => (k_here; k_dflt (first | (refine' nmL ?x_q ?F_q ?v_q ?_ ?k_q ?d_q; (case x_q => k_extra "mine kind"); (case F_q => k_asm); (case v_q => k_extra "mine look"); (case k_q => exact rfl); (case d_q => decide +kernel); k_whole) | (refine' nmFree ?x_q ?N_q ?c_q ?m_q ?o_q ?_ ?k_q ?d_q ?n_q; (case x_q => k_extra "mine kind"); (case N_q => k_asm); (case c_q => exact rfl); (case m_q => k_mem); (case o_q => k_asm); (case k_q => exact rfl); (case d_q => decide +kernel); (case n_q => decide +kernel); k_whole) | (refine' nmCell ?x_q ?N_q ?c_q ?m_q ?o_q ?_ ?k_q ?d_q; (case x_q => k_extra "mine kind"); (case N_q => k_asm); (case c_q => exact rfl); (case m_q => k_mem); (case o_q => k_asm); (case k_q => exact rfl); (case d_q => decide +kernel); k_whole) | (refine' nmK ?x_q ?F_q ?X_q ?T_q ?e_q ?_ ?g_q ?k_q ?d_q; (case x_q => k_extra "mine kind"); (case F_q => k_asm); (case X_q => k_asm); (case T_q => k_asm); (case e_q => k_is); (case g_q => exact rfl); (case k_q => exact rfl); (case d_q => decide +kernel); k_whole) | (refine' nmB ?x_q ?F_q ?X_q ?T_q ?e_q ?v_q ?n_q ?_ ?g_q ?b_q ?k_q ?d_q; (case x_q => k_extra "mine kind"); (case F_q => k_asm); (case X_q => k_asm); (case T_q => k_asm); (case e_q => k_is); (case v_q => boot_fast); (case n_q => decide +kernel); (case g_q => exact rfl); (case b_q => exact rfl); (case k_q => exact rfl); (case d_q => decide +kernel); k_whole))))
  trivial
section
variable {prog : Program} {w : World} {A : Around} {s : Shared} {env : Env} {h₀ : Heap} {L : Addr} {m : Str → Option Value} {target elt iter : Expr} {ifs : List Expr} {scope : Scope} {cl : List (Str × Addr)} {pos : Pos}
/-- a turn of a comprehension that changes st and lets tl grow -/
inductive TurnEnd (g : Heap) (C : Addr) (kept st₁ tl₁ : Wd) (Jn : Option Value → Wd → Wd → Prop) (s₁ : Shared) (y : Option Value) (s₄ : Shared) : Prop
  | mk : ∀ h' tk m' st' tl', s₄ = { s₁ with heap := h', toks := tk } →
    Fr g C h' m' →
    News g C h' (st' ++ (kept ++ tl')) →
    st'.map (·.1) = st₁.map (·.1) →
    (∀ p ∈ tl₁, p ∈ tl') →
    (∀ p ∈ tl', p ∈ tl₁ ∨ ∀ q ∈ st₁ ++ kept, q.1 ≠ p.1) →
    Jn y st' tl' → TurnEnd g C kept st₁ tl₁ Jn s₁ y s₄
inductive CompS (prog : Program) (w : World) (A : Around) (h₀ : Heap) (L : Addr) (env : Env) (scope : Scope) (cl : List (Str × Addr)) (target elt : Expr) (ifs : List Expr) (Fin : Addr → Heap → Nat → Wd → List Value → Nat → Prop) (m : Str → Option Value) (it : Value) (s₂ : Shared) : Prop
  | mk : ∀ (n : Nat) (P : Nat → Value → Heap → Prop) (st base : Wd) (J : Nat → List Value → Wd → Wd → Prop), ForSrc prog w A target h₀ L m st base n P it s₂ →
    n ≤ 1000000 →
    J 0 [] st base →
    (∀ p ∈ st, ∀ q ∈ base, q.1 ≠ p.1) →
    (∀ g C i v ys m₁ st₁ tl₁ h₁ tk₁ kept, (∀ b o, h₀.get? b = some o → g.get? b = some o) → i < n → P i v h₁ → J i ys st₁ tl₁ → (∀ p ∈ base, p ∈ tl₁) → (∀ p ∈ st₁, ∀ q ∈ kept ++ tl₁, q.1 ≠ p.1) →
      Fr g C h₁ m₁ → News g C h₁ (st₁ ++ (kept ++ tl₁)) →
      CompTurn prog w A target elt ifs (compEnvC scope cl C env) v (TurnEnd g C kept st₁ tl₁ (fun y st' tl' => J (i + 1) (ys ++ y.toList) st' tl') { s₂ with heap := h₁, toks := tk₁ }) { s₂ with heap := h₁, toks := tk₁ }) →
    (∀ D h' tk st' tl' ys k, Fr h₀ L h' m → News h₀ L h' ((D, listOf ys.toArray k) :: (st' ++ tl')) → st'.map (·.1) = st.map (·.1) → (∀ p ∈ st', ∀ q ∈ tl', q.1 ≠ p.1) → (∀ p ∈ st' ++ tl', p.1 ≠ D) → (∀ p ∈ base, p ∈ tl') → J n ys st' tl' → Fin D h' tk (st' ++ tl') ys k) → CompS prog w A h₀ L env scope cl target elt ifs Fin m it s₂
inductive SSt (st base : Wd) (J : Wd → Wd → Prop) (news' : Wd) : Prop
  | mk : ∀ st' tl', news' = st' ++ tl' → st'.map (·.1) = st.map (·.1) → (∀ p ∈ base, p ∈ tl') → (∀ p ∈ st', ∀ q ∈ tl', q.1 ≠ p.1) → J st' tl' → SSt st base J news'
theorem same_addr {st st' : Wd} (h : st'.map (·.1) = st.map (·.1)) {p : Addr × Obj} (hp : p ∈ st') : ∃ q ∈ st, q.1 = p.1 := by
  have : p.1 ∈ st.map (·.1) := h ▸ List.mem_map_of_mem hp
  exact List.mem_map.mp this
theorem compS_block {Fin : Addr → Heap → Nat → Wd → List Value → Nat → Prop} {it : Value} {s₂ : Shared} {RR : Value → Addr → Result → Shared → Prop} (at_ : CompS prog w A h₀ L env scope cl target elt ifs Fin m it s₂)
    (hcell : ∀ y ∈ scope.names, y.2 ≠ .cell) (hkind : scope.kind = .function)
    (hRR : ∀ D C h' tk m' news' ys k, h'.Ns C m' → C ≠ L → h₀.get? C = none → D ≠ L → C ≠ D → (∀ p ∈ news', p.1 ≠ C) → Fr h₀ L h' m → News h₀ L h' ((D, listOf ys.toArray k) :: news') →
      (∀ h'' tk'', Fr h₀ L h'' m → News h₀ L h'' ((D, listOf ys.toArray k) :: news') → Fin D h'' tk'' news' ys k) → RR (.ref D) C (.ok .next) { s₂ with heap := h', toks := tk }) :
    wpAny (model prog w) A (newList []) (fun acc s₃ => wpAny (model prog w) A (newFunctionEnv scope env.globals cl [] env.qual none .none (some env)) (fun cenv s₄ =>
      codeAny (model prog w) A (.compStart (.ListComp elt [⟨target, iter, ifs, 0⟩] scope pos) 0 it acc { cenv with scope := relabel scope env }) (RR acc cenv.locals) s₄) NoE s₃) NoE s₂ := by
  obtain ⟨n, P, st, base, J, ⟨I, fp, wr, Md, St, rfl, W, hself, live, hLf, hwr, hbw, hsf, hst, F, N⟩, hn, h0, hap, step, fin⟩ := at_
  have hfp : ∀ b ∈ fp, b < s₂.heap.objs.size := fun b hb => let ⟨o, e⟩ := live 0 _ hst b hb; Heap.lt_size e
  obtain ⟨news, hnews⟩ : ∃ news, news = st ++ base := ⟨_, rfl⟩
  rw [← hnews] at N
  have hnw : ∀ p ∈ news, p.1 ∉ wr := fun p hp => by
    rw [hnews] at hp
    rcases List.mem_append.mp hp with hp | hp
    · exact fun q => hsf p hp (W.sub _ q)
    · exact hbw p hp
  refine wpAny_newObj_type (wpAny_newFunctionEnv hcell (by intro y hy; simp at hy) (fun h₁ hns₁ hsb₁ => ?_) hkind)
  dsimp only at hns₁ hsb₁ ⊢
  generalize hH2 : s₂.heap.push { cls := .type "list", dict := none, data := .seq ([] : List Value).toArray } = H2 at hns₁ hsb₁ ⊢
  have hC : H2.objs.size = s₂.heap.objs.size + 1 := by rw [← hH2, Heap.size_push]
  have hDC : s₂.heap.objs.size ≠ H2.objs.size := by rw [hC]; exact Nat.ne_of_lt (Nat.lt_succ_self _)
  have below : ∀ b, b < s₂.heap.objs.size → b ≠ H2.objs.size ∧ b ≠ s₂.heap.objs.size := fun b hb => ⟨by rw [hC]; exact Nat.ne_of_lt (Nat.lt_succ_of_lt hb), Nat.ne_of_lt hb⟩
  have hDf : s₂.heap.objs.size ∉ fp := fun hm => Nat.lt_irrefl _ (hfp _ hm)
  have hCf : H2.objs.size ∉ fp := fun hm => by have := hfp _ hm; rw [hC] at this; exact Nat.lt_irrefl _ (Nat.lt_of_succ_lt this)
  have old : ∀ b o, s₂.heap.get? b = some o → h₁.get? b = some o := fun b o e => hsb₁.extBut b o (below b (Heap.lt_size e)).1 (Heap.get?_push_of_some _ (hH2 ▸ Heap.get?_push_of_some _ e))
  have hacc : h₁.PlainList s₂.heap.objs.size #[] := ⟨_, hsb₁.extBut _ _ hDC (Heap.get?_push_of_some _ (hH2 ▸ Heap.get?_push_size _ rfl))⟩
  have fresh : ∀ a, s₂.heap.objs.size ≤ a → s₂.heap.get? a = none := fun a ha => by
    cases e : s₂.heap.get? a with
    | none => rfl
    | some o' => exact absurd (Heap.lt_size e) (Nat.not_lt.mpr ha)
  have hst₁ : St 0 h₁ := W.frame _ _ _ hst fun b _ o e => old b o e
  have hgsub : ∀ b o, (hideAll s₂.heap (news.map (·.1) ++ wr)).get? b = some o → s₂.heap.get? b = some o := fun b o e => of_hideAll _ e
  have hh₀ : ∀ b o, h₀.get? b = some o → (hideAll s₂.heap (news.map (·.1) ++ wr)).get? b = some o := fun b o e => hideAll_get _ (F.keep b o e) fun q => by
    rcases List.mem_append.mp q with q | q
    · obtain ⟨p, hp, rfl⟩ := List.mem_map.mp q
      rw [(N p hp).2.2] at e; cases e
    · rw [hwr b q] at e; cases e
  obtain ⟨oL, esL, epL, hL, hLd, hLk, hLm⟩ := F.ns
  have hgL : (hideAll s₂.heap (news.map (·.1) ++ wr)).get? L = some oL := hideAll_get _ hL fun q => by
    rcases List.mem_append.mp q with q | q
    · obtain ⟨p, hp, e⟩ := List.mem_map.mp q
      exact (N p hp).2.1 e
    · exact hLf (W.sub _ q)
  have hLs : L < s₂.heap.objs.size := Heap.lt_size hL
  generalize hG : hideAll s₂.heap (news.map (·.1) ++ wr) = g at hgsub hh₀ hgL
  have gsz : g.objs.size = s₂.heap.objs.size := by rw [← hG]; exact hideAll_size _ _
  have hgn : ∀ p ∈ news, g.get? p.1 = none := fun p hp => hG ▸ hideAll_none _ (List.mem_append_left _ (List.mem_map_of_mem hp))
  have hgw : ∀ b ∈ wr, g.get? b = none := fun b hb => hG ▸ hideAll_none _ (List.mem_append_right _ hb)
  have hgf : ∀ a, s₂.heap.objs.size ≤ a → g.get? a = none := fun a ha => by
    cases e : g.get? a with
    | none => rfl
    | some o => have q := hgsub a o e; rw [fresh a ha] at q; cases q
  have F₁ : Fr g H2.objs.size h₁ (fun x => ([] : List (Str × Value)).reverse.lookup x) := ⟨hns₁, fun b o e => old b o (hgsub b o e), by rw [gsz, hC]; exact Nat.le_succ _⟩
  have N₁ : News g H2.objs.size h₁ news := fun p hp => ⟨old _ _ (N p hp).1, (below _ (Heap.lt_size (N p hp).1)).1, hgn p hp⟩
  have loop : ∀ s₃ : Shared, s₃ = { s₂ with heap := h₁, toks := s₂.toks + ([] : List (Str × Value)).length } →
      codeAny (model prog w) A (.compLoop (.ListComp elt [⟨target, iter, ifs, 0⟩] scope pos) 0 (.ref I) (.ref s₂.heap.objs.size) (compEnvC scope cl H2.objs.size env))
        (RR (.ref s₂.heap.objs.size) H2.objs.size) s₃ := by
    rintro s₃ rfl
    refine comp_loop W hCf hDf hDC hgw (hgf _ (Nat.le_refl _)) (fun p hp => ⟨hnw p hp, (below _ (Heap.lt_size (N p hp).1)).2⟩) hn (fun i h a b hb => live i h a b (W.sub b hb)) hst₁ F₁ N₁ hacc
      (fun i ys => SSt st base (J i ys)) ⟨st, base, hnews, rfl, fun _ h => h, hap, h0⟩ ?_ ?_
    · rintro i v ys m₁ news₁ h₂ tk₁ own oD hi hP ⟨st₁, tl₁, rfl, hma, hb, hap₁, hJ⟩ hoff hown hall hst₂ F₂ N₂
      have apk : ∀ p ∈ st₁, ∀ q ∈ own ++ [(s₂.heap.objs.size, oD)], q.1 ≠ p.1 := fun p hp q hq => by
        rcases List.mem_append.mp hq with hq | hq
        · obtain ⟨p', hp', e'⟩ := same_addr hma hp
          exact fun e => hsf p' hp' (by rw [e', ← e]; exact hown q hq)
        · rw [List.mem_singleton.mp hq]
          exact fun e => (hoff p (List.mem_append_left _ hp)).2 e.symm
      have conv : ∀ (y : Option Value) (s₄ : Shared), TurnEnd g H2.objs.size (own ++ [(s₂.heap.objs.size, oD)]) st₁ tl₁ (fun y st' tl' => J (i + 1) (ys ++ y.toList) st' tl') { s₂ with heap := h₂, toks := tk₁ } y s₄ →
          CompEnd g H2.objs.size s₂.heap.objs.size wr (own ++ [(s₂.heap.objs.size, oD)]) (SSt st base (J (i + 1) (ys ++ y.toList))) { s₂ with heap := h₂, toks := tk₁ } s₄ := by
        rintro y s₄ ⟨h', tk, m', st', tl', rfl, F', N', hma', hs', hf', hJ'⟩
        refine ⟨h', tk, m', st' ++ tl', rfl, F', fun p hp => N' p ?_, fun p hp => ?_, st', tl', rfl, hma'.trans hma, fun p hp => hs' p (hb p hp), fun p hp q hq => ?_, hJ'⟩
        · rcases List.mem_append.mp hp with hp | hp
          · exact List.mem_append_right _ (List.mem_append_left _ hp)
          · rcases List.mem_append.mp hp with hp | hp
            · exact List.mem_append_left _ hp
            · exact List.mem_append_right _ (List.mem_append_right _ hp)
        · rcases List.mem_append.mp hp with hp | hp
          · obtain ⟨p', hp', e'⟩ := same_addr hma' hp
            have := hoff p' (List.mem_append_left _ hp')
            rwa [e'] at this
          · rcases hf' p hp with h | h
            · exact hoff p (List.mem_append_right _ h)
            · refine ⟨fun hw => ?_, fun e => ?_⟩
              · obtain ⟨o, ho⟩ := hall _ hw
                exact h _ (List.mem_append_right _ (List.mem_append_left _ ho)) rfl
              · exact h _ (List.mem_append_right _ (List.mem_append_right _ (List.mem_singleton.mpr rfl))) e.symm
        · obtain ⟨p', hp', e'⟩ := same_addr hma' hp
          rw [← e']
          rcases hf' q hq with h | h
          · exact hap₁ p' hp' q h
          · exact fun e => h p' (List.mem_append_left _ hp') e.symm
      refine wpAny_mono (step g _ i v ys m₁ st₁ tl₁ h₂ tk₁ (own ++ [(_, oD)]) hh₀ hi hP hJ hb (fun p hp q hq => (List.mem_append.mp hq).elim (apk p hp q) (hap₁ p hp q)) F₂ (fun p hp => N₂ p (by
        rcases List.mem_append.mp hp with hp | hp
        · exact List.mem_append_right _ (List.mem_append_left _ hp)
        · rcases List.mem_append.mp hp with hp | hp
          · exact List.mem_append_left _ hp
          · exact List.mem_append_right _ (List.mem_append_right _ hp)))) (fun _ s₂ q => wpAny_mono q (fun ok s₃ q => ?_) fun _ _ e => e) fun _ _ e => e
      cases ok with
      | false => simp only [Bool.false_eq_true, if_false] at q ⊢; exact conv none _ q
      | true => simp only [if_true] at q ⊢; exact wpAny_mono q (fun y s₄ q => conv (some y) _ q) fun _ _ e => e
    · rintro h' tk m' news' ys k F' N' hn' ⟨st', tl', rfl, hma, hb, hap', hJ⟩
      have hCL : H2.objs.size ≠ L := Nat.ne_of_gt (Nat.lt_of_lt_of_le hLs (by rw [hC]; exact Nat.le_succ _))
      have F'' : Fr h₀ L h' m := ⟨⟨oL, esL, epL, F'.keep L oL hgL, hLd, hLk, hLm⟩, fun b o e => F'.keep b o (hh₀ b o e), F.above⟩
      have N'' : News h₀ L h' ((s₂.heap.objs.size, listOf ys.toArray k) :: (st' ++ tl')) := fun p hp => by
        refine ⟨(N' p hp).1, fun q => ?_, ?_⟩
        · have := (N' p hp).2.2; rw [q, hgL] at this; cases this
        · cases e : h₀.get? p.1 with
          | none => rfl
          | some o => have := (N' p hp).2.2; rw [hh₀ _ _ e] at this; cases this
      refine hRR _ _ h' tk m' (st' ++ tl') ys k F'.ns hCL ?_ (Nat.ne_of_gt hLs) (Ne.symm hDC) (fun p hp => (N' p (List.mem_cons_of_mem _ hp)).2.1) F'' N'' fun h'' tk'' Fx Nx => fin _ h'' tk'' st' tl' ys k Fx Nx hma hap' (fun p hp => (hn' p hp).2) hb hJ
      cases e : h₀.get? H2.objs.size with
      | none => rfl
      | some o => have := hgf H2.objs.size (by rw [hC]; exact Nat.le_succ _); rw [hh₀ _ _ e] at this; cases this
  exact codeAny_compStart_list (loop _ rfl) (hself 0 _ _ _ hst₁ (loop _ rfl))
theorem ListComp_S {Q : Value → Shared → Prop} (_F : Fr h₀ L s.heap m) (hclos : closureFor scope env = pure cl) (hcell : ∀ y ∈ scope.names, y.2 ≠ .cell) (hkind : scope.kind = .function)
    (hnames : ∀ y ∈ scope.names, y.2 = .local → scope.names.lookup y.1 = some .local)
    (h : wpAny (model prog w) A (eval iter env) (fun xv s₁ => wpAny (model prog w) A (pyIter xv) (fun it s₂ => CompS prog w A h₀ L env scope cl target elt ifs (fun D h' tk news' ys k => Fr h₀ L h' m → News h₀ L h' ((D, listOf ys.toArray k) :: news') → Q (.ref D) { s₂ with heap := h', toks := tk }) m it s₂) NoE s₁) NoE s)
    (hs : ∀ x, foldedSetIterable iter env x = pure x := by intro _; rfl) :
    wpAny (model prog w) A (eval (.ListComp elt [⟨target, iter, ifs, 0⟩] scope pos) env) Q NoE s := by
  rw [eval_ListComp]
  refine wpAny_comprehension_free (use := none) rfl hs hclos hkind hnames (wpAny_mono h (fun xv s₁ h₁ => wpAny_mono h₁ (fun it s₂ h₂ => ?_) fun _ _ e => e) fun _ _ e => e)
  refine compS_block (RR := fun acc C => compPost (model prog w) A NoE none Q acc C) h₂ hcell hkind ?_
  intro D C h' tk m' news' ys k hn hCL hC0 hDL hCD hCn F N fin
  exact ⟨m', hn, fun h'' hs'' => let ⟨a, b⟩ := same_C hs'' hCL hC0 hCD hCn F N; fin h'' tk a b a b⟩
end
section
variable {prog : Program} {w : World} {A : Around} {s : Shared} {env : Env} {h₀ : Heap} {m : Str → Option Value} {target elt iter : Expr} {ifs : List Expr} {scope : Scope} {cl : List (Str × Addr)} {pos : Pos}
theorem Assign_ListComp_S {y : Str} {py spos : Pos} {Q : Flow → Shared → Prop} (_F : Fr h₀ env.locals s.heap m) (hsw : swapsWith (.ListComp elt [⟨target, iter, ifs, 0⟩] scope pos) (some (.Name y py)) spos.line env = pure true) (hclos : closureFor scope env = pure cl) (hcell : ∀ y ∈ scope.names, y.2 ≠ .cell) (hkind : scope.kind = .function)
    (hnames : ∀ y ∈ scope.names, y.2 = .local → scope.names.lookup y.1 = some .local)
    (hy : env.kindOf y = some .local) (hp : (env.scope.kind == .class || (env.scope.kind == .module && env.locals != env.globals)) = false)
    (h : wpAny (model prog w) A (eval iter env) (fun xv s₁ => wpAny (model prog w) A (pyIter xv) (fun it s₂ => CompS prog w A h₀ env.locals env scope cl target elt ifs
      (fun D h' tk news' ys k => ∀ h'', Fr h₀ env.locals h'' (fun z => if z = y then some (.ref D) else m z) → News h₀ env.locals h'' ((D, listOf ys.toArray k) :: news') → Q .next { s₂ with heap := h'', toks := tk + 1 }) m it s₂) NoE s₁) NoE s)
    (hs : ∀ x, foldedSetIterable iter env x = pure x := by intro _; rfl) :
    wpAny (model prog w) A (exec (.Assign [.Name y py] (.ListComp elt [⟨target, iter, ifs, 0⟩] scope pos) spos) env) Q NoE s := by
  rw [exec_Assign_Name_used _ _ _ _ hsw]
  refine wpAny_bind (wpAny_standAt (wpAny_bind ?_))
  show wpAny _ A (do let _ ← comprehension (.ListComp elt [⟨target, iter, ifs, 0⟩] scope pos) scope env _ (newList []) false (eval iter env) (some (assign (.Name y py) env))) _ _ s
  refine wpAny_bind (wpAny_mono (wpAny_comprehension_free (use := some (assign (.Name y py) env)) (Q := fun _ s' => Q .next s') rfl hs hclos hkind hnames
    (wpAny_mono h (fun xv s₁ h₁ => wpAny_mono h₁ (fun it s₂ h₂ => ?_) fun _ _ e => e) fun _ _ e => e)) (fun _ s' hq => wpAny_pure (wpAny_pure hq)) fun _ _ e => e)
  refine compS_block (RR := fun acc C => compPost (model prog w) A NoE (some (assign (.Name y py) env)) (fun _ s' => Q .next s') acc C) h₂ hcell hkind ?_
  intro D C h' tk m' news' ys k hn hCL hC0 hDL hCD hCn F N fin
  show wpAny _ A (assign (.Name y py) env (.ref D)) _ _ _
  refine wpAny_assign_Name (wpAny_storeName_local hy F.ns (fun h₂ hn₂ hs₂ => ?_) hp)
  have F₂ : Fr h₀ env.locals h₂ (fun z => if z = y then some (.ref D) else m z) := F.set hn₂ hs₂
  have N₂ := N.set hs₂
  refine ⟨m', hn.sameBut hs₂ hCL, fun h₃ hs₃ => ?_⟩
  obtain ⟨a, b⟩ := same_C hs₃ hCL hC0 hCD hCn F₂ N₂
  exact fin h' tk F N h₃ a b
end

inductive CSt (c : Addr) (news : Wd) (J : Wd → Prop) (news' : Wd) : Prop
  | mk : ∀ oc vo tl', news' = [(c, oc)] ++ tl' → oc.data = .cell vo → (∀ p ∈ news, p ∈ tl') → (∀ q ∈ tl', q.1 ≠ c) → J tl' → CSt c news J news'
inductive CTn (c : Addr) (J : Wd → Prop) (st' tl' : Wd) : Prop
  | mk : ∀ oc' vo', st' = [(c, oc')] → oc'.data = .cell vo' → J tl' → CTn c J st' tl'
theorem newEnv_one {M : Model} {A : Around} {E : Value → Shared → Prop} {s : Shared} {scope : Scope} {globals builtins : Addr} {cl : List (Str × Addr)} {x qual : Str} {func : Option Addr} {code : Value} {outer : Env} {Q : Env → Shared → Prop}
    (hc : ∀ n, cellsFrom n scope.names cl = (x, n) :: cl) (hp : ∀ h, pushCells h scope.names = h.push { cls := .type "cell", data := .cell none })
    (hQ : Q (newEnv scope s.heap.objs.size globals ((x, s.heap.objs.size + 1) :: cl) qual func code (some outer) builtins) { s with heap := (s.heap.push { cls := .type "dict", data := .dict #[] }).push { cls := .type "cell", data := .cell none } }) :
    wpAny M A (newFunctionEnv scope globals cl [] qual func code (some outer) builtins) Q E s := by
  simp only [newFunctionEnv, Option.isSome_some, if_true]
  refine wpAny_bind (wpAny_alloc ?_)
  refine wpAny_bind (wpAny_layCells _ (fun name kind cells => by cases hkc : kind == NameKind.cell <;> simp [hkc]) _ _ _ _ ?_)
  rw [hc, hp]
  refine wpAny_bind ?_
  rw [List.forIn_nil]
  refine wpAny_pure (wpAny_pure ?_)
  dsimp only
  rw [Heap.size_push]
  exact hQ
section
variable {prog : Program} {w : World} {A : Around} {s : Shared} {env : Env} {h₀ : Heap} {L : Addr} {m : Str → Option Value} {target elt iter : Expr} {ifs : List Expr} {scope : Scope} {cl : List (Str × Addr)} {pos : Pos} {x : Str}
/-- a comprehension with one cell of its own -/
inductive CompC (prog : Program) (w : World) (A : Around) (h₀ : Heap) (L : Addr) (env : Env) (scope : Scope) (x : Str) (cl : List (Str × Addr)) (target elt : Expr) (ifs : List Expr) (Fin : Addr → Heap → Nat → Wd → List Value → Nat → Prop) (m : Str → Option Value) (it : Value) (s₂ : Shared) : Prop
  | mk : ∀ (n : Nat) (P : Nat → Value → Heap → Prop) (base : Wd) (J : Nat → List Value → Wd → Prop), ForSrc prog w A target h₀ L m [] base n P it s₂ →
    n ≤ 1000000 →
    J 0 [] base →
    (∀ g C cc oc vo i v ys m₁ tl₁ h₁ tk₁ kept, (∀ b o, h₀.get? b = some o → g.get? b = some o) → i < n → P i v h₁ → J i ys tl₁ → (∀ p ∈ base, p ∈ tl₁) → oc.data = .cell vo → (∀ q ∈ kept ++ tl₁, q.1 ≠ cc) →
      Fr g C h₁ m₁ → News g C h₁ ((cc, oc) :: (kept ++ tl₁)) →
      CompTurn prog w A target elt ifs (compEnvC scope ((x, cc) :: cl) C env) v (TurnEnd g C kept [(cc, oc)] tl₁ (fun y => CTn cc (J (i + 1) (ys ++ y.toList))) { s₂ with heap := h₁, toks := tk₁ }) { s₂ with heap := h₁, toks := tk₁ }) →
    (∀ D h' tk tl' ys k, Fr h₀ L h' m → News h₀ L h' ((D, listOf ys.toArray k) :: tl') → (∀ p ∈ tl', p.1 ≠ D) → (∀ p ∈ base, p ∈ tl') → J n ys tl' → Fin D h' tk tl' ys k) → CompC prog w A h₀ L env scope x cl target elt ifs Fin m it s₂
theorem compC_block {Fin : Addr → Heap → Nat → Wd → List Value → Nat → Prop} {it : Value} {s₂ : Shared} {RR : Value → Addr → Result → Shared → Prop} (at_ : CompC prog w A h₀ L env scope x cl target elt ifs Fin m it s₂)
    (hc : ∀ n, cellsFrom n scope.names cl = (x, n) :: cl) (hp : ∀ h, pushCells h scope.names = h.push { cls := .type "cell", data := .cell none })
    (hRR : ∀ D C h' tk m' news' ys k, h'.Ns C m' → C ≠ L → h₀.get? C = none → D ≠ L → C ≠ D → (∀ p ∈ news', p.1 ≠ C) → Fr h₀ L h' m → News h₀ L h' ((D, listOf ys.toArray k) :: news') →
      (∀ h'' tk'', Fr h₀ L h'' m → News h₀ L h'' ((D, listOf ys.toArray k) :: news') → Fin D h'' tk'' news' ys k) → RR (.ref D) C (.ok .next) { s₂ with heap := h', toks := tk }) :
    wpAny (model prog w) A (newList []) (fun acc s₃ => wpAny (model prog w) A (newFunctionEnv scope env.globals cl [] env.qual none .none (some env)) (fun cenv s₄ =>
      codeAny (model prog w) A (.compStart (.ListComp elt [⟨target, iter, ifs, 0⟩] scope pos) 0 it acc { cenv with scope := relabel scope env }) (RR acc cenv.locals) s₄) NoE s₃) NoE s₂ := by
  obtain ⟨n, P, news, J, ⟨I, fp, wr, Md, St, rfl, W, hself, live, hLf, hwr, hbw, hsf, hst, F, N⟩, hn, h0, step, fin⟩ := at_
  have hfp : ∀ b ∈ fp, b < s₂.heap.objs.size := fun b hb => let ⟨o, e⟩ := live 0 _ hst b hb; Heap.lt_size e
  rw [List.nil_append] at N
  have hnw : ∀ p ∈ news, p.1 ∉ wr := hbw
  refine wpAny_newObj_type (newEnv_one hc hp ?_)
  dsimp only
  generalize hH2 : s₂.heap.push { cls := .type "list", dict := none, data := .seq ([] : List Value).toArray } = H2
  have hC : H2.objs.size = s₂.heap.objs.size + 1 := by rw [← hH2, Heap.size_push]
  have hDC : s₂.heap.objs.size ≠ H2.objs.size := by rw [hC]; exact Nat.ne_of_lt (Nat.lt_succ_self _)
  have below : ∀ b, b < s₂.heap.objs.size → b ≠ H2.objs.size ∧ b ≠ s₂.heap.objs.size := fun b hb => ⟨by rw [hC]; exact Nat.ne_of_lt (Nat.lt_succ_of_lt hb), Nat.ne_of_lt hb⟩
  have below2 : ∀ b, b < s₂.heap.objs.size → b ≠ H2.objs.size + 1 := fun b hb => by rw [hC]; exact Nat.ne_of_lt (Nat.lt_succ_of_lt (Nat.lt_succ_of_lt hb))
  have hDf : s₂.heap.objs.size ∉ fp := fun hm => Nat.lt_irrefl _ (hfp _ hm)
  have hCf : H2.objs.size ∉ fp := fun hm => by have := hfp _ hm; rw [hC] at this; exact Nat.lt_irrefl _ (Nat.lt_of_succ_lt this)
  have old : ∀ b o, s₂.heap.get? b = some o → ((H2.push { cls := .type "dict", data := .dict #[] }).push { cls := .type "cell", data := .cell none }).get? b = some o := fun b o e => Heap.get?_push_of_some _ (Heap.get?_push_of_some _ (hH2 ▸ Heap.get?_push_of_some _ e))
  have hacc : ((H2.push { cls := .type "dict", data := .dict #[] }).push { cls := .type "cell", data := .cell none }).PlainList s₂.heap.objs.size #[] := ⟨_, Heap.get?_push_of_some _ (Heap.get?_push_of_some _ (hH2 ▸ Heap.get?_push_size _ rfl))⟩
  have hcell : ((H2.push { cls := .type "dict", data := .dict #[] }).push { cls := .type "cell", data := .cell none }).get? (H2.objs.size + 1) = some { cls := .type "cell", data := .cell none } := by
    have := Heap.get?_push_size (H2.push { cls := .type "dict", data := .dict #[] }) (o := { cls := .type "cell", data := .cell none }) rfl
    rwa [Heap.size_push] at this
  have hns₁ : ((H2.push { cls := .type "dict", data := .dict #[] }).push { cls := .type "cell", data := .cell none }).Ns H2.objs.size (fun _ => none) := (Heap.Ns.new H2 (.type "dict")).keeps fun b o e => Heap.get?_push_of_some _ e
  generalize ((H2.push { cls := .type "dict", data := .dict #[] }).push { cls := .type "cell", data := .cell none }) = h₁ at old hacc hcell hns₁ ⊢
  have fresh : ∀ a, s₂.heap.objs.size ≤ a → s₂.heap.get? a = none := fun a ha => by
    cases e : s₂.heap.get? a with
    | none => rfl
    | some o' => exact absurd (Heap.lt_size e) (Nat.not_lt.mpr ha)
  have hst₁ : St 0 h₁ := W.frame _ _ _ hst fun b _ o e => old b o e
  have hgsub : ∀ b o, (hideAll s₂.heap (news.map (·.1) ++ wr)).get? b = some o → s₂.heap.get? b = some o := fun b o e => of_hideAll _ e
  have hh₀ : ∀ b o, h₀.get? b = some o → (hideAll s₂.heap (news.map (·.1) ++ wr)).get? b = some o := fun b o e => hideAll_get _ (F.keep b o e) fun q => by
    rcases List.mem_append.mp q with q | q
    · obtain ⟨p, hp, rfl⟩ := List.mem_map.mp q
      rw [(N p hp).2.2] at e; cases e
    · rw [hwr b q] at e; cases e
  obtain ⟨oL, esL, epL, hL, hLd, hLk, hLm⟩ := F.ns
  have hgL : (hideAll s₂.heap (news.map (·.1) ++ wr)).get? L = some oL := hideAll_get _ hL fun q => by
    rcases List.mem_append.mp q with q | q
    · obtain ⟨p, hp, e⟩ := List.mem_map.mp q
      exact (N p hp).2.1 e
    · exact hLf (W.sub _ q)
  have hLs : L < s₂.heap.objs.size := Heap.lt_size hL
  generalize hG : hideAll s₂.heap (news.map (·.1) ++ wr) = g at hgsub hh₀ hgL
  have gsz : g.objs.size = s₂.heap.objs.size := by rw [← hG]; exact hideAll_size _ _
  have hgn : ∀ p ∈ news, g.get? p.1 = none := fun p hp => hG ▸ hideAll_none _ (List.mem_append_left _ (List.mem_map_of_mem hp))
  have hgw : ∀ b ∈ wr, g.get? b = none := fun b hb => hG ▸ hideAll_none _ (List.mem_append_right _ hb)
  have hgf : ∀ a, s₂.heap.objs.size ≤ a → g.get? a = none := fun a ha => by
    cases e : g.get? a with
    | none => rfl
    | some o => have q := hgsub a o e; rw [fresh a ha] at q; cases q
  have F₁ : Fr g H2.objs.size h₁ (fun _ => none) := ⟨hns₁, fun b o e => old b o (hgsub b o e), by rw [gsz, hC]; exact Nat.le_succ _⟩
  have N₁ : News g H2.objs.size h₁ ([(H2.objs.size + 1, { cls := .type "cell", data := .cell none })] ++ news) := fun p hp => by
    rcases List.mem_cons.mp hp with rfl | hp
    · exact ⟨hcell, Nat.succ_ne_self _, hgf _ (by rw [hC]; exact Nat.le_succ_of_le (Nat.le_succ _))⟩
    · exact ⟨old _ _ (N p hp).1, (below _ (Heap.lt_size (N p hp).1)).1, hgn p hp⟩
  have loop : ∀ s₃ : Shared, s₃ = { s₂ with heap := h₁, toks := s₂.toks } →
      codeAny (model prog w) A (.compLoop (.ListComp elt [⟨target, iter, ifs, 0⟩] scope pos) 0 (.ref I) (.ref s₂.heap.objs.size) (compEnvC scope ((x, H2.objs.size + 1) :: cl) H2.objs.size env))
        (RR (.ref s₂.heap.objs.size) H2.objs.size) s₃ := by
    rintro s₃ rfl
    refine comp_loop W hCf hDf hDC hgw (hgf _ (Nat.le_refl _)) (fun p hp => ?_) hn (fun i h a b hb => live i h a b (W.sub b hb)) hst₁ F₁ N₁ hacc
      (fun i ys => CSt (H2.objs.size + 1) news (J i ys)) ⟨_, none, news, rfl, rfl, fun _ h => h, fun q hq => below2 _ (Heap.lt_size (N q hq).1), h0⟩ ?_ ?_
    · rcases List.mem_cons.mp hp with rfl | hp
      · refine ⟨fun hw => ?_, ?_⟩
        · have := hfp _ (W.sub _ hw)
          exact below2 _ this rfl
        · rw [hC]; exact Nat.ne_of_gt (Nat.lt_succ_of_lt (Nat.lt_succ_self _))
      · exact ⟨hnw p hp, (below _ (Heap.lt_size (N p hp).1)).2⟩
    · rintro i v ys m₁ news₁ h₂ tk₁ own oD hi hP ⟨oc, vo, tl₁, rfl, hvo, hb, hap₁, hJ⟩ hoff hown hall hst₂ F₂ N₂
      have apk : ∀ q ∈ own ++ [(s₂.heap.objs.size, oD)], q.1 ≠ H2.objs.size + 1 := fun q hq => by
        rcases List.mem_append.mp hq with hq | hq
        · exact below2 _ (hfp _ (hown q hq))
        · rw [List.mem_singleton.mp hq]
          rw [hC]; exact Nat.ne_of_lt (Nat.lt_succ_of_lt (Nat.lt_succ_self _))
      have conv : ∀ (y : Option Value) (s₄ : Shared), TurnEnd g H2.objs.size (own ++ [(s₂.heap.objs.size, oD)]) [(H2.objs.size + 1, oc)] tl₁ (fun y => CTn (H2.objs.size + 1) (J (i + 1) (ys ++ y.toList))) { s₂ with heap := h₂, toks := tk₁ } y s₄ →
          CompEnd g H2.objs.size s₂.heap.objs.size wr (own ++ [(s₂.heap.objs.size, oD)]) (CSt (H2.objs.size + 1) news (J (i + 1) (ys ++ y.toList))) { s₂ with heap := h₂, toks := tk₁ } s₄ := by
        rintro y s₄ ⟨h', tk, m', st', tl', rfl, F', N', hma', hs', hf', oc', vo', rfl, hd', hJ'⟩
        refine ⟨h', tk, m', [(H2.objs.size + 1, oc')] ++ tl', rfl, F', fun p hp => N' p ?_, fun p hp => ?_, oc', vo', tl', rfl, hd', fun p hp => hs' p (hb p hp), fun q hq => ?_, hJ'⟩
        · rcases List.mem_append.mp hp with hp | hp
          · exact List.mem_append_right _ (List.mem_append_left _ hp)
          · rcases List.mem_append.mp hp with hp | hp
            · exact List.mem_append_left _ hp
            · exact List.mem_append_right _ (List.mem_append_right _ hp)
        · rcases List.mem_append.mp hp with hp | hp
          · rw [List.mem_singleton.mp hp]
            exact hoff (H2.objs.size + 1, oc) (List.mem_cons_self ..)
          · rcases hf' p hp with h | h
            · exact hoff p (List.mem_append_right _ h)
            · refine ⟨fun hw => ?_, fun e => ?_⟩
              · obtain ⟨o, ho⟩ := hall _ hw
                exact h _ (List.mem_append_right _ (List.mem_append_left _ ho)) rfl
              · exact h _ (List.mem_append_right _ (List.mem_append_right _ (List.mem_singleton.mpr rfl))) e.symm
        · rcases hf' q hq with h | h
          · exact hap₁ q h
          · exact fun e => h (H2.objs.size + 1, oc) (List.mem_append_left _ (List.mem_cons_self ..)) e.symm
      refine wpAny_mono (step g _ _ oc vo i v ys m₁ tl₁ h₂ tk₁ (own ++ [(_, oD)]) hh₀ hi hP hJ hb hvo (fun q hq => (List.mem_append.mp hq).elim (apk q) (hap₁ q)) F₂ (fun p hp => N₂ p (by
        rcases List.mem_cons.mp hp with rfl | hp
        · exact List.mem_append_right _ (List.mem_append_left _ (List.mem_cons_self ..))
        · rcases List.mem_append.mp hp with hp | hp
          · exact List.mem_append_left _ hp
          · exact List.mem_append_right _ (List.mem_append_right _ hp)))) (fun _ s₂ q => wpAny_mono q (fun ok s₃ q => ?_) fun _ _ e => e) fun _ _ e => e
      cases ok with
      | false => simp only [Bool.false_eq_true, if_false] at q ⊢; exact conv none _ q
      | true => simp only [if_true] at q ⊢; exact wpAny_mono q (fun y s₄ q => conv (some y) _ q) fun _ _ e => e
    · rintro h' tk m' news' ys k F' N' hn' ⟨oc, vo, tl', rfl, hvo, hb, hap', hJ⟩
      have hCL : H2.objs.size ≠ L := Nat.ne_of_gt (Nat.lt_of_lt_of_le hLs (by rw [hC]; exact Nat.le_succ _))
      have F'' : Fr h₀ L h' m := ⟨⟨oL, esL, epL, F'.keep L oL hgL, hLd, hLk, hLm⟩, fun b o e => F'.keep b o (hh₀ b o e), F.above⟩
      have N3 : News g H2.objs.size h' ((s₂.heap.objs.size, listOf ys.toArray k) :: tl') := fun p hp => by
        rcases List.mem_cons.mp hp with rfl | hp
        · exact N' _ (List.mem_cons_self ..)
        · exact N' p (List.mem_cons_of_mem _ (List.mem_append_right _ hp))
      have N'' : News h₀ L h' ((s₂.heap.objs.size, listOf ys.toArray k) :: tl') := fun p hp => by
        refine ⟨(N3 p hp).1, fun q => ?_, ?_⟩
        · have := (N3 p hp).2.2; rw [q, hgL] at this; cases this
        · cases e : h₀.get? p.1 with
          | none => rfl
          | some o => have := (N3 p hp).2.2; rw [hh₀ _ _ e] at this; cases this
      refine hRR _ _ h' tk m' tl' ys k F'.ns hCL ?_ (Nat.ne_of_gt hLs) (Ne.symm hDC) (fun p hp => (N3 p (List.mem_cons_of_mem _ hp)).2.1) F'' N'' fun h'' tk'' Fx Nx => fin _ h'' tk'' tl' ys k Fx Nx (fun p hp => (hn' p (List.mem_append_right _ hp)).2) hb hJ
      cases e : h₀.get? H2.objs.size with
      | none => rfl
      | some o => have := hgf H2.objs.size (by rw [hC]; exact Nat.le_succ _); rw [hh₀ _ _ e] at this; cases this
  exact codeAny_compStart_list (loop _ rfl) (hself 0 _ _ _ hst₁ (loop _ rfl))
end
section
variable {prog : Program} {w : World} {A : Around} {s : Shared} {env : Env} {h₀ : Heap} {m : Str → Option Value} {target elt iter : Expr} {ifs : List Expr} {scope : Scope} {cl : List (Str × Addr)} {pos : Pos} {x : Str}
theorem Assign_ListComp_C {y : Str} {py spos : Pos} {Q : Flow → Shared → Prop} (_F : Fr h₀ env.locals s.heap m) (hsw : swapsWith (.ListComp elt [⟨target, iter, ifs, 0⟩] scope pos) (some (.Name y py)) spos.line env = pure true) (hclos : closureFor scope env = pure cl)
    (hc : ∀ n, cellsFrom n scope.names cl = (x, n) :: cl) (hpc : ∀ h, pushCells h scope.names = h.push { cls := .type "cell", data := .cell none }) (hkind : scope.kind = .function)
    (hnames : ∀ y ∈ scope.names, y.2 = .local → scope.names.lookup y.1 = some .local)
    (hy : env.kindOf y = some .local) (hp : (env.scope.kind == .class || (env.scope.kind == .module && env.locals != env.globals)) = false)
    (h : wpAny (model prog w) A (eval iter env) (fun xv s₁ => wpAny (model prog w) A (pyIter xv) (fun it s₂ => CompC prog w A h₀ env.locals env scope x cl target elt ifs
      (fun D h' tk news' ys k => ∀ h'', Fr h₀ env.locals h'' (fun z => if z = y then some (.ref D) else m z) → News h₀ env.locals h'' ((D, listOf ys.toArray k) :: news') → Q .next { s₂ with heap := h'', toks := tk + 1 }) m it s₂) NoE s₁) NoE s)
    (hs : ∀ x, foldedSetIterable iter env x = pure x := by intro _; rfl) :
    wpAny (model prog w) A (exec (.Assign [.Name y py] (.ListComp elt [⟨target, iter, ifs, 0⟩] scope pos) spos) env) Q NoE s := by
  rw [exec_Assign_Name_used _ _ _ _ hsw]
  refine wpAny_bind (wpAny_standAt (wpAny_bind ?_))
  show wpAny _ A (do let _ ← comprehension (.ListComp elt [⟨target, iter, ifs, 0⟩] scope pos) scope env _ (newList []) false (eval iter env) (some (assign (.Name y py) env))) _ _ s
  refine wpAny_bind (wpAny_mono (wpAny_comprehension_free (use := some (assign (.Name y py) env)) (Q := fun _ s' => Q .next s') rfl hs hclos hkind hnames
    (wpAny_mono h (fun xv s₁ h₁ => wpAny_mono h₁ (fun it s₂ h₂ => ?_) fun _ _ e => e) fun _ _ e => e)) (fun _ s' hq => wpAny_pure (wpAny_pure hq)) fun _ _ e => e)
  refine compC_block (RR := fun acc C => compPost (model prog w) A NoE (some (assign (.Name y py) env)) (fun _ s' => Q .next s') acc C) h₂ hc hpc ?_
  intro D C h' tk m' news' ys k hn hCL hC0 hDL hCD hCn F N fin
  show wpAny _ A (assign (.Name y py) env (.ref D)) _ _ _
  refine wpAny_assign_Name (wpAny_storeName_local hy F.ns (fun h₂ hn₂ hs₂ => ?_) hp)
  have F₂ : Fr h₀ env.locals h₂ (fun z => if z = y then some (.ref D) else m z) := F.set hn₂ hs₂
  have N₂ := N.set hs₂
  refine ⟨m', hn.sameBut hs₂ hCL, fun h₃ hs₃ => ?_⟩
  obtain ⟨a, b⟩ := same_C hs₃ hCL hC0 hCD hCn F₂ N₂
  exact fin h' tk F N h₃ a b
end

theorem AtAll.nil {α : Type} {R : Value → α → Prop} : AtAll R [] [] := ⟨rfl, fun _ _ h => by simp at h⟩
theorem AtAll.one {α : Type} {R : Value → α → Prop} {v : Value} {x : α} (h : R v x) : AtAll R [v] [x] := ⟨rfl, fun i u e => by
  cases i with
  | zero => simp at e; subst e; exact ⟨x, rfl, h⟩
  | succ i => simp at e⟩

inductive CellAt (tl : Wd) (v : Value) (c : Addr × Addr) : Prop
  | mk : ∀ t n, v = .ref t →
    (t, tupOf [.ref c.1, .ref c.2] n) ∈ tl →
    IsMenu c.1 →
    IsMenu c.2 → CellAt tl v c
theorem CellAt.mono {tl tl' : Wd} {v : Value} {c : Addr × Addr} (h : CellAt tl v c) (hs : ∀ p ∈ tl, p ∈ tl') : CellAt tl' v c := let ⟨t, n, a, b, d, e⟩ := h; ⟨t, n, a, hs _ b, d, e⟩
inductive CRow (tl : Wd) (v : Value) (r : List (Addr × Addr)) : Prop
  | mk : ∀ l us n, v = .ref l →
    (l, listOf us.toArray n) ∈ tl →
    AtAll (CellAt tl) us r →
    us.length ≤ 8 → CRow tl v r
theorem CRow.mono {tl tl' : Wd} {v : Value} {r : List (Addr × Addr)} (h : CRow tl v r) (hs : ∀ p ∈ tl, p ∈ tl') : CRow tl' v r := let ⟨l, us, n, a, b, d, e⟩ := h; ⟨l, us, n, a, hs _ b, d.mono fun _ _ q => q.mono hs, e⟩
def cellPP (c : Addr × Addr) : PP := (menuV c.1, menuV c.2)
def tabRow (row : List (Addr × Addr)) (os : List Int) : List PP := os.map fun j => cellPP (row.getD j.toNat (492, 492))
def tabRows (rows : List (List (Addr × Addr))) (os0 os1 : List Int) : List (List PP) := os0.map fun i => tabRow (rows.getD i.toNat []) os1
/-- a row of the table while it is made -/
inductive MRow (tl : Wd) (v : Value) (r : List PP) : Prop
  | mk : ∀ l us n, v = .ref l →
    (l, listOf us.toArray n) ∈ tl →
    AtAll (PairAt tl) us r →
    us.length ≤ 8 → MRow tl v r
theorem MRow.mono {tl tl' : Wd} {v : Value} {r : List PP} (h : MRow tl v r) (hs : ∀ p ∈ tl, p ∈ tl') : MRow tl' v r := let ⟨l, us, n, a, b, d, e⟩ := h; ⟨l, us, n, a, hs _ b, d.mono fun _ _ q => q.mono hs, e⟩
theorem tabRows_succ {rows : List (List (Addr × Addr))} {os0 os1 : List Int} {i : Nat} (h : i < os0.length) : tabRows rows (os0.take (i + 1)) os1 = tabRows rows (os0.take i) os1 ++ [tabRow (rows.getD (os0.getD i 0).toNat []) os1] := by
  unfold tabRows
  rw [List.take_add_one, List.map_append]
  simp [List.getD, h]
theorem tabRow_succ {row : List (Addr × Addr)} {os : List Int} {i : Nat} (h : i < os.length) : tabRow row (os.take (i + 1)) = tabRow row (os.take i) ++ [cellPP (row.getD (os.getD i 0).toNat (492, 492))] := by
  unfold tabRow
  rw [List.take_add_one, List.map_append]
  simp [List.getD, h]
theorem clsI_nonneg (ns os : List Int) (n : Nat) (g : Int) : 0 ≤ clsI ns os n g := by
  unfold clsI clsN
  repeat' split
  all_goals omega
theorem cell_assign {M : Model} {A : Around} {E : Value → Shared → Prop} {s : Shared} {env : Env} {g : Heap} {m : Str → Option Value} {x : Str} {px : Pos} {v : Value} {c : Addr} {oc : Obj} {vo : Option Value} {rest : Wd} {Q : Unit → Shared → Prop}
    (F : Fr g env.locals s.heap m) (N : News g env.locals s.heap ((c, oc) :: rest)) (hd : oc.data = .cell vo) (hne : ∀ p ∈ rest, p.1 ≠ c) (hk : env.scope.kind = .function) (hl : env.kindOf x = some .cell) (hc : env.cells.lookup x = some c)
    (h : ∀ h' oc', Fr g env.locals h' m → News g env.locals h' ((c, oc') :: rest) → oc'.data = .cell (some v) → Q () { s with heap := h' }) : wpAny M A (assign (.Name x px) env v) Q E s := by
  have hmem := N (c, oc) (List.mem_cons_self ..)
  refine wpAny_assign_Name (wpAny_storeName_cell hk hl hc ⟨oc, hmem.1, hd⟩ fun h' hv hs => ?_)
  obtain ⟨o', ho', hd'⟩ := hv
  refine h h' o' ⟨F.ns.sameBut hs (Ne.symm hmem.2.1), fun b ob e => (hs.2 b (fun q => ?_)).trans (F.keep b ob e), F.above⟩ (fun p hp => ?_) hd'
  · rw [q, hmem.2.2] at e; cases e
  · rcases List.mem_cons.mp hp with rfl | hp
    · exact ⟨ho', hmem.2⟩
    · exact ⟨(hs.2 _ (hne p hp)).trans (N p (List.mem_cons_of_mem _ hp)).1, (N p (List.mem_cons_of_mem _ hp)).2⟩
inductive TabJ (cc : Addr) (oc3 : Obj) (kept tl₁ : Wd) (row : List (Addr × Addr)) (os1 : List Int) (i2 : Nat) (ys2 : List Value) (st tl2 : Wd) : Prop
  | mk : st = [(cc, oc3)] → ∀ tl3, tl2 = kept ++ tl3 → (∀ p ∈ tl₁, p ∈ tl3) → (∀ p ∈ tl3, p ∈ tl₁ ∨ ∀ q ∈ (cc, oc3) :: kept, q.1 ≠ p.1) → AtAll (PairAt tl3) ys2 (tabRow row (os1.take i2)) → TabJ cc oc3 kept tl₁ row os1 i2 ys2 st tl2
theorem table_spec {w : World} {B : Heap} {s : Shared} {tl : Wd} {cA fA sA rA oA o0 o1 : Addr} {cv fv sv rv v0 v1 : List Value} {cs fs ss os0 os1 : List Int} {rows : List (List (Addr × Addr))} {b : Bool} {nc nf ns nr no n0 n1 : Nat} (W : Wo w B tl s.heap)
    (hc : (cA, listOf cv.toArray nc) ∈ tl) (hcI : IntsAre cv cs) (hcl : cs.length ≤ 60) (hcp : cs.Pairwise (· < ·)) (hf : (fA, listOf fv.toArray nf) ∈ tl) (hfI : IntsAre fv fs) (hfl : fs.length ≤ 100) (hs : (sA, listOf sv.toArray ns) ∈ tl) (hsI : IntsAre sv ss) (hsl : ss.length ≤ 100)
    (hr : (rA, listOf rv.toArray nr) ∈ tl) (hrA : AtAll (CRow tl) rv rows) (hrl : rv.length ≤ 8)
    (ho : (oA, listOf ([.ref o0, .ref o1] : List Value).toArray no) ∈ tl) (h0 : (o0, listOf v0.toArray n0) ∈ tl) (h0I : IntsAre v0 os0) (h1 : (o1, listOf v1.toArray n1) ∈ tl) (h1I : IntsAre v1 os1)
    (l0 : os0.length = rows.length) (l1 : os1.length ≤ 8) (b0 : ∀ c ∈ os0, 0 ≤ c ∧ c < rows.length) (b1 : ∀ c ∈ os1, 0 ≤ c ∧ c < os1.length) (hrow : ∀ r ∈ rows, r.length = os1.length)
    (lay0 : PyData.layable0 (.list (os0.map .int)) = true) (lay1 : PyData.layable0 (.list (os1.map .int)) = true) (all0 : ∀ c : Int, 0 < c → c < os0.length → c ∈ os0) (all1 : ∀ c : Int, 0 < c → c < os1.length → c ∈ os1) :
    Spec w 8 535 ⟨[.ref cA, .ref fA, .ref sA, .ref rA, .ref oA, .bool b], []⟩ s [] tl (QPC w { cov := cs, F := clsI fs os0 fs.length, G := clsI ss os1 ss.length, rows := tabRows rows os0 os1, sec := b || (tabRows rows os0 os1).flatten.any fun p => decide (p.2 ≠ (0, 0, 0, 0)) }) := by
  have e0 : ([.ref o0, .ref o1] : List Value)[(0 : Int).toNat]? = some (.ref o0) := rfl
  have e1 : ([.ref o0, .ref o1] : List Value)[(1 : Int).toNat]? = some (.ref o1) := rfl
  intro dp un fr gd R hR hret
  k_extra "mine enterC"
  rename_i mean mg mb g0 L0 h00 tk0 F0 X0 T0 kg0 l10 oc1 oc2 d1 d2 N0
  replace d1 : oc1.data = .cell (some (.ref oA)) := d1
  replace d2 : oc2.data = .cell (some (.ref rA)) := d2
  obtain ⟨m0, F1, em⟩ := fr_gen F0
  clear F0
  have hm1 : m0 "covered" = some (.ref cA) := by rw [em]; rfl
  have hm2 : m0 "firsts" = some (.ref fA) := by rw [em]; rfl
  have hm3 : m0 "seconds" = some (.ref sA) := by rw [em]; rfl
  have hm4 : m0 "is_told" = some (.bool b) := by rw [em]; rfl
  clear em
  k_extra "mine steps"
  refine Assign_ListComp_C F1 (by rfl) (by rfl) (fun _ => rfl) (fun _ => rfl) (by rfl) (by decide) (by rfl) (by rfl) ?_
  k_extra "mine steps"
  refine pyIter_listK N0 (List.mem_cons_of_mem _ (List.mem_cons_of_mem _ h0)) ?_
  have hl0 := h0I.length
  have hl1 := h1I.length
  have hlr := hrA.1
  refine ⟨_, _, _, fun i ys tl' => AtAll (MRow tl') ys (tabRows rows (os0.take i) os1), for_list (st := []) rfl F1 N0 (List.mem_cons_of_mem _ (List.mem_cons_of_mem _ h0)) (fun _ h => nomatch h), by omega, AtAll.nil, ?_, ?_⟩
  ·
    clear F1 N0
    rintro g C cc oc vo i v ys m₁ tl₁ h₁ tk₁ kept hg hi hP hJ hbase hd hne F2 N2
    obtain ⟨ti, hx⟩ := ints_at h0I (k := i) (by omega)
    rw [show v0[i]? = some v from hP] at hx
    obtain rfl := Option.some.inj hx
    have hcm : os0.getD i 0 ∈ os0 := by simp [List.getD, show i < os0.length by omega]
    obtain ⟨bc0, bc1⟩ := b0 _ hcm
    obtain ⟨row, hrw, l, us, nu, erv, hlm, hus, hul⟩ := hrA.2 (os0.getD i 0).toNat _ (List.getElem?_eq_getElem (by omega))
    have erv' : rv[(os0.getD i 0).toNat]? = some (.ref l) := by rw [← erv]; exact List.getElem?_eq_getElem (by omega)
    have hrwl : row.length = os1.length := hrow _ (List.mem_of_getElem? hrw)
    have e_row : rows.getD (os0.getD i 0).toNat [] = row := by rw [List.getD, hrw]; rfl
    have X2 := X0.keeps hg
    have T2 := T0.keeps hg
    have up1 : ∀ p ∈ tl, p ∈ tl₁ := fun p hp => hbase p (List.mem_cons_of_mem _ (List.mem_cons_of_mem _ hp))
    refine cell_assign F2 N2 hd hne rfl rfl rfl ?_
    intro h3 oc3 F3 N3 hd3
    replace F3 : Fr g C h3 _ := F3
    replace N3 : News g C h3 _ := N3
    clear F2 N2
    refine tests_nil ?_
    simp only [if_true]
    have mo : (L0 + 1 + 1, oc1) ∈ ((cc, oc3) :: (kept ++ tl₁)) := List.mem_cons_of_mem _ (List.mem_append_right _ (hbase _ (by simp)))
    have mo2 : (oA, listOf ([.ref o0, .ref o1] : List Value).toArray no) ∈ ((cc, oc3) :: (kept ++ tl₁)) := List.mem_cons_of_mem _ (List.mem_append_right _ (up1 _ ho))
    have mo3 : (o1, listOf v1.toArray n1) ∈ (kept ++ tl₁) := List.mem_append_right _ (up1 _ h1)
    refine ListComp_S F3 (by rfl) (by decide) (by rfl) (by decide) ?_
    k_extra "mine steps"
    refine pyIter_listK N3 (List.mem_cons_of_mem _ mo3) ?_
    have hap : ∀ p ∈ ([(cc, oc3)] : Wd), ∀ q ∈ kept ++ tl₁, q.1 ≠ p.1 := fun p hp q hq => by rw [List.mem_singleton.mp hp]; exact hne q hq
    refine ⟨_, _, [(cc, oc3)], kept ++ tl₁, TabJ cc oc3 kept tl₁ row os1, for_list (st := [(cc, oc3)]) (base := kept ++ tl₁) rfl F3 N3 mo3 hap, by omega, ⟨rfl, tl₁, rfl, fun _ h => h, fun _ h => .inl h, AtAll.nil⟩, hap, ?_, ?_⟩
    · clear F3 N3
      rintro g2 C2 i2 v2 ys2 m2 st2 tl2 h2 tk2 kept2 hg2 hi2 hP2 ⟨rfl, tl3, rfl, s3, f3, hA3⟩ hbase2 hap2 F4 N4
      obtain ⟨tj, hy⟩ := ints_at h1I (k := i2) (by omega)
      rw [show v1[i2]? = some v2 from hP2] at hy
      obtain rfl := Option.some.inj hy
      have hdm : os1.getD i2 0 ∈ os1 := by simp [List.getD, show i2 < os1.length by omega]
      obtain ⟨bd0, bd1⟩ := b1 _ hdm
      obtain ⟨cell, hcell, t, nt, eus, htm, hM1, hM2⟩ := hus.2 (os1.getD i2 0).toNat _ (List.getElem?_eq_getElem (by rw [hus.1]; omega))
      have eus' : us[(os1.getD i2 0).toNat]? = some (.ref t) := by rw [← eus]; exact List.getElem?_eq_getElem (by rw [hus.1]; omega)
      have e_cell : row.getD (os1.getD i2 0).toNat (492, 492) = cell := by rw [List.getD, hcell]; rfl
      have X3 := X2.keeps hg2
      have T3 := T2.keeps hg2
      have up3 : ∀ p ∈ tl3, p ∈ ((cc, oc3) :: (kept2 ++ (kept ++ tl3))) := fun p hp => List.mem_cons_of_mem _ (List.mem_append_right _ (List.mem_append_right _ hp))
      have w1 := up3 _ (s3 _ (hbase (L0 + 1, oc2) (by simp)))
      have w2 := up3 _ (s3 _ (up1 _ hr))
      have w3 := up3 _ (s3 _ (up1 _ hlm))
      have w4 := up3 _ (s3 _ (up1 _ htm))
      have q1 : ([.ref cell.1, .ref cell.2] : List Value)[(0 : Int).toNat]? = some (.ref cell.1) := rfl
      have q2 : ([.ref cell.1, .ref cell.2] : List Value)[(1 : Int).toNat]? = some (.ref cell.2) := rfl
      refine blk_assign F4 N4 rfl rfl ?_
      intro h5 F5 N5
      replace F5 : Fr g2 C2 h5 _ := F5
      replace N5 : News g2 C2 h5 _ := N5
      clear F4 N4
      dsimp only [List.cons_append, List.nil_append] at N5
      refine tests_nil ?_
      simp only [if_true]
      k_extra "mine steps"
      refine useB (args := ⟨[_], []⟩) F5 N5 (value_spec ((wo_of F5 N5 X3 T3).sub up3) hM1) up3 (by k_extra "mine room") ?_
      rintro v6 tl6 h6 tk6 ⟨x6, rfl, hv6⟩ F6 N6 s6 f6
      clear F5 N5
      k_extra "mine steps"
      refine useB (args := ⟨[_], []⟩) F6 N6 (value_spec ((wo_of F6 N6 X3 T3).sub fun p hp => List.mem_append_left _ hp) hM2) (fun p hp => List.mem_append_left _ hp) (by k_extra "mine room") ?_
      rintro v7 tl7 h7 tk7 ⟨x7, rfl, hv7⟩ F7 N7 s7 f7
      clear F6 N6
      k_extra "mine steps"
      rename_i D9 h9 F9 N9 l9
      have fr : FreshOf tl3 ((D9, tupOf [.ref x6, .ref x7] 0) :: tl7) ((cc, oc3) :: (kept2 ++ (kept ++ tl3))) := (FreshOf.trans f6 f7).cons' fun p hp => l9 p (List.mem_append_right _ (List.mem_append_right _ hp))
      refine ⟨_, _, _, [(cc, oc3)], kept ++ ((D9, tupOf [.ref x6, .ref x7] 0) :: tl7), rfl, F9, fun p hp => N9 p ?_, rfl, fun p hp => ?_, fun p hp => ?_, rfl, (D9, tupOf [.ref x6, .ref x7] 0) :: tl7, rfl, fun p hp => List.mem_cons_of_mem _ (s7 _ (s6 _ (s3 _ hp))), fun p hp => ?_, ?_⟩
      · exact mem_of_sub (by k_extra "mine sub") hp
      · rcases List.mem_append.mp hp with h | h
        · exact List.mem_append_left _ h
        · exact List.mem_append_right _ (List.mem_cons_of_mem _ (s7 _ (s6 _ h)))
      · rcases List.mem_append.mp hp with h | h
        · exact .inl (List.mem_append_left _ h)
        · refine (fr p h).imp (fun h => List.mem_append_right _ h) fun h q hq => h q ?_
          rcases List.mem_cons.mp hq with rfl | hq
          · exact List.mem_cons_self ..
          · exact List.mem_cons_of_mem _ (List.mem_append_left _ hq)
      · rcases fr p hp with h | h
        · exact f3 p h
        · refine .inr fun q hq => h q ?_
          rcases List.mem_cons.mp hq with rfl | hq
          · exact List.mem_cons_self ..
          · exact List.mem_cons_of_mem _ (List.mem_append_right _ (List.mem_append_left _ hq))
      · rw [tabRow_succ (by omega), e_cell]
        refine (hA3.mono fun _ _ q => q.mono fun p hp => List.mem_cons_of_mem _ (s7 _ (s6 _ hp))).append (AtAll.one ⟨_, x6, x7, 0, rfl, List.mem_cons_self .., ?_, ?_⟩)
        · exact IsObj.mono hv6 fun p hp => List.mem_cons_of_mem _ (s7 _ hp)
        · exact IsObj.mono hv7 fun p hp => List.mem_cons_of_mem _ hp
    · clear F3 N3
      rintro D2 h6 tk6 st6 tl6 ys6 k6 F6 N6 - hap6 hD6 hb6 ⟨rfl, tl3, rfl, s3, f3, hA3⟩ F7 N7
      rw [hl1, List.take_length] at hA3
      have lD : ∀ q ∈ (cc, oc3) :: kept, q.1 ≠ D2 := fun q hq => by
        refine hD6 q ?_
        rcases List.mem_cons.mp hq with rfl | hq
        · simp
        · exact List.mem_append_right _ (List.mem_append_left _ hq)
      have cv : ∀ a : Addr, (∀ q ∈ (cc, oc3) :: kept, q.1 ≠ a) → ∀ q ∈ [(cc, oc)] ++ kept, q.1 ≠ a := fun a h q hq => by
        rcases List.mem_cons.mp hq with rfl | hq
        · exact h (cc, oc3) (List.mem_cons_self ..)
        · exact h q (List.mem_cons_of_mem _ hq)
      refine ⟨_, _, _, [(cc, oc3)], (D2, listOf ys6.toArray k6) :: tl3, rfl, F7, fun p hp => N7 p ?_, rfl, fun p hp => List.mem_cons_of_mem _ (s3 p hp), fun p hp => ?_, oc3, _, rfl, hd3, ?_⟩
      · exact mem_of_sub (by k_extra "mine sub") hp
      · rcases List.mem_cons.mp hp with rfl | hp
        · exact .inr (cv _ lD)
        · exact (f3 p hp).imp id (cv _)
      · rw [tabRows_succ (by omega), e_row]
        refine (hJ.mono fun _ _ q => q.mono fun p hp => List.mem_cons_of_mem _ (s3 p hp)).append (AtAll.one ⟨D2, ys6, k6, rfl, List.mem_cons_self .., hA3.mono fun _ _ q => q.mono fun p hp => List.mem_cons_of_mem _ hp, ?_⟩)
        rw [hA3.1]; unfold tabRow; simp; omega
  · clear F1 N0
    rintro D h' tk tl' ys k - - hD hb hJ h2 F2 N2
    rw [hl0, List.take_length] at hJ
    have up : ∀ p ∈ tl, p ∈ tl' := fun p hp => hb p (List.mem_cons_of_mem _ (List.mem_cons_of_mem _ hp))
    have u1 := hb (L0 + 1 + 1, oc1) (by simp)
    have u2 := up _ ho
    have u3 := up _ hf
    have u4 := up _ hs
    have u5 := up _ h0
    have u6 := up _ h1
    k_extra "mine steps"
    refine useB (args := ⟨[_], []⟩) F2 N2 (covof_spec ((wo_of F2 N2 X0 T0).sub fun p hp => List.mem_cons_of_mem _ hp) (up _ hc) hcI hcl hcp) (fun p hp => List.mem_cons_of_mem _ hp) (by k_extra "mine room") ?_
    rintro v3 tl3 h3 tk3 ⟨x3, rfl, hv3⟩ F3 N3 s3 f3
    clear F2 N2
    k_extra "mine steps"
    refine useB (args := ⟨[_, _], []⟩) F3 N3 (classes_spec ((wo_of F3 N3 X0 T0).sub fun p hp => List.mem_append_left _ hp) (s3 _ u3) (s3 _ u5) hfI h0I hfl (by omega) lay0 all0) (fun p hp => List.mem_append_left _ hp) (by k_extra "mine room") ?_
    rintro v4 tl4 h4 tk4 ⟨x4, rfl, hv4⟩ F4 N4 s4 f4
    clear F3 N3
    k_extra "mine steps"
    refine useB (args := ⟨[_, _], []⟩) F4 N4 (classes_spec ((wo_of F4 N4 X0 T0).sub fun p hp => List.mem_append_left _ hp) (s4 _ (s3 _ u4)) (s4 _ (s3 _ u6)) hsI h1I hsl (by omega) lay1 all1) (fun p hp => List.mem_append_left _ hp) (by k_extra "mine room") ?_
    rintro v5 tl5 h5 tk5 ⟨x5, rfl, hv5⟩ F5 N5 s5 f5
    clear F4 N4
    k_extra "mine steps"
    have hN6 := N5
    refine ListComp_S F5 (by rfl) (by decide) (by rfl) (by decide) ?_
    k_extra "mine steps"
    have mD : (D, listOf ys.toArray k) ∈ tl5 ++ (tl4 ++ (tl3 ++ (D, listOf ys.toArray k) :: tl')) := by simp
    refine pyIter_listK N5 mD ?_
    have hl6 := hJ.1
    refine ⟨_, _, [], _, fun i2 ys2 st tl2 => st = [] ∧ AtAll (RowAt tl2) ys2 ((tabRows rows os0 os1).take i2), for_list (st := []) rfl F5 N5 mD (fun _ h => nomatch h), ?_, ⟨rfl, AtAll.nil⟩, (fun _ h => nomatch h), ?_, ?_⟩
    · unfold tabRows at hl6; simp at hl6; omega
    · rintro g2 C2 i2 v2 ys2 m2 st2 tl2 h2 tk2 kept2 hg2 hi2 hP2 ⟨rfl, hA3⟩ hbase2 hap2 F6 N6
      obtain ⟨r, hr6, l, us, n, rfl, hl, hus, hul⟩ := hJ.2 i2 v2 hP2
      have hl7 := hbase2 _ (List.mem_append_left _ (s5 _ (s4 _ (s3 _ hl))))
      refine blk_assign F6 N6 rfl rfl ?_
      intro h7 F7 N7
      replace F7 : Fr g2 C2 h7 _ := F7
      replace N7 : News g2 C2 h7 _ := N7
      clear F6 N6
      have X2 := X0.keeps hg2
      have T2 := T0.keeps hg2
      have hl8 : (l, listOf us.toArray n) ∈ [] ++ (kept2 ++ tl2) := List.mem_append_right _ (List.mem_append_right _ hl7)
      refine tests_nil ?_
      simp only [if_true]
      k_extra "mine steps"
      refine kde_tupleOf (zs := us) F7 N7 (News.isList N7 hl8) (by rw [List.size_toArray]; omega) rfl ?_
      intro D8 h8 F8 N8 l8
      have up8 : ∀ p ∈ tl', p ∈ (D8, tupOf us 0) :: tl2 := fun p hp => List.mem_cons_of_mem _ (hbase2 _ (List.mem_append_left _ (s5 _ (s4 _ (s3 _ hp)))))
      refine ⟨_, _, _, [], (D8, tupOf us 0) :: tl2, rfl, F8, fun p hp => N8 p ?_, rfl, fun p hp => List.mem_cons_of_mem _ hp, fun p hp => ?_, rfl, ?_⟩
      · exact mem_of_sub (by k_extra "mine sub") hp
      · rcases List.mem_cons.mp hp with rfl | hp
        · exact .inr fun q hq => Nat.ne_of_lt (l8 q (List.mem_append_right _ (List.mem_append_left _ hq)))
        · exact .inl hp
      · rw [List.take_add_one, hr6]
        exact (hA3.mono fun _ _ q => q.mono fun p hp => List.mem_cons_of_mem _ hp).append (AtAll.one ⟨D8, us, 0, rfl, List.mem_cons_self .., hus.mono fun _ _ q => q.mono up8, by omega⟩)
    · clear F5 N5
      rintro D6 h6 tk6 st6 tl6 ys6 k6 F6 N6 - - - hb6 ⟨rfl, hA6⟩ F7 N7
      rw [hl6, List.take_length] at hA6
      k_extra "mine steps"
      have hrl6 : (tabRows rows os0 os1).length ≤ 8 := by unfold tabRows; simp; omega
      have hr8 : ∀ r ∈ tabRows rows os0 os1, r.length ≤ 8 := fun r hr => by
        unfold tabRows at hr
        obtain ⟨c, _, rfl⟩ := List.mem_map.mp hr
        unfold tabRow; simp; omega
      refine kde_tupleOf (zs := ys6) F7 N7 (News.isList N7 (List.mem_cons_self ..)) (by rw [List.size_toArray, hA6.1]; omega) rfl ?_
      intro D8 h8 F8 N8 l8
      clear F7 N7
      k_extra "mine steps"
      have mT : (D8, tupOf ys6 0) ∈ (D8, tupOf ys6 0) :: tl6 := List.mem_cons_self ..
      have sT : ∀ p ∈ (D8, tupOf ys6 0) :: tl6, p ∈ (D8, ({ cls := .type "tuple", data := .seq ys6.toArray } : Obj)) :: (D6, listOf ys6.toArray k6) :: ([] ++ tl6) := fun p hp => by
        rcases List.mem_cons.mp hp with rfl | hp
        · exact List.mem_cons_self ..
        · exact List.mem_cons_of_mem _ (List.mem_cons_of_mem _ hp)
      refine useB (args := ⟨[_, _, _, _, _], []⟩) F8 N8 (pc_make ((wo_of F8 N8 X0 T0).sub sT) mT (hA6.mono fun _ _ q => q.mono fun p hp => List.mem_cons_of_mem _ hp) hrl6 hr8) sT (by k_extra "mine room") ?_
      rintro v9 tl9 h9 tk9 ⟨x, dx, es, n, tl₀, rfl, rfl, m1, m2, m3, hF, rfl⟩ F9 N9 s9 f9
      clear F8 N8
      have N9' : News g0 _ h9 ([] ++ ((dx, dictOf es n) :: (x, instObj 321 dx) :: (D8, tupOf ys6 0) :: tl6)) := fun p hp => N9 p (List.mem_append_left _ hp)
      have upA : ∀ p ∈ tl5, p ∈ (dx, dictOf es n) :: (x, instObj 321 dx) :: (D8, tupOf ys6 0) :: tl6 := fun p hp => s9 _ (List.mem_cons_of_mem _ (hb6 _ (List.mem_append_left _ hp)))
      obtain ⟨st, gr, ho⟩ := leaveG (own := []) (own' := []) (tl := tl) W.at_ kg0 F9 N9' (fun p hp => upA _ (s5 _ (s4 _ (s3 _ (up _ hp))))) (fun _ _ h => nomatch h)
      refine hret _ _ _ _ st gr ⟨x, rfl, x3, x4, x5, D8, ys6, 0, ⟨dx, es, n, List.mem_cons_of_mem _ (List.mem_cons_self ..), List.mem_cons_self .., hF⟩, hv3.mono fun p hp => upA _ (s5 _ (s4 _ hp)), hv4.mono fun p hp => upA _ (s5 _ hp), hv5.mono upA, List.mem_cons_of_mem _ (List.mem_cons_of_mem _ (List.mem_cons_self ..)), hA6.mono fun _ _ q => q.mono fun p hp => s9 _ (List.mem_cons_of_mem _ hp), by rw [hA6.1]; omega, fun i => clsI_nonneg _ _ _ i, fun i => clsI_nonneg _ _ _ i⟩

/-- what apply_pair does with a row -/
def applyF (D : Int → Int → Option PP) (b : Bool) (is : List II) (a : Nat) : List II × Int :=
  match is[a]?, is[a + 1]? with
  | some i1, some i2 => match D i1.gl i2.gl with
    | none => (is, -1)
    | some p => ((is.set a (addV i1 p.1)).set (a + 1) (addV { i2 with un := true } p.2), if b = true then (a : Int) + 1 + 1 else (a : Int) + 1)
  | _, _ => (is, -1)
theorem tr_get {T : TR} {a : Nat} (h : a < T.length) : ∃ x d es, T[a]? = some (x, d, es) := ⟨T[a].1, T[a].2.1, T[a].2.2, List.getElem?_eq_getElem h⟩
theorem tr_ne {T : TR} {a a' : Nat} {t t' : Addr × Addr × List DictEntry} (hN : (T.map fun t => t.2.1).Nodup) (h : T[a]? = some t) (h' : T[a']? = some t') (hne : a ≠ a') : t.2.1 ≠ t'.2.1 := by
  obtain ⟨l, e⟩ := List.getElem?_eq_some_iff.mp h
  obtain ⟨l', e'⟩ := List.getElem?_eq_some_iff.mp h'
  have hp := List.pairwise_iff_getElem.mp hN
  rcases Nat.lt_or_ge a a' with q | q
  · have := hp a a' (by simpa using l) (by simpa using l') q
    simpa [e, e'] using this
  · have := hp a' a (by simpa using l') (by simpa using l) (by omega)
    simpa [e, e'] using Ne.symm this
theorem set_self {α : Type} {l : List α} {k : Nat} {v : α} (h : l[k]? = some v) : l.set k v = l := by
  obtain ⟨q, e⟩ := List.getElem?_eq_some_iff.mp h
  rw [← e, List.set_getElem_self]
inductive Qapplyt_spec (tl : Wd) (T : TR) (is : List II) (a : Nat) (t : Tok) (D : Int → Int → Option PP) (bs : Bool) (r : Value) (tl' : Wd) (h' : Heap) : Prop
  | mk : tl' = tl → ∀ T' t', T'.map (fun t => t.1) = T.map (fun t => t.1) → T'.map (fun t => t.2.1) = T.map (fun t => t.2.1) → (∀ p ∈ dictsT T', h'.get? p.1 = some p.2) → FldsT T' (applyF D bs is a).1 ∧ r = .int (applyF D bs is a).2 t' → Qapplyt_spec tl T is a t D bs r tl' h'
theorem applyt_spec {w : World} {B : Heap} {s : Shared} {tl : Wd} {x b row tb : Addr} {T : TR} {is : List II} {n a : Nat} {t : Tok} {D : Int → Int → Option PP} {bs : Bool} (W : Wo w B (dictsT T ++ tl) s.heap) (hx : IsScene w tl x b row) (hr : (row, listOf (T.map fun t => Value.ref t.1).toArray n) ∈ tl)
    (ht : IsTab w tl tb D bs) (hi : ∀ p ∈ instsT T, p ∈ tl) (hG : ∀ p ∈ dictsT T, ∀ q ∈ tl, q.1 ≠ p.1) (hN : (T.map fun t => t.2.1).Nodup) (hF : FldsT T is) (hcl : ∀ (j : Nat) i, is[j]? = some i → i.cl = j) (hz : T.length ≤ 1000) (hlt : a < T.length) :
    Spec w 7 339 ⟨[.ref x, .ref tb, .int a t], []⟩ s (T.map fun t => t.2.1) tl (Qapplyt_spec tl T is a t D bs) := by
  intro dp un fr gd R hR hret
  have hlen : (T.map fun t => Value.ref t.1).length = T.length := by simp
  have hisl : is.length = T.length := hF.1.symm
  have info : ∀ (tl2 : Wd), (∀ p ∈ dictsT T, p ∈ tl2) → (∀ p ∈ tl, p ∈ tl2) → AtAll (InfoV tl2) (T.map fun t => Value.ref t.1) is := fun tl2 h1 h2 => by
    refine ⟨by rw [hlen, hisl], fun j v e => ?_⟩
    rw [List.getElem?_map] at e
    cases hT : T[j]? with
    | none => rw [hT] at e; cases e
    | some t0 =>
      rw [hT] at e
      cases e
      obtain ⟨i, ei, fi⟩ := hF.2 j t0 hT
      have hm := List.mem_of_getElem? hT
      exact ⟨i, ei, t0.1, rfl, t0.2.1, t0.2.2, 16, h2 _ (hi _ (mem_instsT.mpr ⟨t0, hm, rfl⟩)), h1 _ (mem_dictsT.mpr ⟨t0, hm, rfl⟩), fi⟩
  by_cases hl : a + 1 < T.length
  · obtain ⟨x1, d1, e1, g1⟩ := tr_get hlt
    obtain ⟨x2, d2, e2, g2⟩ := tr_get hl
    obtain ⟨i1, gi1, F1⟩ := hF.2 _ _ g1
    obtain ⟨i2, gi2, F2⟩ := hF.2 _ _ g2
    have hd : d1 ≠ d2 := tr_ne hN g1 g2 (by omega)
    have m1 := List.mem_of_getElem? g1
    have m2 := List.mem_of_getElem? g2
    have c1 := hcl _ _ gi1
    have c2 := hcl _ _ gi2
    have md1 : (d1, dictOf e1 16) ∈ dictsT T := mem_dictsT.mpr ⟨_, m1, rfl⟩
    have md2 : (d2, dictOf e2 16) ∈ dictsT T := mem_dictsT.mpr ⟨_, m2, rfl⟩
    obtain ⟨rest, hrest⟩ : ∃ rest, rest = (dictsT T).filter fun p => decide (p.1 ≠ d1) && decide (p.1 ≠ d2) := ⟨_, rfl⟩
    have hr1 : ∀ p ∈ rest, p ∈ dictsT T ∧ p.1 ≠ d1 ∧ p.1 ≠ d2 := fun p hp => by
      rw [hrest] at hp
      obtain ⟨q1, q2⟩ := List.mem_filter.mp hp
      simp only [Bool.and_eq_true, decide_eq_true_eq] at q2
      exact ⟨q1, q2⟩
    have hr2 : ∀ p ∈ dictsT T, p.1 ≠ d1 → p.1 ≠ d2 → p ∈ rest := fun p hp q1 q2 => by
      rw [hrest]
      exact List.mem_filter.mpr ⟨hp, by simp [q1, q2]⟩
    have hall : ∀ p ∈ dictsT T, p ∈ ([(d1, dictOf e1 16), (d2, dictOf e2 16)] ++ (rest ++ tl) : Wd) := fun p hp => by
      obtain ⟨t0, ht0, rfl⟩ := mem_dictsT.mp hp
      obtain ⟨j, hj, ej⟩ := List.getElem_of_mem ht0
      have gj : T[j]? = some t0 := by rw [List.getElem?_eq_getElem hj, ej]
      by_cases q1 : j = a
      · subst q1
        rw [g1] at gj; cases gj
        exact List.mem_append_left _ (List.mem_cons_self ..)
      · by_cases q2 : j = a + 1
        · subst q2
          rw [g2] at gj; cases gj
          exact List.mem_append_left _ (List.mem_cons_of_mem _ (List.mem_cons_self ..))
        · exact List.mem_append_right _ (List.mem_append_left _ (hr2 _ hp (tr_ne hN gj g1 q1) (tr_ne hN gj g2 q2)))
    have W1 : Wo w B ([(d1, dictOf e1 16), (d2, dictOf e2 16)] ++ (rest ++ tl)) s.heap := W.sub fun p hp => by
      rcases List.mem_append.mp hp with q | q
      · refine List.mem_append_left _ ?_
        rcases List.mem_cons.mp q with rfl | q
        · exact md1
        · rw [List.mem_singleton.mp q]; exact md2
      · rcases List.mem_append.mp q with q | q
        · exact List.mem_append_left _ (hr1 p q).1
        · exact List.mem_append_right _ q
    have up : ∀ p ∈ tl, p ∈ rest ++ tl := fun p hp => List.mem_append_right _ hp
    have n1 : ∀ p ∈ rest ++ tl, p.1 ≠ d1 := fun p hp => (List.mem_append.mp hp).elim (fun q => (hr1 p q).2.1) (fun q => hG _ md1 p q)
    have n2 : ∀ p ∈ rest ++ tl, p.1 ≠ d2 := fun p hp => (List.mem_append.mp hp).elim (fun q => (hr1 p q).2.2) (fun q => hG _ md2 p q)
    have v1 : (T.map fun t => Value.ref t.1)[((a : Nat) : Int).toNat]? = some (.ref x1) := by rw [Int.toNat_natCast, List.getElem?_map, g1]; rfl
    have v2 : (T.map fun t => Value.ref t.1)[((a : Nat) : Int).toNat + 1]? = some (.ref x2) := by rw [Int.toNat_natCast, List.getElem?_map, g2]; rfl
    refine apply1_spec W1 (hx.mono up) (up _ hr) (info _ hall fun p hp => List.mem_append_right _ (up p hp)) (ht.mono up) (up _ (hi _ (mem_instsT.mpr ⟨_, m1, rfl⟩))) (up _ (hi _ (mem_instsT.mpr ⟨_, m2, rfl⟩))) F1 F2 (by rw [c1, c2]; omega) (by omega) (by rw [hlen]; omega) (by omega) v1 v2 n1 n2 hd dp un fr gd R hR ?_
    rintro v tl' h' tk st gr ⟨rfl, t', es1, es2, a1, a2, hD⟩
    refine hret v tl h' tk (st.mono fun b hb => ?_) ⟨fun _ h => h, fun p hp => gr.at_ p (up p hp), fun _ h => .inl h⟩ ⟨rfl, setT (setT T a es1) (a + 1) es2, t', ?_, ?_, ?_, ?_⟩
    · rcases List.mem_cons.mp hb with rfl | hb
      · exact List.mem_map.mpr ⟨_, m1, rfl⟩
      · rw [List.mem_singleton.mp hb]; exact List.mem_map.mpr ⟨_, m2, rfl⟩
    · rw [setT_map0, setT_map0]
    · rw [setT_map2, setT_map2]
    · intro p hp
      obtain ⟨t0, ht0, rfl⟩ := mem_dictsT.mp hp
      obtain ⟨j, hj, ej⟩ := List.getElem_of_mem ht0
      have gj : (setT (setT T a es1) (a + 1) es2)[j]? = some t0 := by rw [List.getElem?_eq_getElem hj, ej]
      unfold setT at gj
      rw [List.getElem?_modify, List.getElem?_modify] at gj
      by_cases q2 : a + 1 = j
      · subst q2
        rw [g2] at gj
        simp at gj
        subst gj
        exact a2
      · by_cases q1 : a = j
        · subst q1
          rw [g1] at gj
          simp at gj
          subst gj
          exact a1
        · simp only [q1, q2, if_false] at gj
          simp at gj
          exact gr.at_ _ (List.mem_append_left _ (hr2 _ (mem_dictsT.mpr ⟨t0, List.mem_of_getElem? gj, rfl⟩) (tr_ne hN gj g1 (Ne.symm q1)) (tr_ne hN gj g2 (Ne.symm q2))))
    · unfold applyF
      rw [gi1, gi2]
      dsimp only
      cases hDD : D i1.gl i2.gl with
      | none =>
        rw [hDD] at hD
        obtain ⟨rfl, G1, G2⟩ := hD
        refine ⟨?_, rfl⟩
        have := (hF.set (k := a) G1).set (k := a + 1) G2
        rwa [set_self gi1, set_self gi2] at this
      | some p =>
        rw [hDD] at hD
        obtain ⟨rfl, G1, G2⟩ := hD
        exact ⟨(hF.set G1).set G2, rfl⟩
  · have hle : (a : Int) + 1 = (T.map fun t => Value.ref t.1).length := by rw [hlen]; omega
    have up : ∀ p ∈ tl, p ∈ dictsT T ++ tl := fun p hp => List.mem_append_right _ hp
    refine apply2_spec W (hx.mono up) (up _ hr) (info _ (fun p hp => List.mem_append_left _ hp) up) (ht.mono up) (by omega) hle (by omega) dp un fr gd R hR ?_
    rintro v tl' h' tk st gr ⟨t', rfl, rfl⟩
    have e : applyF D bs is a = (is, -1) := by
      unfold applyF
      rw [List.getElem?_eq_none (l := is) (i := a + 1) (by omega)]
      cases is[a]? <;> rfl
    refine hret _ tl h' tk (st.mono fun b hb => nomatch hb) ⟨fun _ h => h, fun p hp => gr.at_ p (up p hp), fun _ h => .inl h⟩ ⟨rfl, T, t', rfl, rfl, fun p hp => gr.at_ p (List.mem_append_left _ hp), ?_, ?_⟩
    · rw [e]; exact hF
    · rw [e]

structure MS where
  is : List II
  at_ : Nat
  steps : List Int
def stepF (D : Int → Int → Option PP) (b : Bool) (s : MS) : MS := if s.at_ < s.is.length then ⟨(applyF D b s.is s.at_).1, (max (applyF D b s.is s.at_).2 ((s.at_ : Int) + 1)).toNat, s.steps ++ [(applyF D b s.is s.at_).2]⟩ else s
def iterF {α : Type} (f : α → α) : Nat → α → α
  | 0, a => a
  | n + 1, a => f (iterF f n a)
def infos0 (gl : List Int) : List II := gl.zipIdx.map fun x => ⟨x.1, (x.2 : Int), 0, 0, 0, 0, false⟩
def movedF (D : Int → Int → Option PP) (b : Bool) (gl : List Int) : MS := iterF (stepF D b) gl.length ⟨infos0 gl, 0, []⟩
def d7 (i : II) : PyData := .tuple [.int i.gl, .int i.cl, .int i.xa, .int i.ya, .int i.xo, .int i.yo, .bool i.un]
def mData (s : MS) : PyData := .tuple [.list (s.is.map d7), .list (s.steps.map .int)]
theorem infos0_take {gl : List Int} {i : Nat} (h : i < gl.length) : infos0 (gl.take (i + 1)) = infos0 (gl.take i) ++ [⟨gl.getD i 0, (i : Int), 0, 0, 0, 0, false⟩] := by
  unfold infos0
  rw [List.take_add_one, List.zipIdx_append, List.map_append]
  simp [List.getD, h]
  omega
theorem infos0_length (gl : List Int) : (infos0 gl).length = gl.length := by unfold infos0; simp
theorem applyF_len (D : Int → Int → Option PP) (b : Bool) (is : List II) (a : Nat) : (applyF D b is a).1.length = is.length := by
  unfold applyF
  cases is[a]? with
  | none => rfl
  | some i1 => cases is[a + 1]? with
    | none => rfl
    | some i2 =>
      dsimp only
      cases D i1.gl i2.gl with
      | none => rfl
      | some p => simp
theorem applyF_same (D : Int → Int → Option PP) (b : Bool) (is : List II) (a : Nat) : (applyF D b is a).1.map (fun i => (i.gl, i.cl)) = is.map (fun i => (i.gl, i.cl)) := by
  unfold applyF
  cases h1 : is[a]? with
  | none => rfl
  | some i1 => cases h2 : is[a + 1]? with
    | none => rfl
    | some i2 =>
      dsimp only
      cases D i1.gl i2.gl with
      | none => rfl
      | some p =>
        dsimp only
        rw [List.map_set, List.map_set, set_self, set_self]
        · rw [List.getElem?_map, h1]; rfl
        · rw [set_self (by rw [List.getElem?_map, h1]; rfl), List.getElem?_map, h2]; rfl
theorem stepF_same (D : Int → Int → Option PP) (b : Bool) (s : MS) : (stepF D b s).is.map (fun i => (i.gl, i.cl)) = s.is.map (fun i => (i.gl, i.cl)) := by
  unfold stepF
  split
  · exact applyF_same D b s.is s.at_
  · rfl
theorem iterF_same (D : Int → Int → Option PP) (b : Bool) (n : Nat) (s : MS) : (iterF (stepF D b) n s).is.map (fun i => (i.gl, i.cl)) = s.is.map (fun i => (i.gl, i.cl)) := by
  induction n with
  | zero => rfl
  | succ n ih => exact (stepF_same D b _).trans ih
theorem infos0_cl (gl : List Int) (j : Nat) (i : II) (h : (infos0 gl)[j]? = some i) : i.cl = j := by
  unfold infos0 at h
  rw [List.getElem?_map, List.getElem?_zipIdx] at h
  cases e : gl[j]? with
  | none => rw [e] at h; cases h
  | some g => rw [e] at h; cases h; simp
theorem same_cl {is is' : List II} (h : is'.map (fun i => (i.gl, i.cl)) = is.map (fun i => (i.gl, i.cl))) (hc : ∀ (j : Nat) i, is[j]? = some i → i.cl = j) : ∀ (j : Nat) i, is'[j]? = some i → i.cl = j := fun j i e => by
  have q := congrArg (fun l => l[j]?) h
  simp only [List.getElem?_map, e, Option.map_some] at q
  cases e' : is[j]? with
  | none => rw [e'] at q; cases q
  | some i' =>
    rw [e'] at q
    simp only [Option.map_some, Option.some.injEq, Prod.mk.injEq] at q
    rw [q.2]; exact hc j i' e'
theorem dictsT_app (T T' : TR) : dictsT (T ++ T') = dictsT T ++ dictsT T' := by unfold dictsT; rw [List.map_append]
theorem instsT_app (T T' : TR) : instsT (T ++ T') = instsT T ++ instsT T' := by unfold instsT; rw [List.map_append]
/-- the list of Infos as it is made -/
theorem infos_step {g h₂ : Heap} {C : Addr} {kept : Wd} {T : TR} {base : Wd} {x dx : Addr} {es : List DictEntry} {i : II} {m' : Str → Option Value} {gs : List II} {s₁ : Shared} {tk : Nat} {J : Option Value → Wd → Wd → Prop}
    (F : Fr g C h₂ m') (N : News g C h₂ (((dx, dictOf es 16) :: (x, instObj 52 dx) :: (dictsT T ++ (instsT T ++ base))) ++ ([] ++ (kept ++ (dictsT T ++ (instsT T ++ base))))))
    (hG : GoodT T base) (hF : FldsT T gs) (hE : Flds es (infoF i)) (m3 : ∀ p ∈ (x, instObj 52 dx) :: (dictsT T ++ (instsT T ++ base)), p.1 ≠ dx) (l1 : ∀ p ∈ dictsT T ++ (instsT T ++ base), p.1 < dx) (l2 : dx < x)
    (fr : FreshOf (dictsT T ++ (instsT T ++ base)) ((dx, dictOf es 16) :: (x, instObj 52 dx) :: (dictsT T ++ (instsT T ++ base))) ([] ++ (kept ++ (dictsT T ++ (instsT T ++ base)))))
    (hJ : ∀ T', T' = T ++ [(x, dx, es)] → GoodT T' base → FldsT T' (gs ++ [i]) → J (some (.ref x)) [] (dictsT T' ++ (instsT T' ++ base))) :
    TurnEnd g C kept [] (dictsT T ++ (instsT T ++ base)) J s₁ (some (.ref x)) { s₁ with heap := h₂, toks := tk } := by
  have e1 : dictsT (T ++ [(x, dx, es)]) = dictsT T ++ [(dx, dictOf es 16)] := dictsT_app _ _
  have e2 : instsT (T ++ [(x, dx, es)]) = instsT T ++ [(x, instObj 52 dx)] := instsT_app _ _
  have hx : ∀ p ∈ dictsT T, p.1 ≠ x := fun p hp => Nat.ne_of_lt (Nat.lt_trans (l1 p (List.mem_append_left _ hp)) l2)
  refine ⟨h₂, tk, m', [], _, rfl, F, fun p hp => N p ?_, rfl, fun p hp => ?_, fun p hp => ?_, hJ _ rfl (hG.snoc m3 hx) (hF.snoc hE)⟩
  · rw [e1, e2] at hp
    exact mem_of_sub (by k_extra "mine sub") hp
  · rw [e1, e2]
    simp only [List.mem_append] at hp ⊢
    rcases hp with h | h | h <;> simp [h]
  · rw [e1, e2] at hp
    have : p ∈ (dx, dictOf es 16) :: (x, instObj 52 dx) :: (dictsT T ++ (instsT T ++ base)) := by
      exact mem_of_sub (by k_extra "mine sub") hp
    exact (fr p this).imp id fun h q hq => h q (List.mem_append_right _ (List.mem_append_left _ (by simpa using hq)))
theorem enum_compS {w : World} {A : Around} {s : Shared} {h₀ : Heap} {L : Addr} {env : Env} {m : Str → Option Value} {st base : Wd} {scope : Scope} {cl : List (Str × Addr)} {elts ifs : List PySem.Expr} {elt : PySem.Expr} {k : Nat} {pos : Pos} {Fin : Shared → Addr → Heap → Nat → Wd → List Value → Nat → Prop} {l : Addr} {vs : List Value} {nl : Nat} (hh : A.handled = none) (F : Fr h₀ L s.heap m) (N : News h₀ L s.heap (st ++ base)) (hm : (l, listOf vs.toArray nl) ∈ base) (hap : ∀ p ∈ st, ∀ q ∈ base, q.1 ≠ p.1)
    (h : ∀ it h', ForSrc PW w A (.Tuple elts k pos) h₀ L m st base vs.length (fun i v h => ∃ T x t, v = .ref T ∧ vs[i]? = some x ∧ h.IsTuple T #[.int i t, x]) it { s with heap := h' } → CompS PW w A h₀ L env scope cl (.Tuple elts k pos) elt ifs (Fin { s with heap := h' }) m it { s with heap := h' }) :
    wpAny (model PW w) A (call (.type "enumerate") [.ref l]) (fun xv s₁ => wpAny (model PW w) A (pyIter xv) (fun it s₂ => CompS PW w A h₀ L env scope cl (.Tuple elts k pos) elt ifs (Fin s₂) m it s₂) NoE s₁) NoE s :=
  enum_for (K := fun it s₂ => CompS PW w A h₀ L env scope cl (.Tuple elts k pos) elt ifs (Fin s₂) m it s₂) hh F N hm hap h
theorem GoodT.nil {base : Wd} : GoodT [] base := ⟨(fun _ h => nomatch h), List.nodup_nil⟩
theorem FldsT.nil {gl : List Int} : FldsT [] (infos0 (gl.take 0)) := ⟨rfl, fun _ _ h => by simp at h⟩
theorem blk_store {w : World} {A : Around} {E : Value → Shared → Prop} {s : Shared} {env : Env} {g : Heap} {m : Str → Option Value} {led : Wd} {x : Str} {v : Value} {Q : Unit → Shared → Prop} (F : Fr g env.locals s.heap m) (N : News g env.locals s.heap led) (hl : env.kindOf x = some .local) (hp : (env.scope.kind == .class || (env.scope.kind == .module && env.locals != env.globals)) = false)
    (h : ∀ h', Fr g env.locals h' (fun y => if y = x then some v else m y) → News g env.locals h' led → Q () { s with heap := h', toks := s.toks + 1 }) : wpAny (model PW w) A (storeName env x v) Q E s :=
  wpAny_storeName_local hl F.ns (fun h' hn hs => h h' (F.set hn hs) (N.set hs)) hp
theorem row_j_39 : True := by
  (k_with "storeName" => (k_here; k_inBlock; (refine' blk_store (by k_asm) (by k_asm) (by rfl) (by rfl) ?_); intro _ _ _))
  trivial
theorem news_re {g : Heap} {L : Addr} {h : Heap} {led X tl' : Wd} (N : News g L h (tl' ++ led)) (h1 : ∀ p ∈ X, p ∈ led) : News g L h (X ++ tl') := fun p hp => N p (by
  rcases List.mem_append.mp hp with q | q
  · exact List.mem_append_right _ (h1 p q)
  · exact List.mem_append_left _ q)
theorem lk_flds {es : List DictEntry} {t1 t2 t3 : Tok} {v : Value} (h : Flds es [("kind", .str "pair" t1), ("flag", .int 0 t2), ("mark_set", .int 0 t3), ("tables", v)]) : Flds es [("kind", .str "pair" 0), ("flag", .int 0 0), ("mark_set", .int 0 0), ("tables", v)] := by
  cases h with | cons l1 h => cases h with | cons l2 h => cases h with | cons l3 h => cases h with | cons l4 h =>
  cases h
  exact .cons l1 (.cons l2 (.cons l3 (.cons l4 .nil)))
theorem dictsT_addr (T : TR) : (dictsT T).map (·.1) = T.map fun t => t.2.1 := by unfold dictsT; rw [List.map_map]; rfl
theorem dictsT_off {T T' : TR} (h : T'.map (fun t => t.2.1) = T.map fun t => t.2.1) {P : Addr → Prop} (a : ∀ p ∈ dictsT T, P p.1) : ∀ p ∈ dictsT T', P p.1 := fun p hp => by
  have : p.1 ∈ (dictsT T).map (·.1) := by rw [dictsT_addr, ← h, ← dictsT_addr]; exact List.mem_map_of_mem hp
  obtain ⟨q, hq, e⟩ := List.mem_map.mp this
  rw [← e]; exact a q hq
theorem stepF_pos {D : Int → Int → Option PP} {b : Bool} {s : MS} (h : s.at_ < s.is.length) : stepF D b s = ⟨(applyF D b s.is s.at_).1, (max (applyF D b s.is s.at_).2 ((s.at_ : Int) + 1)).toNat, s.steps ++ [(applyF D b s.is s.at_).2]⟩ := if_pos h
theorem stepF_neg {D : Int → Int → Option PP} {b : Bool} {s : MS} (h : ¬ s.at_ < s.is.length) : stepF D b s = s := if_neg h
theorem some_int {a b : Int} (h : a = b) (t : Tok) : some (Value.int a t) = some (Value.int b t) := by rw [h]
theorem readsAll_of {h : Heap} : ∀ {vs : List Value} {ds : List PyData}, vs.length = ds.length → (∀ (j : Nat) v, vs[j]? = some v → ∃ d as, ds[j]? = some d ∧ Reads h v d as) → ∃ as, ReadsAll h vs ds as
  | [], [], _, _ => ⟨_, .nil⟩
  | v :: vs, d :: ds, hl, H => by
    obtain ⟨d', as, e, r⟩ := H 0 v rfl
    simp only [List.getElem?_cons_zero, Option.some.injEq] at e
    subst e
    obtain ⟨bs, R⟩ := readsAll_of (vs := vs) (ds := ds) (by simpa using hl) fun j u hu => by simpa using H (j + 1) u (by simpa using hu)
    exact ⟨_, .cons r R⟩
  | [], _ :: _, hl, _ => by simp at hl
  | _ :: _, [], hl, _ => by simp at hl
theorem readsAll_ints {h : Heap} {vs : List Value} {cs : List Int} (hi : IntsAre vs cs) : ∃ as, ReadsAll h vs (cs.map .int) as := by
  induction hi with
  | nil => exact ⟨_, .nil⟩
  | cons i t _ ih => obtain ⟨as, r⟩ := ih; exact ⟨_, .cons (.int _ _) r⟩
/-- what told() and the mark make of an Info -/
inductive Told7 (tl : Wd) (v : Value) (i : II) : Prop
  | mk : ∀ t t1 t2 t3 t4 t5 t6 n, v = .ref t →
    (t, tupOf [.int i.gl t1, .int i.cl t2, .int i.xa t3, .int i.ya t4, .int i.xo t5, .int i.yo t6, .bool i.un] n) ∈ tl → Told7 tl v i
theorem Told7.mono {tl tl' : Wd} {v : Value} {i : II} (h : Told7 tl v i) (hs : ∀ p ∈ tl, p ∈ tl') : Told7 tl' v i := let ⟨t, t1, t2, t3, t4, t5, t6, n, e, m⟩ := h; ⟨t, t1, t2, t3, t4, t5, t6, n, e, hs _ m⟩
theorem rd_moved {w : World} {tl : Wd} {q d sA : Addr} {ys vs : List Value} {n n1 n2 : Nat} {ms : MS} (hq : (q, tupOf [.ref d, .ref sA] n) ∈ tl) (hd : (d, listOf ys.toArray n1) ∈ tl) (hs : (sA, listOf vs.toArray n2) ∈ tl) (hA : AtAll (Told7 tl) ys ms.is) (hI : IntsAre vs ms.steps) : RD w tl (.ref q) (mData ms) := fun h _ e => by
  obtain ⟨as, ra⟩ := readsAll_of (h := h) (vs := ys) (ds := ms.is.map d7) (by rw [List.length_map, hA.1]) fun j v hv => by
    obtain ⟨i, hi, t, t1, t2, t3, t4, t5, t6, n, rfl, hm⟩ := hA.2 j v hv
    exact ⟨d7 i, _, by rw [List.getElem?_map, hi]; rfl, .tuple (e _ hm) rfl rfl (.cons (.int _ _) (.cons (.int _ _) (.cons (.int _ _) (.cons (.int _ _) (.cons (.int _ _) (.cons (.int _ _) (.cons (.bool _) .nil)))))))⟩
  obtain ⟨bs, rb⟩ := readsAll_ints (h := h) hI
  exact ⟨_, .tuple (e _ hq) rfl rfl (.cons (.list (e _ hd) rfl rfl ra) (.cons (.list (e _ hs) rfl rfl rb) .nil))⟩

inductive MovA (tl : Wd) (gl : List Int) (i : Nat) (ys : List Value) (st tl' : Wd) : Prop
  | mk : st = [] → ∀ T : TR, ys = T.map (fun t => Value.ref t.1) → tl' = dictsT T ++ (instsT T ++ tl) → GoodT T tl → FldsT T (infos0 (gl.take i)) → MovA tl gl i ys st tl'
inductive MovB (D : Int → Int → Option PP) (bs : Bool) (gl : List Int) (T : TR) (S D1 sx tb : Addr) (i : Nat) (m : Str → Option Value) (st : Wd) : Prop
  | mk : ∀ (T' : TR) (vs : List Value) (n : Nat) (t : Tok), st = (S, listOf (List.toArray vs) n) :: dictsT T' → T'.map (fun t => t.1) = T.map (fun t => t.1) → T'.map (fun t => t.2.1) = T.map (fun t => t.2.1) → FldsT T' (iterF (stepF D bs) i ⟨infos0 gl, 0, []⟩).is → IntsAre vs (iterF (stepF D bs) i ⟨infos0 gl, 0, []⟩).steps → vs.length ≤ i →
      m "infos" = some (.ref D1) → m "scene" = some (.ref sx) → m "table" = some (.ref tb) → m "steps" = some (.ref S) → m "at" = some (.int (iterF (stepF D bs) i ⟨infos0 gl, 0, []⟩).at_ t) → MovB D bs gl T S D1 sx tb i m st
inductive MovC (is : List II) (i2 : Nat) (ys2 : List Value) (st tl2 : Wd) : Prop
  | mk : st = [] → AtAll (Told7 tl2) ys2 (is.take i2) → MovC is i2 ys2 st tl2
theorem moved_spec {w : World} {B : Heap} {s : Shared} {tl : Wd} {gA tb : Addr} {gv : List Value} {gl : List Int} {ng : Nat} {D : Int → Int → Option PP} {bs : Bool} (W : Wo w B tl s.heap) (hg : (gA, listOf gv.toArray ng) ∈ tl) (hgI : IntsAre gv gl) (hgl : gl.length ≤ 20) (ht : IsTab w tl tb D bs) :
    Spec w 9 547 ⟨[.ref gA, .ref tb], []⟩ s [] tl (fun r tl' _ => RD w tl' r (mData (movedF D bs gl))) := by
  intro dp un fr gd R hR hret
  k_extra "mine enter"
  rename_i mean mg mb g0 L0 h00 F0 N0 X0 T0 kg0 kb0 kl0
  k_extra "mine steps"
  refine Assign_ListComp_S F0 (by rfl) (by rfl) (by decide) (by rfl) (by decide) (by rfl) (by rfl) ?_
  k_extra "mine steps"
  have hgl2 := hgI.length
  refine enum_compS (st := []) (base := tl) rfl F0 N0 hg (fun _ h => nomatch h) ?_
  intro it h1 src
  refine ⟨_, _, _, _, MovA tl gl, src, by omega, ⟨rfl, [], rfl, rfl, GoodT.nil, FldsT.nil⟩, (fun _ h => nomatch h), ?_, ?_⟩
  · clear F0 N0 src
    rintro g C i v ys m₁ st₁ tl₁ h₁ tk₁ kept hg hi ⟨T0', xv, tt, rfl, hxv, hT⟩ ⟨rfl, T, rfl, rfl, hG, hF⟩ hbase hap F2 N2
    obtain ⟨t1, hx1⟩ := ints_at hgI (k := i) (by omega)
    rw [hxv] at hx1
    obtain rfl := Option.some.inj hx1
    have X2 := X0.keeps hg
    have T2 := T0.keeps hg
    refine unpackN_ F2 N2 hT rfl rfl rfl ?_
    intro h3 F3 N3
    replace F3 : Fr g C h3 _ := F3
    replace N3 : News g C h3 _ := N3
    clear F2 N2
    k_extra "mine steps"
    rename_i ha Fa Na h4 F4 N4
    replace F4 : Fr g C h4 _ := F4
    replace N4 : News g C h4 _ := N4
    clear Fa Na F3 N3
    have up : ∀ p ∈ dictsT T ++ (instsT T ++ tl), p ∈ ([] ++ (kept ++ (dictsT T ++ (instsT T ++ tl))) : Wd) := fun p hp => List.mem_append_right _ (List.mem_append_right _ hp)
    refine useB (args := ⟨[_, _, _], []⟩) F4 N4 (info16 ((wo_of F4 N4 X2 T2).sub up) _ _ _ _ _) up (by k_extra "mine room") ?_
    rintro v5 tl5 h5 tk5 ⟨x, dx, es, rfl, rfl, hE, m3, l1, l2⟩ F5 N5 s5 f5
    clear F4 N4
    refine infos_step F5 N5 hG hF hE m3 l1 l2 f5 ?_
    rintro T' rfl hG' hF'
    refine ⟨rfl, _, ?_, rfl, hG', ?_⟩
    · simp
    · rw [infos0_take (by omega)]; exact hF'
  · clear F0 N0 src
    rintro D1 h2 tk2 st2 tl2 ys k1 - - - - hD1 hb ⟨rfl, T, rfl, rfl, hG, hF⟩ h3 F3 N3
    rw [hgl2, List.take_length] at hF
    replace N3 : News g0 L0 h3 (dictsT T ++ ((D1, listOf (T.map fun t => Value.ref t.1).toArray k1) :: (instsT T ++ tl))) := fun p hp => N3 p (by
      exact mem_of_sub (by k_extra "mine sub") hp)
    have apA : ∀ p ∈ dictsT T, ∀ q ∈ (D1, listOf (T.map fun t => Value.ref t.1).toArray k1) :: (instsT T ++ tl), q.1 ≠ p.1 := fun p hp q hq => by
      rcases List.mem_cons.mp hq with rfl | hq
      · exact Ne.symm (hD1 p (by simp [hp]))
      · exact hG.1 p hp q hq
    have hT0 : (D1, listOf (T.map fun t => Value.ref t.1).toArray k1) ∈ (D1, listOf (T.map fun t => Value.ref t.1).toArray k1) :: (instsT T ++ tl) := List.mem_cons_self ..
    have hi0 : ∀ p ∈ instsT T, p ∈ (D1, listOf (T.map fun t => Value.ref t.1).toArray k1) :: (instsT T ++ tl) := fun p hp => List.mem_cons_of_mem _ (List.mem_append_left _ hp)
    have ht0 : ∀ p ∈ tl, p ∈ (D1, listOf (T.map fun t => Value.ref t.1).toArray k1) :: (instsT T ++ tl) := fun p hp => List.mem_cons_of_mem _ (List.mem_append_right _ hp)
    have htl : T.length = gl.length := by rw [hF.1, infos0_length]
    generalize (D1, listOf (T.map fun t => Value.ref t.1).toArray k1) :: (instsT T ++ tl) = tlA at N3 apA hT0 hi0 ht0
    k_extra "mine steps"
    rename_i lk1 h4 F4 N4 l4
    (try clear F3); (try clear N3)
    have ap1 : ∀ p ∈ dictsT T, ∀ q ∈ (lk1, listOf ([.ref tb] : List Value).toArray 0) :: tlA, q.1 ≠ p.1 := apart_cons apA l4
    replace N4 := stash N4
    have upA : ∀ p ∈ tlA, p ∈ (lk1, listOf ([.ref tb] : List Value).toArray 0) :: tlA := fun p hp => List.mem_cons_of_mem _ hp
    refine useO (args := ⟨[_, _, _, _], []⟩) F4 N4 (lookup_make ((wo_of F4 N4 X0 T0).sub fun p hp => List.mem_append_right _ hp) _ _ _ _) (by k_extra "mine room") ?_
    rintro v5 tl5 h5 tk5 ⟨lx, dlx, les, ln, ltl, rfl, e5, m5, -, -, hLF, -⟩ F5 N5 s5 f5
    have hLk : IsLk tl5 lx := ⟨_, dlx, les, ln, by rw [e5]; exact List.mem_cons_of_mem _ m5, by rw [e5]; exact List.mem_cons_self .., lk_flds hLF⟩
    clear e5 m5 F4 N4
    have ap5 := apart_fresh ap1 f5
    k_extra "mine steps"
    rename_i h6 F6 N6
    refine useO (args := ⟨[_], []⟩) F6 N6 (buffer_make ((wo_of F6 N6 X0 T0).sub fun p hp => List.mem_append_right _ hp) _) (by k_extra "mine room") ?_
    rintro v7 tl7 h7 tk7 ⟨bx, dbx, bes, bn, btl, rfl, e7, m7, -, -, hBF, -⟩ F7 N7 s7 f7
    have hB : IsObj tl7 bx 105 _ := ⟨dbx, bes, bn, by rw [e7]; exact List.mem_cons_of_mem _ m7, by rw [e7]; exact List.mem_cons_self .., hBF⟩
    clear e7 m7 F6 N6 F5 N5
    have ap7 := apart_fresh ap5 f7
    k_extra "mine steps"
    refine useO (args := ⟨[], []⟩) F7 N7 (nogdef_spec ((wo_of F7 N7 X0 T0).sub fun p hp => List.mem_append_right _ hp)) (by k_extra "mine room") ?_
    rintro v8 tl8 h8 tk8 ⟨gx, rfl, -, hGd⟩ F8 N8 s8 f8
    clear F7 N7
    have ap8 := apart_fresh ap7 f8
    k_extra "mine steps"
    rename_i lk2 h9 F9 N9 l9
    have ap9 : ∀ p ∈ dictsT T, ∀ q ∈ (lk2, listOf ([.ref lx] : List Value).toArray 0) :: tl8, q.1 ≠ p.1 := apart_cons ap8 l9
    replace N9 := stash N9
    refine useO (args := ⟨[_, _, _, _, _], []⟩) F9 N9 (scene_make ((wo_of F9 N9 X0 T0).sub fun p hp => List.mem_append_right _ hp) _ _ _ _ _) (by k_extra "mine room") ?_
    rintro v10 tl10 h10 tk10 ⟨sx, sp, sq, rfl, -, hSx⟩ F10 N10 s10 f10
    have ap10 := apart_fresh ap9 f10
    have hs10 : ∀ p ∈ tlA, p ∈ tl10 := fun p hp => s10 _ (List.mem_cons_of_mem _ (s8 _ (s7 _ (s5 _ (upA _ hp)))))
    have hS : IsScene w tl10 sx bx D1 := ⟨gx, _, lx, _, _, _, hSx, hB.mono fun p hp => s10 _ (List.mem_cons_of_mem _ (s8 _ hp)), hGd.mono fun p hp => s10 _ (List.mem_cons_of_mem _ hp), hLk.mono fun p hp => s10 _ (List.mem_cons_of_mem _ (s8 _ (s7 _ hp)))⟩
    have hT1 := hs10 _ hT0
    have hi1 : ∀ p ∈ instsT T, p ∈ tl10 := fun p hp => hs10 _ (hi0 p hp)
    have ht1 : ∀ p ∈ tl, p ∈ tl10 := fun p hp => hs10 _ (ht0 p hp)
    clear F9 N9 s10 f10 s8 f8 s7 f7 s5 f5 l9 l4 ap9 ap8 ap7 ap5 ap1 hSx hB hGd hLk hBF hLF upA hs10 hT0 hi0 ht0 apA
    k_extra "mine steps"
    rename_i S hS1 lS Dq hS2 lD hS3 hS4 hS5 h11 F11 N11
    have hlenT : (T.map fun t => Value.ref t.1).length = gl.length := by rw [List.length_map, htl]
    have aS0 : ∀ p ∈ dictsT T, p.1 ≠ S := fun p hp => Nat.ne_of_lt (lS p (List.mem_append_left _ hp))
    have aS1 : ∀ p ∈ tl10, p.1 ≠ S := fun p hp => Nat.ne_of_lt (lS p (List.mem_append_right _ hp))
    replace N11 : News g0 L0 h11 (((S, listOf ([] : List Value).toArray 0) :: dictsT T) ++ tl10) := fun p hp => N11 p (List.mem_cons_of_mem _ hp)
    obtain ⟨m11, F12, em⟩ := fr_gen F11
    clear F11
    have hm1 : m11 "infos" = some (.ref D1) := by rw [em]; rfl
    have hm2 : m11 "scene" = some (.ref sx) := by rw [em]; rfl
    have hm3 : m11 "table" = some (.ref tb) := by rw [em]; rfl
    have hm4 : m11 "steps" = some (.ref S) := by rw [em]; rfl
    have hm5 : ∃ t, m11 "at" = some (.int 0 t) := ⟨tk10, by rw [em]; rfl⟩
    clear em lS lD
    refine for_K F12 ?_
    k_extra "mine steps"
    refine pyIter_rangeF (by assumption) (by first | decide +kernel | omega) (by first | decide +kernel | omega) (by first | decide +kernel | omega) (by first | decide +kernel | omega) ?_
    rename Fr _ _ _ _ => F13
    rename News _ _ _ _ => N13
    refine ⟨_, _, _, (S, listOf ([] : List Value).toArray 0) :: dictsT T, tl10, MovB D bs gl T S D1 sx tb, for_range rfl F13 N13, ⟨T, [], 0, hm5.choose, rfl, rfl, rfl, hF, .nil, Nat.le_refl _, hm1, hm2, hm3, hm4, hm5.choose_spec⟩, ?_, ?_, ?_⟩
    · intro p hp q hq
      rcases List.mem_cons.mp hp with rfl | hp
      · exact aS1 q hq
      · exact ap10 p hp q hq
    · clear N13 F13
      rintro led i v m₁ st₁ h₁ tk₁ hi ⟨tv, rfl⟩ ⟨T', vs, n, ta, rfl, hA1, hA2, hF', hI', hvl, hn1, hn2, hn3, hn4, hn5⟩ hbase hap F5 N5
      generalize hms : iterF (stepF D bs) i ⟨infos0 gl, 0, []⟩ = ms at hF' hI' hn5
      have hnx : iterF (stepF D bs) (i + 1) ⟨infos0 gl, 0, []⟩ = stepF D bs ms := by rw [← hms]; rfl
      have hlT' : T'.length = gl.length := by rw [← htl, ← List.length_map (f := fun t => t.1) (as := T'), hA1, List.length_map]
      have hlis : ms.is.length = gl.length := by rw [← hF'.1, hlT']
      have aS' : ∀ q ∈ led, q.1 ≠ S := fun q hq => hap (S, listOf (List.toArray vs) n) (List.mem_cons_self ..) q hq
      have aD' : ∀ p ∈ dictsT T', ∀ q ∈ led, q.1 ≠ p.1 := fun p hp q hq => hap p (List.mem_cons_of_mem _ hp) q hq
      have aSd : ∀ p ∈ dictsT T', p.1 ≠ S := dictsT_off (P := fun a => a ≠ S) hA2 aS0
      have hrow := hbase _ hT1
      refine blk_assign F5 N5 rfl rfl ?_
      intro h6 F6 N6
      replace F6 : Fr g0 L0 h6 _ := F6
      replace N6 : News g0 L0 h6 (((S, listOf (List.toArray vs) n) :: dictsT T') ++ led) := N6
      clear F5 N5
      k_extra "mine steps"
      · rename_i hlt
        have hat : ms.at_ < T'.length := by omega
        have hrefs : (T'.map fun t => Value.ref t.1) = T.map fun t => Value.ref t.1 := by
          have := congrArg (List.map Value.ref) hA1
          rwa [List.map_map, List.map_map] at this
        have hin : ∀ p ∈ instsT T', p ∈ led := fun p hp => hbase _ (hi1 p (by rw [← instsT_map hA1 hA2]; exact hp))
        have hcl : ∀ (j : Nat) i, ms.is[j]? = some i → i.cl = j := same_cl (is := infos0 gl) (by rw [← hms]; exact iterF_same D bs i _) (infos0_cl gl)
        refine useS (args := ⟨[_, _, _], []⟩) (D := T'.map fun t => t.2.1) F6 N6 (applyt_spec ((wo_of F6 N6 X0 T0).sub fun p hp => by
          rcases List.mem_append.mp hp with q | q
          · exact List.mem_append_left _ (List.mem_cons_of_mem _ q)
          · exact List.mem_append_right _ q) (hS.mono hbase) (by rw [hrefs]; exact hrow) (ht.mono fun p hp => hbase _ (ht1 p hp)) hin aD' (by rw [hA2]; exact hG.2) hF' hcl (by omega) hat) (fun b hb => by
          rw [List.map_cons, dictsT_addr]; exact List.mem_cons_of_mem _ hb) (by k_extra "mine room") ?_
        rintro v9 tl9 h9 tk9 ⟨e9, T2, t2, hB1, hB2, hat2, hF2, rfl⟩ K s9 f9
        replace e9 := e9.symm
        subst e9
        obtain ⟨F9, N9⟩ := K ((S, listOf (List.toArray vs) n) :: dictsT T2) (by rw [List.map_cons, List.map_cons, dictsT_addr, dictsT_addr, hB2]) (fun p hp => by
          rcases List.mem_cons.mp hp with rfl | hp
          · refine .inl ⟨List.mem_cons_self .., fun hd => ?_⟩
            rw [← dictsT_addr] at hd
            obtain ⟨q, hq, e⟩ := List.mem_map.mp hd
            exact aSd q hq e
          · exact .inr (hat2 p hp))
        have hC1 := hB1.trans hA1
        have hC2 := hB2.trans hA2
        have aS2 : ∀ p ∈ dictsT T2 ++ led, p.1 ≠ S := fun p hp => (List.mem_append.mp hp).elim (dictsT_off (P := fun a => a ≠ S) hC2 aS0 p) (aS' p)
        replace N9 : News g0 L0 h9 ((S, listOf (List.toArray vs) n) :: (dictsT T2 ++ led)) := N9
        have hvl2 : vs.length ≤ 20 := by omega
        clear K F6 N6 s9 f9
        k_extra "mine steps"
        rename Fr _ _ _ _ => F10
        rename News _ _ _ _ => N10
        have hlt2 : ms.at_ < ms.is.length := by omega
        refine ⟨_, _, _, (S, listOf _ _) :: dictsT T2, rfl, F10, N10, fun p hp q hq => ?_, T2, _, _, _, rfl, hC1, hC2, ?_, ?_, by rw [List.length_append]; simp; omega, (if_neg (by decide)).trans ((if_neg (by decide)).trans ((if_neg (by decide)).trans hn1)), (if_neg (by decide)).trans ((if_neg (by decide)).trans ((if_neg (by decide)).trans hn2)), (if_neg (by decide)).trans ((if_neg (by decide)).trans ((if_neg (by decide)).trans hn3)), (if_neg (by decide)).trans ((if_neg (by decide)).trans ((if_neg (by decide)).trans hn4)), (if_pos rfl).trans (some_int ?_ _)⟩
        · rcases List.mem_cons.mp hp with rfl | hp
          · exact aS' q hq
          · exact dictsT_off (P := fun a => ∀ q ∈ led, q.1 ≠ a) hB2 aD' p hp q hq
        · rw [hnx, stepF_pos hlt2]; exact hF2
        · rw [hnx, stepF_pos hlt2]; exact hI'.append (.cons _ _ .nil)
        · rw [hnx, stepF_pos hlt2]
          dsimp only
          rw [Int.max_def]
          split <;> split <;> omega
      · rename_i hlt
        have hlt2 : ¬ ms.at_ < ms.is.length := by omega
        refine ⟨_, _, _, (S, listOf (List.toArray vs) n) :: dictsT T', rfl, F6, N6, hap, T', vs, n, ta, rfl, hA1, hA2, ?_, ?_, by omega, (if_neg (by decide)).trans hn1, (if_neg (by decide)).trans hn2, (if_neg (by decide)).trans hn3, (if_neg (by decide)).trans hn4, (if_neg (by decide)).trans ?_⟩
        · rw [hnx, stepF_neg hlt2]; exact hF'
        · rw [hnx, stepF_neg hlt2]; exact hI'
        · rw [hnx, stepF_neg hlt2]; exact hn5
    · rintro h14 tk14 m14 st14 F14 N14 hap14 ⟨T', vs, n, ta, rfl, hA1, hA2, hF', hI', hvl, hn1, hn2, -, hn4, -⟩
      have hnl : ((((T.map fun t => Value.ref t.1).length : Nat) : Int) - 0).toNat = gl.length := by rw [hlenT]; omega
      rw [hnl] at hF' hI'
      k_extra "mine steps"
      replace F14 : Fr g0 L0 h14 _ := F14
      replace N14 : News g0 L0 h14 ([] ++ ((S, listOf (List.toArray vs) n) :: (dictsT T' ++ tl10))) := N14
      generalize hms : iterF (stepF D bs) gl.length ⟨infos0 gl, 0, []⟩ = ms at hF' hI'
      have mS : (S, listOf (List.toArray vs) n) ∈ (S, listOf (List.toArray vs) n) :: (dictsT T' ++ tl10) := List.mem_cons_self ..
      have mt : ∀ p ∈ tl10, p ∈ (S, listOf (List.toArray vs) n) :: (dictsT T' ++ tl10) := fun p hp => List.mem_cons_of_mem _ (List.mem_append_right _ hp)
      have md : ∀ p ∈ dictsT T', p ∈ (S, listOf (List.toArray vs) n) :: (dictsT T' ++ tl10) := fun p hp => List.mem_cons_of_mem _ (List.mem_append_left _ hp)
      have hrefs : (T'.map fun t => Value.ref t.1) = T.map fun t => Value.ref t.1 := by
        have := congrArg (List.map Value.ref) hA1
        rwa [List.map_map, List.map_map] at this
      have hins : instsT T' = instsT T := instsT_map hA1 hA2
      generalize (S, listOf (List.toArray vs) n) :: (dictsT T' ++ tl10) = tlE at N14 mS mt md
      have mT := mt _ hT1
      rw [← hrefs] at mT
      refine ListComp_S F14 (by rfl) (by decide) (by rfl) (by decide) ?_
      k_extra "mine steps"
      refine pyIter_listK N14 mT ?_
      have hlT' : (T'.map fun t => Value.ref t.1).length = gl.length := by rw [hrefs, hlenT]
      refine ⟨_, _, [], tlE, MovC ms.is, for_list (st := []) rfl F14 N14 mT (fun _ h => nomatch h), by omega, ⟨rfl, AtAll.nil⟩, (fun _ h => nomatch h), ?_, ?_⟩
      · rintro g2 C2 i2 v2 ys2 m2 st2 tl2 h2 tk2 kept2 hg2 hi2 hP2 ⟨rfl, hA3⟩ hbase2 hap2 F6 N6
        obtain ⟨x, d, es, gT⟩ := tr_get (T := T') (a := i2) (by rw [List.length_map] at hi2; exact hi2)
        rw [List.getElem?_map, gT] at hP2
        obtain rfl := Option.some.inj hP2
        obtain ⟨ii, gi, hfl⟩ := hF'.2 _ _ gT
        have hm := List.mem_of_getElem? gT
        have mi : (x, instObj 52 d) ∈ tl2 := hbase2 _ (mt _ (hi1 _ (by rw [← hins]; exact mem_instsT.mpr ⟨_, hm, rfl⟩)))
        have mdd : (d, dictOf es 16) ∈ tl2 := hbase2 _ (md _ (mem_dictsT.mpr ⟨_, hm, rfl⟩))
        have hII : IsInfo tl2 x ii := ⟨d, es, 16, mi, mdd, hfl⟩
        have X2 := X0.keeps hg2
        have T2 := T0.keeps hg2
        refine blk_assign F6 N6 rfl rfl ?_
        intro h7 F7 N7
        replace F7 : Fr g2 C2 h7 (fun y => if y = "info" then some (.ref x) else m2 y) := F7
        replace N7 : News g2 C2 h7 (kept2 ++ tl2) := N7
        clear F6 N6
        refine tests_nil ?_
        simp only [if_true]
        k_extra "mine steps"
        refine useO (args := ⟨[_], []⟩) F7 N7 (itold_spec ((wo_of F7 N7 X2 T2).sub fun p hp => List.mem_append_right _ hp) hII) (by k_extra "mine room") ?_
        rintro v8 tl8 h8 tk8 ⟨t8, t1, t2, t3, t4, t5, t6, rfl, rfl⟩ F8 N8 s8 f8
        clear F7 N7
        have m8 : (t8, tupOf [.int ii.gl t1, .int ii.cl t2, .int ii.xa t3, .int ii.ya t4, .int ii.xo t5, .int ii.yo t6] 0) ∈ kept2 ++ (t8, tupOf [.int ii.gl t1, .int ii.cl t2, .int ii.xa t3, .int ii.ya t4, .int ii.xo t5, .int ii.yo t6] 0) :: tl2 := List.mem_append_right _ (List.mem_cons_self ..)
        k_extra "mine steps"
        rename_i D9 h9 F9 N9 l9
        refine kde_addT (zs := [.int ii.gl t1, .int ii.cl t2, .int ii.xa t3, .int ii.ya t4, .int ii.xo t5, .int ii.yo t6, .bool ii.un]) F9 N9 (News.isTup N9 (List.mem_cons_of_mem _ m8)) (News.isTup N9 (List.mem_cons_self ..)) (by simp) (by simp) (by simp) rfl ?_
        intro D10 h10 F10 N10 l10
        refine ⟨_, _, _, [], (D10, tupOf [.int ii.gl t1, .int ii.cl t2, .int ii.xa t3, .int ii.ya t4, .int ii.xo t5, .int ii.yo t6, .bool ii.un] 0) :: tl2, rfl, F10, fun p hp => N10 p ?_, rfl, fun p hp => List.mem_cons_of_mem _ hp, fun p hp => ?_, rfl, ?_⟩
        · exact mem_of_sub (by k_extra "mine sub") hp
        · rcases List.mem_cons.mp hp with rfl | hp
          · exact .inr fun q hq => Nat.ne_of_lt (l10 q (List.mem_cons_of_mem _ (List.mem_append_left _ hq)))
          · exact .inl hp
        · rw [List.take_add_one, gi]
          exact (hA3.mono fun _ _ q => q.mono fun p hp => List.mem_cons_of_mem _ hp).append (AtAll.one ⟨D10, _, _, _, _, _, _, _, rfl, List.mem_cons_self ..⟩)
      · rintro D6 h6 tk6 st6 tl6 ys6 k6 - - - - - hb6 ⟨rfl, hA6⟩ F7 N7
        rw [hlT', List.take_of_length_le (by rw [← hF'.1, ← List.length_map (f := fun t => Value.ref t.1) (as := T'), hlT']; omega)] at hA6
        replace F7 : Fr g0 L0 h6 _ := F7
        replace N7 : News g0 L0 h6 ((D6, listOf ys6.toArray k6) :: tl6) := N7
        k_extra "mine steps"
        rename_i Dr hr9 F9 N9 l9
        obtain ⟨st, gr, ho⟩ := leaveG (own := []) (own' := []) (tl := tl) W.at_ kg0 F9 N9 (fun p hp => List.mem_cons_of_mem _ (List.mem_cons_of_mem _ (hb6 _ (mt _ (ht1 p hp))))) (fun _ _ h => nomatch h)
        refine hret _ _ _ _ st gr ?_
        have hmv : movedF D bs gl = ms := hms
        rw [hmv]
        exact rd_moved (List.mem_cons_self ..) (List.mem_cons_of_mem _ (List.mem_cons_self ..)) (List.mem_cons_of_mem _ (List.mem_cons_of_mem _ (hb6 _ mS))) (hA6.mono fun _ _ q => q.mono fun p hp => List.mem_cons_of_mem _ (List.mem_cons_of_mem _ hp)) hI'

theorem slice63 {vs : List Value} (h : vs.length ≤ 63) : (slicePick vs.toArray none (some 63) none).toList = vs := by
  rw [slicePick_plain]
  simp only [Option.elim]
  rw [show (63 : Int) = ((63 : Nat) : Int) from rfl, clipAt_nat]
  simp only [List.drop_zero, Nat.sub_zero, List.size_toArray]
  exact List.take_of_length_le (by omega)
theorem my_slice63 {w : World} {A : Around} {E : Value → Shared → Prop} {s : Shared} {hh h₀ : Heap} {L l : Addr} {m : Str → Option Value} {news : Wd} {value slice : PySem.Expr} {vs : List Value} {u : Tok} {Q : Value → Shared → Prop}
    (e0 : s.heap = hh.push { cls := .type "slice", data := .fields #[.none, .int 63 u, .none] }) (F : Fr h₀ L hh m) (N : News h₀ L hh news) (hl : h₀.IsList l vs.toArray) (hz : vs.length ≤ 63)
    (h : ∀ D h', Fr h₀ L h' m → News h₀ L h' ((D, listOf vs.toArray 0) :: news) → (∀ p ∈ news, p.1 < D) → Q (.ref D) { s with heap := h' })
    (hs : subscripted slice false (.ref l) (.ref hh.objs.size) = operate [.ref hh.objs.size, .ref l] (getItem (.ref l) (.ref hh.objs.size)) := by with_unfolding_all rfl) (ht : ∀ r, letTemporaryGo value (.ref l) r = pure () := by intro _; with_unfolding_all rfl) :
    wpAny (model PW w) A (subscriptTail value slice (.ref l) (.ref hh.objs.size)) Q E s := by
  obtain ⟨hp, g, d, tk, os⟩ := s
  dsimp only at e0
  subst e0
  have hl2 : hh.IsList l vs.toArray := let ⟨o, e, r⟩ := hl; ⟨o, F.keep _ _ e, r⟩
  exact kmk_slice_lit (s := { heap := hh, gens := g, drawn := d, toks := tk, os := os }) F N hl2 IsPart.none (IsPart.int _ _) (slice63 hz) (fun D h' F' N' l1 => h D h' F' N' l1) hs ht (by rw [sizeLine_eq, List.size_toArray]; omega)
theorem row_j_40 : True := by
  (k_with "subscriptTail Name Slice ref ref" => (k_here; (with_reducible show wpAny _ _ (subscriptTail _ (PySem.Expr.Slice _ _ none _) (Value.ref _) (Value.ref _)) _ _ _); k_dflt (refine' my_slice63 (by rfl) (by k_asm) (by k_asm) (by assumption) (by assumption) ?_); intro _ _ _ _ _))
  trivial
inductive Qpen_spec (tl : Wd) (r : Value) (tl' : Wd) (qh : Heap) : Prop
  | mk : ∀ P C o tl1, r = .ref P → tl' = (P, o) :: tl1 → (∀ p ∈ tl, p ∈ tl1) → Pen C 0 o → IsCells tl1 C → C ≠ P → (∀ p ∈ tl1, p.1 ≠ P) → Qpen_spec tl r tl' qh
theorem pen_spec {w : World} {B : Heap} {s : Shared} {tl : Wd} {sA : Addr} {vs : List Value} {cs : List Int} (W : Wo w B tl s.heap) (hS : B.IsList sA vs.toArray) (hI : IntsAre vs cs) (hl : vs.length ≤ 63) :
    Spec w 2 509 ⟨[.ref sA], []⟩ s [] tl (Qpen_spec tl) := by
  have hcl := hI.length
  intro dp un fr gd R hR hret
  k_extra "mine enter"
  rename_i mean mg mb g0 L0 h00 F0 N0 X0 T0 kg0 kb0 kl0
  have hS2 : g0.IsList sA vs.toArray := by
    obtain ⟨o, e, r⟩ := hS
    refine ⟨o, kg0 _ _ (W.keep _ _ e) (fun m => ?_), r⟩
    obtain ⟨p, hp, q⟩ := List.mem_map.mp m
    have := W.off p hp
    rw [q, e] at this; cases this
  k_extra "mine steps"
  rename_i D1 h1 l1 D2 c2 h2 l2 D3 h3 l3 h4 tk4 t4 u4 tk5 P h5 F5 N5 l5
  obtain ⟨st, gr, ho⟩ := leaveG (own := []) (own' := []) (tl := tl) W.at_ kg0 F5 N5 (fun p hp => by repeat (first | exact hp | refine List.mem_cons_of_mem _ ?_)) (fun _ _ h => nomatch h)
  refine hret _ _ _ _ st gr ⟨P, D2, _, _, rfl, rfl, fun p hp => by repeat (first | exact hp | refine List.mem_cons_of_mem _ ?_), ⟨0, 0, _, _, _, _, _, rfl, Int.le_refl _, Int.le_refl _, Int.le_refl _, ?_, ?_⟩, ⟨vs, cs, c2, List.mem_cons_of_mem _ (List.mem_cons_self ..), hI, hl⟩, ?_, fun p hp => ?_⟩
  · exact Int.fmod_nonneg_of_pos _ (by decide)
  · exact Int.fmod_lt_of_pos _ (by decide)
  · exact Nat.ne_of_lt l5.2.1
  · rcases List.mem_cons.mp hp with rfl | hp
    · exact Nat.ne_of_lt l5.1
    rcases List.mem_cons.mp hp with rfl | hp
    · exact Nat.ne_of_lt l5.2.1
    rcases List.mem_cons.mp hp with rfl | hp
    · exact Nat.ne_of_lt l5.2.2.1
    · exact Nat.ne_of_lt (allLt_out l5.2.2.2 p hp)

abbrev ownL (L P : Addr) (o5 o4 o3 o2 o1 po : Obj) : Wd := [(L + 1 + 1 + 1 + 1 + 1, o5), (L + 1 + 1 + 1 + 1, o4), (L + 1 + 1 + 1, o3), (L + 1 + 1, o2), (L + 1, o1), (P, po)]
/-- the cells and the pen lie apart from each other and from the rest -/
structure Own (L P : Addr) (tl : Wd) : Prop where
  p1 : @Ne Nat P (L + 1)
  p2 : @Ne Nat P (L + 1 + 1)
  p3 : @Ne Nat P (L + 1 + 1 + 1)
  p4 : @Ne Nat P (L + 1 + 1 + 1 + 1)
  p5 : @Ne Nat P (L + 1 + 1 + 1 + 1 + 1)
  t1 : ∀ q ∈ tl, q.1 ≠ L + 1
  t2 : ∀ q ∈ tl, q.1 ≠ L + 1 + 1
  t3 : ∀ q ∈ tl, q.1 ≠ L + 1 + 1 + 1
  t4 : ∀ q ∈ tl, q.1 ≠ L + 1 + 1 + 1 + 1
  t5 : ∀ q ∈ tl, q.1 ≠ L + 1 + 1 + 1 + 1 + 1
  tP : ∀ q ∈ tl, q.1 ≠ P
theorem Own.ap {L P : Addr} {tl : Wd} (x : Own L P tl) {o5 o4 o3 o2 o1 po : Obj} : ∀ p ∈ ownL L P o5 o4 o3 o2 o1 po, ∀ q ∈ tl, q.1 ≠ p.1 := fun p hp q hq => by
  simp only [List.mem_cons, List.not_mem_nil, or_false] at hp
  rcases hp with rfl | rfl | rfl | rfl | rfl | rfl
  · exact x.t5 q hq
  · exact x.t4 q hq
  · exact x.t3 q hq
  · exact x.t2 q hq
  · exact x.t1 q hq
  · exact x.tP q hq
theorem Own.of {L P : Addr} {tl tl' : Wd} (x : Own L P tl) {o5 o4 o3 o2 o1 po : Obj} (a : ∀ p ∈ ownL L P o5 o4 o3 o2 o1 po, ∀ q ∈ tl', q.1 ≠ p.1) : Own L P tl' :=
  ⟨x.p1, x.p2, x.p3, x.p4, x.p5, fun q hq => a (L + 1, o1) (by simp) q hq, fun q hq => a (L + 1 + 1, o2) (by simp) q hq, fun q hq => a (L + 1 + 1 + 1, o3) (by simp) q hq, fun q hq => a (L + 1 + 1 + 1 + 1, o4) (by simp) q hq, fun q hq => a (L + 1 + 1 + 1 + 1 + 1, o5) (by simp) q hq, fun q hq => a (P, po) (by simp) q hq⟩
theorem Own.fresh {L P : Addr} {tl tl' : Wd} (x : Own L P tl) {o5 o4 o3 o2 o1 po : Obj} (f : FreshOf tl tl' (ownL L P o5 o4 o3 o2 o1 po)) : Own L P tl' := x.of (apart_fresh x.ap f)
theorem Own.cons {L P : Addr} {tl : Wd} (x : Own L P tl) {o5 o4 o3 o2 o1 po : Obj} {a : Addr} {o : Obj} (l : ∀ p ∈ ownL L P o5 o4 o3 o2 o1 po ++ tl, p.1 < a) : Own L P ((a, o) :: tl) := x.of (apart_cons x.ap l)
theorem fn_inj {K : Frag} {f : Addr} {oc oc' : Value} {od od' : Option Addr} {name name' qual qual' : Str} {params params' : Arguments} {body body' : List Stmt} {scope scope' : Scope} {dV kV doc pm cdv ct dV' kV' doc' pm' cdv' ct' : Value} {an an' : Option Addr} {osl osl' : Array (Option Value)}
    (h : K.lookup f = some ⟨oc, od, .func (fnOf name qual params body scope dV kV doc pm an cdv ct), osl⟩) (h' : K.lookup f = some ⟨oc', od', .func (fnOf name' qual' params' body' scope' dV' kV' doc' pm' an' cdv' ct'), osl'⟩) : qual' = qual ∧ body' = body ∧ scope' = scope ∧ cdv' = cdv := by
  rw [h] at h'
  simp only [Option.some.injEq, Obj.mk.injEq, Data.func.injEq, FuncData.mk.injEq, FuncBody.stmts.injEq] at h'
  simp [h']
section
variable {w : World} {g : Heap} {L : Addr} {m : Str → Option Value} {s : Shared} {mean : ExcName → Option Value} {mg mb : Str → Option Value} {dp un : Nat} {fr : Option (List Env)} {gd : Option (List Code)} {Q : Flow → Shared → Prop}
  {oc : Value} {od : Option Addr} {name qual : Str} {params : Arguments} {body : List Stmt} {scope : Scope} {dV kV doc pm cdv ct cw : Value} {fa : Addr} {an : Option Addr} {osl : Array (Option Value)}
theorem seg0 {o5 o4 o3 o2 o1 : Obj} {v5 v4 v3 v2 v1 : Option Value} {sA : Addr} {vs : List Value} {cs : List Int} (hb : (hd.heap_1 w.params).lookup 552 = some ⟨oc, od, .func (fnOf name qual params body scope dV kV doc pm an cdv ct), osl⟩) (hR : Room 20 dp un)
    (F : Fr g L s.heap m) (N : News g L s.heap [(L + 1 + 1 + 1 + 1 + 1, o5), (L + 1 + 1 + 1 + 1, o4), (L + 1 + 1 + 1, o3), (L + 1 + 1, o2), (L + 1, o1)]) (X : (hd.heap_1 w.params).In g) (T0 : Top hd.view_1 (looseW hd.view_1 []) mean mg mb g)
    (d1 : o1.data = .cell v1) (hS : g.IsList sA vs.toArray) (hI : IntsAre vs cs) (hl : vs.length ≤ 63) (hm : m "script" = some (.ref sA))
    (k : ∀ P C o1' po tl h' tk, Fr g L h' m → News g L h' (ownL L P o5 o4 o3 o2 o1' po ++ tl) → Own L P tl → o1'.data = .cell (some (.ref P)) → Pen C 0 po → IsCells tl C → C ≠ P → wpAny (model PW w) (Ar dp un fr gd) (execs (body.drop 1) (envOfC qual scope L fa cw)) Q NoE { s with heap := h', toks := tk }) :
    wpAny (model PW w) (Ar dp un fr gd) (execs body (envOfC qual scope L fa cw)) Q NoE s := by
  obtain ⟨rfl, rfl, rfl, rfl⟩ := fn_inj hb (by k_is)
  clear hb
  k_extra "mine steps"
  have N1 : News g L s.heap ([(L + 1 + 1 + 1 + 1 + 1, o5), (L + 1 + 1 + 1 + 1, o4), (L + 1 + 1 + 1, o3), (L + 1 + 1, o2), (L + 1, o1)] ++ ([] : Wd)) := by rw [List.append_nil]; exact N
  refine useO (args := ⟨[_], []⟩) F N1 (pen_spec ((wo_of F N1 X T0).sub fun p hp => nomatch hp) hS hI hl) (by k_extra "mine room") ?_
  rintro v2 tl2 h2 tk2 ⟨P, C, po, tl1, rfl, rfl, -, hPen, hC, hCP, hPt⟩ F2 N2 s2 f2
  clear N N1 F s2
  have ap : ∀ p ∈ [(L + 1 + 1 + 1 + 1 + 1, o5), (L + 1 + 1 + 1 + 1, o4), (L + 1 + 1 + 1, o3), (L + 1 + 1, o2), (L + 1, o1)], ∀ q ∈ (P, po) :: tl1, q.1 ≠ p.1 := apart_fresh (tl := []) (fun _ _ _ h => nomatch h) f2
  have a1 : ∀ q ∈ (P, po) :: tl1, q.1 ≠ L + 1 := ap (L + 1, o1) (by simp)
  have a2 : ∀ q ∈ (P, po) :: tl1, q.1 ≠ L + 1 + 1 := ap (L + 1 + 1, o2) (by simp)
  have a3 : ∀ q ∈ (P, po) :: tl1, q.1 ≠ L + 1 + 1 + 1 := ap (L + 1 + 1 + 1, o3) (by simp)
  have a4 : ∀ q ∈ (P, po) :: tl1, q.1 ≠ L + 1 + 1 + 1 + 1 := ap (L + 1 + 1 + 1 + 1, o4) (by simp)
  have a5 : ∀ q ∈ (P, po) :: tl1, q.1 ≠ L + 1 + 1 + 1 + 1 + 1 := ap (L + 1 + 1 + 1 + 1 + 1, o5) (by simp)
  clear ap f2
  have O : Own L P tl1 := ⟨a1 _ (List.mem_cons_self ..), a2 _ (List.mem_cons_self ..), a3 _ (List.mem_cons_self ..), a4 _ (List.mem_cons_self ..), a5 _ (List.mem_cons_self ..), fun q hq => a1 q (List.mem_cons_of_mem _ hq), fun q hq => a2 q (List.mem_cons_of_mem _ hq), fun q hq => a3 q (List.mem_cons_of_mem _ hq), fun q hq => a4 q (List.mem_cons_of_mem _ hq), fun q hq => a5 q (List.mem_cons_of_mem _ hq), hPt⟩
  replace N2 : News g L h2 ((L + 1 + 1 + 1 + 1 + 1, o5) :: (L + 1 + 1 + 1 + 1, o4) :: (L + 1 + 1 + 1, o3) :: (L + 1 + 1, o2) :: (L + 1, o1) :: ((P, po) :: tl1)) := N2
  generalize hled : (P, po) :: tl1 = led at N2 a1 a2 a3 a4 a5
  walk1
  rename_i h3 o3' F3 N3 d3
  subst hled
  exact k P C o3' po tl1 h3 _ F3 N3 O d3 hPen hC hCP
end

theorem row_j_41 : True := by
  (k_with "mine stop" => repeat' (k_extra "mine no"; k_extra "mine one"))
  trivial
abbrev cellsL (L : Addr) (o5 o4 o3 o2 o1 : Obj) (tl : Wd) : Wd := (L + 1 + 1 + 1 + 1 + 1, o5) :: (L + 1 + 1 + 1 + 1, o4) :: (L + 1 + 1 + 1, o3) :: (L + 1 + 1, o2) :: (L + 1, o1) :: tl
/-- drawn numbers -/
def Drawn (vs : List Value) (n : Nat) (many : Int) (cs : List Int) : Prop := IntsAre vs cs ∧ cs.length = n ∧ ∀ c ∈ cs, 0 ≤ c ∧ c < many
inductive DrawJ (P C : Addr) (k : Nat) (base : Wd) (many : Int) (i : Nat) (ys : List Value) (st tl : Wd) : Prop
  | mk : ∀ o cs, st = [(P, o)] →
    tl = base →
    Pen C (k + i) o →
    Drawn ys i many cs → DrawJ P C k base many i ys st tl
theorem draw_turn {g : Heap} {L P C : Addr} {k i : Nat} {base kept : Wd} {many x : Int} {tx : Tok} {o o' : Obj} {ys : List Value} {cs : List Int} {h : Heap} {m : Str → Option Value} {s₁ : Shared} {tk : Nat} (F : Fr g L h m) (N : News g L h ((P, o') :: (kept ++ base))) (hP : Pen C (k + i + 1) o') (hd : Drawn ys i many cs) (h0 : 0 ≤ x) (h1 : x < many) :
    TurnEnd g L kept [(P, o)] base (fun y st' tl' => DrawJ P C k base many (i + 1) (ys ++ y.toList) st' tl') s₁ (some (.int x tx)) { s₁ with heap := h, toks := tk } := by
  obtain ⟨d1, d2, d3⟩ := hd
  refine ⟨h, tk, m, [(P, o')], base, rfl, F, N, rfl, fun _ q => q, fun _ q => .inl q, o', cs ++ [x], rfl, rfl, hP, d1.append (.cons _ _ .nil), by rw [List.length_append, d2]; rfl, fun c hc => ?_⟩
  rcases List.mem_append.mp hc with q | q
  · exact d3 c q
  · rw [List.mem_singleton.mp q]; exact ⟨h0, h1⟩
theorem own_base {L P : Addr} {tl : Wd} {o5 o4 o3 o2 o1 po : Obj} {g : Heap} {h : Heap} {L' : Addr} (N : News g L' h (ownL L P o5 o4 o3 o2 o1 po ++ tl)) : News g L' h ([(P, po)] ++ cellsL L o5 o4 o3 o2 o1 tl) := fun p hp => N p (by
  exact mem_of_sub (by k_extra "mine sub") hp)
theorem own_apb {L P : Addr} {tl : Wd} (x : Own L P tl) {o5 o4 o3 o2 o1 po : Obj} : ∀ p ∈ ([(P, po)] : Wd), ∀ q ∈ cellsL L o5 o4 o3 o2 o1 tl, q.1 ≠ p.1 := fun p hp q hq => by
  rw [List.mem_singleton.mp hp]
  simp only [List.mem_cons] at hq
  rcases hq with rfl | rfl | rfl | rfl | rfl | hq
  · exact Ne.symm x.p5
  · exact Ne.symm x.p4
  · exact Ne.symm x.p3
  · exact Ne.symm x.p2
  · exact Ne.symm x.p1
  · exact x.tP q hq
theorem own_back {L P D : Addr} {tl : Wd} {o5 o4 o3 o2 o1 po oD : Obj} {g : Heap} {h : Heap} {L' : Addr} (N : News g L' h ((D, oD) :: ([(P, po)] ++ cellsL L o5 o4 o3 o2 o1 tl))) : News g L' h (ownL L P o5 o4 o3 o2 o1 po ++ ((D, oD) :: tl)) := fun p hp => N p (by
  exact mem_of_sub (by k_extra "mine sub") hp)
theorem own_new {L P D : Addr} {tl : Wd} (x : Own L P tl) {o5 o4 o3 o2 o1 po oD : Obj} (hD : ∀ p ∈ [(P, po)] ++ cellsL L o5 o4 o3 o2 o1 tl, p.1 ≠ D) : Own L P ((D, oD) :: tl) := by
  have e : ∀ p ∈ ownL L P o5 o4 o3 o2 o1 po, ∀ q ∈ (D, oD) :: tl, q.1 ≠ p.1 := fun p hp q hq => by
    rcases List.mem_cons.mp hq with rfl | hq
    · refine Ne.symm (hD p ?_)
      exact mem_of_sub (by k_extra "mine sub") hp
    · exact x.ap p hp q hq
  exact x.of e
section
variable {w : World} {g : Heap} {L : Addr} {m : Str → Option Value} {s : Shared} {mean : ExcName → Option Value} {mg mb : Str → Option Value} {dp un : Nat} {fr : Option (List Env)} {gd : Option (List Code)} {Q : Flow → Shared → Prop}
  {oc : Value} {od : Option Addr} {name qual : Str} {params : Arguments} {body : List Stmt} {scope : Scope} {dV kV doc pm cdv ct cw : Value} {fa : Addr} {an : Option Addr} {osl : Array (Option Value)}
theorem seg1 {o5 o4 o3 o2 o1 po : Obj} {P C : Addr} {tl : Wd} {kp : Nat} (hb : (hd.heap_1 w.params).lookup 552 = some ⟨oc, od, .func (fnOf name qual params body scope dV kV doc pm an cdv ct), osl⟩) (hR : Room 20 dp un)
    (F : Fr g L s.heap m) (N : News g L s.heap (ownL L P o5 o4 o3 o2 o1 po ++ tl)) (X : (hd.heap_1 w.params).In g) (T0 : Top hd.view_1 (looseW hd.view_1 []) mean mg mb g) (O : Own L P tl)
    (d1 : o1.data = .cell (some (.ref P))) (hPn : Pen C kp po) (hC : IsCells tl C) (hCP : C ≠ P) (hkp : kp ≤ 1000)
    (k : ∀ D1 D2 vs1 vs2 n1 n2 cs1 cs2 po' h' tk m', Fr g L h' m' → News g L h' (ownL L P o5 o4 o3 o2 o1 po' ++ ((D2, listOf (List.toArray vs2) n2) :: (D1, listOf (List.toArray vs1) n1) :: tl)) → Own L P ((D2, listOf (List.toArray vs2) n2) :: (D1, listOf (List.toArray vs1) n1) :: tl) → Pen C (kp + 14) po' →
      Drawn vs1 7 5 cs1 → Drawn vs2 7 5 cs2 → m' "firsts" = some (.ref D1) → m' "seconds" = some (.ref D2) →
      wpAny (model PW w) (Ar dp un fr gd) (execs (body.drop 2) (envOfC qual scope L fa cw)) Q NoE { s with heap := h', toks := tk }) :
    wpAny (model PW w) (Ar dp un fr gd) (execs (body.drop 1) (envOfC qual scope L fa cw)) Q NoE s := by
  obtain ⟨rfl, rfl, rfl, rfl⟩ := fn_inj hb (by k_is)
  clear hb
  dsimp only [List.drop] at k ⊢
  k_extra "mine steps"
  refine ListComp_S F (by rfl) (by decide) (by rfl) (by decide) ?_
  k_extra "mine steps"
  refine pyIter_rangeF (by assumption) (by omega) (by omega) (by omega) (by omega) ?_
  rename Fr _ _ _ _ => F3
  rename News _ _ _ _ => N3
  refine ⟨_, _, [(P, po)], cellsL L o5 o4 o3 o2 o1 (tl), DrawJ P C (kp) (cellsL L o5 o4 o3 o2 o1 (tl)) 5, for_range rfl F3 (own_base N3), by omega, ⟨po, [], rfl, rfl, hPn, .nil, rfl, fun _ h => nomatch h⟩, own_apb O, ?_, ?_⟩
  · clear k
    rintro g2 C2 i v ys m2 st2 tl2 h2 tk2 kept hg2 hi ⟨tv, rfl⟩ ⟨o, cs, rfl, rfl, hPi, hdr⟩ - hap F6 N6
    have X2 := X.keeps hg2
    have T2 := T0.keeps hg2
    refine blk_assign F6 N6 rfl rfl ?_
    intro h7 F7 N7
    replace F7 : Fr g2 C2 h7 _ := F7
    replace N7 : News g2 C2 h7 ((P, o) :: (kept ++ cellsL L o5 o4 o3 o2 o1 (tl))) := N7
    clear F6 N6 F3 N3
    have aP : ∀ p ∈ kept ++ cellsL L o5 o4 o3 o2 o1 (tl), p.1 ≠ P := fun p hp => hap (P, o) (List.mem_cons_self ..) p hp
    have hC7 : IsCells ((P, o) :: (kept ++ cellsL L o5 o4 o3 o2 o1 (tl))) C := IsCells.mono hC fun p hp => List.mem_cons_of_mem _ (List.mem_append_right _ (by simp [hp]))
    have m1 : (L + 1, o1) ∈ ((P, o) :: (kept ++ cellsL L o5 o4 o3 o2 o1 (tl))) := List.mem_cons_of_mem _ (List.mem_append_right _ (by simp))
    have hi7 : i ≤ 100 := by omega
    refine tests_nil ?_
    simp only [if_true]
    k_extra "mine steps"
    rename Fr _ _ _ _ => F9
    rename News _ _ _ _ => N9
    rename Pen C (_ + 1) _ => hP9
    exact draw_turn F9 N9 hP9 hdr (by assumption) (by assumption)
  · rintro D1 h4 tk4 st4 tl4 ys1 n1 - - - - hD - ⟨po1, cs1, rfl, rfl, hP1, hdr1⟩ F4 N4
    clear F3 N3
    have O1 : Own L P ((D1, listOf ys1.toArray n1) :: tl) := own_new O hD
    replace N4 := own_back N4
    replace hP1 : Pen C (kp + 7) po1 := hP1
    replace hdr1 : Drawn ys1 7 5 cs1 := hdr1
    k_extra "mine steps"
    refine ListComp_S F4 (by rfl) (by decide) (by rfl) (by decide) ?_
    k_extra "mine steps"
    refine pyIter_rangeF (by assumption) (by omega) (by omega) (by omega) (by omega) ?_
    rename Fr _ _ _ _ => F3
    rename News _ _ _ _ => N3
    refine ⟨_, _, [(P, po1)], cellsL L o5 o4 o3 o2 o1 ((D1, listOf ys1.toArray n1) :: tl), DrawJ P C (kp + 7) (cellsL L o5 o4 o3 o2 o1 ((D1, listOf ys1.toArray n1) :: tl)) 5, for_range rfl F3 (own_base N3), by omega, ⟨po1, [], rfl, rfl, hP1, .nil, rfl, fun _ h => nomatch h⟩, own_apb O1, ?_, ?_⟩
    · clear k
      rintro g2 C2 i v ys m2 st2 tl2 h2 tk2 kept hg2 hi ⟨tv, rfl⟩ ⟨o, cs, rfl, rfl, hPi, hdr⟩ - hap F6 N6
      have X2 := X.keeps hg2
      have T2 := T0.keeps hg2
      refine blk_assign F6 N6 rfl rfl ?_
      intro h7 F7 N7
      replace F7 : Fr g2 C2 h7 _ := F7
      replace N7 : News g2 C2 h7 ((P, o) :: (kept ++ cellsL L o5 o4 o3 o2 o1 ((D1, listOf ys1.toArray n1) :: tl))) := N7
      clear F6 N6 F3 N3
      have aP : ∀ p ∈ kept ++ cellsL L o5 o4 o3 o2 o1 ((D1, listOf ys1.toArray n1) :: tl), p.1 ≠ P := fun p hp => hap (P, o) (List.mem_cons_self ..) p hp
      have hC7 : IsCells ((P, o) :: (kept ++ cellsL L o5 o4 o3 o2 o1 ((D1, listOf ys1.toArray n1) :: tl))) C := IsCells.mono hC fun p hp => List.mem_cons_of_mem _ (List.mem_append_right _ (by simp [hp]))
      have m1 : (L + 1, o1) ∈ ((P, o) :: (kept ++ cellsL L o5 o4 o3 o2 o1 ((D1, listOf ys1.toArray n1) :: tl))) := List.mem_cons_of_mem _ (List.mem_append_right _ (by simp))
      have hi7 : i ≤ 100 := by omega
      refine tests_nil ?_
      simp only [if_true]
      k_extra "mine steps"
      rename Fr _ _ _ _ => F9
      rename News _ _ _ _ => N9
      rename Pen C (_ + 1) _ => hP9
      exact draw_turn F9 N9 hP9 hdr (by assumption) (by assumption)
    · rintro D2 h5 tk5 st5 tl5 ys2 n2 - - - - hD2 - ⟨po2, cs2, rfl, rfl, hP2, hdr2⟩ F5 N5
      clear F3 N3
      have O2 : Own L P ((D2, listOf ys2.toArray n2) :: (D1, listOf ys1.toArray n1) :: tl) := own_new O1 hD2
      replace N5 := own_back N5
      replace hP2 : Pen C (kp + 14) po2 := hP2.mono (by omega)
      replace hdr2 : Drawn ys2 7 5 cs2 := hdr2
      k_extra "mine stop"
      rename Fr _ _ _ _ => F9
      rename News _ _ _ _ => N9
      exact k D1 D2 ys1 ys2 n1 n2 cs1 cs2 po2 _ _ _ F9 (fun p hp => N9 p (List.mem_cons_of_mem _ hp)) O2 hP2 hdr1 hdr2 (by k_extra "mine look") (by k_extra "mine look")
end

inductive CovJ (P C : Addr) (k : Nat) (base : Wd) (i : Nat) (ys : List Value) (st tl : Wd) : Prop
  | mk : ∀ o cs, st = [(P, o)] →
    tl = base →
    Pen C (k + i) o →
    IntsAre ys cs →
    cs.Pairwise (· < ·) →
    (∀ c ∈ cs, 0 ≤ c ∧ c < i) →
    cs.length ≤ i → CovJ P C k base i ys st tl
theorem cov_turn1 {g : Heap} {L P C : Addr} {k i : Nat} {base kept : Wd} {tx : Tok} {o o' : Obj} {ys : List Value} {cs : List Int} {h : Heap} {m : Str → Option Value} {s₁ : Shared} {tk : Nat} (F : Fr g L h m) (N : News g L h ((P, o') :: (kept ++ base))) (hP : Pen C (k + i + 1) o') (d1 : IntsAre ys cs) (d2 : cs.Pairwise (· < ·)) (d3 : ∀ c ∈ cs, 0 ≤ c ∧ c < i) (d4 : cs.length ≤ i) :
    TurnEnd g L kept [(P, o)] base (fun y st' tl' => CovJ P C k base (i + 1) (ys ++ y.toList) st' tl') s₁ (some (.int (0 + (i : Int)) tx)) { s₁ with heap := h, toks := tk } := by
  refine ⟨h, tk, m, [(P, o')], base, rfl, F, N, rfl, fun _ q => q, fun _ q => .inl q, o', cs ++ [(0 + (i : Int))], rfl, rfl, hP, d1.append (.cons _ _ .nil), ?_, fun c hc => ?_, by rw [List.length_append]; simp; omega⟩
  · rw [List.pairwise_append]
    refine ⟨d2, by simp, fun a ha b hb => ?_⟩
    rw [List.mem_singleton.mp hb]
    have := d3 a ha
    omega
  · rcases List.mem_append.mp hc with q | q
    · have := d3 c q
      omega
    · rw [List.mem_singleton.mp q]; omega
theorem cov_turn0 {g : Heap} {L P C : Addr} {k i : Nat} {base kept : Wd} {o o' : Obj} {ys : List Value} {cs : List Int} {h : Heap} {m : Str → Option Value} {s₁ : Shared} {tk : Nat} (F : Fr g L h m) (N : News g L h ((P, o') :: (kept ++ base))) (hP : Pen C (k + i + 1) o') (d1 : IntsAre ys cs) (d2 : cs.Pairwise (· < ·)) (d3 : ∀ c ∈ cs, 0 ≤ c ∧ c < i) (d4 : cs.length ≤ i) :
    TurnEnd g L kept [(P, o)] base (fun y st' tl' => CovJ P C k base (i + 1) (ys ++ y.toList) st' tl') s₁ none { s₁ with heap := h, toks := tk } :=
  ⟨h, tk, m, [(P, o')], base, rfl, F, N, rfl, fun _ q => q, fun _ q => .inl q, o', cs, rfl, rfl, hP, by simpa using d1, d2, fun c hc => by have := d3 c hc; omega, by omega⟩
section
variable {w : World} {g : Heap} {L : Addr} {m : Str → Option Value} {s : Shared} {mean : ExcName → Option Value} {mg mb : Str → Option Value} {dp un : Nat} {fr : Option (List Env)} {gd : Option (List Code)} {Q : Flow → Shared → Prop}
  {oc : Value} {od : Option Addr} {name qual : Str} {params : Arguments} {body : List Stmt} {scope : Scope} {dV kV doc pm cdv ct cw : Value} {fa : Addr} {an : Option Addr} {osl : Array (Option Value)}
theorem seg2 {o5 o4 o3 o2 o1 po : Obj} {v2 : Option Value} {P C : Addr} {tl : Wd} {kp : Nat} (hb : (hd.heap_1 w.params).lookup 552 = some ⟨oc, od, .func (fnOf name qual params body scope dV kV doc pm an cdv ct), osl⟩) (hR : Room 20 dp un)
    (F : Fr g L s.heap m) (N : News g L s.heap (ownL L P o5 o4 o3 o2 o1 po ++ tl)) (X : (hd.heap_1 w.params).In g) (T0 : Top hd.view_1 (looseW hd.view_1 []) mean mg mb g) (O : Own L P tl)
    (d1 : o1.data = .cell (some (.ref P))) (d2 : o2.data = .cell v2) (hPn : Pen C kp po) (hC : IsCells tl C) (hCP : C ≠ P) (hkp : kp ≤ 1000)
    (k : ∀ D1 vs1 n1 cs1 b o2' po' h' tk m', Fr g L h' m' → News g L h' (ownL L P o5 o4 o3 o2' o1 po' ++ ((D1, listOf (List.toArray vs1) n1) :: tl)) → Own L P ((D1, listOf (List.toArray vs1) n1) :: tl) → Pen C (kp + 8) po' →
      IntsAre vs1 cs1 → cs1.Pairwise (· < ·) → (∀ c ∈ cs1, 0 ≤ c ∧ c < 7) → cs1.length ≤ 7 → o2'.data = .cell (some (.bool b)) → m' "covered" = some (.ref D1) → (∀ x : Str, x ≠ "covered" → m' x = m x) →
      wpAny (model PW w) (Ar dp un fr gd) (execs (body.drop 3) (envOfC qual scope L fa cw)) Q NoE { s with heap := h', toks := tk }) :
    wpAny (model PW w) (Ar dp un fr gd) (execs (body.drop 2) (envOfC qual scope L fa cw)) Q NoE s := by
  obtain ⟨rfl, rfl, rfl, rfl⟩ := fn_inj hb (by k_is)
  clear hb
  dsimp only [List.drop] at k ⊢
  walk1
  k_extra "mine stop"
  refine ListComp_S F (by rfl) (by decide) (by rfl) (by decide) ?_
  k_extra "mine stop"
  refine pyIter_rangeF (by assumption) (by first | decide +kernel | omega) (by first | decide +kernel | omega) (by first | decide +kernel | omega) (by first | decide +kernel | omega) ?_
  rename Fr _ _ _ _ => F3
  rename News _ _ _ _ => N3
  refine ⟨_, _, [(P, po)], cellsL L o5 o4 o3 o2 o1 tl, CovJ P C kp (cellsL L o5 o4 o3 o2 o1 tl), for_range rfl F3 (own_base N3), by omega, ⟨po, [], rfl, rfl, hPn, .nil, List.Pairwise.nil, (fun _ h => nomatch h), Nat.le_refl _⟩, own_apb O, ?_, ?_⟩
  · clear k
    rintro g2 C2 i v ys m2 st2 tl2 h2 tk2 kept hg2 hi ⟨tv, rfl⟩ ⟨o, cs, rfl, rfl, hPi, e1, e2, e3, e4⟩ - hap F6 N6
    have X2 := X.keeps hg2
    have T2 := T0.keeps hg2
    refine blk_assign F6 N6 rfl rfl ?_
    intro h7 F7 N7
    replace F7 : Fr g2 C2 h7 _ := F7
    replace N7 : News g2 C2 h7 ((P, o) :: (kept ++ cellsL L o5 o4 o3 o2 o1 (tl))) := N7
    clear F6 N6 F3 N3
    have aP : ∀ p ∈ kept ++ cellsL L o5 o4 o3 o2 o1 (tl), p.1 ≠ P := fun p hp => hap (P, o) (List.mem_cons_self ..) p hp
    have hC7 : IsCells ((P, o) :: (kept ++ cellsL L o5 o4 o3 o2 o1 (tl))) C := IsCells.mono hC fun p hp => List.mem_cons_of_mem _ (List.mem_append_right _ (by simp [hp]))
    have m1 : (L + 1, o1) ∈ ((P, o) :: (kept ++ cellsL L o5 o4 o3 o2 o1 (tl))) := List.mem_cons_of_mem _ (List.mem_append_right _ (by simp))
    have hi7 : i ≤ 100 := by omega
    refine tests_one ?_
    k_extra "mine stop"
    · rename_i x' tx' o' h8 tk8 hx0 hx1 hP8 F8 N8 hx2
      exact cov_turn1 F8 N8 hP8 e1 e2 e3 e4
    · rename_i x' tx' o' h8 tk8 hx0 hx1 hP8 F8 N8 hx2
      exact cov_turn0 F8 N8 hP8 e1 e2 e3 e4
  · rintro D1 h4 tk4 st4 tl4 ys1 n1 - - - - hD - ⟨po1, cs1, rfl, rfl, hP1, e1, e2, e3, e4⟩ F4 N4
    clear F3 N3
    have O1 : Own L P ((D1, listOf ys1.toArray n1) :: tl) := own_new O hD
    replace N4 := own_back N4
    replace hP1 : Pen C (kp + 7) po1 := hP1
    have hC1 : IsCells ((D1, listOf ys1.toArray n1) :: tl) C := hC.mono fun p hp => List.mem_cons_of_mem _ hp
    generalize htl1 : (D1, listOf ys1.toArray n1) :: tl = tl1 at N4 O1 hC1
    obtain ⟨p1, p2, p3, p4, p5, t1, t2, t3, t4, t5, tP⟩ := O1
    replace N4 : News g L h4 ((L + 1 + 1 + 1 + 1 + 1, o5) :: (L + 1 + 1 + 1 + 1, o4) :: (L + 1 + 1 + 1, o3) :: (L + 1 + 1, o2) :: (L + 1, o1) :: (P, po1) :: tl1) := N4
    have hC2 : IsCells ((L + 1 + 1 + 1 + 1 + 1, o5) :: (L + 1 + 1 + 1 + 1, o4) :: (L + 1 + 1 + 1, o3) :: (L + 1 + 1, o2) :: (L + 1, o1) :: (P, po1) :: tl1) C := hC1.mono fun p hp => by simp [hp]
    k_extra "mine stop"
    rename_i x tx oP hA tkA hx0 hx1 hP2 Dq hB lq hE1 hE2 hE3 oI F9 N9 d9
    subst htl1
    exact k D1 ys1 n1 cs1 (x == 1) oI oP _ _ _ F9 (fun p hp => N9 p (List.mem_cons_of_mem _ hp)) ⟨p1, p2, p3, p4, p5, t1, t2, t3, t4, t5, tP⟩ hP2 e1 e2 e3 e4 d9 (by k_extra "mine look") (fun x hx => if_neg hx)
theorem seg3 {o5 o4 o3 o2 o1 po : Obj} {v3 : Option Value} {P C : Addr} {tl : Wd} {kp : Nat} (hb : (hd.heap_1 w.params).lookup 552 = some ⟨oc, od, .func (fnOf name qual params body scope dV kV doc pm an cdv ct), osl⟩) (hR : Room 20 dp un)
    (F : Fr g L s.heap m) (N : News g L s.heap (ownL L P o5 o4 o3 o2 o1 po ++ tl)) (X : (hd.heap_1 w.params).In g) (T0 : Top hd.view_1 (looseW hd.view_1 []) mean mg mb g) (O : Own L P tl)
    (d1 : o1.data = .cell (some (.ref P))) (d3 : o3.data = .cell v3) (hPn : Pen C kp po) (hC : IsCells tl C) (hCP : C ≠ P) (hkp : kp ≤ 1000)
    (k : ∀ cn on tc to_ o3' po' h' tk m', Fr g L h' m' → News g L h' (ownL L P o5 o4 o3' o2 o1 po' ++ tl) → Pen C (kp + 2) po' → 1 ≤ cn → cn ≤ 4 → 1 ≤ on → on ≤ 4 → o3'.data = .cell (some (.int on to_)) → m' "count" = some (.int cn tc) → (∀ x : Str, x ≠ "count" → m' x = m x) →
      wpAny (model PW w) (Ar dp un fr gd) (execs (body.drop 4) (envOfC qual scope L fa cw)) Q NoE { s with heap := h', toks := tk }) :
    wpAny (model PW w) (Ar dp un fr gd) (execs (body.drop 3) (envOfC qual scope L fa cw)) Q NoE s := by
  obtain ⟨rfl, rfl, rfl, rfl⟩ := fn_inj hb (by k_is)
  clear hb
  dsimp only [List.drop] at k ⊢
  obtain ⟨p1, p2, p3, p4, p5, t1, t2, t3, t4, t5, tP⟩ := O
  replace N : News g L s.heap ((L + 1 + 1 + 1 + 1 + 1, o5) :: (L + 1 + 1 + 1 + 1, o4) :: (L + 1 + 1 + 1, o3) :: (L + 1 + 1, o2) :: (L + 1, o1) :: (P, po) :: tl) := N
  walk1
  k_extra "mine stop"
  rename_i x1 tx1 oP1 hA tkA a0 a1 hP1 x2 tx2 oP2 hB tkB b0 b1 hP2 Dq hC9 lq hE1 hE2 hE3 oI F9 N9 d9
  exact k (1 + x1) (1 + x2) _ _ oI oP2 _ _ _ F9 (fun p hp => N9 p (List.mem_cons_of_mem _ hp)) hP2 (by omega) (by omega) (by omega) (by omega) d9 (by k_extra "mine look") (fun x hx => if_neg hx)
end

def menuA (x : Int) : Addr := if x = 0 then 491 else if x = 1 then 492 else if x = 2 then 493 else 494
theorem menuA_is (x : Int) : IsMenu (menuA x) := by
  unfold menuA IsMenu
  split
  · exact .inl rfl
  · split
    · exact .inr (.inl rfl)
    · split
      · exact .inr (.inr (.inl rfl))
      · exact .inr (.inr (.inr rfl))
theorem menu_at {x : Int} (h0 : 0 ≤ x) (h1 : x < 4) : ([.ref 491, .ref 492, .ref 493, .ref 494] : List Value)[x.toNat]? = some (.ref (menuA x)) := by
  have : x = 0 ∨ x = 1 ∨ x = 2 ∨ x = 3 := by omega
  rcases this with rfl | rfl | rfl | rfl <;> rfl
theorem menu_K {w : World} {A : Around} {E : Value → Shared → Prop} {s : Shared} {h₀ : Heap} {L : Addr} {m : Str → Option Value} {value slice : PySem.Expr} {k : Int} {u : Tok} {Q : Value → Shared → Prop} (F : Fr h₀ L s.heap m) (X : (hd.heap_1 w.params).In h₀) (h0 : 0 ≤ k) (h1 : k < 4) (h : Q (.ref (menuA k)) s)
    (hs : subscripted slice false (.ref 495) (.int k u) = operate [.ref 495, .int k u] (getItem (.ref 495) (.int k u)) := by with_unfolding_all rfl) :
    wpAny (model PW w) A (subscriptTail value slice (.ref 495) (.int k u)) Q E s := by
  obtain ⟨o, hm, hc, n, hd⟩ : ∃ o, (hd.heap_1 w.params).lookup 495 = some o ∧ o.cls = .type "tuple" ∧ ∃ n, o.data = .seq ([.ref 491, .ref 492, .ref 493, .ref 494] : List Value).toArray n :=
    ⟨_, by k_is, by rfl, _, by rfl⟩
  have ht : IsTup s.heap 495 ([.ref 491, .ref 492, .ref 493, .ref 494] : List Value).toArray := IsTup.keeps ⟨_, X 495 _ hm, hc, _, hd⟩ F.keep
  have hj : seqIndex? k ([.ref 491, .ref 492, .ref 493, .ref 494] : List Value).length = some k.toNat := by
    unfold seqIndex?
    have : ¬ k < 0 := by omega
    simp only [this, if_false]
    rw [if_pos]
    simp; omega
  exact item_tupleT ht (by omega) (by omega) hj (menu_at h0 h1) h hs
theorem row_j_42 : True := by
  (k_with "subscriptTail" => (k_here; (with_reducible show wpAny _ _ (subscriptTail _ _ (Value.ref 495) (Value.int _ _)) _ _ _); (refine' menu_K (by k_asm) (by k_asm) (by omega) (by omega) ?_ ?k6_q; (case k6_q => with_unfolding_all rfl); k_whole)))
  (k_with "subscriptTail Name Call ref int" => (k_here; (with_reducible show wpAny _ _ (subscriptTail _ _ (Value.ref 495) (Value.int _ _)) _ _ _); (refine' menu_K (by k_asm) (by k_asm) (by omega) (by omega) ?_ ?k6_q; (case k6_q => with_unfolding_all rfl); k_whole)))
  (k_with "subscriptTail Name IfExp ref int" => (k_here; (with_reducible show wpAny _ _ (subscriptTail _ _ (Value.ref 495) (Value.int _ _)) _ _ _); (refine' menu_K (by k_asm) (by k_asm) (by omega) (by omega) ?_ ?k6_q; (case k6_q => with_unfolding_all rfl); k_whole)))
  trivial
/-- a drawn row: its second part is the nothing where nothing is told -/
def RowOk (b : Bool) (r : List (Addr × Addr)) : Prop := ∀ c ∈ r, b = false → c.2 = 492
inductive RowJ (L P C : Addr) (o5 o4 o3 o2 o1 o : Obj) (k0 : Nat) (b : Bool) (kept tlx : Wd) (i2 : Nat) (ys2 : List Value) (st tl2 : Wd) : Prop
  | mk : ∀ o2' cells tl3, st = [(P, o2')] →
    tl2 = kept ++ cellsL L o5 o4 o3 o2 o1 tl3 →
    (∀ p ∈ tlx, p ∈ tl3) →
    FreshOf tlx tl3 ((P, o) :: (kept ++ cellsL L o5 o4 o3 o2 o1 [])) →
    Pen C (k0 + 2 * i2) o2' →
    AtAll (CellAt tl3) ys2 cells →
    cells.length = i2 →
    RowOk b cells → RowJ L P C o5 o4 o3 o2 o1 o k0 b kept tlx i2 ys2 st tl2
theorem row_turn {L P C C3 D : Addr} {o5 o4 o3 o2 o1 o o2' oP : Obj} {k0 kq i2 : Nat} {b : Bool} {kept kept2 tlx tl3 : Wd} {ys2 : List Value} {cells : List (Addr × Addr)} {g h : Heap} {m : Str → Option Value} {s₁ : Shared} {tk : Nat} {a a' : Addr} (F : Fr g C3 h m)
    (N : News g C3 h ((D, tupOf [.ref a, .ref a'] 0) :: (P, oP) :: (kept2 ++ (kept ++ cellsL L o5 o4 o3 o2 o1 tl3)))) (l : P < D ∧ AllLt D (kept2 ++ (kept ++ cellsL L o5 o4 o3 o2 o1 tl3))) (hP : Pen C kq oP) (hq : kq ≤ k0 + 2 * i2 + 2) (s3 : ∀ p ∈ tlx, p ∈ tl3) (f3 : FreshOf tlx tl3 ((P, o) :: (kept ++ cellsL L o5 o4 o3 o2 o1 [])))
    (hA3 : AtAll (CellAt tl3) ys2 cells) (hcl : cells.length = i2) (hck : RowOk b cells) (ha : IsMenu a) (ha' : IsMenu a') (hb : b = false → a' = 492) :
    TurnEnd g C3 kept2 [(P, o2')] (kept ++ cellsL L o5 o4 o3 o2 o1 tl3) (fun y st' tl' => RowJ L P C o5 o4 o3 o2 o1 o k0 b kept tlx (i2 + 1) (ys2 ++ y.toList) st' tl') s₁ (some (.ref D)) { s₁ with heap := h, toks := tk } := by
  have lD : ∀ p ∈ kept2 ++ (kept ++ cellsL L o5 o4 o3 o2 o1 tl3), p.1 < D := allLt_out l.2
  have hs : ∀ p ∈ tl3, p ∈ (D, tupOf [.ref a, .ref a'] 0) :: tl3 := fun p hp => List.mem_cons_of_mem _ hp
  refine ⟨h, tk, m, [(P, oP)], kept ++ cellsL L o5 o4 o3 o2 o1 ((D, tupOf [.ref a, .ref a'] 0) :: tl3), rfl, F, fun p hp => N p ?_, rfl, fun p hp => ?_, fun p hp => ?_, oP, cells ++ [(a, a')], (D, tupOf [.ref a, .ref a'] 0) :: tl3, rfl, rfl, fun p hp => hs p (s3 p hp), fun p hp => ?_, hP.mono (by omega), (hA3.mono fun _ _ q => q.mono hs).append (AtAll.one ⟨D, 0, rfl, List.mem_cons_self .., ha, ha'⟩), by rw [List.length_append, hcl]; rfl, fun c hc => ?_⟩
  · exact mem_of_sub (by k_extra "mine sub") hp
  · simp only [List.mem_cons, List.mem_append] at hp ⊢
    rcases hp with h | h | h | h | h | h | h <;> simp [h]
  · by_cases hd : p = (D, tupOf [.ref a, .ref a'] 0)
    · subst hd
      refine .inr fun q hq => ?_
      rcases List.mem_cons.mp hq with rfl | hq
      · exact Nat.ne_of_lt l.1
      · exact Nat.ne_of_lt (lD q (List.mem_append_left _ hq))
    · refine .inl ?_
      simp only [List.mem_cons, List.mem_append, hd, false_or] at hp ⊢
      exact hp
  · rcases List.mem_cons.mp hp with rfl | hp
    · refine .inr fun q hq => ?_
      rcases List.mem_cons.mp hq with rfl | hq
      · exact Nat.ne_of_lt l.1
      · refine Nat.ne_of_lt (lD q ?_)
        exact mem_of_sub (by k_extra "mine sub") hq
    · exact f3 p hp
  · rcases List.mem_append.mp hc with q | q
    · exact hck c q
    · rw [List.mem_singleton.mp q]; exact hb
section
variable {w : World} {g : Heap} {L : Addr} {m : Str → Option Value} {s : Shared} {mean : ExcName → Option Value} {mg mb : Str → Option Value} {dp un : Nat} {fr : Option (List Env)} {gd : Option (List Code)} {Q : Flow → Shared → Prop}
  {oc : Value} {od : Option Addr} {name qual : Str} {params : Arguments} {body : List Stmt} {scope : Scope} {dV kV doc pm cdv ct cw : Value} {fa : Addr} {an : Option Addr} {osl : Array (Option Value)}
inductive RowsJ (L P C : Addr) (o5 o4 o3 o2 o1 po : Obj) (kp : Nat) (on : Int) (b : Bool) (tl : Wd) (i : Nat) (ys : List Value) (st tl' : Wd) : Prop
  | mk : ∀ o rows tlx, st = [(P, o)] → tl' = cellsL L o5 o4 o3 o2 o1 tlx → (∀ p ∈ tl, p ∈ tlx) → FreshOf tl tlx ((P, po) :: cellsL L o5 o4 o3 o2 o1 []) → Pen C (kp + 8 * i) o → AtAll (CRow tlx) ys rows → rows.length = i → (∀ r ∈ rows, (r.length : Int) = on ∧ RowOk b r) → RowsJ L P C o5 o4 o3 o2 o1 po kp on b tl i ys st tl'
theorem seg4 {o5 o4 o3 o2 o1 po : Obj} {b : Bool} {cn on : Int} {tc tn : Tok} {P C : Addr} {tl : Wd} {kp : Nat} (hb : (hd.heap_1 w.params).lookup 552 = some ⟨oc, od, .func (fnOf name qual params body scope dV kV doc pm an cdv ct), osl⟩) (hR : Room 20 dp un)
    (F : Fr g L s.heap m) (N : News g L s.heap (ownL L P o5 o4 o3 o2 o1 po ++ tl)) (X : (hd.heap_1 w.params).In g) (T0 : Top hd.view_1 (looseW hd.view_1 []) mean mg mb g) (O : Own L P tl)
    (d1 : o1.data = .cell (some (.ref P))) (d2 : o2.data = .cell (some (.bool b))) (d3 : o3.data = .cell (some (.int on tn))) (hcn : m "count" = some (.int cn tc)) (hc1 : 1 ≤ cn) (hc4 : cn ≤ 4) (ho1 : 1 ≤ on) (ho4 : on ≤ 4) (hPn : Pen C kp po) (hC : IsCells tl C) (hCP : C ≠ P) (hkp : kp ≤ 1000)
    (k : ∀ D1 vs1 n1 rows tlx po' h' tk m', Fr g L h' m' → News g L h' (ownL L P o5 o4 o3 o2 o1 po' ++ ((D1, listOf (List.toArray vs1) n1) :: tlx)) → Own L P ((D1, listOf (List.toArray vs1) n1) :: tlx) → (∀ p ∈ tl, p ∈ tlx) → Pen C (kp + 32) po' →
      AtAll (CRow tlx) vs1 rows → (rows.length : Int) = cn → (∀ r ∈ rows, (r.length : Int) = on ∧ RowOk b r) → m' "rows" = some (.ref D1) → (∀ x : Str, x ≠ "rows" → m' x = m x) →
      wpAny (model PW w) (Ar dp un fr gd) (execs (body.drop 5) (envOfC qual scope L fa cw)) Q NoE { s with heap := h', toks := tk }) :
    wpAny (model PW w) (Ar dp un fr gd) (execs (body.drop 4) (envOfC qual scope L fa cw)) Q NoE s := by
  obtain ⟨rfl, rfl, rfl, rfl⟩ := fn_inj hb (by k_is)
  clear hb
  dsimp only [List.drop] at k ⊢
  walk1
  refine Assign_ListComp_S F (by rfl) (by rfl) (by decide) (by rfl) (by decide) (by rfl) (by rfl) ?_
  k_extra "mine stop"
  refine pyIter_rangeF (by assumption) (by first | decide +kernel | omega) (by first | decide +kernel | omega) (by first | decide +kernel | omega) (by first | decide +kernel | omega) ?_
  rename Fr _ _ _ _ => F3
  rename News _ _ _ _ => N3
  refine ⟨_, _, [(P, po)], cellsL L o5 o4 o3 o2 o1 tl, RowsJ L P C o5 o4 o3 o2 o1 po kp on b tl, for_range rfl F3 (own_base N3), by omega, ⟨po, [], tl, rfl, rfl, fun _ h => h, FreshOf.refl, hPn, AtAll.nil, rfl, (fun _ h => nomatch h)⟩, own_apb O, ?_, ?_⟩
  · clear k
    rintro g2 C2 i v ys m2 st2 tl2 h2 tk2 kept hg2 hi ⟨tv, rfl⟩ ⟨o, rows, tlx, rfl, rfl, sx, fx, hPi, hA, hrl, hrk⟩ - hap F6 N6
    have X2 := X.keeps hg2
    have T2 := T0.keeps hg2
    refine blk_assign F6 N6 rfl rfl ?_
    intro h7 F7 N7
    replace F7 : Fr g2 C2 h7 _ := F7
    replace N7 : News g2 C2 h7 ((P, o) :: (kept ++ cellsL L o5 o4 o3 o2 o1 tlx)) := N7
    clear F6 N6 F3 N3
    have q3 : (L + 1 + 1 + 1, o3) ∈ ((P, o) :: (kept ++ cellsL L o5 o4 o3 o2 o1 tlx)) := List.mem_cons_of_mem _ (List.mem_append_right _ (by simp))
    have hi7 : i ≤ 4 := by omega
    refine tests_nil ?_
    simp only [if_true]
    refine ListComp_S F7 (by rfl) (by decide) (by rfl) (by decide) ?_
    k_extra "mine stop"
    refine pyIter_rangeF (by assumption) (by first | decide +kernel | omega) (by first | decide +kernel | omega) (by first | decide +kernel | omega) (by first | decide +kernel | omega) ?_
    rename Fr _ _ _ _ => F8
    rename News _ _ _ _ => N8
    refine ⟨_, _, [(P, o)], kept ++ cellsL L o5 o4 o3 o2 o1 tlx, RowJ L P C o5 o4 o3 o2 o1 o (kp + 8 * i) b kept tlx, for_range rfl F8 N8, by omega, ⟨o, [], tlx, rfl, rfl, fun _ h => h, FreshOf.refl, hPi, AtAll.nil, rfl, (fun _ h => nomatch h)⟩, hap, ?_, ?_⟩
    · clear N8 F8
      rintro g3 C3 i2 v2 ys2 m3 st3 tl3' h3 tk3 kept2 hg3 hi2 ⟨tv2, rfl⟩ ⟨o2', cells, tl3, rfl, rfl, s3, f3, hPi2, hA3, hcl, hck⟩ - hap3 F9 N9
      have X3 := X2.keeps hg3
      have T3 := T2.keeps hg3
      refine blk_assign F9 N9 rfl rfl ?_
      intro h10 F10 N10
      replace F10 : Fr g3 C3 h10 _ := F10
      replace N10 : News g3 C3 h10 ((P, o2') :: (kept2 ++ (kept ++ cellsL L o5 o4 o3 o2 o1 tl3))) := N10
      clear F9 N9
      have aP : ∀ p ∈ kept2 ++ (kept ++ cellsL L o5 o4 o3 o2 o1 tl3), p.1 ≠ P := fun p hp => hap3 (P, o2') (List.mem_cons_self ..) p hp
      have hCt : IsCells (kept2 ++ (kept ++ cellsL L o5 o4 o3 o2 o1 tl3)) C := IsCells.mono hC fun p hp => List.mem_append_right _ (List.mem_append_right _ (by simp [s3 _ (sx _ hp)]))
      have w1 : (L + 1, o1) ∈ (kept2 ++ (kept ++ cellsL L o5 o4 o3 o2 o1 tl3)) := List.mem_append_right _ (List.mem_append_right _ (by simp))
      have w2 : (L + 1 + 1, o2) ∈ (kept2 ++ (kept ++ cellsL L o5 o4 o3 o2 o1 tl3)) := List.mem_append_right _ (List.mem_append_right _ (by simp))
      have hi8 : i2 ≤ 4 := by omega
      refine tests_nil ?_
      simp only [if_true]
      cases b with
      | true =>
        k_extra "mine stop"
        rename_i D9 h9 F9 N9 l9
        exact row_turn F9 N9 l9 (by assumption) (by omega) s3 f3 hA3 hcl hck (menuA_is _) (menuA_is _) (fun h => nomatch h)
      | false =>
        k_extra "mine stop"
        rename_i D9 h9 F9 N9 l9
        exact row_turn F9 N9 l9 (by assumption) (by omega) s3 f3 hA3 hcl hck (menuA_is _) (menuA_is _) (fun _ => rfl)
    · clear F8 N8
      rintro D2 h6 tk6 st6 tl6 ys6 k6 - - - hap6 hD6 hb6 ⟨o2', cells, tl3, rfl, rfl, s3, f3, hPi2, hA3, hcl, hck⟩ F9 N9
      replace F9 : Fr g2 C2 h6 _ := F9
      have lD : ∀ q ∈ (P, o) :: kept, q.1 ≠ D2 := fun q hq => by
        rcases List.mem_cons.mp hq with rfl | hq
        · exact hD6 (P, o2') (by simp)
        · exact hD6 q (by simp [hq])
      have hs : ∀ p ∈ tl3, p ∈ (D2, listOf ys6.toArray k6) :: tl3 := fun p hp => List.mem_cons_of_mem _ hp
      refine ⟨_, _, _, [(P, o2')], cellsL L o5 o4 o3 o2 o1 ((D2, listOf ys6.toArray k6) :: tl3), rfl, F9, fun p hp => N9 p ?_, rfl, fun p hp => ?_, fun p hp => ?_, o2', rows ++ [cells], (D2, listOf ys6.toArray k6) :: tl3, rfl, rfl, fun p hp => hs p (s3 p (sx p hp)), fun p hp => ?_, hPi2.mono (by omega), (hA.mono fun _ _ q => q.mono fun p hp => hs p (s3 p hp)).append (AtAll.one ⟨D2, ys6, k6, rfl, List.mem_cons_self .., hA3.mono fun _ _ q => q.mono hs, by rw [hA3.1, hcl]; omega⟩), by rw [List.length_append, hrl]; rfl, fun r hr => ?_⟩
      · exact mem_of_sub (by k_extra "mine sub") hp
      · simp only [List.mem_cons] at hp ⊢
        rcases hp with h | h | h | h | h | h
        · simp [h]
        · simp [h]
        · simp [h]
        · simp [h]
        · simp [h]
        · simp [s3 p h]
      · simp only [List.mem_cons] at hp
        rcases hp with h | h | h | h | h | h | h
        · exact .inl (by simp [h])
        · exact .inl (by simp [h])
        · exact .inl (by simp [h])
        · exact .inl (by simp [h])
        · exact .inl (by simp [h])
        · refine .inr fun q hq => ?_
          rw [h]; exact lD q hq
        · rcases f3 p h with q | q
          · exact .inl (by simp [q])
          · refine .inr fun x hx => q x ?_
            rcases List.mem_cons.mp hx with rfl | hx
            · exact List.mem_cons_self ..
            · exact List.mem_cons_of_mem _ (List.mem_append_left _ hx)
      · rcases List.mem_cons.mp hp with rfl | hp
        · refine .inr fun q hq => ?_
          rcases List.mem_cons.mp hq with rfl | hq
          · exact hD6 (P, o2') (by simp)
          · exact hD6 q (by
              exact mem_of_sub (by k_extra "mine sub") hq)
        · rcases f3 p hp with q | q
          · rcases fx p q with h | h
            · exact .inl h
            · exact .inr h
          · refine .inr fun x hx => ?_
            rcases List.mem_cons.mp hx with rfl | hx
            · exact q (P, o) (List.mem_cons_self ..)
            · exact q x (List.mem_cons_of_mem _ (List.mem_append_right _ hx))
      · rcases List.mem_append.mp hr with q | q
        · exact hrk r q
        · rw [List.mem_singleton.mp q]
          exact ⟨by rw [hcl]; omega, hck⟩
  · rintro D1 h4 tk4 st4 tl4 ys1 n1 F4 N4 - - hD - ⟨o', rows, tlx, rfl, rfl, sx, fx, hP1, hA, hrl, hrk⟩ h5 F5 N5
    have fO : FreshOf tl ((D1, listOf ys1.toArray n1) :: tlx) (ownL L P o5 o4 o3 o2 o1 po) := fun p hp => by
      rcases List.mem_cons.mp hp with rfl | hp
      · refine .inr fun q hq => ?_
        simp only [List.mem_cons, List.not_mem_nil, or_false] at hq
        rcases hq with h | h | h | h | h | h
        · rw [h]; exact hD (L + 1 + 1 + 1 + 1 + 1, o5) (by simp)
        · rw [h]; exact hD (L + 1 + 1 + 1 + 1, o4) (by simp)
        · rw [h]; exact hD (L + 1 + 1 + 1, o3) (by simp)
        · rw [h]; exact hD (L + 1 + 1, o2) (by simp)
        · rw [h]; exact hD (L + 1, o1) (by simp)
        · rw [h]; exact hD (P, o') (by simp)
      · refine (fx p hp).imp id fun h q hq => ?_
        refine h q ?_
        simp only [List.mem_cons, List.not_mem_nil, or_false] at hq ⊢
        rcases hq with h | h | h | h | h | h <;> simp [h]
    refine k D1 ys1 n1 rows tlx o' h5 _ _ F5 (own_back N5) (O.fresh fO) sx (hP1.mono (by omega)) hA (by omega) hrk (if_pos rfl) (fun x hx => if_neg hx)
end

theorem lay_small : ∀ {os : List Int}, os.length ≤ 100 → (∀ c ∈ os, 0 ≤ c ∧ c < 4) → PyData.layable0 (.list (os.map .int)) = true := by
  have h1 : ∀ os : List Int, PyData.canLayAll0 (os.map .int) = true ∧ PyData.depthAll (os.map .int) = 0 := fun os => by
    induction os with
    | nil => exact ⟨rfl, rfl⟩
    | cons c r ih => exact ⟨by simp [PyData.canLayAll0, PyData.canLay0, ih.1], by simp [PyData.depthAll, PyData.depth, ih.2]⟩
  have h2 : ∀ os : List Int, (∀ c ∈ os, 0 ≤ c ∧ c < 4) → PyData.weightAll (os.map .int) ≤ os.length * 3 := fun os => by
    induction os with
    | nil => intro _; exact Nat.le_refl _
    | cons c r ih =>
      intro h
      have := ih fun x hx => h x (List.mem_cons_of_mem _ hx)
      have hc : c = 0 ∨ c = 1 ∨ c = 2 ∨ c = 3 := by have := h c (List.mem_cons_self ..); omega
      have hw : PyData.weight (.int c) ≤ 2 := by
        rcases hc with rfl | rfl | rfl | rfl <;> simp [PyData.weight] <;> decide
      rw [List.map_cons, PyData.weightAll, List.length_cons]
      omega
  intro os hl h
  unfold PyData.layable0
  have a := h1 os
  have b := h2 os h
  rw [Bool.and_eq_true, Bool.and_eq_true]
  refine ⟨⟨by rw [PyData.canLay0]; exact a.1, by rw [decide_eq_true_eq, PyData.depth, a.2]; decide⟩, ?_⟩
  rw [decide_eq_true_eq, PyData.weight, show (2 : Nat) ^ 20 = 1048576 from by decide]
  omega
/-- an order of 0 .. n-1 -/
def OrderOf (n : Nat) (os : List Int) : Prop := os.length = n ∧ (∀ c ∈ os, 0 ≤ c ∧ c < (n : Int)) ∧ (∀ c : Int, 0 ≤ c → c < n → c ∈ os) ∧ os.Nodup ∧ os.head? = some 0
theorem order_range {n : Nat} (h : 1 ≤ n) : OrderOf n (rangeKs 0 n) := by
  refine ⟨rangeKs_length .., fun c hc => by have := mem_rangeKs hc; omega, fun c h0 h1 => ?_, ?_, ?_⟩
  · exact List.mem_map.mpr ⟨c.toNat, List.mem_range.mpr (by omega), by simp; omega⟩
  · unfold rangeKs
    rw [List.nodup_iff_pairwise_ne, List.pairwise_map]
    exact List.nodup_range.imp fun hne q => hne (by omega)
  · obtain ⟨k, rfl⟩ : ∃ k, n = k + 1 := ⟨n - 1, by omega⟩
    unfold rangeKs
    rw [List.range_succ_eq_map]; rfl
theorem order_perm {n : Nat} {fs : List Int} (h : 1 ≤ n) (hp : fs.Perm (0 :: rangeKs 1 (n - 1))) (hh : fs.head? = some 0) : OrderOf n fs := by
  have hm : ∀ c : Int, c ∈ fs ↔ 0 ≤ c ∧ c < n := fun c => by
    rw [hp.mem_iff, List.mem_cons]
    constructor
    · rintro (rfl | q)
      · omega
      · have := mem_rangeKs q; omega
    · intro q
      by_cases h0 : c = 0
      · exact .inl h0
      · refine .inr (List.mem_map.mpr ⟨(c - 1).toNat, List.mem_range.mpr (by omega), by omega⟩)
  refine ⟨by rw [hp.length_eq, List.length_cons, rangeKs_length]; omega, fun c hc => (hm c).mp hc, fun c h0 h1 => (hm c).mpr ⟨h0, h1⟩, ?_, hh⟩
  rw [hp.nodup_iff, List.nodup_cons]
  refine ⟨fun q => by have := mem_rangeKs q; omega, ?_⟩
  unfold rangeKs
  rw [List.nodup_iff_pairwise_ne, List.pairwise_map]
  exact List.nodup_range.imp fun hne q => hne (by omega)

theorem row_j_43 : True := by
  (k_with "mine stopc" => repeat' (k_extra "mine no"; (fail_if_success (with_reducible refine stopC 535 ?_)); (fail_if_success (with_reducible refine stopC 523 ?_)); (fail_if_success (with_reducible refine stopC 547 ?_)); (fail_if_success (with_reducible refine stopC 289 ?_)); (fail_if_success (with_reducible refine stopC 542 ?_)); (fail_if_success (with_reducible refine stopC 313 ?_)); (fail_if_success (with_reducible refine stopC 281 ?_)); (fail_if_success (with_reducible refine stopC 332 ?_)); k_extra "mine one"))
  trivial
section
variable {w : World} {g : Heap} {L : Addr} {m : Str → Option Value} {s : Shared} {mean : ExcName → Option Value} {mg mb : Str → Option Value} {dp un : Nat} {fr : Option (List Env)} {gd : Option (List Code)} {Q : Flow → Shared → Prop}
  {oc : Value} {od : Option Addr} {name qual : Str} {params : Arguments} {body : List Stmt} {scope : Scope} {dV kV doc pm cdv ct cw : Value} {fa : Addr} {an : Option Addr} {osl : Array (Option Value)}
/-- what the tables are made of -/
structure Stuff (tl : Wd) (cA fA sA rA : Addr) (cs fs ss : List Int) (rows : List (List (Addr × Addr))) (cn on : Int) : Prop where
  cov : ∃ vs n, (cA, listOf (List.toArray vs) n) ∈ tl ∧ IntsAre vs cs
  covp : cs.Pairwise (· < ·)
  covl : cs.length ≤ 7
  first : ∃ vs n, (fA, listOf (List.toArray vs) n) ∈ tl ∧ Drawn vs 7 5 fs
  second : ∃ vs n, (sA, listOf (List.toArray vs) n) ∈ tl ∧ Drawn vs 7 5 ss
  row : ∃ vs n, (rA, listOf (List.toArray vs) n) ∈ tl ∧ AtAll (CRow tl) vs rows
  rows1 : (rows.length : Int) = cn
  rows2 : ∀ r ∈ rows, (r.length : Int) = on
  c1 : 1 ≤ cn
  c4 : cn ≤ 4
  o1 : 1 ≤ on
  o4 : on ≤ 4
theorem Stuff.mono {tl tl' : Wd} {cA fA sA rA : Addr} {cs fs ss : List Int} {rows : List (List (Addr × Addr))} {cn on : Int} (x : Stuff tl cA fA sA rA cs fs ss rows cn on) (h : ∀ p ∈ tl, p ∈ tl') : Stuff tl' cA fA sA rA cs fs ss rows cn on :=
  ⟨let ⟨a, b, c, d⟩ := x.cov; ⟨a, b, h _ c, d⟩, x.covp, x.covl, let ⟨a, b, c, d⟩ := x.first; ⟨a, b, h _ c, d⟩, let ⟨a, b, c, d⟩ := x.second; ⟨a, b, h _ c, d⟩, let ⟨a, b, c, d⟩ := x.row; ⟨a, b, h _ c, d.mono fun _ _ q => q.mono h⟩, x.rows1, x.rows2, x.c1, x.c4, x.o1, x.o4⟩
def tabPC (cs fs ss os0 os1 : List Int) (rows : List (List (Addr × Addr))) (b : Bool) : PC := { cov := cs, F := clsI fs os0 fs.length, G := clsI ss os1 ss.length, rows := tabRows rows os0 os1, sec := b || (tabRows rows os0 os1).flatten.any fun p => decide (p.2 ≠ (0, 0, 0, 0)) }
theorem tab_call {B : Heap} {tl : Wd} {cA fA sA rA oA a0 a1 : Addr} {v0 v1 : List Value} {cs fs ss os0 os1 : List Int} {rows : List (List (Addr × Addr))} {cn on : Int} {b : Bool} {no n0 n1 : Nat} (W : Wo w B tl s.heap) (x : Stuff tl cA fA sA rA cs fs ss rows cn on) (hor : (oA, listOf ([.ref a0, .ref a1] : List Value).toArray no) ∈ tl) (h0 : (a0, listOf v0.toArray n0) ∈ tl) (h0I : IntsAre v0 os0) (h1 : (a1, listOf v1.toArray n1) ∈ tl) (h1I : IntsAre v1 os1)
    (q0 : OrderOf cn.toNat os0) (q1 : OrderOf on.toNat os1) :
    Spec w 8 535 ⟨[.ref cA, .ref fA, .ref sA, .ref rA, .ref oA, .bool b], []⟩ s [] tl (QPC w (tabPC cs fs ss os0 os1 rows b)) := by
  obtain ⟨cv, nc, hc, hcI⟩ := x.cov
  obtain ⟨fv, nf, hf, hfI, hfl, hfb⟩ := x.first
  obtain ⟨sv, ns, hs, hsI, hsl, hsb⟩ := x.second
  obtain ⟨rv, nr, hr, hrA⟩ := x.row
  have e1 := x.rows1
  have e2 := x.c1
  have e3 := x.c4
  have e4 := x.o1
  have e5 := x.o4
  have l0 := q0.1
  have l1 := q1.1
  have hcl := x.covl
  have hra := hrA.1
  exact table_spec W hc hcI (by omega) x.covp hf hfI (by omega) hs hsI (by omega) hr hrA (by omega) hor h0 h0I h1 h1I (by omega) (by omega) (fun c hc => by have := q0.2.1 c hc; omega) (fun c hc => by have := q1.2.1 c hc; omega) (fun r hr => by have := x.rows2 r hr; omega)
    (lay_small (by omega) fun c hc => by have := q0.2.1 c hc; omega) (lay_small (by omega) fun c hc => by have := q1.2.1 c hc; omega) (fun c a b => q0.2.2.1 c (by omega) (by omega)) (fun c a b => q1.2.2.1 c (by omega) (by omega))
theorem order_O {o5 o4 o3 o2 o1 po : Obj} {P C : Addr} {tl : Wd} {kp : Nat} {many : Int} {tm : Tok} {Q E : Value → Shared → Prop} (F : Fr g L s.heap m) (N : News g L s.heap (ownL L P o5 o4 o3 o2 o1 po ++ tl)) (X : (hd.heap_1 w.params).In g) (T0 : Top hd.view_1 (looseW hd.view_1 []) mean mg mb g) (O : Own L P tl)
    (hPn : Pen C kp po) (hC : IsCells tl C) (hCP : C ≠ P) (hkp : kp ≤ 2000) (h1 : 1 ≤ many) (h2 : many ≤ 4) (hR : Room 2 dp un)
    (k : ∀ d vf fs nf po' kq h' tk, Fr g L h' m → News g L h' (ownL L P o5 o4 o3 o2 o1 po' ++ ((d, listOf (List.toArray vf) nf) :: tl)) → Own L P ((d, listOf (List.toArray vf) nf) :: tl) → Pen C kq po' → kq ≤ kp + 4 → IntsAre vf fs → OrderOf many.toNat fs → Q (.ref d) { s with heap := h', toks := tk }) :
    wpAny (model PW w) (Ar dp un fr gd) (call (.ref 523) [.ref P, .int many tm]) Q E s := by
  refine useS (args := ⟨[_, _], []⟩) (D := [P]) F N (order_spec ((wo_of F N X T0).sub fun p hp => ?_) hC hPn O.tP hCP (by omega) h1 h2) (fun b hb => by rw [List.mem_singleton.mp hb]; simp) hR ?_
  · rcases List.mem_append.mp hp with h | h
    · exact List.mem_append_left _ (by rw [List.mem_singleton.mp h]; simp)
    · exact List.mem_append_right _ h
  · rintro v' tl' h' tk ⟨d, vf, fs, nf, o', kq, rfl, rfl, hI, hg, hP', hk', hh, hp⟩ K s' f'
    obtain ⟨F', N'⟩ := K (ownL L P o5 o4 o3 o2 o1 o') rfl (fun p hp => by
      simp only [List.mem_cons, List.not_mem_nil, or_false] at hp
      rcases hp with rfl | rfl | rfl | rfl | rfl | rfl
      · exact .inl ⟨by simp, fun q => O.p5 (List.mem_singleton.mp q).symm⟩
      · exact .inl ⟨by simp, fun q => O.p4 (List.mem_singleton.mp q).symm⟩
      · exact .inl ⟨by simp, fun q => O.p3 (List.mem_singleton.mp q).symm⟩
      · exact .inl ⟨by simp, fun q => O.p2 (List.mem_singleton.mp q).symm⟩
      · exact .inl ⟨by simp, fun q => O.p1 (List.mem_singleton.mp q).symm⟩
      · exact .inr hg)
    have O' : Own L P ((d, listOf vf.toArray nf) :: tl) := O.fresh (o5 := o5) (o4 := o4) (o3 := o3) (o2 := o2) (o1 := o1) (po := po) fun p hp => (f' p hp).imp id fun h q hq => h q (List.mem_append_left _ hq)
    refine k d vf fs nf o' kq h' tk F' N' O' hP' hk' hI (order_perm (by omega) ?_ hh)
    have e : (many - 1).toNat = many.toNat - 1 := by omega
    rw [← e]; exact hp
theorem seg5 {o5 o4 o3 o2 o1 po : Obj} {b : Bool} {cn on : Int} {tc tn : Tok} {P cA fA sA rA : Addr} {cs fs ss : List Int} {rows : List (List (Addr × Addr))} {tl : Wd} (hb : (hd.heap_1 w.params).lookup 552 = some ⟨oc, od, .func (fnOf name qual params body scope dV kV doc pm an cdv ct), osl⟩) (hR : Room 20 dp un)
    (F : Fr g L s.heap m) (N : News g L s.heap (ownL L P o5 o4 o3 o2 o1 po ++ tl)) (X : (hd.heap_1 w.params).In g) (T0 : Top hd.view_1 (looseW hd.view_1 []) mean mg mb g) (O : Own L P tl)
    (d2 : o2.data = .cell (some (.bool b))) (d3 : o3.data = .cell (some (.int on tn))) (hcn : m "count" = some (.int cn tc)) (hS : Stuff tl cA fA sA rA cs fs ss rows cn on) (m1 : m "covered" = some (.ref cA)) (m2 : m "firsts" = some (.ref fA)) (m3 : m "seconds" = some (.ref sA)) (m4 : m "rows" = some (.ref rA))
    (k : ∀ x tlx h' tk m', Fr g L h' m' → News g L h' (ownL L P o5 o4 o3 o2 o1 po ++ tlx) → Own L P tlx → (∀ p ∈ tl, p ∈ tlx) → IsPC w tlx x (tabPC cs fs ss (rangeKs 0 cn.toNat) (rangeKs 0 on.toNat) rows b) → m' "plain" = some (.ref x) → (∀ x : Str, x ≠ "plain" → m' x = m x) →
      wpAny (model PW w) (Ar dp un fr gd) (execs (body.drop 6) (envOfC qual scope L fa cw)) Q NoE { s with heap := h', toks := tk }) :
    wpAny (model PW w) (Ar dp un fr gd) (execs (body.drop 5) (envOfC qual scope L fa cw)) Q NoE s := by
  obtain ⟨rfl, rfl, rfl, rfl⟩ := fn_inj hb (by k_is)
  clear hb
  dsimp only [List.drop] at k ⊢
  have e2 := hS.c1
  have e3 := hS.c4
  have e4 := hS.o1
  have e5 := hS.o4
  walk1
  k_extra "mine stopc"
  rename_i a0 v0 c0 hB tkB l0 I0 hC tkC t2 u2 vv2 rg2 aB a1 v1 c1 hD tkD I1 l1 oA hE FE NE lE
  have O1 : Own L P ((oA, listOf ([.ref a0, .ref a1] : List Value).toArray 0) :: (a1, listOf v1.toArray c1) :: (a0, listOf v0.toArray c0) :: tl) := O.of (o5 := o5) (o4 := o4) (o3 := o3) (o2 := o2) (o1 := o1) (po := po) fun p hp q hq => by
    have q0 := l0 p (List.mem_append_left _ hp)
    have q1 := allLt_out l1.2 p (List.mem_append_left _ hp)
    have q2 := allLt_out lE.2.2 p (List.mem_append_left _ hp)
    rcases List.mem_cons.mp hq with rfl | hq
    · exact Nat.ne_of_gt q2
    rcases List.mem_cons.mp hq with rfl | hq
    · exact Nat.ne_of_gt q1
    rcases List.mem_cons.mp hq with rfl | hq
    · exact Nat.ne_of_gt q0
    · exact O.ap p hp q hq
  have N1 : News g L hE (ownL L P o5 o4 o3 o2 o1 po ++ ((oA, listOf ([.ref a0, .ref a1] : List Value).toArray 0) :: (a1, listOf v1.toArray c1) :: (a0, listOf v0.toArray c0) :: tl)) := fun p hp => NE p (by
    rcases List.mem_append.mp hp with h | h
    · exact List.mem_cons_of_mem _ (List.mem_cons_of_mem _ (List.mem_cons_of_mem _ (List.mem_append_left _ h)))
    · rcases List.mem_cons.mp h with rfl | h
      · exact List.mem_cons_self ..
      rcases List.mem_cons.mp h with rfl | h
      · exact List.mem_cons_of_mem _ (List.mem_cons_self ..)
      rcases List.mem_cons.mp h with rfl | h
      · exact List.mem_cons_of_mem _ (List.mem_cons_of_mem _ (List.mem_cons_self ..))
      · exact List.mem_cons_of_mem _ (List.mem_cons_of_mem _ (List.mem_cons_of_mem _ (List.mem_append_right _ h))))
  rw [Int.sub_zero] at I0 I1
  refine useO (args := ⟨[_, _, _, _, _, _], []⟩) FE N1 (tab_call ((wo_of FE N1 X T0).sub fun p hp => List.mem_append_right _ hp) (hS.mono fun p hp => by simp [hp]) (List.mem_cons_self ..) (List.mem_cons_of_mem _ (List.mem_cons_of_mem _ (List.mem_cons_self ..))) I0 (List.mem_cons_of_mem _ (List.mem_cons_self ..)) I1 (order_range (by omega)) (order_range (by omega))) (by k_extra "mine room") ?_
  rintro v9 tl9 h9 tk9 ⟨x, rfl, hx⟩ F9 N9 s9 f9
  have O9 := O1.fresh f9
  clear FE NE N1 O1
  replace N9 : News g L h9 ((L + 1 + 1 + 1 + 1 + 1, o5) :: (L + 1 + 1 + 1 + 1, o4) :: (L + 1 + 1 + 1, o3) :: (L + 1 + 1, o2) :: (L + 1, o1) :: (P, po) :: tl9) := N9
  walk1
  rename_i hF FF NF
  exact k x tl9 hF _ _ FF NF O9 (fun p hp => s9 _ (by simp [hp])) hx (if_pos rfl) (fun x hx => if_neg hx)
theorem seg6 {o5 o4 o3 o2 o1 po : Obj} {b : Bool} {cn on : Int} {tc tn : Tok} {P C cA fA sA rA : Addr} {cs fs ss : List Int} {rows : List (List (Addr × Addr))} {tl : Wd} {kp : Nat} (hb : (hd.heap_1 w.params).lookup 552 = some ⟨oc, od, .func (fnOf name qual params body scope dV kV doc pm an cdv ct), osl⟩) (hR : Room 20 dp un)
    (F : Fr g L s.heap m) (N : News g L s.heap (ownL L P o5 o4 o3 o2 o1 po ++ tl)) (X : (hd.heap_1 w.params).In g) (T0 : Top hd.view_1 (looseW hd.view_1 []) mean mg mb g) (O : Own L P tl)
    (d1 : o1.data = .cell (some (.ref P))) (hPn : Pen C kp po) (hC : IsCells tl C) (hCP : C ≠ P) (hkp : kp ≤ 1000)
    (d2 : o2.data = .cell (some (.bool b))) (d3 : o3.data = .cell (some (.int on tn))) (hcn : m "count" = some (.int cn tc)) (hS : Stuff tl cA fA sA rA cs fs ss rows cn on) (m1 : m "covered" = some (.ref cA)) (m2 : m "firsts" = some (.ref fA)) (m3 : m "seconds" = some (.ref sA)) (m4 : m "rows" = some (.ref rA))
    (k : ∀ x tlx os0 os1 po' kq h' tk m', Fr g L h' m' → News g L h' (ownL L P o5 o4 o3 o2 o1 po' ++ tlx) → Own L P tlx → (∀ p ∈ tl, p ∈ tlx) → Pen C kq po' → kq ≤ kp + 8 → OrderOf cn.toNat os0 → OrderOf on.toNat os1 → IsPC w tlx x (tabPC cs fs ss os0 os1 rows b) → m' "turned" = some (.ref x) → (∀ x : Str, x ≠ "turned" → m' x = m x) →
      wpAny (model PW w) (Ar dp un fr gd) (execs (body.drop 7) (envOfC qual scope L fa cw)) Q NoE { s with heap := h', toks := tk }) :
    wpAny (model PW w) (Ar dp un fr gd) (execs (body.drop 6) (envOfC qual scope L fa cw)) Q NoE s := by
  obtain ⟨rfl, rfl, rfl, rfl⟩ := fn_inj hb (by k_is)
  clear hb
  dsimp only [List.drop] at k ⊢
  have e2 := hS.c1
  have e3 := hS.c4
  have e4 := hS.o1
  have e5 := hS.o4
  walk1
  k_extra "mine stopc"
  refine order_O F N X T0 O hPn hC hCP (by omega) e2 e3 (by k_extra "mine room") ?_
  rintro a0 v0 os0 c0 po1 k1 h1 tk1 F1 N1 O1 hP1 hk1 I0 q0
  clear N
  have u1 : (L + 1, o1) ∈ ownL L P o5 o4 o3 o2 o1 po1 ++ ((a0, listOf v0.toArray c0) :: tl) := by simp
  have u3 : (L + 1 + 1 + 1, o3) ∈ ownL L P o5 o4 o3 o2 o1 po1 ++ ((a0, listOf v0.toArray c0) :: tl) := by simp
  k_extra "mine stopc"
  refine order_O F1 N1 X T0 O1 hP1 (hC.mono fun p hp => List.mem_cons_of_mem _ hp) hCP (by omega) e4 e5 (by k_extra "mine room") ?_
  rintro a1 v1 os1 c1 po2 k2 h2 tk2 F2 N2 O2 hP2 hk2 I1 q1
  clear N1 F1
  have u2 : (L + 1 + 1, o2) ∈ ownL L P o5 o4 o3 o2 o1 po2 ++ ((a1, listOf v1.toArray c1) :: (a0, listOf v0.toArray c0) :: tl) := by simp
  k_extra "mine stopc"
  rename_i oA hE FE NE lE
  have O3 : Own L P ((oA, listOf ([.ref a0, .ref a1] : List Value).toArray 0) :: (a1, listOf v1.toArray c1) :: (a0, listOf v0.toArray c0) :: tl) := O2.cons (o5 := o5) (o4 := o4) (o3 := o3) (o2 := o2) (o1 := o1) (po := po2) lE
  have N3 : News g L hE (ownL L P o5 o4 o3 o2 o1 po2 ++ ((oA, listOf ([.ref a0, .ref a1] : List Value).toArray 0) :: (a1, listOf v1.toArray c1) :: (a0, listOf v0.toArray c0) :: tl)) := stash NE
  refine useO (args := ⟨[_, _, _, _, _, _], []⟩) FE N3 (tab_call ((wo_of FE N3 X T0).sub fun p hp => List.mem_append_right _ hp) (hS.mono fun p hp => by simp [hp]) (List.mem_cons_self ..) (List.mem_cons_of_mem _ (List.mem_cons_of_mem _ (List.mem_cons_self ..))) I0 (List.mem_cons_of_mem _ (List.mem_cons_self ..)) I1 q0 q1) (by k_extra "mine room") ?_
  rintro v9 tl9 h9 tk9 ⟨x, rfl, hx⟩ F9 N9 s9 f9
  have O9 := O3.fresh f9
  clear FE NE N3 O3
  replace N9 : News g L h9 ((L + 1 + 1 + 1 + 1 + 1, o5) :: (L + 1 + 1 + 1 + 1, o4) :: (L + 1 + 1 + 1, o3) :: (L + 1 + 1, o2) :: (L + 1, o1) :: (P, po2) :: tl9) := N9
  walk1
  rename_i hF FF NF
  exact k x tl9 os0 os1 po2 k2 hF _ _ FF NF O9 (fun p hp => s9 _ (by simp [hp])) hP2 (by omega) q0 q1 hx (if_pos rfl) (fun x hx => if_neg hx)
end

theorem td_of_empty {w : World} {o : Obj} (h : Obj.IsDictOf (intKind PW w) o []) : TD w o [] := by
  obtain ⟨es, ep, h1, h2, h3, h4, h5⟩ := h
  refine ⟨h1, ⟨es, ep, h2, ?_⟩, List.nodup_nil⟩
  cases hc : es.toList with
  | nil => rfl
  | cons a r => rw [hc] at h4; cases h4
theorem all_six {L P D : Addr} {o5 o4 o3 o2 o1 po : Obj} {tl : Wd} (l : L + 1 + 1 + 1 + 1 + 1 < D ∧ L + 1 + 1 + 1 + 1 < D ∧ L + 1 + 1 + 1 < D ∧ L + 1 + 1 < D ∧ L + 1 < D ∧ P < D ∧ AllLt D tl) : ∀ p ∈ ownL L P o5 o4 o3 o2 o1 po ++ tl, p.1 < D := fun p hp => by
  obtain ⟨l5, l4, l3, l2, l1, lP, lt⟩ := l
  rcases List.mem_append.mp hp with q | q
  · simp only [List.mem_cons, List.not_mem_nil, or_false] at q
    rcases q with rfl | rfl | rfl | rfl | rfl | rfl <;> assumption
  · exact allLt_out lt p q
section
variable {w : World} {g : Heap} {L : Addr} {m : Str → Option Value} {s : Shared} {mean : ExcName → Option Value} {mg mb : Str → Option Value} {dp un : Nat} {fr : Option (List Env)} {gd : Option (List Code)} {Q : Flow → Shared → Prop}
  {oc : Value} {od : Option Addr} {name qual : Str} {params : Arguments} {body : List Stmt} {scope : Scope} {dV kV doc pm cdv ct cw : Value} {fa : Addr} {an : Option Addr} {osl : Array (Option Value)}
theorem seg7 {o5 o4 o3 o2 o1 po : Obj} {v4 : Option Value} {P : Addr} {tl : Wd} (hb : (hd.heap_1 w.params).lookup 552 = some ⟨oc, od, .func (fnOf name qual params body scope dV kV doc pm an cdv ct), osl⟩) (hR : Room 20 dp un)
    (F : Fr g L s.heap m) (N : News g L s.heap (ownL L P o5 o4 o3 o2 o1 po ++ tl)) (X : (hd.heap_1 w.params).In g) (T0 : Top hd.view_1 (looseW hd.view_1 []) mean mg mb g) (O : Own L P tl) (d4 : o4.data = .cell v4)
    (k : ∀ d1 d2 x1 x2 o4' h' tk m', Fr g L h' m' → News g L h' ((d1, x1) :: (d2, x2) :: (ownL L P o5 o4' o3 o2 o1 po ++ tl)) → TD w x1 [] → TD w x2 [] → (d1 == sysModules) = false → (d2 == sysModules) = false → d1 ≠ d2 → (∀ p ∈ ownL L P o5 o4' o3 o2 o1 po ++ tl, p.1 ≠ d1) → (∀ p ∈ ownL L P o5 o4' o3 o2 o1 po ++ tl, p.1 ≠ d2) →
      o4'.data = .cell (some (.ref d2)) → m' "pairs" = some (.ref d1) → (∀ x : Str, x ≠ "pairs" → m' x = m x) →
      wpAny (model PW w) (Ar dp un fr gd) (execs (body.drop 8) (envOfC qual scope L fa cw)) Q NoE { s with heap := h', toks := tk }) :
    wpAny (model PW w) (Ar dp un fr gd) (execs (body.drop 7) (envOfC qual scope L fa cw)) Q NoE s := by
  obtain ⟨rfl, rfl, rfl, rfl⟩ := fn_inj hb (by k_is)
  clear hb
  dsimp only [List.drop] at k ⊢
  obtain ⟨p1, p2, p3, p4, p5, t1, t2, t3, t4, t5, tP⟩ := O
  replace N : News g L s.heap ((L + 1 + 1 + 1 + 1 + 1, o5) :: (L + 1 + 1 + 1 + 1, o4) :: (L + 1 + 1 + 1, o3) :: (L + 1 + 1, o2) :: (L + 1, o1) :: (P, po) :: tl) := N
  walk1
  k_extra "mine stopc"
  rename_i dA hA oA loA hsA fsA hiA fiA lA dB hB oB loB hsB fsB hiB fiB lB dT hT lT h1 h2 h3 o4' F9 N9 d9
  refine k dA dB oA oB o4' h3 _ _ F9 (fun p hp => N9 p ?_) (td_of_empty hiA) (td_of_empty hiB) loA loB (Nat.ne_of_lt lB.1) (fun p hp => ?_) (fun p hp => ?_) d9 (if_pos rfl) (fun x hx => if_neg hx)
  · rcases List.mem_cons.mp hp with rfl | hp
    · exact List.mem_cons_of_mem _ (List.mem_cons_of_mem _ (List.mem_cons_self ..))
    rcases List.mem_cons.mp hp with rfl | hp
    · exact List.mem_cons_of_mem _ (List.mem_cons_self ..)
    · exact List.mem_cons_of_mem _ (List.mem_cons_of_mem _ (List.mem_cons_of_mem _ hp))
  · exact Nat.ne_of_lt (all_six lA p hp)
  · exact Nat.ne_of_lt (all_six lB.2 p hp)
end

def oneOf (ns : List Int) (f : Int) : Int := (ns ++ [0]).getD f.toNat 0
def dueF (cs fs ss : List Int) (rows : List (List (Addr × Addr))) (cn on : Int) (f s : Int) : Option (Addr × Addr) := if f ∈ cs ∧ oneOf fs f < cn ∧ oneOf ss s < on then some ((rows.getD (oneOf fs f).toNat []).getD (oneOf ss s).toNat (492, 492)) else none
theorem cls_at {ns os : List Int} {n : Nat} {f : Int} (q : OrderOf n os) (hn : 1 ≤ n) (hl : ns.length = 7) (hb : ∀ c ∈ ns, 0 ≤ c) (h0 : 0 ≤ f) (h8 : f < 8) : 0 ≤ oneOf ns f ∧ os[(clsI ns os ns.length f).toNat]? = if oneOf ns f < n then some (oneOf ns f) else none := by
  have hone : oneOf ns f = if f < 7 then ns.getD f.toNat 0 else 0 := by
    unfold oneOf
    split
    · simp only [List.getD]
      rw [List.getElem?_append_left (by omega)]
    · have : f = 7 := by omega
      subst this
      simp only [List.getD]
      rw [List.getElem?_append_right (by omega)]
      simp [hl]
  have hcls : clsI ns os ns.length f = if 0 < oneOf ns f then (if oneOf ns f < os.length then ((os.idxOf (oneOf ns f) : Nat) : Int) else oneOf ns f) else 0 := by
    unfold clsI clsN
    rw [hone, hl]
    by_cases h7 : f < 7
    · rw [if_pos ⟨h0, by omega⟩, if_pos h7]
    · rw [if_neg (by omega), if_neg h7]; rfl
  have hpos : 0 ≤ oneOf ns f := by
    rw [hone]
    split
    · rename_i h7
      have hlt : f.toNat < ns.length := by omega
      rw [show ns.getD f.toNat 0 = ns[f.toNat] by simp [List.getD, hlt]]
      exact hb _ (List.getElem_mem hlt)
    · exact Int.le_refl _
  refine ⟨hpos, ?_⟩
  generalize oneOf ns f = c at hcls hpos
  rw [hcls, q.1]
  by_cases hc0 : 0 < c
  · rw [if_pos hc0]
    by_cases hcn : c < n
    · rw [if_pos hcn, if_pos hcn, Int.toNat_natCast]
      have hm : c ∈ os := q.2.2.1 c hpos hcn
      have hi := List.idxOf_lt_length_of_mem hm
      rw [List.getElem?_eq_getElem hi, List.getElem_idxOf]
    · rw [if_neg hcn, if_neg hcn, List.getElem?_eq_none]
      rw [q.1]; omega
  · have : c = 0 := by omega
    subst this
    rw [if_neg (by omega), if_pos (by omega)]
    have := q.2.2.2.2
    cases os with
    | nil => cases this
    | cons a r => simpa using this
theorem tab_find {cs fs ss os0 os1 : List Int} {rows : List (List (Addr × Addr))} {b : Bool} {cn on : Int} {f s : Int} (q0 : OrderOf cn.toNat os0) (q1 : OrderOf on.toNat os1) (c1 : 1 ≤ cn) (o1 : 1 ≤ on) (hf : fs.length = 7) (hfb : ∀ c ∈ fs, 0 ≤ c) (hs : ss.length = 7) (hsb : ∀ c ∈ ss, 0 ≤ c)
    (f0 : 0 ≤ f) (f8 : f < 8) (s0 : 0 ≤ s) (s8 : s < 8) : (tabPC cs fs ss os0 os1 rows b).find f s = (dueF cs fs ss rows cn on f s).map cellPP := by
  obtain ⟨p1, e1⟩ := cls_at q0 (by omega) hf hfb f0 f8
  obtain ⟨p2, e2⟩ := cls_at q1 (by omega) hs hsb s0 s8
  unfold PC.find tabPC dueF
  dsimp only
  unfold tabRows tabRow
  rw [List.getElem?_map, e1]
  by_cases hc : f ∈ cs
  · rw [if_pos hc]
    by_cases h1 : oneOf fs f < cn
    · rw [if_pos (by omega)]
      simp only [Option.map_some, Option.bind_some]
      rw [List.getElem?_map, e2]
      by_cases h2 : oneOf ss s < on
      · rw [if_pos (by omega), if_pos ⟨hc, h1, h2⟩]; rfl
      · rw [if_neg (by omega), if_neg (fun h => h2 h.2.2)]; rfl
    · rw [if_neg (by omega), if_neg (fun h => h1 h.2.1)]; rfl
  · rw [if_neg hc, if_neg (fun h => hc h.1)]; rfl

theorem cell_nothing {r : List (Addr × Addr)} (h : RowOk false r) (j : Nat) : (cellPP (r.getD j (492, 492))).2 = (0, 0, 0, 0) := by
  have : (r.getD j (492, 492)).2 = 492 := by
    cases e : r[j]? with
    | none => simp [List.getD, e]
    | some c => simp [List.getD, e, h c (List.mem_of_getElem? e) rfl]
  unfold cellPP
  rw [this]; rfl
theorem tab_sec {cs fs ss os0 os1 : List Int} {rows : List (List (Addr × Addr))} {b : Bool} (hk : ∀ r ∈ rows, RowOk b r) : (tabPC cs fs ss os0 os1 rows b).sec = b := by
  unfold tabPC
  dsimp only
  cases b with
  | true => rfl
  | false =>
    rw [Bool.false_or]
    rw [List.any_eq_false]
    intro p hp
    obtain ⟨r, hr, hpr⟩ := List.mem_flatten.mp hp
    unfold tabRows at hr
    obtain ⟨i, _, rfl⟩ := List.mem_map.mp hr
    unfold tabRow at hpr
    obtain ⟨j, _, rfl⟩ := List.mem_map.mp hpr
    have hrow : RowOk false (rows.getD i.toNat []) := by
      cases e : rows[i.toNat]? with
      | none => simp only [List.getD, e]; exact fun c hc => nomatch hc
      | some r => simp only [List.getD, e]; exact hk r (List.mem_of_getElem? e)
    rw [cell_nothing hrow]
    simp
theorem applyF_congr {D D' : Int → Int → Option PP} {b : Bool} {is : List II} {a : Nat} {gl : List Int} (h : ∀ f ∈ gl, ∀ g ∈ gl, D f g = D' f g) (hg : ∀ i ∈ is, i.gl ∈ gl) : applyF D b is a = applyF D' b is a := by
  unfold applyF
  cases e1 : is[a]? with
  | none => rfl
  | some i1 => cases e2 : is[a + 1]? with
    | none => rfl
    | some i2 => dsimp only; rw [h _ (hg _ (List.mem_of_getElem? e1)) _ (hg _ (List.mem_of_getElem? e2))]
theorem iter_congr {D D' : Int → Int → Option PP} {b : Bool} {gl : List Int} (h : ∀ f ∈ gl, ∀ g ∈ gl, D f g = D' f g) (n : Nat) : iterF (stepF D b) n ⟨infos0 gl, 0, []⟩ = iterF (stepF D' b) n ⟨infos0 gl, 0, []⟩ := by
  induction n with
  | zero => rfl
  | succ n ih =>
    show stepF D b (iterF (stepF D b) n _) = stepF D' b (iterF (stepF D' b) n _)
    rw [ih]
    have hs := iterF_same D' b n ⟨infos0 gl, 0, []⟩
    generalize iterF (stepF D' b) n ⟨infos0 gl, 0, []⟩ = ms at hs
    have hg : ∀ i ∈ ms.is, i.gl ∈ gl := fun i hi => by
      have : (i.gl, i.cl) ∈ ms.is.map (fun i => (i.gl, i.cl)) := List.mem_map_of_mem hi
      rw [hs] at this
      obtain ⟨i0, hi0, e⟩ := List.mem_map.mp this
      unfold infos0 at hi0
      obtain ⟨x, hx, rfl⟩ := List.mem_map.mp hi0
      have e1 : x.1 = i.gl := congrArg Prod.fst e
      rw [← e1]
      obtain ⟨k, hk, ek⟩ := List.getElem_of_mem hx
      rw [List.getElem_zipIdx] at ek
      rw [← ek]
      exact List.getElem_mem _
    unfold stepF
    rw [applyF_congr h hg]
theorem moved_congr {D D' : Int → Int → Option PP} {b : Bool} {gl : List Int} (h : ∀ f ∈ gl, ∀ g ∈ gl, D f g = D' f g) : movedF D b gl = movedF D' b gl := iter_congr h _
theorem shaped_dO (o : Option PP) : PySem.SeqAt.shaped (dO o) = true := by cases o <;> rfl
theorem shaped_moved (ms : MS) : PySem.SeqAt.shaped (mData ms) = true := by
  have h1 : ∀ is : List II, PyData.canLayAll0 (is.map d7) = true ∧ PyData.depthAll (is.map d7) ≤ 1 := fun is => by
    induction is with
    | nil => exact ⟨rfl, Nat.zero_le _⟩
    | cons i r ih =>
      rw [List.map_cons, PyData.canLayAll0, PyData.depthAll]
      exact ⟨by rw [ih.1]; rfl, Nat.max_le.mpr ⟨Nat.le_of_eq rfl, ih.2⟩⟩
  have h2 : ∀ os : List Int, PyData.canLayAll0 (os.map .int) = true ∧ PyData.depthAll (os.map .int) = 0 := fun os => by
    induction os with
    | nil => exact ⟨rfl, rfl⟩
    | cons c r ih => exact ⟨by simp [PyData.canLayAll0, PyData.canLay0, ih.1], by simp [PyData.depthAll, PyData.depth, ih.2]⟩
  have a := h1 ms.is
  have b := h2 ms.steps
  unfold PySem.SeqAt.shaped mData
  rw [Bool.and_eq_true, decide_eq_true_eq]
  simp only [PyData.canLay0, PyData.canLayAll0, PyData.depth, PyData.depthAll, a.1, b.1, b.2, Bool.and_self, true_and]
  omega

section
variable {w : World} {g : Heap} {L : Addr} {m : Str → Option Value} {s : Shared} {mean : ExcName → Option Value} {mg mb : Str → Option Value} {dp un : Nat} {fr : Option (List Env)} {gd : Option (List Code)} {Q : Flow → Shared → Prop}
  {oc : Value} {od : Option Addr} {name qual : Str} {params : Arguments} {body : List Stmt} {scope : Scope} {dV kV doc pm cdv ct cw : Value} {fa : Addr} {an : Option Addr} {osl : Array (Option Value)}
theorem seg12 {o5 o4 o3 o2 o1 po : Obj} {P C : Addr} {tl : Wd} {kp : Nat} (hb : (hd.heap_1 w.params).lookup 552 = some ⟨oc, od, .func (fnOf name qual params body scope dV kV doc pm an cdv ct), osl⟩) (hR : Room 20 dp un)
    (F : Fr g L s.heap m) (N : News g L s.heap (ownL L P o5 o4 o3 o2 o1 po ++ tl)) (X : (hd.heap_1 w.params).In g) (T0 : Top hd.view_1 (looseW hd.view_1 []) mean mg mb g) (O : Own L P tl)
    (d1 : o1.data = .cell (some (.ref P))) (hPn : Pen C kp po) (hC : IsCells tl C) (hCP : C ≠ P) (hkp : kp ≤ 1000)
    (k : ∀ D1 vs1 n1 gl po' h' tk m', Fr g L h' m' → News g L h' (ownL L P o5 o4 o3 o2 o1 po' ++ ((D1, listOf (List.toArray vs1) n1) :: tl)) → Own L P ((D1, listOf (List.toArray vs1) n1) :: tl) →
      Drawn vs1 gl.length 8 gl → gl.length ≤ 6 → m' "glyphs" = some (.ref D1) → (∀ x : Str, x ≠ "glyphs" → m' x = m x) →
      wpAny (model PW w) (Ar dp un fr gd) (execs (body.drop 13) (envOfC qual scope L fa cw)) Q NoE { s with heap := h', toks := tk }) :
    wpAny (model PW w) (Ar dp un fr gd) (execs (body.drop 12) (envOfC qual scope L fa cw)) Q NoE s := by
  obtain ⟨rfl, rfl, rfl, rfl⟩ := fn_inj hb (by k_is)
  clear hb
  dsimp only [List.drop] at k ⊢
  have O0 := O
  obtain ⟨p1, p2, p3, p4, p5, t1, t2, t3, t4, t5, tP⟩ := O
  replace N : News g L s.heap ((L + 1 + 1 + 1 + 1 + 1, o5) :: (L + 1 + 1 + 1 + 1, o4) :: (L + 1 + 1 + 1, o3) :: (L + 1 + 1, o2) :: (L + 1, o1) :: (P, po) :: tl) := N
  walk1
  refine Assign_ListComp_S F (by rfl) (by rfl) (by decide) (by rfl) (by decide) (by rfl) (by rfl) ?_
  k_extra "mine stop"
  rename_i x tx po1 hA tkA x0 x7 hP1 FA NA hB tkB tt uu vv rg F3 N3 aB
  refine pyIter_rangeF (by assumption) (by first | decide +kernel | omega) (by first | decide +kernel | omega) (by first | decide +kernel | omega) (by first | decide +kernel | omega) ?_
  refine ⟨_, _, [(P, po1)], cellsL L o5 o4 o3 o2 o1 tl, DrawJ P C (kp + 1) (cellsL L o5 o4 o3 o2 o1 tl) 8, for_range rfl F3 (own_base N3), by omega, ⟨po1, [], rfl, rfl, hP1, .nil, rfl, fun _ h => nomatch h⟩, own_apb O0, ?_, ?_⟩
  · clear k
    rintro g2 C2 i v ys m2 st2 tl2 h2 tk2 kept hg2 hi ⟨tv, rfl⟩ ⟨o, cs, rfl, rfl, hPi, hdr⟩ - hap F6 N6
    have X2 := X.keeps hg2
    have T2 := T0.keeps hg2
    refine blk_assign F6 N6 rfl rfl ?_
    intro h7 F7 N7
    replace F7 : Fr g2 C2 h7 _ := F7
    replace N7 : News g2 C2 h7 ((P, o) :: (kept ++ cellsL L o5 o4 o3 o2 o1 (tl))) := N7
    clear F6 N6 F3 N3
    have aP : ∀ p ∈ kept ++ cellsL L o5 o4 o3 o2 o1 (tl), p.1 ≠ P := fun p hp => hap (P, o) (List.mem_cons_self ..) p hp
    have hC7 : IsCells ((P, o) :: (kept ++ cellsL L o5 o4 o3 o2 o1 (tl))) C := IsCells.mono hC fun p hp => List.mem_cons_of_mem _ (List.mem_append_right _ (by simp [hp]))
    have m1 : (L + 1, o1) ∈ ((P, o) :: (kept ++ cellsL L o5 o4 o3 o2 o1 (tl))) := List.mem_cons_of_mem _ (List.mem_append_right _ (by simp))
    have hi7 : i ≤ 100 := by omega
    refine tests_nil ?_
    simp only [if_true]
    k_extra "mine stop"
    rename Fr _ _ _ _ => F9
    rename News _ _ _ _ => N9
    rename Pen C (_ + 1) _ => hP9
    exact draw_turn F9 N9 hP9 hdr (by assumption) (by assumption)
  · rintro D1 h4 tk4 st4 tl4 ys1 n1 F4 N4 - - hD - ⟨po2, gl, rfl, rfl, hP2, hdr⟩ h5 F5 N5
    have O1 : Own L P ((D1, listOf ys1.toArray n1) :: tl) := own_new O0 hD
    have e := hdr.2.1
    exact k D1 ys1 n1 gl po2 h5 _ _ F5 (own_back N5) O1 (by rw [e]; exact hdr) (by omega) (if_pos rfl) (fun x hx => if_neg hx)
end

theorem row_j_44 : True := by
  (k_with "mine stopm" => repeat' (k_extra "mine no"; (fail_if_success (with_reducible refine stopC 547 ?_)); (fail_if_success (with_reducible show wpAny _ _ (compareOp _ _ _) _ _ _)); k_extra "mine one"))
  trivial
section
variable {w : World} {g : Heap} {L : Addr} {m : Str → Option Value} {s : Shared} {mean : ExcName → Option Value} {mg mb : Str → Option Value} {dp un : Nat} {fr : Option (List Env)} {gd : Option (List Code)} {Q : Flow → Shared → Prop}
  {oc : Value} {od : Option Addr} {name qual : Str} {params : Arguments} {body : List Stmt} {scope : Scope} {dV kV doc pm cdv ct cw : Value} {fa : Addr} {an : Option Addr} {osl : Array (Option Value)}
theorem seg13 {o5 o4 o3 o2 o1 po : Obj} {P gA tb : Addr} {gv : List Value} {gl : List Int} {ng : Nat} {tl : Wd} {D : Int → Int → Option PP} {b : Bool} (hb : (hd.heap_1 w.params).lookup 552 = some ⟨oc, od, .func (fnOf name qual params body scope dV kV doc pm an cdv ct), osl⟩) (hR : Room 20 dp un)
    (F : Fr g L s.heap m) (N : News g L s.heap (ownL L P o5 o4 o3 o2 o1 po ++ tl)) (X : (hd.heap_1 w.params).In g) (T0 : Top hd.view_1 (looseW hd.view_1 []) mean mg mb g) (O : Own L P tl)
    (hg : (gA, listOf gv.toArray ng) ∈ tl) (hgI : IntsAre gv gl) (hgl : gl.length ≤ 6) (ht : IsTab w tl tb D b) (m1 : m "glyphs" = some (.ref gA)) (m2 : m "plain" = some (.ref tb))
    (k : ∀ v tlx h' tk m', Fr g L h' m' → News g L h' (ownL L P o5 o4 o3 o2 o1 po ++ tlx) → Own L P tlx → (∀ p ∈ tl, p ∈ tlx) → RD w tlx v (mData (movedF D b gl)) → m' "moved" = some v → (∀ x : Str, x ≠ "moved" → m' x = m x) →
      wpAny (model PW w) (Ar dp un fr gd) (execs (body.drop 14) (envOfC qual scope L fa cw)) Q NoE { s with heap := h', toks := tk }) :
    wpAny (model PW w) (Ar dp un fr gd) (execs (body.drop 13) (envOfC qual scope L fa cw)) Q NoE s := by
  obtain ⟨rfl, rfl, rfl, rfl⟩ := fn_inj hb (by k_is)
  clear hb
  dsimp only [List.drop] at k ⊢
  walk1
  k_extra "mine stopm"
  refine useO (args := ⟨[_, _], []⟩) F N (moved_spec ((wo_of F N X T0).sub fun p hp => List.mem_append_right _ hp) hg hgI (by omega) ht) (by k_extra "mine room") ?_
  rintro v9 tl9 h9 tk9 hrd F9 N9 s9 f9
  have O9 := O.fresh f9
  replace N9 : News g L h9 ((L + 1 + 1 + 1 + 1 + 1, o5) :: (L + 1 + 1 + 1 + 1, o4) :: (L + 1 + 1 + 1, o3) :: (L + 1 + 1, o2) :: (L + 1, o1) :: (P, po) :: tl9) := N9
  clear N F
  walk1
  rename_i hF FF NF
  exact k v9 tl9 hF _ _ FF NF O9 s9 hrd (if_pos rfl) (fun x hx => if_neg hx)
theorem seg14 {o5 o4 o3 o2 o1 po : Obj} {P gA tb tc : Addr} {gv : List Value} {gl : List Int} {ng : Nat} {tl : Wd} {D1 D2 : Int → Int → Option PP} {b : Bool} {v : Value} {d : PyData} (hb : (hd.heap_1 w.params).lookup 552 = some ⟨oc, od, .func (fnOf name qual params body scope dV kV doc pm an cdv ct), osl⟩) (hR : Room 20 dp un)
    (F : Fr g L s.heap m) (N : News g L s.heap (ownL L P o5 o4 o3 o2 o1 po ++ tl)) (X : (hd.heap_1 w.params).In g) (T0 : Top hd.view_1 (looseW hd.view_1 []) mean mg mb g) (O : Own L P tl)
    (hg : (gA, listOf gv.toArray ng) ∈ tl) (hgI : IntsAre gv gl) (hgl : gl.length ≤ 6) (ht1 : IsTab w tl tb D1 b) (ht2 : IsTab w tl tc D2 b) (e1 : mData (movedF D1 b gl) = d) (e2 : mData (movedF D2 b gl) = d) (hd : PySem.SeqAt.shaped d = true) (hv : RD w tl v d) (m1 : m "glyphs" = some (.ref gA)) (m2 : m "turned" = some (.ref tb)) (m3 : m "moved" = some v) (d5 : o5.data = .cell (some (.ref tc)))
    (k : ∀ h' tk m' led, Fr g L h' m' → News g L h' led → Q (.ret (.bool true)) { s with heap := h', toks := tk }) :
    wpAny (model PW w) (Ar dp un fr gd) (execs (body.drop 14) (envOfC qual scope L fa cw)) Q NoE s := by
  obtain ⟨rfl, rfl, rfl, rfl⟩ := fn_inj hb (by k_is)
  clear hb
  dsimp only [List.drop] at k ⊢
  walk1
  k_extra "mine stopm"
  refine useO (args := ⟨[_, _], []⟩) F N (moved_spec ((wo_of F N X T0).sub fun p hp => List.mem_append_right _ hp) hg hgI (by omega) ht1) (by k_extra "mine room") ?_
  rintro v9 tl9 h9 tk9 hrd F9 N9 s9 f9
  clear N F
  have O9 := O.fresh f9
  rw [e1] at hrd
  have c5 : (L + 1 + 1 + 1 + 1 + 1, o5) ∈ ownL L P o5 o4 o3 o2 o1 po ++ tl9 := by simp
  k_extra "mine stopm"
  have at9 : ∀ p ∈ tl9, h9.get? p.1 = some p.2 := fun p hp => (N9 p (List.mem_append_right _ hp)).1
  obtain ⟨as1, r1⟩ := hrd h9 (X.keeps F9.keep) at9
  obtain ⟨as2, r2⟩ := hv h9 (X.keeps F9.keep) (fun p hp => at9 p (s9 p hp))
  have eqd : PyData.eqv d d = true := PySem.SeqAt.eqv_refl d (PySem.SeqAt.canLay_of_shaped hd)
  refine eq_dataH r1 r2 hd hd (by ke_room) ?_
  rw [eqd]
  k_extra "mine stopm"
  refine useO (args := ⟨[_, _], []⟩) F9 N9 (moved_spec ((wo_of F9 N9 X T0).sub fun p hp => List.mem_append_right _ hp) (s9 _ hg) hgI (by omega) (ht2.mono s9)) (by k_extra "mine room") ?_
  rintro v10 tl10 h10 tk10 hrd2 F10 N10 s10 f10
  clear N9 F9
  rw [e2] at hrd2
  k_extra "mine stopm"
  have at10 : ∀ p ∈ tl10, h10.get? p.1 = some p.2 := fun p hp => (N10 p (List.mem_append_right _ hp)).1
  obtain ⟨as3, r3⟩ := hrd2 h10 (X.keeps F10.keep) at10
  obtain ⟨as4, r4⟩ := hv h10 (X.keeps F10.keep) (fun p hp => at10 p (s10 p (s9 p hp)))
  refine eq_dataH r3 r4 hd hd (by ke_room) ?_
  rw [eqd]
  k_extra "mine stopm"
  all_goals exact k _ _ _ _ F10 N10
end

theorem row_j_45 : True := by
  (k_with "mine stopg" => repeat' (k_extra "mine no"; (fail_if_success (with_reducible refine stopC 289 ?_)); (fail_if_success (with_reducible refine stopC 332 ?_)); (fail_if_success (with_reducible refine stopC 281 ?_)); (fail_if_success (with_reducible show wpAny _ _ (compareOp _ _ _) _ _ _)); k_extra "mine one"))
  (k_with "mine stoph" => repeat' (k_extra "mine no"; (fail_if_success (with_reducible refine stopC 332 ?_)); (fail_if_success (with_reducible refine stopC 281 ?_)); k_extra "mine one"))
  trivial
theorem has_K {w : World} {h₀ : Heap} {L : Addr} {m : Str → Option Value} {s : Shared} {led tl : Wd} {mean : ExcName → Option Value} {mg mb : Str → Option Value} {dp un : Nat} {fr : Option (List Env)} {gd : Option (List Code)} {x : Addr} {D : Int → Int → Option PP} {b : Bool} {Q E : Value → Shared → Prop} (F : Fr h₀ L s.heap m) (N : News h₀ L s.heap led) (X : (hd.heap_1 w.params).In h₀) (T0 : Top hd.view_1 (looseW hd.view_1 []) mean mg mb h₀) (hx : IsTab w tl x D b) (hs : ∀ p ∈ tl, p ∈ led) (hr : Room 1 dp un)
    (k : ∀ h' tk, Fr h₀ L h' m → News h₀ L h' led → Q (.bool b) { s with heap := h', toks := tk }) : wpAny (model PW w) (Ar dp un fr gd) (call (.ref 332) [.ref x]) Q E s := by
  refine useB (args := ⟨[_], []⟩) F N (has_second_spec ((wo_of F N X T0).sub hs) hx) hs hr ?_
  rintro v tl' h' tk ⟨rfl, -⟩ F' N' _ _
  exact k h' tk F' fun p hp => N' p (List.mem_append_right _ hp)
section
variable {w : World} {g : Heap} {L : Addr} {m : Str → Option Value} {s : Shared} {mean : ExcName → Option Value} {mg mb : Str → Option Value} {dp un : Nat} {fr : Option (List Env)} {gd : Option (List Code)} {Q : Flow → Shared → Prop}
  {oc : Value} {od : Option Addr} {name qual : Str} {params : Arguments} {body : List Stmt} {scope : Scope} {dV kV doc pm cdv ct cw : Value} {fa : Addr} {an : Option Addr} {osl : Array (Option Value)}
theorem seg9 {o5 o4 o3 o2 o1 po x1 : Obj} {v5 : Option Value} {P d1 : Addr} {tl : Wd} {xs1 : List (List Int × Addr × Value)} {ps : List PP} {D : Int → Int → Option PP} {b : Bool} (hb : (hd.heap_1 w.params).lookup 552 = some ⟨oc, od, .func (fnOf name qual params body scope dV kV doc pm an cdv ct), osl⟩) (hR : Room 20 dp un)
    (F : Fr g L s.heap m) (N : News g L s.heap (ownL L P o5 o4 o3 o2 o1 po ++ tl)) (X : (hd.heap_1 w.params).In g) (T0 : Top hd.view_1 (looseW hd.view_1 []) mean mg mb g) (O : Own L P tl)
    (hd1 : (d1, x1) ∈ tl) (ht : TD w x1 xs1) (hk : KeysIn w tl xs1) (lo : (d1 == sysModules) = false) (hA : AtAll (PairAt tl) (xs1.map (·.2.2)) ps) (hz : ps.length ≤ 1000) (hsec : (b || ps.any fun p => decide (p.2 ≠ (0, 0, 0, 0))) = b) (hD : ∀ f g, match atKey xs1 [f, g] with | none => D f g = none | some av => ∃ p, D f g = some p ∧ PairAt tl av.2 p)
    (d2c : o2.data = .cell (some (.bool b))) (d5 : o5.data = .cell v5) (m1 : m "pairs" = some (.ref d1))
    (k : ∀ x o5' tlx h' tk, Fr g L h' m → News g L h' (ownL L P o5' o4 o3 o2 o1 po ++ tlx) → Own L P tlx → (∀ p ∈ tl, p ∈ tlx) → IsPG w tlx x D b → o5'.data = .cell (some (.ref x)) →
      wpAny (model PW w) (Ar dp un fr gd) (execs (body.drop 10) (envOfC qual scope L fa cw)) Q NoE { s with heap := h', toks := tk }) :
    wpAny (model PW w) (Ar dp un fr gd) (execs (body.drop 9) (envOfC qual scope L fa cw)) Q NoE s := by
  obtain ⟨rfl, rfl, rfl, rfl⟩ := fn_inj hb (by k_is)
  clear hb
  dsimp only [List.drop] at k ⊢
  have c2 : (L + 1 + 1, o2) ∈ ownL L P o5 o4 o3 o2 o1 po ++ tl := by simp
  walk1
  k_extra "mine stopg"
  refine useO (args := ⟨[_, _], []⟩) F N (pg_make ((wo_of F N X T0).sub fun p hp => List.mem_append_right _ hp) hd1 ht lo hA hz) (by k_extra "mine room") ?_
  rintro v9 tl9 h9 tk9 ⟨x, dx, es, n, tl₀, rfl, e9, q1, q2, q3, hF, -⟩ F9 N9 s9 f9
  have O9 := O.fresh f9
  rw [hsec] at hF
  have hx : IsPG w tl9 x D b := ⟨d1, x1, xs1, ⟨dx, es, n, by rw [e9]; exact List.mem_cons_of_mem _ q1, by rw [e9]; exact List.mem_cons_self .., hF⟩, s9 _ hd1, ht, hk.mono s9, lo, fun f g => by
    have := hD f g
    split
    · rename_i e; rw [e] at this; exact this
    · rename_i e; rw [e] at this; obtain ⟨p, a, c⟩ := this; exact ⟨p, a, c.mono s9⟩⟩
  clear N F e9 q1 q2 q3 hF
  obtain ⟨p1, p2, p3, p4, p5, t1, t2, t3, t4, t5, tP⟩ := O9
  replace N9 : News g L h9 ((L + 1 + 1 + 1 + 1 + 1, o5) :: (L + 1 + 1 + 1 + 1, o4) :: (L + 1 + 1 + 1, o3) :: (L + 1 + 1, o2) :: (L + 1, o1) :: (P, po) :: tl9) := N9
  walk1
  rename_i hF' o5' FF NF dd
  exact k x o5' tl9 hF' _ FF NF ⟨p1, p2, p3, p4, p5, t1, t2, t3, t4, t5, tP⟩ s9 hx dd
theorem seg11 {o5 o4 o3 o2 o1 po : Obj} {P ta tb tc : Addr} {tl : Wd} {D D1 D2 : Int → Int → Option PP} {b : Bool} (hb : (hd.heap_1 w.params).lookup 552 = some ⟨oc, od, .func (fnOf name qual params body scope dV kV doc pm an cdv ct), osl⟩) (hR : Room 20 dp un)
    (F : Fr g L s.heap m) (N : News g L s.heap (ownL L P o5 o4 o3 o2 o1 po ++ tl)) (X : (hd.heap_1 w.params).In g) (T0 : Top hd.view_1 (looseW hd.view_1 []) mean mg mb g)
    (hta : IsTab w tl ta D b) (htb : IsTab w tl tb D1 b) (htc : IsTab w tl tc D2 b) (d2c : o2.data = .cell (some (.bool b))) (d5 : o5.data = .cell (some (.ref tc))) (m1 : m "plain" = some (.ref ta)) (m2 : m "turned" = some (.ref tb))
    (k : ∀ h' tk, Fr g L h' m → News g L h' (ownL L P o5 o4 o3 o2 o1 po ++ tl) →
      wpAny (model PW w) (Ar dp un fr gd) (execs (body.drop 12) (envOfC qual scope L fa cw)) Q NoE { s with heap := h', toks := tk }) :
    wpAny (model PW w) (Ar dp un fr gd) (execs (body.drop 11) (envOfC qual scope L fa cw)) Q NoE s := by
  obtain ⟨rfl, rfl, rfl, rfl⟩ := fn_inj hb (by k_is)
  clear hb
  dsimp only [List.drop] at k ⊢
  have c2 : (L + 1 + 1, o2) ∈ ownL L P o5 o4 o3 o2 o1 po ++ tl := by simp
  have c5 : (L + 1 + 1 + 1 + 1 + 1, o5) ∈ ownL L P o5 o4 o3 o2 o1 po ++ tl := by simp
  have up : ∀ p ∈ tl, p ∈ ownL L P o5 o4 o3 o2 o1 po ++ tl := fun p hp => List.mem_append_right _ hp
  walk1
  k_extra "mine stoph"
  refine has_K F N X T0 htc up (by k_extra "mine room") ?_
  intro h1 tk1 F1 N1
  clear F N
  cases b <;> (
    k_extra "mine stoph"
    refine has_K F1 N1 X T0 hta up (by k_extra "mine room") ?_
    intro h2 tk2 F2 N2
    clear F1 N1
    k_extra "mine stoph"
    refine has_K F2 N2 X T0 htb up (by k_extra "mine room") ?_
    intro h3 tk3 F3 N3
    clear F2 N2
    k_extra "mine stoph"
    walk1
    exact k h3 _ F3 N3)
end

theorem row_j_46 : True := by
  (k_with "mine stopk" => repeat' (k_extra "mine no"; (fail_if_success (with_reducible refine stopC 281 ?_)); (fail_if_success (with_reducible refine stopC 542 ?_)); (fail_if_success (with_reducible show wpAny _ _ (subscriptTail _ _ (Value.ref _) (Value.ref _)) _ _ _)); (fail_if_success (with_reducible show wpAny _ _ (compareOp CmpOp.NotEq _ _) _ _ _)); k_extra "mine one"))
  trivial
theorem items_two {w : World} {f g : Int} {vs : List Value} (h : ItemsAre (intKind PW w) [f, g] vs) : ∃ t u, vs = [.int f t, .int g u] := by
  cases h with | cons h1 h => cases h with | cons h2 h => cases h; obtain ⟨t, rfl⟩ := Value.isInt_shape h1; obtain ⟨u, rfl⟩ := Value.isInt_shape h2; exact ⟨t, u, rfl⟩
section
variable {w : World} {g : Heap} {L : Addr} {m : Str → Option Value} {s : Shared} {mean : ExcName → Option Value} {mg mb : Str → Option Value} {dp un : Nat} {fr : Option (List Env)} {gd : Option (List Code)} {Q : Flow → Shared → Prop}
  {oc : Value} {od : Option Addr} {name qual : Str} {params : Arguments} {body : List Stmt} {scope : Scope} {dV kV doc pm cdv ct cw : Value} {fa : Addr} {an : Option Addr} {osl : Array (Option Value)}
theorem seg10 {o5 o4 o3 o2 o1 po x1 x2 : Obj} {P d1 d2 x3 : Addr} {tl : Wd} {xs1 xs2 : List (List Int × Addr × Value)} {D : Int → Int → Option PP} {b : Bool} (hb : (hd.heap_1 w.params).lookup 552 = some ⟨oc, od, .func (fnOf name qual params body scope dV kV doc pm an cdv ct), osl⟩) (hR : Room 20 dp un)
    (F : Fr g L s.heap m) (N : News g L s.heap (ownL L P o5 o4 o3 o2 o1 po ++ tl)) (X : (hd.heap_1 w.params).In g) (T0 : Top hd.view_1 (looseW hd.view_1 []) mean mg mb g)
    (h1 : (d1, x1) ∈ tl) (ht1 : TD w x1 xs1) (hk1 : KeysIn w tl xs1) (lo1 : (d1 == sysModules) = false) (h2 : (d2, x2) ∈ tl) (ht2 : TD w x2 xs2) (hk2 : KeysIn w tl xs2) (hz : xs1.length ≤ 1000)
    (hkeys : ∀ y ∈ xs1, ∃ f g p av, y.1 = [f, g] ∧ D f g = some p ∧ atKey xs2 [f, g] = some av ∧ RD w tl av.2 (dP p)) (h99 : D 9 9 = none)
    (hx : IsPG w tl x3 D b) (d5 : o5.data = .cell (some (.ref x3))) (d4 : o4.data = .cell (some (.ref d2))) (m1 : m "pairs" = some (.ref d1))
    (k : ∀ h' tk, Fr g L h' m → News g L h' (ownL L P o5 o4 o3 o2 o1 po ++ tl) →
      wpAny (model PW w) (Ar dp un fr gd) (execs (body.drop 11) (envOfC qual scope L fa cw)) Q NoE { s with heap := h', toks := tk }) :
    wpAny (model PW w) (Ar dp un fr gd) (execs (body.drop 10) (envOfC qual scope L fa cw)) Q NoE s := by
  obtain ⟨rfl, rfl, rfl, rfl⟩ := fn_inj hb (by k_is)
  clear hb
  dsimp only [List.drop] at k ⊢
  have up : ∀ p ∈ tl, p ∈ ownL L P o5 o4 o3 o2 o1 po ++ tl := fun p hp => List.mem_append_right _ hp
  have c5 : (L + 1 + 1 + 1 + 1 + 1, o5) ∈ ownL L P o5 o4 o3 o2 o1 po ++ tl := by simp
  have c4 : (L + 1 + 1 + 1 + 1, o4) ∈ ownL L P o5 o4 o3 o2 o1 po ++ tl := by simp
  have hx0 := hx
  obtain ⟨_, _, _, hxo, _, _, _, _, _⟩ := hx
  obtain ⟨dx, es_dx, n_dx, hxi, hxd, hF_dx⟩ := id hxo
  obtain ⟨es, ep, hr, hes⟩ := td_raw N (up _ h1) ht1
  have hsz : es.size = xs1.length := by rw [← Array.length_toList, hes]; simp
  walk1
  k_extra "mine stopk"
  refine ListComp_K F (by rfl) (by decide) (by rfl) (by decide) ?_
  k_extra "mine stopk"
  refine raw_iter lo1 hr ?_
  refine compAt_pure (fun i y => y = none) (src_keys rfl F N (up _ h1) hr (by omega)) ?_ ?_
  · rintro g2 C i v m₁ h₁ tk₁ led hg hi ⟨e, he, rfl⟩ hs F2 N2
    have X2 := X.keeps hg
    have T2 := T0.keeps hg
    have q : es.toList[i]? = some e := by rw [Array.getElem?_toList]; exact he
    rw [hes, List.getElem?_map] at q
    cases hy : xs1[i]? with
    | none => rw [hy] at q; cases q
    | some y =>
      rw [hy] at q
      obtain ⟨f, g', p, av, ey, eD, eA, hrd⟩ := hkeys y (List.mem_of_getElem? hy)
      obtain ⟨vs, n, hm, hit⟩ := hk1 y (List.mem_of_getElem? hy)
      rw [ey] at hit
      obtain ⟨t, u, rfl⟩ := items_two hit
      obtain rfl := Option.some.inj q
      have hm2 := hs _ (up _ hm)
      have c5' := hs _ c5
      have c4' := hs _ c4
      have q1 : ([.int f t, .int g' u] : List Value)[(0 : Int).toNat]? = some (.int f t) := rfl
      have q2 : ([.int f t, .int g' u] : List Value)[(1 : Int).toNat]? = some (.int g' u) := rfl
      refine blk_assign F2 N2 rfl rfl ?_
      intro h3 F3 N3
      replace F3 : Fr g2 C h3 (fun z => if z = "key" then some (.ref y.2.1) else m₁ z) := F3
      replace N3 : News g2 C h3 led := N3
      clear F2 N2
      refine tests_one ?_
      have i1 := hs _ (up _ hxi)
      have i2 := hs _ (up _ hxd)
      have sub : ∀ p ∈ tl, p ∈ led := fun p hp => hs _ (up _ hp)
      k_extra "mine stopk"
      refine useB (args := ⟨[_, _, _], []⟩) F3 N3 (pgfind_spec ((wo_of F3 N3 X2 T2).sub sub) hx0) sub (by k_extra "mine room") ?_
      rintro v4 tl4 h4 tk4 ⟨-, hv4⟩ F4 N4 s4 f4
      rw [eD] at hv4
      have hv4' : PairAt tl4 v4 p := PairAt.mono hv4 s4
      clear F3 N3
      k_extra "mine stopk"
      refine useB (args := ⟨[_], []⟩) F4 N4 (told2_spec ((wo_of F4 N4 X2 T2).sub fun p hp => List.mem_append_left _ hp) hv4') (fun p hp => List.mem_append_left _ hp) (by k_extra "mine room") ?_
      rintro v5 tl5 h5 tk5 hrd5 F5 N5 s5 f5
      clear F4 N4
      k_extra "mine stopk"
      have up5 : ∀ p ∈ led, p ∈ tl5 ++ (tl4 ++ led) := fun p hp => List.mem_append_right _ (List.mem_append_right _ hp)
      refine td_item N5 (up5 _ (sub _ h2)) ht2 (hk2.mono fun p hp => up5 _ (sub _ hp)) (up5 _ hm2) hit (by ke_room) eA ?_
      intro tk6
      have hsh : PySem.SeqAt.shaped (dP p) = true := rfl
      have eqd : PyData.eqv (dP p) (dP p) = true := PySem.SeqAt.eqv_refl _ (PySem.SeqAt.canLay_of_shaped hsh)
      obtain ⟨as1, r1⟩ := hrd5 h5 (X2.keeps F5.keep) (fun p hp => (N5 p (List.mem_append_left _ hp)).1)
      obtain ⟨as2, r2⟩ := hrd h5 (X2.keeps F5.keep) (fun p hp => (N5 p (up5 _ (sub _ hp))).1)
      refine ne_dataH r1 r2 hsh hsh (by ke_room) ?_
      rw [eqd]
      k_extra "mine stopk"
      exact ⟨_, _, _, _, rfl, F5, N5, up5, rfl⟩
  · intro D9 h' tk os k9 F2 N2 hos hRs
    have hnil : os.filterMap id = [] := by
      rw [List.filterMap_eq_nil_iff]
      intro y hy
      obtain ⟨j, hj, e⟩ := List.getElem_of_mem hy
      exact hRs j y (by rw [List.getElem?_eq_getElem hj, e])
    rw [hnil] at N2
    clear F N
    have c5' : (L + 1 + 1 + 1 + 1 + 1, o5) ∈ (D9, listOf ([] : List Value).toArray k9) :: (ownL L P o5 o4 o3 o2 o1 po ++ tl) := List.mem_cons_of_mem _ c5
    have i1 := up _ hxi
    have i2 := up _ hxd
    k_extra "mine stopk"
    rename_i D8 h8 F8 N8 l8
    refine ne_empty (vs := []) N8 (List.mem_cons_of_mem _ (List.mem_cons_self ..)) (List.mem_cons_self ..) (by ke_room) ?_
    k_extra "mine stopk"
    have up8 : ∀ p ∈ ownL L P o5 o4 o3 o2 o1 po ++ tl, p ∈ (D8, listOf ([] : List Value).toArray 0) :: (D9, listOf ([] : List Value).toArray k9) :: (ownL L P o5 o4 o3 o2 o1 po ++ tl) := fun p hp => List.mem_cons_of_mem _ (List.mem_cons_of_mem _ hp)
    refine useB (args := ⟨[_, _, _], []⟩) F8 N8 (pgfind_spec ((wo_of F8 N8 X T0).sub fun p hp => up8 _ (up p hp)) hx0) (fun p hp => up8 _ (up p hp)) (by k_extra "mine room") ?_
    rintro v9 tl9 h9 tk9 ⟨-, hv9⟩ F9 N9 s9 f9
    rw [h99] at hv9
    obtain rfl : v9 = .none := hv9
    clear F8 N8
    k_extra "mine stopk"
    walk1
    exact k h9 _ F9 fun p hp => N9 p (List.mem_append_right _ (up8 p hp))
end

theorem atKey_app {K : Type} [DecidableEq K] {xs : List (K × Addr × Value)} {k k' : K} {a : Addr} {v : Value} (h : atKey xs k = none) : atKey (xs ++ [(k, a, v)]) k' = if k' = k then some (a, v) else atKey xs k' := by
  unfold atKey at *
  rw [List.find?_append]
  by_cases hk : k' = k
  · subst hk
    rw [if_pos rfl]
    cases e : xs.find? (fun x => decide (x.1 = k')) with
    | none => simp
    | some y => rw [e] at h; cases h
  · rw [if_neg hk]
    cases e : xs.find? (fun x => decide (x.1 = k')) with
    | some y => simp
    | none => simp [Ne.symm hk]
theorem menu_row {w : World} {a : Addr} (ha : IsMenu a) : ∃ o t1 t2 t3 t4 n, (hd.heap_1 w.params).lookup a = some o ∧ o.cls = .type "tuple" ∧ o.data = .seq #[.int (menuV a).1 t1, .int (menuV a).2.1 t2, .int (menuV a).2.2.1 t3, .int (menuV a).2.2.2 t4] n := by
  rcases ha with rfl | rfl | rfl | rfl
  · exact ⟨_, _, _, _, _, _, by k_is, by rfl, by rfl⟩
  · exact ⟨_, _, _, _, _, _, by k_is, by rfl, by rfl⟩
  · exact ⟨_, _, _, _, _, _, by k_is, by rfl, by rfl⟩
  · exact ⟨_, _, _, _, _, _, by k_is, by rfl, by rfl⟩
theorem menu_reads {w : World} {h : Heap} {a : Addr} (X : (hd.heap_1 w.params).In h) (ha : IsMenu a) : Reads h (.ref a) (d4 (menuV a)) [] := by
  obtain ⟨o, t1, t2, t3, t4, n, hl, hc, hd⟩ := menu_row (w := w) ha
  exact .tuple (X a o hl) hc hd (.cons (.int _ _) (.cons (.int _ _) (.cons (.int _ _) (.cons (.int _ _) .nil))))
theorem rd_cell {w : World} {tl : Wd} {v : Value} {c : Addr × Addr} (h : CellAt tl v c) : RD w tl v (dP (cellPP c)) := fun hp X e => by
  obtain ⟨t, n, rfl, hm, h1, h2⟩ := h
  exact ⟨_, .tuple (e _ hm) rfl rfl (.cons (menu_reads X h1) (.cons (menu_reads X h2) .nil))⟩

/-- what the loop has been through -/
def Seen (i j : Nat) (f g : Int) : Prop := (0 ≤ f ∧ 0 ≤ g ∧ g < 8) ∧ 8 * f + g < 8 * i + j
structure LoopJ (w : World) (tl : Wd) (d1 d2 : Addr) (due : Int → Int → Option (Addr × Addr)) (i j : Nat) (st : Wd) (x1 x2 : Obj) (xs1 xs2 : List (List Int × Addr × Value)) (ks : Wd) : Prop where
  st_ : st = (d1, x1) :: (d2, x2) :: ks
  t1 : TD w x1 xs1
  t2 : TD w x2 xs2
  k1 : KeysIn w ks xs1
  k2 : KeysIn w ks xs2
  l1 : xs1.length ≤ 8 * i + j
  l2 : xs2.length ≤ 8 * i + j
  a1 : ∀ p ∈ ks, p.1 ≠ d1
  a2 : ∀ p ∈ ks, p.1 ≠ d2
  v1 : ∀ f g, match atKey xs1 [f, g] with | none => ¬ (Seen i j f g ∧ (due f g).isSome = true) | some av => Seen i j f g ∧ ∃ c, due f g = some c ∧ PairAt tl av.2 (cellPP c)
  v2 : ∀ f g, match atKey xs2 [f, g] with | none => ¬ (Seen i j f g ∧ (due f g).isSome = true) | some av => Seen i j f g ∧ ∃ c, due f g = some c ∧ CellAt tl av.2 c
  p1 : ∀ y ∈ xs1, ∃ f g, y.1 = [f, g]
theorem LoopJ.start {w : World} {tl : Wd} {d1 d2 : Addr} {due : Int → Int → Option (Addr × Addr)} {x1 x2 : Obj} (h1 : TD w x1 []) (h2 : TD w x2 []) : LoopJ w tl d1 d2 due 0 0 [(d1, x1), (d2, x2)] x1 x2 [] [] [] :=
  ⟨rfl, h1, h2, (fun _ h => nomatch h), (fun _ h => nomatch h), Nat.le_refl _, Nat.le_refl _, (fun _ h => nomatch h), (fun _ h => nomatch h), fun f g h => by have := h.1; unfold Seen at this; omega, fun f g h => by have := h.1; unfold Seen at this; omega, (fun _ h => nomatch h)⟩
theorem seen_next {i : Nat} {f g : Int} : Seen i 8 f g ↔ Seen (i + 1) 0 f g := by
  have e : (8 * (i : Int) + (8 : Nat) : Int) = 8 * (i + 1 : Nat) + (0 : Nat) := by omega
  unfold Seen; rw [e]
theorem LoopJ.next {w : World} {tl : Wd} {d1 d2 : Addr} {due : Int → Int → Option (Addr × Addr)} {i : Nat} {st : Wd} {x1 x2 : Obj} {xs1 xs2 : List (List Int × Addr × Value)} {ks : Wd} (h : LoopJ w tl d1 d2 due i 8 st x1 x2 xs1 xs2 ks) : LoopJ w tl d1 d2 due (i + 1) 0 st x1 x2 xs1 xs2 ks :=
  ⟨h.st_, h.t1, h.t2, h.k1, h.k2, by have := h.l1; omega, by have := h.l2; omega, h.a1, h.a2, fun f g => by
    have := h.v1 f g
    split
    · rename_i e; rw [e] at this; exact fun q => this ⟨seen_next.mpr q.1, q.2⟩
    · rename_i e; rw [e] at this; exact ⟨seen_next.mp this.1, this.2⟩, fun f g => by
    have := h.v2 f g
    split
    · rename_i e; rw [e] at this; exact fun q => this ⟨seen_next.mpr q.1, q.2⟩
    · rename_i e; rw [e] at this; exact ⟨seen_next.mp this.1, this.2⟩, h.p1⟩
theorem seen_step {i j : Nat} {f g : Int} (hj : j < 8) : Seen i (j + 1) f g ↔ Seen i j f g ∨ (f = i ∧ g = j) := by
  constructor
  · rintro ⟨h, k⟩
    rcases Int.lt_or_eq_of_le (Int.le_of_lt_add_one (show 8 * f + g < 8 * i + j + 1 from by omega)) with q | q
    · exact .inl ⟨h, q⟩
    · obtain ⟨_, h2, h3⟩ := h
      exact .inr ⟨by omega, by omega⟩
  · rintro (⟨h, k⟩ | ⟨rfl, rfl⟩)
    · exact ⟨h, by omega⟩
    · exact ⟨⟨by omega, by omega, by omega⟩, by omega⟩
theorem seen_not {i j : Nat} : ¬ Seen i j (i : Int) (j : Int) := fun h => Int.lt_irrefl _ h.2
theorem LoopJ.skip {w : World} {tl : Wd} {d1 d2 : Addr} {due : Int → Int → Option (Addr × Addr)} {i j : Nat} {st : Wd} {x1 x2 : Obj} {xs1 xs2 : List (List Int × Addr × Value)} {ks : Wd} (h : LoopJ w tl d1 d2 due i j st x1 x2 xs1 xs2 ks) (hj : j < 8) (hd : due i j = none) : LoopJ w tl d1 d2 due i (j + 1) st x1 x2 xs1 xs2 ks := by
  have key : ∀ f g, Seen i (j + 1) f g ∧ (due f g).isSome = true → Seen i j f g ∧ (due f g).isSome = true := fun f g q => by
    rcases (seen_step hj).mp q.1 with h | ⟨rfl, rfl⟩
    · exact ⟨h, q.2⟩
    · rw [hd] at q; cases q.2
  exact ⟨h.st_, h.t1, h.t2, h.k1, h.k2, by have := h.l1; omega, by have := h.l2; omega, h.a1, h.a2, fun f g => by
    have := h.v1 f g
    split
    · rename_i e; rw [e] at this; exact fun q => this (key f g q)
    · rename_i e; rw [e] at this; exact ⟨(seen_step hj).mpr (.inl this.1), this.2⟩, fun f g => by
    have := h.v2 f g
    split
    · rename_i e; rw [e] at this; exact fun q => this (key f g q)
    · rename_i e; rw [e] at this; exact ⟨(seen_step hj).mpr (.inl this.1), this.2⟩, h.p1⟩
theorem LoopJ.none1 {w : World} {tl : Wd} {d1 d2 : Addr} {due : Int → Int → Option (Addr × Addr)} {i j : Nat} {st : Wd} {x1 x2 : Obj} {xs1 xs2 : List (List Int × Addr × Value)} {ks : Wd} (h : LoopJ w tl d1 d2 due i j st x1 x2 xs1 xs2 ks) : atKey xs1 [(i : Int), (j : Int)] = none ∧ atKey xs2 [(i : Int), (j : Int)] = none := by
  have a := h.v1 i j
  have b := h.v2 i j
  constructor
  · cases e : atKey xs1 [(i : Int), (j : Int)] with
    | none => rfl
    | some av => rw [e] at a; exact absurd a.1 seen_not
  · cases e : atKey xs2 [(i : Int), (j : Int)] with
    | none => rfl
    | some av => rw [e] at b; exact absurd b.1 seen_not
theorem LoopJ.put {w : World} {tl : Wd} {d1 d2 a1 a2 : Addr} {u1 u2 : Value} {due : Int → Int → Option (Addr × Addr)} {i j : Nat} {st : Wd} {x1 x2 y1 y2 : Obj} {xs1 xs2 : List (List Int × Addr × Value)} {ks kk : Wd} {c : Addr × Addr} (h : LoopJ w tl d1 d2 due i j st x1 x2 xs1 xs2 ks) (hj : j < 8) (hd : due i j = some c)
    (ht1 : TD w y1 (xs1 ++ [([(i : Int), (j : Int)], a1, u1)])) (ht2 : TD w y2 (xs2 ++ [([(i : Int), (j : Int)], a2, u2)])) (hk1 : KeysIn w kk (xs1 ++ [([(i : Int), (j : Int)], a1, u1)])) (hk2 : KeysIn w kk (xs2 ++ [([(i : Int), (j : Int)], a2, u2)])) (b1 : ∀ p ∈ kk, p.1 ≠ d1) (b2 : ∀ p ∈ kk, p.1 ≠ d2) (hu1 : PairAt tl u1 (cellPP c)) (hu2 : CellAt tl u2 c) :
    LoopJ w tl d1 d2 due i (j + 1) ((d1, y1) :: (d2, y2) :: kk) y1 y2 (xs1 ++ [([(i : Int), (j : Int)], a1, u1)]) (xs2 ++ [([(i : Int), (j : Int)], a2, u2)]) kk := by
  obtain ⟨n1, n2⟩ := h.none1
  have inj : ∀ f g : Int, [f, g] = [(i : Int), (j : Int)] → f = i ∧ g = j := fun f g e => by simpa using e
  refine ⟨rfl, ht1, ht2, hk1, hk2, by have := h.l1; simp; omega, by have := h.l2; simp; omega, b1, b2, fun f g => ?_, fun f g => ?_, fun y hy => ?_⟩
  · rw [atKey_app n1]
    by_cases hfg : [f, g] = [(i : Int), (j : Int)]
    · obtain ⟨rfl, rfl⟩ := inj f g hfg
      rw [if_pos rfl]
      exact ⟨(seen_step hj).mpr (.inr ⟨rfl, rfl⟩), c, hd, hu1⟩
    · rw [if_neg hfg]
      have := h.v1 f g
      split
      · rename_i e; rw [e] at this
        refine fun q => this ⟨((seen_step hj).mp q.1).elim id fun r => absurd (by rw [r.1, r.2]) hfg, q.2⟩
      · rename_i e; rw [e] at this; exact ⟨(seen_step hj).mpr (.inl this.1), this.2⟩
  · rw [atKey_app n2]
    by_cases hfg : [f, g] = [(i : Int), (j : Int)]
    · obtain ⟨rfl, rfl⟩ := inj f g hfg
      rw [if_pos rfl]
      exact ⟨(seen_step hj).mpr (.inr ⟨rfl, rfl⟩), c, hd, hu2⟩
    · rw [if_neg hfg]
      have := h.v2 f g
      split
      · rename_i e; rw [e] at this
        refine fun q => this ⟨((seen_step hj).mp q.1).elim id fun r => absurd (by rw [r.1, r.2]) hfg, q.2⟩
      · rename_i e; rw [e] at this; exact ⟨(seen_step hj).mpr (.inl this.1), this.2⟩
  · rcases List.mem_append.mp hy with q | q
    · exact h.p1 y q
    · rw [List.mem_singleton.mp q]; exact ⟨_, _, rfl⟩

theorem row_j_47 : True := by
  (k_with "mine stopn" => repeat' (k_extra "mine no"; (fail_if_success (with_reducible refine stopC 313 ?_)); (fail_if_success (with_reducible refine stopC 542 ?_)); (fail_if_success (with_reducible show wpAny _ _ (setItem _ _ _) _ _ _)); (fail_if_success (with_reducible show wpAny _ _ (binaryOp _ (Value.ref _) _) _ _ _)); (fail_if_success (with_reducible show wpAny _ _ (subscriptTail _ _ (Value.ref _) _) _ _ _)); (fail_if_success (with_reducible show wpAny _ _ (compareOp CmpOp.NotEq _ _) _ _ _)); (fail_if_success (with_reducible show wpAny _ _ (compareOp CmpOp.In _ _) _ _ _)); k_extra "mine one"))
  trivial
/-- the body of the inner loop -/
def innerOf (body : List Stmt) : List Stmt :=
  match body.drop 8 with
  | .For _ _ (.For _ _ b _ _ :: _) _ _ :: _ => b
  | _ => []
section
variable {w : World} {g : Heap} {L : Addr} {m : Str → Option Value} {s : Shared} {mean : ExcName → Option Value} {mg mb : Str → Option Value} {dp un : Nat} {fr : Option (List Env)} {gd : Option (List Code)} {Q : Flow → Shared → Prop}
  {oc : Value} {od : Option Addr} {name qual : Str} {params : Arguments} {body : List Stmt} {scope : Scope} {dV kV doc pm cdv ct cw : Value} {fa : Addr} {an : Option Addr} {osl : Array (Option Value)}
theorem seg8a0 {pa : Addr} {T : PC} {i j : Int} {ti tj : Tok} {tl led : Wd} (hb : (hd.heap_1 w.params).lookup 552 = some ⟨oc, od, .func (fnOf name qual params body scope dV kV doc pm an cdv ct), osl⟩) (hR : Room 20 dp un)
    (F : Fr g L s.heap m) (N : News g L s.heap led) (X : (hd.heap_1 w.params).In g) (T0 : Top hd.view_1 (looseW hd.view_1 []) mean mg mb g)
    (hpa : IsPC w tl pa T) (sub : ∀ p ∈ tl, p ∈ led) (m1 : m "plain" = some (.ref pa)) (m2 : m "first" = some (.int i ti)) (m3 : m "second" = some (.int j tj)) (hd : T.find i j = none)
    (k : ∀ h' tk m', Fr g L h' m' → News g L h' led → m' "found" = some .none → (∀ x : Str, x ≠ "found" → m' x = m x) →
      wpAny (model PW w) (Ar dp un fr gd) (execs ((innerOf body).drop 2) (envOfC qual scope L fa cw)) Q NoE { s with heap := h', toks := tk }) :
    wpAny (model PW w) (Ar dp un fr gd) (execs (innerOf body) (envOfC qual scope L fa cw)) Q NoE s := by
  obtain ⟨rfl, rfl, rfl, rfl⟩ := fn_inj hb (by k_is)
  clear hb
  dsimp only [innerOf, List.drop] at k ⊢
  have hpa0 := hpa
  obtain ⟨_, _, _, _, _, _, hxo, _⟩ := hpa
  obtain ⟨dx, es_dx, n_dx, hxi, hxd, hF_dx⟩ := id hxo
  replace hxi := sub _ hxi
  replace hxd := sub _ hxd
  walk1
  k_extra "mine stopn"
  refine useB (args := ⟨[_, _, _], []⟩) F N (find_spec ((wo_of F N X T0).sub sub) hpa0) sub (by k_extra "mine room") ?_
  rintro v4 tl4 h4 tk4 ⟨-, hv4⟩ F4 N4 s4 f4
  rw [hd] at hv4
  obtain rfl : v4 = .none := hv4
  replace N4 : News g L h4 led := fun p hp => N4 p (List.mem_append_right _ hp)
  clear N F s4 f4
  k_extra "mine stopn"
  walk1
  k_extra "mine stopn"
  walk1
  k_extra "mine stopn"
  walk1
  k_extra "mine stopn"
  rename_i h9 F9 N9
  exact k h9 _ _ F9 N9 (if_pos rfl) (fun x hx => if_neg hx)
theorem seg8a1 {pa d1 : Addr} {T : PC} {i j : Int} {ti tj : Tok} {tl rest : Wd} {x1 : Obj} {xs1 : List (List Int × Addr × Value)} {p : PP} (hb : (hd.heap_1 w.params).lookup 552 = some ⟨oc, od, .func (fnOf name qual params body scope dV kV doc pm an cdv ct), osl⟩) (hR : Room 20 dp un)
    (F : Fr g L s.heap m) (N : News g L s.heap ((d1, x1) :: rest)) (X : (hd.heap_1 w.params).In g) (T0 : Top hd.view_1 (looseW hd.view_1 []) mean mg mb g)
    (hpa : IsPC w tl pa T) (sub : ∀ p ∈ tl, p ∈ rest) (hne : ∀ p ∈ rest, p.1 ≠ d1) (ht : TD w x1 xs1) (hk : KeysIn w rest xs1) (hn : atKey xs1 [i, j] = none) (hz : xs1.length ≤ 1000)
    (m1 : m "plain" = some (.ref pa)) (m2 : m "first" = some (.int i ti)) (m3 : m "second" = some (.int j tj)) (m4 : m "pairs" = some (.ref d1)) (hd : T.find i j = some p)
    (k : ∀ a y1 v h' tk m', Fr g L h' m' → News g L h' ((d1, y1) :: (a, tupOf [.int i ti, .int j tj] 0) :: rest) → (∀ q ∈ (d1, x1) :: rest, q.1 < a) → TD w y1 (xs1 ++ [([i, j], a, v)]) → PairAt tl v p → m' "found" = some v → (∀ x : Str, x ≠ "found" → m' x = m x) →
      wpAny (model PW w) (Ar dp un fr gd) (execs ((innerOf body).drop 2) (envOfC qual scope L fa cw)) Q NoE { s with heap := h', toks := tk }) :
    wpAny (model PW w) (Ar dp un fr gd) (execs (innerOf body) (envOfC qual scope L fa cw)) Q NoE s := by
  obtain ⟨rfl, rfl, rfl, rfl⟩ := fn_inj hb (by k_is)
  clear hb
  dsimp only [innerOf, List.drop] at k ⊢
  have hpa0 := hpa
  obtain ⟨_, _, _, _, _, _, hxo, _⟩ := hpa
  obtain ⟨dx, es_dx, n_dx, hxi, hxd, hF_dx⟩ := id hxo
  replace hxi := sub _ hxi
  replace hxd := sub _ hxd
  have up : ∀ p ∈ tl, p ∈ (d1, x1) :: rest := fun p hp => List.mem_cons_of_mem _ (sub p hp)
  walk1
  k_extra "mine stopn"
  refine useB (args := ⟨[_, _, _], []⟩) F N (find_spec ((wo_of F N X T0).sub up) hpa0) up (by k_extra "mine room") ?_
  rintro v4 tl4 h4 tk4 ⟨rfl, hv4⟩ F4 N4 s4 f4
  rw [hd] at hv4
  obtain ⟨t, x, y, n, rfl, ht1, ht2, ht3⟩ := hv4
  replace N4 : News g L h4 ((d1, x1) :: rest) := fun p hp => N4 p (List.mem_append_right _ hp)
  clear N F s4 f4
  k_extra "mine stopn"
  walk1
  k_extra "mine stopn"
  walk1
  k_extra "mine stopn"
  walk1
  k_extra "mine stopn"
  rename_i h5 tk5 D h6 F6 N6 l6
  have l7 : ∀ q ∈ (d1, x1) :: rest, q.1 < D := fun q hq => by
    rcases List.mem_cons.mp hq with rfl | hq
    · exact l6.1
    · exact allLt_out l6.2 q hq
  replace N6 : News g L h6 ((D, tupOf [.int i ti, .int j tj] 0) :: (d1, x1) :: rest) := N6
  refine td_set F6 (news_sw N6) (fun p hp => ?_) ht (hk.mono fun p hp => List.mem_cons_of_mem _ hp) (List.mem_cons_self ..) (items2 w i j ti tj) (by ke_room) (by omega) ?_
  · rcases List.mem_cons.mp hp with rfl | hp
    · exact Nat.ne_of_gt l6.1
    · exact hne p hp
  · intro y1 h8 tk8 ht8 hk8 F8 N8
    rw [storedH_new hn] at ht8
    clear N6 F6
    walk1
    k_extra "mine stopn"
    exact k D y1 (.ref t) _ _ _ F8 N8 l7 ht8 ⟨t, x, y, n, rfl, ht1, ht2, ht3⟩ (if_pos rfl) (fun x hx => if_neg hx)
end

section
variable {w : World} {g : Heap} {L : Addr} {m : Str → Option Value} {s : Shared} {mean : ExcName → Option Value} {mg mb : Str → Option Value} {dp un : Nat} {fr : Option (List Env)} {gd : Option (List Code)} {Q : Flow → Shared → Prop}
  {oc : Value} {od : Option Addr} {name qual : Str} {params : Arguments} {body : List Stmt} {scope : Scope} {dV kV doc pm cdv ct cw : Value} {fa : Addr} {an : Option Addr} {osl : Array (Option Value)}
theorem seg8b {fA sA : Addr} {fv sv : List Value} {fs ss : List Int} {nf ns : Nat} {i j : Int} {ti tj : Tok} {led : Wd} (hb : (hd.heap_1 w.params).lookup 552 = some ⟨oc, od, .func (fnOf name qual params body scope dV kV doc pm an cdv ct), osl⟩) (hR : Room 20 dp un)
    (F : Fr g L s.heap m) (N : News g L s.heap led) (X : (hd.heap_1 w.params).In g) (T0 : Top hd.view_1 (looseW hd.view_1 []) mean mg mb g)
    (hf : (fA, listOf fv.toArray nf) ∈ led) (hfI : IntsAre fv fs) (hfl : fs.length = 7) (hs : (sA, listOf sv.toArray ns) ∈ led) (hsI : IntsAre sv ss) (hsl : ss.length = 7)
    (i0 : 0 ≤ i) (i8 : i < 8) (j0 : 0 ≤ j) (j8 : j < 8)
    (m1 : m "firsts" = some (.ref fA)) (m2 : m "first" = some (.int i ti)) (m3 : m "second" = some (.int j tj)) (m4 : m "seconds" = some (.ref sA))
    (k : ∀ t u h' tk m', Fr g L h' m' → News g L h' led → m' "one" = some (.int (oneOf fs i) t) → m' "other" = some (.int (oneOf ss j) u) → (∀ x : Str, x ≠ "one" → x ≠ "other" → m' x = m x) →
      wpAny (model PW w) (Ar dp un fr gd) (execs ((innerOf body).drop 3) (envOfC qual scope L fa cw)) Q NoE { s with heap := h', toks := tk }) :
    wpAny (model PW w) (Ar dp un fr gd) (execs ((innerOf body).drop 2) (envOfC qual scope L fa cw)) Q NoE s := by
  obtain ⟨rfl, rfl, rfl, rfl⟩ := fn_inj hb (by k_is)
  clear hb
  dsimp only [innerOf, List.drop] at k ⊢
  walk1
  k_extra "mine stopn"
  rename_i l1 h1 F1 N1 q1
  replace N1 : News g L h1 ((l1, listOf ([.int 0 s.toks] : List Value).toArray 0) :: led) := N1
  refine kmk_add_ints (ns := fs) (ms := [0]) F1 N1 (News.isList N1 (List.mem_cons_of_mem _ hf)) (News.isList N1 (List.mem_cons_self ..)) hfI (.cons _ _ .nil) ?_ (by rw [sizeLine_eq]; simp; omega)
  intro D1 us h2 F2 N2 l2 hI2
  clear F1 N1
  k_extra "mine stopn"
  obtain ⟨t1, e1⟩ := ints_at hI2 (k := i.toNat) (by simp; omega)
  refine my_itemL N2 (List.mem_cons_self ..) e1 i0 (by omega) ?_
  k_extra "mine stopn"
  rename_i l3 h3 F3 N3 q3
  refine kmk_add_ints (ws := [.int 0 _]) (ns := ss) (ms := [0]) F3 N3 (News.isList N3 (List.mem_cons_of_mem _ (List.mem_cons_of_mem _ (List.mem_cons_of_mem _ hs)))) (News.isList N3 (List.mem_cons_self ..)) hsI (.cons _ _ .nil) ?_ (by rw [sizeLine_eq]; simp; omega)
  intro D2 vs h4 F4 N4 l4 hI4
  clear F3 N3
  k_extra "mine stopn"
  obtain ⟨t2, e2⟩ := ints_at hI4 (k := j.toNat) (by simp; omega)
  refine my_itemL N4 (List.mem_cons_self ..) e2 j0 (by omega) ?_
  k_extra "mine stopn"
  rename_i D5 h5 l5 h6 h7 h8 F8 N8
  refine k t1 t2 h8 _ _ F8 (fun p hp => N8 p (by simp [hp])) (if_pos rfl) ((if_neg (by decide)).trans (if_pos rfl)) (fun x hx hy => (if_neg hx).trans (if_neg hy))
end

section
variable {w : World} {g : Heap} {L : Addr} {m : Str → Option Value} {s : Shared} {mean : ExcName → Option Value} {mg mb : Str → Option Value} {dp un : Nat} {fr : Option (List Env)} {gd : Option (List Code)} {Q : Flow → Shared → Prop}
  {oc : Value} {od : Option Addr} {name qual : Str} {params : Arguments} {body : List Stmt} {scope : Scope} {dV kV doc pm cdv ct cw : Value} {fa : Addr} {an : Option Addr} {osl : Array (Option Value)}
theorem seg8c {cA rA d2 : Addr} {cv rv : List Value} {cs fs ss : List Int} {rows : List (List (Addr × Addr))} {nc nr : Nat} {i j cn on : Int} {ti tj t1 t2 tc tn : Tok} {tl rest : Wd} {x2 o3 o4 : Obj} {xs2 : List (List Int × Addr × Value)} (hb : (hd.heap_1 w.params).lookup 552 = some ⟨oc, od, .func (fnOf name qual params body scope dV kV doc pm an cdv ct), osl⟩) (hR : Room 20 dp un)
    (F : Fr g L s.heap m) (N : News g L s.heap ((d2, x2) :: rest)) (X : (hd.heap_1 w.params).In g) (T0 : Top hd.view_1 (looseW hd.view_1 []) mean mg mb g)
    (sub : ∀ p ∈ tl, p ∈ rest) (hc : (cA, listOf cv.toArray nc) ∈ tl) (hcI : IntsAre cv cs) (hr : (rA, listOf rv.toArray nr) ∈ tl) (hrA : AtAll (CRow tl) rv rows) (hr1 : (rows.length : Int) = cn) (hr2 : ∀ r ∈ rows, (r.length : Int) = on) (hc4 : cn ≤ 4) (ho4 : on ≤ 4)
    (p1 : 0 ≤ oneOf fs i) (p2 : 0 ≤ oneOf ss j)
    (c3 : (L + 1 + 1 + 1, o3) ∈ rest) (c4 : (L + 1 + 1 + 1 + 1, o4) ∈ rest) (dd3 : o3.data = .cell (some (.int on tn))) (dd4 : o4.data = .cell (some (.ref d2)))
    (hne : ∀ p ∈ rest, p.1 ≠ d2) (ht : TD w x2 xs2) (hk : KeysIn w rest xs2) (hn : atKey xs2 [i, j] = none) (hz : xs2.length ≤ 1000)
    (m1 : m "covered" = some (.ref cA)) (m2 : m "first" = some (.int i ti)) (m3 : m "second" = some (.int j tj)) (m4 : m "one" = some (.int (oneOf fs i) t1)) (m5 : m "other" = some (.int (oneOf ss j) t2)) (m6 : m "count" = some (.int cn tc)) (m7 : m "rows" = some (.ref rA))
    (k0 : ∀ h' tk, dueF cs fs ss rows cn on i j = none → Fr g L h' m → News g L h' ((d2, x2) :: rest) →
      wpAny (model PW w) (Ar dp un fr gd) (execs ((innerOf body).drop 4) (envOfC qual scope L fa cw)) Q NoE { s with heap := h', toks := tk })
    (k1 : ∀ c a u y2 h' tk, dueF cs fs ss rows cn on i j = some c → Fr g L h' m → News g L h' ((d2, y2) :: (a, tupOf [.int i ti, .int j tj] 0) :: rest) → (∀ q ∈ (d2, x2) :: rest, q.1 < a) → TD w y2 (xs2 ++ [([i, j], a, u)]) → CellAt tl u c →
      wpAny (model PW w) (Ar dp un fr gd) (execs ((innerOf body).drop 4) (envOfC qual scope L fa cw)) Q NoE { s with heap := h', toks := tk }) :
    wpAny (model PW w) (Ar dp un fr gd) (execs ((innerOf body).drop 3) (envOfC qual scope L fa cw)) Q NoE s := by
  obtain ⟨rfl, rfl, rfl, rfl⟩ := fn_inj hb (by k_is)
  clear hb
  dsimp only [innerOf, List.drop] at k0 k1 ⊢
  have b3 : (L + 1 + 1 + 1, o3) ∈ (d2, x2) :: rest := List.mem_cons_of_mem _ c3
  have b4 : (L + 1 + 1 + 1 + 1, o4) ∈ (d2, x2) :: rest := List.mem_cons_of_mem _ c4
  have up : ∀ p ∈ tl, p ∈ (d2, x2) :: rest := fun p hp => List.mem_cons_of_mem _ (sub p hp)
  walk1
  k_extra "mine stopn"
  refine in_list_ints (News.isList N (up _ hc)) hcI ?_
  cases hin : cs.any (· == i) with
  | false =>
    have q : dueF cs fs ss rows cn on i j = none := if_neg fun h => by
      rw [List.any_eq_false] at hin
      exact hin _ h.1 (by simp)
    k_extra "mine stopn"
    walk1
    k_extra "mine stopn"
    exact k0 _ _ q F N
  | true =>
    have hmem : i ∈ cs := by
      obtain ⟨x, hx, e⟩ := List.any_eq_true.mp hin
      rw [← eq_of_beq e]; exact hx
    k_extra "mine stopn"
    · rename_i b1 b2
      have l0 := hrA.1
      obtain ⟨row, hrw, l, us, nu, erv, hlm, hus, hul⟩ := hrA.2 (oneOf fs i).toNat _ (List.getElem?_eq_getElem (by omega))
      have erv' : rv[(oneOf fs i).toNat]? = some (.ref l) := by rw [← erv]; exact List.getElem?_eq_getElem (by omega)
      have hrl : (row.length : Int) = on := hr2 _ (List.mem_of_getElem? hrw)
      have l1 := hus.1
      obtain ⟨cell, hcl, t, nt, eus, htm, hM1, hM2⟩ := hus.2 (oneOf ss j).toNat _ (List.getElem?_eq_getElem (by omega))
      have eus' : us[(oneOf ss j).toNat]? = some (.ref t) := by rw [← eus]; exact List.getElem?_eq_getElem (by omega)
      have q : dueF cs fs ss rows cn on i j = some cell := by
        unfold dueF
        rw [if_pos ⟨hmem, b1, b2⟩]
        simp only [List.getD, hrw, hcl, Option.getD_some]
      walk1
      k_extra "mine stopn"
      refine my_itemL N (up _ hr) erv' p1 (by omega) ?_
      k_extra "mine stopn"
      refine my_itemL N (up _ hlm) eus' p2 (by omega) ?_
      k_extra "mine stopn"
      rename_i D h6 F6 N6 l6
      have l7 : ∀ q ∈ (d2, x2) :: rest, q.1 < D := fun q hq => by
        rcases List.mem_cons.mp hq with rfl | hq
        · exact l6.1
        · exact allLt_out l6.2 q hq
      replace N6 : News g L h6 ((D, tupOf [.int i ti, .int j tj] 0) :: (d2, x2) :: rest) := N6
      refine td_set F6 (news_sw N6) (fun p hp => ?_) ht (hk.mono fun p hp => List.mem_cons_of_mem _ hp) (List.mem_cons_self ..) (items2 w i j ti tj) (by ke_room) (by omega) ?_
      · rcases List.mem_cons.mp hp with rfl | hp
        · exact Nat.ne_of_gt l6.1
        · exact hne p hp
      · intro y2 h8 tk8 ht8 hk8 F8 N8
        rw [storedH_new hn] at ht8
        clear N6 F6
        walk1
        k_extra "mine stopn"
        exact k1 cell D (.ref t) y2 _ _ q F8 N8 l7 ht8 ⟨t, nt, rfl, htm, hM1, hM2⟩
    · rename_i b1 b2
      walk1
      k_extra "mine stopn"
      exact k0 _ _ (if_neg fun h => b2 h.2.2) F N
    · rename_i b1
      walk1
      k_extra "mine stopn"
      exact k0 _ _ (if_neg fun h => b1 h.2.1) F N
end

section
variable {w : World} {g : Heap} {L : Addr} {m : Str → Option Value} {s : Shared} {mean : ExcName → Option Value} {mg mb : Str → Option Value} {dp un : Nat} {fr : Option (List Env)} {gd : Option (List Code)} {Q : Flow → Shared → Prop}
  {oc : Value} {od : Option Addr} {name qual : Str} {params : Arguments} {body : List Stmt} {scope : Scope} {dV kV doc pm cdv ct cw : Value} {fa : Addr} {an : Option Addr} {osl : Array (Option Value)}
theorem seg8d {pb d2 : Addr} {T : PC} {i j : Int} {ti tj : Tok} {tl led : Wd} {x2 o4 : Obj} {xs2 : List (List Int × Addr × Value)} {v : Value} {o : Option PP} (hb : (hd.heap_1 w.params).lookup 552 = some ⟨oc, od, .func (fnOf name qual params body scope dV kV doc pm an cdv ct), osl⟩) (hR : Room 20 dp un)
    (F : Fr g L s.heap m) (N : News g L s.heap led) (X : (hd.heap_1 w.params).In g) (T0 : Top hd.view_1 (looseW hd.view_1 []) mean mg mb g)
    (hpb : IsPC w tl pb T) (sub : ∀ p ∈ tl, p ∈ led) (c4 : (L + 1 + 1 + 1 + 1, o4) ∈ led) (dd4 : o4.data = .cell (some (.ref d2)))
    (h2 : (d2, x2) ∈ led) (ht : TD w x2 xs2) (hk : KeysIn w led xs2) (lo2 : (d2 == sysModules) = false)
    (hv : match (generalizing := false) o with | none => v = .none | some p => PairAt tl v p) (hT : T.find i j = o) (hget : RD w tl (((atKey xs2 [i, j]).map (·.2)).getD .none) (dO o))
    (m1 : m "found" = some v) (m2 : m "first" = some (.int i ti)) (m3 : m "second" = some (.int j tj)) (m4 : m "turned" = some (.ref pb))
    (k : ∀ h' tk, Fr g L h' m → News g L h' led → Q .next { s with heap := h', toks := tk }) :
    wpAny (model PW w) (Ar dp un fr gd) (execs ((innerOf body).drop 4) (envOfC qual scope L fa cw)) Q NoE s := by
  obtain ⟨rfl, rfl, rfl, rfl⟩ := fn_inj hb (by k_is)
  clear hb
  dsimp only [innerOf, List.drop] at k ⊢
  have hpb0 := hpb
  obtain ⟨_, _, _, _, _, _, hxo, _⟩ := hpb
  obtain ⟨dx, es_dx, n_dx, hxi, hxd, hF_dx⟩ := id hxo
  replace hxi := sub _ hxi
  replace hxd := sub _ hxd
  have hsh : PySem.SeqAt.shaped (dO o) = true := shaped_dO o
  have eqd : PyData.eqv (dO o) (dO o) = true := PySem.SeqAt.eqv_refl _ (PySem.SeqAt.canLay_of_shaped hsh)
  walk1
  k_extra "mine stopn"
  refine useB (args := ⟨[_], []⟩) F N (tolds_spec ((wo_of F N X T0).sub sub) hv) sub (by k_extra "mine room") ?_
  rintro v5 tl5 h5 tk5 hrd5 F5 N5 s5 f5
  have hk5 : KeysIn w (tl5 ++ led) xs2 := hk.mono fun p hp => List.mem_append_right _ hp
  have h25 : (d2, x2) ∈ tl5 ++ led := List.mem_append_right _ h2
  have c45 : (L + 1 + 1 + 1 + 1, o4) ∈ tl5 ++ led := List.mem_append_right _ c4
  k_extra "mine stopn"
  rename_i D6 h6 F6 N6 l6 tk6
  obtain ⟨as1, e1⟩ := hrd5 h6 (X.keeps F6.keep) (fun p hp => (N6 p (List.mem_cons_of_mem _ (List.mem_append_left _ hp))).1)
  obtain ⟨as2, e2⟩ := hget h6 (X.keeps F6.keep) (fun p hp => (N6 p (List.mem_cons_of_mem _ (List.mem_append_right _ (sub p hp)))).1)
  refine ne_dataH e1 e2 hsh hsh (by ke_room) ?_
  rw [eqd]
  replace N6 : News g L h6 led := fun p hp => N6 p (List.mem_cons_of_mem _ (List.mem_append_right _ hp))
  clear hk5 h25 c45 e1 e2
  k_extra "mine stopn"
  refine useB (args := ⟨[_, _, _], []⟩) F6 N6 (find_spec ((wo_of F6 N6 X T0).sub sub) hpb0) sub (by k_extra "mine room") ?_
  rintro v7 tl7 h7 tk7 ⟨rfl, hv7⟩ F7 N7 s7 f7
  rw [hT] at hv7
  replace N7 : News g L h7 led := fun p hp => N7 p (List.mem_append_right _ hp)
  clear N6 F6
  k_extra "mine stopn"
  refine useB (args := ⟨[_], []⟩) F7 N7 (tolds_spec ((wo_of F7 N7 X T0).sub sub) hv7) sub (by k_extra "mine room") ?_
  rintro v8 tl8 h8 tk8 hrd8 F8 N8 s8 f8
  clear N7 F7
  have hk8 : KeysIn w (tl8 ++ led) xs2 := hk.mono fun p hp => List.mem_append_right _ hp
  have h28 : (d2, x2) ∈ tl8 ++ led := List.mem_append_right _ h2
  have c48 : (L + 1 + 1 + 1 + 1, o4) ∈ tl8 ++ led := List.mem_append_right _ c4
  k_extra "mine stopn"
  rename_i D9 h9 F9 N9 l9 tk9
  obtain ⟨as1, e1⟩ := hrd8 h9 (X.keeps F9.keep) (fun p hp => (N9 p (List.mem_cons_of_mem _ (List.mem_append_left _ hp))).1)
  obtain ⟨as2, e2⟩ := hget h9 (X.keeps F9.keep) (fun p hp => (N9 p (List.mem_cons_of_mem _ (List.mem_append_right _ (sub p hp)))).1)
  refine ne_dataH e1 e2 hsh hsh (by ke_room) ?_
  rw [eqd]
  replace N9 : News g L h9 led := fun p hp => N9 p (List.mem_cons_of_mem _ (List.mem_append_right _ hp))
  clear hk8 h28 c48 e1 e2
  k_extra "mine stopn"
  walk1
  k_extra "mine stopn"
  walk1
  exact k h9 _ F9 N9
end

/-- the locals that the loop reads -/
structure Loc8 (m : Str → Option Value) (cA fA sA rA pa pb d1 : Addr) (cn : Int) (tc : Tok) : Prop where
  l1 : m "covered" = some (.ref cA)
  l2 : m "firsts" = some (.ref fA)
  l3 : m "seconds" = some (.ref sA)
  l4 : m "rows" = some (.ref rA)
  l5 : m "plain" = some (.ref pa)
  l6 : m "turned" = some (.ref pb)
  l7 : m "pairs" = some (.ref d1)
  l8 : m "count" = some (.int cn tc)
abbrev Sets8 (x : Str) : Prop := x = "found" ∨ x = "one" ∨ x = "other" ∨ x = "first" ∨ x = "second"
theorem Loc8.of {m m' : Str → Option Value} {cA fA sA rA pa pb d1 : Addr} {cn : Int} {tc : Tok} (x : Loc8 m cA fA sA rA pa pb d1 cn tc) (h : ∀ x : Str, ¬ Sets8 x → m' x = m x) : Loc8 m' cA fA sA rA pa pb d1 cn tc :=
  ⟨(h _ (by decide)).trans x.l1, (h _ (by decide)).trans x.l2, (h _ (by decide)).trans x.l3, (h _ (by decide)).trans x.l4, (h _ (by decide)).trans x.l5, (h _ (by decide)).trans x.l6, (h _ (by decide)).trans x.l7, (h _ (by decide)).trans x.l8⟩
theorem keys_app {w : World} {ks kk : Wd} {xs : List (List Int × Addr × Value)} {k : List Int} {a : Addr} {vs : List Value} {n : Nat} {v : Value} (h : KeysIn w ks xs) (hs : ∀ p ∈ ks, p ∈ kk) (ha : (a, tupOf vs n) ∈ kk) (hi : ItemsAre (intKind PW w) k vs) : KeysIn w kk (xs ++ [(k, a, v)]) := fun x hx => by
  rcases List.mem_append.mp hx with q | q
  · exact (h.mono hs) x q
  · rw [List.mem_singleton.mp q]; exact ⟨vs, n, ha, hi⟩
section
variable {w : World} {g : Heap} {L : Addr} {m : Str → Option Value} {s : Shared} {mean : ExcName → Option Value} {mg mb : Str → Option Value} {dp un : Nat} {fr : Option (List Env)} {gd : Option (List Code)} {Q : Flow → Shared → Prop}
  {oc : Value} {od : Option Addr} {name qual : Str} {params : Arguments} {body : List Stmt} {scope : Scope} {dV kV doc pm cdv ct cw : Value} {fa : Addr} {an : Option Addr} {osl : Array (Option Value)}
theorem seg8t {o4 o3 x1 x2 : Obj} {pa pb d1 d2 cA fA sA rA : Addr} {cs fs ss os0 os1 os2 os3 : List Int} {rows : List (List (Addr × Addr))} {b : Bool} {cn on : Int} {ti tj tc tn : Tok} {tl led st ks : Wd} {i j : Nat} {xs1 xs2 : List (List Int × Addr × Value)} (hb : (hd.heap_1 w.params).lookup 552 = some ⟨oc, od, .func (fnOf name qual params body scope dV kV doc pm an cdv ct), osl⟩) (hR : Room 20 dp un)
    (F : Fr g L s.heap m) (N : News g L s.heap (st ++ led)) (X : (hd.heap_1 w.params).In g) (T0 : Top hd.view_1 (looseW hd.view_1 []) mean mg mb g)
    (hJ : LoopJ w tl d1 d2 (dueF cs fs ss rows cn on) i j st x1 x2 xs1 xs2 ks) (hi : i < 8) (hj : j < 8) (hap : ∀ p ∈ st, ∀ q ∈ led, q.1 ≠ p.1) (sub : ∀ p ∈ tl, p ∈ led) (lo2 : (d2 == sysModules) = false) (hd12 : d1 ≠ d2)
    (c3 : (L + 1 + 1 + 1, o3) ∈ led) (c4 : (L + 1 + 1 + 1 + 1, o4) ∈ led) (dd4 : o4.data = .cell (some (.ref d2))) (dd3 : o3.data = .cell (some (.int on tn))) (hS : Stuff tl cA fA sA rA cs fs ss rows cn on)
    (q0 : OrderOf cn.toNat os0) (q1 : OrderOf on.toNat os1) (q2 : OrderOf cn.toNat os2) (q3 : OrderOf on.toNat os3) (hpa : IsPC w tl pa (tabPC cs fs ss os0 os1 rows b)) (hpb : IsPC w tl pb (tabPC cs fs ss os2 os3 rows b))
    (hL : Loc8 m cA fA sA rA pa pb d1 cn tc) (m1 : m "first" = some (.int (i : Int) ti)) (m2 : m "second" = some (.int (j : Int) tj))
    (k : ∀ h' tk m' st' y1 y2 ys1 ys2 kk, Fr g L h' m' → News g L h' (st' ++ led) → (∀ p ∈ st', ∀ q ∈ led, q.1 ≠ p.1) → LoopJ w tl d1 d2 (dueF cs fs ss rows cn on) i (j + 1) st' y1 y2 ys1 ys2 kk → Loc8 m' cA fA sA rA pa pb d1 cn tc → m' "first" = some (.int (i : Int) ti) → Q .next { s with heap := h', toks := tk }) :
    wpAny (model PW w) (Ar dp un fr gd) (execs (innerOf body) (envOfC qual scope L fa cw)) Q NoE s := by
  obtain ⟨fv, nf, hf, hfI, hfl, hfb⟩ := hS.first
  obtain ⟨sv, ns, hs, hsI, hsl, hsb⟩ := hS.second
  obtain ⟨cv, nc, hc, hcI⟩ := hS.cov
  obtain ⟨rv, nr, hr, hrA⟩ := hS.row
  have e1 := hS.c1
  have e2 := hS.o1
  have fb0 : ∀ c ∈ fs, 0 ≤ c := fun c hc => (hfb c hc).1
  have sb0 : ∀ c ∈ ss, 0 ≤ c := fun c hc => (hsb c hc).1
  have ta := tab_find (rows := rows) (b := b) (cs := cs) (cn := cn) (on := on) (f := (i : Int)) (s := (j : Int)) q0 q1 e1 e2 hfl fb0 hsl sb0 (by omega) (by omega) (by omega) (by omega)
  have tb := tab_find (rows := rows) (b := b) (cs := cs) (cn := cn) (on := on) (f := (i : Int)) (s := (j : Int)) q2 q3 e1 e2 hfl fb0 hsl sb0 (by omega) (by omega) (by omega) (by omega)
  have p1 : 0 ≤ oneOf fs i := (cls_at q0 (by omega) hfl fb0 (by omega) (by omega)).1
  have p2 : 0 ≤ oneOf ss j := (cls_at q1 (by omega) hsl sb0 (by omega) (by omega)).1
  obtain ⟨n1, n2⟩ := hJ.none1
  have est := hJ.st_
  subst est
  have z1 := hJ.l1
  have z2 := hJ.l2
  have sub2 : ∀ p ∈ tl, p ∈ ks ++ led := fun p hp => List.mem_append_right _ (sub p hp)
  have ak : ∀ p ∈ ks, ∀ q ∈ led, q.1 ≠ p.1 := fun p hp => hap p (List.mem_cons_of_mem _ (List.mem_cons_of_mem _ hp))
  have ad1 : ∀ q ∈ led, q.1 ≠ d1 := hap (d1, x1) (List.mem_cons_self ..)
  have ad2 : ∀ q ∈ led, q.1 ≠ d2 := hap (d2, x2) (List.mem_cons_of_mem _ (List.mem_cons_self ..))
  have r1 : ∀ p ∈ (d2, x2) :: (ks ++ led), p.1 ≠ d1 := fun p hp => by
    rcases List.mem_cons.mp hp with rfl | hp
    · exact Ne.symm hd12
    rcases List.mem_append.mp hp with hp | hp
    · exact hJ.a1 p hp
    · exact ad1 p hp
  replace N : News g L s.heap ((d1, x1) :: (d2, x2) :: (ks ++ led)) := N
  cases e : dueF cs fs ss rows cn on i j with
  | none =>
    rw [e] at ta tb
    refine seg8a0 (tl := tl) hb hR F N X T0 hpa (fun p hp => List.mem_cons_of_mem _ (List.mem_cons_of_mem _ (sub2 p hp))) hL.l5 m1 m2 ta ?_
    intro h1 tk1 m' F1 N1 g1 g2
    have L1 : Loc8 m' cA fA sA rA pa pb d1 cn tc := hL.of fun x hx => g2 x (fun h => hx (.inl h))
    refine seg8b hb hR F1 N1 X T0 (List.mem_cons_of_mem _ (List.mem_cons_of_mem _ (sub2 _ hf))) hfI hfl (List.mem_cons_of_mem _ (List.mem_cons_of_mem _ (sub2 _ hs))) hsI hsl (by omega) (by omega) (by omega) (by omega) L1.l2 ((g2 _ (by decide)).trans m1) ((g2 _ (by decide)).trans m2) L1.l3 ?_
    intro t u h2 tk2 m'' F2 N2 g3 g4 g5
    have L2 : Loc8 m'' cA fA sA rA pa pb d1 cn tc := L1.of fun x hx => g5 x (fun h => hx (.inr (.inl h))) (fun h => hx (.inr (.inr (.inl h))))
    have w1 : m'' "first" = some (.int (i : Int) ti) := (g5 _ (by decide) (by decide)).trans ((g2 _ (by decide)).trans m1)
    have w2 : m'' "second" = some (.int (j : Int) tj) := (g5 _ (by decide) (by decide)).trans ((g2 _ (by decide)).trans m2)
    have w3 : m'' "found" = some .none := (g5 _ (by decide) (by decide)).trans g1
    have N3 : News g L h2 ((d2, x2) :: (d1, x1) :: (ks ++ led)) := news_sw N2
    refine seg8c (tl := tl) (cs := cs) (rows := rows) (cn := cn) (on := on) hb hR F2 N3 X T0 (fun p hp => List.mem_cons_of_mem _ (sub2 p hp)) hc hcI hr hrA hS.rows1 hS.rows2 hS.c4 hS.o4 p1 p2 (List.mem_cons_of_mem _ (List.mem_append_right _ c3)) (List.mem_cons_of_mem _ (List.mem_append_right _ c4)) dd3 dd4 (fun p hp => ?_) hJ.t2 (hJ.k2.mono fun p hp => List.mem_cons_of_mem _ (List.mem_append_left _ hp)) n2 (by omega) L2.l1 w1 w2 g3 g4 L2.l8 L2.l4 ?_ ?_
    · rcases List.mem_cons.mp hp with rfl | hp
      · exact hd12
      rcases List.mem_append.mp hp with hp | hp
      · exact hJ.a2 p hp
      · exact ad2 p hp
    · intro h4 tk4 _ F4 N4
      refine seg8d (tl := tl) (o := none) hb hR F4 N4 X T0 hpb (fun p hp => List.mem_cons_of_mem _ (List.mem_cons_of_mem _ (sub2 p hp))) (List.mem_cons_of_mem _ (List.mem_cons_of_mem _ (List.mem_append_right _ c4))) dd4 (List.mem_cons_self ..) hJ.t2 (hJ.k2.mono fun p hp => List.mem_cons_of_mem _ (List.mem_cons_of_mem _ (List.mem_append_left _ hp))) lo2 rfl tb ?_ w3 w1 w2 L2.l6 ?_
      · rw [n2]; exact fun _ _ _ => ⟨_, .none⟩
      · intro h6 tk6 F6 N6
        exact k h6 tk6 m'' _ x1 x2 xs1 xs2 ks F6 (news_sw N6) hap (hJ.skip hj e) L2 w1
    · intro c a u y2 h4 tk4 ec
      rw [e] at ec; cases ec
  | some c =>
    rw [e] at ta tb
    refine seg8a1 (tl := tl) hb hR F N X T0 hpa (fun p hp => List.mem_cons_of_mem _ (sub2 p hp)) r1 hJ.t1 (hJ.k1.mono fun p hp => List.mem_cons_of_mem _ (List.mem_append_left _ hp)) n1 (by omega) hL.l5 m1 m2 hL.l7 ta ?_
    intro a y1 v h1 tk1 m' F1 N1 l1 t1 hv g1 g2
    have L1 : Loc8 m' cA fA sA rA pa pb d1 cn tc := hL.of fun x hx => g2 x (fun h => hx (.inl h))
    refine seg8b hb hR F1 N1 X T0 (List.mem_cons_of_mem _ (List.mem_cons_of_mem _ (List.mem_cons_of_mem _ (sub2 _ hf)))) hfI hfl (List.mem_cons_of_mem _ (List.mem_cons_of_mem _ (List.mem_cons_of_mem _ (sub2 _ hs)))) hsI hsl (by omega) (by omega) (by omega) (by omega) L1.l2 ((g2 _ (by decide)).trans m1) ((g2 _ (by decide)).trans m2) L1.l3 ?_
    intro t u h2 tk2 m'' F2 N2 g3 g4 g5
    have L2 : Loc8 m'' cA fA sA rA pa pb d1 cn tc := L1.of fun x hx => g5 x (fun h => hx (.inr (.inl h))) (fun h => hx (.inr (.inr (.inl h))))
    have w1 : m'' "first" = some (.int (i : Int) ti) := (g5 _ (by decide) (by decide)).trans ((g2 _ (by decide)).trans m1)
    have w2 : m'' "second" = some (.int (j : Int) tj) := (g5 _ (by decide) (by decide)).trans ((g2 _ (by decide)).trans m2)
    have w3 : m'' "found" = some v := (g5 _ (by decide) (by decide)).trans g1
    have N3 : News g L h2 ((d2, x2) :: (d1, y1) :: (a, tupOf [.int (i : Int) ti, .int (j : Int) tj] 0) :: (ks ++ led)) := fun p hp => N2 p (by
      simp only [List.mem_cons] at hp ⊢
      rcases hp with h | h | h | h <;> simp [h])
    refine seg8c (tl := tl) (cs := cs) (rows := rows) (cn := cn) (on := on) hb hR F2 N3 X T0 (fun p hp => List.mem_cons_of_mem _ (List.mem_cons_of_mem _ (sub2 p hp))) hc hcI hr hrA hS.rows1 hS.rows2 hS.c4 hS.o4 p1 p2 (List.mem_cons_of_mem _ (List.mem_cons_of_mem _ (List.mem_append_right _ c3))) (List.mem_cons_of_mem _ (List.mem_cons_of_mem _ (List.mem_append_right _ c4))) dd3 dd4 (fun p hp => ?_) hJ.t2 (hJ.k2.mono fun p hp => List.mem_cons_of_mem _ (List.mem_cons_of_mem _ (List.mem_append_left _ hp))) n2 (by omega) L2.l1 w1 w2 g3 g4 L2.l8 L2.l4 ?_ ?_
    · rcases List.mem_cons.mp hp with rfl | hp
      · exact hd12
      rcases List.mem_cons.mp hp with rfl | hp
      · exact Nat.ne_of_gt (l1 (d2, x2) (List.mem_cons_of_mem _ (List.mem_cons_self ..)))
      rcases List.mem_append.mp hp with hp | hp
      · exact hJ.a2 p hp
      · exact ad2 p hp
    · intro h4 tk4 ec
      rw [e] at ec; cases ec
    · intro c' a' u y2 h4 tk4 ec F4 N4 l2 t2 hu
      rw [e] at ec
      obtain rfl : c = c' := Option.some.inj ec
      have ek : atKey (xs2 ++ [([(i : Int), (j : Int)], a', u)]) [(i : Int), (j : Int)] = some (a', u) := by rw [atKey_app n2, if_pos rfl]
      have kk2 : KeysIn w ((a', tupOf [.int (i : Int) ti, .int (j : Int) tj] 0) :: (a, tupOf [.int (i : Int) ti, .int (j : Int) tj] 0) :: ks) (xs2 ++ [([(i : Int), (j : Int)], a', u)]) := keys_app hJ.k2 (fun p hp => List.mem_cons_of_mem _ (List.mem_cons_of_mem _ hp)) (List.mem_cons_self ..) (items2 w _ _ _ _)
      have kk1 : KeysIn w ((a', tupOf [.int (i : Int) ti, .int (j : Int) tj] 0) :: (a, tupOf [.int (i : Int) ti, .int (j : Int) tj] 0) :: ks) (xs1 ++ [([(i : Int), (j : Int)], a, v)]) := keys_app hJ.k1 (fun p hp => List.mem_cons_of_mem _ (List.mem_cons_of_mem _ hp)) (List.mem_cons_of_mem _ (List.mem_cons_self ..)) (items2 w _ _ _ _)
      have N5 : News g L h4 (((d1, y1) :: (d2, y2) :: (a', tupOf [.int (i : Int) ti, .int (j : Int) tj] 0) :: (a, tupOf [.int (i : Int) ti, .int (j : Int) tj] 0) :: ks) ++ led) := fun p hp => N4 p (by
        simp only [List.cons_append, List.mem_cons] at hp ⊢
        rcases hp with h | h | h | h | h <;> simp [h])
      refine seg8d (tl := tl) (o := some (cellPP c)) hb hR F4 N5 X T0 hpb (fun p hp => List.mem_append_right _ (sub p hp)) (List.mem_append_right _ c4) dd4 (List.mem_append_left _ (List.mem_cons_of_mem _ (List.mem_cons_self ..))) t2 (kk2.mono fun p hp => List.mem_append_left _ (List.mem_cons_of_mem _ (List.mem_cons_of_mem _ hp))) lo2 hv tb ?_ w3 w1 w2 L2.l6 ?_
      · rw [ek]; exact rd_cell hu
      · intro h6 tk6 F6 N6
        refine k h6 tk6 m'' _ y1 y2 _ _ _ F6 N6 (fun p hp q hq => ?_) (hJ.put hj e t1 t2 kk1 kk2 (fun p hp => ?_) (fun p hp => ?_) hv hu) L2 w1
        · rcases List.mem_cons.mp hp with rfl | hp
          · exact ad1 q hq
          rcases List.mem_cons.mp hp with rfl | hp
          · exact ad2 q hq
          rcases List.mem_cons.mp hp with rfl | hp
          · exact Nat.ne_of_lt (l2 q (by simp [hq]))
          rcases List.mem_cons.mp hp with rfl | hp
          · exact Nat.ne_of_lt (l1 q (by simp [hq]))
          · exact ak p hp q hq
        · rcases List.mem_cons.mp hp with rfl | hp
          · exact Nat.ne_of_gt (l2 (d1, y1) (by simp))
          rcases List.mem_cons.mp hp with rfl | hp
          · exact Nat.ne_of_gt (l1 (d1, x1) (by simp))
          · exact hJ.a1 p hp
        · rcases List.mem_cons.mp hp with rfl | hp
          · exact Nat.ne_of_gt (l2 (d2, x2) (by simp))
          rcases List.mem_cons.mp hp with rfl | hp
          · exact Nat.ne_of_gt (l1 (d2, x2) (by simp))
          · exact hJ.a2 p hp
end

section
variable {w : World} {g : Heap} {L : Addr} {m : Str → Option Value} {s : Shared} {mean : ExcName → Option Value} {mg mb : Str → Option Value} {dp un : Nat} {fr : Option (List Env)} {gd : Option (List Code)} {Q : Flow → Shared → Prop}
  {oc : Value} {od : Option Addr} {name qual : Str} {params : Arguments} {body : List Stmt} {scope : Scope} {dV kV doc pm cdv ct cw : Value} {fa : Addr} {an : Option Addr} {osl : Array (Option Value)}
theorem seg8 {o5 o4 o3 o2 o1 po x1 x2 : Obj} {P pa pb d1 d2 cA fA sA rA : Addr} {cs fs ss os0 os1 os2 os3 : List Int} {rows : List (List (Addr × Addr))} {b : Bool} {cn on : Int} {tc tn : Tok} {tl : Wd} (hb : (hd.heap_1 w.params).lookup 552 = some ⟨oc, od, .func (fnOf name qual params body scope dV kV doc pm an cdv ct), osl⟩) (hR : Room 20 dp un)
    (F : Fr g L s.heap m) (N : News g L s.heap ((d1, x1) :: (d2, x2) :: (ownL L P o5 o4 o3 o2 o1 po ++ tl))) (X : (hd.heap_1 w.params).In g) (T0 : Top hd.view_1 (looseW hd.view_1 []) mean mg mb g)
    (ht1 : TD w x1 []) (ht2 : TD w x2 []) (lo2 : (d2 == sysModules) = false) (hd12 : d1 ≠ d2) (a1 : ∀ p ∈ ownL L P o5 o4 o3 o2 o1 po ++ tl, p.1 ≠ d1) (a2 : ∀ p ∈ ownL L P o5 o4 o3 o2 o1 po ++ tl, p.1 ≠ d2)
    (dd4 : o4.data = .cell (some (.ref d2))) (dd3 : o3.data = .cell (some (.int on tn))) (hS : Stuff tl cA fA sA rA cs fs ss rows cn on)
    (q0 : OrderOf cn.toNat os0) (q1 : OrderOf on.toNat os1) (q2 : OrderOf cn.toNat os2) (q3 : OrderOf on.toNat os3) (hpa : IsPC w tl pa (tabPC cs fs ss os0 os1 rows b)) (hpb : IsPC w tl pb (tabPC cs fs ss os2 os3 rows b))
    (hL : Loc8 m cA fA sA rA pa pb d1 cn tc)
    (k : ∀ h' tk m' st' y1 y2 ys1 ys2 kk, Fr g L h' m' → News g L h' (st' ++ (ownL L P o5 o4 o3 o2 o1 po ++ tl)) → (∀ p ∈ st', ∀ q ∈ ownL L P o5 o4 o3 o2 o1 po ++ tl, q.1 ≠ p.1) → LoopJ w tl d1 d2 (dueF cs fs ss rows cn on) 8 0 st' y1 y2 ys1 ys2 kk → Loc8 m' cA fA sA rA pa pb d1 cn tc →
      wpAny (model PW w) (Ar dp un fr gd) (execs (body.drop 9) (envOfC qual scope L fa cw)) Q NoE { s with heap := h', toks := tk }) :
    wpAny (model PW w) (Ar dp un fr gd) (execs (body.drop 8) (envOfC qual scope L fa cw)) Q NoE s := by
  have hb0 := hb
  obtain ⟨rfl, rfl, rfl, rfl⟩ := fn_inj hb (by k_is)
  clear hb
  dsimp only [List.drop] at k ⊢
  have sub0 : ∀ p ∈ tl, p ∈ ownL L P o5 o4 o3 o2 o1 po ++ tl := fun p hp => List.mem_append_right _ hp
  have c30 : (L + 1 + 1 + 1, o3) ∈ ownL L P o5 o4 o3 o2 o1 po ++ tl := by simp
  have c40 : (L + 1 + 1 + 1 + 1, o4) ∈ ownL L P o5 o4 o3 o2 o1 po ++ tl := by simp
  generalize hled : ownL L P o5 o4 o3 o2 o1 po ++ tl = led at N a1 a2 k sub0 c30 c40
  walk1
  refine for_K F ?_
  k_extra "mine stop"
  refine pyIter_rangeF (by assumption) (by first | decide +kernel | omega) (by first | decide +kernel | omega) (by first | decide +kernel | omega) (by first | decide +kernel | omega) ?_
  rename_i h1 tk1 t1 u1 v1 hr1 F1 N1 kk1
  have ap0 : ∀ p ∈ ([(d1, x1), (d2, x2)] : Wd), ∀ q ∈ led, q.1 ≠ p.1 := fun p hp => by
    rcases List.mem_cons.mp hp with rfl | hp
    · exact a1
    · rw [List.mem_singleton.mp hp]; exact a2
  refine ⟨_, _, m, [(d1, x1), (d2, x2)], led, fun i m st => ∃ y1 y2 ys1 ys2 kk, LoopJ w tl d1 d2 (dueF cs fs ss rows cn on) i 0 st y1 y2 ys1 ys2 kk ∧ Loc8 m cA fA sA rA pa pb d1 cn tc, for_range rfl F1 N1, ⟨x1, x2, [], [], [], LoopJ.start ht1 ht2, hL⟩, ap0, ?_, ?_⟩
  · clear k F1 N1
    rintro led1 i v m1 st1 h2 tk2 hi ⟨tv, rfl⟩ ⟨y1, y2, ys1, ys2, kk, hJ, hL1⟩ hbase hap F2 N2
    refine blk_assign F2 N2 rfl rfl ?_
    intro h3 F3 N3
    replace F3 : Fr g L h3 (fun y => if y = Str.ofString "first" then some (.int (0 + (i : Int)) tv) else m1 y) := F3
    have hL3 : Loc8 (fun y => if y = Str.ofString "first" then some (.int (0 + (i : Int)) tv) else m1 y) cA fA sA rA pa pb d1 cn tc := hL1.of fun x hx => if_neg fun h => hx (.inr (.inr (.inr (.inl h))))
    have w3 : (fun y => if y = Str.ofString "first" then some (.int (0 + (i : Int)) tv) else m1 y) "first" = some (.int (i : Int) tv) := by rw [Int.zero_add]; exact if_pos rfl
    generalize (fun y => if y = Str.ofString "first" then some (.int (0 + (i : Int)) tv) else m1 y) = m3 at F3 hL3 w3
    replace N3 : News g L h3 (st1 ++ led1) := N3
    clear F2 N2 hL1
    walk1
    refine for_K F3 ?_
    k_extra "mine stop"
    refine pyIter_rangeF (by assumption) (by first | decide +kernel | omega) (by first | decide +kernel | omega) (by first | decide +kernel | omega) (by first | decide +kernel | omega) ?_
    rename_i h5 tk5 t5 u5 v5 hr5 F5 N5 kk5
    refine ⟨_, _, m3, st1, led1, fun j m st => ∃ y1 y2 ys1 ys2 kk, LoopJ w tl d1 d2 (dueF cs fs ss rows cn on) i j st y1 y2 ys1 ys2 kk ∧ Loc8 m cA fA sA rA pa pb d1 cn tc ∧ m "first" = some (.int (i : Int) tv), for_range rfl F5 N5, ⟨y1, y2, ys1, ys2, kk, hJ, hL3, w3⟩, hap, ?_, ?_⟩
    · clear F5 N5
      rintro led2 j v m5 st5 h6 tk6 hj ⟨tv2, rfl⟩ ⟨z1, z2, zs1, zs2, kz, hJ5, hL5, w5⟩ hbase2 hap5 F6 N6
      refine blk_assign F6 N6 rfl rfl ?_
      intro h7 F7 N7
      replace F7 : Fr g L h7 (fun y => if y = Str.ofString "second" then some (.int (0 + (j : Int)) tv2) else m5 y) := F7
      replace N7 : News g L h7 (st5 ++ led2) := N7
      have hL7 : Loc8 (fun y => if y = Str.ofString "second" then some (.int (0 + (j : Int)) tv2) else m5 y) cA fA sA rA pa pb d1 cn tc := hL5.of fun x hx => if_neg fun h => hx (.inr (.inr (.inr (.inr h))))
      have w7 : (fun y => if y = Str.ofString "second" then some (.int (0 + (j : Int)) tv2) else m5 y) "second" = some (.int (j : Int) tv2) := by rw [Int.zero_add]; exact if_pos rfl
      have w8 : (fun y => if y = Str.ofString "second" then some (.int (0 + (j : Int)) tv2) else m5 y) "first" = some (.int (i : Int) tv) := (if_neg (by decide)).trans w5
      generalize (fun y => if y = Str.ofString "second" then some (.int (0 + (j : Int)) tv2) else m5 y) = m7 at F7 hL7 w7 w8
      refine seg8t hb0 hR F7 N7 X T0 hJ5 (by omega) (by omega) hap5 (fun p hp => hbase2 p (hbase p (sub0 p hp))) lo2 hd12 (hbase2 _ (hbase _ c30)) (hbase2 _ (hbase _ c40)) dd4 dd3 hS q0 q1 q2 q3 hpa hpb hL7 w8 w7 ?_
      intro h9 tk9 m9 st9 y1 y2 ys1 ys2 kk F9 N9 ap9 hJ9 hL9 w9
      exact ⟨h9, tk9, m9, st9, rfl, F9, N9, ap9, _, _, _, _, _, hJ9, hL9, w9⟩
    · clear F5 N5
      rintro h9 tk9 m9 st9 F9 N9 ap9 ⟨z1, z2, zs1, zs2, kz, hJ9, hL9, w9⟩
      walk1
      exact ⟨h9, _, m9, st9, rfl, F9, N9, ap9, z1, z2, zs1, zs2, kz, (show LoopJ w tl d1 d2 (dueF cs fs ss rows cn on) i 8 st9 z1 z2 zs1 zs2 kz from hJ9).next, hL9⟩
  · clear F1 N1
    rintro h9 tk9 m9 st9 F9 N9 ap9 ⟨z1, z2, zs1, zs2, kz, hJ9, hL9⟩
    exact k h9 _ m9 st9 z1 z2 zs1 zs2 kz F9 N9 ap9 hJ9 hL9
end

/-- what is due on 0 .. 7, and nothing else -/
def dueP (cs fs ss : List Int) (rows : List (List (Addr × Addr))) (cn on f g : Int) : Option PP := if 0 ≤ f ∧ f < 8 ∧ 0 ≤ g ∧ g < 8 then (dueF cs fs ss rows cn on f g).map cellPP else none
theorem seen_end {f g : Int} : Seen 8 0 f g ↔ 0 ≤ f ∧ f < 8 ∧ 0 ≤ g ∧ g < 8 := 
  ⟨fun ⟨⟨a, b, c⟩, d⟩ => ⟨a, by omega, b, c⟩, fun ⟨a, d, b, c⟩ => ⟨⟨a, b, c⟩, by omega⟩⟩
theorem due_row {cs fs ss : List Int} {rows : List (List (Addr × Addr))} {cn on f g : Int} {c : Addr × Addr} (hk : ∀ r ∈ rows, RowOk false r) (h : dueF cs fs ss rows cn on f g = some c) : (cellPP c).2 = (0, 0, 0, 0) := by
  unfold dueF at h
  split at h
  · rw [← Option.some.inj h]
    refine cell_nothing ?_ _
    cases e : rows[(oneOf fs f).toNat]? with
    | none => simp only [List.getD, e]; exact fun c hc => nomatch hc
    | some r => simp only [List.getD, e]; exact hk r (List.mem_of_getElem? e)
  · cases h
theorem atKey_mem {xs : List (List Int × Addr × Value)} (hn : (xs.map (·.1)).Nodup) {y : List Int × Addr × Value} (hy : y ∈ xs) : atKey xs y.1 = some y.2 := by
  induction xs with
  | nil => cases hy
  | cons a r ih =>
    rw [List.map_cons, List.nodup_cons] at hn
    unfold atKey
    rw [List.find?_cons]
    rcases List.mem_cons.mp hy with rfl | hy
    · simp
    · have hne : ¬ a.1 = y.1 := fun e => hn.1 (e ▸ List.mem_map_of_mem hy)
      simp only [hne, decide_false]
      exact ih hn.2 hy
theorem pairs_at {tl : Wd} {b : Bool} {ys : List (List Int × Addr × Value)} (h : ∀ y ∈ ys, ∃ p, PairAt tl y.2.2 p ∧ (b = false → p.2 = (0, 0, 0, 0))) :
    ∃ ps : List PP, AtAll (PairAt tl) (ys.map (·.2.2)) ps ∧ ps.length = ys.length ∧ (b || ps.any fun p => decide (p.2 ≠ (0, 0, 0, 0))) = b := by
  have key : ∃ ps : List PP, AtAll (PairAt tl) (ys.map (·.2.2)) ps ∧ ps.length = ys.length ∧ ∀ p ∈ ps, b = false → p.2 = (0, 0, 0, 0) := by
    induction ys with
    | nil => exact ⟨[], AtAll.nil, rfl, fun _ h => nomatch h⟩
    | cons y r ih =>
      obtain ⟨ps, a, l, q⟩ := ih fun x hx => h x (List.mem_cons_of_mem _ hx)
      obtain ⟨p, hp, hb⟩ := h y (List.mem_cons_self ..)
      refine ⟨p :: ps, (AtAll.one hp).append a, by simp [l], fun x hx => ?_⟩
      rcases List.mem_cons.mp hx with rfl | hx
      · exact hb
      · exact q x hx
  obtain ⟨ps, a, l, q⟩ := key
  refine ⟨ps, a, l, ?_⟩
  cases b with
  | true => rfl
  | false =>
    rw [Bool.false_or, List.any_eq_false]
    intro p hp
    simp [q p hp rfl]
section
variable {w : World} {tl : Wd} {d1 d2 : Addr} {cs fs ss : List Int} {rows : List (List (Addr × Addr))} {cn on : Int} {st : Wd} {x1 x2 : Obj} {xs1 xs2 : List (List Int × Addr × Value)} {ks : Wd}
theorem LoopJ.at1 (h : LoopJ w tl d1 d2 (dueF cs fs ss rows cn on) 8 0 st x1 x2 xs1 xs2 ks) (f g : Int) : match atKey xs1 [f, g] with | none => dueP cs fs ss rows cn on f g = none | some av => ∃ p, dueP cs fs ss rows cn on f g = some p ∧ PairAt tl av.2 p := by
  have := h.v1 f g
  split
  · rename_i e
    rw [e] at this
    unfold dueP
    split
    · rename_i q
      cases e2 : dueF cs fs ss rows cn on f g with
      | none => rfl
      | some c => exact absurd ⟨seen_end.mpr q, by rw [e2]; rfl⟩ this
    · rfl
  · rename_i av e
    rw [e] at this
    obtain ⟨q, c, hc, hp⟩ := this
    refine ⟨cellPP c, ?_, hp⟩
    unfold dueP
    rw [if_pos (seen_end.mp q), hc]; rfl
theorem LoopJ.all1 {b : Bool} (h : LoopJ w tl d1 d2 (dueF cs fs ss rows cn on) 8 0 st x1 x2 xs1 xs2 ks) (hk : ∀ r ∈ rows, RowOk b r) : ∃ ps : List PP, AtAll (PairAt tl) (xs1.map (·.2.2)) ps ∧ ps.length = xs1.length ∧ (b || ps.any fun p => decide (p.2 ≠ (0, 0, 0, 0))) = b := by
  refine pairs_at fun y hy => ?_
  obtain ⟨f, g, e⟩ := h.p1 y hy
  have a := atKey_mem h.t1.nodup hy
  rw [e] at a
  have v := h.v1 f g
  rw [a] at v
  obtain ⟨_, c, hc, hp⟩ := v
  refine ⟨cellPP c, hp, fun hb => ?_⟩
  subst hb
  exact due_row hk hc
theorem LoopJ.keys (h : LoopJ w tl d1 d2 (dueF cs fs ss rows cn on) 8 0 st x1 x2 xs1 xs2 ks) : ∀ y ∈ xs1, ∃ f g p av, y.1 = [f, g] ∧ dueP cs fs ss rows cn on f g = some p ∧ atKey xs2 [f, g] = some av ∧ RD w tl av.2 (dP p) := fun y hy => by
  obtain ⟨f, g, e⟩ := h.p1 y hy
  have a := atKey_mem h.t1.nodup hy
  rw [e] at a
  have v := h.v1 f g
  rw [a] at v
  obtain ⟨q, c, hc, hp⟩ := v
  have v2 := h.v2 f g
  cases e2 : atKey xs2 [f, g] with
  | none => rw [e2] at v2; exact absurd ⟨q, by rw [hc]; rfl⟩ v2
  | some av =>
    rw [e2] at v2
    obtain ⟨_, c', hc', hu⟩ := v2
    rw [hc] at hc'
    obtain rfl := Option.some.inj hc'
    refine ⟨f, g, cellPP c, av, e, ?_, e2, rd_cell hu⟩
    unfold dueP
    rw [if_pos (seen_end.mp q), hc]; rfl
end
theorem own_st {L P : Addr} {st tl : Wd} {o5 o4 o3 o2 o1 po : Obj} (O : Own L P tl) (h : ∀ p ∈ st, ∀ q ∈ ownL L P o5 o4 o3 o2 o1 po ++ tl, q.1 ≠ p.1) : Own L P (st ++ tl) := O.of (o5 := o5) (o4 := o4) (o3 := o3) (o2 := o2) (o1 := o1) (po := po) fun p hp q hq => by
  rcases List.mem_append.mp hq with hq | hq
  · exact Ne.symm (h q hq p (List.mem_append_left _ hp))
  · exact O.ap p hp q hq
theorem news_st {g : Heap} {L : Addr} {h : Heap} {a b c : Wd} (N : News g L h (a ++ (b ++ c))) : News g L h (b ++ (a ++ c)) := fun p hp => N p (by
  simp only [List.mem_append] at hp ⊢
  rcases hp with h | h | h <;> simp [h])

section
variable {w : World} {g : Heap} {L : Addr} {m : Str → Option Value} {s : Shared} {mean : ExcName → Option Value} {mg mb : Str → Option Value} {dp un : Nat} {fr : Option (List Env)} {gd : Option (List Code)} {Q : Flow → Shared → Prop}
  {oc : Value} {od : Option Addr} {name qual : Str} {params : Arguments} {body : List Stmt} {scope : Scope} {dV kV doc pm cdv ct cw : Value} {fa : Addr} {an : Option Addr} {osl : Array (Option Value)}
/-- the law's body, from its start to the return -/
theorem law_body {o5 o4 o3 o2 o1 : Obj} {v5 v4 v3 v2 v1 : Option Value} {sA : Addr} {vs : List Value} {cs0 : List Int} (hb : (hd.heap_1 w.params).lookup 552 = some ⟨oc, od, .func (fnOf name qual params body scope dV kV doc pm an cdv ct), osl⟩) (hR : Room 20 dp un)
    (F : Fr g L s.heap m) (N : News g L s.heap [(L + 1 + 1 + 1 + 1 + 1, o5), (L + 1 + 1 + 1 + 1, o4), (L + 1 + 1 + 1, o3), (L + 1 + 1, o2), (L + 1, o1)]) (X : (hd.heap_1 w.params).In g) (T0 : Top hd.view_1 (looseW hd.view_1 []) mean mg mb g)
    (d5 : o5.data = .cell v5) (d4 : o4.data = .cell v4) (d3 : o3.data = .cell v3) (d2 : o2.data = .cell v2) (d1 : o1.data = .cell v1) (hS : g.IsList sA vs.toArray) (hI : IntsAre vs cs0) (hl : vs.length ≤ 63) (hm : m "script" = some (.ref sA))
    (k : ∀ h' tk m' led, Fr g L h' m' → News g L h' led → Q (.ret (.bool true)) { s with heap := h', toks := tk }) :
    wpAny (model PW w) (Ar dp un fr gd) (execs body (envOfC qual scope L fa cw)) Q NoE s := by
  refine seg0 (v2 := none) (v3 := none) (v4 := none) (v5 := none) hb hR F N X T0 d1 hS hI hl hm ?_
  intro P C p1 po tl0 h0 tk0 F0 N0 O0 e1 hP0 hC0 hCP
  clear F N
  refine seg1 hb hR F0 N0 X T0 O0 e1 hP0 hC0 hCP (by omega) ?_
  intro D1 D2 vs1 vs2 n1 n2 fs ss po1 h1 tk1 m1 F1 N1 O1 hP1 hf hs f1 f2
  clear F0 N0
  refine seg2 hb hR F1 N1 X T0 O1 e1 d2 hP1 (hC0.mono fun p hp => List.mem_cons_of_mem _ (List.mem_cons_of_mem _ hp)) hCP (by omega) ?_
  intro D3 vs3 n3 cs b p2 po2 h2 tk2 m2 F2 N2 O2 hP2 hcI hcp hcb hcl e2 f3 g2
  clear F1 N1
  have hC2 : IsCells ((D3, listOf vs3.toArray n3) :: (D2, listOf vs2.toArray n2) :: (D1, listOf vs1.toArray n1) :: tl0) C := hC0.mono fun p hp => List.mem_cons_of_mem _ (List.mem_cons_of_mem _ (List.mem_cons_of_mem _ hp))
  refine seg3 hb hR F2 N2 X T0 O2 e1 d3 hP2 hC2 hCP (by omega) ?_
  intro cn on tc tn p3 po3 h3 tk3 m3 F3 N3 hP3 cn1 cn4 on1 on4 e3 f4 g3
  clear F2 N2
  refine seg4 hb hR F3 N3 X T0 O2 e1 e2 e3 f4 cn1 cn4 on1 on4 hP3 hC2 hCP (by omega) ?_
  intro D4 vs4 n4 rows tl4 po4 h4 tk4 m4 F4 N4 O4 s4 hP4 hrA hrl hrk f5 g4
  clear F3 N3
  have u4 : ∀ p ∈ (D3, listOf vs3.toArray n3) :: (D2, listOf vs2.toArray n2) :: (D1, listOf vs1.toArray n1) :: tl0, p ∈ (D4, listOf vs4.toArray n4) :: tl4 := fun p hp => List.mem_cons_of_mem _ (s4 p hp)
  have hS4 : Stuff ((D4, listOf vs4.toArray n4) :: tl4) D3 D1 D2 D4 cs fs ss rows cn on :=
    ⟨⟨vs3, n3, u4 _ (List.mem_cons_self ..), hcI⟩, hcp, hcl, ⟨vs1, n1, u4 _ (List.mem_cons_of_mem _ (List.mem_cons_of_mem _ (List.mem_cons_self ..))), hf⟩, ⟨vs2, n2, u4 _ (List.mem_cons_of_mem _ (List.mem_cons_self ..)), hs⟩, ⟨vs4, n4, List.mem_cons_self .., hrA.mono fun _ _ q => q.mono fun p hp => List.mem_cons_of_mem _ hp⟩, hrl, fun r hr => (hrk r hr).1, cn1, cn4, on1, on4⟩
  have a1 : m4 "covered" = some (.ref D3) := (g4 _ (by decide)).trans ((g3 _ (by decide)).trans f3)
  have a2 : m4 "firsts" = some (.ref D1) := (g4 _ (by decide)).trans ((g3 _ (by decide)).trans ((g2 _ (by decide)).trans f1))
  have a3 : m4 "seconds" = some (.ref D2) := (g4 _ (by decide)).trans ((g3 _ (by decide)).trans ((g2 _ (by decide)).trans f2))
  have a4 : m4 "count" = some (.int cn tc) := (g4 _ (by decide)).trans f4
  have hC4 := hC2.mono u4
  generalize htl : (D4, listOf vs4.toArray n4) :: tl4 = tlA at N4 O4 hS4 hC4
  clear htl u4 s4 hC2 hrA
  refine seg5 hb hR F4 N4 X T0 O4 e2 e3 a4 hS4 a1 a2 a3 f5 ?_
  intro pa tl5 h5 tk5 m5 F5 N5 O5 s5 hpa f6 g5
  clear F4 N4
  refine seg6 hb hR F5 N5 X T0 O5 e1 hP4 (hC4.mono s5) hCP (by omega) e2 e3 ((g5 _ (by decide)).trans a4) (hS4.mono s5) ((g5 _ (by decide)).trans a1) ((g5 _ (by decide)).trans a2) ((g5 _ (by decide)).trans a3) ((g5 _ (by decide)).trans f5) ?_
  intro pb tl6 os0 os1 po6 kq h6 tk6 m6 F6 N6 O6 s6 hP6 hkq q0 q1 hpb f7 g6
  clear F5 N5
  refine seg7 hb hR F6 N6 X T0 O6 d4 ?_
  intro dp1 dp2 x1 x2 p4 h7 tk7 m7 F7 N7 t1 t2 lo1 lo2 hd12 ap1 ap2 e4 f8 g7
  clear F6 N6
  have hL7 : Loc8 m7 D3 D1 D2 D4 pa pb dp1 cn tc :=
    ⟨(g7 _ (by decide)).trans ((g6 _ (by decide)).trans ((g5 _ (by decide)).trans a1)), (g7 _ (by decide)).trans ((g6 _ (by decide)).trans ((g5 _ (by decide)).trans a2)), (g7 _ (by decide)).trans ((g6 _ (by decide)).trans ((g5 _ (by decide)).trans a3)), (g7 _ (by decide)).trans ((g6 _ (by decide)).trans ((g5 _ (by decide)).trans f5)), (g7 _ (by decide)).trans ((g6 _ (by decide)).trans f6), (g7 _ (by decide)).trans f7, f8, (g7 _ (by decide)).trans ((g6 _ (by decide)).trans ((g5 _ (by decide)).trans a4))⟩
  have hS6 := (hS4.mono s5).mono s6
  have hpa6 := hpa.mono s6
  have r0 := order_range (n := cn.toNat) (by omega)
  have r1 := order_range (n := on.toNat) (by omega)
  refine seg8 hb hR F7 N7 X T0 t1 t2 lo2 hd12 ap1 ap2 e4 e3 hS6 r0 r1 q0 q1 hpa6 hpb hL7 ?_
  intro h8 tk8 m8 st8 y1 y2 ys1 ys2 kk F8 N8 ap8 hJ hL8
  clear F7 N7
  have O8 := own_st O6 ap8
  have N8' := news_st N8
  have u8 : ∀ p ∈ tl6, p ∈ st8 ++ tl6 := fun p hp => List.mem_append_right _ hp
  have i1 : (dp1, y1) ∈ st8 ++ tl6 := by rw [hJ.st_]; simp
  have i2 : (dp2, y2) ∈ st8 ++ tl6 := by rw [hJ.st_]; simp
  have hk1 : KeysIn w (st8 ++ tl6) ys1 := hJ.k1.mono fun p hp => by rw [hJ.st_]; simp [hp]
  have hk2 : KeysIn w (st8 ++ tl6) ys2 := hJ.k2.mono fun p hp => by rw [hJ.st_]; simp [hp]
  have hrows : ∀ r ∈ rows, RowOk b r := fun r hr => (hrk r hr).2
  obtain ⟨ps, hA, hpl, hsec⟩ := hJ.all1 hrows
  have l1 := hJ.l1
  refine seg9 (D := dueP cs fs ss rows cn on) hb hR F8 N8' X T0 O8 i1 hJ.t1 hk1 lo1 (hA.mono fun _ _ q => q.mono u8) (by omega) hsec (fun f g => ?_) e2 d5 hL8.l7 ?_
  · have := hJ.at1 f g
    split
    · rename_i e; rw [e] at this; exact this
    · rename_i e; rw [e] at this; obtain ⟨p, a, c⟩ := this; exact ⟨p, a, c.mono u8⟩
  intro x3 p5 tl9 h9 tk9 F9 N9 O9 s9 hx3 e5
  clear F8 N8 N8'
  have u9 : ∀ p ∈ tl6, p ∈ tl9 := fun p hp => s9 p (u8 p hp)
  refine seg10 hb hR F9 N9 X T0 (s9 _ i1) hJ.t1 (hk1.mono s9) lo1 (s9 _ i2) hJ.t2 (hk2.mono s9) (by omega) (fun y hy => ?_) (if_neg (by omega)) hx3 e5 e4 hL8.l7 ?_
  · obtain ⟨f, g, p, av, z1, z2, z3, z4⟩ := hJ.keys y hy
    exact ⟨f, g, p, av, z1, z2, z3, z4.mono u9⟩
  intro h10 tk10 F10 N10
  clear F9 N9
  have ta : IsTab w tl9 pa (tabPC cs fs ss (rangeKs 0 cn.toNat) (rangeKs 0 on.toNat) rows b).find b := .c _ (hpa6.mono u9) (fun _ _ => rfl) (tab_sec hrows)
  have tb : IsTab w tl9 pb (tabPC cs fs ss os0 os1 rows b).find b := .c _ (hpb.mono u9) (fun _ _ => rfl) (tab_sec hrows)
  refine seg11 hb hR F10 N10 X T0 ta tb (.g hx3) e2 e5 hL8.l5 hL8.l6 ?_
  intro h11 tk11 F11 N11
  clear F10 N10
  refine seg12 hb hR F11 N11 X T0 O9 e1 hP6 (((hC4.mono s5).mono s6).mono u9) hCP (by omega) ?_
  intro G gv ng gl po12 h12 tk12 m12 F12 N12 O12 hgl hgl6 f12 g12
  clear F11 N11
  have u12 : ∀ p ∈ tl9, p ∈ (G, listOf gv.toArray ng) :: tl9 := fun p hp => List.mem_cons_of_mem _ hp
  refine seg13 hb hR F12 N12 X T0 O12 (List.mem_cons_self ..) hgl.1 hgl6 (ta.mono u12) f12 ((g12 _ (by decide)).trans hL8.l5) ?_
  intro v tl13 h13 tk13 m13 F13 N13 O13 s13 hrd f13 g13
  clear F12 N12
  have f0 : ∀ c ∈ fs, 0 ≤ c := fun c hc => (hf.2.2 c hc).1
  have s0 : ∀ c ∈ ss, 0 ≤ c := fun c hc => (hs.2.2 c hc).1
  have eqA : ∀ f ∈ gl, ∀ g ∈ gl, (tabPC cs fs ss (rangeKs 0 cn.toNat) (rangeKs 0 on.toNat) rows b).find f g = (dueF cs fs ss rows cn on f g).map cellPP := fun f hf1 g hg1 =>
    tab_find r0 r1 cn1 on1 hf.2.1 f0 hs.2.1 s0 (hgl.2.2 f hf1).1 (hgl.2.2 f hf1).2 (hgl.2.2 g hg1).1 (hgl.2.2 g hg1).2
  have eqB : ∀ f ∈ gl, ∀ g ∈ gl, (tabPC cs fs ss os0 os1 rows b).find f g = (dueF cs fs ss rows cn on f g).map cellPP := fun f hf1 g hg1 =>
    tab_find q0 q1 cn1 on1 hf.2.1 f0 hs.2.1 s0 (hgl.2.2 f hf1).1 (hgl.2.2 f hf1).2 (hgl.2.2 g hg1).1 (hgl.2.2 g hg1).2
  have eqC : ∀ f ∈ gl, ∀ g ∈ gl, dueP cs fs ss rows cn on f g = (dueF cs fs ss rows cn on f g).map cellPP := fun f hf1 g hg1 =>
    if_pos ⟨(hgl.2.2 f hf1).1, (hgl.2.2 f hf1).2, (hgl.2.2 g hg1).1, (hgl.2.2 g hg1).2⟩
  have u13 : ∀ p ∈ tl9, p ∈ tl13 := fun p hp => s13 p (u12 p hp)
  refine seg14 hb hR F13 N13 X T0 O13 (s13 _ (List.mem_cons_self ..)) hgl.1 hgl6 (tb.mono u13) (IsTab.mono (.g hx3) u13) (congrArg mData (moved_congr fun f hf1 g hg1 => (eqB f hf1 g hg1).trans (eqA f hf1 g hg1).symm)) (congrArg mData (moved_congr fun f hf1 g hg1 => (eqC f hf1 g hg1).trans (eqA f hf1 g hg1).symm)) (shaped_moved _) hrd ((g13 _ (by decide)).trans f12) ((g13 _ (by decide)).trans ((g12 _ (by decide)).trans hL8.l6)) f13 e5 ?_
  intro h14 tk14 m14 led14 F14 N14
  exact k h14 tk14 m14 led14 F14 N14
end

abbrev addrs : List Nat := [2, 3, 15, 17, 18, 20, 21, 29, 31, 32, 34, 35, 36, 38, 39, 41, 42, 43, 45, 46, 48, 49, 50, 51, 52, 53, 54, 64, 65, 67, 68, 70, 71, 72, 75, 76, 77, 79, 80, 82, 83, 84, 87, 88, 89, 91, 92, 94, 95, 96, 98, 99, 101, 102, 103, 104, 105, 106, 107, 110, 113, 114, 122, 124, 125, 127, 128, 129, 132, 133, 134, 135, 136, 137, 138, 148, 149, 151, 152, 154, 155, 156, 157, 158, 159, 160, 163, 165, 166, 168, 169, 170, 172, 173, 175, 176, 177, 179, 180, 182, 183, 184, 186, 187, 189, 190, 191, 192, 194, 195, 197, 198, 199, 201, 202, 204, 205, 213, 215, 216, 218, 219, 220, 222, 223, 225, 226, 227, 229, 230, 232, 233, 234, 235, 236, 237, 238, 241, 243, 244, 246, 247, 248, 250, 251, 253, 254, 255, 258, 259, 267, 268, 270, 271, 273, 274, 275, 277, 278, 280, 281, 282, 285, 286, 287, 288, 289, 290, 291, 301, 302, 305, 306, 307, 309, 310, 312, 313, 314, 317, 318, 319, 320, 321, 322, 323, 326, 328, 329, 331, 332, 333, 335, 336, 338, 339, 347, 349, 350, 352, 353, 354, 356, 357, 359, 360, 361, 363, 364, 366, 367, 368, 370, 371, 373, 374, 375, 378, 379, 380, 381, 382, 383, 384, 394, 396, 397, 399, 400, 401, 403, 404, 406, 407, 408, 410, 411, 413, 414, 415, 417, 418, 420, 421, 422, 423, 424, 425, 426, 429, 431, 432, 434, 435, 443, 444, 446, 447, 449, 450, 451, 453, 454, 456, 457, 458, 460, 461, 463, 464, 465, 467, 468, 470, 471, 472, 475, 476, 477, 478, 479, 480, 481, 484, 486, 487, 489, 490, 491, 492, 493, 494, 495, 496, 498, 499, 501, 502, 503, 505, 506, 508, 509, 510, 512, 513, 515, 516, 517, 519, 520, 522, 523, 524, 526, 527, 529, 530, 531, 534, 535, 536, 538, 539, 541, 542, 543, 546, 547, 548, 551, 552]
theorem addrs_ok (P : Params) : addrs = (hd.heap_1 P).map (·.1) := by kernel_rfl
/-- what the head asks of the walk -/
abbrev Ask {d : DefRec} {kwd : List (Str × PySem.Expr)} (_ : defOf hd.view_1 PySem.Challenge.rw_pb0194_01.row.name = some (d, kwd)) : Prop :=
  WalkO hd.view_1 [] (XL hd.view_1 []) (kHook hd.heap_1 addrs addrs_ok).says PySem.Challenge.rw_pb0194_01.row.toRowW d kwd fun f vs => PySem.call f vs
local macro_rules | `(tactic| k_qdec) => `(tactic| decide +kernel)
theorem walk : Ask (by rfl) := by
  k_go0
  rename Fr _ _ _ _ => F0
  rename News _ _ _ _ => N0
  rename Top _ _ _ _ _ _ => T0
  rename Frag.In _ _ => X0
  rename Heap.IsList _ _ _ => hL0
  rename IntsAre _ _ => hI0
  have hl0 := hI0.length
  refine wpAny_mono (law_body (by k_is) ?zR F0 N0 X0 T0 (by assumption) (by assumption) (by assumption) (by assumption) (by assumption) hL0 hI0 ?zl ?zm ?zk) (fun _ _ x => x) (fun _ _ e => e.elim)
  case zR => exact ⟨by decide +kernel, by decide +kernel⟩
  case zl => omega
  case zm => rfl
  case zk =>
    intro h' tk m' led F9 N9
    clear F0 N0
    wrow_close

/- the head lays no twins of its own constants: their names are taken (the compiled file stays small) -/
theorem fin.tw2508255044705368994 : True := trivial
theorem fin.tw17717364068325071970 : True := trivial
theorem fin.tw357486453476387696 : True := trivial
theorem fin.tw17628183408451194143 : True := trivial
theorem fin.tw14578271805448956485 : True := trivial
theorem fin.tw14728723275428758510 : True := trivial
theorem fin.tw7740688021903297510 : True := trivial
theorem fin.tw2976117146107443816 : True := trivial
theorem fin.tw13898374239775968522 : True := trivial
theorem fin.tw3974152918291533672 : True := trivial
theorem fin.tw7334248845499685764 : True := trivial
theorem fin.tw6846200578177281708 : True := trivial
theorem fin.tw15144710454662140524 : True := trivial
theorem fin.tw10751089155417173751 : True := trivial
theorem fin.tw14245171486683049214 : True := trivial
theorem fin.tw5266742908149448401 : True := trivial
theorem fin.tw11587955951900863698 : True := trivial
theorem fin.tw612862322836996645 : True := trivial
theorem fin.tw14786503066443513839 : True := trivial
theorem fin.tw2415902012162501839 : True := trivial
theorem fin.tw15688172546075569117 : True := trivial
theorem fin.tw18387650150990424433 : True := trivial
theorem fin.tw6127190174262240918 : True := trivial
theorem fin.tw6515953530934532768 : True := trivial
theorem fin.tw9962418760945406050 : True := trivial
theorem fin.tw7976502392129159676 : True := trivial
theorem fin.tw6232080684201472732 : True := trivial
theorem fin.tw10875463905939285979 : True := trivial
theorem fin.tw3810570522144960214 : True := trivial
theorem fin.tw5227809002895711924 : True := trivial
theorem fin.tw9917203430921899224 : True := trivial
theorem fin.tw11151619158091525091 : True := trivial
theorem fin.tw7613857476909055813 : True := trivial
theorem fin.tw480829909506669009 : True := trivial
theorem fin.tw11615019562542576733 : True := trivial
theorem fin.tw15225332579556243176 : True := trivial
theorem fin.tw1128348596072947701 : True := trivial
theorem fin.tw9806666330580929782 : True := trivial
theorem fin.tw8018989035897545986 : True := trivial
theorem fin.tw5486226609284752418 : True := trivial
theorem fin.tw17311274769643918242 : True := trivial
theorem fin.tw17416127249078093707 : True := trivial
theorem fin.tw2565351972500760935 : True := trivial
theorem fin.tw1608889593578281727 : True := trivial
theorem fin.tw11953781441336167498 : True := trivial
theorem fin.tw18295790063311454060 : True := trivial
theorem fin.tw7439575562449295702 : True := trivial
theorem fin.tw14166196953294261902 : True := trivial
theorem fin.tw1249118550022496774 : True := trivial
theorem fin.tw2051409578822353534 : True := trivial
theorem fin.tw540529299885172531 : True := trivial
theorem fin.tw9221430085559818832 : True := trivial
theorem fin.tw12608485411614792855 : True := trivial
theorem fin.tw11039862389202566683 : True := trivial
theorem fin.tw11040825799340251285 : True := trivial
theorem fin.tw997375206573745069 : True := trivial
theorem fin.tw5250828734511838712 : True := trivial
theorem fin.tw5102460946473063141 : True := trivial
theorem fin.tw6766580051018981234 : True := trivial
theorem fin.tw4868334931027891882 : True := trivial
theorem fin.tw17861066769153400444 : True := trivial
theorem fin.tw13467322939085005891 : True := trivial
theorem fin.tw8590288500278120515 : True := trivial
theorem fin.tw7249652514872940865 : True := trivial
theorem fin.tw4326780796455107134 : True := trivial
theorem fin.tw6766378078585498003 : True := trivial
theorem fin.tw13162651487661262736 : True := trivial
theorem fin.tw10936777179133785780 : True := trivial
theorem fin.tw7830602891274557492 : True := trivial
theorem fin.tw3432132637015033673 : True := trivial
theorem fin.tw2512408688544751470 : True := trivial
theorem fin.tw16252508478716706905 : True := trivial
theorem fin.tw2067723777617599883 : True := trivial
theorem fin.tw5196160543931855155 : True := trivial
theorem fin.tw2617349483901765261 : True := trivial
theorem fin.tw7779959011674639804 : True := trivial
theorem fin.tw4769821431679368130 : True := trivial
theorem fin.tw15513600669972384820 : True := trivial
theorem fin.tw7661832156752021035 : True := trivial
theorem fin.tw4100293265295638779 : True := trivial
theorem fin.tw8656503046869711584 : True := trivial
theorem fin.tw14836742988278344780 : True := trivial
theorem fin.tw12221555665107904926 : True := trivial
theorem fin.tw10383673109516279431 : True := trivial
theorem fin.tw16328414832103592811 : True := trivial
theorem fin.tw16285329926789087883 : True := trivial
theorem fin.tw16867096813858660809 : True := trivial
theorem fin.tw5098551885099359569 : True := trivial
theorem fin.tw783483362715066742 : True := trivial
theorem fin.tw2367325634123391141 : True := trivial
theorem fin.tw10007411396671696613 : True := trivial
theorem fin.tw12448240930570709186 : True := trivial
theorem fin.tw10907391636593693970 : True := trivial
theorem fin.tw17784850919643140607 : True := trivial
theorem fin.tw12557769604369416430 : True := trivial
theorem fin.tw9445451236469955387 : True := trivial
theorem fin.tw16906536467411238026 : True := trivial
theorem fin.tw2866121171748074186 : True := trivial
theorem fin.tw13700621096757390547 : True := trivial
theorem fin.tw4171678462856256454 : True := trivial
theorem fin.tw9001875181463519149 : True := trivial
theorem fin.tw11209750170652599755 : True := trivial
theorem fin.tw888132650186811988 : True := trivial
theorem fin.tw2896703901015224195 : True := trivial
theorem fin.tw10147658903529517814 : True := trivial
theorem fin.tw14345562132136545540 : True := trivial
theorem fin.tw16103849850496634939 : True := trivial
theorem fin.tw7786677914034681988 : True := trivial
theorem fin.tw13177410634674063896 : True := trivial
theorem fin.tw5678346346211369953 : True := trivial
theorem fin.tw4218790737952374519 : True := trivial
theorem fin.tw803859442106103436 : True := trivial
theorem fin.tw10891054232620793217 : True := trivial
theorem fin.tw12135189313929291683 : True := trivial
theorem fin.tw15337241588996526812 : True := trivial
theorem fin.tw12356021495744459628 : True := trivial
theorem fin.tw17449020081951674710 : True := trivial
theorem fin.tw8269367382603917829 : True := trivial
theorem fin.tw1982079694162106894 : True := trivial
theorem fin.tw15989303212955285315 : True := trivial
theorem fin.tw884059145510264010 : True := trivial
theorem fin.tw17362494058136835672 : True := trivial
theorem fin.tw3302319216010004292 : True := trivial
theorem fin.tw5679570950571409650 : True := trivial
theorem fin.tw13790858721211988464 : True := trivial
theorem fin.tw14574801432027512755 : True := trivial
theorem fin.tw16407147864228438881 : True := trivial
theorem fin.tw2910385600587045654 : True := trivial
theorem fin.tw2090205506522743130 : True := trivial
theorem fin.tw15741700470354863883 : True := trivial
theorem fin.tw4768634762848416435 : True := trivial
theorem fin.tw891787732878383699 : True := trivial
theorem fin.tw15566928917628492161 : True := trivial
theorem fin.tw5796354222422608987 : True := trivial
theorem fin.tw17963964198891936676 : True := trivial
theorem fin.tw3456623496861543869 : True := trivial
theorem fin.tw999798209818781672 : True := trivial
theorem fin.tw13093503161671486093 : True := trivial
theorem fin.tw12494888245299231016 : True := trivial
theorem fin.tw9218923581257491847 : True := trivial
theorem fin.tw1535588207084551279 : True := trivial
theorem fin.tw17570709534508481193 : True := trivial
theorem fin.tw3683778510129048087 : True := trivial
theorem fin.tw5071919506433949198 : True := trivial
theorem fin.tw13021059552284102479 : True := trivial
theorem fin.tw10895054467252067526 : True := trivial
theorem fin.tw1252854909445205041 : True := trivial
theorem fin.tw6381419901266130222 : True := trivial
theorem fin.tw13360279666012451719 : True := trivial
theorem fin.tw3029852977388229646 : True := trivial
theorem fin.tw7470013935711676318 : True := trivial
theorem fin.tw5897612983314593646 : True := trivial
theorem fin.tw6435670951450185984 : True := trivial
theorem fin.tw1202912048536075021 : True := trivial
theorem fin.tw16530489862217454893 : True := trivial
theorem fin.tw15533503492667675913 : True := trivial
theorem fin.tw13539059583095941164 : True := trivial
theorem fin.tw17132207802985990308 : True := trivial
theorem fin.tw9509447333196811905 : True := trivial
theorem fin.tw5734618986648460908 : True := trivial
theorem fin.tw3794220679723124481 : True := trivial
theorem fin.tw4329306826757983850 : True := trivial
theorem fin.tw17974384156558142227 : True := trivial
theorem fin.tw3767311804947220896 : True := trivial
theorem fin.tw6707113841082798463 : True := trivial
theorem fin.tw1887099378405440850 : True := trivial
theorem fin.tw4144819383078699286 : True := trivial
theorem fin.tw11575174756993882273 : True := trivial
theorem fin.tw15564276425815640635 : True := trivial
theorem fin.tw1198995158755633050 : True := trivial
theorem fin.tw220677088936066577 : True := trivial
theorem fin.tw14679806638718605512 : True := trivial
theorem fin.tw8025084765662995669 : True := trivial
theorem fin.tw12847644182280273618 : True := trivial
theorem fin.tw10098057777631523497 : True := trivial
theorem fin.tw15942684835789789487 : True := trivial
theorem fin.tw17495881415371897999 : True := trivial
theorem fin.tw2775396313129547428 : True := trivial
theorem fin.tw17971676594858020690 : True := trivial
theorem fin.tw18230178534529381785 : True := trivial
theorem fin.tw6454446336052903152 : True := trivial
theorem fin.tw15832999045522443761 : True := trivial
theorem fin.tw15234240111613058569 : True := trivial
theorem fin.tw17108682257543074861 : True := trivial
theorem fin.tw876206183137641144 : True := trivial
theorem fin.tw9997704412844104603 : True := trivial
theorem fin.tw17637551073024348614 : True := trivial
theorem fin.tw12946824338688289833 : True := trivial
theorem fin.tw13724452099449386491 : True := trivial
theorem fin.tw17869975865946814897 : True := trivial
theorem fin.tw12212933522069011988 : True := trivial
theorem fin.tw3998398428148030388 : True := trivial
theorem fin.tw251868834278440796 : True := trivial
theorem fin.tw11414674201277728305 : True := trivial
theorem fin.tw807531904560671035 : True := trivial
theorem fin.tw4443050520305737185 : True := trivial
theorem fin.tw17260493314774615805 : True := trivial
theorem fin.tw10671828304227620169 : True := trivial
theorem fin.tw2305881189932309285 : True := trivial
theorem fin.tw10242451874928486539 : True := trivial
theorem fin.tw7522001649326652513 : True := trivial
theorem fin.tw4598667867955821814 : True := trivial
theorem fin.tw8383268338085895543 : True := trivial
theorem fin.tw4640724917100965312 : True := trivial
theorem fin.tw6567050819087999508 : True := trivial
theorem fin.tw3837020019201816242 : True := trivial
theorem fin.tw12355744275394475900 : True := trivial
theorem fin.tw13337293482115323266 : True := trivial
theorem fin.tw17933470926392208243 : True := trivial
theorem fin.tw16196181902256332553 : True := trivial
theorem fin.tw3343445320678177929 : True := trivial
theorem fin.tw3222278782482380304 : True := trivial
theorem fin.tw12996517811204074000 : True := trivial
theorem fin.tw3028926083550364057 : True := trivial
theorem fin.tw11192643925408225281 : True := trivial
theorem fin.tw2608567993692976607 : True := trivial
theorem fin.tw17662344363894024548 : True := trivial
theorem fin.tw8668149382578428375 : True := trivial
theorem fin.tw17361756636278455780 : True := trivial
theorem fin.tw5402249366112354979 : True := trivial
theorem fin.tw9524518906428321964 : True := trivial
theorem fin.tw1209720653154232198 : True := trivial
theorem fin.tw14111491100615862519 : True := trivial
theorem fin.tw11147117730913898307 : True := trivial
theorem fin.tw1635022588487117616 : True := trivial
theorem fin.tw9610726530385051774 : True := trivial
theorem fin.tw16269368082590959529 : True := trivial
theorem fin.tw11154830654865731599 : True := trivial
theorem fin.tw17149882997012438147 : True := trivial
theorem fin.tw4209717502836232480 : True := trivial
theorem fin.tw4719063310657182621 : True := trivial
theorem fin.tw10818889477481085253 : True := trivial
theorem fin.tw4395496475954998127 : True := trivial
theorem fin.tw17067295170570645592 : True := trivial
theorem fin.tw500868675978126160 : True := trivial
theorem fin.tw12829507556594621215 : True := trivial
theorem fin.tw14210890002308233579 : True := trivial
theorem fin.tw16205109500356779066 : True := trivial
theorem fin.tw8896352889252549814 : True := trivial
theorem fin.tw12105171945263650130 : True := trivial
theorem fin.tw1422313219903470601 : True := trivial
theorem fin.tw12409915417874342407 : True := trivial
theorem fin.tw13326868189938593150 : True := trivial
theorem fin.tw7930893340574950883 : True := trivial
theorem fin.tw15344004072050561172 : True := trivial
theorem fin.tw17698704350827878285 : True := trivial
theorem fin.tw7468727024169554154 : True := trivial
theorem fin.tw4950403968356008110 : True := trivial
theorem fin.tw12494633076269960713 : True := trivial
theorem fin.tw848606289541702500 : True := trivial
theorem fin.tw10829458402184033698 : True := trivial
theorem fin.tw17430205856086898164 : True := trivial
theorem fin.tw15948179056623087040 : True := trivial
theorem fin.tw14347400895652799225 : True := trivial
theorem fin.tw2671655128345628175 : True := trivial
theorem fin.tw8261031787919469916 : True := trivial
theorem fin.tw6341822008880759003 : True := trivial
theorem fin.tw5555312102172926907 : True := trivial
theorem fin.tw16115155874713506467 : True := trivial
theorem fin.tw7844069586390513008 : True := trivial
theorem fin.tw7070210977369740762 : True := trivial
theorem fin.tw1963134401048803436 : True := trivial
theorem fin.tw12718612220689870738 : True := trivial
theorem fin.tw3268265519342814607 : True := trivial
theorem fin.tw10782327089294195420 : True := trivial
theorem fin.tw1014637456484912126 : True := trivial
theorem fin.tw6485783843944922600 : True := trivial
theorem fin.tw4806268862455609328 : True := trivial
theorem fin.tw16510490156224867327 : True := trivial
theorem fin.tw16798467561266328274 : True := trivial
theorem fin.tw4788878847521262168 : True := trivial
theorem fin.tw15309079848183770524 : True := trivial
theorem fin.tw2321816554428607280 : True := trivial
theorem fin.tw12180539936304867106 : True := trivial
theorem fin.tw14139026862911339306 : True := trivial
theorem fin.tw13158425560686309300 : True := trivial
theorem fin.tw15373703851562958014 : True := trivial
theorem fin.tw7995362448368537469 : True := trivial
theorem fin.tw170242057164969149 : True := trivial
theorem fin.tw846297522682114974 : True := trivial
theorem fin.tw16889484823980962733 : True := trivial
theorem fin.tw6449190631224713292 : True := trivial
theorem fin.tw11227884535216515135 : True := trivial
theorem fin.tw9712136527352899355 : True := trivial
theorem fin.tw2462912638960843985 : True := trivial
theorem fin.tw1666694428299288667 : True := trivial
theorem fin.tw7822013112032934038 : True := trivial
theorem fin.tw8408514402456403777 : True := trivial
theorem fin.tw744865244796547220 : True := trivial
theorem fin.tw6531376189190222733 : True := trivial
theorem fin.tw1105837973531982728 : True := trivial
theorem fin.tw18195182924450695511 : True := trivial
theorem fin.tw7684487725183542926 : True := trivial
theorem fin.tw3112429581023547943 : True := trivial
theorem fin.tw8288733244629462318 : True := trivial
theorem fin.tw7890596953891613788 : True := trivial
theorem fin.tw452842511749404161 : True := trivial
theorem fin.tw11273041486466551846 : True := trivial
theorem fin.tw3004984022683251337 : True := trivial
theorem fin.tw5901363791540438844 : True := trivial
theorem fin.tw14075178694198228753 : True := trivial
theorem fin.tw17041991840579044601 : True := trivial
theorem fin.tw6718411051458867188 : True := trivial
theorem fin.tw4424551920762525699 : True := trivial
theorem fin.tw18373065035072037172 : True := trivial
theorem fin.tw4759752924163587094 : True := trivial
theorem fin.tw3125960719983571848 : True := trivial
theorem fin.tw16448676403291746579 : True := trivial
theorem fin.tw1976505206021243879 : True := trivial
theorem fin.tw16256441300576474876 : True := trivial
theorem fin.tw2103456241558337223 : True := trivial
theorem fin.tw7451905468542833597 : True := trivial
theorem fin.tw5776136370200156792 : True := trivial
theorem fin.tw1921391257341544841 : True := trivial
theorem fin.tw17896612028031085017 : True := trivial
theorem fin.tw857469055436470443 : True := trivial
theorem fin.tw15590172107835277464 : True := trivial
theorem fin.tw8416529770105884409 : True := trivial
theorem fin.tw7321584467024264148 : True := trivial
theorem fin.tw10196768644732416780 : True := trivial
theorem fin.tw9441421087911713525 : True := trivial
theorem fin.tw6385529401280152062 : True := trivial
theorem fin.tw17123178472405020103 : True := trivial
theorem fin.tw216489041496292469 : True := trivial
theorem fin.tw14091585724142105233 : True := trivial
theorem fin.tw9757074474933493440 : True := trivial
theorem fin.tw3810338749695602999 : True := trivial
theorem fin.tw1613116972386908190 : True := trivial
theorem fin.tw9722632081671974098 : True := trivial
theorem fin.tw10696652717036330658 : True := trivial
theorem fin.tw15205425988870721313 : True := trivial
theorem fin.tw12962497063298326498 : True := trivial
theorem fin.tw17130245016438642246 : True := trivial
theorem fin.tw3573219210906474937 : True := trivial
theorem fin.tw2503846163805864124 : True := trivial
theorem fin.tw9746901515087519452 : True := trivial
theorem fin.tw12292906935544458286 : True := trivial
theorem fin.tw1713156846745171867 : True := trivial
theorem fin.tw17347454772498655404 : True := trivial
theorem fin.tw13929302177132474383 : True := trivial
theorem fin.tw11079828417688620724 : True := trivial
theorem fin.tw13066358836101814915 : True := trivial
theorem fin.tw828056024939588000 : True := trivial
theorem fin.tw9113340658982188547 : True := trivial
theorem fin.tw12567809125941998234 : True := trivial
theorem fin.tw11112386831996348380 : True := trivial
theorem fin.tw12809788781938459499 : True := trivial
theorem fin.tw7028063314416541132 : True := trivial
theorem fin.tw544173102793226557 : True := trivial
theorem fin.tw16656299143469825513 : True := trivial
theorem fin.tw14254621764821748828 : True := trivial
theorem fin.tw13814004702073501669 : True := trivial
theorem fin.tw5962627729488381771 : True := trivial
theorem fin.tw1080700006314346644 : True := trivial
theorem fin.tw6144012678527597917 : True := trivial
theorem fin.tw16584127079891442865 : True := trivial
theorem fin.tw12740692763255036000 : True := trivial
theorem fin.tw2304379251839397102 : True := trivial
theorem fin.tw17821466097196317003 : True := trivial
theorem fin.tw7773504467932542270 : True := trivial
theorem fin.tw15094949803261831281 : True := trivial
theorem fin.tw10852849658779182186 : True := trivial
theorem fin.tw5011121235533021005 : True := trivial
theorem fin.tw8352470293576582857 : True := trivial
theorem fin.tw11061592194353771069 : True := trivial
theorem fin.tw11454252539852477091 : True := trivial
theorem fin.tw8272817396058243321 : True := trivial
theorem fin.tw3459265974087741279 : True := trivial
theorem fin.tw6956187926921108005 : True := trivial
theorem fin.tw16503470079419688546 : True := trivial
theorem fin.tw7380833856163905736 : True := trivial
theorem fin.tw8289400949097046189 : True := trivial
theorem fin.tw5647864574477489665 : True := trivial
theorem fin.tw18330652542560668889 : True := trivial
theorem fin.tw17425937995043322649 : True := trivial
theorem fin.tw3955986520655104412 : True := trivial
theorem fin.tw17801579834951734752 : True := trivial
theorem fin.tw2222347005445691769 : True := trivial
theorem fin.tw17656766251404061198 : True := trivial
theorem fin.tw2030070087189672399 : True := trivial
theorem fin.tw8919302590299486024 : True := trivial
theorem fin.tw10393886385942881009 : True := trivial
theorem fin.tw14470914187005692979 : True := trivial
theorem fin.tw1088692219920020602 : True := trivial
theorem fin.tw380778119907437045 : True := trivial
theorem fin.tw12612204703400128841 : True := trivial
theorem fin.tw16934629359412608497 : True := trivial
theorem fin.tw8088732932480780420 : True := trivial
theorem fin.tw6650461044873433052 : True := trivial
theorem fin.tw8399098705505230059 : True := trivial
theorem fin.tw7055459427971326715 : True := trivial
theorem fin.tw11298980531735778240 : True := trivial
theorem fin.tw7675655780812522254 : True := trivial
theorem fin.tw11897717083992391400 : True := trivial
theorem fin.tw3857263333814641470 : True := trivial
theorem fin.tw3762306804915933987 : True := trivial
theorem fin.tw14333544728242365436 : True := trivial
theorem fin.tw17570509445847580414 : True := trivial
theorem fin.tw9839346839192117915 : True := trivial
theorem fin.tw14793013804824869981 : True := trivial
theorem fin.tw18105942590061964161 : True := trivial
theorem fin.tw14637358334870819178 : True := trivial
theorem fin.tw15523922138108190246 : True := trivial
theorem fin.tw12118000046449163591 : True := trivial
theorem fin.tw4684940682943077961 : True := trivial
theorem fin.tw9746214513668125432 : True := trivial
theorem fin.tw16237762584071213788 : True := trivial
theorem fin.tw3404873503106905745 : True := trivial
theorem fin.tw9260378047223084069 : True := trivial
theorem fin.tw3105451386036433885 : True := trivial
theorem fin.tw18255404467826089762 : True := trivial
theorem fin.tw6081921254191324426 : True := trivial
theorem fin.tw7177338460636591580 : True := trivial
theorem fin.tw14541005305830221311 : True := trivial
theorem fin.tw12876064707754696378 : True := trivial
theorem fin.tw428092273266315144 : True := trivial
theorem fin.tw6323506392446703087 : True := trivial
theorem fin.tw15621619335703214680 : True := trivial
theorem fin.tw6566618420281934 : True := trivial
theorem fin.tw13815853411582834384 : True := trivial
theorem fin.tw6068950659093879613 : True := trivial
theorem fin.tw8472697214298850164 : True := trivial
theorem fin.tw14497727239971306367 : True := trivial
theorem fin.tw17701328389417463424 : True := trivial
theorem fin.tw7845872953664198349 : True := trivial
theorem fin.tw5320702786494000081 : True := trivial
theorem fin.tw3812028171767442716 : True := trivial
theorem fin.tw6207176494656529804 : True := trivial
theorem fin.tw9363291351745731410 : True := trivial
theorem fin.tw11336253725339858928 : True := trivial
theorem fin.tw4013537778516871869 : True := trivial
theorem fin.tw15149952090015108872 : True := trivial
theorem fin.tw12464766053444552404 : True := trivial
theorem fin.tw18164189302063226315 : True := trivial
theorem fin.tw14568449535678555946 : True := trivial
theorem fin.tw3506512066687448480 : True := trivial
theorem fin.tw9825859731914700964 : True := trivial
theorem fin.tw13383306551100868464 : True := trivial
theorem fin.tw13516622038369049944 : True := trivial
theorem fin.tw16488607150827929282 : True := trivial
theorem fin.tw7929640520542984453 : True := trivial
theorem fin.tw5634151482396758240 : True := trivial
theorem fin.tw8947099994592609211 : True := trivial
theorem fin.tw3211687289105081006 : True := trivial
theorem fin.tw10874316729293906858 : True := trivial
theorem fin.tw2316539691658765527 : True := trivial
theorem fin.tw6498334528663615478 : True := trivial
theorem fin.tw10708223146118651492 : True := trivial
theorem fin.tw8643116662766533202 : True := trivial
theorem fin.tw799341379326975648 : True := trivial
theorem fin.tw16540275574145912595 : True := trivial
theorem fin.tw12141802397888321627 : True := trivial
theorem fin.tw7282745182861764756 : True := trivial
theorem fin.tw18105285910621931680 : True := trivial
theorem fin.tw14109310954907245088 : True := trivial
theorem fin.tw10511823565363050587 : True := trivial
theorem fin.tw4879674094562380441 : True := trivial
theorem fin.tw4170516301191304579 : True := trivial
theorem fin.tw13295704053362595847 : True := trivial
theorem fin.tw9357874355931990178 : True := trivial
theorem fin.tw1035503724928835527 : True := trivial
theorem fin.tw8859252945841156987 : True := trivial
theorem fin.tw7278507554335971580 : True := trivial
theorem fin.tw8330952907988395303 : True := trivial
theorem fin.tw9247658263007524724 : True := trivial
theorem fin.tw17186005699333237546 : True := trivial
theorem fin.tw6474043946942992101 : True := trivial
theorem fin.tw8281523328739849912 : True := trivial
theorem fin.tw7613945582906998725 : True := trivial
theorem fin.tw4162185377826839926 : True := trivial
theorem fin.tw7000300075881102575 : True := trivial
theorem fin.tw9544026089342320630 : True := trivial
theorem fin.tw2537931557510868981 : True := trivial
theorem fin.tw15399907426655090358 : True := trivial
theorem fin.tw4312942655851389009 : True := trivial
theorem fin.tw12868640280835112553 : True := trivial
theorem fin.tw13925877587632400325 : True := trivial
theorem fin.tw12237877928780879103 : True := trivial
theorem fin.tw12932903420030652473 : True := trivial
theorem fin.tw13870153662132920491 : True := trivial
theorem fin.tw3788772014149755174 : True := trivial
theorem fin.tw14239432107786713131 : True := trivial
theorem fin.tw4040260094072895976 : True := trivial
theorem fin.tw17197158672614542318 : True := trivial
theorem fin.tw6667815254911646788 : True := trivial
theorem fin.tw14279960228734115912 : True := trivial
theorem fin.tw3906754673857718949 : True := trivial
theorem fin.tw11936995450923721628 : True := trivial
theorem fin.tw16275787546110486726 : True := trivial
theorem fin.tw12649782002744950493 : True := trivial
theorem fin.tw14838103818555229697 : True := trivial
theorem fin.tw17204297501091165112 : True := trivial
theorem fin.tw5805905742469029177 : True := trivial
theorem fin.tw14855157385224911753 : True := trivial
theorem fin.tw10599938827571368224 : True := trivial
theorem fin.tw16229209127682248589 : True := trivial
theorem fin.tw8126443298418566877 : True := trivial
theorem fin.tw1544503264643628384 : True := trivial
theorem fin.tw13460346998686769423 : True := trivial
theorem fin.tw14134379338385194387 : True := trivial
theorem fin.tw2789213428527533208 : True := trivial
theorem fin.tw12696600883282566439 : True := trivial
theorem fin.tw16496857829328116044 : True := trivial
theorem fin.tw1545086475593560577 : True := trivial
theorem fin.tw12149302876761508202 : True := trivial
theorem fin.tw6058378993454661626 : True := trivial
theorem fin.tw17719728818120068181 : True := trivial
theorem fin.tw7803649310394182010 : True := trivial
theorem fin.tw11277574374343807151 : True := trivial
theorem fin.tw6400248389586479577 : True := trivial
theorem fin.tw16958243865122950064 : True := trivial
theorem fin.tw4588413851689716618 : True := trivial
theorem fin.tw15459455144867644326 : True := trivial
theorem fin.tw15583698165555649274 : True := trivial
set_option Elab.async true in
theorem fin : PySem.Challenge.rw_pb0194_01.Holds := by
  w_on
  o_law
  o_head (kHook hd.heap_1 addrs addrs_ok)
  case hw => w_witness2
  exact walk

end Mine
theorem PySem.Challenge.cw_pb0194_01_holds : PySem.Challenge.rw_pb0194_01.Holds := by
  exact Mine.fin
