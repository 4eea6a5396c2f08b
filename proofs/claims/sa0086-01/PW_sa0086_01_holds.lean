import PyProof.Rows.All
import Wide.All
import OpenK.AllK
import Wide.FinOn
import PySem.Challenge.RW_sa0086_01

set_option rowWalk.seconds 0
set_option Elab.async false
set_option maxRecDepth 100000
set_option maxHeartbeats 8000000
set_option linter.all false

open PySem PySem.W PyProof.Rows

namespace Mine
noncomputable def body : List Stmt := PySem.Challenge.pw_sa0086_01.main.body
noncomputable def view : Program := { PySem.Challenge.pw_sa0086_01 with main := { PySem.Challenge.pw_sa0086_01.main with body := (body.drop 1).take 1 ++ (body.drop 3).take 1 ++ (body.drop 5).take 8 ++ (body.drop 14).take 14 ++ (body.drop 29).take 1 ++ body.drop 31 } }
set_option hygiene false in
local macro_rules | `(tactic| o_head $H) => `(tactic| (refine holds_open (q := Mine.view) (loose := []) (Xt := fun s => xlAt Mine.view [] s && recOk (RowW.records (OpenRow.toRowW (OpenLaw.row PySem.Challenge.rw_sa0086_01))) s) (XP := XL Mine.view []) (Yf := Hook.obs $H) (Ya := Hook.val $H) (YP := Hook.says $H) (N := 2274) ?hl (Hook.of $H) (Hook.keeps $H) (fun s e => xl_of s (Bool.and_eq_true_iff.mp e).1) XL.keeps (by rfl) (by rfl) (by rfl) (fun s e => recFacts_of (Bool.and_eq_true_iff.mp e).2) (by rfl) (by first | assumption | decide +kernel) (by decide +kernel) ⟨rfl, rfl, rfl, rfl, rfl, by decide +kernel⟩ ?hw ?hc; (case hl => exact fun w => by kernel_rfl)))
open_top hd for PySem.Challenge.rw_sa0086_01
end Mine

open PySem.Calls
local macro_rules | `(tactic| walk_at "eval Name") => `(tactic| k_extra "eval Name")
local macro_rules | `(tactic| walk_at "storeName") => `(tactic| k_extra "storeName")
local macro_rules | `(tactic| walk_at "newTuple") => `(tactic| k_extra "newTuple")
local macro_rules | `(tactic| walk_at "newList") => `(tactic| k_extra "newList")
local macro_rules | `(tactic| walk_at "unpackItems ref") => `(tactic| k_extra "unpackItems ref")
local macro_rules | `(tactic| walk_at "exec While Compare cons nil") => `(tactic| k_extra "exec While Compare cons nil")
local macro_rules | `(tactic| walk_at "eval ListComp") => `(tactic| k_extra "eval ListComp")
local macro_rules | `(tactic| walk_at "exec Assign cons ListComp") => `(tactic| k_extra "exec Assign cons ListComp")
local macro_rules | `(tactic| walk_at "exec For") => `(tactic| k_extra "exec For")
local macro_rules | `(tactic| walk_at "callWith ref") => `(tactic| k_extra "callWith ref")
local macro_rules | `(tactic| walk_at "And") => `(tactic| k_extra "And")
local macro_rules | `(tactic| walk_at "call ref") => `(tactic| k_extra "call ref")
local macro_rules | `(tactic| walk_at "subscriptTail") => `(tactic| k_extra "subscriptTail")
local macro_rules | `(tactic| walk_at "binaryOp FloorDiv int int") => `(tactic| k_extra "binaryOp FloorDiv int int")
local macro_rules | `(tactic| walk_at "exec Raise some none") => `(tactic| k_extra "exec Raise some none")
local macro_rules | `(tactic| walk_at "binaryOp Mult int int") => `(tactic| k_extra "binaryOp Mult int int")
local macro_rules | `(tactic| walk_at "call builtin:len") => `(tactic| k_extra "call builtin:len")
local macro_rules | `(tactic| walk_at "ite") => `(tactic| k_extra "ite")
local macro_rules | `(tactic| walk_at "call type:range") => `(tactic| k_extra "call type:range")
local macro_rules | `(tactic| walk_at "pyIter ref") => `(tactic| k_extra "pyIter ref")
local macro_rules | `(tactic| walk_at "call type:enumerate") => `(tactic| k_extra "call type:enumerate")
local macro_rules | `(tactic| walk_at "pyIter") => `(tactic| k_extra "pyIter")
local macro_rules | `(tactic| walk_at "compareOp Eq") => `(tactic| k_extra "compareOp Eq")
local macro_rules | `(tactic| walk_at "getMethod ref") => `(tactic| k_extra "getMethod ref")
local macro_rules | `(tactic| walk_at "call builtin:list.append") => `(tactic| k_extra "call builtin:list.append")
local macro_rules | `(tactic| walk_at "call builtin:list.reverse") => `(tactic| k_extra "call builtin:list.reverse")
local macro_rules | `(tactic| walk_at "setItem") => `(tactic| k_extra "setItem")
local macro_rules | `(tactic| walk_at "call type:list") => `(tactic| k_extra "call type:list")
local macro_rules | `(tactic| walk_at "assign Tuple") => `(tactic| k_extra "assign Tuple")
local macro_rules | `(tactic| walk_at "assign Subscript") => `(tactic| k_extra "assign Subscript")
local macro_rules | `(tactic| walk_at "compareOp NotEq") => `(tactic| k_extra "compareOp NotEq")
local macro_rules | `(tactic| walk_at "binaryOp Add") => `(tactic| k_extra "binaryOp Add")
local macro_rules | `(tactic| walk_at "binaryOp Mult ref int") => `(tactic| k_extra "binaryOp Mult ref int")
local macro_rules | `(tactic| walk_at "binaryOp Pow int int") => `(tactic| k_extra "binaryOp Pow int int")
local macro_rules | `(tactic| walk_at "subscriptTail Name Slice ref ref") => `(tactic| k_extra "subscriptTail Name Slice ref ref")
local macro_rules | `(tactic| walk_at "exec For Tuple Call cons nil") => `(tactic| k_extra "exec For Tuple Call cons nil")
local macro_rules | `(tactic| walk_at "exec For Tuple Call") => `(tactic| k_extra "exec For Tuple Call")

-- Base1
namespace Mine

noncomputable abbrev Led := List (Addr × Obj)
/-- all that stands in h but at the addresses of W stands in h' -/
noncomputable def ExtB (W : List Addr) (h h' : Heap) : Prop := ∀ b o, b ∉ W → h.get? b = some o → h'.get? b = some o
noncomputable def Ext (h h' : Heap) : Prop := ∀ b o, h.get? b = some o → h'.get? b = some o
noncomputable def isSeq (o : Obj) : Bool := match o.data with
  | .seq .. => true
  | _ => false
noncomputable def Has (h : Heap) (l : Led) : Prop := ∀ p ∈ l, h.get? p.1 = some p.2 ∧ isSeq p.2 = true
noncomputable def Fresh (h : Heap) (l : Led) : Prop := ∀ p ∈ l, h.get? p.1 = none

theorem Ext.refl (h : Heap) : Ext h h := fun _ _ e => e
theorem Ext.trans {a b c : Heap} (x : Ext a b) (y : Ext b c) : Ext a c := fun _ _ e => y _ _ (x _ _ e)
theorem ExtB.refl (W : List Addr) (h : Heap) : ExtB W h h := fun _ _ _ e => e
theorem ExtB.trans {W : List Addr} {a b c : Heap} (x : ExtB W a b) (y : ExtB W b c) : ExtB W a c := fun _ _ n e => y _ _ n (x _ _ n e)
theorem Ext.toB {W : List Addr} {a b : Heap} (x : Ext a b) : ExtB W a b := fun _ _ _ e => x _ _ e
theorem ExtB.toExt {a b : Heap} (x : ExtB [] a b) : Ext a b := fun _ _ e => x _ _ (by simp) e
theorem Ext.push (h : Heap) (o : Obj) : Ext h (h.push o) := fun _ _ e => Heap.get?_push_of_some o e
theorem Has.via {h h' : Heap} {l : Led} (x : Has h l) (e : ∀ q ∈ l, ∀ o, h.get? q.1 = some o → h'.get? q.1 = some o) : Has h' l := fun p hp => ⟨e p hp _ (x p hp).1, (x p hp).2⟩
theorem Has.ext {h h' : Heap} {l : Led} (x : Has h l) (e : Ext h h') : Has h' l := x.via fun _ _ o => e _ o
theorem Has.append {h : Heap} {l l' : Led} (x : Has h l) (y : Has h l') : Has h (l ++ l') := fun p hp => (List.mem_append.mp hp).elim (x p) (y p)
theorem Has.nil {h : Heap} : Has h [] := fun _ hp => nomatch hp
theorem Fresh.nil {h : Heap} : Fresh h [] := fun _ hp => nomatch hp
theorem Fresh.append {h : Heap} {l l' : Led} (x : Fresh h l) (y : Fresh h l') : Fresh h (l ++ l') := fun p hp => (List.mem_append.mp hp).elim (x p) (y p)
theorem Fresh.back {h h' : Heap} {l : Led} (x : Fresh h' l) (e : Ext h h') : Fresh h l := fun p hp => by
  cases q : h.get? p.1 with
  | none => rfl
  | some o => rw [← x p hp]; exact (e _ _ q).symm
theorem fresh_size (h : Heap) {a : Addr} (ha : h.objs.size ≤ a) : h.get? a = none := by
  cases e : h.get? a with
  | none => rfl
  | some o' => exact absurd (Heap.lt_size e) (Nat.not_lt.mpr ha)

noncomputable abbrev upd (m : Str → Option Value) (x : Str) (v : Value) : Str → Option Value := fun y => if y = x then some v else m y

/-- a frame of names: its dict, and the cells of its own -/
structure Frm (env : Env) (oc : List (Str × Addr)) (m : Str → Option Value) (h : Heap) : Prop where
  fn : env.scope.kind = .function
  loc : ∃ ml, h.Ns env.locals ml ∧ ∀ x, env.kindOf x = some .local → ml x = m x
  cel : ∀ q ∈ oc, h.IsCell q.2 (m q.1)
  knd : ∀ q ∈ oc, env.kindOf q.1 = some .cell ∧ env.cells.lookup q.1 = some q.2 ∧ q.2 ≠ env.locals
  inj : ∀ q ∈ oc, ∀ r ∈ oc, q.2 = r.2 → q.1 = r.1
noncomputable def ownOf (env : Env) (oc : List (Str × Addr)) : List Addr := env.locals :: oc.map (·.2)
noncomputable def TgtOk (env : Env) (oc : List (Str × Addr)) (x : Str) : Prop := env.kindOf x = some .local ∨ ∃ c, (x, c) ∈ oc
theorem mem_own_loc {env : Env} {oc : List (Str × Addr)} : env.locals ∈ ownOf env oc := List.mem_cons_self
theorem mem_own_cel {env : Env} {oc : List (Str × Addr)} {q : Str × Addr} (h : q ∈ oc) : q.2 ∈ ownOf env oc := List.mem_cons_of_mem _ (List.mem_map_of_mem h)

theorem Frm.keep {env : Env} {oc : List (Str × Addr)} {m : Str → Option Value} {h h' : Heap} (F : Frm env oc m h) (k : ∀ b ∈ ownOf env oc, ∀ o, h.get? b = some o → h'.get? b = some o) : Frm env oc m h' :=
  ⟨F.fn, let ⟨ml, a, b⟩ := F.loc; ⟨ml, a.at' (k _ mem_own_loc), b⟩, fun q hq => by
    obtain ⟨o, ho, hd⟩ := F.cel q hq
    exact ⟨o, k _ (mem_own_cel hq) _ ho, hd⟩, F.knd, F.inj⟩
theorem Frm.ext {env : Env} {oc : List (Str × Addr)} {m : Str → Option Value} {h h' : Heap} (F : Frm env oc m h) (k : Ext h h') : Frm env oc m h' := F.keep fun b _ o e => k b o e
/-- the objects of a frame are no sequences -/
theorem Frm.live {env : Env} {oc : List (Str × Addr)} {m : Str → Option Value} {h : Heap} (F : Frm env oc m h) : ∀ b ∈ ownOf env oc, ∃ o, h.get? b = some o ∧ isSeq o = false := fun b hb => by
  unfold ownOf at hb
  rcases List.mem_cons.mp hb with rfl | hb
  · obtain ⟨_, ⟨o, es, ep, ho, hd, _⟩, _⟩ := F.loc
    exact ⟨o, ho, by unfold isSeq; rw [hd]⟩
  · obtain ⟨q, hq, rfl⟩ := List.mem_map.mp hb
    obtain ⟨o, ho, hd⟩ := F.cel q hq
    exact ⟨o, ho, by unfold isSeq; rw [hd]⟩
theorem Frm.notHas {env : Env} {oc : List (Str × Addr)} {m : Str → Option Value} {h : Heap} {l : Led} (F : Frm env oc m h) (H : Has h l) : ∀ q ∈ l, q.1 ∉ ownOf env oc := fun q hq hb => by
  obtain ⟨o, ho, hn⟩ := F.live _ hb
  have := H q hq
  rw [ho] at this
  cases this.1
  rw [hn] at this; cases this.2

section
variable {M : Model} {A : Around} {E : Value → Shared → Prop} {s : Shared} {env : Env} {oc : List (Str × Addr)} {m : Str → Option Value} {x : Str} {v : Value}
theorem Frm.store {Q : Unit → Shared → Prop} (F : Frm env oc m s.heap) (hx : TgtOk env oc x)
    (h : ∀ h' tk, Frm env oc (upd m x v) h' → (∀ b o, b ∉ ownOf env oc → s.heap.get? b = some o → h'.get? b = some o) → Q () { s with heap := h', toks := tk }) : wpAny M A (storeName env x v) Q E s := by
  obtain ⟨ml, hn, hl⟩ := F.loc
  rcases hx with hx | ⟨c, hc⟩
  · refine wpAny_storeName_local hx hn (fun h' hn' hs' => h h' _ ⟨F.fn, ⟨_, hn', fun z hz => ?_⟩, fun q hq => ?_, F.knd, F.inj⟩ fun b o hb e => hs'.extBut b o (fun q => hb (q ▸ mem_own_loc)) e) (by rw [F.fn]; rfl)
    · by_cases q : z = x
      · simp [q]
      · simp [q, hl z hz]
    · have hk := F.knd q hq
      have hyx : q.1 ≠ x := fun e => by rw [e, hx] at hk; cases hk.1
      simp only [upd, if_neg hyx]
      exact (F.cel q hq).sameBut hs' hk.2.2
  · have hk := F.knd _ hc
    refine wpAny_storeName_cell F.fn hk.1 hk.2.1 (F.cel _ hc) fun h' hc' hs' => h h' _ ⟨F.fn, ⟨ml, hn.sameBut hs' (Ne.symm hk.2.2), fun z hz => ?_⟩, fun q hq => ?_, F.knd, F.inj⟩ fun b o hb e => hs'.extBut b o (fun q => hb (q ▸ mem_own_cel hc)) e
    · have hzx : z ≠ x := fun q => by rw [q, hk.1] at hz; cases hz
      simp [hzx, hl z hz]
    · by_cases e : q.1 = x
      · have hqc : q.2 = c := by
          have h2 := (F.knd q hq).2.1
          rw [e] at h2
          exact Option.some.inj (h2.symm.trans hk.2.1)
        rw [hqc, show upd m x v q.1 = some v from if_pos e]; exact hc'
      · rw [show upd m x v q.1 = m q.1 from if_neg e]
        exact (F.cel q hq).sameBut hs' fun e' => e (F.inj q hq _ hc e')
theorem Frm.name {pos : Pos} {Q : Value → Shared → Prop} (F : Frm env oc m s.heap) (hx : TgtOk env oc x) (hm : m x = some v) (h : Q v s) (hd : (x == ("__debug__" : Str)) = false := by decide) :
    wpAny M A (eval (.Name x pos) env) Q E s := by
  obtain ⟨ml, hn, hl⟩ := F.loc
  rcases hx with hx | ⟨c, hc⟩
  · exact wpAny_Name (wpAny_loadName_local F.fn hx hn ((hl x hx).trans hm) h) hd
  · have hk := F.knd _ hc
    exact wpAny_Name (wpAny_loadName_cell F.fn hk.1 hk.2.1 (hm ▸ F.cel _ hc) h) hd
end

/-- an iterator that feeds the target of a loop or of a comprehension -/
structure Feed (prog : Program) (w : World) (A : Around) (env : Env) (oc : List (Str × Addr)) (target : Expr) (I : Addr) (fp wr : List Addr) (n : Nat) (St : Nat → Heap → Prop)
    (Bd : Nat → (Str → Option Value) → (Str → Option Value) → Prop) : Prop where
  sub : ∀ b ∈ wr, b ∈ fp
  live : ∀ i h, St i h → ∀ b ∈ wr, ∃ o, h.get? b = some o
  frame : ∀ i h h', St i h → (∀ b ∈ fp, ∀ o, h.get? b = some o → h'.get? b = some o) → St i h'
  item : ∀ i (s : Shared) m (Q : Unit → Shared → Prop) (E : Value → Shared → Prop), i < n → St i s.heap → Frm env oc m s.heap →
    (∀ h' tk m', Bd i m m' → St (i + 1) h' → Frm env oc m' h' → (∀ b o, b ∉ wr → b ∉ ownOf env oc → s.heap.get? b = some o → h'.get? b = some o) → Q () { s with heap := h', toks := tk }) →
    wpAny (model prog w) A (pyNext (.ref I)) (fun r s₁ => match r with
      | none => False
      | some v => wpAny (model prog w) A (letOwnedTupleGo target (.ref I) v) (fun _ s₁' => wpAny (model prog w) A (assign target env v) Q E s₁') E s₁) E s
  done : ∀ (s : Shared) (Q : Option Value → Shared → Prop) (E : Value → Shared → Prop), St n s.heap →
    (∀ h' tk, (∀ b o, b ∉ wr → s.heap.get? b = some o → h'.get? b = some o) → Q none { s with heap := h', toks := tk }) → wpAny (model prog w) A (pyNext (.ref I)) Q E s
  self : ∀ i (s : Shared) (Q : Value → Shared → Prop) (E : Value → Shared → Prop), St i s.heap → Q (.ref I) s → wpAny (model prog w) A (pyIter (.ref I)) Q E s

theorem Feed.name {prog : Program} {w : World} {A : Around} {env : Env} {oc : List (Str × Addr)} {x : Str} {px : Pos} {I : Addr} {fp wr : List Addr} {n : Nat} {P : Nat → Value → Prop} {St : Nat → Heap → Prop}
    (W : Walks prog w A I fp wr n P St) (hx : TgtOk env oc x) (hC : ∀ b ∈ ownOf env oc, b ∉ fp) (hlive : ∀ i h, St i h → ∀ b ∈ wr, ∃ o, h.get? b = some o ∧ isSeq o = false) :
    Feed prog w A env oc (.Name x px) I fp wr n St (fun i m m' => ∃ v, P i v ∧ m' = upd m x v) where
  sub := W.sub
  live := fun i h st b hb => let ⟨o, ho, _⟩ := hlive i h st b hb; ⟨o, ho⟩
  frame := W.frame
  item := fun i s m Q E hi st hn hQ => by
    refine W.item i s _ E hi st fun v h₁ tk₁ hPv hst₁ hk₁ => ?_
    have ht : letOwnedTupleGo (.Name x px) (.ref I) v = pure () := by rfl
    dsimp only
    rw [ht]
    have hF₁ : Frm env oc m h₁ := hn.keep fun b hb o e => hk₁ b o (fun h => hC b hb (W.sub _ h)) e
    refine wpAny_pure (wpAny_assign_Name (Frm.store (s := { s with heap := h₁, toks := tk₁ }) hF₁ hx fun h₂ tk₂ hF₂ hs₂ => ?_))
    exact hQ h₂ _ _ ⟨v, hPv, rfl⟩ (W.frame _ _ _ hst₁ fun b hb o e => hs₂ b o (fun h => hC b h hb) e) hF₂ fun b o hbw hbC e => hs₂ b o hbC (hk₁ b o hbw e)
  done := W.done
  self := W.self

theorem Feed.enum {prog : Program} {w : World} {A : Around} {env : Env} {oc : List (Str × Addr)} {xi xv : Str} {pi pv pt : Pos} {x1} {e it l : Addr} {items : Array Value}
    (hh : A.handled = none) (hxi : TgtOk env oc xi) (hxv : TgtOk env oc xv)
    (hei : e ≠ it) (hle : l ≠ e) (hli : l ≠ it) (hC : ∀ b ∈ ownOf env oc, b ∉ [e, it, l]) :
    Feed prog w A env oc (.Tuple [.Name xi pi, .Name xv pv] x1 pt) e [e, it, l] [e, it] items.size
      (fun i h => (∃ old, IsEnum h e it ((i : Nat) : Int) old) ∧ h.IsListIter it l i ∧ h.IsList l items)
      (fun i m m' => ∃ v t, items[i]? = some v ∧ m' = upd (upd m xi (.int i t)) xv v) where
  sub := fun b hb => by simp at hb ⊢; rcases hb with h | h <;> simp [h]
  live := fun i h st b hb => by
    obtain ⟨⟨old, he⟩, ⟨o, ho, _, hd⟩, _⟩ := st
    simp only [List.mem_cons, List.not_mem_nil, or_false] at hb
    rcases hb with rfl | rfl
    · exact ⟨_, he⟩
    · exact ⟨o, ho⟩
  frame := fun i h h' st hk => ⟨let ⟨old, q⟩ := st.1; ⟨old, hk e (by simp) _ q⟩, st.2.1.at fun o q => hk it (by simp) o q, st.2.2.at fun o q => hk l (by simp) o q⟩
  item := fun i s m Q E hi st hn hQ => by
    obtain ⟨⟨old, he'⟩, hit', hl'⟩ := st
    have hCe : ∀ b ∈ ownOf env oc, b ≠ e ∧ b ≠ it ∧ b ≠ l := fun b hb => by have := hC b hb; simpa using this
    have hv : items[i]? = some items[i] := by simp [hi]
    generalize items[i] = v at hv
    have heH : e < s.heap.objs.size := Heap.lt_size he'
    obtain ⟨oi, hoi, _⟩ := id hit'
    obtain ⟨ol, hol, _⟩ := id hl'
    have hiH : it < s.heap.objs.size := Heap.lt_size hoi
    have hlH : l < s.heap.objs.size := Heap.lt_size hol
    have hoH : ∀ b ∈ ownOf env oc, b < s.heap.objs.size := fun b hb => by
      obtain ⟨o, ho, _⟩ := hn.live b hb
      exact Heap.lt_size ho
    refine wpAny_pyNext_enum_item he' hit' hl' hv hei fun h₁ heo hit₁ ht₁ hz₁ hk₁ => ?_
    dsimp only
    refine wpAny_letOwnedTupleGo_enum heo fun h₂ he₂ hs₂ => ?_
    replace hs₂ : Heap.SameBut e h₁ h₂ := hs₂
    have ht₂ : h₂.IsTuple s.heap.objs.size #[.int i s.toks, v] := ⟨_, (hs₂.2 _ (Nat.ne_of_gt heH)).trans ht₁, rfl, _, rfl⟩
    have hz₂ : h₂.objs.size = s.heap.objs.size + 1 := hs₂.1.trans hz₁
    refine wpAny_assign_Tuple hh ht₂ rfl rfl fun h₃ hx₃ => ?_
    replace hx₃ : Heap.ExtBut h₂.objs.size h₂ h₃ := hx₃
    have old₃ : ∀ b o, b < s.heap.objs.size → h₂.get? b = some o → h₃.get? b = some o := fun b o hb x => hx₃ b o (by rw [hz₂]; exact Nat.ne_of_lt (Nat.lt_succ_of_lt hb)) x
    have hF₃ : Frm env oc m h₃ := hn.keep fun b hb o x => old₃ b o (hoH b hb) (hs₂.extBut b o (hCe b hb).1 (hk₁ b o (hCe b hb).1 (hCe b hb).2.1 x))
    show wpAny _ A (do holding [v] (assign (.Name xi pi) env (.int i s.toks)); do holding [] (assign (.Name xv pv) env v); pure ()) _ _ _
    refine wpAny_bind (wpAny_holding (wpAny_assign_Name (Frm.store hF₃ hxi fun h₄ tk₄ hF₄ hs₄ => ?_)))
    refine wpAny_bind (wpAny_holding (wpAny_assign_Name (Frm.store hF₄ hxv fun h₅ tk₅ hF₅ hs₅ => wpAny_pure ?_)))
    have up : ∀ b o, b ∉ ownOf env oc → b < s.heap.objs.size → h₂.get? b = some o → h₅.get? b = some o := fun b o hbL hb x => hs₅ b o hbL (hs₄ b o hbL (old₃ b o hb x))
    have ne : ∀ b, b ∈ [e, it, l] → b ∉ ownOf env oc := fun b hb hbo => hC b hbo hb
    refine hQ h₅ _ _ ⟨v, s.toks, hv, rfl⟩ ⟨⟨v, ?_⟩, ?_, ?_⟩ hF₅ fun b o hbw hbC x => ?_
    · have : ((i + 1 : Nat) : Int) = (i : Int) + 1 := by push_cast; rfl
      rw [this]; exact up e _ (ne e (by simp)) heH he₂
    · exact (hit₁.extBut hs₂.extBut (Ne.symm hei)).at fun o x => up it o (ne it (by simp)) hiH x
    · exact ((hl'.at fun o x => hk₁ l o hle hli x).extBut hs₂.extBut hle).at fun o x => up l o (ne l (by simp)) hlH x
    · simp only [List.mem_cons, List.not_mem_nil, or_false, not_or] at hbw
      exact up b o hbC (Heap.lt_size x) (hs₂.extBut b o hbw.1 (hk₁ b o hbw.1 hbw.2 x))
  done := fun s Q E st hQ => by
    obtain ⟨⟨old, he'⟩, hit', hl'⟩ := st
    exact wpAny_pyNext_enum_end hh he' hit' hl' (by simp) fun h₁ he₁ => hQ h₁ _ fun b o hbw x => he₁ b o (fun q => hbw (by simp [q])) x
  self := fun i s Q E st hQ => wpAny_pyIter_enum st.1.choose_spec hQ

theorem Feed.run {prog : Program} {w : World} {A : Around} {env : Env} {oc : List (Str × Addr)} {target : Expr} {I : Addr} {fp wr : List Addr} {n : Nat} {St : Nat → Heap → Prop}
    {Bd : Nat → (Str → Option Value) → (Str → Option Value) → Prop} (F : Feed prog w A env oc target I fp wr n St Bd) {i : Nat} {s : Shared} {m : Str → Option Value} {Rr : Option Value → Shared → Prop} {E : Value → Shared → Prop}
    (hi : i < n) (st : St i s.heap) (hn : Frm env oc m s.heap) (Q : Unit → Shared → Prop)
    (hR : ∀ v s₁, wpAny (model prog w) A (letOwnedTupleGo target (.ref I) v) (fun _ s₁' => wpAny (model prog w) A (assign target env v) Q E s₁') E s₁ → Rr (some v) s₁)
    (h : ∀ h' tk m', Bd i m m' → St (i + 1) h' → Frm env oc m' h' → (∀ b o, b ∉ wr → b ∉ ownOf env oc → s.heap.get? b = some o → h'.get? b = some o) → Q () { s with heap := h', toks := tk }) :
    wpAny (model prog w) A (pyNext (.ref I)) Rr E s :=
  wpAny_mono (F.item i s m Q E hi st hn h) (fun r s₁ h₁ => by
    cases r with
    | none => exact h₁.elim
    | some v => exact hR v s₁ h₁) fun _ _ x => x
end Mine

-- Base2
namespace Mine
open Sem (wp)
section
variable {prog : Program} {w : World} {A : Around} {R : Result → Shared → Prop} {s : Shared}
theorem compLoop_gen {elt target iter : Expr} {ifs : List Expr} {scope : Scope} {pos : Pos} {it acc : Value} {env : Env} (I : Nat → Shared → Prop)
    (turn : ∀ n s, I n s → wpAny (model prog w) A (pyNext it) (fun r s₁ => match r with
      | none => R (.ok .next) s₁
      | some v => wpAny (model prog w) A (letOwnedTupleGo target it v) (fun _ s₁' => wpAny (model prog w) A (assign target env v) (fun _ s₂ =>
          wpAny (model prog w) A (forIn ifs true fun c r => if r = true then do let ok ← isTrue c env (eval c env); pure (ForInStep.yield ok) else pure (ForInStep.yield r)) (fun ok s₃ =>
            if ok = true then wpAny (model prog w) A (eval elt env) (fun x s₄ =>
              wpAny (model prog w) A (call (.builtin "list.append") [acc, x]) (fun _ s₅ => ∃ m, m < n ∧ I m s₅) (notedBy (model prog w) A env fun e s' => R (.error e) s') s₄) (notedBy (model prog w) A env fun e s' => R (.error e) s') s₃
            else ∃ m, m < n ∧ I m s₃) (notedBy (model prog w) A env fun e s' => R (.error e) s') s₂) (notedBy (model prog w) A env fun e s' => R (.error e) s') s₁') (notedBy (model prog w) A env fun e s' => R (.error e) s') s₁) (notedBy (model prog w) A env fun e s' => R (.error e) s') s)
    (n : Nat) (h : I n s) :
    codeAny (model prog w) A (.compLoop (.ListComp elt [⟨target, iter, ifs, 0⟩] scope pos) 0 it acc env) R s := by
  refine codeAny_loop rfl I (fun n s hI => ?_) n h
  show wpAny _ A ((compTurn (.ListComp elt [⟨target, iter, ifs, 0⟩] scope pos) 0 it acc env).onRaise (fun x => do noteFrame x env; theTreesLotGoes x)) _ _ s
  refine wpAny_noted ?_
  rw [compTurn_list]
  refine wpAny_bind (wpAny_standAt (wpAny_bind (wpAny_mono (turn n s hI) (fun r s₁ h₁ => ?_) fun _ _ h' => h')))
  cases r with
  | none => exact wpAny_pure h₁
  | some v =>
    refine wpAny_bind (wpAny_mono h₁ (fun _ s₁' h₁' => ?_) fun _ _ h' => h')
    refine wpAny_bind (wpAny_mono h₁' (fun _ s₂ h₂ => wpAny_bind (wpAny_mono h₂ (fun ok s₃ h₃ => ?_) fun _ _ h' => h')) fun _ _ h' => h')
    cases ok with
    | false => exact wpAny_pure ⟨rfl, h₃⟩
    | true =>
      exact wpAny_bind (wpAny_bind (wpAny_mono h₃ (fun x s₄ h₄ => wpAny_bind (wpAny_mono h₄ (fun _ s₅ h₅ => wpAny_pure (wpAny_pure ⟨rfl, h₅⟩)) fun _ _ h' => h')) fun _ _ h' => h'))
end

theorem range_filter_succ (p : Nat → Bool) (i : Nat) : (List.range (i + 1)).filter p = (List.range i).filter p ++ (if p i then [i] else []) := by
  rw [List.range_succ, List.filter_append]
  cases h : p i <;> simp [h]
theorem Paired.imp {α β : Type} {F G : α → β → Prop} (hm : ∀ a b, F a b → G a b) : ∀ {l₁ : List α} {l₂ : List β}, Paired F l₁ l₂ → Paired G l₁ l₂
  | _, _, .nil => .nil
  | _, _, .cons h t => .cons (hm _ _ h) (Paired.imp hm t)


noncomputable def isCellN (y : Str × NameKind) : Bool := y.2 == .cell
noncomputable def ocOf (names : List (Str × NameKind)) (C : Addr) : List (Str × Addr) := match names.filter isCellN with
  | [] => []
  | y :: _ => [(y.1, C + 1)]
noncomputable abbrev cenvOf (scope : Scope) (cl : List (Str × Addr)) (env : Env) (C : Addr) : Env := compEnvC scope (cellsFrom (C + 1) scope.names cl) C env

theorem cells_none : ∀ (names : List (Str × NameKind)) (h : Heap) (n : Nat) (acc : List (Str × Addr)), names.filter isCellN = [] → pushCells h names = h ∧ cellsFrom n names acc = acc
  | [], _, _, _, _ => ⟨rfl, rfl⟩
  | (x, k) :: r, h, n, acc, e => by
    have hk : (k == NameKind.cell) = false := by
      cases q : (k == NameKind.cell) with
      | false => rfl
      | true => rw [List.filter_cons_of_pos (by unfold isCellN; exact q)] at e; cases e
    rw [List.filter_cons_of_neg (by unfold isCellN; simp [hk])] at e
    have ih := cells_none r h n acc e
    unfold pushCells cellsFrom
    rw [hk]; exact ih
theorem cells_one : ∀ (names : List (Str × NameKind)) (h : Heap) (n : Nat) (acc : List (Str × Addr)) (y : Str × NameKind), names.filter isCellN = [y] →
    pushCells h names = h.push { cls := .type "cell", data := .cell none } ∧ cellsFrom n names acc = (y.1, n) :: acc
  | [], _, _, _, _, e => nomatch e
  | (x, k) :: r, h, n, acc, y, e => by
    unfold pushCells cellsFrom
    cases q : (k == NameKind.cell) with
    | false =>
      rw [List.filter_cons_of_neg (by unfold isCellN; simp [q])] at e
      exact cells_one r h n acc y e
    | true =>
      rw [List.filter_cons_of_pos (by unfold isCellN; exact q)] at e
      have e1 : (x, k) = y := (List.cons.inj e).1
      have e2 : r.filter isCellN = [] := (List.cons.inj e).2
      have ih := cells_none r (h.push { cls := .type "cell", data := .cell none }) (n + 1) ((x, n) :: acc) e2
      simp only [if_true]
      rw [← e1]; exact ih

theorem newEnv_comp {M : Model} {A : Around} {E : Value → Shared → Prop} {s : Shared} {scope : Scope} {cl : List (Str × Addr)} {env : Env} {Q : Env → Shared → Prop}
    (hk : scope.kind = .function) (h1 : (scope.names.filter isCellN).length ≤ 1)
    (hoc : ∀ C, ∀ q ∈ ocOf scope.names C, (cenvOf scope cl env C).kindOf q.1 = some .cell ∧ (cellsFrom (C + 1) scope.names cl).lookup q.1 = some q.2 ∧ q.2 ≠ C)
    (h : ∀ h₁ tk cenv, cenv = newEnv scope s.heap.objs.size env.globals (cellsFrom (s.heap.objs.size + 1) scope.names cl) env.qual none .none (some env) builtinsNs →
      Frm (cenvOf scope cl env s.heap.objs.size) (ocOf scope.names s.heap.objs.size) (fun _ => none) h₁ → Ext s.heap h₁ →
      (∀ b ∈ ownOf (cenvOf scope cl env s.heap.objs.size) (ocOf scope.names s.heap.objs.size), s.heap.objs.size ≤ b) → Q cenv { s with heap := h₁, toks := tk }) :
    wpAny M A (newFunctionEnv scope env.globals cl [] env.qual none .none (some env)) Q E s := by
  simp only [newFunctionEnv, Option.isSome_some, if_true]
  refine wpAny_bind (wpAny_alloc ?_)
  refine wpAny_bind (wpAny_layCells _ (fun name kind cells => by cases hkc : kind == NameKind.cell <;> simp [hkc]) _ _ _ _ ?_)
  rw [show ({ s with heap := s.heap.push { cls := .type "dict", data := .dict #[] } } : Shared).heap.objs.size = s.heap.objs.size + 1 from Heap.size_push ..]
  refine wpAny_bind (wpAny_pure ?_)
  have hns : (s.heap.push { cls := .type "dict", data := .dict #[] }).Ns s.heap.objs.size fun _ => none := Heap.Ns.new s.heap (.type "dict")
  refine wpAny_pure (h _ s.toks _ rfl ?_ ?_ ?_)
  · have hlen : (ocOf scope.names s.heap.objs.size).length ≤ 1 := by unfold ocOf; split <;> simp
    refine ⟨hk, ⟨fun _ => none, hns.keeps (pushCells_keeps _ _), fun _ _ => rfl⟩, fun q hq => ?_, fun q hq => hoc _ q hq, fun q hq r hr _ => ?_⟩
    rotate_left
    · rcases hl : ocOf scope.names s.heap.objs.size with _ | ⟨z, r'⟩
      · rw [hl] at hq; cases hq
      · rw [hl] at hlen hq hr
        have : r' = [] := by
          cases r' with
          | nil => rfl
          | cons _ _ => simp at hlen
        subst this
        rw [List.mem_singleton.mp hq, List.mem_singleton.mp hr]
    unfold ocOf at hq
    cases e : scope.names.filter isCellN with
    | nil => rw [e] at hq; cases hq
    | cons y r =>
      have hr : r = [] := by
        cases r with
        | nil => rfl
        | cons z r => rw [e] at h1; simp at h1
      subst hr
      rw [e] at hq
      rw [List.mem_singleton.mp hq]
      rw [(cells_one scope.names _ 0 [] y e).1]
      refine ⟨{ cls := .type "cell", data := .cell none }, ?_, rfl⟩
      have := Heap.get?_push_size (s.heap.push { cls := .type "dict", data := .dict #[] }) (o := { cls := .type "cell", data := .cell none }) rfl
      rwa [Heap.size_push] at this
  · exact fun b o e => pushCells_keeps _ _ b o (Heap.get?_push_of_some _ e)
  · intro b hb
    unfold ownOf at hb
    rcases List.mem_cons.mp hb with rfl | hb
    · exact Nat.le_refl _
    · unfold ocOf at hb
      split at hb
      · simp at hb
      · simp at hb; subst hb; exact Nat.le_succ _

/-- what a turn's element does: it makes tl', changes W alone, keeps the word J -/
structure EltOk (prog : Program) (w : World) (A : Around) (elt : Expr) (ifs : List Expr) (n : Nat) (p : Nat → Bool) (W wr : List Addr) (J : Nat → Heap → Prop) (Bd : Nat → (Str → Option Value) → (Str → Option Value) → Prop)
    (R : Nat → Led → Value → Prop) (led : Led) (cenv : Addr → Env) (oc : Addr → List (Str × Addr)) (s₂ : Shared) : Prop where
  tests : ∀ i C m m' s₃ E', i < n → Bd i m m' → Frm (cenv C) (oc C) m' s₃.heap → ExtB (W ++ wr) s₂.heap s₃.heap → (∀ b ∈ ownOf (cenv C) (oc C), s₂.heap.get? b = none) → J i s₃.heap →
      wpAny (model prog w) A (forIn ifs true fun c r => if r = true then do let ok ← isTrue c (cenv C) (eval c (cenv C)); pure (ForInStep.yield ok) else pure (ForInStep.yield r))
        (fun ok s₄ => ok = p i ∧ Keeps s₃ s₄ ∧ (ok = false → J (i + 1) s₄.heap)) E' s₃
  elt : ∀ i C m m' s₃ tl E', i < n → p i = true → Bd i m m' → Frm (cenv C) (oc C) m' s₃.heap → ExtB (W ++ wr) s₂.heap s₃.heap → (∀ b ∈ ownOf (cenv C) (oc C), s₂.heap.get? b = none) → J i s₃.heap → Has s₃.heap tl → Fresh s₂.heap tl →
      wpAny (model prog w) A (eval elt (cenv C)) (fun y s₄ => ∃ h' tk tl', s₄ = { s₃ with heap := h', toks := tk } ∧ ExtB W s₃.heap h' ∧ J (i + 1) h' ∧ Has h' tl' ∧ Fresh s₃.heap tl' ∧ R i (tl' ++ (tl ++ led)) y) E' s₃

section
variable {prog : Program} {w : World} {A : Around} {E : Value → Shared → Prop} {env : Env}
theorem comp_block {elt target iter : Expr} {ifs : List Expr} {scope : Scope} {cl : List (Str × Addr)} {pos : Pos} {s₂ : Shared} {I : Addr} {fp wr : List Addr} {n : Nat} {St : Nat → Heap → Prop} {Bd : Nat → (Str → Option Value) → (Str → Option Value) → Prop}
    (W : List Addr) (J : Nat → Heap → Prop) (p : Nat → Bool) (Rl : Nat → Led → Value → Prop) (Rm : ∀ i l t y, Rl i l y → Rl i (t ++ l) y) (led : Led) {RR : Value → Addr → Result → Shared → Prop}
    (FD : ∀ C, (∀ b ∈ ownOf (cenvOf scope cl env C) (ocOf scope.names C), b ∉ fp) → Feed prog w A (cenvOf scope cl env C) (ocOf scope.names C) target I fp wr n St Bd) (hsz : n ≤ sizeLine)
    (hkind : scope.kind = .function) (h1 : (scope.names.filter isCellN).length ≤ 1)
    (hoc : ∀ C, ∀ q ∈ ocOf scope.names C, (cenvOf scope cl env C).kindOf q.1 = some .cell ∧ (cellsFrom (C + 1) scope.names cl).lookup q.1 = some q.2 ∧ q.2 ≠ C)
    (hst : St 0 s₂.heap) (hfp : ∀ b ∈ fp, b < s₂.heap.objs.size)
    (hWf : ∀ b ∈ W, b ∉ fp) (hJ0 : J 0 s₂.heap) (hJf : ∀ i h h', J i h → (∀ b ∈ W, ∀ o, h.get? b = some o → h'.get? b = some o) → J i h') (hJW : ∀ i h, J i h → ∀ b ∈ W, h.get? b ≠ none)
    (EO : EltOk prog w A elt ifs n p W wr J Bd Rl led (cenvOf scope cl env) (ocOf scope.names) s₂)
    (hRR : ∀ D C h' tk m' ys tl, s₂.heap.get? D = none → s₂.heap.get? C = none → D ≠ C → h'.Ns C m' → h'.PlainList D ys → J n h' → Has h' tl → Fresh s₂.heap tl → (∀ q ∈ tl, q.1 ≠ C ∧ q.1 ≠ D) →
      Paired (fun i y => Rl i (tl ++ led) y) ((List.range n).filter p) ys.toList → ExtB (W ++ wr) s₂.heap h' → RR (.ref D) C (.ok .next) { s₂ with heap := h', toks := tk }) :
    wpAny (model prog w) A (newList []) (fun acc s₃ => wpAny (model prog w) A (newFunctionEnv scope env.globals cl [] env.qual none .none (some env)) (fun cenv s₄ =>
      codeAny (model prog w) A (.compStart (.ListComp elt [⟨target, iter, ifs, 0⟩] scope pos) 0 (.ref I) acc { cenv with scope := relabel scope env }) (RR acc cenv.locals) s₄) E s₃) E s₂ := by
  refine wpAny_newObj_type (newEnv_comp hkind h1 hoc fun h₁ tk₁ cenv hcenv hF₁ hx₁ hown => ?_)
  subst hcenv
  dsimp only at hF₁ hx₁ hown ⊢
  generalize hH2 : s₂.heap.push { cls := .type "list", dict := none, data := .seq ([] : List Value).toArray } = H2 at hF₁ hx₁ hown ⊢
  have hC : H2.objs.size = s₂.heap.objs.size + 1 := by rw [← hH2, Heap.size_push]
  generalize hDg : s₂.heap.objs.size = D at *
  generalize hCg : H2.objs.size = C at *
  have ownD : ∀ b ∈ ownOf (cenvOf scope cl env C) (ocOf scope.names C), D < b := fun b hb => by have := hown b hb; rw [hC] at this; exact this
  generalize hOw : ownOf (cenvOf scope cl env C) (ocOf scope.names C) = Ow at *
  have hCO : C ∈ Ow := hOw ▸ mem_own_loc
  have hDO : D ∉ Ow := fun h => Nat.lt_irrefl _ (ownD D h)
  have hOn : ∀ b ∈ Ow, s₂.heap.get? b = none := fun b hb => fresh_size _ (Nat.le_trans (Nat.le_of_eq hDg) (Nat.le_of_lt (ownD b hb)))
  have hDn : s₂.heap.get? D = none := fresh_size _ (Nat.le_of_eq hDg)
  have hDC : D ≠ C := fun e => hDO (e ▸ hCO)
  have below : ∀ b, b < D → b ∉ Ow ∧ b ≠ D := fun b hb => ⟨fun h => Nat.lt_asymm hb (ownD b h), Nat.ne_of_lt hb⟩
  have hDf : D ∉ fp := fun hm => Nat.lt_irrefl _ (hfp _ hm)
  have hOf : ∀ b ∈ Ow, b ∉ fp := fun b hb hm => Nat.lt_asymm (hfp _ hm) (ownD b hb)
  have hOW : ∀ b ∈ Ow, b ∉ W := fun b hb hm => hJW _ _ hJ0 _ hm (hOn b hb)
  have hDW : D ∉ W := fun hm => hJW _ _ hJ0 _ hm hDn
  have lt₂ : ∀ {b o}, s₂.heap.get? b = some o → b < D := fun e => hDg ▸ Heap.lt_size e
  have old : ∀ b o, s₂.heap.get? b = some o → h₁.get? b = some o := fun b o e => hx₁ b o (hH2 ▸ Heap.get?_push_of_some _ e)
  have hacc : h₁.PlainList D #[] := ⟨_, hx₁ _ _ (by rw [← hH2, ← hDg]; exact Heap.get?_push_size _ rfl)⟩
  have F := FD C (by rw [hOw]; exact hOf)
  have hst₁ : St 0 h₁ := F.frame _ _ _ hst fun b _ o e => old b o e
  have hW : ∀ b ∈ W, s₂.heap.get? b ≠ none := hJW _ _ hJ0
  have hwr : ∀ b ∈ wr, s₂.heap.get? b ≠ none := fun b hb => by obtain ⟨o, ho⟩ := F.live _ _ hst b hb; rw [ho]; exact Option.some_ne_none _
  have loop : ∀ s₃ : Shared, s₃ = { s₂ with heap := h₁, toks := tk₁ } →
      codeAny (model prog w) A (.compLoop (.ListComp elt [⟨target, iter, ifs, 0⟩] scope pos) 0 (.ref I) (.ref D) (cenvOf scope cl env C)) (RR (.ref D) C) s₃ := by
    rintro s₃ rfl
    refine compLoop_gen
      (fun k s' => ∃ h' tk m' ys tl i, s' = { s₂ with heap := h', toks := tk } ∧ St i h' ∧ h'.PlainList D ys ∧ Frm (cenvOf scope cl env C) (ocOf scope.names C) m' h' ∧ J i h' ∧ Has h' tl ∧ Fresh s₂.heap tl ∧ (∀ q ∈ tl, q.1 ∉ Ow ∧ q.1 ≠ D) ∧
        Paired (fun i y => Rl i (tl ++ led) y) ((List.range i).filter p) ys.toList ∧ i ≤ n ∧ k = n + 1 - i ∧ ExtB (W ++ wr) s₂.heap h') ?_ (n + 1)
      ⟨h₁, _, _, #[], [], 0, rfl, hst₁, hacc, hF₁, hJf _ _ _ hJ0 (fun b _ o e => old b o e), Has.nil, Fresh.nil, (fun _ h => nomatch h), by simpa using Paired.nil, Nat.zero_le _, rfl, fun b o _ e => old b o e⟩
    rintro k s' ⟨H, tk, m', ys, tl, i, rfl, hst', hacc', hn', hJ', hT', hTf', hTn', hF, hi, rfl, hk⟩
    have tlW : ∀ q ∈ tl, q.1 ∉ W ∧ q.1 ∉ wr := fun q hq => ⟨fun h => hW _ h (hTf' q hq), fun h => hwr _ h (hTf' q hq)⟩
    by_cases hlt : i < n
    · refine F.run (s := { s₂ with heap := H, toks := tk }) hlt hst' hn' _ (fun _ _ h => h) fun h₂ tk₂ m₂ hBd hst₂ hn₂ hk₂ => ?_
      rw [hOw] at hk₂
      replace hk₂ : ∀ b o, b ∉ wr → b ∉ Ow → H.get? b = some o → h₂.get? b = some o := hk₂
      have ex₂ : ExtB (W ++ wr) s₂.heap h₂ := fun b o hb e => hk₂ b o (fun h => hb (List.mem_append_right _ h)) (below b (lt₂ e)).1 (hk b o hb e)
      have hT₂ : Has h₂ tl := hT'.via fun q hq o => hk₂ _ o (tlW q hq).2 (hTn' q hq).1
      have hJ₂ : J i h₂ := hJf _ _ _ hJ' fun b hb o e => hk₂ b o (fun h => hWf b hb (F.sub _ h)) (fun h => hOW b h hb) e
      have hacc₂ : h₂.PlainList D ys := hacc'.at fun o e => hk₂ _ o (fun h => hDf (F.sub _ h)) hDO e
      have hOn' : ∀ b ∈ ownOf (cenvOf scope cl env C) (ocOf scope.names C), s₂.heap.get? b = none := by rw [hOw]; exact hOn
      refine wpAny_mono (EO.tests i C m' m₂ { s₂ with heap := h₂, toks := tk₂ } _ hlt hBd hn₂ ex₂ hOn' hJ₂) (fun ok s₃ h₃ => ?_) fun _ _ h => h
      obtain ⟨rfl, ⟨h₃, tk₃, rfl, hk₃⟩, hJ₃⟩ := h₃
      replace hk₃ : Ext h₂ h₃ := hk₃
      have ex₃ : ExtB (W ++ wr) s₂.heap h₃ := fun b o hb e => hk₃ b o (ex₂ b o hb e)
      have hst₃ : St (i + 1) h₃ := F.frame _ _ _ hst₂ fun b _ o e => hk₃ b o e
      have hT₃ : Has h₃ tl := hT₂.ext hk₃
      have hacc₃ : h₃.PlainList D ys := hacc₂.at fun o e => hk₃ _ o e
      have hn₃ := hn₂.ext hk₃
      have hJ₃' : J i h₃ := hJf _ _ _ hJ₂ fun b _ o e => hk₃ b o e
      cases hpv : p i with
      | false =>
        simp only [Bool.false_eq_true, if_false]
        refine ⟨n + 1 - (i + 1), by omega, h₃, tk₃, _, ys, tl, i + 1, rfl, hst₃, hacc₃, hn₃, hJ₃ hpv, hT₃, hTf', hTn', ?_, hlt, rfl, ex₃⟩
        rw [range_filter_succ, hpv]; simpa using hF
      | true =>
        simp only [if_true]
        refine wpAny_mono (EO.elt i C m' m₂ { s₂ with heap := h₃, toks := tk₃ } tl _ hlt hpv hBd hn₃ ex₃ hOn' hJ₃' hT₃ hTf') (fun y s₄ h₄ => ?_) fun _ _ h => h
        obtain ⟨h₄, tk₄, tl', rfl, hk₄, hJ₄, hT₄, hTf₄, hy⟩ := h₄
        replace hk₄ : ExtB W h₃ h₄ := hk₄
        replace hTf₄ : Fresh h₃ tl' := hTf₄
        have hO₃ : ∀ q ∈ tl', q.1 ∉ Ow := fun q hq h => by
          obtain ⟨o, ho, _⟩ := hn₃.live q.1 (by rw [hOw]; exact h)
          rw [hTf₄ q hq] at ho; cases ho
        have hD₃ : ∀ q ∈ tl', q.1 ≠ D := fun q hq e => by
          obtain ⟨_, ho⟩ := hacc₃; have := hTf₄ q hq; rw [e, ho] at this; cases this
        have hys : ys.size ≤ sizeLine := by
          have e1 := hF.length
          have e2 : ((List.range i).filter p).length ≤ (List.range i).length := List.length_filter_le _ _
          have e3 : (List.range i).length = i := List.length_range
          have e4 : ys.toList.length = ys.size := by simp
          omega
        have hacc₄ : h₄.PlainList D ys := hacc₃.at fun o e => hk₄ _ o hDW e
        have tl'f : Fresh s₂.heap tl' := fun q hq => by
          cases e : s₂.heap.get? q.1 with
          | none => rfl
          | some o =>
            exfalso
            by_cases hb : q.1 ∈ W ++ wr
            · rcases List.mem_append.mp hb with hb | hb
              · exact hJW _ _ hJ₃' _ hb (hTf₄ q hq)
              · obtain ⟨o, ho⟩ := F.live _ _ hst₃ _ hb
                rw [hTf₄ q hq] at ho; cases ho
            · have := ex₃ _ _ hb e; rw [hTf₄ q hq] at this; cases this
        have hT₄' : Has h₄ tl := hT₃.via fun q hq o => hk₄ _ o (tlW q hq).1
        refine wpAny_list_append_plain (hsz := hys) hacc₄ fun h₅ hl₅ hs₅ => ?_
        replace hs₅ : Heap.SameBut D h₄ h₅ := hs₅
        have up₅ : ∀ b o, b ≠ D → h₄.get? b = some o → h₅.get? b = some o := fun b o hb e => hs₅.extBut b o hb e
        have hst₅ : St (i + 1) h₅ := F.frame _ _ _ hst₃ fun b hb o e => up₅ b o (fun h => hDf (h ▸ hb)) (hk₄ b o (fun h => hWf b h hb) e)
        refine ⟨n + 1 - (i + 1), by omega, h₅, tk₄, _, ys.push y, tl' ++ tl, i + 1, rfl, hst₅, hl₅, hn₃.keep (fun b hb o e => by rw [hOw] at hb; exact up₅ b o (fun h => hDO (h ▸ hb)) (hk₄ b o (hOW b hb) e)),
          hJf _ _ _ hJ₄ (fun b hb o e => up₅ b o (fun h => hDW (h ▸ hb)) e), ?_, tl'f.append hTf', ?_, ?_, hlt, rfl, ?_⟩
        · exact (hT₄.via fun q hq o => up₅ _ o (hD₃ q hq)).append (hT₄'.via fun q hq o => up₅ _ o (hTn' q hq).2)
        · intro q hq
          rcases List.mem_append.mp hq with hq | hq
          · exact ⟨hO₃ q hq, hD₃ q hq⟩
          · exact hTn' q hq
        · rw [range_filter_succ, hpv, Array.toList_push]
          refine Paired.snoc (Paired.imp (fun j y' hy' => ?_) hF) ?_
          · rw [List.append_assoc]; exact Rm _ _ _ _ hy'
          · rw [List.append_assoc]; exact hy
        · intro b o hb e
          exact up₅ b o (below b (lt₂ e)).2 (hk₄ b o (fun h => hb (List.mem_append_left _ h)) (ex₃ b o hb e))
    · have hin : i = n := by omega
      subst hin
      refine F.done { s₂ with heap := H, toks := tk } _ _ hst' fun h₂ tk₂ hk₂ => ?_
      replace hk₂ : ∀ b o, b ∉ wr → H.get? b = some o → h₂.get? b = some o := hk₂
      obtain ⟨ml, hml, _⟩ := hn'.loc
      exact hRR D C h₂ tk₂ ml ys tl hDn (hOn C hCO) hDC (hml.at' fun o e => hk₂ _ o (fun h => hOf C hCO (F.sub _ h)) e) (hacc'.at fun o e => hk₂ _ o (fun h => hDf (F.sub _ h)) e)
        (hJf _ _ _ hJ' fun b hb o e => hk₂ b o (fun h => hWf b hb (F.sub _ h)) e) (hT'.via fun q hq o => hk₂ _ o (tlW q hq).2) hTf' (fun q hq => ⟨fun e => (hTn' q hq).1 (e ▸ hCO), (hTn' q hq).2⟩) hF
        fun b o hb e => hk₂ b o (fun h => hb (List.mem_append_right _ h)) (hk b o hb e)
  exact codeAny_compStart_list (loop _ rfl) (F.self 0 { s₂ with heap := h₁, toks := tk₁ } _ _ hst₁ (loop _ rfl))
end
end Mine

-- Base3
namespace Mine
open Sem (wp)
section
variable {prog : Program} {w : World} {A : Around} {E : Value → Shared → Prop} {env : Env}

/-- what stands ready where a comprehension's block begins (the iterator is made) -/
structure CompAt (prog : Program) (w : World) (A : Around) (env : Env) (elt target : Expr) (ifs : List Expr) (scope : Scope) (cl : List (Str × Addr)) (Rl : Nat → Led → Value → Prop) (led : Led) (J : Nat → Heap → Prop) (W : List Addr) (n : Nat) (p : Nat → Bool)
    (it : Value) (s₂ : Shared) (wr : List Addr) : Prop where
  at_ : ∃ (I : Addr) (fp : List Addr) (St : Nat → Heap → Prop) (Bd : Nat → (Str → Option Value) → (Str → Option Value) → Prop), it = .ref I ∧
      (∀ C, (∀ b ∈ ownOf (cenvOf scope cl env C) (ocOf scope.names C), b ∉ fp) → Feed prog w A (cenvOf scope cl env C) (ocOf scope.names C) target I fp wr n St Bd) ∧ St 0 s₂.heap ∧ (∀ b ∈ fp, b < s₂.heap.objs.size) ∧ (∀ b ∈ W, b ∉ fp) ∧
      EltOk prog w A elt ifs n p W wr J Bd Rl led (cenvOf scope cl env) (ocOf scope.names) s₂

theorem comp_eval {s : Shared} {elt target iter : Expr} {ifs : List Expr} {scope : Scope} {cl : List (Str × Addr)} {pos : Pos} {Q : Value → Shared → Prop}
    (W : List Addr) (J : Nat → Heap → Prop) (n : Nat) (p : Nat → Bool) (Rl : Nat → Led → Value → Prop) (Rm : ∀ i l t y, Rl i l y → Rl i (t ++ l) y) (led : Led)
    (hclos : closureFor scope env = pure cl) (h1 : (scope.names.filter isCellN).length ≤ 1)
    (hoc : ∀ C, ∀ q ∈ ocOf scope.names C, (cenvOf scope cl env C).kindOf q.1 = some .cell ∧ (cellsFrom (C + 1) scope.names cl).lookup q.1 = some q.2 ∧ q.2 ≠ C) (hkind : scope.kind = .function)
    (hnames : ∀ y ∈ scope.names, y.2 = .local → scope.names.lookup y.1 = some .local) (hsz : n ≤ sizeLine)
    (hJf : ∀ i h h', J i h → (∀ b ∈ W, ∀ o, h.get? b = some o → h'.get? b = some o) → J i h') (hJW : ∀ i h, J i h → ∀ b ∈ W, h.get? b ≠ none)
    (h : wpAny (model prog w) A (eval iter env) (fun xv s₁ => wpAny (model prog w) A (pyIter xv) (fun it s₂ => ∃ wr, CompAt prog w A env elt target ifs scope cl Rl led J W n p it s₂ wr ∧ J 0 s₂.heap ∧
      (∀ D h' tk ys tl c, s₂.heap.get? D = none → h'.get? D = some (listOf ys c) → J n h' → Has h' tl → Fresh s₂.heap tl → (∀ q ∈ tl, q.1 ≠ D) → Paired (fun i y => Rl i (tl ++ led) y) ((List.range n).filter p) ys.toList → ExtB (W ++ wr) s₂.heap h' →
        Q (.ref D) { s₂ with heap := h', toks := tk })) E s₁) E s)
    (hs : ∀ x, foldedSetIterable iter env x = pure x := by intro _; rfl) :
    wpAny (model prog w) A (eval (.ListComp elt [⟨target, iter, ifs, 0⟩] scope pos) env) Q E s := by
  rw [eval_ListComp]
  refine wpAny_comprehension_free (use := none) rfl hs hclos hkind hnames (wpAny_mono h (fun xv s₁ h₁ => wpAny_mono h₁ (fun it s₂ h₂ => ?_) fun _ _ e => e) fun _ _ e => e)
  obtain ⟨wr, ⟨I, fp, St, Bd, rfl, FD, hst, hfp, hWf, EO⟩, hJ0, hQ⟩ := h₂
  have hW : ∀ b ∈ W, s₂.heap.get? b ≠ none := hJW _ _ hJ0
  refine comp_block (RR := fun acc C => compPost (model prog w) A E none Q acc C) W J p Rl Rm led FD hsz hkind h1 hoc hst hfp hWf hJ0 hJf hJW EO ?_
  intro D C h' tk m' ys tl hD hC hDC hn hpl hJ hT hTf hTn hF hk
  refine ⟨m', hn, fun h'' hs'' => ?_⟩
  replace hs'' : Heap.SameBut C h' h'' := hs''
  obtain ⟨c, hpl⟩ := hpl
  exact hQ D h'' tk ys tl c hD (hs''.extBut _ _ hDC hpl) (hJf _ _ _ hJ fun b hb o e => hs''.extBut b o (fun q => hW b hb (q ▸ hC)) e) (hT.via fun q hq o => hs''.extBut _ o (hTn q hq).1) hTf (fun q hq => (hTn q hq).2) hF
    fun b o hb e => hs''.extBut b o (fun q => by rw [q, hC] at e; cases e) (hk b o hb e)

/-- the same, stored into a name of the frame -/
theorem comp_assign {s : Shared} {elt target iter : Expr} {y : Str} {py : Pos} {ifs : List Expr} {scope : Scope} {cl : List (Str × Addr)} {pos spos : Pos} {Q : Flow → Shared → Prop}
    (W : List Addr) (J : Nat → Heap → Prop) (n : Nat) (p : Nat → Bool) (Rl : Nat → Led → Value → Prop) (Rm : ∀ i l t y, Rl i l y → Rl i (t ++ l) y) (led : Led)
    (hsw : swapsWith (.ListComp elt [⟨target, iter, ifs, 0⟩] scope pos) (some (.Name y py)) spos.line env = pure true)
    (hclos : closureFor scope env = pure cl) (h1 : (scope.names.filter isCellN).length ≤ 1)
    (hoc : ∀ C, ∀ q ∈ ocOf scope.names C, (cenvOf scope cl env C).kindOf q.1 = some .cell ∧ (cellsFrom (C + 1) scope.names cl).lookup q.1 = some q.2 ∧ q.2 ≠ C) (hkind : scope.kind = .function)
    (hnames : ∀ y ∈ scope.names, y.2 = .local → scope.names.lookup y.1 = some .local)
    (hy : env.kindOf y = some .local) (hp : (env.scope.kind == .class || (env.scope.kind == .module && env.locals != env.globals)) = false) (hsz : n ≤ sizeLine)
    (hJf : ∀ i h h', J i h → (∀ b ∈ W, ∀ o, h.get? b = some o → h'.get? b = some o) → J i h') (hJW : ∀ i h, J i h → ∀ b ∈ W, h.get? b ≠ none)
    (h : wpAny (model prog w) A (eval iter env) (fun xv s₁ => wpAny (model prog w) A (pyIter xv) (fun it s₂ => ∃ wr m, CompAt prog w A env elt target ifs scope cl Rl led J W n p it s₂ wr ∧ J 0 s₂.heap ∧ s₂.heap.Ns env.locals m ∧ env.locals ∉ wr ∧ env.locals ∉ W ∧
      (∀ D h' tk ys tl c, s₂.heap.get? D = none → h'.get? D = some (listOf ys c) → J n h' → Has h' tl → Fresh s₂.heap tl → (∀ q ∈ tl, q.1 ≠ D) → Paired (fun i y => Rl i (tl ++ led) y) ((List.range n).filter p) ys.toList →
        h'.Ns env.locals (upd m y (.ref D)) → (∀ b o, b ∉ W ++ wr → b ≠ env.locals → s₂.heap.get? b = some o → h'.get? b = some o) → Q .next { s₂ with heap := h', toks := tk })) E s₁) E s)
    (hs : ∀ x, foldedSetIterable iter env x = pure x := by intro _; rfl) :
    wpAny (model prog w) A (exec (.Assign [.Name y py] (.ListComp elt [⟨target, iter, ifs, 0⟩] scope pos) spos) env) Q E s := by
  rw [exec_Assign_Name_used _ _ _ _ hsw]
  refine wpAny_bind (wpAny_standAt (wpAny_bind ?_))
  show wpAny _ A (do let _ ← comprehension (.ListComp elt [⟨target, iter, ifs, 0⟩] scope pos) scope env _ (newList []) false (eval iter env) (some (assign (.Name y py) env))) _ _ s
  refine wpAny_bind (wpAny_mono (wpAny_comprehension_free (use := some (assign (.Name y py) env)) (Q := fun _ s' => Q .next s') rfl hs hclos hkind hnames
    (wpAny_mono h (fun xv s₁ h₁ => wpAny_mono h₁ (fun it s₂ h₂ => ?_) fun _ _ e => e) fun _ _ e => e)) (fun _ s' hq => wpAny_pure (wpAny_pure hq)) fun _ _ e => e)
  obtain ⟨wr, m, ⟨I, fp, St, Bd, rfl, FD, hst, hfp, hWf, EO⟩, hJ0, hnL, hLw, hLW, hQ⟩ := h₂
  have hW : ∀ b ∈ W, s₂.heap.get? b ≠ none := hJW _ _ hJ0
  refine comp_block (RR := fun acc C => compPost (model prog w) A E (some (assign (.Name y py) env)) (fun _ s' => Q .next s') acc C) W J p Rl Rm led FD hsz hkind h1 hoc hst hfp hWf hJ0 hJf hJW EO ?_
  intro D C h' tk m' ys tl hD hC hDC hnC hpl hJ hT hTf hTn hF hk
  have hLC : env.locals ≠ C := by rintro rfl; obtain ⟨o, _, _, ho, _⟩ := hnL; rw [hC] at ho; cases ho
  have hLD : env.locals ≠ D := by rintro rfl; obtain ⟨o, _, _, ho, _⟩ := hnL; rw [hD] at ho; cases ho
  have hLt : s₂.heap.get? env.locals ≠ none := by obtain ⟨o, _, _, ho, _⟩ := hnL; rw [ho]; exact Option.some_ne_none _
  show wpAny _ A (assign (.Name y py) env (.ref D)) _ _ _
  refine wpAny_assign_Name (wpAny_storeName_local hy (hnL.at' fun o e => hk _ o (by simp [hLw, hLW]) e) (fun h₂ hn₂ hs₂ => ?_) hp)
  replace hs₂ : Heap.SameBut env.locals h' h₂ := hs₂
  refine ⟨m', hnC.sameBut hs₂ (Ne.symm hLC), fun h₃ hs₃ => ?_⟩
  replace hs₃ : Heap.SameBut C h₂ h₃ := hs₃
  obtain ⟨c, hpl⟩ := hpl
  have up : ∀ b o, b ≠ env.locals → b ≠ C → h'.get? b = some o → h₃.get? b = some o := fun b o h1 h2 e => hs₃.extBut b o h2 (hs₂.extBut b o h1 e)
  exact hQ D h₃ _ ys tl c hD (up _ _ (Ne.symm hLD) hDC hpl) (hJf _ _ _ hJ fun b hb o e => up b o (fun q => hLW (q ▸ hb)) (fun q => hW b hb (q ▸ hC)) e)
    (hT.via fun q hq o => up _ o (fun e => hLt (e ▸ hTf q hq)) (hTn q hq).1) hTf (fun q hq => (hTn q hq).2) hF (hn₂.sameBut hs₃ hLC)
    fun b o hb hbL e => up b o hbL (fun q => by rw [q, hC] at e; cases e) (hk b o hb e)

/-- a for loop by what holds between its turns -/
theorem for_block {R : Result → Shared → Prop} {target : Expr} {body : List Stmt} {s : Shared} {I : Addr} {fp wr : List Addr} {n : Nat} {St : Nat → Heap → Prop} {Bd : Nat → (Str → Option Value) → (Str → Option Value) → Prop} {oc : List (Str × Addr)}
    (F : Feed prog w A env oc target I fp wr n St Bd) (Inv : Nat → (Str → Option Value) → Heap → Prop) {m : Str → Option Value}
    (hst : St 0 s.heap) (hn : Frm env oc m s.heap) (hLf : ∀ b ∈ ownOf env oc, b ∉ fp) (h0 : Inv 0 m s.heap)
    (turn : ∀ i m₁ m₂ h₁ tk₁ s₂ E', i < n → Inv i m₁ h₁ → Frm env oc m₁ h₁ → St i h₁ → Bd i m₁ m₂ → Frm env oc m₂ s₂.heap → s₂ = { s with heap := s₂.heap, toks := tk₁ } → (∀ b o, b ∉ wr → b ∉ ownOf env oc → h₁.get? b = some o → s₂.heap.get? b = some o) → St (i + 1) s₂.heap →
      wpAny (model prog w) A (execs body env) (fun f s₃ => (f = .next ∨ f = .cont) ∧ (∃ h tk, s₃ = { s₂ with heap := h, toks := tk }) ∧ (∃ m₃, Frm env oc m₃ s₃.heap ∧ Inv (i + 1) m₃ s₃.heap) ∧
        (∀ b ∈ fp, ∀ o, s₂.heap.get? b = some o → s₃.heap.get? b = some o)) E' s₂)
    (hR : ∀ m' h₁ h' tk, Inv n m' h₁ → St n h₁ → Frm env oc m' h₁ → (∀ b o, b ∉ wr → h₁.get? b = some o → h'.get? b = some o) → Frm env oc m' h' → R (.ok .next) { s with heap := h', toks := tk }) :
    codeAny (model prog w) A (.forLoop target (.ref I) body [] env) R s := by
  refine codeAny_forLoop_any (fun k s' => ∃ h' tk m' i, s' = { s with heap := h', toks := tk } ∧ St i h' ∧ Frm env oc m' h' ∧ Inv i m' h' ∧ i ≤ n ∧ k = n + 1 - i) ?_ (n + 1)
    ⟨s.heap, s.toks, m, 0, rfl, hst, hn, h0, Nat.zero_le _, rfl⟩
  rintro k s' ⟨H, tk, m', i, rfl, hst', hn', hI', hi, rfl⟩
  by_cases hlt : i < n
  · refine F.run (s := { s with heap := H, toks := tk }) hlt hst' hn' _ (fun _ _ h => h) fun h₂ tk₂ m₂ hBd hst₂ hn₂ hk₂ => ?_
    refine wpAny_mono (turn i m' m₂ H tk₂ { s with heap := h₂, toks := tk₂ } _ hlt hI' hn' hst' hBd hn₂ rfl hk₂ hst₂) (fun f s₃ h₃ => ?_) fun _ _ h => h
    obtain ⟨hf, ⟨h₃, tk₃, rfl⟩, ⟨m₃, hn₃, hI₃⟩, hk₃⟩ := h₃
    have : ∃ m, m < n + 1 - i ∧ ∃ h' tk m' i, ({ s with heap := h₃, toks := tk₃ } : Shared) = { s with heap := h', toks := tk } ∧ St i h' ∧ Frm env oc m' h' ∧ Inv i m' h' ∧ i ≤ n ∧ m = n + 1 - i :=
      ⟨n + 1 - (i + 1), by omega, h₃, tk₃, m₃, i + 1, rfl, F.frame _ _ _ hst₂ hk₃, hn₃, hI₃, hlt, rfl⟩
    rcases hf with rfl | rfl <;> exact this
  · have hin : i = n := by omega
    subst hin
    refine F.done { s with heap := H, toks := tk } _ _ hst' fun h₂ tk₂ hk₂ => wpAny_execs_nil ?_
    exact hR m' H h₂ tk₂ hI' hst' hn' hk₂ (hn'.keep fun b hb o e => hk₂ _ o (fun h => hLf b hb (F.sub _ h)) e)
end
end Mine

-- Base4
namespace Mine
open Sem (wp)

/-- a place where the walk stops -/
noncomputable def Hold (P : Prop) : Prop := P
theorem Hold.out {P : Prop} (h : Hold P) : P := h

structure Amb (K : Frag) (p : Program) (loose : List Str) (mean : ExcName → Option Value) (mg mb : Str → Option Value) (h : Heap) : Prop where
  kin : K.In h
  top : Top p loose mean mg mb h
theorem Amb.ext {K : Frag} {p : Program} {loose : List Str} {mean : ExcName → Option Value} {mg mb : Str → Option Value} {h h' : Heap} (a : Amb K p loose mean mg mb h) (e : Ext h h') : Amb K p loose mean mg mb h' := ⟨a.kin.keeps e, a.top.keeps e⟩

/-- what a call makes: new objects alone -/
noncomputable def Made (s : Shared) (led : Led) (Out : Led → Value → Prop) (v : Value) (s' : Shared) : Prop :=
  ∃ h' tk tl, s' = { s with heap := h', toks := tk } ∧ Ext s.heap h' ∧ Has h' tl ∧ Fresh s.heap tl ∧ Out (tl ++ led) v
noncomputable def Con (K : Frag) (p : Program) (loose : List Str) (mean : ExcName → Option Value) (mg mb : Str → Option Value) (prog : Program) (w : World) (f : Addr) (vs : List Value) (dep : Nat) (led : Led) (Out : Led → Value → Prop) : Prop :=
  ∀ (s : Shared) (dp un : Nat) (gd : Option (List Code)) (fr : List Env) (E : Value → Shared → Prop), Amb K p loose mean mg mb s.heap → Has s.heap led → dp + dep < recursionLimit → un + 8 * dep < cLine →
    wpAny (model prog w) { handled := none, depth := dp, frames := some fr, guards := gd, units := un } (call (.ref f) vs) (Made s led Out) E s

/-- the state of a frame: the entry's heap is kept, names hold m, led is what stands and does not change, mu what may -/
structure St (K : Frag) (p : Program) (loose : List Str) (mean : ExcName → Option Value) (mg mb : Str → Option Value) (s₀ : Shared) (led₀ : Led) (env : Env) (oc : List (Str × Addr)) (cl : List (Str × Value))
    (m : Str → Option Value) (led mu : Led) (s : Shared) : Prop where
  amb : Amb K p loose mean mg mb s₀.heap
  same : ∃ h tk, s = { s₀ with heap := h, toks := tk }
  ext : Ext s₀.heap s.heap
  frm : Frm env oc m s.heap
  clo : ∀ q ∈ cl, (env.kindOf q.1 = some .cell ∨ env.kindOf q.1 = some .free) ∧ ∃ c, env.cells.lookup q.1 = some c ∧ s.heap.IsCell c (some q.2)
  has : Has s.heap led
  new : ∃ tl, led = tl ++ led₀ ∧ Fresh s₀.heap tl
  muh : Has s.heap mu
  muf : ∀ q ∈ mu, s₀.heap.get? q.1 = none ∧ ∀ r ∈ led, r.1 ≠ q.1
  mun : (mu.map (·.1)).Nodup

noncomputable abbrev tupO (vs : List Value) (c : Nat) : Obj := { cls := .type "tuple", data := .seq vs.toArray c }
noncomputable abbrev lstO (vs : List Value) (c : Nat) : Obj := { cls := .type "list", data := .seq vs.toArray c }

section
variable {K : Frag} {p : Program} {loose : List Str} {mean : ExcName → Option Value} {mg mb : Str → Option Value} {s₀ : Shared} {led₀ : Led} {env : Env} {oc : List (Str × Addr)} {cl : List (Str × Value)} {m : Str → Option Value} {led mu : Led} {s : Shared}
  {A : Around} {E : Value → Shared → Prop} {prog : Program} {w : World} {x : Str} {v : Value} {pos : Pos}

theorem St.here (S : St K p loose mean mg mb s₀ led₀ env oc cl m led mu s) : Amb K p loose mean mg mb s.heap := S.amb.ext S.ext
theorem St.kin (S : St K p loose mean mg mb s₀ led₀ env oc cl m led mu s) : K.In s.heap := S.here.kin
theorem St.tok (S : St K p loose mean mg mb s₀ led₀ env oc cl m led mu s) (t : Nat) : St K p loose mean mg mb s₀ led₀ env oc cl m led mu { s with toks := t } :=
  ⟨S.amb, let ⟨h, tk, e⟩ := S.same; ⟨h, t, by rw [e]⟩, S.ext, S.frm, S.clo, S.has, S.new, S.muh, S.muf, S.mun⟩

theorem St.name {Q : Value → Shared → Prop} (S : St K p loose mean mg mb s₀ led₀ env oc cl m led mu s) (hx : TgtOk env oc x) (hm : m x = some v) (h : Q v s) (hd : (x == ("__debug__" : Str)) = false := by decide) :
    wpAny (model prog w) A (eval (.Name x pos) env) Q E s := S.frm.name hx hm h hd
theorem St.nameC {Q : Value → Shared → Prop} (S : St K p loose mean mg mb s₀ led₀ env oc cl m led mu s) (hc : (x, v) ∈ cl) (h : Q v s) (hd : (x == ("__debug__" : Str)) = false := by decide) (hd' : (x == ("__classdict__" : Str)) = false := by decide) :
    wpAny (model prog w) A (eval (.Name x pos) env) Q E s := by
  obtain ⟨hk, c, hl, hv⟩ := S.clo _ hc
  rcases hk with hk | hk
  · exact wpAny_Name (wpAny_loadName_cell S.frm.fn hk hl hv h) hd
  · exact wpAny_Name (wpAny_loadName_free S.frm.fn hk hl hv h hd') hd
theorem St.glob {Q : Value → Shared → Prop} (S : St K p loose mean mg mb s₀ led₀ env oc cl m led mu s) (e : nsIn K mainGlobals x = some (some v)) (hx : env.kindOf x = some .globalImplicit) (h : Q v s)
    (hg : env.globals = mainGlobals := by rfl) (hd : (x == ("__debug__" : Str)) = false := by decide) : wpAny (model prog w) A (eval (.Name x pos) env) Q E s :=
  Name_function_global S.frm.fn hx (loadGlobal_global (by rw [hg]; exact S.here.top.g) (mg_of S.kin S.here.top.g e) h) hd
theorem St.boot {Q : Value → Shared → Prop} (S : St K p loose mean mg mb s₀ led₀ env oc cl m led mu s) (e : nsIn K mainGlobals x = some none) (hv : bootBuiltins x = some v) (hn : x ≠ "__name__") (hx : env.kindOf x = some .globalImplicit) (h : Q v s)
    (hg : env.globals = mainGlobals := by rfl) (hb : env.builtins = builtinsNs := by rfl) (hd : (x == ("__debug__" : Str)) = false := by decide) : wpAny (model prog w) A (eval (.Name x pos) env) Q E s :=
  Name_function_global S.frm.fn hx (loadGlobal_builtin (by rw [hg]; exact S.here.top.g) (mg_none_of S.kin S.here.top.g e) (by rw [hb]; exact S.here.top.b) ((S.here.top.builtins x hn).trans hv) h) hd

theorem St.store {Q : Unit → Shared → Prop} (S : St K p loose mean mg mb s₀ led₀ env oc [] m led mu s) (own0 : ∀ b ∈ ownOf env oc, s₀.heap.get? b = none) (hx : TgtOk env oc x)
    (h : ∀ s', St K p loose mean mg mb s₀ led₀ env oc [] (upd m x v) led mu s' → Q () s') : wpAny (model prog w) A (storeName env x v) Q E s := by
  refine S.frm.store hx fun h' tk F' k => h _ ⟨S.amb, ?_, fun b o e => k b o (fun hb => by rw [own0 b hb] at e; cases e) (S.ext b o e), F', (fun _ hq => nomatch hq), S.has.via fun q hq o => k _ o (S.frm.notHas S.has q hq), S.new,
    S.muh.via fun q hq o => k _ o (S.frm.notHas S.muh q hq), S.muf, S.mun⟩
  obtain ⟨h, t, e⟩ := S.same
  exact ⟨h', tk, by rw [e]⟩

theorem St.made (S : St K p loose mean mg mb s₀ led₀ env oc cl m led mu s) {h' : Heap} {tk : Nat} {tl : Led} (e : Ext s.heap h') (ht : Has h' tl) (hf : Fresh s.heap tl) :
    St K p loose mean mg mb s₀ led₀ env oc cl m (tl ++ led) mu { s with heap := h', toks := tk } :=
  ⟨S.amb, let ⟨h, t, e⟩ := S.same; ⟨h', tk, by rw [e]⟩, S.ext.trans e, S.frm.ext e, fun q hq => let ⟨a, c, b, d⟩ := S.clo q hq; ⟨a, c, b, d.keeps e⟩, ht.append (S.has.ext e),
    let ⟨t0, e0, f0⟩ := S.new; ⟨tl ++ t0, by rw [e0, List.append_assoc], (hf.back S.ext).append f0⟩, S.muh.ext e,
    fun q hq => ⟨(S.muf q hq).1, fun r hr => (List.mem_append.mp hr).elim (fun hr he => by have := hf r hr; rw [he, (S.muh q hq).1] at this; cases this) ((S.muf q hq).2 r)⟩, S.mun⟩

theorem St.alloc (S : St K p loose mean mg mb s₀ led₀ env oc cl m led mu s) {o : Obj} (hs : isSeq o = true) (tk : Nat) :
    St K p loose mean mg mb s₀ led₀ env oc cl m ((s.heap.objs.size, o) :: led) mu { s with heap := s.heap.push o, toks := tk } := by
  refine S.made (tl := [(s.heap.objs.size, o)]) (Ext.push _ _) (fun q hq => ?_) fun q hq => ?_
  · rw [List.mem_singleton.mp hq]
    exact ⟨Heap.get?_push_size _ (by unfold isSeq at hs; split at hs; (rename_i h; exact Obj.isFreed_of_seq h); cases hs), hs⟩
  · rw [List.mem_singleton.mp hq]; exact fresh_size _ (Nat.le_refl _)
theorem St.allocM (S : St K p loose mean mg mb s₀ led₀ env oc cl m led mu s) {D : Addr} {o : Obj} {h' : Heap} {tk : Nat} {tl : Led} (e : Ext s.heap h') (hD : h'.get? D = some o) (hn : s.heap.get? D = none) (hs : isSeq o = true)
    (ht : Has h' tl) (hf : Fresh s.heap tl) (hDt : ∀ q ∈ tl, q.1 ≠ D) :
    St K p loose mean mg mb s₀ led₀ env oc cl m (tl ++ led) ((D, o) :: mu) { s with heap := h', toks := tk } :=
  let S' := S.made (tk := tk) e ht hf
  ⟨S'.amb, S'.same, S'.ext, S'.frm, S'.clo, S'.has, S'.new, fun q hq => (List.mem_cons.mp hq).elim (fun h => by rw [h]; exact ⟨hD, hs⟩) (S'.muh q), fun q hq => (List.mem_cons.mp hq).elim (fun h => by
      rw [h]
      refine ⟨?_, fun r hr => (List.mem_append.mp hr).elim (hDt r) fun hr he => ?_⟩
      · cases q0 : s₀.heap.get? D with
        | none => rfl
        | some o' => rw [S.ext _ _ q0] at hn; cases hn
      · have := (S.has r hr).1; rw [he, hn] at this; cases this) (S'.muf q), by
    rw [List.map_cons, List.nodup_cons]
    refine ⟨fun h => ?_, S.mun⟩
    obtain ⟨q, hq, he⟩ := List.mem_map.mp h
    have := (S.muh q hq).1
    rw [he, hn] at this; cases this⟩
theorem St.freeze {q : Addr × Obj} (S : St K p loose mean mg mb s₀ led₀ env oc cl m led (q :: mu) s) : St K p loose mean mg mb s₀ led₀ env oc cl m (q :: led) mu s :=
  ⟨S.amb, S.same, S.ext, S.frm, S.clo, fun r hr => (List.mem_cons.mp hr).elim (fun h => by rw [h]; exact S.muh q (.head _)) (S.has r), let ⟨t0, e0, f0⟩ := S.new; ⟨q :: t0, by rw [e0]; rfl, fun r hr => (List.mem_cons.mp hr).elim (fun h => by rw [h]; exact (S.muf q (.head _)).1) (f0 r)⟩,
    fun r hr => S.muh r (.tail _ hr), fun r hr => ⟨(S.muf r (.tail _ hr)).1, fun t ht => (List.mem_cons.mp ht).elim (fun h he => by
      have := (List.nodup_cons.mp S.mun).1
      rw [h] at he
      exact this (show q.1 ∈ mu.map (·.1) by rw [he]; exact List.mem_map_of_mem hr)) ((S.muf r (.tail _ hr)).2 t)⟩, (List.nodup_cons.mp S.mun).2⟩
theorem St.forget {q : Addr × Obj} (S : St K p loose mean mg mb s₀ led₀ env oc cl m led (q :: mu) s) : St K p loose mean mg mb s₀ led₀ env oc cl m led mu s :=
  ⟨S.amb, S.same, S.ext, S.frm, S.clo, S.has, S.new, fun r hr => S.muh r (.tail _ hr), fun r hr => S.muf r (.tail _ hr), (List.nodup_cons.mp S.mun).2⟩
/-- an object of mu turned in place -/
theorem St.turn {a : Addr} {o o' : Obj} {h' : Heap} {tk : Nat} (S : St K p loose mean mg mb s₀ led₀ env oc [] m led ((a, o) :: mu) s) (hb : Heap.SameBut a s.heap h') (ho : h'.get? a = some o') (hs : isSeq o' = true) :
    St K p loose mean mg mb s₀ led₀ env oc [] m led ((a, o') :: mu) { s with heap := h', toks := tk } := by
  have hm := S.muf (a, o) (.head _)
  have hnd := List.nodup_cons.mp S.mun
  have up : ∀ b o, b ≠ a → s.heap.get? b = some o → h'.get? b = some o := fun b o n e => hb.extBut b o n e
  refine ⟨S.amb, ?_, fun b o e => up b o (fun q => by rw [q, hm.1] at e; cases e) (S.ext b o e), S.frm.keep fun b hb o e => up b o (fun q => S.frm.notHas S.muh (a, _) (.head _) (q ▸ hb)) e, (fun _ hq => nomatch hq), S.has.via fun q hq o => up _ o (hm.2 q hq), S.new,
    fun q hq => (List.mem_cons.mp hq).elim (fun h => by rw [h]; exact ⟨ho, hs⟩) fun hq => ⟨up _ _ (fun e => hnd.1 (show a ∈ mu.map (·.1) by rw [← e]; exact List.mem_map_of_mem hq)) (S.muh q (.tail _ hq)).1, (S.muh q (.tail _ hq)).2⟩,
    fun q hq => (List.mem_cons.mp hq).elim (fun h => by rw [h]; exact hm) fun hq => S.muf q (.tail _ hq), S.mun⟩
  obtain ⟨h, t, e⟩ := S.same
  exact ⟨h', tk, by rw [e]⟩
theorem St.muSwap {q r : Addr × Obj} (S : St K p loose mean mg mb s₀ led₀ env oc cl m led (q :: r :: mu) s) : St K p loose mean mg mb s₀ led₀ env oc cl m led (r :: q :: mu) s :=
  ⟨S.amb, S.same, S.ext, S.frm, S.clo, S.has, S.new, fun t ht => S.muh t (by simp only [List.mem_cons] at ht ⊢; grind), fun t ht => S.muf t (by simp only [List.mem_cons] at ht ⊢; grind), by
    have := S.mun; simp only [List.map_cons, List.nodup_cons, List.mem_cons, not_or] at this ⊢; grind⟩

theorem St.done (S : St K p loose mean mg mb s₀ led₀ env oc cl m led mu s) {Out : Led → Value → Prop} (h : Out led v) : Made s₀ led₀ Out v s := by
  obtain ⟨h', tk, e⟩ := S.same
  obtain ⟨tl, e1, hf⟩ := S.new
  subst e
  subst e1
  exact ⟨h', tk, tl, rfl, S.ext, fun q hq => S.has q (List.mem_append_left _ hq), hf, h⟩

theorem St.call {f : Addr} {vs : List Value} {dep dp un : Nat} {gd : Option (List Code)} {fr : List Env} {Out : Led → Value → Prop} {Q : Value → Shared → Prop} (S : St K p loose mean mg mb s₀ led₀ env oc cl m led mu s)
    (C : Con K p loose mean mg mb prog w f vs dep led Out) (hd : dp + dep < recursionLimit) (hu : un + 8 * dep < cLine)
    (h : ∀ v s' tl, St K p loose mean mg mb s₀ led₀ env oc cl m (tl ++ led) mu s' → Out (tl ++ led) v → Q v s') :
    wpAny (model prog w) { handled := none, depth := dp, frames := some fr, guards := gd, units := un } (call (.ref f) vs) Q E s :=
  wpAny_mono (C s dp un gd fr E S.here S.has hd hu) (fun v s' ⟨h', tk, tl, e, ex, ht, hf, ho⟩ => by subst e; exact h v _ tl (S.made ex ht hf) ho) fun _ _ x => x
end
end Mine

-- Base5
namespace Mine
open Sem (wp)

theorem bindL_eq {k : Str → Option NameKind} {x : Str} (hx : k x = some .local) : ∀ (binds : List (Str × Value)) (m : Str → Option Value), bindL k binds m x = (binds.reverse.lookup x).or (m x)
  | [], m => by simp [bindL]
  | (n, v) :: r, m => by
    rw [bindL, bindL_eq hx r, List.reverse_cons, List.lookup_append]
    by_cases h : x = n
    · subst h
      cases r.reverse.lookup x <;> simp [hx]
    · have h' : (x == n) = false := by simpa using h
      have : (if k n = some .local then fun y => if y = n then some v else m y else m) x = m x := by split <;> simp [h]
      rw [this]
      cases r.reverse.lookup x <;> simp [List.lookup_cons, h']
theorem bindC_eq {k : Str → Option NameKind} {x : Str} (hx : k x ≠ some .local) : ∀ (binds : List (Str × Value)) (m : Str → Option Value), bindC k binds m x = (binds.reverse.lookup x).or (m x)
  | [], m => by simp [bindC]
  | (n, v) :: r, m => by
    rw [bindC, bindC_eq hx r, List.reverse_cons, List.lookup_append]
    by_cases h : x = n
    · subst h
      cases r.reverse.lookup x <;> simp [hx]
    · have h' : (x == n) = false := by simpa using h
      have : (if k n = some .local then m else fun y => if y = n then some v else m y) x = m x := by split <;> simp [h]
      rw [this]
      cases r.reverse.lookup x <;> simp [List.lookup_cons, h']

theorem cellsFrom_kind : ∀ (names : List (Str × NameKind)) (n : Nat) (acc : List (Str × Addr)), ∀ q ∈ cellsFrom n names acc, q ∈ acc ∨ (q.1, NameKind.cell) ∈ names
  | [], _, _, _, h => .inl h
  | (x, k) :: r, n, acc, q, h => by
    unfold cellsFrom at h
    split at h
    · rename_i hk
      rcases cellsFrom_kind r _ _ q h with h | h
      · rcases List.mem_cons.mp h with rfl | h
        · have : k = NameKind.cell := by simpa using hk
          exact .inr (by simp [this])
        · exact .inl h
      · exact .inr (List.mem_cons_of_mem _ h)
    · rcases cellsFrom_kind r _ _ q h with h | h
      · exact .inl h
      · exact .inr (List.mem_cons_of_mem _ h)

section
variable {K : Frag} {p : Program} {loose : List Str} {mean : ExcName → Option Value} {mg mb : Str → Option Value} {prog : Program} {w : World}

theorem enter_fn {led : Led} {s : Shared} {dp un : Nat} {gd : Option (List Code)} {fr : List Env} {Q : Value → Shared → Prop} {E : Value → Shared → Prop} {name qual : Str} {params : Arguments} {body : List Stmt} {scope : Scope}
    {dV kV doc pm cdv ct oc0 : Value} {an od : Option Addr} {osl : Array (Option Value)} {f : Addr} {args : List Value} {binds : List (Str × Value)}
    (Am : Amb K p loose mean mg mb s.heap) (H : Has s.heap led)
    (ho : K.lookup f = some ⟨oc0, od, .func (fnOf name qual params body scope dV kV doc pm an cdv ct), osl⟩) (hcd : codeIn K cdv qual = true) (hroom : dp < recursionLimit)
    (hbind : bindArgs (fnOf name qual params body scope dV kV doc pm an cdv ct) ⟨args, []⟩ = pure binds)
    (hkind : (binds.all fun y => scope.names.lookup y.1 == some .local || scope.names.lookup y.1 == some .cell) = true)
    (hnd : ((cellsFrom 0 scope.names []).map (·.1)).Nodup) (hck : (scope.names.all fun y => y.2 != .cell || scope.names.lookup y.1 == some .cell) = true)
    (h : ∀ L s₁, St K p loose mean mg mb s led (envOfC qual scope L f cdv) (cellsFrom (L + 1) scope.names []) [] (fun x => binds.reverse.lookup x) led [] s₁ →
      (∀ b ∈ ownOf (envOfC qual scope L f cdv) (cellsFrom (L + 1) scope.names []), s.heap.get? b = none) →
      wpAny (model prog w) { handled := none, depth := dp + 1, frames := some (envOfC qual scope L f cdv :: fr), guards := gd, units := un + 3 } (execs body (envOfC qual scope L f cdv)) (fun fl s' => Q (match fl with | .ret v => v | _ => .none) s') (fun _ _ => False) s₁)
    (hco : scope.isCoroutine = false := by rfl) (hgen : scope.isGenerator = false := by rfl) (hk : scope.kind = .function := by rfl) :
    wpAny (model prog w) { handled := none, depth := dp, frames := some fr, guards := gd, units := un } (call (.ref f) args) Q E s := by
  refine wpAny_call ?_
  have hgood : ∀ y ∈ scope.names, y.2 = .cell → scope.names.lookup y.1 = some .cell := fun y hy e => by
    have := List.all_eq_true.mp hck y hy
    rw [e] at this; simpa using this
  refine codeAny_call_cells (fd := fnOf name qual params body scope dV kV doc pm an cdv ct) (body := body) (binds := binds) hroom (Am.kin _ _ ho) rfl Am.top.nolimit (codeRec_of Am.kin hcd) rfl hbind rfl (kindsX hkind _) (fun s₁ x => ?_) hco hgen hk
  have x' : InCallC s s.heap.objs.size (bindL (envOfC qual scope s.heap.objs.size f cdv).kindOf binds fun _ => none) (cellsFrom (s.heap.objs.size + 1) scope.names []) (bindC (envOfC qual scope s.heap.objs.size f cdv).kindOf binds fun _ => none) s₁ := x
  clear x
  have hS : St K p loose mean mg mb s led (envOfC qual scope s.heap.objs.size f cdv) (cellsFrom (s.heap.objs.size + 1) scope.names []) [] (fun x => binds.reverse.lookup x) led [] s₁ := by
    refine ⟨Am, x'.toInCall.same, x'.toInCall.keep, ⟨hk, ⟨_, x'.toInCall.ns, fun z hz => by rw [bindL_eq hz]; simp⟩, fun q hq => ?_, fun q hq => ?_, fun q hq r hr e => ?_⟩, (fun _ hq => nomatch hq), H.ext x'.toInCall.keep, ⟨[], rfl, Fresh.nil⟩, Has.nil, (fun _ hq => nomatch hq), List.nodup_nil⟩
    · have hl := lookup_of_mem_nodup (cellsFrom_names scope.names 0 (s.heap.objs.size + 1) [] [] rfl ▸ hnd) hq
      have hkq : scope.names.lookup q.1 = some .cell := (cellsFrom_kind _ _ _ q hq).elim (fun h => nomatch h) fun h => hgood _ h rfl
      have := x'.cell q.1 q.2 hl
      rw [bindC_eq (by show scope.names.lookup q.1 ≠ _; rw [hkq]; decide)] at this
      simpa using this
    · have hl := lookup_of_mem_nodup (cellsFrom_names scope.names 0 (s.heap.objs.size + 1) [] [] rfl ▸ hnd) hq
      exact ⟨(cellsFrom_kind _ _ _ q hq).elim (fun h => nomatch h) fun h => hgood _ h rfl, hl, Nat.ne_of_gt (x'.above q.1 q.2 hq)⟩
    · exact name_of_addr x'.apart (c := q.2) hq (by rw [e]; exact hr)
  have hO : ∀ b ∈ ownOf (envOfC qual scope s.heap.objs.size f cdv) (cellsFrom (s.heap.objs.size + 1) scope.names []), s.heap.get? b = none := fun b hb => by
    unfold ownOf at hb
    rcases List.mem_cons.mp hb with rfl | hb
    · exact fresh_size _ (Nat.le_refl _)
    · obtain ⟨q, hq, rfl⟩ := List.mem_map.mp hb
      exact fresh_size _ (Nat.le_of_lt (x'.above q.1 q.2 hq))
  exact wpAny_mono (h s.heap.objs.size s₁ hS hO) (fun _ _ y => y) fun _ _ y => y.elim
end
end Mine

-- Base6
namespace Mine
open Sem (wp)
section
variable {K : Frag} {p : Program} {loose : List Str} {mean : ExcName → Option Value} {mg mb : Str → Option Value} {s₀ : Shared} {led₀ : Led} {env : Env} {oc : List (Str × Addr)} {cl : List (Str × Value)} {m : Str → Option Value} {led mu : Led} {s : Shared}
  {A : Around} {E : Value → Shared → Prop} {prog : Program} {w : World} {x : Str} {v : Value} {pos : Pos}

theorem St.newTuple {vs : List Value} {Q : Value → Shared → Prop} (S : St K p loose mean mg mb s₀ led₀ env oc cl m led mu s) (h : ∀ a s', St K p loose mean mg mb s₀ led₀ env oc cl m ((a, tupO vs 0) :: led) mu s' → Q (.ref a) s')
    (hsz : vs.length ≤ sizeLine := by size_fits) : wpAny (model prog w) A (PySem.newTuple vs) Q E s :=
  wpAny_newTuple (h _ _ (S.alloc (o := tupO vs 0) rfl _)) hsz
theorem St.newList {vs : List Value} {Q : Value → Shared → Prop} (S : St K p loose mean mg mb s₀ led₀ env oc cl m led mu s) (h : ∀ a s', St K p loose mean mg mb s₀ led₀ env oc cl m led ((a, lstO vs 0) :: mu) s' → Q (.ref a) s')
    (hsz : vs.length ≤ sizeLine := by size_fits) : wpAny (model prog w) A (PySem.newList vs) Q E s :=
  wpAny_newList (h _ _ (S.allocM (o := lstO vs 0) (tl := []) (Ext.push _ _) (Heap.get?_push_size _ rfl) (fresh_size _ (Nat.le_refl _)) rfl Has.nil Fresh.nil (fun _ h => nomatch h))) hsz
theorem St.isTup {a : Addr} {vs : List Value} {c : Nat} (S : St K p loose mean mg mb s₀ led₀ env oc cl m led mu s) (hm : (a, tupO vs c) ∈ led) : s.heap.IsTuple a vs.toArray := ⟨_, (S.has _ hm).1, rfl, c, rfl⟩
theorem St.isLst {a : Addr} {vs : List Value} {c : Nat} (S : St K p loose mean mg mb s₀ led₀ env oc cl m led mu s) (hm : (a, lstO vs c) ∈ led) : s.heap.IsList a vs.toArray := ⟨_, (S.has _ hm).1, rfl, c, rfl⟩
theorem St.isLstM {a : Addr} {vs : List Value} {c : Nat} (S : St K p loose mean mg mb s₀ led₀ env oc cl m led mu s) (hm : (a, lstO vs c) ∈ mu) : s.heap.IsList a vs.toArray := ⟨_, (S.muh _ hm).1, rfl, c, rfl⟩
theorem St.unpack {a : Addr} {vs : List Value} {c n : Nat} {Q : List Value → Shared → Prop} (S : St K p loose mean mg mb s₀ led₀ env oc cl m led mu s) (hh : A.handled = none) (hm : (a, tupO vs c) ∈ led) (hn : n = vs.length)
    (h : ∀ s', St K p loose mean mg mb s₀ led₀ env oc cl m led mu s' → Q vs s') : wpAny (model prog w) A (unpackItems (.ref a) n none) Q E s := by
  have : n = vs.toArray.size := by rw [hn]; simp
  rw [this]
  refine wpAny_unpackItems_tuple hh (S.isTup hm) fun h' hx => ?_
  exact h _ (S.made (tl := []) (fun b o e => hx b o (Nat.ne_of_lt (Heap.lt_size e)) e) Has.nil Fresh.nil)

/-- an iterator laid ready -/
structure IterAt (st : Bool) (prog : Program) (w : World) (A : Around) (led : Led) (s : Shared) (it : Value) (s₂ : Shared) (target : Expr) (tg : List Str) (n : Nat) (Bd : Nat → (Str → Option Value) → (Str → Option Value) → Prop) : Prop where
  ex : ∃ (I : Addr) (fp wr : List Addr) (Sx : Nat → Heap → Prop), it = .ref I ∧ Ext s.heap s₂.heap ∧ (∃ h tk, s₂ = { s with heap := h, toks := tk }) ∧ ((∀ b ∈ wr, s.heap.get? b = none) ∧ (st = true → ∀ i h, Sx i h → ∀ b ∈ wr, ∃ o, h.get? b = some o ∧ isSeq o = false)) ∧ Sx 0 s₂.heap ∧ (∀ b ∈ fp, b < s₂.heap.objs.size) ∧
    (∀ b ∈ fp, b ∈ wr ∨ ∃ o, (b, o) ∈ led) ∧ ∀ env oc, (∀ x ∈ tg, TgtOk env oc x) → (∀ b ∈ ownOf env oc, b ∉ fp) → Feed prog w A env oc target I fp wr n Sx Bd

theorem live_list {I ax : Addr} {items : Array Value} : ∀ (i : Nat) (h : Heap), (h.IsListIter I ax i ∧ h.IsList ax items) → ∀ b ∈ [I], ∃ o, h.get? b = some o ∧ isSeq o = false := fun i h st b hb => by
  rw [List.mem_singleton.mp hb]
  obtain ⟨o, ho, _, hd⟩ := st.1
  exact ⟨o, ho, by unfold isSeq; rw [hd]⟩
theorem live_range {I : Addr} {a c : Int} {n : Nat} : ∀ (i : Nat) (h : Heap), IsRangeIter h I (a + (i : Nat) * c) ((n : Int) - (i : Nat)) c → ∀ b ∈ [I], ∃ o, h.get? b = some o ∧ isSeq o = false := fun i h st b hb => by
  rw [List.mem_singleton.mp hb]
  exact ⟨_, st, rfl⟩

theorem live_enum {e it l : Addr} {items : Array Value} : ∀ (i : Nat) (h : Heap), ((∃ old, IsEnum h e it ((i : Nat) : Int) old) ∧ h.IsListIter it l i ∧ h.IsList l items) → ∀ b ∈ [e, it], ∃ o, h.get? b = some o ∧ isSeq o = false := fun i h st b hb => by
  obtain ⟨⟨old, he⟩, ⟨o, ho, _, hd⟩, _⟩ := st
  simp only [List.mem_cons, List.not_mem_nil, or_false] at hb
  rcases hb with rfl | rfl
  · exact ⟨_, he, rfl⟩
  · exact ⟨o, ho, by unfold isSeq; rw [hd]⟩

/-- for x in a list of the ledger -/
theorem iter_list {l : Addr} {vs : List Value} {c : Nat} {x : Str} {px : Pos} {Q : Value → Shared → Prop} (hh : A.handled = none) (hh' : Has s.heap led) (hm : (l, lstO vs c) ∈ led)
    (h : ∀ it s₂, IterAt true prog w A led s it s₂ (.Name x px) [x] vs.length (fun i m m' => ∃ v, vs[i]? = some v ∧ m' = upd m x v) → Q it s₂) : wpAny (model prog w) A (pyIter (.ref l)) Q E s := by
  have hl : s.heap.IsList l vs.toArray := ⟨_, (hh' _ hm).1, rfl, c, rfl⟩
  have hlt : l < s.heap.objs.size := Heap.lt_size (hh' _ hm).1
  refine wpAny_pyIter_list hl (h _ _ ⟨s.heap.objs.size, [s.heap.objs.size, l], [s.heap.objs.size], (fun i h => h.IsListIter s.heap.objs.size l i ∧ h.IsList l vs.toArray), rfl, Ext.push _ _, ⟨_, s.toks, rfl⟩, ⟨?_, fun _ => live_list⟩, ?_, ?_, ?_, fun env oc htg hown => ?_⟩)
  · intro b hb; rw [List.mem_singleton.mp hb]; exact fresh_size _ (Nat.le_refl _)
  · exact ⟨⟨_, Heap.get?_push_size _ rfl, rfl, rfl⟩, hl.push _⟩
  · intro b hb
    show b < (s.heap.push _).objs.size
    rw [Heap.size_push]
    simp only [List.mem_cons, List.not_mem_nil, or_false] at hb
    rcases hb with rfl | rfl
    · exact Nat.lt_succ_self _
    · exact Nat.lt_succ_of_lt hlt
  · intro b hb
    simp only [List.mem_cons, List.not_mem_nil, or_false] at hb
    rcases hb with rfl | rfl
    · exact .inl (List.mem_singleton.mpr rfl)
    · exact .inr ⟨_, hm⟩
  · have F := Feed.name (Walks.list (prog := prog) (w := w) hh s.heap.objs.size l (Nat.ne_of_lt hlt) vs.toArray) (env := env) (oc := oc) (px := px) (htg x (List.mem_singleton.mpr rfl)) hown live_list
    simpa using F

/-- for x in range(..) -/
theorem iter_range {r : Addr} {a b : Int} {t u v : Tok} {x : Str} {px : Pos} {Q : Value → Shared → Prop} (hh : A.handled = none) (hr : IsRange s.heap r a b 1 t u v) (hsm : Builtin.Range.small a b 1 = true)
    (h : ∀ it s₂, IterAt true prog w A led s it s₂ (.Name x px) [x] (b - a).toNat (fun i m m' => ∃ t, m' = upd m x (.int (a + i) t)) → Q it s₂) : wpAny (model prog w) A (pyIter (.ref r)) Q E s := by
  refine wpAny_pyIter_range hr hsm (h _ _ ⟨s.heap.objs.size, [s.heap.objs.size], [s.heap.objs.size], (fun i h => IsRangeIter h s.heap.objs.size (a + (i : Nat) * 1) (((b - a).toNat : Int) - (i : Nat)) 1), rfl, Ext.push _ _, ⟨_, s.toks, rfl⟩, ⟨?_, fun _ => live_range⟩, ?_, ?_, fun b hb => .inl hb, fun env oc htg hown => ?_⟩)
  · intro b hb; rw [List.mem_singleton.mp hb]; exact fresh_size _ (Nat.le_refl _)
  · have e1 : (a + ((0 : Nat) : Int) * 1) = a := by simp
    have e2 : (((b - a).toNat : Int) - ((0 : Nat) : Int)) = Builtin.Range.rangeSize a b 1 := by rw [rangeSize_one]; split <;> omega
    show IsRangeIter _ _ _ _ _
    rw [e1, e2]
    exact Heap.get?_push_size _ rfl
  · intro b hb
    rw [List.mem_singleton.mp hb]
    show _ < (s.heap.push _).objs.size
    rw [Heap.size_push]; exact Nat.lt_succ_self _
  · have F := Feed.name (Walks.range (prog := prog) (w := w) hh s.heap.objs.size a 1 (b - a).toNat) (env := env) (oc := oc) (px := px) (htg x (List.mem_singleton.mpr rfl)) hown live_range
    refine ⟨F.sub, F.live, F.frame, fun i s m Q E hi st hn hQ => F.item i s m Q E hi st hn fun h' tk m' hb => hQ h' tk m' ?_, F.done, F.self⟩
    obtain ⟨v, ⟨t, rfl⟩, rfl⟩ := hb
    exact ⟨t, by rw [Int.mul_one]⟩

/-- for i, x in enumerate(a list of the ledger): the call and the iterator -/
theorem iter_enum {l : Addr} {vs : List Value} {c : Nat} {xi xv : Str} {pi pv pt : Pos} {x1} {Q : Value → Shared → Prop} (hh : A.handled = none) (hh' : Has s.heap led) (hm : (l, lstO vs c) ∈ led)
    (h : ∀ it s₂, IterAt true prog w A led s it s₂ (.Tuple [.Name xi pi, .Name xv pv] x1 pt) [xi, xv] vs.length (fun i m m' => ∃ v t, vs[i]? = some v ∧ m' = upd (upd m xi (.int i t)) xv v) → Q it s₂) :
    wpAny (model prog w) A (call (.type "enumerate") [.ref l]) (fun e s₁ => wpAny (model prog w) A (pyIter e) Q E s₁) E s := by
  have hl : s.heap.IsList l vs.toArray := ⟨_, (hh' _ hm).1, rfl, c, rfl⟩
  have hlt : l < s.heap.objs.size := Heap.lt_size (hh' _ hm).1
  refine call_enumerate_list hl fun h' he hit hz hk => wpAny_pyIter_enum he (h _ _ ⟨s.heap.objs.size + 1, [s.heap.objs.size + 1, s.heap.objs.size, l], [s.heap.objs.size + 1, s.heap.objs.size], (fun i h => (∃ old, IsEnum h (s.heap.objs.size + 1) s.heap.objs.size ((i : Nat) : Int) old) ∧ h.IsListIter s.heap.objs.size l i ∧ h.IsList l vs.toArray), rfl, hk, ⟨_, s.toks, rfl⟩, ⟨?_, fun _ => live_enum⟩, ?_, ?_, ?_, fun env oc htg hown => ?_⟩)
  · intro b hb
    simp only [List.mem_cons, List.not_mem_nil, or_false] at hb
    rcases hb with rfl | rfl
    · exact fresh_size _ (Nat.le_succ _)
    · exact fresh_size _ (Nat.le_refl _)
  · exact ⟨⟨_, he⟩, hit, hl.at fun o e => hk _ o e⟩
  · intro b hb
    show b < h'.objs.size
    rw [hz]
    simp only [List.mem_cons, List.not_mem_nil, or_false] at hb
    rcases hb with rfl | rfl | rfl
    · exact Nat.lt_succ_self _
    · exact Nat.lt_succ_of_lt (Nat.lt_succ_self _)
    · exact Nat.lt_succ_of_lt (Nat.lt_succ_of_lt hlt)
  · intro b hb
    simp only [List.mem_cons, List.not_mem_nil, or_false] at hb
    rcases hb with rfl | rfl | rfl
    · exact .inl (by simp)
    · exact .inl (by simp)
    · exact .inr ⟨_, hm⟩
  · have F := Feed.enum (prog := prog) (w := w) (A := A) (env := env) (oc := oc) (xi := xi) (xv := xv) (pi := pi) (pv := pv) (pt := pt) (x1 := x1) (e := s.heap.objs.size + 1) (it := s.heap.objs.size) (l := l) (items := vs.toArray) hh (htg xi (by simp)) (htg xv (by simp))
      (Nat.succ_ne_self _) (Nat.ne_of_lt (Nat.lt_succ_of_lt hlt)) (Nat.ne_of_lt hlt) hown
    simpa using F
end
end Mine

-- Base7
namespace Mine
open Sem (wp)
section
variable {K : Frag} {p : Program} {loose : List Str} {mean : ExcName → Option Value} {mg mb : Str → Option Value} {s₀ : Shared} {led₀ : Led} {env : Env} {oc : List (Str × Addr)} {cl : List (Str × Value)} {m : Str → Option Value} {led mu : Led} {s : Shared}
  {A : Around} {E : Value → Shared → Prop} {prog : Program} {w : World} {x : Str} {v : Value} {pos : Pos}

noncomputable abbrev testsOf (prog : Program) (w : World) (A : Around) (ifs : List Expr) (cenv : Env) (Q : Bool → Shared → Prop) (E : Value → Shared → Prop) (s : Shared) : Prop :=
  wpAny (model prog w) A (forIn ifs true fun c r => if r = true then do let ok ← isTrue c cenv (eval c cenv); pure (ForInStep.yield ok) else pure (ForInStep.yield r)) Q E s

theorem comp_elt {st : Bool} {elt target : Expr} {ifs : List Expr} {scope : Scope} {clo : List (Str × Addr)} {tg : List Str} {Bd : Nat → (Str → Option Value) → (Str → Option Value) → Prop} {n : Nat} {pf : Nat → Bool} {Rl : Nat → Led → Value → Prop} {it : Value} {s₂ : Shared}
    (S : St K p loose mean mg mb s₀ led₀ env oc cl m led mu s) (cl' : List (Str × Value)) (IT : IterAt st prog w A led s it s₂ target tg n Bd)
    (htg : ∀ C, ∀ x ∈ tg, TgtOk (cenvOf scope clo env C) (ocOf scope.names C) x)
    (hcl : ∀ q ∈ cl', (∀ C, (cenvOf scope clo env C).kindOf q.1 = some .cell ∨ (cenvOf scope clo env C).kindOf q.1 = some .free) ∧ ∃ c, (∀ C, (cellsFrom (C + 1) scope.names clo).lookup q.1 = some c) ∧ s.heap.IsCell c (some q.2))
    (tests : ∀ i C m₁ m' led' s₃ E', i < n → Bd i m₁ m' → (∃ tl, led' = tl ++ led) → St K p loose mean mg mb s₃ led' (cenvOf scope clo env C) (ocOf scope.names C) cl' m' led' [] s₃ →
      testsOf prog w A ifs (cenvOf scope clo env C) (fun ok s₄ => ok = pf i ∧ Keeps s₃ s₄) E' s₃)
    (turn : ∀ i C m₁ m' led' s₃ E', i < n → pf i = true → Bd i m₁ m' → (∃ tl, led' = tl ++ led) → St K p loose mean mg mb s₃ led' (cenvOf scope clo env C) (ocOf scope.names C) cl' m' led' [] s₃ →
      wpAny (model prog w) A (eval elt (cenvOf scope clo env C)) (Made s₃ led' (Rl i)) E' s₃) :
    ∃ wr, CompAt prog w A env elt target ifs scope clo Rl led (fun _ _ => True) [] n pf it s₂ wr ∧ (∀ b ∈ wr, s.heap.get? b = none) ∧ Ext s.heap s₂.heap ∧ (∃ h tk, s₂ = { s with heap := h, toks := tk }) := by
  obtain ⟨I, fp, wr, Sx, rfl, hex, hsh, ⟨hwr, _⟩, hsx, hlt, hfp, FD⟩ := IT.ex
  have mk : ∀ {C m' s₃ tl}, Frm (cenvOf scope clo env C) (ocOf scope.names C) m' s₃.heap → ExtB ([] ++ wr) s₂.heap s₃.heap → Has s₃.heap tl →
      St K p loose mean mg mb s₃ (tl ++ led) (cenvOf scope clo env C) (ocOf scope.names C) cl' m' (tl ++ led) [] s₃ := fun {C m' s₃ tl} F hx hT => by
    have e : Ext s.heap s₃.heap := fun b o e => hx b o (fun h => by rw [List.nil_append] at h; rw [hwr b h] at e; cases e) (hex b o e)
    exact ⟨S.here.ext e, ⟨s₃.heap, s₃.toks, rfl⟩, Ext.refl _, F, fun q hq => ⟨(hcl q hq).1 C, let ⟨c, a, b⟩ := (hcl q hq).2; ⟨c, a C, b.keeps e⟩⟩, hT.append (S.has.ext e), ⟨[], rfl, Fresh.nil⟩, Has.nil, (fun _ h => nomatch h), List.nodup_nil⟩
  refine ⟨wr, ⟨I, fp, Sx, Bd, rfl, fun C hC => FD _ _ (htg C) hC, hsx, hlt, (fun _ h => nomatch h), ?_, ?_⟩, hwr, hex, hsh⟩
  · intro i C m₁ m' s₃ E' hi hB F hx hO _
    exact wpAny_mono (tests i C m₁ m' ([] ++ led) s₃ E' hi hB ⟨[], rfl⟩ (mk F hx Has.nil)) (fun ok s₄ h => ⟨h.1, h.2, fun _ => trivial⟩) fun _ _ h => h
  · intro i C m₁ m' s₃ tl E' hi hp hB F hx hO _ hT hTf
    exact wpAny_mono (turn i C m₁ m' (tl ++ led) s₃ E' hi hp hB ⟨tl, rfl⟩ (mk F hx hT)) (fun y s₄ ⟨h', tk, tl', e, ex, ht, hf, ho⟩ => ⟨h', tk, tl', e, ex.toB, trivial, ht, hf, ho⟩) fun _ _ h => h

/-- a comprehension that makes new objects alone, behind its iterator -/
theorem comp_at {st : Bool} {elt target : Expr} {ifs : List Expr} {scope : Scope} {clo : List (Str × Addr)} {tg : List Str} {Bd : Nat → (Str → Option Value) → (Str → Option Value) → Prop} {n : Nat} {pf : Nat → Bool} {Rl : Nat → Led → Value → Prop} {it : Value} {s₂ : Shared} {Q : Value → Shared → Prop}
    (S : St K p loose mean mg mb s₀ led₀ env oc cl m led mu s) (cl' : List (Str × Value)) (IT : IterAt st prog w A led s it s₂ target tg n Bd)
    (htg : ∀ C, ∀ x ∈ tg, TgtOk (cenvOf scope clo env C) (ocOf scope.names C) x)
    (hcl : ∀ q ∈ cl', (∀ C, (cenvOf scope clo env C).kindOf q.1 = some .cell ∨ (cenvOf scope clo env C).kindOf q.1 = some .free) ∧ ∃ c, (∀ C, (cellsFrom (C + 1) scope.names clo).lookup q.1 = some c) ∧ s.heap.IsCell c (some q.2))
    (tests : ∀ i C m₁ m' led' s₃ E', i < n → Bd i m₁ m' → (∃ tl, led' = tl ++ led) → St K p loose mean mg mb s₃ led' (cenvOf scope clo env C) (ocOf scope.names C) cl' m' led' [] s₃ →
      testsOf prog w A ifs (cenvOf scope clo env C) (fun ok s₄ => ok = pf i ∧ Keeps s₃ s₄) E' s₃)
    (turn : ∀ i C m₁ m' led' s₃ E', i < n → pf i = true → Bd i m₁ m' → (∃ tl, led' = tl ++ led) → St K p loose mean mg mb s₃ led' (cenvOf scope clo env C) (ocOf scope.names C) cl' m' led' [] s₃ →
      wpAny (model prog w) A (eval elt (cenvOf scope clo env C)) (Made s₃ led' (Rl i)) E' s₃)
    (hQ : ∀ D vs c s' tl, St K p loose mean mg mb s₀ led₀ env oc cl m (tl ++ led) ((D, lstO vs c) :: mu) s' → Paired (fun i y => Rl i (tl ++ led) y) ((List.range n).filter pf) vs → Q (.ref D) s') :
    ∃ wr, CompAt prog w A env elt target ifs scope clo Rl led (fun _ _ => True) [] n pf it s₂ wr ∧ (fun (_ : Nat) (_ : Heap) => True) 0 s₂.heap ∧
      (∀ D h' tk ys tl c, s₂.heap.get? D = none → h'.get? D = some (listOf ys c) → (fun (_ : Nat) (_ : Heap) => True) n h' → Has h' tl → Fresh s₂.heap tl → (∀ q ∈ tl, q.1 ≠ D) → Paired (fun i y => Rl i (tl ++ led) y) ((List.range n).filter pf) ys.toList → ExtB ([] ++ wr) s₂.heap h' →
        Q (.ref D) { s₂ with heap := h', toks := tk }) := by
  obtain ⟨wr, CA, hwr, hex, hs, tks, rfl⟩ := comp_elt S cl' IT htg hcl tests turn
  refine ⟨wr, CA, trivial, fun D h' tk ys tl c hD hl _ hT hTf hDt hP hx => ?_⟩
  obtain ⟨ys⟩ := ys
  have e : Ext s.heap h' := fun b o e => hx b o (fun h => by rw [List.nil_append] at h; rw [hwr b h] at e; cases e) (hex b o e)
  have hDs : s.heap.get? D = none := by
    cases q : s.heap.get? D with
    | none => rfl
    | some o => have := hex _ _ q; rw [hD] at this; cases this
  exact hQ D ys c _ tl (S.allocM (tk := tk) (o := lstO ys c) e hl hDs rfl hT (hTf.back hex) hDt) hP

/-- a for loop over frames' states -/
theorem for_at {target : Expr} {body : List Stmt} {tg : List Str} {Bd : Nat → (Str → Option Value) → (Str → Option Value) → Prop} {n : Nat} {it : Value} {s₂ : Shared} {R : Result → Shared → Prop}
    (S : St K p loose mean mg mb s₀ led₀ env oc [] m led mu s) (own0 : ∀ b ∈ ownOf env oc, s₀.heap.get? b = none) (IT : IterAt true prog w A led s it s₂ target tg n Bd) (htg : ∀ x ∈ tg, TgtOk env oc x)
    (Inv : Nat → (Str → Option Value) → Led → Led → Prop) (h0 : Inv 0 m led mu)
    (turn : ∀ i s₀' m₁ m₂ led₁ mu₁ s₂ E', i < n → Inv i m₁ led₁ mu₁ → Bd i m₁ m₂ → (∃ tl, led₁ = tl ++ led) → St K p loose mean mg mb s₀' led₁ env oc [] m₂ led₁ mu₁ s₂ → (∀ b ∈ ownOf env oc, s₀'.heap.get? b = none) →
      wpAny (model prog w) A (execs body env) (fun f s₃ => Hold ((f = .next ∨ f = .cont) ∧ ∃ m₃ led₃ mu₃, St K p loose mean mg mb s₀' led₁ env oc [] m₃ led₃ mu₃ s₃ ∧ Inv (i + 1) m₃ led₃ mu₃)) E' s₂)
    (hR : ∀ m' led' mu' s', St K p loose mean mg mb s₀ led₀ env oc [] m' led' mu' s' → (∃ tl, led' = tl ++ led) → Inv n m' led' mu' → R (.ok .next) s') :
    codeAny (model prog w) A (.forLoop target it body [] env) R s₂ := by
  obtain ⟨I, fp, wr, Sx, rfl, hex, ⟨hs, tks, rfl⟩, ⟨hwr, hlv⟩, hsx, hlt, hfp, FD⟩ := IT.ex
  replace hex : Ext s.heap hs := hex
  have hown : ∀ b ∈ ownOf env oc, b ∉ fp := fun b hb hf => by
    obtain ⟨o, ho, hn⟩ := S.frm.live b hb
    rcases hfp b hf with h | ⟨o', ho'⟩
    · rw [hwr b h] at ho; cases ho
    · have := S.has _ ho'
      rw [ho] at this; cases this.1
      rw [hn] at this; cases this.2
  have F := FD env oc htg hown
  -- a state with other names and the iterator moved
  have reb : ∀ {m₁ m₂ led' mu' h₁ h₂ tk₁ tk₂ i}, St K p loose mean mg mb s₀ led₀ env oc [] m₁ led' mu' { s with heap := h₁, toks := tk₁ } → Sx i h₁ → Frm env oc m₂ h₂ → (∀ b o, b ∉ wr → b ∉ ownOf env oc → h₁.get? b = some o → h₂.get? b = some o) →
      St K p loose mean mg mb s₀ led₀ env oc [] m₂ led' mu' { s with heap := h₂, toks := tk₂ } := fun {m₁ m₂ led' mu' h₁ h₂ tk₁ tk₂ i} S₁ hx F₂ hk => by
    have nw : ∀ {l}, Has h₁ l → ∀ q ∈ l, q.1 ∉ wr := fun H q hq hb => by
      obtain ⟨o, ho, hn⟩ := hlv rfl _ _ hx _ hb
      have := H q hq
      rw [ho] at this; cases this.1
      rw [hn] at this; cases this.2
    refine ⟨S₁.amb, ?_, fun b o e => hk b o (fun hb => ?_) (fun hb => by rw [own0 b hb] at e; cases e) (S₁.ext b o e), F₂, (fun _ h => nomatch h), S₁.has.via fun q hq o => hk _ o (nw S₁.has q hq) (S₁.frm.notHas S₁.has q hq), S₁.new,
      S₁.muh.via fun q hq o => hk _ o (nw S₁.muh q hq) (S₁.frm.notHas S₁.muh q hq), S₁.muf, S₁.mun⟩
    · obtain ⟨h, t, e⟩ := S₁.same
      refine ⟨h₂, tk₂, ?_⟩
      have e1 := congrArg Shared.gens e
      have e2 := congrArg Shared.drawn e
      have e3 := congrArg Shared.os e
      simp only at e1 e2 e3
      rw [e1, e2, e3]
    · have := S.ext b o e; rw [hwr b hb] at this; cases this
  refine for_block F (fun i m' h' => ∃ led' mu', (∀ tk, St K p loose mean mg mb s₀ led₀ env oc [] m' led' mu' { s with heap := h', toks := tk }) ∧ (∃ tl, led' = tl ++ led) ∧ Inv i m' led' mu') hsx (S.frm.ext hex) hown
    ⟨led, mu, fun tk => by simpa using S.made (tl := []) hex Has.nil Fresh.nil, ⟨[], rfl⟩, h0⟩ ?_ ?_
  · rintro i m₁ m₂ h₁ tk₁ s₂ E' hi ⟨led₁, mu₁, S₁, ⟨tl₁, hl₁⟩, hI⟩ hF₁ hx₁ hB hF₂ hs₂ hk₂ hx₂
    obtain ⟨h₂, g₂, d₂, t₂, o₂⟩ := s₂
    cases hs₂
    replace hk₂ : ∀ b o, b ∉ wr → b ∉ ownOf env oc → h₁.get? b = some o → h₂.get? b = some o := hk₂
    replace hF₂ : Frm env oc m₂ h₂ := hF₂
    replace hx₂ : Sx (i + 1) h₂ := hx₂
    have S₂ : St K p loose mean mg mb s₀ led₀ env oc [] m₂ led₁ mu₁ { s with heap := h₂, toks := tk₁ } := reb (S₁ 0) hx₁ hF₂ hk₂
    let hid : List Addr := ownOf env oc ++ mu₁.map (·.1)
    let s₀' : Shared := { s with heap := hideAll h₂ hid, toks := tk₁ }
    have hidS : ∀ b o, s₀.heap.get? b = some o → b ∉ hid := fun b o e hb => by
      rcases List.mem_append.mp hb with hb | hb
      · rw [own0 b hb] at e; cases e
      · obtain ⟨q, hq, rfl⟩ := List.mem_map.mp hb
        rw [(S₂.muf q hq).1] at e; cases e
    have e0 : Ext s₀.heap s₀'.heap := fun b o e => hideAll_get hid (S₂.ext b o e) (hidS b o e)
    have e2 : Ext s₀'.heap h₂ := fun b o e => of_hideAll hid e
    have S₃ : St K p loose mean mg mb s₀' led₁ env oc [] m₂ led₁ mu₁ { s with heap := h₂, toks := tk₁ } :=
      ⟨S₂.amb.ext e0, ⟨h₂, tk₁, rfl⟩, e2, hF₂, (fun _ h => nomatch h), S₂.has, ⟨[], rfl, Fresh.nil⟩, S₂.muh, fun q hq => ⟨hideAll_none hid (List.mem_append_right _ (List.mem_map_of_mem hq)), (S₂.muf q hq).2⟩, S₂.mun⟩
    have own0' : ∀ b ∈ ownOf env oc, s₀'.heap.get? b = none := fun b hb => hideAll_none hid (List.mem_append_left _ hb)
    refine wpAny_mono (turn i s₀' m₁ m₂ led₁ mu₁ _ E' hi hI hB ⟨tl₁, hl₁⟩ S₃ own0') (fun f s₃ ⟨hf, m₃, led₃, mu₃, S₄, hI₃⟩ => ?_) fun _ _ h => h
    obtain ⟨h₃, tk₃, hs₃⟩ := S₄.same
    subst hs₃
    refine ⟨hf, ⟨h₃, tk₃, rfl⟩, ⟨m₃, S₄.frm, led₃, mu₃, fun tk => ?_, ?_, hI₃⟩, fun b hb o e => ?_⟩
    · refine ⟨S₂.amb, ?_, e0.trans S₄.ext, S₄.frm, (fun _ h => nomatch h), S₄.has, ?_, S₄.muh, fun q hq => ⟨?_, (S₄.muf q hq).2⟩, S₄.mun⟩
      · obtain ⟨h, t, e⟩ := S.same
        exact ⟨h₃, tk, by rw [e]⟩
      · obtain ⟨tl, e, hfr⟩ := S₄.new
        obtain ⟨tl', e', hfr'⟩ := S₂.new
        exact ⟨tl ++ tl', by rw [e, e', List.append_assoc], (hfr.back e0).append hfr'⟩
      · cases q0 : s₀.heap.get? q.1 with
        | none => rfl
        | some o => have := e0 _ _ q0; rw [(S₄.muf q hq).1] at this; cases this
    · obtain ⟨tl, e, _⟩ := S₄.new
      exact ⟨tl ++ tl₁, by rw [e, hl₁, List.append_assoc]⟩
    · refine S₄.ext b o (hideAll_get hid e fun hh => ?_)
      rcases List.mem_append.mp hh with hh | hh
      · exact hown b hh hb
      · obtain ⟨q, hq, rfl⟩ := List.mem_map.mp hh
        rcases hfp _ hb with h | ⟨o', ho'⟩
        · obtain ⟨o2, ho2, hn⟩ := hlv rfl _ _ hx₂ _ h
          have := S₂.muh q hq
          rw [ho2] at this; cases this.1
          rw [hn] at this; cases this.2
        · exact (S₂.muf q hq).2 (q.1, o') (by rw [hl₁]; exact List.mem_append_right _ ho') rfl
  · rintro m' h₁ h' tk ⟨led', mu', S₁, hl, hI⟩ hx hF₁ hk hF'
    exact hR m' led' mu' _ (reb (S₁ 0) hx hF' (fun b o hb _ => hk b o hb)) hl hI

theorem while_at {test : Expr} {body : List Stmt} {R : Result → Shared → Prop} {n : Nat}
    (S : St K p loose mean mg mb s₀ led₀ env oc [] m led mu s) (Inv : Nat → (Str → Option Value) → Prop) (h0 : Inv n m)
    (turn : ∀ n m₁ led₁ mu₁ s₁ E', St K p loose mean mg mb s₀ led₀ env oc [] m₁ led₁ mu₁ s₁ → Inv n m₁ →
      wpAny (model prog w) A (isTrue test env (eval test env)) (fun b s₂ => if b then
          wpAny (model prog w) A (execs body env) (fun f s₃ => Hold (f = .next ∧ ∃ k m₃ led₃ mu₃, k < n ∧ St K p loose mean mg mb s₀ led₀ env oc [] m₃ led₃ mu₃ s₃ ∧ Inv k m₃)) E' s₂
        else R (.ok .next) s₂) E' s₁) : codeAny (model prog w) A (.whileLoop test body [] env) R s := by
  refine codeAny_whileLoop (fun k s' => ∃ m₁ led₁ mu₁, St K p loose mean mg mb s₀ led₀ env oc [] m₁ led₁ mu₁ s' ∧ Inv k m₁) ?_ n ⟨m, led, mu, S, h0⟩
  rintro k s' ⟨m₁, led₁, mu₁, S₁, hI⟩
  refine wpAny_mono (turn k m₁ led₁ mu₁ s' _ S₁ hI) (fun b s₂ h => ?_) fun _ _ h => h
  cases b with
  | false => exact wpAny_execs_nil h
  | true =>
    refine wpAny_mono h (fun f s₃ ⟨hf, k', m₃, led₃, mu₃, hk, S₃, hI₃⟩ => ?_) fun _ _ h => h
    subst hf
    exact ⟨k', hk, m₃, led₃, mu₃, S₃, hI₃⟩
end
end Mine

-- Rel
namespace Mine

/-- v is the pair of q's numbers -/
inductive RatIn (l : Led) : Value → Rat → Prop
  | mem {a : Addr} {q : Rat} {t1 t2 : Tok} {c : Nat} : (a, tupO [.int q.num t1, .int q.den t2] c) ∈ l → RatIn l (.ref a) q
  | zero : RatIn l (.ref 42) 0
  | one : RatIn l (.ref 43) 1
theorem RatIn.sub {l l' : Led} {v : Value} {q : Rat} (h : RatIn l v q) (s : ∀ p ∈ l, p ∈ l') : RatIn l' v q := by
  cases h with
  | mem h => exact .mem (s _ h)
  | zero => exact .zero
  | one => exact .one
theorem RatIn.app {l t : Led} {v : Value} {q : Rat} (h : RatIn l v q) : RatIn (t ++ l) v q := h.sub fun _ hp => List.mem_append_right _ hp
theorem RatIn.cons {l : Led} {p : Addr × Obj} {v : Value} {q : Rat} (h : RatIn l v q) : RatIn (p :: l) v q := h.sub fun _ hp => List.mem_cons_of_mem _ hp

/-- a bound of a rational's two numbers -/
structure RB (k : Nat) (q : Rat) : Prop where
  num : q.num.natAbs ≤ 2 ^ k
  den : q.den ≤ 2 ^ k
noncomputable abbrev big : Nat := 1000000
theorem RB.mono {k k' : Nat} {q : Rat} (h : RB k q) (hk : k ≤ k') : RB k' q :=
  ⟨Nat.le_trans h.num (Nat.pow_le_pow_right (by decide) hk), Nat.le_trans h.den (Nat.pow_le_pow_right (by decide) hk)⟩
theorem intBits_of {i : Int} {k : Nat} (h : i.natAbs ≤ 2 ^ k) : Builtin.Int.intBits i ≤ k + 1 := by
  unfold Builtin.Int.intBits
  split
  · exact Nat.zero_le _
  · rename_i h0
    have h0' : i.natAbs ≠ 0 := by simpa using h0
    have : i.natAbs.log2 < k + 1 := (Nat.log2_lt h0').mpr (Nat.lt_of_le_of_lt h (Nat.pow_lt_pow_right (by decide) (Nat.lt_succ_self k)))
    omega
theorem mulOk {a b : Int} {k j : Nat} (ha : a.natAbs ≤ 2 ^ k) (hb : b.natAbs ≤ 2 ^ j) (hk : k ≤ big) (hj : j ≤ big) : IntMulOk a b := by
  refine IntMulOk.of_bits (Nat.le_trans (intBits_of ha) ?_) (Nat.le_trans (intBits_of hb) ?_) <;> (have e : (2 : Nat) ^ 20 = 1048576 := by decide) <;> (unfold big at *) <;> omega

section
variable {K : Frag} {p : Program} {loose : List Str} {mean : ExcName → Option Value} {mg mb : Str → Option Value} {s₀ : Shared} {led₀ : Led} {env : Env} {oc : List (Str × Addr)} {cl : List (Str × Value)} {m : Str → Option Value} {led mu : Led} {s : Shared}
  {A : Around} {E : Value → Shared → Prop} {prog : Program} {w : World} {x : Str} {v : Value} {pos : Pos}
theorem St.ratTup {q : Rat} (S : St K p loose mean mg mb s₀ led₀ env oc cl m led mu s) (h0 : K.lookup 42 = some (tupO [.int 0 232, .int 1 233] 0)) (h1 : K.lookup 43 = some (tupO [.int 1 235, .int 1 236] 0)) (h : RatIn led v q) :
    ∃ a t1 t2, v = .ref a ∧ IsTup s.heap a [Value.int q.num t1, Value.int q.den t2].toArray := by
  cases h with
  | @mem a q t1 t2 c hm => exact ⟨a, t1, t2, rfl, _, (S.has _ hm).1, rfl, c, rfl⟩
  | zero => exact ⟨42, 232, 233, rfl, _, S.kin _ _ h0, rfl, 0, rfl⟩
  | one => exact ⟨43, 235, 236, rfl, _, S.kin _ _ h1, rfl, 0, rfl⟩
/-- x[0] and x[1] of a rational -/
theorem St.rat0 {q : Rat} {value slice : Expr} {u : Tok} {Q : Value → Shared → Prop} (S : St K p loose mean mg mb s₀ led₀ env oc cl m led mu s) (h0 : K.lookup 42 = some (tupO [.int 0 232, .int 1 233] 0)) (h1 : K.lookup 43 = some (tupO [.int 1 235, .int 1 236] 0)) (hr : RatIn led v q)
    (h : ∀ t, Q (.int q.num t) s) (hs : ∀ a, subscripted slice false (.ref a) (.int 0 u) = operate [.ref a, .int 0 u] (getItem (.ref a) (.int 0 u)) := by intro _; with_unfolding_all rfl) :
    wpAny (model prog w) A (subscriptTail value slice v (.int 0 u)) Q E s := by
  obtain ⟨a, t1, t2, rfl, ht⟩ := S.ratTup h0 h1 hr
  exact item_tupleT ht (by decide) (by decide) (j := 0) rfl rfl (h t1) (hs a)
theorem St.rat1 {q : Rat} {value slice : Expr} {u : Tok} {Q : Value → Shared → Prop} (S : St K p loose mean mg mb s₀ led₀ env oc cl m led mu s) (h0 : K.lookup 42 = some (tupO [.int 0 232, .int 1 233] 0)) (h1 : K.lookup 43 = some (tupO [.int 1 235, .int 1 236] 0)) (hr : RatIn led v q)
    (h : ∀ t, Q (.int q.den t) s) (hs : ∀ a, subscripted slice false (.ref a) (.int 1 u) = operate [.ref a, .int 1 u] (getItem (.ref a) (.int 1 u)) := by intro _; with_unfolding_all rfl) :
    wpAny (model prog w) A (subscriptTail value slice v (.int 1 u)) Q E s := by
  obtain ⟨a, t1, t2, rfl, ht⟩ := S.ratTup h0 h1 hr
  exact item_tupleT ht (by decide) (by decide) (j := 1) rfl rfl (h t2) (hs a)

theorem St.fdiv {a b : Int} {t u : Tok} {e : Env} {l : List Env} {Q : Value → Shared → Prop} (S : St K p loose mean mg mb s₀ led₀ env oc cl m led mu s) (hA : A.handled = none) (hfr : A.frames = some (e :: l)) (hgen : e.scope.isGenerator = false) (hco : e.scope.isCoroutine = false)
    (hbn : e.builtins = builtinsNs) (hg : e.globals = mainGlobals) (hd : A.depth + 100 < recursionLimit) (himp : importsNone p = true) (hpt : prog.given.tree = none) (hb : b ≠ 0) (h : ∀ t' k, Q (.int (a.fdiv b) t') { s with toks := k }) :
    wpAny (model prog w) A (binaryOp .FloorDiv (.int a t) (.int b u)) Q E s :=
  floordiv_int_or hA (fun e => absurd e hb) (fun _ => h _ _) fun _ => Or.inr (PylongRoom.of S.here.top.nolimit hd (SeerAt.of (S.here.top.seer himp) hpt hfr hgen hco hbn hg))
end

theorem divInt_parts {a b : Int} (hb : b ≠ 0) : (b > 0 → (Rat.divInt a b).num = a.fdiv (Int.gcd a b) ∧ ((Rat.divInt a b).den : Int) = b.fdiv (Int.gcd a b)) ∧
    (¬ b > 0 → (Rat.divInt a b).num = a.fdiv (0 - (Int.gcd a b : Int)) ∧ ((Rat.divInt a b).den : Int) = b.fdiv (0 - (Int.gcd a b : Int))) := by
  have hgn : Int.gcd a b ≠ 0 := fun h => hb (Int.gcd_eq_zero_iff.mp h).2
  have hg : (Int.gcd a b : Int) ≠ 0 := by exact_mod_cast hgn
  rw [Rat.num_divInt, Rat.den_divInt, if_neg hb, Int.gcd_comm b a]
  obtain ⟨k, hk⟩ : (Int.gcd a b : Int) ∣ a := Int.gcd_dvd_left a b
  obtain ⟨j, hj⟩ : (Int.gcd a b : Int) ∣ b := Int.gcd_dvd_right a b
  have hgp : 0 < (Int.gcd a b : Int) := by omega
  generalize Int.gcd a b = g at *
  have hden : ((b.natAbs / g : Nat) : Int) = (j.natAbs : Int) := by
    have : b.natAbs = g * j.natAbs := by rw [hj, Int.natAbs_mul, Int.natAbs_natCast]
    rw [this, Nat.mul_div_cancel_left _ (by omega)]
  constructor
  · intro h
    have hjp : 0 < j := by
      rcases Int.lt_or_le 0 j with h' | h'
      · exact h'
      · have := Int.mul_nonpos_of_nonneg_of_nonpos (Int.le_of_lt hgp) h'
        omega
    rw [hden, Int.sign_eq_one_of_pos h, Int.one_mul, hk, hj, Int.mul_ediv_cancel_left _ hg, Int.mul_fdiv_cancel_left _ hg, Int.mul_fdiv_cancel_left _ hg]
    exact ⟨rfl, by omega⟩
  · intro h
    have hbn : b < 0 := by omega
    have hjn : j < 0 := by
      rcases Int.lt_or_le j 0 with h' | h'
      · exact h'
      · have := Int.mul_nonneg (Int.le_of_lt hgp) h'
        omega
    have hg' : (0 - (g : Int)) ≠ 0 := by omega
    have e1 : a = (0 - (g : Int)) * (-k) := by rw [hk]; grind
    have e2 : b = (0 - (g : Int)) * (-j) := by rw [hj]; grind
    rw [hden, Int.sign_eq_neg_one_of_neg hbn]
    constructor
    · have : -1 * a = (g : Int) * (-k) := by rw [hk]; grind
      rw [this, Int.mul_ediv_cancel_left _ hg]
      conv => rhs; rw [e1]
      rw [Int.mul_fdiv_cancel_left _ hg']
    · conv => rhs; rw [e2]
      rw [Int.mul_fdiv_cancel_left _ hg']
      omega
theorem rat_add (x y : Rat) : Rat.divInt (x.num * y.den + y.num * x.den) (x.den * y.den) = x + y := by
  conv => rhs; rw [← Rat.num_divInt_den x, ← Rat.num_divInt_den y]
  rw [Rat.divInt_add_divInt _ _ (by have := x.den_nz; omega) (by have := y.den_nz; omega)]
theorem rat_sub (x y : Rat) : Rat.divInt (x.num * y.den - y.num * x.den) (x.den * y.den) = x - y := by
  conv => rhs; rw [← Rat.num_divInt_den x, ← Rat.num_divInt_den y]
  rw [Rat.divInt_sub_divInt _ _ (by have := x.den_nz; omega) (by have := y.den_nz; omega)]
theorem rat_mul (x y : Rat) : Rat.divInt (x.num * y.num) (x.den * y.den) = x * y := by
  conv => rhs; rw [← Rat.num_divInt_den x, ← Rat.num_divInt_den y]
  rw [Rat.divInt_mul_divInt]
theorem rat_div (x y : Rat) : Rat.divInt (x.num * y.den) (x.den * y.num) = x / y := by
  conv => rhs; rw [← Rat.num_divInt_den x, ← Rat.num_divInt_den y]
  rw [Rat.div_def, Rat.inv_divInt, Rat.divInt_mul_divInt]
theorem rat_neg (x : Rat) : (-x).num = 0 - x.num ∧ (-x).den = x.den := ⟨by rw [Rat.neg_num]; omega, by rw [Rat.neg_den]⟩
theorem rat_step (n : Int) : (n : Rat).num = n ∧ (n : Rat).den = 1 := ⟨Rat.num_intCast n, Rat.den_intCast n⟩

theorem den_ne (x : Rat) : (x.den : Int) ≠ 0 := by have := x.den_nz; omega
theorem num_ne {x : Rat} (h : x ≠ 0) : x.num ≠ 0 := fun e => h (Rat.num_eq_zero.mp e)
theorem mul_ne {a b : Int} (ha : a ≠ 0) (hb : b ≠ 0) : a * b ≠ 0 := Int.mul_ne_zero ha hb
theorem RB.nd {x y : Rat} (hx : RB big x) (hy : RB big y) : IntMulOk x.num y.den := mulOk hx.num (by simpa using hy.den) (Nat.le_refl _) (Nat.le_refl _)
theorem RB.dn {x y : Rat} (hx : RB big x) (hy : RB big y) : IntMulOk x.den y.num := mulOk (by simpa using hx.den) hy.num (Nat.le_refl _) (Nat.le_refl _)
theorem RB.nn {x y : Rat} (hx : RB big x) (hy : RB big y) : IntMulOk x.num y.num := mulOk hx.num hy.num (Nat.le_refl _) (Nat.le_refl _)
theorem RB.dd {x y : Rat} (hx : RB big x) (hy : RB big y) : IntMulOk x.den y.den := mulOk (by simpa using hx.den) (by simpa using hy.den) (Nat.le_refl _) (Nat.le_refl _)
end Mine

-- Rel2
namespace Mine

theorem boot_len : bootBuiltins "len" = some (.builtin "len") := by decide +kernel
noncomputable def SeqIn {α : Type} (R : Led → Value → α → Prop) (l : Led) (v : Value) (xs : List α) : Prop := ∃ a vs c, v = .ref a ∧ (a, lstO vs c) ∈ l ∧ Paired (R l) vs xs
noncomputable abbrev RowIn := SeqIn RatIn
noncomputable abbrev MatIn := SeqIn RowIn
noncomputable def IntIn (_ : Led) (v : Value) (i : Int) : Prop := ∃ t, v = .int i t
noncomputable abbrev IntsIn := SeqIn IntIn
noncomputable def PairIn (l : Led) (v : Value) (i j : Int) : Prop := ∃ a t1 t2 c, v = .ref a ∧ (a, tupO [.int i t1, .int j t2] c) ∈ l

theorem SeqIn.sub {α : Type} {R : Led → Value → α → Prop} (hR : ∀ {l l' v x}, R l v x → (∀ p ∈ l, p ∈ l') → R l' v x) {l l' : Led} {v : Value} {xs : List α} (h : SeqIn R l v xs) (s : ∀ p ∈ l, p ∈ l') : SeqIn R l' v xs :=
  let ⟨a, vs, c, e, hm, hp⟩ := h; ⟨a, vs, c, e, s _ hm, Paired.imp (fun _ _ h => hR h s) hp⟩
theorem rowSub {l l' : Led} {v : Value} {r : List Rat} (h : RowIn l v r) (s : ∀ p ∈ l, p ∈ l') : RowIn l' v r := SeqIn.sub (R := RatIn) (fun h => h.sub) h s
theorem matSub {l l' : Led} {v : Value} {M : List (List Rat)} (h : MatIn l v M) (s : ∀ p ∈ l, p ∈ l') : MatIn l' v M := SeqIn.sub (R := RowIn) (fun h => rowSub h) h s
theorem intSub {l l' : Led} {v : Value} {i : Int} (h : IntIn l v i) (_ : ∀ p ∈ l, p ∈ l') : IntIn l' v i := h
theorem intsSub {l l' : Led} {v : Value} {r : List Int} (h : IntsIn l v r) (s : ∀ p ∈ l, p ∈ l') : IntsIn l' v r := SeqIn.sub (R := IntIn) (fun h => intSub h) h s
theorem PairIn.sub {l l' : Led} {v : Value} {i j : Int} (h : PairIn l v i j) (s : ∀ p ∈ l, p ∈ l') : PairIn l' v i j := let ⟨a, t1, t2, c, e, hm⟩ := h; ⟨a, t1, t2, c, e, s _ hm⟩
theorem subApp {l t : Led} : ∀ p ∈ l, p ∈ t ++ l := fun _ hp => List.mem_append_right _ hp
theorem subCons {l : Led} {q : Addr × Obj} : ∀ p ∈ l, p ∈ q :: l := fun _ hp => List.mem_cons_of_mem _ hp

theorem pairedAt {α β : Type} {F : α → β → Prop} : ∀ {l₁ : List α} {l₂ : List β} {i : Nat} {b : β}, Paired F l₁ l₂ → l₂[i]? = some b → ∃ a, l₁[i]? = some a ∧ F a b
  | _, _, _, _, .nil, h => by simp at h
  | _, _, 0, _, .cons h _, e => by simp at e; subst e; exact ⟨_, rfl, h⟩
  | _, _, i + 1, _, .cons _ t, e => by simp at e; simpa using pairedAt t e
theorem pairedAt' {α β : Type} {F : α → β → Prop} : ∀ {l₁ : List α} {l₂ : List β} {i : Nat} {a : α}, Paired F l₁ l₂ → l₁[i]? = some a → ∃ b, l₂[i]? = some b ∧ F a b
  | _, _, _, _, .nil, h => by simp at h
  | _, _, 0, _, .cons h _, e => by simp at e; subst e; exact ⟨_, rfl, h⟩
  | _, _, i + 1, _, .cons _ t, e => by simp at e; simpa using pairedAt' t e
/-- a comprehension's result, from its turns -/
theorem paired_range {α : Type} {G : Value → α → Prop} {P : Nat → Value → Prop} (f : Nat → α) (h : ∀ i y, P i y → G y (f i)) : ∀ {is : List Nat} {ys : List Value}, Paired P is ys → Paired G ys (is.map f)
  | _, _, .nil => .nil
  | _, _, .cons hp t => .cons (h _ _ hp) (paired_range f h t)
theorem filter_true {l : List Nat} : l.filter (fun _ => true) = l := by simp

section
variable {K : Frag} {p : Program} {loose : List Str} {mean : ExcName → Option Value} {mg mb : Str → Option Value} {s₀ : Shared} {led₀ : Led} {env : Env} {oc : List (Str × Addr)} {cl : List (Str × Value)} {m : Str → Option Value} {led mu : Led} {s : Shared}
  {A : Around} {E : Value → Shared → Prop} {prog : Program} {w : World} {x : Str} {v : Value} {pos : Pos}

theorem St.item {α : Type} {R : Led → Value → α → Prop} {xs : List α} {x : α} {k : Int} {u : Tok} {value slice : Expr} {Q : Value → Shared → Prop} (S : St K p loose mean mg mb s₀ led₀ env oc cl m led mu s) (hq : SeqIn R led v xs) (h0 : 0 ≤ k) (hk : k < 2 ^ 63)
    (hx : xs[k.toNat]? = some x) (h : ∀ v', R led v' x → Q v' s) (hs : ∀ a, subscripted slice false (.ref a) (.int k u) = operate [.ref a, .int k u] (getItem (.ref a) (.int k u)) := by intro _; with_unfolding_all rfl) :
    wpAny (model prog w) A (subscriptTail value slice v (.int k u)) Q E s := by
  obtain ⟨a, vs, c, rfl, hm, hp⟩ := hq
  obtain ⟨y, hy, hR⟩ := pairedAt hp hx
  exact item_litK (S.isLst hm) h0 hk hy (h y hR) (hs a)
theorem St.len {α : Type} {R : Led → Value → α → Prop} {xs : List α} {Q : Value → Shared → Prop} (S : St K p loose mean mg mb s₀ led₀ env oc cl m led mu s) (hq : SeqIn R led v xs) (hk : xs.length < 2 ^ 62)
    (h : ∀ t k, Q (.int xs.length t) { s with toks := k }) : wpAny (model prog w) A (PySem.call (.builtin "len") [v]) Q E s := by
  obtain ⟨a, vs, c, rfl, hm, hp⟩ := hq
  have e : vs.toArray.size = xs.length := by simp [hp.length]
  refine len_list (S.isLst hm) (by rw [e]; omega) ?_
  rw [e]; exact h _ _
theorem St.pair0 {i j : Int} {u : Tok} {value slice : Expr} {Q : Value → Shared → Prop} (S : St K p loose mean mg mb s₀ led₀ env oc cl m led mu s) (hq : PairIn led v i j)
    (h : ∀ t, Q (.int i t) s) (hs : ∀ a, subscripted slice false (.ref a) (.int 0 u) = operate [.ref a, .int 0 u] (getItem (.ref a) (.int 0 u)) := by intro _; with_unfolding_all rfl) :
    wpAny (model prog w) A (subscriptTail value slice v (.int 0 u)) Q E s := by
  obtain ⟨a, t1, t2, c, rfl, hm⟩ := hq
  exact item_tupleT (S.isTup hm) (by decide) (by decide) (j := 0) rfl rfl (h t1) (hs a)
theorem St.pair1 {i j : Int} {u : Tok} {value slice : Expr} {Q : Value → Shared → Prop} (S : St K p loose mean mg mb s₀ led₀ env oc cl m led mu s) (hq : PairIn led v i j)
    (h : ∀ t, Q (.int j t) s) (hs : ∀ a, subscripted slice false (.ref a) (.int 1 u) = operate [.ref a, .int 1 u] (getItem (.ref a) (.int 1 u)) := by intro _; with_unfolding_all rfl) :
    wpAny (model prog w) A (subscriptTail value slice v (.int 1 u)) Q E s := by
  obtain ⟨a, t1, t2, c, rfl, hm⟩ := hq
  exact item_tupleT (S.isTup hm) (by decide) (by decide) (j := 1) rfl rfl (h t2) (hs a)

theorem reads_pair {a : Addr} {i j : Int} {t1 t2 : Tok} {h : Heap} (ht : IsTup h a [Value.int i t1, Value.int j t2].toArray) : Reads h (.ref a) (.tuple [.int i, .int j]) ([] ++ ([] ++ [])) := by
  obtain ⟨o, ho, hc, n, hd⟩ := ht
  exact Reads.tuple ho hc hd (ReadsAll.cons (Reads.int i t1) (ReadsAll.cons (Reads.int j t2) ReadsAll.nil))
theorem eqv_pair {i j k l : Int} : PyData.eqv (.tuple [.int i, .int j]) (.tuple [.int k, .int l]) = decide (i = k ∧ j = l) := by
  simp [PyData.eqv, PyData.eqvAll]
  by_cases h1 : i = k <;> by_cases h2 : j = l <;> simp [h1, h2]
theorem St.eqPair {va vb : Value} {i j k l : Int} {Q : Value → Shared → Prop} (S : St K p loose mean mg mb s₀ led₀ env oc cl m led mu s) (ha : PairIn led va i j) (hb : PairIn led vb k l) (hu : A.units + 64 < cLine) (h : Q (.bool (decide (i = k ∧ j = l))) s) :
    wpAny (model prog w) A (compareOp .Eq va vb) Q E s := by
  obtain ⟨a, t1, t2, c, rfl, hm⟩ := ha
  obtain ⟨b, t3, t4, c', rfl, hm'⟩ := hb
  refine eq_dataH (reads_pair (S.isTup hm)) (reads_pair (S.isTup hm')) rfl rfl hu ?_
  rw [eqv_pair]; exact h
/-- a rational against R0 -/
theorem St.neZero {q : Rat} {Q : Value → Shared → Prop} (S : St K p loose mean mg mb s₀ led₀ env oc cl m led mu s) (h0 : K.lookup 42 = some (tupO [.int 0 232, .int 1 233] 0)) (h1 : K.lookup 43 = some (tupO [.int 1 235, .int 1 236] 0)) (hr : RatIn led v q) (hu : A.units + 64 < cLine)
    (h : Q (.bool (decide (q ≠ 0))) s) : wpAny (model prog w) A (compareOp .NotEq v (.ref 42)) Q E s := by
  obtain ⟨a, t1, t2, rfl, ht⟩ := S.ratTup h0 h1 hr
  have hz : IsTup s.heap 42 [Value.int 0 232, Value.int 1 233].toArray := ⟨_, S.kin _ _ h0, rfl, 0, rfl⟩
  refine ne_dataH (reads_pair ht) (reads_pair hz) rfl rfl hu ?_
  have e : (!PyData.eqv (.tuple [.int q.num, .int q.den]) (.tuple [.int 0, .int 1])) = decide (q ≠ 0) := by
    rw [eqv_pair]
    by_cases hq : q = 0
    · subst hq; decide
    · have : q.num ≠ 0 := num_ne hq
      simp [this, hq]
  rw [e]; exact h

theorem St.range1 {n : Int} {t : Tok} {Q : Value → Shared → Prop} (S : St K p loose mean mg mb s₀ led₀ env oc cl m led mu s) (h : ∀ r s' t1 t2 t3, St K p loose mean mg mb s₀ led₀ env oc cl m led mu s' → IsRange s'.heap r 0 n 1 t1 t2 t3 → Q (.ref r) s') :
    wpAny (model prog w) A (PySem.call (.type "range") [.int n t]) Q E s :=
  call_range_1 (h _ _ _ _ _ (S.made (tl := []) (Ext.push _ _) Has.nil Fresh.nil) (IsRange.new ..))
theorem St.range2 {a n : Int} {t t' : Tok} {Q : Value → Shared → Prop} (S : St K p loose mean mg mb s₀ led₀ env oc cl m led mu s) (h : ∀ r s' t1 t2 t3, St K p loose mean mg mb s₀ led₀ env oc cl m led mu s' → IsRange s'.heap r a n 1 t1 t2 t3 → Q (.ref r) s') :
    wpAny (model prog w) A (PySem.call (.type "range") [.int a t', .int n t]) Q E s :=
  call_range_2 (h _ _ _ _ _ (S.made (tl := []) (Ext.push _ _) Has.nil Fresh.nil) (IsRange.new ..))
theorem St.cellAt {x : Str} {c : Addr} {v : Value} (S : St K p loose mean mg mb s₀ led₀ env oc cl m led mu s) (hq : (x, c) ∈ oc) (hm : m x = some v) : s.heap.IsCell c (some v) := hm ▸ S.frm.cel _ hq
theorem tests_nil {prog : Program} {w : World} {A : Around} {cenv : Env} {E : Value → Shared → Prop} {s : Shared} : testsOf prog w A [] cenv (fun ok s₄ => ok = true ∧ Keeps s s₄) E s :=
  wpAny_tests_nil ⟨rfl, _, _, rfl, fun _ _ e => e⟩
theorem small_lt {n : Int} (h0 : 0 ≤ n) (h : n < 2 ^ 40) : Builtin.Range.small 0 n 1 = true := small_one (by decide) (by decide) (by omega) (by omega)
theorem small_lt2 {a n : Int} (h0 : 0 ≤ a) (h0' : a < 2 ^ 40) (h1 : 0 ≤ n) (h : n < 2 ^ 40) : Builtin.Range.small a n 1 = true := small_one (by omega) (by omega) (by omega) (by omega)
end
end Mine

-- Base8
namespace Mine
open Sem (wp)
section
variable {K : Frag} {p : Program} {loose : List Str} {mean : ExcName → Option Value} {mg mb : Str → Option Value} {s₀ : Shared} {led₀ : Led} {env : Env} {oc : List (Str × Addr)} {cl : List (Str × Value)} {m : Str → Option Value} {led mu : Led} {s : Shared}
  {A : Around} {E : Value → Shared → Prop} {prog : Program} {w : World} {pos : Pos}

noncomputable abbrev CloOk (scope : Scope) (env : Env) (clo : List (Str × Addr)) (s : Shared) (cl' : List (Str × Value)) : Prop :=
  ∀ q ∈ cl', (∀ C, (cenvOf scope clo env C).kindOf q.1 = some .cell ∨ (cenvOf scope clo env C).kindOf q.1 = some .free) ∧ ∃ c, (∀ C, (cellsFrom (C + 1) scope.names clo).lookup q.1 = some c) ∧ s.heap.IsCell c (some q.2)

/-- what a comprehension wants of the state behind its iterator -/
noncomputable abbrev CompGoal (prog : Program) (w : World) (A : Around) (env : Env) (elt target : Expr) (ifs : List Expr) (scope : Scope) (clo : List (Str × Addr)) (Rl : Nat → Led → Value → Prop) (led : Led) (n : Nat) (pf : Nat → Bool) (Q : Value → Shared → Prop) (it : Value) (s₂ : Shared) : Prop :=
  ∃ wr, CompAt prog w A env elt target ifs scope clo Rl led (fun _ _ => True) [] n pf it s₂ wr ∧ (fun (_ : Nat) (_ : Heap) => True) 0 s₂.heap ∧
      (∀ D h' tk ys tl c, s₂.heap.get? D = none → h'.get? D = some (listOf ys c) → (fun (_ : Nat) (_ : Heap) => True) n h' → Has h' tl → Fresh s₂.heap tl → (∀ q ∈ tl, q.1 ≠ D) → Paired (fun i y => Rl i (tl ++ led) y) ((List.range n).filter pf) ys.toList → ExtB ([] ++ wr) s₂.heap h' →
        Q (.ref D) { s₂ with heap := h', toks := tk })

theorem comp_range {elt : Expr} {ifs : List Expr} {scope : Scope} {clo : List (Str × Addr)} {x : Str} {px : Pos} {n : Nat} {pf : Nat → Bool} {Rl : Nat → Led → Value → Prop} {Q : Value → Shared → Prop} {r : Addr} {a b : Int} {t u v : Tok}
    (S : St K p loose mean mg mb s₀ led₀ env oc cl m led mu s) (cl' : List (Str × Value)) (hh : A.handled = none) (hr : IsRange s.heap r a b 1 t u v) (hsm : Builtin.Range.small a b 1 = true) (hn : (b - a).toNat = n)
    (htg : ∀ C, TgtOk (cenvOf scope clo env C) (ocOf scope.names C) x) (hcl : CloOk scope env clo s cl')
    (tests : ∀ i C m₁ t' tl s₃ E', i < n → St K p loose mean mg mb s₃ (tl ++ led) (cenvOf scope clo env C) (ocOf scope.names C) cl' (upd m₁ x (.int (a + i) t')) (tl ++ led) [] s₃ →
      testsOf prog w A ifs (cenvOf scope clo env C) (fun ok s₄ => ok = pf i ∧ Keeps s₃ s₄) E' s₃)
    (turn : ∀ i C m₁ t' tl s₃ E', i < n → pf i = true → St K p loose mean mg mb s₃ (tl ++ led) (cenvOf scope clo env C) (ocOf scope.names C) cl' (upd m₁ x (.int (a + i) t')) (tl ++ led) [] s₃ →
      wpAny (model prog w) A (eval elt (cenvOf scope clo env C)) (Made s₃ (tl ++ led) (Rl i)) E' s₃)
    (hQ : ∀ D vs c s' tl, St K p loose mean mg mb s₀ led₀ env oc cl m (tl ++ led) ((D, lstO vs c) :: mu) s' → Paired (fun i y => Rl i (tl ++ led) y) ((List.range n).filter pf) vs → Q (.ref D) s') :
    wpAny (model prog w) A (pyIter (.ref r)) (CompGoal prog w A env elt (.Name x px) ifs scope clo Rl led n pf Q) E s := by
  refine iter_range (led := led) (x := x) (px := px) hh hr hsm fun it s₂ IT => ?_
  rw [hn] at IT
  refine comp_at S cl' IT (fun C y hy => by rw [List.mem_singleton.mp hy]; exact htg C) hcl ?_ ?_ hQ
  · rintro i C m₁ m' led' s₃ E' hi ⟨t', rfl⟩ ⟨tl, rfl⟩ S'
    exact tests i C m₁ t' tl s₃ E' hi S'
  · rintro i C m₁ m' led' s₃ E' hi hp ⟨t', rfl⟩ ⟨tl, rfl⟩ S'
    exact turn i C m₁ t' tl s₃ E' hi hp S'

theorem comp_list {α : Type} {R : Led → Value → α → Prop} {elt : Expr} {ifs : List Expr} {scope : Scope} {clo : List (Str × Addr)} {x : Str} {px : Pos} {n : Nat} {pf : Nat → Bool} {Rl : Nat → Led → Value → Prop} {Q : Value → Shared → Prop} {lv : Value} {xs : List α}
    (S : St K p loose mean mg mb s₀ led₀ env oc cl m led mu s) (cl' : List (Str × Value)) (hh : A.handled = none) (hq : SeqIn R led lv xs) (hn : xs.length = n)
    (htg : ∀ C, TgtOk (cenvOf scope clo env C) (ocOf scope.names C) x) (hcl : CloOk scope env clo s cl')
    (tests : ∀ i C m₁ y v tl s₃ E', i < n → xs[i]? = some y → R led v y → St K p loose mean mg mb s₃ (tl ++ led) (cenvOf scope clo env C) (ocOf scope.names C) cl' (upd m₁ x v) (tl ++ led) [] s₃ →
      testsOf prog w A ifs (cenvOf scope clo env C) (fun ok s₄ => ok = pf i ∧ Keeps s₃ s₄) E' s₃)
    (turn : ∀ i C m₁ y v tl s₃ E', i < n → pf i = true → xs[i]? = some y → R led v y → St K p loose mean mg mb s₃ (tl ++ led) (cenvOf scope clo env C) (ocOf scope.names C) cl' (upd m₁ x v) (tl ++ led) [] s₃ →
      wpAny (model prog w) A (eval elt (cenvOf scope clo env C)) (Made s₃ (tl ++ led) (Rl i)) E' s₃)
    (hQ : ∀ D vs c s' tl, St K p loose mean mg mb s₀ led₀ env oc cl m (tl ++ led) ((D, lstO vs c) :: mu) s' → Paired (fun i y => Rl i (tl ++ led) y) ((List.range n).filter pf) vs → Q (.ref D) s') :
    wpAny (model prog w) A (pyIter lv) (CompGoal prog w A env elt (.Name x px) ifs scope clo Rl led n pf Q) E s := by
  obtain ⟨a, vs, c, rfl, hm, hp⟩ := hq
  refine iter_list (led := led) (x := x) (px := px) hh S.has hm fun it s₂ IT => ?_
  rw [hp.length, hn] at IT
  refine comp_at S cl' IT (fun C y hy => by rw [List.mem_singleton.mp hy]; exact htg C) hcl ?_ ?_ hQ
  · rintro i C m₁ m' led' s₃ E' hi ⟨v, hv, rfl⟩ ⟨tl, rfl⟩ S'
    obtain ⟨y, hy, hR⟩ := pairedAt' hp hv
    exact tests i C m₁ y v tl s₃ E' hi hy hR S'
  · rintro i C m₁ m' led' s₃ E' hi hpf ⟨v, hv, rfl⟩ ⟨tl, rfl⟩ S'
    obtain ⟨y, hy, hR⟩ := pairedAt' hp hv
    exact turn i C m₁ y v tl s₃ E' hi hpf hy hR S'

theorem comp_enum {α : Type} {R : Led → Value → α → Prop} {elt : Expr} {ifs : List Expr} {scope : Scope} {clo : List (Str × Addr)} {xi xv : Str} {pi pv pt : Pos} {x1} {n : Nat} {pf : Nat → Bool} {Rl : Nat → Led → Value → Prop} {Q : Value → Shared → Prop} {lv : Value} {xs : List α}
    (S : St K p loose mean mg mb s₀ led₀ env oc cl m led mu s) (cl' : List (Str × Value)) (hh : A.handled = none) (hq : SeqIn R led lv xs) (hn : xs.length = n)
    (htg : ∀ C, TgtOk (cenvOf scope clo env C) (ocOf scope.names C) xi ∧ TgtOk (cenvOf scope clo env C) (ocOf scope.names C) xv) (hcl : CloOk scope env clo s cl')
    (tests : ∀ i C m₁ y v t tl s₃ E', i < n → xs[i]? = some y → R led v y → St K p loose mean mg mb s₃ (tl ++ led) (cenvOf scope clo env C) (ocOf scope.names C) cl' (upd (upd m₁ xi (.int i t)) xv v) (tl ++ led) [] s₃ →
      testsOf prog w A ifs (cenvOf scope clo env C) (fun ok s₄ => ok = pf i ∧ Keeps s₃ s₄) E' s₃)
    (turn : ∀ i C m₁ y v t tl s₃ E', i < n → pf i = true → xs[i]? = some y → R led v y → St K p loose mean mg mb s₃ (tl ++ led) (cenvOf scope clo env C) (ocOf scope.names C) cl' (upd (upd m₁ xi (.int i t)) xv v) (tl ++ led) [] s₃ →
      wpAny (model prog w) A (eval elt (cenvOf scope clo env C)) (Made s₃ (tl ++ led) (Rl i)) E' s₃)
    (hQ : ∀ D vs c s' tl, St K p loose mean mg mb s₀ led₀ env oc cl m (tl ++ led) ((D, lstO vs c) :: mu) s' → Paired (fun i y => Rl i (tl ++ led) y) ((List.range n).filter pf) vs → Q (.ref D) s') :
    wpAny (model prog w) A (call (.type "enumerate") [lv]) (fun e s₁ => wpAny (model prog w) A (pyIter e) (CompGoal prog w A env elt (.Tuple [.Name xi pi, .Name xv pv] x1 pt) ifs scope clo Rl led n pf Q) E s₁) E s := by
  obtain ⟨a, vs, c, rfl, hm, hp⟩ := hq
  refine iter_enum (led := led) (xi := xi) (xv := xv) (pi := pi) (pv := pv) (pt := pt) (x1 := x1) hh S.has hm fun it s₂ IT => ?_
  rw [hp.length, hn] at IT
  refine comp_at S cl' IT (fun C y hy => ?_) hcl ?_ ?_ hQ
  · simp only [List.mem_cons, List.not_mem_nil, or_false] at hy
    rcases hy with rfl | rfl
    · exact (htg C).1
    · exact (htg C).2
  · rintro i C m₁ m' led' s₃ E' hi ⟨v, t, hv, rfl⟩ ⟨tl, rfl⟩ S'
    obtain ⟨y, hy, hR⟩ := pairedAt' hp hv
    exact tests i C m₁ y v t tl s₃ E' hi hy hR S'
  · rintro i C m₁ m' led' s₃ E' hi hpf ⟨v, t, hv, rfl⟩ ⟨tl, rfl⟩ S'
    obtain ⟨y, hy, hR⟩ := pairedAt' hp hv
    exact turn i C m₁ y v t tl s₃ E' hi hpf hy hR S'

theorem St.cloAt {x : Str} {c : Addr} {v : Value} (S : St K p loose mean mg mb s₀ led₀ env oc cl m led mu s) (hq : (x, v) ∈ cl) (hl : env.cells.lookup x = some c) : s.heap.IsCell c (some v) := by
  obtain ⟨_, c', hl', hv⟩ := S.clo _ hq
  rw [Option.some.inj (hl.symm.trans hl')]; exact hv
theorem clo_nil {scope : Scope} {clo : List (Str × Addr)} : CloOk scope env clo s [] := fun _ h => nomatch h
theorem clo_cons {scope : Scope} {clo : List (Str × Addr)} {x : Str} {v : Value} {c : Addr} {l : List (Str × Value)} (h1 : ∀ C, (cenvOf scope clo env C).kindOf x = some .cell ∨ (cenvOf scope clo env C).kindOf x = some .free)
    (h2 : ∀ C, (cellsFrom (C + 1) scope.names clo).lookup x = some c) (h3 : s.heap.IsCell c (some v)) (t : CloOk scope env clo s l) : CloOk scope env clo s ((x, v) :: l) := fun q hq => by
  rcases List.mem_cons.mp hq with rfl | hq
  · exact ⟨h1, c, h2, h3⟩
  · exact t q hq

/-- a comprehension that makes new objects alone -/
theorem comp_pure {elt target iter : Expr} {ifs : List Expr} {scope : Scope} {clo : List (Str × Addr)} {Q : Value → Shared → Prop} (n : Nat) (pf : Nat → Bool) (Rl : Nat → Led → Value → Prop) (Rm : ∀ i l t y, Rl i l y → Rl i (t ++ l) y) (led : Led)
    (hsz : n ≤ 100000) (hclos : closureFor scope env = pure clo) (h1 : (scope.names.filter isCellN).length ≤ 1)
    (hoc : ∀ C, ∀ q ∈ ocOf scope.names C, (cenvOf scope clo env C).kindOf q.1 = some .cell ∧ (cellsFrom (C + 1) scope.names clo).lookup q.1 = some q.2 ∧ q.2 ≠ C) (hkind : scope.kind = .function)
    (hnames : ∀ y ∈ scope.names, y.2 = .local → scope.names.lookup y.1 = some .local)
    (h : wpAny (model prog w) A (eval iter env) (fun xv s₁ => wpAny (model prog w) A (pyIter xv) (CompGoal prog w A env elt target ifs scope clo Rl led n pf Q) E s₁) E s)
    (hs : ∀ x, foldedSetIterable iter env x = pure x := by intro _; rfl) :
    wpAny (model prog w) A (eval (.ListComp elt [⟨target, iter, ifs, 0⟩] scope pos) env) Q E s :=
  comp_eval [] (fun _ _ => True) n pf Rl Rm led hclos h1 hoc hkind hnames (by rw [sizeLine_eq]; omega) (fun _ _ _ _ _ => trivial) (fun _ _ _ _ h => nomatch h) h hs
end
end Mine

-- Rel3
namespace Mine
theorem RB.divInt {a b : Int} {k : Nat} (ha : a.natAbs ≤ 2 ^ k) (hb : b.natAbs ≤ 2 ^ k) : RB k (Rat.divInt a b) := by
  constructor
  · rw [Rat.num_divInt, Int.natAbs_ediv_of_dvd ?_]
    · refine Nat.le_trans (Nat.div_le_self _ _) (Nat.le_trans ?_ ha)
      rw [Int.natAbs_mul]
      rcases Int.lt_trichotomy b 0 with h | h | h
      · rw [Int.sign_eq_neg_one_of_neg h]; simp
      · subst h; simp
      · rw [Int.sign_eq_one_of_pos h]; simp
    · exact Int.dvd_trans (Int.gcd_dvd_right b a) (Int.dvd_mul_left _ _)
  · rw [Rat.den_divInt]
    split
    · exact Nat.one_le_two_pow
    · exact Nat.le_trans (Nat.div_le_self _ _) hb
theorem pow_add_le {a b k j : Nat} (ha : a ≤ 2 ^ k) (hb : b ≤ 2 ^ j) : a * b ≤ 2 ^ (k + j) := by rw [Nat.pow_add]; exact Nat.mul_le_mul ha hb
theorem RB.mul {k j : Nat} {x y : Rat} (hx : RB k x) (hy : RB j y) : RB (k + j) (x * y) := by
  rw [← rat_mul]
  exact RB.divInt (by rw [Int.natAbs_mul]; exact pow_add_le hx.num hy.num) (by rw [Int.natAbs_mul]; exact pow_add_le hx.den hy.den)
theorem natAbs_add_le {a b : Int} : (a + b).natAbs ≤ a.natAbs + b.natAbs := by omega
theorem RB.add {k j : Nat} {x y : Rat} (hx : RB k x) (hy : RB j y) : RB (k + j + 1) (x + y) := by
  rw [← rat_add]
  have h1 : (x.num * y.den).natAbs ≤ 2 ^ (k + j) := by rw [Int.natAbs_mul]; exact pow_add_le hx.num hy.den
  have h2 : (y.num * x.den).natAbs ≤ 2 ^ (k + j) := by rw [Int.natAbs_mul, Nat.add_comm k j]; exact pow_add_le hy.num hx.den
  have h3 : (x.den * y.den : Int).natAbs ≤ 2 ^ (k + j) := by rw [Int.natAbs_mul]; exact pow_add_le hx.den hy.den
  refine RB.divInt ?_ ?_ <;> rw [Nat.pow_succ] <;> omega
theorem RB.sub {k j : Nat} {x y : Rat} (hx : RB k x) (hy : RB j y) : RB (k + j + 1) (x - y) := by
  rw [← rat_sub]
  have h1 : (x.num * y.den).natAbs ≤ 2 ^ (k + j) := by rw [Int.natAbs_mul]; exact pow_add_le hx.num hy.den
  have h2 : (y.num * x.den).natAbs ≤ 2 ^ (k + j) := by rw [Int.natAbs_mul, Nat.add_comm k j]; exact pow_add_le hy.num hx.den
  have h3 : (x.den * y.den : Int).natAbs ≤ 2 ^ (k + j) := by rw [Int.natAbs_mul]; exact pow_add_le hx.den hy.den
  refine RB.divInt ?_ ?_ <;> rw [Nat.pow_succ] <;> omega
theorem RB.div {k j : Nat} {x y : Rat} (hx : RB k x) (hy : RB j y) : RB (k + j) (x / y) := by
  rw [← rat_div]
  exact RB.divInt (by rw [Int.natAbs_mul]; exact pow_add_le hx.num hy.den) (by rw [Int.natAbs_mul]; exact pow_add_le hx.den hy.num)
theorem RB.neg {k : Nat} {x : Rat} (hx : RB k x) : RB k (-x) := ⟨by rw [Rat.neg_num, Int.natAbs_neg]; exact hx.num, by rw [Rat.neg_den]; exact hx.den⟩
theorem RB.zero {k : Nat} : RB k 0 := ⟨Nat.zero_le _, Nat.one_le_two_pow⟩
theorem RB.one {k : Nat} : RB k 1 := ⟨Nat.one_le_two_pow, Nat.one_le_two_pow⟩
theorem RB.int {k : Nat} {i : Int} (h : i.natAbs ≤ 2 ^ k) : RB k (i : Rat) := ⟨h, Nat.one_le_two_pow⟩

noncomputable def RBr (k : Nat) (r : List Rat) : Prop := ∀ x ∈ r, RB k x
noncomputable def RBm (k : Nat) (M : List (List Rat)) : Prop := ∀ r ∈ M, RBr k r
theorem RBr.at {k : Nat} {r : List Rat} (h : RBr k r) (i : Nat) : RB k (r.getD i 0) := by
  rw [List.getD_eq_getElem?_getD]
  cases e : r[i]? with
  | none => exact RB.zero
  | some x => exact h x (List.mem_of_getElem? e)
theorem RBm.at {k : Nat} {M : List (List Rat)} (h : RBm k M) (i : Nat) : RBr k (M.getD i []) := by
  rw [List.getD_eq_getElem?_getD]
  cases e : M[i]? with
  | none => intro x hx; cases hx
  | some x => exact h x (List.mem_of_getElem? e)
theorem RBm.mono {k j : Nat} {M : List (List Rat)} (h : RBm k M) (hk : k ≤ j) : RBm j M := fun r hr x hx => (h r hr x hx).mono hk

noncomputable def dotTo (r1 r2 : List Rat) (i : Nat) : Rat := (List.range i).foldl (fun acc j => acc + r1.getD j 0 * r2.getD j 0) 0
noncomputable def dotR (r1 r2 : List Rat) : Rat := dotTo r1 r2 r1.length
theorem dotTo_succ (r1 r2 : List Rat) (i : Nat) : dotTo r1 r2 (i + 1) = dotTo r1 r2 i + r1.getD i 0 * r2.getD i 0 := by
  unfold dotTo; rw [List.range_succ, List.foldl_append]; rfl
theorem RB.dotTo {k j : Nat} {r1 r2 : List Rat} (h1 : RBr k r1) (h2 : RBr j r2) : ∀ i, RB (i * (k + j + 1)) (Mine.dotTo r1 r2 i)
  | 0 => by simpa [Mine.dotTo] using RB.zero
  | i + 1 => by
    rw [dotTo_succ]
    exact ((RB.dotTo h1 h2 i).add ((h1.at i).mul (h2.at i))).mono (by rw [Nat.add_mul]; omega)

theorem map_range_getD {α β : Type} (g : α → β) (d : α) : ∀ xs : List α, (List.range xs.length).map (fun i => g (xs.getD i d)) = xs.map g := fun xs => by
  apply List.ext_getElem?
  intro i
  simp only [List.getElem?_map, List.getD_eq_getElem?_getD]
  by_cases h : i < xs.length
  · simp [h]
  · simp [h]
theorem getD_of {α : Type} {xs : List α} {i : Nat} {x d : α} (h : xs[i]? = some x) : xs.getD i d = x := by rw [List.getD_eq_getElem?_getD, h]; rfl
theorem some_getD {α : Type} {xs : List α} {i : Nat} {d : α} (h : i < xs.length) : xs[i]? = some (xs.getD i d) := by rw [List.getD_eq_getElem?_getD, List.getElem?_eq_getElem h]; rfl

noncomputable def transR (M : List (List Rat)) (k : Nat) : List (List Rat) := (List.range k).map fun j => M.map fun r => r.getD j 0
noncomputable def addR (A B : List (List Rat)) : List (List Rat) := (List.range A.length).map fun i => (List.range (A.getD i []).length).map fun j => (A.getD i []).getD j 0 + (B.getD i []).getD j 0
noncomputable def scaleR (A : List (List Rat)) (q : Rat) : List (List Rat) := A.map fun r => r.map fun x => x * q
noncomputable def mulR (A B : List (List Rat)) (k : Nat) : List (List Rat) := A.map fun r => (transR B k).map fun c => dotR r c
noncomputable def traceTo (A : List (List Rat)) (i : Nat) : Rat := (List.range i).foldl (fun acc j => acc + (A.getD j []).getD j 0) 0
theorem traceTo_succ (A : List (List Rat)) (i : Nat) : traceTo A (i + 1) = traceTo A i + (A.getD i []).getD i 0 := by
  unfold traceTo; rw [List.range_succ, List.foldl_append]; rfl
theorem RB.traceTo {k : Nat} {A : List (List Rat)} (h : RBm k A) : ∀ i, RB (i * (k + 1)) (Mine.traceTo A i)
  | 0 => by simpa [Mine.traceTo] using RB.zero
  | i + 1 => by
    rw [traceTo_succ]
    exact ((RB.traceTo h i).add ((h.at i).at i)).mono (by rw [Nat.add_mul]; omega)
/-- a matrix of n rows of k numbers -/
structure Dim (M : List (List Rat)) (n k : Nat) : Prop where
  rows : M.length = n
  cols : ∀ r ∈ M, r.length = k
end Mine

-- Base9
namespace Mine
open Sem (wp)
theorem upd_ne {m : Str → Option Value} {x y : Str} {v : Value} (h : y ≠ x) : upd m x v y = m y := if_neg h
theorem upd_eq {m : Str → Option Value} {x : Str} {v : Value} : upd m x v x = some v := if_pos rfl
section
variable {K : Frag} {p : Program} {loose : List Str} {mean : ExcName → Option Value} {mg mb : Str → Option Value} {s₀ : Shared} {led₀ : Led} {env : Env} {oc : List (Str × Addr)} {cl : List (Str × Value)} {m : Str → Option Value} {led mu : Led} {s : Shared}
  {A : Around} {E : Value → Shared → Prop} {prog : Program} {w : World} {pos : Pos}

theorem for_range {body : List Stmt} {RR : Result → Shared → Prop} {x : Str} {px : Pos} {n : Nat} {r : Addr} {a b : Int} {t u v : Tok}
    (S : St K p loose mean mg mb s₀ led₀ env oc [] m led mu s) (own0 : ∀ b ∈ ownOf env oc, s₀.heap.get? b = none) (hh : A.handled = none) (hr : IsRange s.heap r a b 1 t u v) (hsm : Builtin.Range.small a b 1 = true) (hn : (b - a).toNat = n)
    (htg : TgtOk env oc x) (Inv : Nat → (Str → Option Value) → Led → Led → Prop) (h0 : Inv 0 m led mu)
    (turn : ∀ i s₀' m₁ t' tl mu₁ s₂ E', i < n → Inv i m₁ (tl ++ led) mu₁ → St K p loose mean mg mb s₀' (tl ++ led) env oc [] (upd m₁ x (.int (a + i) t')) (tl ++ led) mu₁ s₂ → (∀ b ∈ ownOf env oc, s₀'.heap.get? b = none) →
      wpAny (model prog w) A (execs body env) (fun f s₃ => Hold ((f = .next ∨ f = .cont) ∧ ∃ m₃ led₃ mu₃, St K p loose mean mg mb s₀' (tl ++ led) env oc [] m₃ led₃ mu₃ s₃ ∧ Inv (i + 1) m₃ led₃ mu₃)) E' s₂)
    (hR : ∀ m' tl mu' s', St K p loose mean mg mb s₀ led₀ env oc [] m' (tl ++ led) mu' s' → Inv n m' (tl ++ led) mu' → RR (.ok .next) s') :
    wpAny (model prog w) A (pyIter (.ref r)) (fun it s₂ => codeAny (model prog w) A (.forLoop (.Name x px) it body [] env) RR s₂) E s := by
  refine iter_range (led := led) (x := x) (px := px) hh hr hsm fun it s₂ IT => ?_
  rw [hn] at IT
  refine for_at S own0 IT (fun y hy => by rw [List.mem_singleton.mp hy]; exact htg) Inv h0 ?_ ?_
  · rintro i s₀' m₁ m₂ led₁ mu₁ s₂ E' hi hI ⟨t', rfl⟩ ⟨tl, rfl⟩ S' ho
    exact turn i s₀' m₁ t' tl mu₁ s₂ E' hi hI S' ho
  · rintro m' led' mu' s' S' ⟨tl, rfl⟩ hI
    exact hR m' tl mu' s' S' hI

theorem for_enum {α : Type} {R : Led → Value → α → Prop} {body : List Stmt} {RR : Result → Shared → Prop} {xi xv : Str} {pi pv pt : Pos} {x1} {n : Nat} {lv : Value} {xs : List α}
    (S : St K p loose mean mg mb s₀ led₀ env oc [] m led mu s) (own0 : ∀ b ∈ ownOf env oc, s₀.heap.get? b = none) (hh : A.handled = none) (hq : SeqIn R led lv xs) (hn : xs.length = n)
    (htg : TgtOk env oc xi ∧ TgtOk env oc xv) (Inv : Nat → (Str → Option Value) → Led → Led → Prop) (h0 : Inv 0 m led mu)
    (turn : ∀ i s₀' m₁ y v t tl mu₁ s₂ E', i < n → xs[i]? = some y → R led v y → Inv i m₁ (tl ++ led) mu₁ → St K p loose mean mg mb s₀' (tl ++ led) env oc [] (upd (upd m₁ xi (.int i t)) xv v) (tl ++ led) mu₁ s₂ → (∀ b ∈ ownOf env oc, s₀'.heap.get? b = none) →
      wpAny (model prog w) A (execs body env) (fun f s₃ => Hold ((f = .next ∨ f = .cont) ∧ ∃ m₃ led₃ mu₃, St K p loose mean mg mb s₀' (tl ++ led) env oc [] m₃ led₃ mu₃ s₃ ∧ Inv (i + 1) m₃ led₃ mu₃)) E' s₂)
    (hR : ∀ m' tl mu' s', St K p loose mean mg mb s₀ led₀ env oc [] m' (tl ++ led) mu' s' → Inv n m' (tl ++ led) mu' → RR (.ok .next) s') :
    wpAny (model prog w) A (call (.type "enumerate") [lv]) (fun e s₁ => wpAny (model prog w) A (pyIter e) (fun it s₂ => codeAny (model prog w) A (.forLoop (.Tuple [.Name xi pi, .Name xv pv] x1 pt) it body [] env) RR s₂) E s₁) E s := by
  obtain ⟨a, vs, c, rfl, hm, hp⟩ := hq
  refine iter_enum (led := led) (xi := xi) (xv := xv) (pi := pi) (pv := pv) (pt := pt) (x1 := x1) hh S.has hm fun it s₂ IT => ?_
  rw [hp.length, hn] at IT
  refine for_at S own0 IT (fun y hy => ?_) Inv h0 ?_ ?_
  · simp only [List.mem_cons, List.not_mem_nil, or_false] at hy
    rcases hy with rfl | rfl
    · exact htg.1
    · exact htg.2
  · rintro i s₀' m₁ m₂ led₁ mu₁ s₂ E' hi hI ⟨v, t, hv, rfl⟩ ⟨tl, rfl⟩ S' ho
    obtain ⟨y, hy, hR⟩ := pairedAt' hp hv
    exact turn i s₀' m₁ y v t tl mu₁ s₂ E' hi hy hR hI S' ho
  · rintro m' led' mu' s' S' ⟨tl, rfl⟩ hI
    exact hR m' tl mu' s' S' hI
end
end Mine

-- Om
namespace Mine
/-! small sums by one word each (omega's own words are long) -/
theorem om1 {d b l : Nat} (h : d + b < l) : d < l := Nat.lt_of_le_of_lt (Nat.le_add_right _ _) h
theorem om2 {d a b l : Nat} (h : d + b < l) (k : Nat.ble (1 + a) b = true) : d + 1 + a < l := by
  have := Nat.le_of_ble_eq_true k; omega
theorem om3 {u a b l : Nat} (h : u + 8 * b < l) (k : Nat.ble (3 + 8 * a) (8 * b) = true) : u + 3 + 8 * a < l := by
  have := Nat.le_of_ble_eq_true k; omega
theorem om4 {u b l : Nat} (h : u + 8 * b < l) (k : Nat.ble (3 + 64) (8 * b) = true) : u + 3 + 64 < l := by
  have := Nat.le_of_ble_eq_true k; omega
theorem om5 {n k m : Nat} (h : n ≤ k) (e : Nat.ble k m = true) : n ≤ m := Nat.le_trans h (Nat.le_of_ble_eq_true e)
theorem om6 {v n k m : Nat} (g : v = n) (h : n ≤ k) (e : Nat.ble k m = true) : v ≤ m := g ▸ om5 h e
theorem om7 {i n k m : Nat} (g : i < n) (h : n ≤ k) (e : Nat.ble k m = true) : i ≤ m := om5 (Nat.le_trans (Nat.le_of_lt g) h) e
theorem om8 {i n k : Nat} (g : i < n) (h : n ≤ k) (e : Nat.ble k 1000000 = true) : (i : Int) < 2 ^ 63 := by
  have := Nat.le_of_ble_eq_true e; omega
theorem om9 {n k : Nat} (h : n ≤ k) (e : Nat.ble k 1000000 = true) : n < 2 ^ 62 := by
  have := Nat.le_of_ble_eq_true e; omega
theorem om10 {v n k : Nat} (g : v = n) (h : n ≤ k) (e : Nat.ble k 1000000 = true) : v < 2 ^ 62 := g ▸ om9 h e
theorem om11 {i n : Nat} (g : i < n) : (i : Int) < (n : Int) := by omega
theorem om12 {i n v : Nat} (g : i < n) (e : v = n) : i < v := e ▸ g
theorem om13 {i : Nat} : ((i : Int) - 0).toNat = i := by omega
theorem om14 {u b : Nat} {l : Nat} (h : u + b < l) : u + 0 < l := om1 h
theorem om15 {i n v : Nat} (g : i < n) (e : v = n) : (i : Int) < (v : Int) := by omega
theorem om16 {i n m v : Nat} (g : i < n) (e : m = n) (e' : v = m) : i < v := by omega
theorem om17 {v n m k l : Nat} (g : v = n) (f : n = m) (h : m ≤ k) (e : Nat.ble k l = true) : v ≤ l := g ▸ om6 f h e
end Mine
open Mine

theorem Mine.rules1 : True := by
  k_with "wra" => (with_reducible assumption)
  k_with "om" => (first | ((with_reducible refine' om1 ?o0); (case o0 => walk_at "wra")) | ((with_reducible refine' om2 ?o0 ?o1); (case o0 => walk_at "wra"); (case o1 => exact rfl)) | ((with_reducible refine' om3 ?o0 ?o1); (case o0 => walk_at "wra"); (case o1 => exact rfl)) | ((with_reducible refine' om4 ?o0 ?o1); (case o0 => walk_at "wra"); (case o1 => exact rfl)) | ((with_reducible refine' om5 ?o0 ?o1); (case o0 => walk_at "wra"); (case o1 => exact rfl)) | ((with_reducible refine' om6 ?o0 ?o1 ?o2); (case o0 => walk_at "wra"); (case o1 => walk_at "wra"); (case o2 => exact rfl)) | ((with_reducible refine' om7 ?o0 ?o1 ?o2); (case o0 => walk_at "wra"); (case o1 => walk_at "wra"); (case o2 => exact rfl)) | ((with_reducible refine' om8 ?o0 ?o1 ?o2); (case o0 => walk_at "wra"); (case o1 => walk_at "wra"); (case o2 => exact rfl)) | ((with_reducible refine' om9 ?o0 ?o1); (case o0 => walk_at "wra"); (case o1 => exact rfl)) | ((with_reducible refine' om10 ?o0 ?o1 ?o2); (case o0 => walk_at "wra"); (case o1 => walk_at "wra"); (case o2 => exact rfl)) | with_reducible exact Int.natCast_nonneg _ | with_reducible exact om13 | ((with_reducible refine' om11 ?o0); (case o0 => walk_at "wra")) | ((with_reducible refine' om12 ?o0 ?o1); (case o0 => walk_at "wra"); (case o1 => walk_at "wra")) | ((with_reducible refine' om15 ?o0 ?o1); (case o0 => walk_at "wra"); (case o1 => walk_at "wra")) | omega)
  trivial

-- Mx
open Mine

theorem Mine.rules2 : True := by
  k_with "mem" => (first | assumption | exact List.Mem.head _ | (refine List.Mem.tail _ ?_; walk_at "mem") | (refine List.mem_append.mpr (Or.inr ?_); walk_at "mem") | (refine List.mem_append.mpr (Or.inl ?_); walk_at "mem"))
  k_with "tgt" => (first | exact Or.inl (by with_unfolding_all rfl) | exact Or.inr ⟨_, by with_unfolding_all exact List.Mem.head _⟩ | exact Or.inr ⟨_, by with_unfolding_all exact List.Mem.tail _ (List.Mem.head _)⟩ | exact Or.inr ⟨_, by with_unfolding_all exact List.Mem.tail _ (List.Mem.tail _ (List.Mem.head _))⟩ | exact Or.inr ⟨_, by with_unfolding_all exact List.Mem.tail _ (List.Mem.tail _ (List.Mem.tail _ (List.Mem.head _)))⟩)
  k_with "km" => (first | assumption | ((repeat (refine Eq.trans (upd_ne (by decide)) ?_)); first | exact upd_eq | assumption) | with_unfolding_all rfl)
  k_with "eval Name" => (((rename St _ _ _ _ _ _ _ _ _ _ _ _ _ _ _ => kS); k_dflt (first | (refine' St.name (St.tok kS _) ?kx ?km ?_; (case kx => walk_at "tgt"); (case km => walk_at "km")) | (refine' St.nameC (St.tok kS _) ?kc ?_; (case kc => walk_at "mem")) | (refine' St.glob (St.tok kS _) ?k1 ?k2 ?_ ?k3; (case k3 => with_unfolding_all rfl); (case k2 => with_unfolding_all rfl); (case k1 => k_is)) | (refine' St.boot (St.tok kS _) ?k1 ?k2 ?k3 ?k4 ?_ ?k5 ?k6; (case k5 => with_unfolding_all rfl); (case k6 => with_unfolding_all rfl); (case k4 => with_unfolding_all rfl); (case k1 => k_is); (case k2 => walk_at "boot"); (case k3 => decide)))))
  k_with "boot" => (with_reducible (first | exact Mine.boot_len | exact PyProof.Rows.boot_range | exact PyProof.Rows.boot_enumerate | exact PyProof.Rows.boot_list | exact PyProof.Rows.boot_zip | exact PyProof.Rows.boot_int | exact PyProof.Rows.boot_abs))
  k_with "hoc" => ((intro C q hq; first | (cases hq; done) | (have hq' := List.mem_singleton.mp hq; subst hq'; exact ⟨by with_unfolding_all rfl, by with_unfolding_all rfl, Nat.succ_ne_self _⟩)))
  k_with "storeName" => (((rename St _ _ _ _ _ _ _ _ _ _ _ _ _ _ _ => kS); k_dflt (refine' St.store (St.tok kS _) (by assumption) ?kx ?_; (case kx => walk_at "tgt")); clear kS; intro s' kS))
  k_with "newTuple" => (((rename St _ _ _ _ _ _ _ _ _ _ _ _ _ _ _ => kS); k_dflt (refine' St.newTuple (St.tok kS _) ?_ ?ksz; (case ksz => size_fits)); clear kS; intro a' s' kS))
  k_with "newList" => (((rename St _ _ _ _ _ _ _ _ _ _ _ _ _ _ _ => kS); k_dflt (refine' St.newList (St.tok kS _) ?_ ?ksz; (case ksz => size_fits)); clear kS; intro a' s' kS))
  k_with "unpackItems ref" => (((rename St _ _ _ _ _ _ _ _ _ _ _ _ _ _ _ => kS); k_dflt (refine' St.unpack (St.tok kS _) rfl ?km ?kn ?_; (case km => walk_at "mem"); (case kn => with_unfolding_all rfl)); clear kS; intro s' kS))
  k_with "exec While Compare cons nil" => (refine Hold.out ?_)
  k_with "eval ListComp" => (refine Hold.out ?_)
  k_with "exec Assign cons ListComp" => (refine Hold.out ?_)
  k_with "exec For" => (refine Hold.out ?_)
  k_with "rel" => (first | assumption | exact RatIn.zero | exact RatIn.one | (refine RatIn.app ?_; walk_at "rel") | (refine RatIn.cons ?_; walk_at "rel"))
  k_with "callWith ref" => (((rename St _ _ _ _ _ _ _ _ _ _ _ _ _ _ _ => kS); k_dflt (refine' callWith_K (St.kin kS) ?k1 ?_ ?k2 ?k3; (case k1 => k_is); (case k2 => rfl); (case k3 => rfl))))
  k_with "And" => (((rename St _ _ _ _ _ _ _ _ _ _ _ _ _ _ _ => kS); k_dflt (refine And.intro (St.kin (St.tok kS _)) ?_)))
  k_with "call ref" => (((rename St _ _ _ _ _ _ _ _ _ _ _ _ _ _ _ => kS); k_dflt (refine' St.call (St.tok kS _) ?kc ?kd ?ku ?_; (case kc => walk_at "con"); (case kd => walk_at "om"); (case ku => walk_at "om")); clear kS; intro v' s' tl' kS ho'; (try (refine Exists.elim ho' ?_; clear ho'; intro t9 e9; subst e9)); (try subst ho')))
  k_with "subscriptTail" => (((with_reducible show wpAny _ _ (subscriptTail _ _ _ (Value.int 0 _)) _ _ _); (rename St _ _ _ _ _ _ _ _ _ _ _ _ _ _ _ => kS); k_dflt (refine' St.rat0 (St.tok kS _) ?k1 ?k2 ?k3 ?_ ?k4; (case k4 => intro _; with_unfolding_all rfl); (case k3 => walk_at "rel"); (case k1 => k_is); (case k2 => k_is)); intro _))
  k_with "subscriptTail" => (((with_reducible show wpAny _ _ (subscriptTail _ _ _ (Value.int 1 _)) _ _ _); (rename St _ _ _ _ _ _ _ _ _ _ _ _ _ _ _ => kS); k_dflt (refine' St.rat1 (St.tok kS _) ?k1 ?k2 ?k3 ?_ ?k4; (case k4 => intro _; with_unfolding_all rfl); (case k3 => walk_at "rel"); (case k1 => k_is); (case k2 => k_is)); intro _))
  k_with "binaryOp FloorDiv int int" => (((rename St _ _ _ _ _ _ _ _ _ _ _ _ _ _ _ => kS); k_dflt (refine' St.fdiv (St.tok kS _) rfl rfl rfl rfl rfl rfl ?k1 ?k2 rfl ?k3 ?_; (case k1 => show _ < _; (try dsimp only); walk_at "om"); (case k2 => decide +kernel); (case k3 => assumption)); intro _ _))
  k_with "exec Raise some none" => ((exfalso; first | contradiction | walk_at "om"))
  k_with "binaryOp Mult int int" => (k_dflt (refine' mul_int ?_ ?km; (case km => assumption)))
  k_with "enter" => ((refine' enter_fn (by assumption) (by assumption) ?h1 ?h2 ?h3 ?h4 ?h5 ?h6 ?h7 ?_ ?h9 ?h10 ?h11; (case h1 => k_is); (case h2 => k_is); (case h3 => walk_at "om"); (case h4 => with_unfolding_all rfl); (case h5 => rfl); (case h6 => decide); (case h7 => rfl); (case h9 => rfl); (case h10 => rfl); (case h11 => rfl); intro L s₁ kS hO))
  k_with "nz" => (assumption)
  k_with "rb" => (assumption)
  k_with "rel" => (first | assumption | exact RatIn.zero | exact RatIn.one | exact ⟨_, rfl⟩ | (refine' RatIn.sub ?kz subApp; (case kz => walk_at "rel")) | (refine' RatIn.sub ?kz subCons; (case kz => walk_at "rel")) | (refine' rowSub ?kz subApp; (case kz => walk_at "rel")) | (refine' rowSub ?kz subCons; (case kz => walk_at "rel")) | (refine' matSub ?kz subApp; (case kz => walk_at "rel")) | (refine' matSub ?kz subCons; (case kz => walk_at "rel")) | (refine' intsSub ?kz subApp; (case kz => walk_at "rel")) | (refine' intsSub ?kz subCons; (case kz => walk_at "rel")) | (refine' PairIn.sub ?kz subApp; (case kz => walk_at "rel")) | (refine' PairIn.sub ?kz subCons; (case kz => walk_at "rel")))
  k_with "idx" => (first | assumption | rfl | walk_at "om")
  k_with "subscriptTail" => (((with_reducible show wpAny _ _ (subscriptTail _ _ _ (Value.int _ _)) _ _ _); (rename St _ _ _ _ _ _ _ _ _ _ _ _ _ _ _ => kS); k_dflt (refine' St.item (R := RowIn) (St.tok kS _) ?k1 ?k2 ?k3 ?k5 ?_ ?k4; (case k4 => intro _; with_unfolding_all rfl); (case k1 => walk_at "rel"); (case k5 => walk_at "idx"); (case k2 => walk_at "om"); (case k3 => walk_at "om")); intro v' hv'))
  k_with "subscriptTail" => (((with_reducible show wpAny _ _ (subscriptTail _ _ _ (Value.int _ _)) _ _ _); (rename St _ _ _ _ _ _ _ _ _ _ _ _ _ _ _ => kS); k_dflt (refine' St.item (R := RatIn) (St.tok kS _) ?k1 ?k2 ?k3 ?k5 ?_ ?k4; (case k4 => intro _; with_unfolding_all rfl); (case k1 => walk_at "rel"); (case k5 => walk_at "idx"); (case k2 => walk_at "om"); (case k3 => walk_at "om")); intro v' hv'))
  k_with "call builtin:len" => (((rename St _ _ _ _ _ _ _ _ _ _ _ _ _ _ _ => kS); k_dflt (first | (refine' St.len (R := RowIn) (St.tok kS _) ?k1 ?k2 ?_; (case k1 => walk_at "rel"); (case k2 => walk_at "om")) | (refine' St.len (R := RatIn) (St.tok kS _) ?k1 ?k2 ?_; (case k1 => walk_at "rel"); (case k2 => walk_at "om")) | (refine' St.len (R := IntIn) (St.tok kS _) ?k1 ?k2 ?_; (case k1 => walk_at "rel"); (case k2 => walk_at "om"))); intro _ _))
  k_with "ite" => (k_dflt (first | rw [if_pos (by (try simp only [decide_eq_true_eq]); walk_at "om")] | rw [if_neg (by (try simp only [decide_eq_true_eq]); walk_at "om")]))
  k_with "call type:range" => (((rename St _ _ _ _ _ _ _ _ _ _ _ _ _ _ _ => kS); k_dflt (first | refine' St.range1 (St.tok kS _) ?_ | refine' St.range2 (St.tok kS _) ?_); clear kS; intro r' s' _ _ _ kS hRg'))
  k_with "pyIter ref" => (refine Hold.out ?_)
  k_with "clo" => (first | exact clo_nil | ((rename St _ _ _ _ _ _ _ _ _ _ _ _ _ _ _ => kS); refine' clo_cons ?a1 ?a2 ?a3 ?a4; (case a1 => intro C; first | exact .inl (by with_unfolding_all rfl) | exact .inr (by with_unfolding_all rfl)); (case a2 => intro C; with_unfolding_all rfl); (case a3 => first | exact kS.cloAt (by walk_at "mem") (by with_unfolding_all rfl) | exact kS.cellAt (by with_unfolding_all walk_at "mem") (by with_unfolding_all rfl)); (case a4 => walk_at "clo")))
  k_with "side" => (first | walk_at "om" | decide | (with_unfolding_all rfl) | walk_at "hoc")
  k_with "subscriptTail" => (((with_reducible show wpAny _ _ (subscriptTail _ _ _ (Value.int 1 _)) _ _ _); (rename St _ _ _ _ _ _ _ _ _ _ _ _ _ _ _ => kS); k_dflt (refine' St.pair1 (St.tok kS _) ?k3 ?_ ?k4; (case k4 => intro _; with_unfolding_all rfl); (case k3 => walk_at "rel")); intro _))
  k_with "call type:enumerate" => (refine Hold.out ?_)
  k_with "pyIter" => (refine Hold.out ?_)
  trivial

-- G1
namespace Mine
section
variable {w : World} {mean : ExcName → Option Value} {mg mb : Str → Option Value}

theorem gcd_step {x y : Int} (h0 : 0 ≤ x) (h1 : 0 ≤ y) : Int.gcd y (x % y) = Int.gcd x y := by
  obtain ⟨n, rfl⟩ := Int.eq_ofNat_of_zero_le h0
  obtain ⟨k, rfl⟩ := Int.eq_ofNat_of_zero_le h1
  rw [← Int.natCast_emod, Int.gcd_natCast_natCast, Int.gcd_natCast_natCast, Nat.gcd_comm k, ← Nat.gcd_rec, Nat.gcd_comm]
theorem gcd_con {a b : Int} {ta tb : Tok} {led : Led} : Con (Mine.hd.heap_39 w.params) Mine.view (looseW Mine.view []) mean mg mb PySem.Challenge.rw_sa0086_01.row.prog w 41 [.int a ta, .int b tb] 1 led (fun _ r => ∃ t, r = .int (Int.gcd a b) t) := by
  k_fill
  intro s dp un gd fr E Am H hd hu
  refine' enter_fn Am H ?h1 ?h2 ?h3 ?h4 ?h5 ?h6 ?h7 ?h8 ?h9 ?h10 ?h11
  case h1 => k_is
  case h2 => k_is
  case h3 => walk_at "om"
  case h4 => with_unfolding_all rfl
  case h5 => rfl
  case h6 => decide
  case h7 => rfl
  case h9 => rfl
  case h10 => rfl
  case h11 => rfl
  case h8 =>
    intro L s₁ kS hO
    try dsimp only
    k_steps
    unfold Hold
    rename St _ _ _ _ _ _ _ _ _ _ _ _ _ _ _ => kS
    refine wpAny_While (while_at (n := (if b < 0 then -b else b).toNat) (St.tok kS _) (fun n m => ∃ x y tx ty, m "a" = some (.int x tx) ∧ m "b" = some (.int y ty) ∧ 0 ≤ x ∧ 0 ≤ y ∧ Int.gcd x y = Int.gcd a b ∧ n = y.toNat) ?h0 ?turn)
    case h0 => exact ⟨_, _, _, _, by with_unfolding_all rfl, by with_unfolding_all rfl, by split <;> walk_at "om", by split <;> walk_at "om", by split <;> split <;> simp, rfl⟩
    case turn =>
      clear kS
      rintro n m₁ led₁ mu₁ s₁ E' kS ⟨x, y, tx, ty, hx, hy, h0, h1, hg, rfl⟩
      k_steps
      · rename St _ _ _ _ _ _ _ _ _ _ _ _ _ _ _ => kS
        refine ⟨rfl, (x.fmod y).toNat, _, _, _, ?_, kS, y, x.fmod y, _, _, by with_unfolding_all rfl, by with_unfolding_all rfl, h1, ?_, ?_, rfl⟩
        · rw [Int.fmod_eq_emod_of_nonneg _ h1]
          have := Int.emod_lt_of_pos x (show 0 < y by walk_at "om")
          walk_at "om"
        · rw [Int.fmod_eq_emod_of_nonneg _ h1]
          exact Int.emod_nonneg _ (by walk_at "om")
        · rw [Int.fmod_eq_emod_of_nonneg _ h1, ← hg]; exact gcd_step h0 h1
      · rename St _ _ _ _ _ _ _ _ _ _ _ _ _ _ _ => kS
        rename y = 0 => hz
        subst hz
        refine (St.tok kS _).done ⟨tx, ?_⟩
        rw [← hg, Int.gcd_zero_right, Int.natAbs_of_nonneg h0]
end
end Mine
open Mine

theorem Mine.rules3 : True := by
  k_with "con" => (((with_reducible show Con _ _ _ _ _ _ _ _ 41 _ _ _ _); exact gcd_con))
  trivial

-- G2
namespace Mine
section
variable {w : World} {mean : ExcName → Option Value} {mg mb : Str → Option Value}

theorem rat_con {a b : Int} {ta tb : Tok} {led : Led} (hb : b ≠ 0) : Con (Mine.hd.heap_39 w.params) Mine.view (looseW Mine.view []) mean mg mb PySem.Challenge.rw_sa0086_01.row.prog w 50 [.int a ta, .int b tb] 110 led (fun l r => RatIn l r (Rat.divInt a b)) := by
  k_fill
  intro s dp un gd fr E Am H hd hu
  refine' enter_fn Am H ?h1 ?h2 ?h3 ?h4 ?h5 ?h6 ?h7 ?h8 ?h9 ?h10 ?h11
  case h1 => k_is
  case h2 => k_is
  case h3 => walk_at "om"
  case h4 => with_unfolding_all rfl
  case h5 => rfl
  case h6 => decide
  case h7 => rfl
  case h9 => rfl
  case h10 => rfl
  case h11 => rfl
  case h8 =>
    intro L s₁ kS hO
    have hg : (Int.gcd a b : Int) ≠ 0 := by
      intro h
      exact hb (Int.gcd_eq_zero_iff.mp (by exact_mod_cast h)).2
    have hg' : 0 - (Int.gcd a b : Int) ≠ 0 := by walk_at "om"
    k_steps
    all_goals (rename St _ _ _ _ _ _ _ _ _ _ _ _ _ _ _ => kS; refine kS.done ?_)
    · obtain ⟨e1, e2⟩ := (divInt_parts (a := a) hb).1 (by walk_at "om")
      rw [← e1, ← e2]; exact .mem (.head _)
    · obtain ⟨e1, e2⟩ := (divInt_parts (a := a) hb).2 (by walk_at "om")
      rw [← e1, ← e2]; exact .mem (.head _)
end
end Mine
open Mine

theorem Mine.rules4 : True := by
  k_with "con" => (((with_reducible show Con _ _ _ _ _ _ _ _ 50 _ _ _ _); (refine' rat_con ?hb0; (case hb0 => walk_at "nz"))))
  trivial

-- G3
namespace Mine
section
variable {w : World} {mean : ExcName → Option Value} {mg mb : Str → Option Value}

theorem radd_con {x y : Rat} {a b : Value} {led : Led} (hx : RatIn led a x) (hy : RatIn led b y) (hx2 : RB big x) (hy2 : RB big y) : Con (Mine.hd.heap_39 w.params) Mine.view (looseW Mine.view []) mean mg mb PySem.Challenge.rw_sa0086_01.row.prog w 57 [a, b] 111 led (fun l r => RatIn l r (x + y)) := by
  k_fill
  intro s dp un gd fr E Am H hd hu
  have := hx2.nd hy2; have := hy2.nd hx2; have := hx2.dd hy2; have := mul_ne (den_ne x) (den_ne y)
  walk_at "enter"
  k_steps
  rename St _ _ _ _ _ _ _ _ _ _ _ _ _ _ _ => kS
  refine kS.done ?_
  rw [← rat_add]; assumption

theorem rsub_con {x y : Rat} {a b : Value} {led : Led} (hx : RatIn led a x) (hy : RatIn led b y) (hx2 : RB big x) (hy2 : RB big y) : Con (Mine.hd.heap_39 w.params) Mine.view (looseW Mine.view []) mean mg mb PySem.Challenge.rw_sa0086_01.row.prog w 64 [a, b] 111 led (fun l r => RatIn l r (x - y)) := by
  k_fill
  intro s dp un gd fr E Am H hd hu
  have := hx2.nd hy2; have := hy2.nd hx2; have := hx2.dd hy2; have := mul_ne (den_ne x) (den_ne y)
  walk_at "enter"
  k_steps
  rename St _ _ _ _ _ _ _ _ _ _ _ _ _ _ _ => kS
  refine kS.done ?_
  rw [← rat_sub]; assumption

theorem rmul_con {x y : Rat} {a b : Value} {led : Led} (hx : RatIn led a x) (hy : RatIn led b y) (hx2 : RB big x) (hy2 : RB big y) : Con (Mine.hd.heap_39 w.params) Mine.view (looseW Mine.view []) mean mg mb PySem.Challenge.rw_sa0086_01.row.prog w 71 [a, b] 111 led (fun l r => RatIn l r (x * y)) := by
  k_fill
  intro s dp un gd fr E Am H hd hu
  have := hx2.nn hy2; have := hx2.dd hy2; have := mul_ne (den_ne x) (den_ne y)
  walk_at "enter"
  k_steps
  rename St _ _ _ _ _ _ _ _ _ _ _ _ _ _ _ => kS
  refine kS.done ?_
  rw [← rat_mul]; assumption

theorem rdiv_con {x y : Rat} {a b : Value} {led : Led} (hx : RatIn led a x) (hy : RatIn led b y) (hx2 : RB big x) (hy2 : RB big y) (hn : y ≠ 0) : Con (Mine.hd.heap_39 w.params) Mine.view (looseW Mine.view []) mean mg mb PySem.Challenge.rw_sa0086_01.row.prog w 78 [a, b] 111 led (fun l r => RatIn l r (x / y)) := by
  k_fill
  intro s dp un gd fr E Am H hd hu
  have := hx2.nd hy2; have := hx2.dn hy2; have := mul_ne (den_ne x) (num_ne hn)
  walk_at "enter"
  k_steps
  rename St _ _ _ _ _ _ _ _ _ _ _ _ _ _ _ => kS
  refine kS.done ?_
  rw [← rat_div]; assumption

theorem rneg_con {x : Rat} {a : Value} {led : Led} (hx : RatIn led a x) : Con (Mine.hd.heap_39 w.params) Mine.view (looseW Mine.view []) mean mg mb PySem.Challenge.rw_sa0086_01.row.prog w 85 [a] 1 led (fun l r => RatIn l r (-x)) := by
  k_fill
  intro s dp un gd fr E Am H hd hu
  walk_at "enter"
  k_steps
  rename St _ _ _ _ _ _ _ _ _ _ _ _ _ _ _ => kS
  refine kS.done ?_
  rw [← (rat_neg x).1, ← (rat_neg x).2]
  exact .mem (.head _)
end
end Mine
open Mine

theorem Mine.rules5 : True := by
  k_with "con" => (((with_reducible show Con _ _ _ _ _ _ _ _ 57 _ _ _ _); (refine' radd_con ?a1 ?a2 ?a3 ?a4; (case a1 => walk_at "rel"); (case a2 => walk_at "rel"); (case a3 => walk_at "rb"); (case a4 => walk_at "rb"))))
  k_with "con" => (((with_reducible show Con _ _ _ _ _ _ _ _ 64 _ _ _ _); (refine' rsub_con ?a1 ?a2 ?a3 ?a4; (case a1 => walk_at "rel"); (case a2 => walk_at "rel"); (case a3 => walk_at "rb"); (case a4 => walk_at "rb"))))
  k_with "con" => (((with_reducible show Con _ _ _ _ _ _ _ _ 71 _ _ _ _); (refine' rmul_con ?a1 ?a2 ?a3 ?a4; (case a1 => walk_at "rel"); (case a2 => walk_at "rel"); (case a3 => walk_at "rb"); (case a4 => walk_at "rb"))))
  k_with "con" => (((with_reducible show Con _ _ _ _ _ _ _ _ 78 _ _ _ _); (refine' rdiv_con ?a1 ?a2 ?a3 ?a4 ?a5; (case a1 => walk_at "rel"); (case a2 => walk_at "rel"); (case a3 => walk_at "rb"); (case a4 => walk_at "rb"); (case a5 => walk_at "nz"))))
  k_with "con" => (((with_reducible show Con _ _ _ _ _ _ _ _ 85 _ _ _ _); (refine' rneg_con ?a1; (case a1 => walk_at "rel"))))
  trivial

-- G4
namespace Mine
section
variable {w : World} {mean : ExcName → Option Value} {mg mb : Str → Option Value}

theorem need_con {x : Str} {t : Tok} {led : Led} : Con (Mine.hd.heap_39 w.params) Mine.view (looseW Mine.view []) mean mg mb PySem.Challenge.rw_sa0086_01.row.prog w 99 [.bool true, .str x t] 10 led (fun _ r => r = .none) := by
  k_fill
  intro s dp un gd fr E Am H hd hu
  walk_at "enter"
  k_steps
  rename St _ _ _ _ _ _ _ _ _ _ _ _ _ _ _ => kS
  exact (St.tok kS _).done rfl
theorem shape_con {M : List (List Rat)} {r : List Rat} {a : Value} {led : Led} (ha : MatIn led a M) (hr : M[0]? = some r) (h1 : M.length < 2 ^ 62) (h2 : r.length < 2 ^ 62) : Con (Mine.hd.heap_39 w.params) Mine.view (looseW Mine.view []) mean mg mb PySem.Challenge.rw_sa0086_01.row.prog w 92 [a] 10 led (fun l v => PairIn l v M.length r.length) := by
  k_fill
  intro s dp un gd fr E Am H hd hu
  have h0 : 0 < M.length := (List.getElem?_eq_some_iff.mp hr).1
  walk_at "enter"
  k_steps
  rename St _ _ _ _ _ _ _ _ _ _ _ _ _ _ _ => kS
  exact kS.done ⟨_, _, _, _, rfl, .head _⟩

noncomputable def unitR (n : Nat) : List (List Rat) := (List.range n).map fun i => (List.range n).map fun j => if i = j then 1 else 0
theorem unit_con {n : Nat} {t : Tok} {led : Led} (hn : n ≤ 1000) : Con (Mine.hd.heap_39 w.params) Mine.view (looseW Mine.view []) mean mg mb PySem.Challenge.rw_sa0086_01.row.prog w 109 [.int n t] 10 led (fun l v => MatIn l v (unitR n)) := by
  k_fill
  intro s dp un gd fr E Am H hd hu
  walk_at "enter"
  k_steps
  rename St _ _ _ _ _ _ _ _ _ _ _ _ _ _ _ => kS
  refine comp_pure n (fun _ => true) (fun i l v => RowIn l v ((List.range n).map fun j => if i = j then 1 else 0)) (fun _ _ _ _ h => rowSub h subApp) led (by walk_at "om") (by with_unfolding_all rfl) (by decide) (by walk_at "hoc") rfl (by decide) ?hit
  k_steps
  rename St _ _ _ _ _ _ _ _ _ _ _ _ _ _ _ => kS
  rename IsRange _ _ _ _ _ _ _ _ => hR
  refine comp_range kS [(Str.ofString "n", .int n t)] rfl hR (small_lt (by walk_at "om") (by walk_at "om")) (by walk_at "om") (fun C => by walk_at "tgt") (by walk_at "clo") (fun _ _ _ _ _ _ _ _ _ => tests_nil) ?turn ?hQ
  case hQ =>
    rintro D vs c s' tl kS' hP
    refine kS'.freeze.done ⟨D, vs, c, rfl, .head _, ?_⟩
    rw [filter_true] at hP
    exact paired_range _ (fun i y h => rowSub h subCons) hP
  case turn =>
    clear kS
    intro i C m₁ t' tl s₃ E' hi _ kS
    rw [Int.zero_add] at kS
    k_steps
    rename St _ _ _ _ _ _ _ _ _ _ _ _ _ _ _ => kS
    refine comp_pure n (fun _ => true) (fun j l v => RatIn l v (if i = j then 1 else 0)) (fun _ _ _ _ h => h.sub subApp) (tl ++ led) (by walk_at "om") (by with_unfolding_all rfl) (by decide) (by walk_at "hoc") rfl (by decide) ?hit2
    k_steps
    rename St _ _ _ _ _ _ _ _ _ _ _ _ _ _ _ => kS
    rename IsRange _ _ _ _ _ _ _ _ => hR
    refine comp_range kS [(Str.ofString "row", .int i t')] rfl hR (small_lt (by walk_at "om") (by walk_at "om")) (by walk_at "om") (fun C => by walk_at "tgt") (by walk_at "clo") (fun _ _ _ _ _ _ _ _ _ => tests_nil) ?turn2 ?hQ2
    case hQ2 =>
      rintro D vs c s' tl kS' hP
      refine kS'.freeze.done ⟨D, vs, c, rfl, .head _, ?_⟩
      rw [filter_true] at hP
      exact paired_range _ (fun i y h => h.sub subCons) hP
    case turn2 =>
      clear kS
      intro j C m₁ t'' tl s₃ E' hj _ kS
      rw [Int.zero_add] at kS
      k_steps
      all_goals rename St _ _ _ _ _ _ _ _ _ _ _ _ _ _ _ => kS
      · rename (i : Int) = j => e
        refine kS.done ?_
        rw [if_pos (by walk_at "om")]; exact .one
      · rename (i : Int) ≠ j => e
        refine kS.done ?_
        rw [if_neg (by walk_at "om")]; exact .zero
end
end Mine
open Mine

theorem Mine.rules6 : True := by
  k_with "con" => (((with_reducible show Con _ _ _ _ _ _ _ _ 99 _ _ _ _); exact need_con))
  k_with "con" => (((with_reducible show Con _ _ _ _ _ _ _ _ 92 _ _ _ _); (refine' shape_con ?a1 ?a2 ?a3 ?a4; (case a1 => walk_at "rel"); (case a2 => assumption); (case a3 => walk_at "om"); (case a4 => walk_at "om"))))
  k_with "con" => (((with_reducible show Con _ _ _ _ _ _ _ _ 109 _ _ _ _); (refine' unit_con ?a1; (case a1 => walk_at "om"))))
  trivial

-- G5
namespace Mine
section
variable {w : World} {mean : ExcName → Option Value} {mg mb : Str → Option Value}

theorem dot_con {r1 r2 : List Rat} {a b : Value} {led : Led} {k j : Nat} (ha : RowIn led a r1) (hb : RowIn led b r2) (hl : r2.length = r1.length) (h1 : RBr k r1) (h2 : RBr j r2) (h3 : r1.length ≤ 3) (hk : 3 * (k + j + 1) ≤ big) :
    Con (Mine.hd.heap_39 w.params) Mine.view (looseW Mine.view []) mean mg mb PySem.Challenge.rw_sa0086_01.row.prog w 121 [a, b] 112 led (fun l v => RatIn l v (dotR r1 r2)) := by
  k_fill
  intro s dp un gd fr E Am H hd hu
  walk_at "enter"
  k_steps
  rename St _ _ _ _ _ _ _ _ _ _ _ _ _ _ _ => kS
  unfold Hold
  refine wpAny_For ?_
  k_steps
  unfold Hold
  rename St _ _ _ _ _ _ _ _ _ _ _ _ _ _ _ => kS
  rename (∀ b ∈ ownOf _ _, _) => hO
  refine for_enum kS hO rfl ha rfl ⟨by walk_at "tgt", by walk_at "tgt"⟩ (fun i m l _ => m "one" = some a ∧ m "other" = some b ∧ ∃ v, m "found" = some v ∧ RatIn l v (dotTo r1 r2 i)) ⟨by walk_at "km", by walk_at "km", _, by walk_at "km", .zero⟩ ?turn ?hR
  case hR =>
    rintro m' tl mu' s' kS' ⟨_, _, v, hv, hr⟩
    clear kS hO
    dsimp only
    k_steps
    rename St _ _ _ _ _ _ _ _ _ _ _ _ _ _ _ => kS
    exact kS.done hr
  case turn =>
    clear kS hO
    rintro i s₀' m₁ y v t tl mu₁ s₂ E' hi hy hR ⟨hm1, hm2, vf, hvf, hf⟩ kS hO
    have hy2 := some_getD (d := (0:Rat)) (show i < r2.length by walk_at "om")
    have e1 := getD_of (d := (0:Rat)) hy
    have : RB big y := (e1 ▸ h1.at i).mono (by walk_at "om")
    have : RB big (r2.getD i 0) := (h2.at i).mono (by walk_at "om")
    have : RB big (y * r2.getD i 0) := ((e1 ▸ h1.at i).mul (h2.at i)).mono (by walk_at "om")
    have : RB big (dotTo r1 r2 i) := (RB.dotTo h1 h2 i).mono (Nat.le_trans (Nat.mul_le_mul_right _ (by walk_at "om")) hk)
    k_steps
    rename St _ _ _ _ _ _ _ _ _ _ _ _ _ _ _ => kS
    refine ⟨.inl rfl, _, _, _, kS, by walk_at "km", by walk_at "km", _, by walk_at "km", ?_⟩
    rw [dotTo_succ, e1]; assumption
end
end Mine

-- G6
namespace Mine
theorem Dim.head {M : List (List Rat)} {n k : Nat} (h : Dim M n k) (h0 : 0 < n) : M[0]? = some (M.getD 0 []) ∧ (M.getD 0 []).length = k := by
  have e := some_getD (d := ([] : List Rat)) (show 0 < M.length by rw [h.rows]; exact h0)
  exact ⟨e, h.cols _ (List.mem_of_getElem? e)⟩
theorem Dim.at {M : List (List Rat)} {n k i : Nat} (h : Dim M n k) (hi : i < n) : M[i]? = some (M.getD i []) ∧ (M.getD i []).length = k := by
  have e := some_getD (d := ([] : List Rat)) (show i < M.length by rw [h.rows]; exact hi)
  exact ⟨e, h.cols _ (List.mem_of_getElem? e)⟩
theorem St.drop {K : Frag} {p : Program} {loose : List Str} {mean : ExcName → Option Value} {mg mb : Str → Option Value} {s₀ : Shared} {led₀ : Led} {env : Env} {oc : List (Str × Addr)} {cl : List (Str × Value)} {m : Str → Option Value} {t led mu : Led} {s : Shared}
    (S : St K p loose mean mg mb s₀ led₀ env oc cl m (t ++ led) mu s) (hn : ∃ tl, led = tl ++ led₀ ∧ Fresh s₀.heap tl) : St K p loose mean mg mb s₀ led₀ env oc cl m led mu s :=
  ⟨S.amb, S.same, S.ext, S.frm, S.clo, fun q hq => S.has q (List.mem_append_right _ hq), hn, S.muh, fun q hq => ⟨(S.muf q hq).1, fun r hr => (S.muf q hq).2 r (List.mem_append_right _ hr)⟩, S.mun⟩
section
variable {K : Frag} {p : Program} {loose : List Str} {mean : ExcName → Option Value} {mg mb : Str → Option Value} {s₀ : Shared} {led₀ : Led} {env : Env} {oc : List (Str × Addr)} {cl : List (Str × Value)} {m : Str → Option Value} {led mu : Led} {s : Shared}
/-- a comprehension's list given back -/
theorem St.doneSeq {α : Type} {R : Led → Value → α → Prop} {D : Addr} {vs : List Value} {c n : Nat} {tl : Led} {f : Nat → α} {xs : List α} (hR : ∀ {l l' v x}, R l v x → (∀ p ∈ l, p ∈ l') → R l' v x)
    (S : St K p loose mean mg mb s₀ led₀ env oc cl m (tl ++ led) ((D, lstO vs c) :: mu) s) (hP : Paired (fun i y => R (tl ++ led) y (f i)) ((List.range n).filter fun _ => true) vs) (he : (List.range n).map f = xs) : Made s₀ led₀ (fun l v => SeqIn R l v xs) (.ref D) s := by
  refine S.freeze.done ⟨D, vs, c, rfl, .head _, ?_⟩
  rw [filter_true] at hP
  rw [← he]
  exact paired_range _ (fun i y h => hR h subCons) hP
theorem St.doneRow {D : Addr} {vs : List Value} {c n : Nat} {tl : Led} {f : Nat → Rat} {xs : List Rat}
    (S : St K p loose mean mg mb s₀ led₀ env oc cl m (tl ++ led) ((D, lstO vs c) :: mu) s) (hP : Paired (fun i y => RatIn (tl ++ led) y (f i)) ((List.range n).filter fun _ => true) vs) (he : (List.range n).map f = xs) : Made s₀ led₀ (fun l v => RowIn l v xs) (.ref D) s :=
  S.doneSeq (fun h s => h.sub s) hP he
theorem St.doneMat {D : Addr} {vs : List Value} {c n : Nat} {tl : Led} {f : Nat → List Rat} {xs : List (List Rat)}
    (S : St K p loose mean mg mb s₀ led₀ env oc cl m (tl ++ led) ((D, lstO vs c) :: mu) s) (hP : Paired (fun i y => RowIn (tl ++ led) y (f i)) ((List.range n).filter fun _ => true) vs) (he : (List.range n).map f = xs) : Made s₀ led₀ (fun l v => MatIn l v xs) (.ref D) s :=
  S.doneSeq (fun h s => rowSub h s) hP he
end
/-- back to the ledger of the frame's entry -/
theorem St.base {K : Frag} {p : Program} {loose : List Str} {mean : ExcName → Option Value} {mg mb : Str → Option Value} {s₀ : Shared} {led₀ : Led} {env : Env} {oc : List (Str × Addr)} {cl : List (Str × Value)} {m : Str → Option Value} {led mu : Led} {s : Shared}
    (S : St K p loose mean mg mb s₀ led₀ env oc cl m led mu s) : St K p loose mean mg mb s₀ led₀ env oc cl m led₀ mu s := by
  obtain ⟨t, e, hf⟩ := S.new
  subst e
  exact S.drop ⟨[], rfl, Fresh.nil⟩
section
variable {w : World} {mean : ExcName → Option Value} {mg mb : Str → Option Value}

theorem trans_con {M : List (List Rat)} {n k : Nat} {a : Value} {led : Led} (ha : MatIn led a M) (hD : Dim M n k) (h0 : 0 < n) (hn : n ≤ 1000) (hk : k ≤ 1000) :
    Con (Mine.hd.heap_39 w.params) Mine.view (looseW Mine.view []) mean mg mb PySem.Challenge.rw_sa0086_01.row.prog w 114 [a] 20 led (fun l v => MatIn l v (transR M k)) := by
  k_fill
  intro s dp un gd fr E Am H hd hu
  obtain ⟨hr, hc⟩ := hD.head h0
  have hrows := hD.rows
  walk_at "enter"
  k_steps
  rename St _ _ _ _ _ _ _ _ _ _ _ _ _ _ _ => kS
  refine comp_pure k (fun _ => true) (fun j l v => RowIn l v (M.map fun r => r.getD j 0)) (fun _ _ _ _ h => rowSub h subApp) led (by walk_at "om") (by with_unfolding_all rfl) (by decide) (by walk_at "hoc") rfl (by decide) ?hit
  k_steps
  rename St _ _ _ _ _ _ _ _ _ _ _ _ _ _ _ => kS
  rename IsRange _ _ _ _ _ _ _ _ => hR
  replace kS := kS.drop ⟨[], rfl, Fresh.nil⟩
  refine comp_range kS [(Str.ofString "a", a)] rfl hR (small_lt (by walk_at "om") (by walk_at "om")) (by walk_at "om") (fun C => by walk_at "tgt") (by walk_at "clo") (fun _ _ _ _ _ _ _ _ _ => tests_nil) ?turn ?hQ
  case hQ => exact fun _ _ _ _ _ kS' hP => kS'.doneMat hP rfl
  case turn =>
    clear kS hR
    intro i C m₁ t' tl s₃ E' hi _ kS
    rw [Int.zero_add] at kS
    k_steps
    rename St _ _ _ _ _ _ _ _ _ _ _ _ _ _ _ => kS
    refine comp_pure n (fun _ => true) (fun j l v => RatIn l v ((M.getD j []).getD i 0)) (fun _ _ _ _ h => h.sub subApp) (tl ++ led) (by walk_at "om") (by with_unfolding_all rfl) (by decide) (by walk_at "hoc") rfl (by decide) ?hit2
    k_steps
    rename St _ _ _ _ _ _ _ _ _ _ _ _ _ _ _ => kS
    unfold Hold
    refine comp_list kS [(Str.ofString "column", .int i t')] rfl (matSub ha subApp) hrows (fun C => by walk_at "tgt") (by walk_at "clo") (by intros; exact tests_nil) ?turn2 ?hQ2
    case hQ2 => exact fun _ _ _ _ _ kS' hP => kS'.doneRow hP (by rw [← hrows]; exact map_range_getD (fun r => r.getD i 0) [] M)
    case turn2 =>
      clear kS
      intro j C m₁ y v tl s₃ E' hj _ hy hR kS
      have e1 := getD_of (d := ([] : List Rat)) hy
      have e2 : y[i]? = some (y.getD i 0) := some_getD (by rw [hD.cols y (List.mem_of_getElem? hy)]; exact hi)
      k_steps
      rename St _ _ _ _ _ _ _ _ _ _ _ _ _ _ _ => kS
      refine kS.done ?_
      rw [e1]; assumption
end
end Mine

-- Mx2
namespace Mine
theorem need_con2 {w : World} {mean : ExcName → Option Value} {mg mb : Str → Option Value} {b : Bool} {x : Str} {t : Tok} {led : Led} (hb : b = true) : Con (Mine.hd.heap_39 w.params) Mine.view (looseW Mine.view []) mean mg mb PySem.Challenge.rw_sa0086_01.row.prog w 99 [.bool b, .str x t] 10 led (fun _ r => r = .none) := by
  subst hb; exact need_con
end Mine
open Mine

theorem Mine.rules7 : True := by
  k_with "con" => (((with_reducible show Con _ _ _ _ _ _ _ _ 121 _ _ _ _); (refine' dot_con ?a1 ?a2 ?a3 ?a4 ?a5 ?a6 ?a7; (case a1 => walk_at "rel"); (case a2 => walk_at "rel"); (case a3 => walk_at "om"); (case a4 => walk_at "rb"); (case a5 => walk_at "rb"); (case a6 => walk_at "om"); (case a7 => walk_at "om"))))
  k_with "con" => (((with_reducible show Con _ _ _ _ _ _ _ _ 114 _ _ _ _); (refine' trans_con ?a1 ?a2 ?a3 ?a4 ?a5; (case a1 => walk_at "rel"); (case a2 => assumption); (case a3 => walk_at "om"); (case a4 => walk_at "om"); (case a5 => walk_at "om"))))
  k_with "compareOp Eq" => (((rename St _ _ _ _ _ _ _ _ _ _ _ _ _ _ _ => kS); k_dflt (refine' St.eqPair (St.tok kS _) ?k1 ?k2 ?k3 ?_; (case k1 => walk_at "rel"); (case k2 => walk_at "rel"); (case k3 => show _ < _; (try dsimp only); walk_at "om"))))
  k_with "con" => (((with_reducible show Con _ _ _ _ _ _ _ _ 99 _ _ _ _); (refine' need_con2 ?a1; (case a1 => first | rfl | (simp only [beq_iff_eq, decide_eq_true_eq]; walk_at "om")))))
  trivial

-- G7
namespace Mine
section
variable {w : World} {mean : ExcName → Option Value} {mg mb : Str → Option Value}

theorem scale_con {M : List (List Rat)} {n k e j : Nat} {q : Rat} {a v : Value} {led : Led} (ha : MatIn led a M) (hv : RatIn led v q) (hD : Dim M n k) (hn : n ≤ 1000) (hk : k ≤ 1000) (hB : RBm e M) (hq : RB j q) (he : e + j ≤ big) :
    Con (Mine.hd.heap_39 w.params) Mine.view (looseW Mine.view []) mean mg mb PySem.Challenge.rw_sa0086_01.row.prog w 131 [a, v] 120 led (fun l v => MatIn l v (scaleR M q)) := by
  k_fill
  intro s dp un gd fr E Am H hd hu
  have hrows := hD.rows
  walk_at "enter"
  k_steps
  rename St _ _ _ _ _ _ _ _ _ _ _ _ _ _ _ => kS
  refine comp_pure n (fun _ => true) (fun i l v => RowIn l v ((M.getD i []).map fun x => x * q)) (fun _ _ _ _ h => rowSub h subApp) led (by walk_at "om") (by with_unfolding_all rfl) (by decide) (by walk_at "hoc") rfl (by decide) ?hit
  k_steps
  rename St _ _ _ _ _ _ _ _ _ _ _ _ _ _ _ => kS
  unfold Hold
  refine comp_list kS [(Str.ofString "number", v)] rfl ha hrows (fun C => by walk_at "tgt") (by walk_at "clo") (by intros; exact tests_nil) ?turn ?hQ
  case hQ => exact fun _ _ _ _ _ kS' hP => kS'.doneMat hP (by rw [← hrows]; exact map_range_getD (fun r => r.map fun x => x * q) [] M)
  case turn =>
    clear kS
    intro i C m₁ y v tl s₃ E' hi _ hy hR kS
    have e1 := getD_of (d := ([] : List Rat)) hy
    have hyl := hD.cols y (List.mem_of_getElem? hy)
    k_steps
    rename St _ _ _ _ _ _ _ _ _ _ _ _ _ _ _ => kS
    refine comp_pure k (fun _ => true) (fun j l v => RatIn l v (y.getD j 0 * q)) (fun _ _ _ _ h => h.sub subApp) (tl ++ led) (by walk_at "om") (by with_unfolding_all rfl) (by decide) (by walk_at "hoc") rfl (by decide) ?hit2
    k_steps
    rename St _ _ _ _ _ _ _ _ _ _ _ _ _ _ _ => kS
    unfold Hold
    refine comp_list kS [(Str.ofString "number", _)] rfl (rowSub hR subApp) hyl (fun C => by walk_at "tgt") (by walk_at "clo") (by intros; exact tests_nil) ?turn2 ?hQ2
    case hQ2 => exact fun _ _ _ _ _ kS' hP => kS'.doneRow hP (by rw [← hyl, e1]; exact map_range_getD (fun x => x * q) 0 y)
    case turn2 =>
      clear kS
      intro j C m₁ x v tl s₃ E' hj _ hx hR kS
      have e2 := getD_of (d := (0 : Rat)) hx
      have hxb := hB y (List.mem_of_getElem? hy) x (List.mem_of_getElem? hx)
      have : RB big x := hxb.mono (by walk_at "om")
      have : RB big q := hq.mono (by walk_at "om")
      k_steps
      rename St _ _ _ _ _ _ _ _ _ _ _ _ _ _ _ => kS
      refine kS.done ?_
      rw [e2]; assumption

theorem trace_con {M : List (List Rat)} {n e : Nat} {a : Value} {led : Led} (ha : MatIn led a M) (hD : Dim M n n) (h0 : 0 < n) (hn : n ≤ 1000) (hB : RBm e M) (he : n * (e + 1) ≤ big) :
    Con (Mine.hd.heap_39 w.params) Mine.view (looseW Mine.view []) mean mg mb PySem.Challenge.rw_sa0086_01.row.prog w 143 [a] 120 led (fun l v => RatIn l v (traceTo M n)) := by
  k_fill
  intro s dp un gd fr E Am H hd hu
  have hrows := hD.rows
  obtain ⟨hr, hc⟩ := hD.head h0
  walk_at "enter"
  k_steps
  rename St _ _ _ _ _ _ _ _ _ _ _ _ _ _ _ => kS
  rename (∀ b ∈ ownOf _ _, _) => hO
  unfold Hold
  refine wpAny_For ?_
  k_steps
  unfold Hold
  rename St _ _ _ _ _ _ _ _ _ _ _ _ _ _ _ => kS
  rename IsRange _ _ _ _ _ _ _ _ => hR
  refine for_range (n := n) kS hO rfl hR (small_lt (by walk_at "om") (by walk_at "om")) (by walk_at "om") (by walk_at "tgt") (fun i m l _ => m "a" = some a ∧ ∃ v, m "found" = some v ∧ RatIn l v (traceTo M i)) ⟨by walk_at "km", _, by walk_at "km", .zero⟩ ?turn ?hR2
  case hR2 =>
    rintro m' tl mu' s' kS' ⟨_, v, hv, hr⟩
    clear kS hO hR
    dsimp only
    k_steps
    rename St _ _ _ _ _ _ _ _ _ _ _ _ _ _ _ => kS
    exact kS.done hr
  case turn =>
    clear kS hO hR
    rintro i s₀' m₁ t tl mu₁ s₂ E' hi ⟨hm1, vf, hvf, hf⟩ kS hO
    rw [Int.zero_add] at kS
    obtain ⟨hy, hyl⟩ := hD.at (show i < n by walk_at "om")
    have hy2 := some_getD (xs := M.getD i []) (d := (0:Rat)) (show i < (M.getD i []).length by walk_at "om")
    have : n * (e + 1) = (n - 1) * (e + 1) + (e + 1) := by conv => lhs; rw [show n = (n - 1) + 1 by walk_at "om", Nat.add_mul, Nat.one_mul]
    have : RB big ((M.getD i []).getD i 0) := ((hB.at i).at i).mono (by walk_at "om")
    have : RB big (traceTo M i) := (RB.traceTo hB i).mono (Nat.le_trans (Nat.mul_le_mul_right _ (show i ≤ n by walk_at "om")) he)
    k_steps
    rename St _ _ _ _ _ _ _ _ _ _ _ _ _ _ _ => kS
    refine ⟨.inl rfl, _, _, _, kS, by walk_at "km", _, by walk_at "km", ?_⟩
    rw [traceTo_succ]; assumption

theorem add_con {M N : List (List Rat)} {n k e j : Nat} {a b : Value} {led : Led} (ha : MatIn led a M) (hb : MatIn led b N) (hD : Dim M n k) (hE : Dim N n k) (h0 : 0 < n) (hn : n ≤ 1000) (hk : k ≤ 1000) (hB : RBm e M) (hC : RBm j N) (he : e ≤ big) (hj : j ≤ big) :
    Con (Mine.hd.heap_39 w.params) Mine.view (looseW Mine.view []) mean mg mb PySem.Challenge.rw_sa0086_01.row.prog w 126 [a, b] 120 led (fun l v => MatIn l v (addR M N)) := by
  k_fill
  intro s dp un gd fr E Am H hd hu
  have hrows := hD.rows
  have hrows2 := hE.rows
  obtain ⟨hr, hc⟩ := hD.head h0
  obtain ⟨hr2, hc2⟩ := hE.head h0
  walk_at "enter"
  k_steps
  rename St _ _ _ _ _ _ _ _ _ _ _ _ _ _ _ => kS
  refine comp_pure n (fun _ => true) (fun i l v => RowIn l v ((List.range k).map fun j => (M.getD i []).getD j 0 + (N.getD i []).getD j 0)) (fun _ _ _ _ h => rowSub h subApp) led (by walk_at "om") (by with_unfolding_all rfl) (by decide) (by walk_at "hoc") rfl (by decide) ?hit
  k_steps
  rename St _ _ _ _ _ _ _ _ _ _ _ _ _ _ _ => kS
  unfold Hold
  replace kS := kS.base
  refine comp_enum kS [(Str.ofString "b", b)] rfl ha hrows (fun C => ⟨by walk_at "tgt", by walk_at "tgt"⟩) (by walk_at "clo") (by intros; exact tests_nil) ?turn ?hQ
  case hQ => exact fun _ _ _ _ _ kS' hP => kS'.doneMat hP (by
    unfold addR
    rw [hrows]
    refine List.map_congr_left fun i hi => ?_
    rw [(hD.at (List.mem_range.mp hi)).2])
  case turn =>
    clear kS
    intro i C m₁ y v t tl s₃ E' hi _ hy hR kS
    have e1 := getD_of (d := ([] : List Rat)) hy
    have hyl := hD.cols y (List.mem_of_getElem? hy)
    obtain ⟨hz, hzl⟩ := hE.at hi
    k_steps
    rename St _ _ _ _ _ _ _ _ _ _ _ _ _ _ _ => kS
    refine comp_pure k (fun _ => true) (fun j l v => RatIn l v (y.getD j 0 + (N.getD i []).getD j 0)) (fun _ _ _ _ h => h.sub subApp) (tl ++ led) (by walk_at "om") (by with_unfolding_all rfl) (by decide) (by walk_at "hoc") rfl (by decide) ?hit2
    k_steps
    rename St _ _ _ _ _ _ _ _ _ _ _ _ _ _ _ => kS
    unfold Hold
    refine comp_enum kS [(Str.ofString "row", .int i t), (Str.ofString "b", b)] rfl (rowSub hR subApp) hyl (fun C => ⟨by walk_at "tgt", by walk_at "tgt"⟩) (by walk_at "clo") (by intros; exact tests_nil) ?turn2 ?hQ2
    case hQ2 => exact fun _ _ _ _ _ kS' hP => kS'.doneRow hP (by rw [e1])
    case turn2 =>
      clear kS
      intro j C m₁ x v t' tl s₃ E' hj _ hx hR kS
      have e2 := getD_of (d := (0 : Rat)) hx
      have hw := some_getD (xs := N.getD i []) (d := (0:Rat)) (show j < (N.getD i []).length by walk_at "om")
      have : RB big x := (hB y (List.mem_of_getElem? hy) x (List.mem_of_getElem? hx)).mono (by walk_at "om")
      have : RB big ((N.getD i []).getD j 0) := ((hC.at i).at j).mono (by walk_at "om")
      k_steps
      rename St _ _ _ _ _ _ _ _ _ _ _ _ _ _ _ => kS
      refine kS.done ?_
      rw [e2]; assumption
end
end Mine

-- G8
namespace Mine
theorem transR_dim {M : List (List Rat)} {n k : Nat} (hD : Dim M n k) : Dim (transR M k) k n := by
  constructor
  · unfold transR; simp
  · intro r hr
    unfold transR at hr
    obtain ⟨i, _, rfl⟩ := List.mem_map.mp hr
    simp [hD.rows]
theorem RBm.trans {M : List (List Rat)} {k e : Nat} (h : RBm e M) : RBm e (transR M k) := fun r hr x hx => by
  unfold transR at hr
  obtain ⟨i, _, rfl⟩ := List.mem_map.mp hr
  obtain ⟨q, hq, rfl⟩ := List.mem_map.mp hx
  exact RBr.at (h q hq) i
noncomputable abbrev St.ledOf {K : Frag} {p : Program} {loose : List Str} {mean : ExcName → Option Value} {mg mb : Str → Option Value} {s₀ : Shared} {led₀ : Led} {env : Env} {oc : List (Str × Addr)} {cl : List (Str × Value)} {m : Str → Option Value} {led mu : Led} {s : Shared}
    (_ : St K p loose mean mg mb s₀ led₀ env oc cl m led mu s) : Led := led
section
variable {w : World} {mean : ExcName → Option Value} {mg mb : Str → Option Value}

theorem mul_con {M N : List (List Rat)} {n m k e j : Nat} {a b : Value} {led : Led} (ha : MatIn led a M) (hb : MatIn led b N) (hD : Dim M n m) (hE : Dim N m k) (h0 : 0 < n) (h1 : 0 < m) (hn : n ≤ 1000) (hm : m ≤ 3) (hk : k ≤ 1000) (hB : RBm e M) (hC : RBm j N) (he : 3 * (e + j + 1) ≤ big) :
    Con (Mine.hd.heap_39 w.params) Mine.view (looseW Mine.view []) mean mg mb PySem.Challenge.rw_sa0086_01.row.prog w 136 [a, b] 125 led (fun l v => MatIn l v (mulR M N k)) := by
  k_fill
  intro s dp un gd fr E Am H hd hu
  have hrows := hD.rows
  have hrows2 := hE.rows
  obtain ⟨hr, hc⟩ := hD.head h0
  obtain ⟨hr2, hc2⟩ := hE.head h1
  walk_at "enter"
  k_steps
  rename MatIn _ _ (transR _ _) => hT
  have hTD := transR_dim hE
  have hTB := hC.trans (k := k)
  rename St _ _ _ _ _ _ _ _ _ _ _ _ _ _ _ => kS
  refine comp_pure n (fun _ => true) (fun i l v => RowIn l v ((transR N k).map fun c => dotR (M.getD i []) c)) (fun _ _ _ _ h => rowSub h subApp) (St.ledOf kS) (by walk_at "om") (by with_unfolding_all rfl) (by decide) (by walk_at "hoc") rfl (by decide) ?hit
  unfold St.ledOf
  k_steps
  rename St _ _ _ _ _ _ _ _ _ _ _ _ _ _ _ => kS
  unfold Hold
  refine comp_list kS [(Str.ofString "columns", _)] rfl (by walk_at "rel") hrows (fun C => by walk_at "tgt") (by walk_at "clo") (by intros; exact tests_nil) ?turn ?hQ
  case hQ => exact fun _ _ _ _ _ kS' hP => kS'.doneMat hP (by rw [← hrows]; exact map_range_getD (fun r => (transR N k).map fun c => dotR r c) [] M)
  case turn =>
    clear kS
    intro i C m₁ y v tl s₃ E' hi _ hy hR kS
    have e1 := getD_of (d := ([] : List Rat)) hy
    have hyl := hD.cols y (List.mem_of_getElem? hy)
    k_steps
    rename St _ _ _ _ _ _ _ _ _ _ _ _ _ _ _ => kS
    refine comp_pure k (fun _ => true) (fun j l v => RatIn l v (dotR y ((transR N k).getD j []))) (fun _ _ _ _ h => h.sub subApp) (St.ledOf kS) (by walk_at "om") (by with_unfolding_all rfl) (by decide) (by walk_at "hoc") rfl (by decide) ?hit2
    unfold St.ledOf
    k_steps
    rename St _ _ _ _ _ _ _ _ _ _ _ _ _ _ _ => kS
    unfold Hold
    refine comp_list (R := RowIn) kS [(Str.ofString "row", _)] rfl (by walk_at "rel") hTD.rows (fun C => by walk_at "tgt") (by walk_at "clo") (by intros; exact tests_nil) ?turn2 ?hQ2
    case hQ2 => exact fun _ _ _ _ _ kS' hP => kS'.doneRow hP (by have h9 := map_range_getD (fun c => dotR y c) [] (transR N k); rw [hTD.rows] at h9; rw [e1]; exact h9)
    case turn2 =>
      clear kS
      intro j C m₁ x v tl s₃ E' hj _ hx hR kS
      have e2 := getD_of (d := ([] : List Rat)) hx
      have hxl := hTD.cols x (List.mem_of_getElem? hx)
      have := hB y (List.mem_of_getElem? hy)
      have := hTB x (List.mem_of_getElem? hx)
      k_steps
      rename St _ _ _ _ _ _ _ _ _ _ _ _ _ _ _ => kS
      refine kS.done ?_
      rw [e2]; assumption
end
end Mine

-- Lst
namespace Mine
open Sem (wp)
section
variable {M : Model} {A : Around} {E : Value → Shared → Prop} {s : Shared}
theorem getMethod_lst {l : Addr} {o : Obj} {n bn : String} {pl : Sem Bool} {Q : Value × List Value → Shared → Prop} (ho : s.heap.get? l = some o) (hc : o.cls = .type "list") (hd : o.dict = none)
    (hs : Slot "list" (Str.ofString n) bn) (ht : typeOf (.builtin bn) = pure (.type "method_descriptor")) (h : Q (.builtin bn, [.ref l]) s) : wpAny M A (getMethod (.ref l) (Str.ofString n) pl) Q E s := by
  have hT : s.TypeIs (.ref l) "list" := ⟨o, ho, hc⟩
  unfold getMethod
  refine wpAny_bind (wpAny_specialOf hT list_getattribute ?_)
  show wpAny M A (if (Manifest.canonical "list.__getattribute__" != "object.__getattribute__") = true then _ else _) Q E s
  rw [canon_list_getattribute, if_neg Bool.false_ne_true]
  refine wpAny_bind (wpAny_specialOf hT list_getattr_none ?_)
  refine wpAny_bind (wpAny_specialOf hT hs.lookup ?_)
  refine wpAny_bind (wpAny_of_eq ht ?_)
  refine wpAny_bind (wpAny_load ho ?_)
  rw [hd]
  exact wpAny_bind (wpAny_rule (wpAny_pure h))
end
section
variable {K : Frag} {p : Program} {loose : List Str} {mean : ExcName → Option Value} {mg mb : Str → Option Value} {s₀ : Shared} {led₀ : Led} {env : Env} {oc : List (Str × Addr)} {cl : List (Str × Value)} {m : Str → Option Value} {led mu : Led} {s : Shared}
  {A : Around} {E : Value → Shared → Prop} {prog : Program} {w : World} {x : Str} {v : Value} {pos : Pos}
theorem St.getM {a : Addr} {vs : List Value} {c : Nat} {n bn : String} {pl : Sem Bool} {Q : Value × List Value → Shared → Prop} (S : St K p loose mean mg mb s₀ led₀ env oc cl m led mu s) (hm : (a, lstO vs c) ∈ mu)
    (hs : Slot "list" (Str.ofString n) bn) (ht : typeOf (.builtin bn) = pure (.type "method_descriptor")) (h : Q (.builtin bn, [.ref a]) s) : wpAny (model prog w) A (getMethod (.ref a) (Str.ofString n) pl) Q E s :=
  getMethod_lst (S.muh _ hm).1 rfl rfl hs ht h
theorem St.append {a : Addr} {vs : List Value} {c : Nat} {Q : Value → Shared → Prop} (S : St K p loose mean mg mb s₀ led₀ env oc [] m led ((a, lstO vs c) :: mu) s) (hsz : vs.length ≤ 100000)
    (h : ∀ s', St K p loose mean mg mb s₀ led₀ env oc [] m led ((a, lstO (vs ++ [v]) (c + 1)) :: mu) s' → Q .none s') : wpAny (model prog w) A (PySem.call (.builtin "list.append") [.ref a, v]) Q E s := by
  refine append_at (S.muh _ (.head _)).1 (fun h' hb ho => h _ (S.turn (tk := s.toks) hb ?_ rfl)) (by rw [sizeLine_eq, List.size_toArray]; walk_at "om")
  rw [ho]; simp
theorem St.reverse {a : Addr} {vs : List Value} {c : Nat} {Q : Value → Shared → Prop} (S : St K p loose mean mg mb s₀ led₀ env oc [] m led ((a, lstO vs c) :: mu) s) (hsz : vs.length ≤ 100000)
    (h : ∀ c' s', St K p loose mean mg mb s₀ led₀ env oc [] m led ((a, lstO vs.reverse c') :: mu) s' → Q .none s') : wpAny (model prog w) A (PySem.call (.builtin "list.reverse") [.ref a]) Q E s := by
  have ho := (S.muh _ (.head _)).1
  obtain ⟨c', e⟩ : ∃ c', Obj.mapSeq (·.reverse) (lstO vs c) = lstO vs.reverse c' := by
    obtain ⟨c', e⟩ : ∃ c', Obj.mapSeq (·.reverse) (lstO vs c) = { cls := .type "list", data := .seq vs.toArray.reverse c' } := ⟨_, rfl⟩
    exact ⟨c', by rw [e]; simp⟩
  refine wpAny_call_entry F.slot_list_reverse ⟨_, ho, rfl⟩ F.entry_list_reverse ?_ (F.args_list_reverse_1 _)
  show wpAny _ _ (updateSeq a (·.reverse) >>= fun _ => ret .none) _ _ s
  refine wpAny_bind ?_
  refine wpAny_updateSeq ho rfl (wpAny_pure ⟨.none, rfl, h c' _ (S.turn (tk := s.toks) (Heap.SameBut.update ..) ?_ rfl)⟩) (by rw [sizeLine_eq, List.size_toArray]; walk_at "om") (by rw [Array.size_reverse, sizeLine_eq, List.size_toArray]; walk_at "om")
  rw [Heap.get?_update_self _ ho (by rw [e]; rfl), e]
end
end Mine
open Mine

theorem Mine.rules8 : True := by
  k_with "getMethod ref" => (((rename St _ _ _ _ _ _ _ _ _ _ _ _ _ _ _ => kS); k_dflt (first | ((with_reducible show wpAny _ _ (getMethod _ (Str.ofString "append") _) _ _ _); (refine' St.getM (St.tok kS _) ?km PySem.F.slot_list_append PySem.F.type_list_append ?_; (case km => walk_at "mem"))) | ((with_reducible show wpAny _ _ (getMethod _ (Str.ofString "reverse") _) _ _ _); (refine' St.getM (St.tok kS _) ?km PySem.F.slot_list_reverse PySem.F.type_list_reverse ?_; (case km => walk_at "mem"))) | ((with_reducible show wpAny _ _ (getMethod _ (Str.ofString "pop") _) _ _ _); (refine' St.getM (St.tok kS _) ?km PySem.F.slot_list_pop PySem.F.type_list_pop ?_; (case km => walk_at "mem"))))))
  k_with "call builtin:list.append" => (((rename St _ _ _ _ _ _ _ _ _ _ _ _ _ _ _ => kS); k_dflt (refine' St.append (St.tok kS _) ?km ?_; (case km => walk_at "size")); clear kS; intro s' kS))
  k_with "call builtin:list.reverse" => (((rename St _ _ _ _ _ _ _ _ _ _ _ _ _ _ _ => kS); k_dflt (refine' St.reverse (St.tok kS _) ?km ?_; (case km => walk_at "size")); clear kS; intro c' s' kS))
  k_with "size" => (first | walk_at "om" | (simp only [List.length_append, List.length_cons, List.length_nil, List.length_reverse]; walk_at "om"))
  k_with "con" => (((with_reducible show Con _ _ _ _ _ _ _ _ 131 _ _ _ _); (refine' scale_con ?a1 ?a2 ?a3 ?a4 ?a5 ?a6 ?a7 ?a8; (case a1 => walk_at "rel"); (case a2 => walk_at "rel"); (case a3 => assumption); (case a4 => walk_at "om"); (case a5 => walk_at "om"); (case a6 => walk_at "rb"); (case a7 => walk_at "rb"); (case a8 => walk_at "om"))))
  k_with "con" => (((with_reducible show Con _ _ _ _ _ _ _ _ 143 _ _ _ _); (refine' trace_con ?a1 ?a2 ?a3 ?a4 ?a5 ?a6; (case a1 => walk_at "rel"); (case a2 => assumption); (case a3 => walk_at "om"); (case a4 => walk_at "om"); (case a5 => walk_at "rb"); (case a6 => first | assumption | walk_at "om"))))
  k_with "con" => (((with_reducible show Con _ _ _ _ _ _ _ _ 126 _ _ _ _); (refine' add_con ?a1 ?a2 ?a3 ?a4 ?a5 ?a6 ?a7 ?a8 ?a9 ?b1 ?b2; (case a1 => walk_at "rel"); (case a2 => walk_at "rel"); (case a3 => assumption); (case a4 => assumption); (case a5 => walk_at "om"); (case a6 => walk_at "om"); (case a7 => walk_at "om"); (case a8 => walk_at "rb"); (case a9 => walk_at "rb"); (case b1 => walk_at "om"); (case b2 => walk_at "om"))))
  k_with "con" => (((with_reducible show Con _ _ _ _ _ _ _ _ 136 _ _ _ _); (refine' mul_con ?a1 ?a2 ?a3 ?a4 ?a5 ?a6 ?a7 ?a8 ?a9 ?b1 ?b2 ?b3; (case a1 => walk_at "rel"); (case a2 => walk_at "rel"); (case a3 => assumption); (case a4 => assumption); (case a5 => walk_at "om"); (case a6 => walk_at "om"); (case a7 => walk_at "om"); (case a8 => walk_at "om"); (case a9 => walk_at "om"); (case b1 => walk_at "rb"); (case b2 => walk_at "rb"); (case b3 => walk_at "om"))))
  trivial

-- Fad
namespace Mine
theorem paired_reverse {α β : Type} {F : α → β → Prop} : ∀ {l₁ : List α} {l₂ : List β}, Paired F l₁ l₂ → Paired F l₁.reverse l₂.reverse
  | _, _, .nil => .nil
  | _, _, .cons h t => by rw [List.reverse_cons, List.reverse_cons]; exact (paired_reverse t).snoc h
theorem dim_unit (n : Nat) : Dim (unitR n) n n := ⟨by simp [unitR], fun r hr => by
  unfold unitR at hr
  obtain ⟨i, _, rfl⟩ := List.mem_map.mp hr
  simp⟩
theorem rb_unit (n k : Nat) : RBm k (unitR n) := fun r hr x hx => by
  unfold unitR at hr
  obtain ⟨i, _, rfl⟩ := List.mem_map.mp hr
  obtain ⟨j, _, rfl⟩ := List.mem_map.mp hx
  split
  · exact RB.one
  · exact RB.zero
theorem dim_mul {A B : List (List Rat)} {n m k : Nat} (hA : Dim A n m) : Dim (mulR A B k) n k := ⟨by simp [mulR, hA.rows], fun r hr => by
  unfold mulR at hr
  obtain ⟨q, _, rfl⟩ := List.mem_map.mp hr
  simp [transR]⟩
theorem rb_mul {A B : List (List Rat)} {n m k e j : Nat} (hA : Dim A n m) (hm : m ≤ 3) (h1 : RBm e A) (h2 : RBm j B) : RBm (3 * (e + j + 1)) (mulR A B k) := fun r hr x hx => by
  unfold mulR at hr
  obtain ⟨q, hq, rfl⟩ := List.mem_map.mp hr
  obtain ⟨c, hc, rfl⟩ := List.mem_map.mp hx
  have := hA.cols q hq
  exact (RB.dotTo (h1 q hq) (h2.trans c hc) q.length).mono (Nat.mul_le_mul_right _ (by walk_at "om"))
theorem dim_scale {A : List (List Rat)} {n k : Nat} {q : Rat} (hA : Dim A n k) : Dim (scaleR A q) n k := ⟨by simp [scaleR, hA.rows], fun r hr => by
  unfold scaleR at hr
  obtain ⟨q, hq, rfl⟩ := List.mem_map.mp hr
  simp [hA.cols q hq]⟩
theorem rb_scale {A : List (List Rat)} {e j : Nat} {q : Rat} (h1 : RBm e A) (h2 : RB j q) : RBm (e + j) (scaleR A q) := fun r hr x hx => by
  unfold scaleR at hr
  obtain ⟨q, hq, rfl⟩ := List.mem_map.mp hr
  obtain ⟨c, hc, rfl⟩ := List.mem_map.mp hx
  exact (h1 q hq c hc).mul h2
theorem dim_add {A B : List (List Rat)} {n k : Nat} (hA : Dim A n k) : Dim (addR A B) n k := ⟨by simp [addR, hA.rows], fun r hr => by
  unfold addR at hr
  obtain ⟨i, hi, rfl⟩ := List.mem_map.mp hr
  have := (hA.at (i := i) (by rw [← hA.rows]; exact List.mem_range.mp hi)).2
  rw [List.length_map, List.length_range, this]⟩
theorem rb_add {A B : List (List Rat)} {e j : Nat} (h1 : RBm e A) (h2 : RBm j B) : RBm (e + j + 1) (addR A B) := fun r hr x hx => by
  unfold addR at hr
  obtain ⟨i, hi, rfl⟩ := List.mem_map.mp hr
  obtain ⟨c, hc, rfl⟩ := List.mem_map.mp hx
  exact ((h1.at i).at c).add ((h2.at i).at c)

noncomputable def fadNum (Q : List (List Rat)) (n i : Nat) : Rat := -(traceTo Q n / ((1 + (i : Int) : Int) : Rat))
noncomputable def fadP (A : List (List Rat)) (n : Nat) : Nat → List (List Rat)
  | 0 => unitR n
  | i + 1 => addR (mulR A (fadP A n i) n) (scaleR (unitR n) (fadNum (mulR A (fadP A n i) n) n i))
noncomputable def fadN (A : List (List Rat)) (n i : Nat) : Rat := fadNum (mulR A (fadP A n i) n) n i
noncomputable def charR (A : List (List Rat)) (n : Nat) : List Rat := (1 :: (List.range n).map (fadN A n)).reverse
noncomputable def fb (b : Nat) : Nat → Nat
  | 0 => 0
  | i + 1 => 12 * (b + fb b i + 1) + 6
theorem fb_le {b : Nat} (hb : b ≤ 500) : ∀ i, i < 3 → fb b i ≤ 156 * b + 234
  | 0, _ => by simp [fb]
  | 1, _ => by simp [fb]; walk_at "om"
  | 2, _ => by simp [fb]; walk_at "om"
  | n + 3, h => absurd h (by walk_at "om")
theorem rb_step {i : Nat} (hi : i < 3) : RB 2 ((1 + (i : Int) : Int) : Rat) := RB.int (by walk_at "om")
theorem rb_num {Q : List (List Rat)} {n i e : Nat} (hn : n ≤ 3) (hi : i < 3) (hQ : RBm e Q) : RB (3 * (e + 1) + 2) (fadNum Q n i) :=
  (((RB.traceTo hQ n).mono (Nat.mul_le_mul_right _ hn)).div (rb_step hi)).neg
theorem dim_fad {A : List (List Rat)} {n : Nat} (hA : Dim A n n) : ∀ i, Dim (fadP A n i) n n
  | 0 => dim_unit n
  | _ + 1 => dim_add (dim_mul hA)
theorem rb_fad {A : List (List Rat)} {n b : Nat} (hA : Dim A n n) (hn : n ≤ 3) (hb : RBm b A) : ∀ i, i ≤ 3 → RBm (fb b i) (fadP A n i)
  | 0, _ => rb_unit n 0
  | i + 1, hi => by
    have h1 := rb_mul (k := n) hA hn hb (rb_fad hA hn hb i (by walk_at "om"))
    exact (rb_add h1 (rb_scale (rb_unit n 0) (rb_num hn (by walk_at "om") h1))).mono (by simp only [fb]; walk_at "om")
end Mine

-- G9
namespace Mine
theorem RatIn.step {l : Led} {a : Addr} {i : Int} {t1 t2 : Tok} {c : Nat} (h : (a, tupO [.int i t1, .int 1 t2] c) ∈ l) : RatIn l (.ref a) (i : Rat) := .mem (t1 := t1) (t2 := t2) (c := c) h
theorem step_ne {i : Nat} : ((1 + (i : Int) : Int) : Rat) ≠ 0 := by
  intro h
  have := congrArg Rat.num h
  rw [(rat_step _).1] at this
  simp at this
  walk_at "om"
end Mine
open Mine
theorem Mine.rules9 : True := by
  k_with "rel" => ((refine' RatIn.step ?kz; (case kz => walk_at "mem")))
  trivial
namespace Mine
section
variable {w : World} {mean : ExcName → Option Value} {mg mb : Str → Option Value}

theorem char_con {M : List (List Rat)} {b : Nat} {a : Value} {led : Led} (ha : MatIn led a M) (hD : Dim M M.length M.length) (h0 : 0 < M.length) (hn : M.length ≤ 3) (hB : RBm b M) (hb : b ≤ 500) :
    Con (Mine.hd.heap_39 w.params) Mine.view (looseW Mine.view []) mean mg mb PySem.Challenge.rw_sa0086_01.row.prog w 172 [a] 130 led (fun l v => RowIn l v (charR M M.length)) := by
  k_fill
  intro s dp un gd fr E Am H hd hu
  obtain ⟨hr, hc⟩ := hD.head h0
  have hbig : big = 1000000 := rfl
  walk_at "enter"
  k_steps
  rename (∀ b ∈ ownOf _ _, _) => hO
  unfold Hold
  refine wpAny_For ?_
  k_steps
  unfold Hold
  rename St _ _ _ _ _ _ _ _ _ _ _ _ _ _ _ => kS
  rename IsRange _ _ _ _ _ _ _ _ => hR
  rename MatIn _ _ (unitR _) => hU
  refine for_range (n := M.length) kS hO rfl hR (small_lt2 (by walk_at "om") (by walk_at "om") (by walk_at "om") (by walk_at "om")) (by walk_at "om") (by walk_at "tgt")
    (fun i m l mu => m "a" = some a ∧ (∃ t, m "n" = some (.int M.length t)) ∧ ∃ v F vs c, m "power" = some v ∧ MatIn l v (fadP M M.length i) ∧ m "found" = some (.ref F) ∧ mu = [(F, lstO vs c)] ∧ Paired (RatIn l) vs (1 :: (List.range i).map (fadN M M.length)))
    ⟨by walk_at "km", ⟨_, by walk_at "km"⟩, _, _, _, _, by walk_at "km", by walk_at "rel", by walk_at "km", rfl, .cons .one .nil⟩ ?turn ?hR2
  case hR2 =>
    rintro m' tl mu' s' kS' ⟨hm1, ⟨t, hm2⟩, v, F, vs, c, hm3, hp, hm4, rfl, hP⟩
    clear kS hO hR
    dsimp only
    have hlen := hP.length
    simp only [List.length_cons, List.length_map, List.length_range] at hlen
    k_steps
    rename St _ _ _ _ _ _ _ _ _ _ _ _ _ _ _ => kS
    refine kS.freeze.done ⟨_, _, _, rfl, .head _, ?_⟩
    unfold charR
    exact paired_reverse (Paired.imp (fun _ _ h => RatIn.sub h (fun q hq => List.mem_cons_of_mem _ hq)) hP)
  case turn =>
    clear kS hO hR
    rintro i s₀' m₁ t tl mu₁ s₂ E' hi ⟨hm1, ⟨t, hm2⟩, v, F, vs, c, hm3, hp, hm4, rfl, hP⟩ kS hO
    have hi3 : i < 3 := by walk_at "om"
    have hlen := hP.length
    simp only [List.length_cons, List.length_map, List.length_range] at hlen
    have hfb := fb_le hb i hi3
    have hPD := dim_fad hD i
    have hPB := rb_fad hD hn hB i (by walk_at "om")
    have hQD : Dim (mulR M (fadP M M.length i) M.length) M.length M.length := dim_mul hD
    have hQB := rb_mul (k := M.length) hD hn hB hPB
    have hTB := RB.traceTo hQB M.length
    have hTb : RB big (traceTo (mulR M (fadP M M.length i) M.length) M.length) := hTB.mono (Nat.le_trans (Nat.mul_le_mul_right _ hn) (by have : big = 1000000 := rfl; walk_at "om"))
    have hTr : M.length * (3 * (b + fb b i + 1) + 1) ≤ big := Nat.le_trans (Nat.mul_le_mul_right _ hn) (by walk_at "om")
    have hSb : RB big ((1 + (i : Int) : Int) : Rat) := (rb_step hi3).mono (by decide)
    have hSn := step_ne (i := i)
    have hNb := rb_num hn hi3 hQB
    have hUD := dim_unit M.length
    have hUB := rb_unit M.length 0
    have hSD := dim_scale (q := fadNum (mulR M (fadP M M.length i) M.length) M.length i) hUD
    have hSB := rb_scale hUB hNb
    k_steps
    rename St _ _ _ _ _ _ _ _ _ _ _ _ _ _ _ => kS
    refine ⟨.inl rfl, _, _, _, kS, by walk_at "km", ⟨_, by walk_at "km"⟩, _, _, _, _, by walk_at "km", ?_, by walk_at "km", rfl, ?_⟩
    · assumption
    · rw [List.range_succ, List.map_append, ← List.cons_append]
      exact Paired.snoc (Paired.imp (fun _ _ h => by walk_at "rel") hP) (by walk_at "rel")
end
end Mine

-- Lst2
namespace Mine
open Sem (wp)
theorem paired_append {α β : Type} {F : α → β → Prop} {l₃ : List α} {l₄ : List β} (h : Paired F l₃ l₄) : ∀ {l₁ : List α} {l₂ : List β}, Paired F l₁ l₂ → Paired F (l₁ ++ l₃) (l₂ ++ l₄)
  | _, _, .nil => h
  | _, _, .cons a t => .cons a (paired_append h t)
theorem paired_take {α β : Type} {F : α → β → Prop} : ∀ {l₁ : List α} {l₂ : List β}, Paired F l₁ l₂ → ∀ k : Nat, Paired F (l₁.take k) (l₂.take k)
  | _, _, _, 0 => .nil
  | _, _, .nil, _ + 1 => .nil
  | _, _, .cons a t, k + 1 => .cons a (paired_take t k)
theorem paired_drop {α β : Type} {F : α → β → Prop} : ∀ {l₁ : List α} {l₂ : List β}, Paired F l₁ l₂ → ∀ k : Nat, Paired F (l₁.drop k) (l₂.drop k)
  | _, _, h, 0 => h
  | _, _, .nil, _ + 1 => .nil
  | _, _, .cons _ t, k + 1 => paired_drop t k
theorem paired_set {α β : Type} {F : α → β → Prop} {a : α} {b : β} (h : F a b) : ∀ {l₁ : List α} {l₂ : List β}, Paired F l₁ l₂ → ∀ k : Nat, Paired F (l₁.set k a) (l₂.set k b)
  | _, _, .nil, _ => by simp; exact .nil
  | _, _, .cons _ t, 0 => .cons h t
  | _, _, .cons x t, k + 1 => .cons x (paired_set h t k)
section
variable {K : Frag} {p : Program} {loose : List Str} {mean : ExcName → Option Value} {mg mb : Str → Option Value} {s₀ : Shared} {led₀ : Led} {env : Env} {oc : List (Str × Addr)} {cl : List (Str × Value)} {m : Str → Option Value} {led mu : Led} {s : Shared}
  {A : Around} {E : Value → Shared → Prop} {prog : Program} {w : World} {x : Str} {v : Value} {pos : Pos}
/-- a new mutable list -/
theorem St.grow {D : Addr} {vs : List Value} {c tk : Nat} {h' : Heap} (S : St K p loose mean mg mb s₀ led₀ env oc cl m led mu s) (e : Ext s.heap h') (hD : h'.get? D = some (lstO vs c)) (hn : s.heap.get? D = none) :
    St K p loose mean mg mb s₀ led₀ env oc cl m led ((D, lstO vs c) :: mu) { s with heap := h', toks := tk } :=
  S.allocM (tl := []) e hD hn rfl Has.nil Fresh.nil (fun _ h => nomatch h)
theorem St.listOf {α : Type} {R : Led → Value → α → Prop} {xs : List α} {Q : Value → Shared → Prop} (S : St K p loose mean mg mb s₀ led₀ env oc cl m led mu s) (hq : SeqIn R led v xs) (hsz : xs.length ≤ 100000)
    (h : ∀ D vs c s', St K p loose mean mg mb s₀ led₀ env oc cl m led ((D, lstO vs c) :: mu) s' → Paired (R led) vs xs → Q (.ref D) s') : wpAny (model prog w) A (PySem.call (.type "list") [v]) Q E s := by
  obtain ⟨a, vs, c, rfl, hm, hp⟩ := hq
  have hl := hp.length
  refine call_list_seq a (T := "list") (.inl rfl) (S.has _ hm).1 rfl rfl (fun h' c' hx hD => ?_) (by rw [sizeLine_eq, List.size_toArray]; walk_at "om")
  exact h _ vs c' _ (S.grow (tk := s.toks) hx hD (fresh_size _ (Nat.le_refl _))) hp
theorem St.addLists {α : Type} {R : Led → Value → α → Prop} {xs ys : List α} {a : Addr} {vs : List Value} {c : Nat} {Q : Value → Shared → Prop} (S : St K p loose mean mg mb s₀ led₀ env oc cl m led mu s) (hm : (a, lstO vs c) ∈ mu) (hp : Paired (R led) vs xs)
    (hq : SeqIn R led v ys) (hsz : xs.length ≤ 1000) (hsz2 : ys.length ≤ 1000)
    (h : ∀ D s' ws, St K p loose mean mg mb s₀ led₀ env oc cl m led ((D, lstO ws 0) :: mu) s' → Paired (R led) ws (xs ++ ys) → Q (.ref D) s') : wpAny (model prog w) A (binaryOp .Add (.ref a) v) Q E s := by
  obtain ⟨b, us, c', rfl, hm', hp'⟩ := hq
  have hl := hp.length
  have hl' := hp'.length
  refine P.add_list (S.muh _ hm).1 (S.has _ hm').1 ?_ (by rw [sizeLine_eq, List.size_toArray, List.size_toArray]; walk_at "om")
  have e : vs.toArray ++ us.toArray = (vs ++ us).toArray := by simp
  rw [e]
  refine h _ _ (vs ++ us) (S.grow (tk := s.toks) (Ext.push _ _) (Heap.get?_push_size _ rfl) (fresh_size _ (Nat.le_refl _))) ?_
  exact paired_append hp' hp
theorem St.setAt {a : Addr} {vs : List Value} {c : Nat} {k : Int} {t : Tok} {Q : Unit → Shared → Prop} (S : St K p loose mean mg mb s₀ led₀ env oc [] m led ((a, lstO vs c) :: mu) s) (h0 : 0 ≤ k) (hk : k < vs.length) (hsz : vs.length ≤ 100000)
    (h : ∀ c' s', St K p loose mean mg mb s₀ led₀ env oc [] m led ((a, lstO (vs.set k.toNat v) c') :: mu) s' → Q () s') : wpAny (model prog w) A (setItem (.ref a) (.int k t) v) Q E s := by
  have ho := (S.muh _ (.head _)).1
  obtain ⟨c', e⟩ : ∃ c', Obj.mapSeq (·.setIfInBounds k.toNat v) (lstO vs c) = lstO (vs.set k.toNat v) c' := by
    obtain ⟨c', e⟩ : ∃ c', Obj.mapSeq (·.setIfInBounds k.toNat v) (lstO vs c) = { cls := .type "list", data := .seq (vs.toArray.setIfInBounds k.toNat v) c' } := ⟨_, rfl⟩
    exact ⟨c', by rw [e]; simp⟩
  refine ki_setAt ho h0 (by walk_at "om") (by simp; walk_at "om") (h c' _ (S.turn (tk := s.toks) (Heap.SameBut.update ..) ?_ rfl))
  rw [Heap.get?_update_self _ ho (by rw [e]; rfl), e]
theorem St.popAt {a : Addr} {vs : List Value} {c : Nat} {k : Int} {t : Tok} {y : Value} {Q : Value → Shared → Prop} (S : St K p loose mean mg mb s₀ led₀ env oc [] m led ((a, lstO vs c) :: mu) s) (h0 : 0 ≤ k) (hk : k < 2 ^ 62) (hy : vs[k.toNat]? = some y) (hsz : vs.length ≤ 100000)
    (h : ∀ c' s', St K p loose mean mg mb s₀ led₀ env oc [] m led ((a, lstO (vs.eraseIdx k.toNat) c') :: mu) s' → Q y s') : wpAny (model prog w) A (PySem.call (.builtin "list.pop") [.ref a, .int k t]) Q E s := by
  have ho := (S.muh _ (.head _)).1
  have hlt := (List.getElem?_eq_some_iff.mp hy).1
  obtain ⟨c', e⟩ : ∃ c', Obj.mapSeq (·.eraseIdxIfInBounds k.toNat) (lstO vs c) = lstO (vs.eraseIdx k.toNat) c' := by
    obtain ⟨c', e⟩ : ∃ c', Obj.mapSeq (·.eraseIdxIfInBounds k.toNat) (lstO vs c) = { cls := .type "list", data := .seq (vs.toArray.eraseIdxIfInBounds k.toNat) c' } := ⟨_, rfl⟩
    exact ⟨c', by rw [e]; simp⟩
  have hs : vs.toArray.size ≤ sizeLine := by rw [sizeLine_eq, List.size_toArray]; walk_at "om"
  refine call_meets F.slot_list_pop ⟨_, ho, rfl⟩ F.entry_list_pop (F.args_list_pop_2 _ _) (PySem.MeetsSeq.list_pop_at a vs.toArray c k t k.toNat y (fitsIndex_of h0 (by walk_at "om")) ?_ (by simpa using hy) hs) ⟨ho, ?_⟩
  · unfold seqIndex?
    have : ¬ k < 0 := by walk_at "om"
    simp [this]
    walk_at "om"
  · exact h c' _ (S.turn (tk := s.toks) (Heap.SameBut.update ..) (by rw [Heap.get?_update_self _ ho (by rw [e]; rfl), e]) rfl)
theorem slicePick_all {vs : List Value} {k : Nat} : slicePick vs.toArray none (some (k : Int)) none = (vs.take k).toArray := by
  have e : sliceBounds none (some (k : Int)) none vs.toArray.size = (((0 : Nat) : Int), ((min k vs.toArray.size : Nat) : Int), 1) := by
    simp only [sliceBounds, Option.getD_none, show (1 : Int) > 0 by decide, if_true, if_neg (show ¬ ((k : Int) < 0) by walk_at "om")]
    congr 1
    congr 1
    walk_at "om"
  rw [kmk_pick_nat _ e]
  show ((vs.drop 0).take (min k vs.toArray.size - 0)).toArray = _
  rw [List.drop_zero, Nat.sub_zero, List.size_toArray, kmk_take_min]
theorem slicePick_from {vs : List Value} {k : Nat} : slicePick vs.toArray (some (k : Int)) none none = (vs.drop k).toArray := by
  have e : sliceBounds (some (k : Int)) none none vs.toArray.size = (((min k vs.toArray.size : Nat) : Int), ((vs.toArray.size : Nat) : Int), 1) := by
    simp only [sliceBounds, Option.getD_none, show (1 : Int) > 0 by decide, if_true, if_neg (show ¬ ((k : Int) < 0) by walk_at "om")]
    congr 1
    walk_at "om"
  rw [kmk_pick_nat _ e]
  show ((vs.drop (min k vs.toArray.size)).take (vs.toArray.size - min k vs.toArray.size)).toArray = _
  rw [List.size_toArray, kmk_drop_min, List.take_of_length_le (by rw [List.length_drop]; walk_at "om")]
/-- a mutating call's contract: mu is the list of what it may turn -/
noncomputable def hidden (s : Shared) (mu : Led) : Shared := { s with heap := hideAll s.heap (mu.map (·.1)) }
noncomputable def MadeT (s : Shared) (led mu : Led) (Out : Led → Led → Value → Prop) (v : Value) (s' : Shared) : Prop :=
  ∃ h' tk tl mu', s' = { s with heap := h', toks := tk } ∧ (∀ b o, b ∉ mu.map (·.1) → s.heap.get? b = some o → h'.get? b = some o) ∧ mu'.map (·.1) = mu.map (·.1) ∧ Has h' mu' ∧ Has h' tl ∧ Fresh s.heap tl ∧ (∀ q ∈ mu', ∀ r ∈ tl, r.1 ≠ q.1) ∧ Out (tl ++ led) mu' v
noncomputable def ConT (K : Frag) (p : Program) (loose : List Str) (mean : ExcName → Option Value) (mg mb : Str → Option Value) (prog : Program) (w : World) (f : Addr) (vs : List Value) (dep : Nat) (led mu : Led) (Out : Led → Led → Value → Prop) : Prop :=
  ∀ (s : Shared) (dp un : Nat) (gd : Option (List Code)) (fr : List Env) (E : Value → Shared → Prop), Amb K p loose mean mg mb (hidden s mu).heap → Has s.heap led → Has s.heap mu → (∀ q ∈ mu, ∀ r ∈ led, r.1 ≠ q.1) → (mu.map (·.1)).Nodup →
    dp + dep < recursionLimit → un + 8 * dep < cLine →
    wpAny (model prog w) { handled := none, depth := dp, frames := some fr, guards := gd, units := un } (PySem.call (.ref f) vs)
      (MadeT s led mu Out) E s
theorem St.doneT {mu₀ mu' : Led} {s s₁ : Shared} {Out : Led → Led → Value → Prop} (S : St K p loose mean mg mb (hidden s mu₀) led₀ env oc cl m led mu' s₁) (he : mu'.map (·.1) = mu₀.map (·.1)) (h : Out led mu' v) :
    MadeT s led₀ mu₀ Out v s₁ := by
  obtain ⟨h', tk, e⟩ := S.same
  obtain ⟨tl, e1, hf⟩ := S.new
  subst e
  subst e1
  refine ⟨h', tk, tl, mu', rfl, fun b o hb e => S.ext b o (hideAll_get _ e hb), he, S.muh, fun q hq => S.has q (List.mem_append_left _ hq), fun q hq => ?_, fun q hq r hr => (S.muf q hq).2 r (List.mem_append_left _ hr), h⟩
  cases hs : s.heap.get? q.1 with
  | none => rfl
  | some o =>
    exfalso
    by_cases hb : q.1 ∈ mu₀.map (·.1)
    · rw [← he] at hb
      obtain ⟨r, hr, er⟩ := List.mem_map.mp hb
      exact (S.muf r hr).2 q (List.mem_append_left _ hq) er.symm
    · have := hf q hq
      have h2 := hideAll_get (mu₀.map (·.1)) hs hb
      unfold hidden at this
      rw [h2] at this; cases this
theorem St.hide {mu₀ : Led} {s s₁ : Shared} (S : St K p loose mean mg mb s led₀ env oc [] m led₀ [] s₁) (Am : Amb K p loose mean mg mb (hidden s mu₀).heap) (hm : Has s.heap mu₀) (hd : ∀ q ∈ mu₀, ∀ r ∈ led₀, r.1 ≠ q.1) (hn : (mu₀.map (·.1)).Nodup) :
    St K p loose mean mg mb (hidden s mu₀) led₀ env oc [] m led₀ mu₀ s₁ :=
  ⟨Am, let ⟨h, t, e⟩ := S.same; ⟨h, t, by rw [e]; rfl⟩, fun b o e => S.ext b o (of_hideAll _ e), S.frm, (fun _ h => nomatch h), S.has, ⟨[], rfl, Fresh.nil⟩, hm.ext S.ext, fun q hq => ⟨hideAll_none _ (List.mem_map_of_mem hq), hd q hq⟩, hn⟩
theorem own_hide {mu₀ : Led} {s : Shared} (h : ∀ b ∈ ownOf env oc, s.heap.get? b = none) : ∀ b ∈ ownOf env oc, (hidden s mu₀).heap.get? b = none := fun b hb => by
  cases q : (hidden s mu₀).heap.get? b with
  | none => rfl
  | some o => have := of_hideAll _ q; rw [h b hb] at this; cases this
theorem St.callT {mu₁ mu₂ : Led} {f : Addr} {vs : List Value} {dep dp un : Nat} {gd : Option (List Code)} {fr : List Env} {Out : Led → Led → Value → Prop} {Q : Value → Shared → Prop} (S : St K p loose mean mg mb s₀ led₀ env oc [] m led (mu₁ ++ mu₂) s)
    (C : ConT K p loose mean mg mb prog w f vs dep led mu₁ Out) (hd : dp + dep < recursionLimit) (hu : un + 8 * dep < cLine)
    (h : ∀ v s' tl mu', St K p loose mean mg mb s₀ led₀ env oc [] m (tl ++ led) (mu' ++ mu₂) s' → Out (tl ++ led) mu' v → Q v s') :
    wpAny (model prog w) { handled := none, depth := dp, frames := some fr, guards := gd, units := un } (PySem.call (.ref f) vs) Q E s := by
  have hn := S.mun
  rw [List.map_append, List.nodup_append] at hn
  have h0 : ∀ b o, s₀.heap.get? b = some o → b ∉ mu₁.map (·.1) := fun b o e hb => by
    obtain ⟨q, hq, rfl⟩ := List.mem_map.mp hb
    have := (S.muf q (List.mem_append_left _ hq)).1
    rw [e] at this; cases this
  refine wpAny_mono (C s dp un gd fr E (S.amb.ext fun b o e => hideAll_get _ (S.ext b o e) (h0 b o e)) S.has (fun q hq => S.muh q (List.mem_append_left _ hq)) (fun q hq => (S.muf q (List.mem_append_left _ hq)).2) hn.1 hd hu) (fun v s' ⟨h', tk, tl, mu', e, ex, hme, hmu, ht, hf, hap, ho⟩ => ?_) fun _ _ x => x
  subst e
  have up : ∀ {l : Led}, Has s.heap l → (∀ q ∈ l, q.1 ∉ mu₁.map (·.1)) → Has h' l := fun H hne q hq => ⟨ex _ _ (hne q hq) (H q hq).1, (H q hq).2⟩
  refine h v _ tl mu' ⟨S.amb, ?_, fun b o e => ex b o (h0 b o e) (S.ext b o e), S.frm.keep fun b hb o e => ex b o (fun hq => ?_) e, (fun _ h => nomatch h), ht.append (up S.has fun q hq hb => ?_), ?_, hmu.append (up (fun q hq => S.muh q (List.mem_append_right _ hq)) fun q hq hb => ?_), fun q hq => ?_, ?_⟩ ho
  · obtain ⟨h, t, e⟩ := S.same
    exact ⟨h', tk, by rw [e]⟩
  · obtain ⟨q, hq', rfl⟩ := List.mem_map.mp hq
    exact S.frm.notHas S.muh q (List.mem_append_left _ hq') hb
  · obtain ⟨r, hr, er⟩ := List.mem_map.mp hb
    exact (S.muf r (List.mem_append_left _ hr)).2 q hq er.symm
  · obtain ⟨t0, e0, f0⟩ := S.new
    exact ⟨tl ++ t0, by rw [e0, List.append_assoc], (hf.back S.ext).append f0⟩
  · exact hn.2.2 _ hb _ (List.mem_map_of_mem hq) rfl
  · rcases List.mem_append.mp hq with hq | hq
    · have hb : q.1 ∈ mu₁.map (·.1) := hme ▸ List.mem_map_of_mem hq
      refine ⟨?_, fun r hr => ?_⟩
      · obtain ⟨t, ht, et⟩ := List.mem_map.mp hb
        rw [← et]; exact (S.muf t (List.mem_append_left _ ht)).1
      · rcases List.mem_append.mp hr with hr | hr
        · exact hap q hq r hr
        · obtain ⟨t, ht, et⟩ := List.mem_map.mp hb
          rw [← et]; exact (S.muf t (List.mem_append_left _ ht)).2 r hr
    · refine ⟨(S.muf q (List.mem_append_right _ hq)).1, fun r hr => ?_⟩
      rcases List.mem_append.mp hr with hr | hr
      · intro e
        have := hf r hr
        rw [e, (S.muh q (List.mem_append_right _ hq)).1] at this; cases this
      · exact (S.muf q (List.mem_append_right _ hq)).2 r hr
  · rw [List.map_append, hme, ← List.map_append]; exact S.mun
noncomputable def MadeM (s : Shared) (led : Led) (Out : Led → List Value → Prop) (v : Value) (s' : Shared) : Prop :=
  ∃ D us c h' tk tl, v = .ref D ∧ s' = { s with heap := h', toks := tk } ∧ Ext s.heap h' ∧ h'.get? D = some (lstO us c) ∧ s.heap.get? D = none ∧ Has h' tl ∧ Fresh s.heap tl ∧ (∀ q ∈ tl, q.1 ≠ D) ∧ Out (tl ++ led) us
/-- a call that hands a new mutable list -/
noncomputable def ConM (K : Frag) (p : Program) (loose : List Str) (mean : ExcName → Option Value) (mg mb : Str → Option Value) (prog : Program) (w : World) (f : Addr) (vs : List Value) (dep : Nat) (led : Led) (Out : Led → List Value → Prop) : Prop :=
  ∀ (s : Shared) (dp un : Nat) (gd : Option (List Code)) (fr : List Env) (E : Value → Shared → Prop), Amb K p loose mean mg mb s.heap → Has s.heap led → dp + dep < recursionLimit → un + 8 * dep < cLine →
    wpAny (model prog w) { handled := none, depth := dp, frames := some fr, guards := gd, units := un } (PySem.call (.ref f) vs)
      (MadeM s led Out) E s
theorem St.doneM {D : Addr} {us : List Value} {c : Nat} {Out : Led → List Value → Prop} (S : St K p loose mean mg mb s₀ led₀ env oc cl m led ((D, lstO us c) :: mu) s) (h : Out led us) :
    MadeM s₀ led₀ Out (.ref D) s := by
  obtain ⟨h', tk, e⟩ := S.same
  obtain ⟨tl, e1, hf⟩ := S.new
  subst e
  subst e1
  exact ⟨D, us, c, h', tk, tl, rfl, rfl, S.ext, (S.muh _ (.head _)).1, (S.muf _ (.head _)).1, fun q hq => S.has q (List.mem_append_left _ hq), hf, fun q hq => (S.muf _ (.head _)).2 q (List.mem_append_left _ hq), h⟩
theorem St.callM {f : Addr} {vs : List Value} {dep dp un : Nat} {gd : Option (List Code)} {fr : List Env} {Out : Led → List Value → Prop} {Q : Value → Shared → Prop} (S : St K p loose mean mg mb s₀ led₀ env oc cl m led mu s)
    (C : ConM K p loose mean mg mb prog w f vs dep led Out) (hd : dp + dep < recursionLimit) (hu : un + 8 * dep < cLine)
    (h : ∀ D us c s' tl, St K p loose mean mg mb s₀ led₀ env oc cl m (tl ++ led) ((D, lstO us c) :: mu) s' → Out (tl ++ led) us → Q (.ref D) s') :
    wpAny (model prog w) { handled := none, depth := dp, frames := some fr, guards := gd, units := un } (PySem.call (.ref f) vs) Q E s :=
  wpAny_mono (C s dp un gd fr E S.here S.has hd hu) (fun v s' ⟨D, us, c, h', tk, tl, ev, e, ex, hD, hn, ht, hf, hap, ho⟩ => by subst e; subst ev; exact h D us c _ tl (S.allocM (o := lstO us c) ex hD hn rfl ht hf hap) ho) fun _ _ x => x
end
end Mine

-- G10
namespace Mine
section
variable {K : Frag} {p : Program} {loose : List Str} {mean : ExcName → Option Value} {mg mb : Str → Option Value} {s₀ : Shared} {led₀ : Led} {env : Env} {oc : List (Str × Addr)} {cl : List (Str × Value)} {m : Str → Option Value} {led mu : Led} {s : Shared}
  {A : Around} {E : Value → Shared → Prop} {prog : Program} {w : World} {x : Str} {v : Value} {pos : Pos}
theorem St.itemM {α : Type} {R : Led → Value → α → Prop} {F : Addr} {vs : List Value} {c : Nat} {xs : List α} {x : α} {k : Int} {u : Tok} {value slice : Expr} {Q : Value → Shared → Prop} (S : St K p loose mean mg mb s₀ led₀ env oc cl m led mu s) (hm : (F, lstO vs c) ∈ mu) (hp : Paired (R led) vs xs) (h0 : 0 ≤ k) (hk : k < 2 ^ 63)
    (hx : xs[k.toNat]? = some x) (h : ∀ v', vs[k.toNat]? = some v' → R led v' x → Q v' s) (hs : ∀ a, subscripted slice false (.ref a) (.int k u) = operate [.ref a, .int k u] (getItem (.ref a) (.int k u)) := by intro _; with_unfolding_all rfl) :
    wpAny (model prog w) A (subscriptTail value slice (.ref F) (.int k u)) Q E s := by
  obtain ⟨y, hy, hR⟩ := pairedAt hp hx
  exact item_litK (S.isLstM hm) h0 hk hy (h y hy hR) (hs F)
theorem St.lenM {α : Type} {R : Led → Value → α → Prop} {F : Addr} {vs : List Value} {c : Nat} {xs : List α} {Q : Value → Shared → Prop} (S : St K p loose mean mg mb s₀ led₀ env oc cl m led mu s) (hm : (F, lstO vs c) ∈ mu) (hp : Paired (R led) vs xs) (hk : xs.length < 2 ^ 62)
    (h : ∀ t k, Q (.int xs.length t) { s with toks := k }) : wpAny (model prog w) A (PySem.call (.builtin "len") [.ref F]) Q E s := by
  have e : vs.toArray.size = xs.length := by simp [hp.length]
  refine len_list (S.isLstM hm) (by rw [e]; walk_at "om") ?_
  rw [e]; exact h _ _
theorem St.assign2 {a : Addr} {v1 v2 : Value} {c : Nat} {e1 e2 : Expr} {x1} {Q : Unit → Shared → Prop} (S : St K p loose mean mg mb s₀ led₀ env oc cl m led mu s) (hh : A.handled = none) (hm : (a, tupO [v1, v2] c) ∈ led)
    (ha : assignEach [e1, e2] env = [(false, assign e1 env), (false, assign e2 env)])
    (h : ∀ s', St K p loose mean mg mb s₀ led₀ env oc cl m led mu s' → wpAny (model prog w) A (assign e1 env v1) (fun _ s₁ => wpAny (model prog w) A (assign e2 env v2) Q E s₁) E s') :
    wpAny (model prog w) A (assign (.Tuple [e1, e2] x1 pos) env (.ref a)) Q E s := by
  refine wpAny_assign_Tuple hh (S.isTup hm) (by rw [ha]; rfl) (by rw [ha]; rfl) fun h' hx => ?_
  rw [ha]
  refine wpAny_assignInOrder_more (wpAny_mono (h _ (S.made (tl := []) (tk := s.toks) (fun b o e => hx b o (Nat.ne_of_lt (Heap.lt_size e)) e) Has.nil Fresh.nil)) (fun _ s₁ h₁ => ?_) fun _ _ e => e)
  exact wpAny_assignInOrder_more (wpAny_mono h₁ (fun _ s₂ h₂ => wpAny_assignInOrder_none h₂) fun _ _ e => e)
theorem prowApp {l t : Led} {vs : List Value} {M : List (List Rat)} (h : Paired (RowIn l) vs M) : Paired (RowIn (t ++ l)) vs M := Paired.imp (fun _ _ h => rowSub h subApp) h
theorem prowCons {l : Led} {q : Addr × Obj} {vs : List Value} {M : List (List Rat)} (h : Paired (RowIn l) vs M) : Paired (RowIn (q :: l)) vs M := Paired.imp (fun _ _ h => rowSub h subCons) h
end
theorem range_getD {α : Type} (d : α) (xs : List α) : (List.range xs.length).map (fun i => xs.getD i d) = xs := by
  have := map_range_getD (fun x : α => x) d xs
  simpa using this
noncomputable def swapR (M : List (List Rat)) (i j : Nat) : List (List Rat) := (M.set i (M.getD j [])).set j (M.getD i [])
noncomputable def subRow (r s : List Rat) (q : Rat) : List Rat := (List.range r.length).map fun j => r.getD j 0 - q * s.getD j 0
noncomputable def takeR (M : List (List Rat)) (i j : Nat) (q : Rat) : List (List Rat) := M.set i (subRow (M.getD i []) (M.getD j []) q)
end Mine
open Mine
theorem Mine.rules10 : True := by
  k_with "prel" => (first | assumption | (refine' prowApp ?kz; (case kz => walk_at "prel")) | (refine' prowCons ?kz; (case kz => walk_at "prel")))
  k_with "subscriptTail" => (((with_reducible show wpAny _ _ (subscriptTail _ _ (Value.ref _) (Value.int _ _)) _ _ _); (rename St _ _ _ _ _ _ _ _ _ _ _ _ _ _ _ => kS); k_dflt (refine' St.itemM (R := RowIn) (St.tok kS _) ?k6 ?k1 ?k2 ?k3 ?k5 ?_ ?k4; (case k4 => intro _; with_unfolding_all rfl); (case k6 => walk_at "mem"); (case k1 => walk_at "prel"); (case k5 => walk_at "idx"); (case k2 => walk_at "om"); (case k3 => walk_at "om")); intro v' hv' hw'))
  k_with "setItem" => (((with_reducible show wpAny _ _ (setItem (Value.ref _) (Value.int _ _) _) _ _ _); (rename St _ _ _ _ _ _ _ _ _ _ _ _ _ _ _ => kS); k_dflt (refine' St.setAt (St.tok kS _) ?k1 ?k2 ?k3 ?_; (case k1 => walk_at "om"); (case k2 => walk_at "size"); (case k3 => walk_at "size")); clear kS; intro c' s' kS))
  k_with "size" => ((simp only [List.length_set]; walk_at "om"))
  k_with "call type:list" => (((with_reducible show wpAny _ _ (call (Value.type _) [_]) _ _ _); (rename St _ _ _ _ _ _ _ _ _ _ _ _ _ _ _ => kS); k_dflt (refine' St.listOf (R := RatIn) (St.tok kS _) ?k1 ?k2 ?_; (case k1 => walk_at "rel"); (case k2 => walk_at "om")); clear kS; intro D' us' c' s' kS hw'))
  k_with "assign Tuple" => (((with_reducible show wpAny _ _ (assign (Expr.Tuple [_, _] _ _) _ (Value.ref _)) _ _ _); (rename St _ _ _ _ _ _ _ _ _ _ _ _ _ _ _ => kS); k_dflt (refine' St.assign2 (St.tok kS _) ?k1 ?k2 ?k3 ?_; (case k1 => rfl); (case k2 => walk_at "mem"); (case k3 => with_unfolding_all rfl)); clear kS; intro s' kS))
  k_with "assign Subscript" => ((with_reducible refine PySem.W.kas_sub ?_))
  trivial
namespace Mine
section
variable {w : World} {mean : ExcName → Option Value} {mg mb : Str → Option Value}

theorem copied_con {M : List (List Rat)} {n k : Nat} {a : Value} {led : Led} (ha : MatIn led a M) (hD : Dim M n k) (hn : n ≤ 1000) (hk : k ≤ 1000) :
    ConM (Mine.hd.heap_39 w.params) Mine.view (looseW Mine.view []) mean mg mb PySem.Challenge.rw_sa0086_01.row.prog w 104 [a] 10 led (fun l us => Paired (RowIn l) us M) := by
  k_fill
  intro s dp un gd fr E Am H hd hu
  have hrows := hD.rows
  walk_at "enter"
  k_steps
  rename St _ _ _ _ _ _ _ _ _ _ _ _ _ _ _ => kS
  refine comp_pure n (fun _ => true) (fun i l v => RowIn l v (M.getD i [])) (fun _ _ _ _ h => rowSub h subApp) led (by walk_at "om") (by with_unfolding_all rfl) (by decide) (by walk_at "hoc") rfl (by decide) ?hit
  k_steps
  rename St _ _ _ _ _ _ _ _ _ _ _ _ _ _ _ => kS
  unfold Hold
  refine comp_list kS [] rfl ha hrows (fun C => by walk_at "tgt") (by walk_at "clo") (by intros; exact tests_nil) ?turn ?hQ
  case hQ =>
    intro D us c s' tl kS' hP
    refine kS'.doneM (Out := fun l us => Paired (RowIn l) us M) ?_
    rw [filter_true] at hP
    have h9 := range_getD [] M
    rw [hrows] at h9
    rw [← h9]
    exact paired_range _ (fun i y h => h) hP
  case turn =>
    clear kS
    intro i C m₁ y v tl s₃ E' hi _ hy hR kS
    have e1 := getD_of (d := ([] : List Rat)) hy
    have hyl := hD.cols y (List.mem_of_getElem? hy)
    k_steps
    rename St _ _ _ _ _ _ _ _ _ _ _ _ _ _ _ => kS
    rename Paired _ _ _ => hP
    rw [e1]
    exact kS.freeze.done ⟨_, _, _, rfl, .head _, Paired.imp (fun _ _ h => by walk_at "rel") hP⟩

theorem swap_con {M : List (List Rat)} {F : Addr} {vs : List Value} {c i j : Nat} {t1 t2 : Tok} {led : Led} (hP : Paired (RowIn led) vs M) (hn : M.length ≤ 1000) (hi : i < M.length) (hj : j < M.length) :
    ConT (Mine.hd.heap_39 w.params) Mine.view (looseW Mine.view []) mean mg mb PySem.Challenge.rw_sa0086_01.row.prog w 150 [.ref F, .int i t1, .int j t2] 10 led [(F, lstO vs c)] (fun l mu' v => v = .none ∧ ∃ vs' c', mu' = [(F, lstO vs' c')] ∧ Paired (RowIn l) vs' (swapR M i j)) := by
  k_fill
  intro s dp un gd fr E Am H hm hap hnd hd hu
  have hl := hP.length
  have Am' := Am.ext (h' := s.heap) (fun b o e => of_hideAll _ e)
  have hi2 := some_getD (d := ([] : List Rat)) hi
  have hj2 := some_getD (d := ([] : List Rat)) hj
  have hh := And.intro hm hap
  clear hm hap
  walk_at "enter"
  rename St _ _ _ _ _ _ _ _ _ _ _ _ _ _ _ => kS
  rename (∀ b ∈ ownOf _ _, _) => hO
  replace kS := kS.hide Am hh.1 hh.2 hnd
  replace hO := own_hide (mu₀ := [(F, lstO vs c)]) hO
  k_steps
  rename St _ _ _ _ _ _ _ _ _ _ _ _ _ _ _ => kS
  refine kS.doneT rfl ⟨rfl, _, _, rfl, ?_⟩
  exact paired_set (by walk_at "rel") (paired_set (by walk_at "rel") (by walk_at "prel") _) _

end
end Mine

-- Lst3
namespace Mine
open Sem (wp)
section
variable {K : Frag} {p : Program} {loose : List Str} {mean : ExcName → Option Value} {mg mb : Str → Option Value} {s₀ : Shared} {led₀ : Led} {env : Env} {oc : List (Str × Addr)} {cl : List (Str × Value)} {m : Str → Option Value} {led mu : Led} {s : Shared}
  {A : Around} {E : Value → Shared → Prop} {prog : Program} {w : World} {pos : Pos}
theorem St.freezeAll (S : St K p loose mean mg mb s₀ led₀ env oc cl m led mu s) : St K p loose mean mg mb s₀ led₀ env oc cl m (mu ++ led) [] s :=
  ⟨S.amb, S.same, S.ext, S.frm, S.clo, S.muh.append S.has, let ⟨t, e, f⟩ := S.new; ⟨mu ++ t, by rw [e, List.append_assoc], fun q hq => (List.mem_append.mp hq).elim (fun h => (S.muf q h).1) (f q)⟩, Has.nil, (fun _ h => nomatch h), List.nodup_nil⟩
theorem IterAt.mono {st : Bool} {led' : Led} {it : Value} {s₂ : Shared} {target : Expr} {tg : List Str} {n : Nat} {Bd} (I : IterAt st prog w A led s it s₂ target tg n Bd) (h : ∀ q ∈ led, q ∈ led') : IterAt st prog w A led' s it s₂ target tg n Bd :=
  let ⟨a, b, c, d, e1, e2, e3, e4, e5, e6, e7, e8⟩ := I.ex
  ⟨a, b, c, d, e1, e2, e3, e4, e5, e6, fun x hx => (e7 x hx).imp id fun ⟨o, ho⟩ => ⟨o, h _ ho⟩, e8⟩
theorem comp_atM {st : Bool} {elt target : Expr} {ifs : List Expr} {scope : Scope} {clo : List (Str × Addr)} {tg : List Str} {Bd : Nat → (Str → Option Value) → (Str → Option Value) → Prop} {n : Nat} {pf : Nat → Bool} {Rl : Nat → Led → Value → Prop} {it : Value} {s₂ : Shared} {Q : Value → Shared → Prop}
    (S : St K p loose mean mg mb s₀ led₀ env oc cl m led mu s) (cl' : List (Str × Value)) (IT : IterAt st prog w A led s it s₂ target tg n Bd)
    (htg : ∀ C, ∀ x ∈ tg, TgtOk (cenvOf scope clo env C) (ocOf scope.names C) x) (hcl : CloOk scope env clo s cl')
    (tests : ∀ i C m₁ m' led' s₃ E', i < n → Bd i m₁ m' → (∃ tl, led' = tl ++ (mu ++ led)) → St K p loose mean mg mb s₃ led' (cenvOf scope clo env C) (ocOf scope.names C) cl' m' led' [] s₃ →
      testsOf prog w A ifs (cenvOf scope clo env C) (fun ok s₄ => ok = pf i ∧ Keeps s₃ s₄) E' s₃)
    (turn : ∀ i C m₁ m' led' s₃ E', i < n → pf i = true → Bd i m₁ m' → (∃ tl, led' = tl ++ (mu ++ led)) → St K p loose mean mg mb s₃ led' (cenvOf scope clo env C) (ocOf scope.names C) cl' m' led' [] s₃ →
      wpAny (model prog w) A (eval elt (cenvOf scope clo env C)) (Made s₃ led' (Rl i)) E' s₃)
    (hQ : ∀ D vs c s' tl, St K p loose mean mg mb s₀ led₀ env oc cl m (tl ++ led) ((D, lstO vs c) :: mu) s' → Paired (fun i y => Rl i (tl ++ (mu ++ led)) y) ((List.range n).filter pf) vs → Q (.ref D) s') :
    CompGoal prog w A env elt target ifs scope clo Rl (mu ++ led) n pf Q it s₂ := by
  obtain ⟨wr, CA, hwr, hex, hs, tks, rfl⟩ := comp_elt S.freezeAll cl' (IT.mono subApp) htg hcl tests turn
  refine ⟨wr, CA, trivial, fun D h' tk ys tl c hD hl _ hT hTf hDt hP hx => ?_⟩
  obtain ⟨ys⟩ := ys
  have e : Ext s.heap h' := fun b o e => hx b o (fun h => by rw [List.nil_append] at h; rw [hwr b h] at e; cases e) (hex b o e)
  have hDs : s.heap.get? D = none := by
    cases q : s.heap.get? D with
    | none => rfl
    | some o => have := hex _ _ q; rw [hD] at this; cases this
  exact hQ D ys c _ tl (S.allocM (tk := tk) (o := lstO ys c) e hl hDs rfl hT (hTf.back hex) hDt) hP

theorem comp_rangeM {elt : Expr} {ifs : List Expr} {scope : Scope} {clo : List (Str × Addr)} {x : Str} {px : Pos} {n : Nat} {pf : Nat → Bool} {Rl : Nat → Led → Value → Prop} {Q : Value → Shared → Prop} {r : Addr} {a b : Int} {t u v : Tok}
    (S : St K p loose mean mg mb s₀ led₀ env oc cl m led mu s) (cl' : List (Str × Value)) (hh : A.handled = none) (hr : IsRange s.heap r a b 1 t u v) (hsm : Builtin.Range.small a b 1 = true) (hn : (b - a).toNat = n)
    (htg : ∀ C, TgtOk (cenvOf scope clo env C) (ocOf scope.names C) x) (hcl : CloOk scope env clo s cl')
    (tests : ∀ i C m₁ t' tl s₃ E', i < n → St K p loose mean mg mb s₃ (tl ++ (mu ++ led)) (cenvOf scope clo env C) (ocOf scope.names C) cl' (upd m₁ x (.int (a + i) t')) (tl ++ (mu ++ led)) [] s₃ →
      testsOf prog w A ifs (cenvOf scope clo env C) (fun ok s₄ => ok = pf i ∧ Keeps s₃ s₄) E' s₃)
    (turn : ∀ i C m₁ t' tl s₃ E', i < n → pf i = true → St K p loose mean mg mb s₃ (tl ++ (mu ++ led)) (cenvOf scope clo env C) (ocOf scope.names C) cl' (upd m₁ x (.int (a + i) t')) (tl ++ (mu ++ led)) [] s₃ →
      wpAny (model prog w) A (eval elt (cenvOf scope clo env C)) (Made s₃ (tl ++ (mu ++ led)) (Rl i)) E' s₃)
    (hQ : ∀ D vs c s' tl, St K p loose mean mg mb s₀ led₀ env oc cl m (tl ++ led) ((D, lstO vs c) :: mu) s' → Paired (fun i y => Rl i (tl ++ (mu ++ led)) y) ((List.range n).filter pf) vs → Q (.ref D) s') :
    wpAny (model prog w) A (pyIter (.ref r)) (CompGoal prog w A env elt (.Name x px) ifs scope clo Rl (mu ++ led) n pf Q) E s := by
  refine iter_range (led := led) (x := x) (px := px) hh hr hsm fun it s₂ IT => ?_
  rw [hn] at IT
  refine comp_atM S cl' IT (fun C y hy => by rw [List.mem_singleton.mp hy]; exact htg C) hcl ?_ ?_ hQ
  · rintro i C m₁ m' led' s₃ E' hi ⟨t', rfl⟩ ⟨tl, rfl⟩ S'
    exact tests i C m₁ t' tl s₃ E' hi S'
  · rintro i C m₁ m' led' s₃ E' hi hp ⟨t', rfl⟩ ⟨tl, rfl⟩ S'
    exact turn i C m₁ t' tl s₃ E' hi hp S'
theorem comp_enumM {α : Type} {R : Led → Value → α → Prop} {elt : Expr} {ifs : List Expr} {scope : Scope} {clo : List (Str × Addr)} {xi xv : Str} {pi pv pt : Pos} {x1} {n : Nat} {pf : Nat → Bool} {Rl : Nat → Led → Value → Prop} {Q : Value → Shared → Prop} {lv : Value} {xs : List α}
    (S : St K p loose mean mg mb s₀ led₀ env oc cl m led mu s) (cl' : List (Str × Value)) (hh : A.handled = none) (hq : SeqIn R led lv xs) (hn : xs.length = n)
    (htg : ∀ C, TgtOk (cenvOf scope clo env C) (ocOf scope.names C) xi ∧ TgtOk (cenvOf scope clo env C) (ocOf scope.names C) xv) (hcl : CloOk scope env clo s cl')
    (tests : ∀ i C m₁ y v t tl s₃ E', i < n → xs[i]? = some y → R led v y → St K p loose mean mg mb s₃ (tl ++ (mu ++ led)) (cenvOf scope clo env C) (ocOf scope.names C) cl' (upd (upd m₁ xi (.int i t)) xv v) (tl ++ (mu ++ led)) [] s₃ →
      testsOf prog w A ifs (cenvOf scope clo env C) (fun ok s₄ => ok = pf i ∧ Keeps s₃ s₄) E' s₃)
    (turn : ∀ i C m₁ y v t tl s₃ E', i < n → pf i = true → xs[i]? = some y → R led v y → St K p loose mean mg mb s₃ (tl ++ (mu ++ led)) (cenvOf scope clo env C) (ocOf scope.names C) cl' (upd (upd m₁ xi (.int i t)) xv v) (tl ++ (mu ++ led)) [] s₃ →
      wpAny (model prog w) A (eval elt (cenvOf scope clo env C)) (Made s₃ (tl ++ (mu ++ led)) (Rl i)) E' s₃)
    (hQ : ∀ D vs c s' tl, St K p loose mean mg mb s₀ led₀ env oc cl m (tl ++ led) ((D, lstO vs c) :: mu) s' → Paired (fun i y => Rl i (tl ++ (mu ++ led)) y) ((List.range n).filter pf) vs → Q (.ref D) s') :
    wpAny (model prog w) A (PySem.call (.type "enumerate") [lv]) (fun e s₁ => wpAny (model prog w) A (pyIter e) (CompGoal prog w A env elt (.Tuple [.Name xi pi, .Name xv pv] x1 pt) ifs scope clo Rl (mu ++ led) n pf Q) E s₁) E s := by
  obtain ⟨a, vs, c, rfl, hm, hp⟩ := hq
  refine iter_enum (led := led) (xi := xi) (xv := xv) (pi := pi) (pv := pv) (pt := pt) (x1 := x1) hh S.has hm fun it s₂ IT => ?_
  rw [hp.length, hn] at IT
  refine comp_atM S cl' IT (fun C y hy => ?_) hcl ?_ ?_ hQ
  · simp only [List.mem_cons, List.not_mem_nil, or_false] at hy
    rcases hy with rfl | rfl
    · exact (htg C).1
    · exact (htg C).2
  · rintro i C m₁ m' led' s₃ E' hi ⟨v, t, hv, rfl⟩ ⟨tl, rfl⟩ S'
    obtain ⟨y, hy, hR⟩ := pairedAt' hp hv
    exact tests i C m₁ y v t tl s₃ E' hi hy hR S'
  · rintro i C m₁ m' led' s₃ E' hi hpf ⟨v, t, hv, rfl⟩ ⟨tl, rfl⟩ S'
    obtain ⟨y, hy, hR⟩ := pairedAt' hp hv
    exact turn i C m₁ y v t tl s₃ E' hi hpf hy hR S'
/-- no rational lies in a list of lists -/
theorem RatIn.unmu {tl mu led : Led} {v : Value} {q : Rat} (h : RatIn (tl ++ (mu ++ led)) v q) (hm : ∀ p ∈ mu, ∃ vs c, p.2 = lstO vs c) : RatIn (tl ++ led) v q := by
  cases h with
  | mem h =>
    rcases List.mem_append.mp h with h | h
    · exact .mem (List.mem_append_left _ h)
    · rcases List.mem_append.mp h with h | h
      · obtain ⟨vs, c, e⟩ := hm _ h
        have := congrArg Obj.cls e
        simp at this
      · exact .mem (List.mem_append_right _ h)
  | zero => exact .zero
  | one => exact .one
end
end Mine

-- G11
namespace Mine
section
variable {w : World} {mean : ExcName → Option Value} {mg mb : Str → Option Value}
theorem take_con {M : List (List Rat)} {F : Addr} {vs : List Value} {vq : Value} {c n i j k e f : Nat} {q : Rat} {t1 t2 : Tok} {led : Led} (hP : Paired (RowIn led) vs M) (hD : Dim M n k) (hn : n ≤ 1000) (hk : k ≤ 1000) (hi : i < n) (hj : j < n) (hq : RatIn led vq q)
    (h1 : RBr e (M.getD i [])) (h2 : RBr f (M.getD j [])) (h3 : RB e q) (he : e + f ≤ big) (he2 : e ≤ big) :
    ConT (Mine.hd.heap_39 w.params) Mine.view (looseW Mine.view []) mean mg mb PySem.Challenge.rw_sa0086_01.row.prog w 155 [.ref F, .int i t1, .int j t2, vq] 120 led [(F, lstO vs c)] (fun l mu' v => v = .none ∧ ∃ vs' c', mu' = [(F, lstO vs' c')] ∧ Paired (RowIn l) vs' (takeR M i j q)) := by
  have hM : MatIn ([(F, lstO vs c)] ++ led) (.ref F) M := ⟨F, vs, c, rfl, .head _, prowCons hP⟩
  k_fill
  intro s dp un gd fr E Am H hm hap hnd hd hu
  have hl := hP.length
  have hrows := hD.rows
  have Am' := Am.ext (h' := s.heap) (fun b o e => of_hideAll _ e)
  obtain ⟨hi2, hil⟩ := hD.at hi
  obtain ⟨hj2, hjl⟩ := hD.at hj
  have hh := And.intro hm hap
  clear hm hap
  walk_at "enter"
  rename St _ _ _ _ _ _ _ _ _ _ _ _ _ _ _ => kS
  rename (∀ b ∈ ownOf _ _, _) => hO
  replace kS := kS.hide Am hh.1 hh.2 hnd
  replace hO := own_hide (mu₀ := [(F, lstO vs c)]) hO
  k_steps
  rename St _ _ _ _ _ _ _ _ _ _ _ _ _ _ _ => kS
  unfold Hold
  (with_reducible refine wpAny_Assign_Subscript ?_ ?_; rotate_left; with_unfolding_all rfl)
  refine comp_pure k (fun _ => true) (fun a l v => RatIn l v ((M.getD i []).getD a 0 - q * (M.getD j []).getD a 0)) (fun _ _ _ _ h => h.sub subApp) ([(F, lstO vs c)] ++ led) (by walk_at "om") (by with_unfolding_all rfl) (by decide) (by walk_at "hoc") rfl (by decide) ?hit
  k_steps
  rename St _ _ _ _ _ _ _ _ _ _ _ _ _ _ _ => kS
  rename RowIn _ _ _ => hrow
  rename vs[_]? = _ => hrow2
  unfold Hold
  refine comp_enumM kS [(Str.ofString "number", vq), (Str.ofString "a", .ref F), (Str.ofString "source", .int j t2)] rfl hrow hil (fun C => ⟨by walk_at "tgt", by walk_at "tgt"⟩) (by walk_at "clo") (by intros; exact tests_nil) ?turn ?hQ
  case hQ =>
    intro D us c' s' tl kS' hP'
    have hP2 : RowIn ((D, lstO us c') :: (tl ++ led)) (.ref D) (subRow (M.getD i []) (M.getD j []) q) := by
      refine ⟨D, us, c', rfl, .head _, ?_⟩
      rw [filter_true] at hP'
      unfold subRow
      rw [hil]
      exact paired_range (P := fun a y => RatIn (tl ++ ([(F, lstO vs c)] ++ led)) y ((M.getD i []).getD a 0 - q * (M.getD j []).getD a 0)) (fun a => (M.getD i []).getD a 0 - q * (M.getD j []).getD a 0)
        (fun i y h => RatIn.sub (RatIn.unmu (mu := [(F, lstO vs c)]) h (fun p hp => by rw [List.mem_singleton.mp hp]; exact ⟨vs, c, rfl⟩)) subCons) hP'
    replace kS' := kS'.freeze
    clear kS hP'
    k_steps
    rename St _ _ _ _ _ _ _ _ _ _ _ _ _ _ _ => kS
    refine kS.doneT rfl ⟨rfl, _, _, rfl, ?_⟩
    exact paired_set (by walk_at "rel") (by walk_at "prel") _
  case turn =>
    clear kS
    intro x C m₁ y v t tl s₃ E' hx _ hy hR kS
    have e1 := getD_of (d := (0 : Rat)) hy
    have hz := some_getD (xs := M.getD j []) (d := (0:Rat)) (show x < (M.getD j []).length by walk_at "om")
    have : RB big y := (e1 ▸ h1.at x).mono (by walk_at "om")
    have : RB big q := h3.mono (by walk_at "om")
    have : RB big ((M.getD j []).getD x 0) := (h2.at x).mono (by walk_at "om")
    have : RB big (q * (M.getD j []).getD x 0) := (h3.mul (h2.at x)).mono (by walk_at "om")
    k_steps
    rename St _ _ _ _ _ _ _ _ _ _ _ _ _ _ _ => kS
    refine kS.done ?_
    rw [e1]; assumption
end
end Mine

-- Lst4
namespace Mine
open Sem (wp)
section
variable {K : Frag} {p : Program} {loose : List Str} {mean : ExcName → Option Value} {mg mb : Str → Option Value} {s₀ : Shared} {led₀ : Led} {env : Env} {oc : List (Str × Addr)} {cl : List (Str × Value)} {m : Str → Option Value} {led mu : Led} {s : Shared}
  {A : Around} {E : Value → Shared → Prop} {prog : Program} {w : World} {pos : Pos}
/-- what a stored comprehension wants of the state behind its iterator -/
noncomputable abbrev AsgGoal (prog : Program) (w : World) (A : Around) (env : Env) (elt target : Expr) (ifs : List Expr) (scope : Scope) (clo : List (Str × Addr)) (Rl : Nat → Led → Value → Prop) (led : Led) (n : Nat) (pf : Nat → Bool) (y : Str) (Q : Flow → Shared → Prop) (it : Value) (s₂ : Shared) : Prop :=
  ∃ wr m, CompAt prog w A env elt target ifs scope clo Rl led (fun _ _ => True) [] n pf it s₂ wr ∧ (fun (_ : Nat) (_ : Heap) => True) 0 s₂.heap ∧ s₂.heap.Ns env.locals m ∧ env.locals ∉ wr ∧ env.locals ∉ ([] : List Addr) ∧
      (∀ D h' tk ys tl c, s₂.heap.get? D = none → h'.get? D = some (listOf ys c) → (fun (_ : Nat) (_ : Heap) => True) n h' → Has h' tl → Fresh s₂.heap tl → (∀ q ∈ tl, q.1 ≠ D) → Paired (fun i y => Rl i (tl ++ led) y) ((List.range n).filter pf) ys.toList →
        h'.Ns env.locals (upd m y (.ref D)) → (∀ b o, b ∉ [] ++ wr → b ≠ env.locals → s₂.heap.get? b = some o → h'.get? b = some o) → Q .next { s₂ with heap := h', toks := tk })
theorem comp_atA {st : Bool} {elt target : Expr} {ifs : List Expr} {scope : Scope} {clo : List (Str × Addr)} {tg : List Str} {Bd : Nat → (Str → Option Value) → (Str → Option Value) → Prop} {n : Nat} {pf : Nat → Bool} {Rl : Nat → Led → Value → Prop} {it : Value} {s₂ : Shared} {y : Str} {Q : Flow → Shared → Prop}
    (S : St K p loose mean mg mb s₀ led₀ env oc [] m led mu s) (own0 : ∀ b ∈ ownOf env oc, s₀.heap.get? b = none) (hy : env.kindOf y = some .local) (cl' : List (Str × Value)) (IT : IterAt st prog w A led s it s₂ target tg n Bd)
    (htg : ∀ C, ∀ x ∈ tg, TgtOk (cenvOf scope clo env C) (ocOf scope.names C) x) (hcl : CloOk scope env clo s cl')
    (tests : ∀ i C m₁ m' led' s₃ E', i < n → Bd i m₁ m' → (∃ tl, led' = tl ++ (mu ++ led)) → St K p loose mean mg mb s₃ led' (cenvOf scope clo env C) (ocOf scope.names C) cl' m' led' [] s₃ →
      testsOf prog w A ifs (cenvOf scope clo env C) (fun ok s₄ => ok = pf i ∧ Keeps s₃ s₄) E' s₃)
    (turn : ∀ i C m₁ m' led' s₃ E', i < n → pf i = true → Bd i m₁ m' → (∃ tl, led' = tl ++ (mu ++ led)) → St K p loose mean mg mb s₃ led' (cenvOf scope clo env C) (ocOf scope.names C) cl' m' led' [] s₃ →
      wpAny (model prog w) A (eval elt (cenvOf scope clo env C)) (Made s₃ led' (Rl i)) E' s₃)
    (hQ : ∀ D vs c s' tl, St K p loose mean mg mb s₀ led₀ env oc [] (upd m y (.ref D)) (tl ++ led) ((D, lstO vs c) :: mu) s' → Paired (fun i y => Rl i (tl ++ (mu ++ led)) y) ((List.range n).filter pf) vs → Q .next s') :
    AsgGoal prog w A env elt target ifs scope clo Rl (mu ++ led) n pf y Q it s₂ := by
  obtain ⟨wr, CA, hwr, hex, hs, tks, rfl⟩ := comp_elt S.freezeAll cl' (IT.mono subApp) htg hcl tests turn
  obtain ⟨ml, hn, hl⟩ := S.frm.loc
  obtain ⟨ol, hol, _⟩ := S.frm.live env.locals mem_own_loc
  have hLw : env.locals ∉ wr := fun h => by rw [hwr _ h] at hol; cases hol
  refine ⟨wr, ml, CA, trivial, hn.at' (fun o e => hex _ _ e), hLw, (fun h => nomatch h), fun D h' tk ys tl c hD hl' _ hT hTf hDt hP hn' hx => ?_⟩
  obtain ⟨ys⟩ := ys
  have e : ∀ b o, b ≠ env.locals → s.heap.get? b = some o → h'.get? b = some o := fun b o hb e => hx b o (fun h => by rw [List.nil_append] at h; rw [hwr b h] at e; cases e) hb (hex b o e)
  have hDs : s.heap.get? D = none := by
    cases q : s.heap.get? D with
    | none => rfl
    | some o => have := hex _ _ q; rw [hD] at this; cases this
  have nl : ∀ {l : Led}, Has s.heap l → ∀ q ∈ l, q.1 ≠ env.locals := fun H q hq he => S.frm.notHas H q hq (he ▸ mem_own_loc)
  have hTs : Fresh s.heap tl := hTf.back hex
  refine hQ D ys c _ tl ⟨S.amb, ?_, fun b o h => e b o (fun q => by rw [q, own0 _ mem_own_loc] at h; cases h) (S.ext b o h), ⟨S.frm.fn, ⟨_, hn', fun z hz => ?_⟩, fun q hq => ?_, S.frm.knd, S.frm.inj⟩, (fun _ h => nomatch h),
    hT.append (S.has.via fun q hq o => e _ o (nl S.has q hq)), ?_, fun q hq => (List.mem_cons.mp hq).elim (fun h => by rw [h]; exact ⟨hl', rfl⟩) (S.muh.via (fun q hq o => e _ o (nl S.muh q hq)) q), fun q hq => ?_, ?_⟩ hP
  · obtain ⟨h, t, e⟩ := S.same
    exact ⟨h', tk, by rw [e]⟩
  · by_cases q : z = y
    · subst q; exact (upd_eq (m := ml)).trans (upd_eq (m := m)).symm
    · exact (upd_ne (m := ml) q).trans ((hl z hz).trans (upd_ne (m := m) q).symm)
  · have hk := S.frm.knd q hq
    have hyx : q.1 ≠ y := fun e => by rw [e, hy] at hk; cases hk.1
    simp only [upd, if_neg hyx]
    obtain ⟨o, ho, r⟩ := S.frm.cel q hq
    exact ⟨o, e _ _ hk.2.2 ho, r⟩
  · obtain ⟨t0, e0, f0⟩ := S.new
    exact ⟨tl ++ t0, by rw [e0, List.append_assoc], (hTs.back S.ext).append f0⟩
  · rcases List.mem_cons.mp hq with rfl | hq
    · refine ⟨?_, fun r hr => (List.mem_append.mp hr).elim (hDt r) fun hr he => ?_⟩
      · cases q0 : s₀.heap.get? D with
        | none => rfl
        | some o' => rw [S.ext _ _ q0] at hDs; cases hDs
      · have := (S.has r hr).1; rw [he, hDs] at this; cases this
    · exact ⟨(S.muf q hq).1, fun r hr => (List.mem_append.mp hr).elim (fun hr he => by have := hTs r hr; rw [he, (S.muh q hq).1] at this; cases this) ((S.muf q hq).2 r)⟩
  · rw [List.map_cons, List.nodup_cons]
    refine ⟨fun h => ?_, S.mun⟩
    obtain ⟨q, hq, he⟩ := List.mem_map.mp h
    have := (S.muh q hq).1
    rw [he, hDs] at this; cases this

theorem comp_rangeA {elt : Expr} {ifs : List Expr} {scope : Scope} {clo : List (Str × Addr)} {x : Str} {px : Pos} {n : Nat} {pf : Nat → Bool} {Rl : Nat → Led → Value → Prop} {y : Str} {Q : Flow → Shared → Prop} {r : Addr} {a b : Int} {t u v : Tok}
    (S : St K p loose mean mg mb s₀ led₀ env oc [] m led mu s) (own0 : ∀ b ∈ ownOf env oc, s₀.heap.get? b = none) (hy : env.kindOf y = some .local) (cl' : List (Str × Value)) (hh : A.handled = none) (hr : IsRange s.heap r a b 1 t u v) (hsm : Builtin.Range.small a b 1 = true) (hn : (b - a).toNat = n)
    (htg : ∀ C, TgtOk (cenvOf scope clo env C) (ocOf scope.names C) x) (hcl : CloOk scope env clo s cl')
    (tests : ∀ i C m₁ t' tl s₃ E', i < n → St K p loose mean mg mb s₃ (tl ++ (mu ++ led)) (cenvOf scope clo env C) (ocOf scope.names C) cl' (upd m₁ x (.int (a + i) t')) (tl ++ (mu ++ led)) [] s₃ →
      testsOf prog w A ifs (cenvOf scope clo env C) (fun ok s₄ => ok = pf i ∧ Keeps s₃ s₄) E' s₃)
    (turn : ∀ i C m₁ t' tl s₃ E', i < n → pf i = true → St K p loose mean mg mb s₃ (tl ++ (mu ++ led)) (cenvOf scope clo env C) (ocOf scope.names C) cl' (upd m₁ x (.int (a + i) t')) (tl ++ (mu ++ led)) [] s₃ →
      wpAny (model prog w) A (eval elt (cenvOf scope clo env C)) (Made s₃ (tl ++ (mu ++ led)) (Rl i)) E' s₃)
    (hQ : ∀ D vs c s' tl, St K p loose mean mg mb s₀ led₀ env oc [] (upd m y (.ref D)) (tl ++ led) ((D, lstO vs c) :: mu) s' → Paired (fun i y => Rl i (tl ++ (mu ++ led)) y) ((List.range n).filter pf) vs → Q .next s') :
    wpAny (model prog w) A (pyIter (.ref r)) (AsgGoal prog w A env elt (.Name x px) ifs scope clo Rl (mu ++ led) n pf y Q) E s := by
  refine iter_range (led := led) (x := x) (px := px) hh hr hsm fun it s₂ IT => ?_
  rw [hn] at IT
  refine comp_atA S own0 hy cl' IT (fun C y hy => by rw [List.mem_singleton.mp hy]; exact htg C) hcl ?_ ?_ hQ
  · rintro i C m₁ m' led' s₃ E' hi ⟨t', rfl⟩ ⟨tl, rfl⟩ S'
    exact tests i C m₁ t' tl s₃ E' hi S'
  · rintro i C m₁ m' led' s₃ E' hi hp ⟨t', rfl⟩ ⟨tl, rfl⟩ S'
    exact turn i C m₁ t' tl s₃ E' hi hp S'
theorem comp_listA {α : Type} {R : Led → Value → α → Prop} {elt : Expr} {ifs : List Expr} {scope : Scope} {clo : List (Str × Addr)} {x : Str} {px : Pos} {n : Nat} {pf : Nat → Bool} {Rl : Nat → Led → Value → Prop} {y : Str} {Q : Flow → Shared → Prop} {lv : Value} {xs : List α}
    (S : St K p loose mean mg mb s₀ led₀ env oc [] m led mu s) (own0 : ∀ b ∈ ownOf env oc, s₀.heap.get? b = none) (hy : env.kindOf y = some .local) (cl' : List (Str × Value)) (hh : A.handled = none) (hq : SeqIn R led lv xs) (hn : xs.length = n)
    (htg : ∀ C, TgtOk (cenvOf scope clo env C) (ocOf scope.names C) x) (hcl : CloOk scope env clo s cl')
    (tests : ∀ i C m₁ y v tl s₃ E', i < n → xs[i]? = some y → R led v y → St K p loose mean mg mb s₃ (tl ++ (mu ++ led)) (cenvOf scope clo env C) (ocOf scope.names C) cl' (upd m₁ x v) (tl ++ (mu ++ led)) [] s₃ →
      testsOf prog w A ifs (cenvOf scope clo env C) (fun ok s₄ => ok = pf i ∧ Keeps s₃ s₄) E' s₃)
    (turn : ∀ i C m₁ y v tl s₃ E', i < n → pf i = true → xs[i]? = some y → R led v y → St K p loose mean mg mb s₃ (tl ++ (mu ++ led)) (cenvOf scope clo env C) (ocOf scope.names C) cl' (upd m₁ x v) (tl ++ (mu ++ led)) [] s₃ →
      wpAny (model prog w) A (eval elt (cenvOf scope clo env C)) (Made s₃ (tl ++ (mu ++ led)) (Rl i)) E' s₃)
    (hQ : ∀ D vs c s' tl, St K p loose mean mg mb s₀ led₀ env oc [] (upd m y (.ref D)) (tl ++ led) ((D, lstO vs c) :: mu) s' → Paired (fun i y => Rl i (tl ++ (mu ++ led)) y) ((List.range n).filter pf) vs → Q .next s') :
    wpAny (model prog w) A (pyIter lv) (AsgGoal prog w A env elt (.Name x px) ifs scope clo Rl (mu ++ led) n pf y Q) E s := by
  obtain ⟨a, vs, c, rfl, hm, hp⟩ := hq
  refine iter_list (led := led) (x := x) (px := px) hh S.has hm fun it s₂ IT => ?_
  rw [hp.length, hn] at IT
  refine comp_atA S own0 hy cl' IT (fun C y hy => by rw [List.mem_singleton.mp hy]; exact htg C) hcl ?_ ?_ hQ
  · rintro i C m₁ m' led' s₃ E' hi ⟨v, hv, rfl⟩ ⟨tl, rfl⟩ S'
    obtain ⟨y, hy, hR⟩ := pairedAt' hp hv
    exact tests i C m₁ y v tl s₃ E' hi hy hR S'
  · rintro i C m₁ m' led' s₃ E' hi hpf ⟨v, hv, rfl⟩ ⟨tl, rfl⟩ S'
    obtain ⟨y, hy, hR⟩ := pairedAt' hp hv
    exact turn i C m₁ y v tl s₃ E' hi hpf hy hR S'
theorem comp_enumA {α : Type} {R : Led → Value → α → Prop} {elt : Expr} {ifs : List Expr} {scope : Scope} {clo : List (Str × Addr)} {xi xv : Str} {pi pv pt : Pos} {x1} {n : Nat} {pf : Nat → Bool} {Rl : Nat → Led → Value → Prop} {y : Str} {Q : Flow → Shared → Prop} {lv : Value} {xs : List α}
    (S : St K p loose mean mg mb s₀ led₀ env oc [] m led mu s) (own0 : ∀ b ∈ ownOf env oc, s₀.heap.get? b = none) (hy : env.kindOf y = some .local) (cl' : List (Str × Value)) (hh : A.handled = none) (hq : SeqIn R led lv xs) (hn : xs.length = n)
    (htg : ∀ C, TgtOk (cenvOf scope clo env C) (ocOf scope.names C) xi ∧ TgtOk (cenvOf scope clo env C) (ocOf scope.names C) xv) (hcl : CloOk scope env clo s cl')
    (tests : ∀ i C m₁ y v t tl s₃ E', i < n → xs[i]? = some y → R led v y → St K p loose mean mg mb s₃ (tl ++ (mu ++ led)) (cenvOf scope clo env C) (ocOf scope.names C) cl' (upd (upd m₁ xi (.int i t)) xv v) (tl ++ (mu ++ led)) [] s₃ →
      testsOf prog w A ifs (cenvOf scope clo env C) (fun ok s₄ => ok = pf i ∧ Keeps s₃ s₄) E' s₃)
    (turn : ∀ i C m₁ y v t tl s₃ E', i < n → pf i = true → xs[i]? = some y → R led v y → St K p loose mean mg mb s₃ (tl ++ (mu ++ led)) (cenvOf scope clo env C) (ocOf scope.names C) cl' (upd (upd m₁ xi (.int i t)) xv v) (tl ++ (mu ++ led)) [] s₃ →
      wpAny (model prog w) A (eval elt (cenvOf scope clo env C)) (Made s₃ (tl ++ (mu ++ led)) (Rl i)) E' s₃)
    (hQ : ∀ D vs c s' tl, St K p loose mean mg mb s₀ led₀ env oc [] (upd m y (.ref D)) (tl ++ led) ((D, lstO vs c) :: mu) s' → Paired (fun i y => Rl i (tl ++ (mu ++ led)) y) ((List.range n).filter pf) vs → Q .next s') :
    wpAny (model prog w) A (PySem.call (.type "enumerate") [lv]) (fun e s₁ => wpAny (model prog w) A (pyIter e) (AsgGoal prog w A env elt (.Tuple [.Name xi pi, .Name xv pv] x1 pt) ifs scope clo Rl (mu ++ led) n pf y Q) E s₁) E s := by
  obtain ⟨a, vs, c, rfl, hm, hp⟩ := hq
  refine iter_enum (led := led) (xi := xi) (xv := xv) (pi := pi) (pv := pv) (pt := pt) (x1 := x1) hh S.has hm fun it s₂ IT => ?_
  rw [hp.length, hn] at IT
  refine comp_atA S own0 hy cl' IT (fun C y hy => ?_) hcl ?_ ?_ hQ
  · simp only [List.mem_cons, List.not_mem_nil, or_false] at hy
    rcases hy with rfl | rfl
    · exact (htg C).1
    · exact (htg C).2
  · rintro i C m₁ m' led' s₃ E' hi ⟨v, t, hv, rfl⟩ ⟨tl, rfl⟩ S'
    obtain ⟨y, hy, hR⟩ := pairedAt' hp hv
    exact tests i C m₁ y v t tl s₃ E' hi hy hR S'
  · rintro i C m₁ m' led' s₃ E' hi hpf ⟨v, t, hv, rfl⟩ ⟨tl, rfl⟩ S'
    obtain ⟨y, hy, hR⟩ := pairedAt' hp hv
    exact turn i C m₁ y v t tl s₃ E' hi hpf hy hR S'

/-- a comprehension stored into a name -/
theorem comp_asg {elt target iter : Expr} {ifs : List Expr} {scope : Scope} {clo : List (Str × Addr)} {y : Str} {py spos : Pos} {Q : Flow → Shared → Prop} (n : Nat) (pf : Nat → Bool) (Rl : Nat → Led → Value → Prop) (Rm : ∀ i l t y, Rl i l y → Rl i (t ++ l) y) (led : Led)
    (hsz : n ≤ 100000) (hsw : swapsWith (.ListComp elt [⟨target, iter, ifs, 0⟩] scope pos) (some (.Name y py)) spos.line env = pure true) (hclos : closureFor scope env = pure clo) (h1 : (scope.names.filter isCellN).length ≤ 1)
    (hoc : ∀ C, ∀ q ∈ ocOf scope.names C, (cenvOf scope clo env C).kindOf q.1 = some .cell ∧ (cellsFrom (C + 1) scope.names clo).lookup q.1 = some q.2 ∧ q.2 ≠ C) (hkind : scope.kind = .function)
    (hnames : ∀ y ∈ scope.names, y.2 = .local → scope.names.lookup y.1 = some .local) (hy : env.kindOf y = some .local) (hp : (env.scope.kind == .class || (env.scope.kind == .module && env.locals != env.globals)) = false)
    (h : wpAny (model prog w) A (eval iter env) (fun xv s₁ => wpAny (model prog w) A (pyIter xv) (AsgGoal prog w A env elt target ifs scope clo Rl led n pf y Q) E s₁) E s)
    (hs : ∀ x, foldedSetIterable iter env x = pure x := by intro _; rfl) :
    wpAny (model prog w) A (exec (.Assign [.Name y py] (.ListComp elt [⟨target, iter, ifs, 0⟩] scope pos) spos) env) Q E s :=
  comp_assign [] (fun _ _ => True) n pf Rl Rm led hsw hclos h1 hoc hkind hnames hy hp (by rw [sizeLine_eq]; walk_at "om") (fun _ _ _ _ _ => trivial) (fun _ _ _ _ h => nomatch h) h hs
end
end Mine

-- Ech
namespace Mine
noncomputable def spotsR (M : List (List Rat)) (row col : Nat) : List Nat := (List.range (M.length - row)).filter fun i => decide ((M.getD (row + i) []).getD col 0 ≠ 0)
noncomputable def divRow (r : List Rat) (q : Rat) : List Rat := r.map fun x => x / q
noncomputable def clrTo (N : List (List Rat)) (row col i : Nat) : List (List Rat) :=
  (List.range N.length).map fun j => if j < i ∧ j ≠ row ∧ (N.getD j []).getD col 0 ≠ 0 then subRow (N.getD j []) (N.getD row []) ((N.getD j []).getD col 0) else N.getD j []
noncomputable def pivR (M : List (List Rat)) (row i0 col : Nat) : List (List Rat) :=
  (swapR M row (row + i0)).set row (divRow ((swapR M row (row + i0)).getD row []) (((swapR M row (row + i0)).getD row []).getD col 0))
noncomputable def echStep (st : List (List Rat) × List Nat) (col : Nat) : List (List Rat) × List Nat :=
  match spotsR st.1 st.2.length col with
  | [] => st
  | i0 :: _ => (clrTo (pivR st.1 st.2.length i0 col) st.2.length col (pivR st.1 st.2.length i0 col).length, st.2 ++ [col])
noncomputable def echTo (M : List (List Rat)) (i : Nat) : List (List Rat) × List Nat := (List.range i).foldl echStep (M, [])
theorem echTo_succ (M : List (List Rat)) (i : Nat) : echTo M (i + 1) = echStep (echTo M i) i := by
  unfold echTo; rw [List.range_succ, List.foldl_append]; rfl
theorem getD_map_range {α : Type} (f : Nat → α) (d : α) {n j : Nat} (h : j < n) : ((List.range n).map f).getD j d = f j := by
  rw [List.getD_eq_getElem?_getD, List.getElem?_map, List.getElem?_range h]; rfl
theorem getD_set {α : Type} (l : List α) (d x : α) {i j : Nat} (h : j < l.length) : (l.set i x).getD j d = if i = j then x else l.getD j d := by
  rw [List.getD_eq_getElem?_getD, List.getD_eq_getElem?_getD, List.getElem?_set]
  by_cases e : i = j
  · subst e; simp [h]
  · simp [e]
theorem clrTo_length {N : List (List Rat)} {row col i : Nat} : (clrTo N row col i).length = N.length := by simp [clrTo]
theorem clrTo_at {N : List (List Rat)} {row col i j : Nat} (h : j < N.length) : (clrTo N row col i).getD j [] = if j < i ∧ j ≠ row ∧ (N.getD j []).getD col 0 ≠ 0 then subRow (N.getD j []) (N.getD row []) ((N.getD j []).getD col 0) else N.getD j [] := by
  unfold clrTo; rw [getD_map_range _ _ h]
theorem clrTo_zero {N : List (List Rat)} {row col : Nat} : clrTo N row col 0 = N := by
  unfold clrTo; simpa using range_getD [] N
theorem list_ext_getD {α : Type} {d : α} {a b : List α} (hl : a.length = b.length) (h : ∀ j, j < a.length → a.getD j d = b.getD j d) : a = b := by
  apply List.ext_getElem? 
  intro j
  by_cases hj : j < a.length
  · rw [some_getD (d := d) hj, some_getD (d := d) (hl ▸ hj), h j hj]
  · rw [List.getElem?_eq_none (by walk_at "om"), List.getElem?_eq_none (by walk_at "om")]
theorem clrTo_row {N : List (List Rat)} {row col i : Nat} (h : row < N.length) : (clrTo N row col i).getD row [] = N.getD row [] := by
  rw [clrTo_at h, if_neg (fun h => h.2.1 rfl)]
theorem clrTo_self {N : List (List Rat)} {row col i : Nat} (h : i < N.length) : (clrTo N row col i).getD i [] = N.getD i [] := by
  rw [clrTo_at h, if_neg (fun h => Nat.lt_irrefl _ h.1)]
theorem clrTo_yes {N : List (List Rat)} {row col i : Nat} (hr : row < N.length) (hi : i < N.length) (hne : i ≠ row) (hz : (N.getD i []).getD col 0 ≠ 0) :
    clrTo N row col (i + 1) = takeR (clrTo N row col i) i row (((clrTo N row col i).getD i []).getD col 0) := by
  refine list_ext_getD (d := []) (by simp [takeR, clrTo_length]) fun j hj => ?_
  rw [clrTo_length] at hj
  unfold takeR
  rw [getD_set _ _ _ (by rw [clrTo_length]; exact hj), clrTo_at hj, clrTo_row hr, clrTo_self hi]
  by_cases e : i = j
  · subst e; rw [if_pos ⟨Nat.lt_succ_self _, hne, hz⟩, if_pos rfl]
  · rw [if_neg e, clrTo_at hj]
    by_cases h : j < i
    · simp only [show j < i + 1 by walk_at "om", h]
    · simp only [show ¬ j < i + 1 by walk_at "om", h]
theorem clrTo_no {N : List (List Rat)} {row col i : Nat} (h : ¬ (i ≠ row ∧ (N.getD i []).getD col 0 ≠ 0)) : clrTo N row col (i + 1) = clrTo N row col i := by
  unfold clrTo
  refine List.map_congr_left fun j hj => ?_
  by_cases e : j = i
  · subst e
    rw [if_neg (fun q => h q.2), if_neg (fun q => h q.2)]
  · by_cases h : j < i
    · simp only [show j < i + 1 by walk_at "om", h]
    · simp only [show ¬ j < i + 1 by walk_at "om", h]

theorem dim_of {M : List (List Rat)} {n k : Nat} (h : M.length = n) (h2 : ∀ j, j < n → (M.getD j []).length = k) : Dim M n k := ⟨h, fun r hr => by
  obtain ⟨j, hj, rfl⟩ := List.mem_iff_getElem.mp hr
  have := h2 j (by walk_at "om")
  rwa [getD_of (List.getElem?_eq_getElem hj)] at this⟩
theorem rb_of {M : List (List Rat)} {k : Nat} (h2 : ∀ j, j < M.length → RBr k (M.getD j [])) : RBm k M := fun r hr => by
  obtain ⟨j, hj, rfl⟩ := List.mem_iff_getElem.mp hr
  have := h2 j hj
  rwa [getD_of (List.getElem?_eq_getElem hj)] at this
theorem dim_swap {M : List (List Rat)} {n k i j : Nat} (h : Dim M n k) (hi : i < n) (hj : j < n) : Dim (swapR M i j) n k := dim_of (by simp [swapR, h.rows]) fun x hx => by
  unfold swapR
  rw [getD_set _ _ _ (by simp [h.rows, hx]), getD_set _ _ _ (by rw [h.rows]; exact hx)]
  split
  · exact (h.at hi).2
  · split
    · exact (h.at hj).2
    · exact (h.at hx).2
theorem rb_swap {M : List (List Rat)} {e i j : Nat} (h : RBm e M) : RBm e (swapR M i j) := rb_of fun x hx => by
  unfold swapR at hx ⊢
  have hx' : x < M.length := by simpa using hx
  rw [getD_set _ _ _ (by simpa using hx'), getD_set _ _ _ hx']
  split
  · exact h.at _
  · split
    · exact h.at _
    · exact h.at _
theorem rbr_div {r : List Rat} {e f : Nat} {q : Rat} (h : RBr e r) (hq : RB f q) : RBr (e + f) (divRow r q) := fun x hx => by
  unfold divRow at hx
  obtain ⟨y, hy, rfl⟩ := List.mem_map.mp hx
  exact (h y hy).div hq
theorem rbr_sub {r s : List Rat} {e f : Nat} {q : Rat} (h : RBr e r) (h2 : RBr f s) (hq : RB e q) : RBr (e + (e + f) + 1) (subRow r s q) := fun x hx => by
  unfold subRow at hx
  obtain ⟨y, hy, rfl⟩ := List.mem_map.mp hx
  exact (h.at y).sub (hq.mul (h2.at y))
theorem dim_piv {M : List (List Rat)} {n k row i0 col : Nat} (h : Dim M n k) (hr : row + i0 < n) : Dim (pivR M row i0 col) n k := by
  have h1 := dim_swap (i := row) (j := row + i0) h (by walk_at "om") hr
  refine dim_of (by simp [pivR, h1.rows]) fun x hx => ?_
  unfold pivR
  rw [getD_set _ _ _ (by rw [h1.rows]; exact hx)]
  split
  · rw [divRow, List.length_map]; exact (h1.at (by walk_at "om")).2
  · exact (h1.at hx).2
theorem piv_row {M : List (List Rat)} {n k row i0 col : Nat} (h : Dim M n k) (hr : row + i0 < n) : (pivR M row i0 col).getD row [] = divRow ((swapR M row (row + i0)).getD row []) (((swapR M row (row + i0)).getD row []).getD col 0) := by
  have h1 := dim_swap (i := row) (j := row + i0) h (by walk_at "om") hr
  unfold pivR
  rw [getD_set _ _ _ (by rw [h1.rows]; walk_at "om"), if_pos rfl]
theorem piv_other {M : List (List Rat)} {n k row i0 col x : Nat} (h : Dim M n k) (hr : row + i0 < n) (hx : x < n) (hne : x ≠ row) : (pivR M row i0 col).getD x [] = (swapR M row (row + i0)).getD x [] := by
  have h1 := dim_swap (i := row) (j := row + i0) h (by walk_at "om") hr
  unfold pivR
  rw [getD_set _ _ _ (by rw [h1.rows]; walk_at "om"), if_neg (Ne.symm hne)]
theorem dim_clr {N : List (List Rat)} {n k row col i : Nat} (h : Dim N n k) : Dim (clrTo N row col i) n k := dim_of (by rw [clrTo_length, h.rows]) fun x hx => by
  rw [clrTo_at (by rw [h.rows]; exact hx)]
  split
  · unfold subRow; simpa using (h.at hx).2
  · exact (h.at hx).2
noncomputable def eb (b : Nat) : Nat → Nat
  | 0 => b
  | p + 1 => 4 * eb b p + 1
theorem rbr_mono {k j : Nat} {r : List Rat} (h : RBr k r) (hk : k ≤ j) : RBr j r := fun x hx => (h x hx).mono hk
theorem spots_lt {M : List (List Rat)} {row col i0 : Nat} {l : List Nat} (h : spotsR M row col = i0 :: l) : row + i0 < M.length ∧ (M.getD (row + i0) []).getD col 0 ≠ 0 := by
  have : i0 ∈ spotsR M row col := by rw [h]; exact .head _
  unfold spotsR at this
  obtain ⟨h1, h2⟩ := List.mem_filter.mp this
  have := List.mem_range.mp h1
  exact ⟨by walk_at "om", by simpa using h2⟩
theorem spots_nil {M : List (List Rat)} {row col x : Nat} (h : spotsR M row col = []) (h1 : row ≤ x) (h2 : x < M.length) : (M.getD x []).getD col 0 = 0 := by
  unfold spotsR at h
  have := List.filter_eq_nil_iff.mp h (x - row) (List.mem_range.mpr (by walk_at "om"))
  rw [show row + (x - row) = x by walk_at "om"] at this
  simpa using this
theorem ech_inv {M : List (List Rat)} {n k b : Nat} (hD : Dim M n k) (hB : RBm b M) : ∀ i, Dim (echTo M i).1 n k ∧ RBm (eb b (echTo M i).2.length) (echTo M i).1 ∧ (echTo M i).2.length ≤ n
  | 0 => ⟨hD, hB, Nat.zero_le _⟩
  | i + 1 => by
    obtain ⟨h1, h2, h3⟩ := ech_inv hD hB i
    rw [echTo_succ]
    unfold echStep
    split
    · exact ⟨h1, h2, h3⟩
    · rename_i i0 l hs
      generalize echTo M i = st at *
      obtain ⟨X, piv⟩ := st
      simp only at *
      have hlt := (spots_lt hs).1
      rw [h1.rows] at hlt
      have hsw := dim_swap (i := piv.length) (j := piv.length + i0) h1 (by walk_at "om") hlt
      have hp := dim_piv (col := i) h1 hlt
      refine ⟨dim_clr hp, rb_of fun x hx => ?_, by rw [List.length_append]; simp; walk_at "om"⟩
      rw [clrTo_length, hp.rows] at hx
      rw [clrTo_at (by rw [hp.rows]; exact hx), List.length_append, piv_row h1 hlt]
      show RBr (4 * eb b piv.length + 1) _
      have hsb := rb_swap (i := piv.length) (j := piv.length + i0) h2
      have hdr := rbr_div (hsb.at piv.length) ((hsb.at piv.length).at i)
      by_cases hxr : x = piv.length
      · subst hxr
        rw [if_neg (fun h => h.2.1 rfl), piv_row h1 hlt]
        exact rbr_mono hdr (by walk_at "om")
      · rw [piv_other h1 hlt hx hxr]
        split
        · exact rbr_mono (rbr_sub (hsb.at x) hdr ((hsb.at x).at i)) (by walk_at "om")
        · exact rbr_mono (hsb.at x) (by walk_at "om")
end Mine

-- Mx3
namespace Mine
open Sem (wp)
/-- a place where the walk stops, that no reduction opens -/
structure Stop (P : Prop) : Prop where
  out : P
theorem stop_wp {α : Type} {M : Model} {A : Around} {t : Sem α} {Q : α → Shared → Prop} {E : Value → Shared → Prop} {s : Shared} (h : wpAny M A t (fun v s => Stop (Q v s)) E s) : wpAny M A t Q E s :=
  wpAny_mono h (fun _ _ h => h.out) fun _ _ h => h
section
variable {K : Frag} {p : Program} {loose : List Str} {mean : ExcName → Option Value} {mg mb : Str → Option Value} {s₀ : Shared} {led₀ : Led} {env : Env} {oc : List (Str × Addr)} {cl : List (Str × Value)} {m : Str → Option Value} {led mu : Led} {s : Shared}
  {A : Around} {E : Value → Shared → Prop} {prog : Program} {w : World} {pos : Pos}
theorem St.keeps (S : St K p loose mean mg mb s₀ led₀ env oc cl m led mu s) : Keeps s₀ s := let ⟨h, tk, e⟩ := S.same; ⟨h, tk, e, by have := S.ext; rw [e] at this; exact this⟩
theorem St.callT1 {F : Addr} {us : List Value} {c : Nat} {mu₂ : Led} {f : Addr} {vs : List Value} {dep dp un : Nat} {gd : Option (List Code)} {fr : List Env} {P : Led → List Value → Prop} {Q : Value → Shared → Prop} (S : St K p loose mean mg mb s₀ led₀ env oc [] m led ((F, lstO us c) :: mu₂) s)
    (C : ConT K p loose mean mg mb prog w f vs dep led [(F, lstO us c)] (fun l mu' v => v = .none ∧ ∃ vs' c', mu' = [(F, lstO vs' c')] ∧ P l vs')) (hd : dp + dep < recursionLimit) (hu : un + 8 * dep < cLine)
    (h : ∀ s' tl vs' c', St K p loose mean mg mb s₀ led₀ env oc [] m (tl ++ led) ((F, lstO vs' c') :: mu₂) s' → P (tl ++ led) vs' → Q .none s') :
    wpAny (model prog w) { handled := none, depth := dp, frames := some fr, guards := gd, units := un } (PySem.call (.ref f) vs) Q E s := by
  refine St.callT (mu₁ := [(F, lstO us c)]) (mu₂ := mu₂) S C hd hu ?_
  rintro v s' tl mu' S' ⟨rfl, vs', c', rfl, hP⟩
  exact h s' tl vs' c' S' hP
end
theorem pintAny {l l' : Led} {vs : List Value} {M : List Int} (h : Paired (IntIn l) vs M) : Paired (IntIn l') vs M := h
end Mine
open Mine

theorem Mine.rules11 : True := by
  k_with "prel" => (((with_reducible show Paired (IntIn _) _ _); (refine' pintAny ?kz; (case kz => assumption))))
  k_with "con" => (((with_reducible show ConM _ _ _ _ _ _ _ _ 104 _ _ _ _); (refine' copied_con ?a1 ?a2 ?a3 ?a4; (case a1 => walk_at "rel"); (case a2 => assumption); (case a3 => walk_at "om"); (case a4 => walk_at "om"))))
  k_with "con" => (((with_reducible show ConT _ _ _ _ _ _ _ _ 150 _ _ _ _ _); (refine' swap_con ?a1 ?a2 ?a3 ?a4; (case a1 => walk_at "prel"); (case a2 => walk_at "om"); (case a3 => walk_at "om"); (case a4 => walk_at "om"))))
  k_with "con" => (((with_reducible show ConT _ _ _ _ _ _ _ _ 155 _ _ _ _ _); (refine' take_con ?a1 ?a2 ?a3 ?a4 ?a5 ?a6 ?a7 ?a8 ?a9 ?b1 ?b2 ?b3; (case a1 => walk_at "prel"); (case a2 => assumption); (case a3 => walk_at "om"); (case a4 => walk_at "om"); (case a5 => walk_at "om"); (case a6 => walk_at "om"); (case a7 => walk_at "rel"); (case a8 => walk_at "rb"); (case a9 => walk_at "rb"); (case b1 => walk_at "rb"); (case b2 => walk_at "om"); (case b3 => walk_at "om"))))
  k_with "call ref" => (((with_reducible show wpAny _ _ (call (Value.ref 104) _) _ _ _); (rename St _ _ _ _ _ _ _ _ _ _ _ _ _ _ _ => kS); k_dflt (refine' St.callM (St.tok kS _) ?kc ?kd ?ku ?_; (case kc => walk_at "con"); (case kd => walk_at "om"); (case ku => walk_at "om")); clear kS; intro D' us' c' s' tl' kS ho'))
  k_with "call ref" => (((first | (with_reducible show wpAny _ _ (call (Value.ref 150) _) _ _ _) | (with_reducible show wpAny _ _ (call (Value.ref 155) _) _ _ _)); (rename St _ _ _ _ _ _ _ _ _ _ _ _ _ _ _ => kS); k_dflt (refine' St.callT1 (St.tok kS _) ?kc ?kd ?ku ?_; (case kc => walk_at "con"); (case kd => walk_at "om"); (case ku => walk_at "om")); clear kS; intro s' tl' us' c' kS ho'))
  k_with "call builtin:len" => (((rename St _ _ _ _ _ _ _ _ _ _ _ _ _ _ _ => kS); k_dflt (first | (refine' St.lenM (R := RowIn) (St.tok kS _) ?k0 ?k1 ?k2 ?_; (case k0 => walk_at "mem"); (case k1 => walk_at "prel"); (case k2 => walk_at "size")) | (refine' St.lenM (R := IntIn) (St.tok kS _) ?k0 ?k1 ?k2 ?_; (case k0 => walk_at "mem"); (case k1 => walk_at "prel"); (case k2 => walk_at "size")) | (refine' St.len (R := RowIn) (St.tok kS _) ?k1 ?k2 ?_; (case k1 => walk_at "rel"); (case k2 => walk_at "om")) | (refine' St.len (R := RatIn) (St.tok kS _) ?k1 ?k2 ?_; (case k1 => walk_at "rel"); (case k2 => walk_at "om")) | (refine' St.len (R := IntIn) (St.tok kS _) ?k1 ?k2 ?_; (case k1 => walk_at "rel"); (case k2 => walk_at "size"))); intro _ _))
  k_with "size" => ((simp only [List.length_map, List.length_set, List.length_append, List.length_cons, List.length_nil]; walk_at "om"))
  k_with "compareOp NotEq" => (((with_reducible show wpAny _ _ (compareOp _ _ (Value.ref 42)) _ _ _); (rename St _ _ _ _ _ _ _ _ _ _ _ _ _ _ _ => kS); k_dflt (refine' St.neZero (St.tok kS _) ?k1 ?k2 ?k3 ?k4 ?_; (case k1 => k_is); (case k2 => k_is); (case k3 => walk_at "rel"); (case k4 => show _ < _; (try dsimp only); walk_at "om"))))
  k_with "call builtin:list.append" => (((rename St _ _ _ _ _ _ _ _ _ _ _ _ _ _ _ => kS); k_dflt (first | (refine' St.append (St.tok kS _) ?km ?_; (case km => walk_at "size")) | (refine' St.append (St.tok (St.muSwap kS) _) ?km ?_; (case km => walk_at "size"))); clear kS; intro s' kS))
  k_with "clo" => (first | exact clo_nil | ((rename St _ _ _ _ _ _ _ _ _ _ _ _ _ _ _ => kS); refine' clo_cons ?a1 ?a2 ?a3 ?a4; (case a1 => intro C; first | exact .inl (by with_unfolding_all rfl) | exact .inr (by with_unfolding_all rfl)); (case a2 => intro C; with_unfolding_all rfl); (case a3 => first | exact kS.cloAt (by walk_at "mem") (by with_unfolding_all rfl) | exact kS.cellAt (by with_unfolding_all walk_at "mem") (by with_unfolding_all rfl) | exact kS.cellAt (by with_unfolding_all walk_at "mem") (by walk_at "km")); (case a4 => walk_at "clo")))
  k_with "subscriptTail" => (((with_reducible show wpAny _ _ (subscriptTail _ _ (Value.ref _) (Value.int _ _)) _ _ _); (rename St _ _ _ _ _ _ _ _ _ _ _ _ _ _ _ => kS); k_dflt (refine' St.item (R := IntIn) (St.tok kS _) ?k1 ?k2 ?k3 ?k5 ?_ ?k4; (case k4 => intro _; with_unfolding_all rfl); (case k1 => walk_at "irel"); (case k5 => walk_at "idx"); (case k2 => walk_at "om"); (case k3 => walk_at "om")); intro v' hv'; refine Exists.elim hv' ?_; clear hv'; intro t9 hv'; subst hv'))
  k_with "irel" => (first | (with_reducible assumption) | (refine' intsSub ?kz subApp; (case kz => walk_at "irel")) | (refine' intsSub ?kz subCons; (case kz => walk_at "irel")))
  k_with "ite" => (k_dflt (first | rw [if_pos (by (try simp only [decide_eq_true_eq, beq_iff_eq, bne_iff_ne]); walk_at "om")] | rw [if_neg (by (try simp only [decide_eq_true_eq, beq_iff_eq, bne_iff_ne]); walk_at "om")]))
  trivial

-- G12
namespace Mine
noncomputable abbrev natsI (l : List Nat) : List Int := l.map fun x : Nat => (x : Int)
theorem swap_first {M : List (List Rat)} {i j : Nat} (hi : i < M.length) (hj : j < M.length) : (swapR M i j).getD i [] = M.getD j [] := by
  unfold swapR
  rw [getD_set _ _ _ (by simpa using hi), getD_set _ _ _ hi]
  by_cases e : j = i
  · rw [if_pos e, e]
  · rw [if_neg e, if_pos rfl]
theorem eb_le {b : Nat} : ∀ {p : Nat}, p < 3 → eb b p ≤ 16 * b + 5
  | 0, _ => by simp only [eb]; walk_at "om"
  | 1, _ => by simp only [eb]; walk_at "om"
  | 2, _ => by simp only [eb]; walk_at "om"
  | _ + 3, h => absurd h (by walk_at "om")
section
variable {w : World} {mean : ExcName → Option Value} {mg mb : Str → Option Value}
theorem ech_con {M : List (List Rat)} {n k b : Nat} {a : Value} {led : Led} (ha : MatIn led a M) (hD : Dim M n k) (h0 : 0 < n) (hn : n ≤ 3) (hk : k ≤ 1000) (hB : RBm b M) (hb : b ≤ 1000) :
    Con (Mine.hd.heap_39 w.params) Mine.view (looseW Mine.view []) mean mg mb PySem.Challenge.rw_sa0086_01.row.prog w 160 [a] 130 led
      (fun l v => ∃ t fv pv c, v = .ref t ∧ (t, tupO [fv, pv] c) ∈ l ∧ MatIn l fv (echTo M k).1 ∧ IntsIn l pv (natsI (echTo M k).2)) := by
  k_fill
  intro s dp un gd fr E Am H hd hu
  obtain ⟨hr, hc⟩ := hD.head h0
  have hrows := hD.rows
  have hbig : big = 1000000 := rfl
  walk_at "enter"
  k_steps
  rename (∀ b ∈ ownOf _ _, _) => hO
  unfold Hold
  refine wpAny_For ?_
  k_steps
  unfold Hold
  rename St _ _ _ _ _ _ _ _ _ _ _ _ _ _ _ => kS
  rename IsRange _ _ _ _ _ _ _ _ => hR
  rename Paired _ _ _ => hP
  refine for_range (n := k) kS hO rfl hR (small_lt (by walk_at "om") (by walk_at "om")) (by walk_at "om") (by walk_at "tgt")
    (fun i m l mu => ∃ F P vs c ws d, m "found" = some (.ref F) ∧ m "pivots" = some (.ref P) ∧ mu = [(P, lstO ws d), (F, lstO vs c)] ∧ Paired (RowIn l) vs (echTo M i).1 ∧ Paired (IntIn l) ws (natsI (echTo M i).2))
    ⟨_, _, _, _, _, _, by walk_at "km", by walk_at "km", rfl, by walk_at "prel", .nil⟩ ?turn ?hR2
  case hR2 =>
    rintro m' tl mu' s' kS' ⟨F, P, vs, c, ws, d, hm1, hm2, rfl, hv, hw⟩
    clear kS hO hR
    dsimp only
    k_steps
    rename St _ _ _ _ _ _ _ _ _ _ _ _ _ _ _ => kS
    refine kS.freeze.freeze.done ⟨_, _, _, _, rfl, .tail _ (.tail _ (.head _)), ⟨_, _, _, rfl, .head _, ?_⟩, ⟨_, _, _, rfl, .tail _ (.head _), hw⟩⟩
    walk_at "prel"
  case turn =>
    clear kS hO hR hP
    rintro i s₀' m₁ t tl mu₁ s₂ E' hi ⟨F, P, vs, c, ws, d, hm1, hm2, rfl, hv, hw⟩ kS hO
    rw [Int.zero_add] at kS
    obtain ⟨hXD, hXB, hXp⟩ := ech_inv hD hB i
    rw [echTo_succ]
    generalize echTo M i = st at *
    obtain ⟨X, piv⟩ := st
    simp only at hv hw hXD hXB hXp
    have hXr := hXD.rows
    have hwl : (natsI piv).length = piv.length := by simp
    have hwsl : ws.length = piv.length := hw.length.trans hwl
    replace kS := kS.muSwap
    refine stop_wp ?_
    k_steps
    rename St _ _ _ _ _ _ _ _ _ _ _ _ _ _ _ => kS
    unfold Hold
    refine comp_asg (n - piv.length) (fun x => decide ((X.getD (piv.length + x) []).getD i 0 ≠ 0)) (fun x l v => IntIn l v ((piv.length + x : Nat) : Int)) (fun _ _ _ _ h => h) ([(F, lstO vs c), (P, lstO ws d)] ++ St.ledOf kS) (by walk_at "om") (by with_unfolding_all rfl) (by with_unfolding_all rfl) (by decide) (by walk_at "hoc") rfl (by decide) (by with_unfolding_all rfl) (by with_unfolding_all rfl) ?hit
    unfold St.ledOf
    have hX : MatIn ([(F, lstO vs c), (P, lstO ws d)] ++ St.ledOf kS) (.ref F) X := ⟨F, vs, c, rfl, .head _, by unfold St.ledOf; walk_at "prel"⟩
    unfold St.ledOf at hX
    k_steps
    rename St _ _ _ _ _ _ _ _ _ _ _ _ _ _ _ => kS
    rename IsRange _ _ _ _ _ _ _ _ => hR
    unfold Hold
    refine comp_rangeA kS hO (by with_unfolding_all rfl) [(Str.ofString "found", .ref F), (Str.ofString "column", .int i t)] rfl hR (small_lt2 (by walk_at "om") (by walk_at "om") (by walk_at "om") (by walk_at "om")) (by walk_at "om") (fun C => by walk_at "tgt") (by walk_at "clo") ?tst ?trn ?hQ
    case tst =>
      clear kS hR
      intro x C m₁ t' tl' s₃ E' hx kS
      rw [hwl, ← Int.natCast_add] at kS
      obtain ⟨hz, hzl⟩ := hXD.at (i := piv.length + x) (by walk_at "om")
      have hz2 := some_getD (xs := X.getD (piv.length + x) []) (d := (0:Rat)) (show i < (X.getD (piv.length + x) []).length by walk_at "om")
      refine wpAny_tests_one (Q := fun ok s₄ => Hold (ok = _ ∧ Keeps s₃ s₄)) ?_
      k_steps
      rename St _ _ _ _ _ _ _ _ _ _ _ _ _ _ _ => kS
      exact ⟨rfl, kS.keeps⟩
    case trn =>
      clear kS hR
      intro x C m₁ t' tl' s₃ E' hx hpf kS
      rw [hwl, ← Int.natCast_add] at kS
      k_steps
      rename St _ _ _ _ _ _ _ _ _ _ _ _ _ _ _ => kS
      exact kS.done ⟨_, rfl⟩
    case hQ =>
      clear kS hR
      intro D us c' s' tl' kS hsp
      rw [hwl] at kS
      replace kS := kS.freeze
      have hsp2 : us.length = (spotsR X piv.length i).length := by rw [← hsp.length]; unfold spotsR; rw [hXr]
      have hS : IntsIn (St.ledOf kS) (.ref D) ((spotsR X piv.length i).map fun x => ((piv.length + x : Nat) : Int)) := ⟨D, us, c', rfl, .head _, by
        unfold spotsR; rw [hXr]
        exact paired_range (G := fun (v : Value) (j : Int) => IntIn led v j) (fun x => ((piv.length + x : Nat) : Int)) (fun x y h => h) hsp⟩
      have hSn : (spotsR X piv.length i).length ≤ n := by unfold spotsR; exact Nat.le_trans (List.length_filter_le _ _) (by rw [List.length_range]; walk_at "om")
      unfold St.ledOf at hS
      obtain ⟨zs, hzs⟩ : ∃ zs, zs = (spotsR X piv.length i).map fun x => ((piv.length + x : Nat) : Int) := ⟨_, rfl⟩
      have hzl : zs.length = (spotsR X piv.length i).length := by rw [hzs, List.length_map]
      rw [← hzs] at hS
      unfold echStep
      dsimp only
      clear hsp hsp2
      split
      · rename_i hs0
        rw [hs0] at hzl hSn
        replace hzl : zs.length = 0 := hzl
        k_steps
        rename St _ _ _ _ _ _ _ _ _ _ _ _ _ _ _ => kS
        refine Stop.mk ?_
        refine ⟨.inr rfl, ?_⟩
        refine ⟨_, _, _, St.muSwap (St.tok kS _), ?_⟩
        exact ⟨F, P, vs, c, ws, d, by walk_at "km", by walk_at "km", rfl, by walk_at "prel", pintAny hw⟩
      · rename_i i0 l0 hs0
        obtain ⟨hlt, hnz⟩ := spots_lt hs0
        rw [hs0] at hzl hSn hzs
        rw [List.length_cons] at hzl hSn
        have hz0 : zs[0]? = some ((piv.length + i0 : Nat) : Int) := by rw [hzs]; rfl
        clear hzs
        have hL1 := dim_swap (i := piv.length) (j := piv.length + i0) hXD (by walk_at "om") (by walk_at "om")
        have hL2 := hL1.rows
        obtain ⟨hL3, hL4⟩ := hL1.at (i := piv.length) (by walk_at "om")
        have hL5 := some_getD (xs := (swapR X piv.length (piv.length + i0)).getD piv.length []) (d := (0:Rat)) (show i < _ by walk_at "om")
        have hL9 : ((swapR X piv.length (piv.length + i0)).getD piv.length []).getD i 0 ≠ 0 := by rw [swap_first (by walk_at "om") (by walk_at "om")]; exact hnz
        have hL6 := rb_swap (i := piv.length) (j := piv.length + i0) hXB
        have hL7 : 64 * b + 21 ≤ big := by walk_at "om"
        have hL8 : eb b piv.length ≤ 16 * b + 5 := by exact eb_le (by walk_at "om")
        k_steps
        rename St _ _ _ _ _ _ _ _ _ _ _ _ _ _ _ => kS
        rename RatIn _ _ (List.getD (List.getD (swapR _ _ _) _ _) _ _) => hlead
        rename Paired _ _ (swapR _ _ _) => hsw
        have hswl := hsw.length
        unfold Hold
        (with_reducible refine wpAny_Assign_Subscript ?_ ?_; rotate_left; with_unfolding_all rfl)
        refine comp_pure k (fun _ => true) (fun a l v => RatIn l v (((swapR X piv.length (piv.length + i0)).getD piv.length []).getD a 0 / ((swapR X piv.length (piv.length + i0)).getD piv.length []).getD i 0)) (fun _ _ _ _ h => h.sub subApp) (St.ledOf kS) (by walk_at "om") (by with_unfolding_all rfl) (by decide) (by walk_at "hoc") rfl (by decide) ?hit3
        unfold St.ledOf
        k_steps
        rename St _ _ _ _ _ _ _ _ _ _ _ _ _ _ _ => kS
        rename RowIn _ _ (List.getD (swapR _ _ _) _ _) => hrow
        unfold Hold
        refine comp_list kS [(Str.ofString "lead", _)] rfl hrow hL4 (fun C => by walk_at "tgt") (by walk_at "clo") (by intros; exact tests_nil) ?turn3 ?hQ3
        case turn3 =>
          clear kS
          intro x C m₁ y v tl3 s₃ E' hx _ hy hR kS
          have e1 := getD_of (d := (0 : Rat)) hy
          have : RB big y := (e1 ▸ (hL6.at piv.length).at x).mono (by walk_at "om")
          have : RB big (((swapR X piv.length (piv.length + i0)).getD piv.length []).getD i 0) := ((hL6.at piv.length).at i).mono (by walk_at "om")
          k_steps
          rename St _ _ _ _ _ _ _ _ _ _ _ _ _ _ _ => kS
          refine kS.done ?_
          rw [e1]; assumption
        case hQ3 =>
          clear kS
          intro D3 us3 c3 s3 tl3 kS hP3
          have hrow3 : RowIn ((D3, lstO us3 c3) :: St.ledOf kS) (.ref D3) (divRow ((swapR X piv.length (piv.length + i0)).getD piv.length []) (((swapR X piv.length (piv.length + i0)).getD piv.length []).getD i 0)) := by
            refine ⟨D3, us3, c3, rfl, .head _, ?_⟩
            rw [filter_true] at hP3
            unfold divRow St.ledOf
            rw [← map_range_getD (fun x => x / ((swapR X piv.length (piv.length + i0)).getD piv.length []).getD i 0) 0, hL4]
            exact paired_range _ (fun i y h => h.sub subCons) hP3
          unfold St.ledOf at hrow3
          replace kS := kS.freeze
          k_steps
          rename St _ _ _ _ _ _ _ _ _ _ _ _ _ _ _ => kS
          have hND := dim_piv (col := i) hXD (show piv.length + i0 < n by walk_at "om")
          have hN : Paired (RowIn (St.ledOf kS)) _ (pivR X piv.length i0 i) := paired_set (k := piv.length) (by unfold St.ledOf; walk_at "rel") (by unfold St.ledOf; walk_at "prel")
          unfold St.ledOf at hN
          unfold Hold
          refine wpAny_For ?_
          have hND2 := hND.rows
          k_steps
          unfold Hold
          rename St _ _ _ _ _ _ _ _ _ _ _ _ _ _ _ => kS
          rename IsRange _ _ _ _ _ _ _ _ => hR
          refine for_range (n := n) kS hO rfl hR (small_lt (by walk_at "om") (by walk_at "om")) (by walk_at "om") (by walk_at "tgt")
            (fun x m l mu => ∃ vs' c', m "found" = some (.ref F) ∧ m "pivots" = some (.ref P) ∧ (∃ t, m "row" = some (.int piv.length t)) ∧ m "column" = some (.int i t) ∧ mu = [(F, lstO vs' c'), (P, lstO ws d)] ∧ Paired (RowIn l) vs' (clrTo (pivR X piv.length i0 i) piv.length i x))
            ⟨_, _, by walk_at "km", by walk_at "km", ⟨_, by walk_at "km"⟩, by walk_at "km", rfl, by rw [clrTo_zero]; walk_at "prel"⟩ ?turn4 ?hR4
          case hR4 =>
            clear kS hR
            rintro m4 tl4 mu4 s4 kS ⟨vs4, c4, hm1, hm2, ⟨t4, hm3⟩, hm4, rfl, hv4⟩
            dsimp only
            k_steps
            rename St _ _ _ _ _ _ _ _ _ _ _ _ _ _ _ => kS
            refine Stop.mk ⟨.inl rfl, ?_⟩
            refine ⟨_, _, _, kS, ?_⟩
            refine ⟨F, P, vs4, c4, _, _, by walk_at "km", by walk_at "km", rfl, ?_, ?_⟩
            · rw [hND2]; walk_at "prel"
            · simp only [natsI, List.map_append]
              exact Paired.snoc (pintAny hw) ⟨_, rfl⟩
          case turn4 =>
            clear kS hR
            rintro x s5 m4 t5 tl4 mu4 s4 E4 hx ⟨vs4, c4, hm1, hm2, ⟨t4, hm3⟩, hm4, rfl, hv4⟩ kS hO4
            rw [Int.zero_add] at kS
            have hCD := dim_clr (row := piv.length) (col := i) (i := x) hND
            have hCr := hCD.rows
            obtain ⟨hC1, hC2⟩ := hCD.at (i := x) hx
            have hC3 := some_getD (xs := (clrTo (pivR X piv.length i0 i) piv.length i x).getD x []) (d := (0:Rat)) (show i < _ by walk_at "om")
            have hNl : x < (pivR X piv.length i0 i).length := by walk_at "om"
            have hNl2 : piv.length < (pivR X piv.length i0 i).length := by walk_at "om"
            refine stop_wp ?_
            by_cases hxp : x = piv.length
            · k_steps
              rename St _ _ _ _ _ _ _ _ _ _ _ _ _ _ _ => kS
              refine Stop.mk ⟨.inl rfl, ?_⟩
              refine ⟨_, _, _, St.tok kS _, ?_⟩
              exact ⟨vs4, c4, by walk_at "km", by walk_at "km", ⟨t4, by walk_at "km"⟩, by walk_at "km", rfl, by rw [clrTo_no (fun h => h.1 hxp)]; walk_at "prel"⟩
            · have hB1 : RBr (eb b piv.length) ((clrTo (pivR X piv.length i0 i) piv.length i x).getD x []) := by
                rw [clrTo_self hNl, piv_other hXD (by walk_at "om") hx hxp]; exact hL6.at x
              have hB2 : RBr (eb b piv.length + eb b piv.length) ((clrTo (pivR X piv.length i0 i) piv.length i x).getD piv.length []) := by
                rw [clrTo_row hNl2, piv_row hXD (by walk_at "om")]; exact rbr_div (hL6.at piv.length) ((hL6.at piv.length).at i)
              have hB3 := hB1.at i
              k_steps
              · rename St _ _ _ _ _ _ _ _ _ _ _ _ _ _ _ => kS
                rename Paired _ _ (takeR _ _ _ _) => ht
                refine Stop.mk ⟨.inl rfl, ?_⟩
                refine ⟨_, _, _, kS, ?_⟩
                refine ⟨_, _, by walk_at "km", by walk_at "km", ⟨t4, by walk_at "km"⟩, by walk_at "km", rfl, ?_⟩
                rw [clrTo_yes hNl2 hNl hxp (by rw [← clrTo_self (row := piv.length) (col := i) hNl]; assumption)]
                walk_at "prel"
              · rename St _ _ _ _ _ _ _ _ _ _ _ _ _ _ _ => kS
                refine Stop.mk ⟨.inl rfl, ?_⟩
                refine ⟨_, _, _, St.tok kS _, ?_⟩
                refine ⟨vs4, c4, by walk_at "km", by walk_at "km", ⟨t4, by walk_at "km"⟩, by walk_at "km", rfl, ?_⟩
                rw [clrTo_no (fun h => ?_)]
                · walk_at "prel"
                · rename ¬ (List.getD (List.getD (clrTo _ _ _ _) _ _) _ _ ≠ (0 : Rat)) => hq0
                  rw [clrTo_self hNl] at hq0
                  exact hq0 h.2
end
end Mine

-- Lst5
namespace Mine
open Sem (wp)
theorem intsAre_of {l : Led} : ∀ {vs : List Value} {ns : List Int}, Paired (IntIn l) vs ns → IntsAre vs ns
  | _, _, .nil => .nil
  | _, _, .cons ⟨t, e⟩ r => by subst e; exact .cons _ _ (intsAre_of r)
theorem paired_of_get {α β : Type} {F : α → β → Prop} : ∀ {l₁ : List α} {l₂ : List β}, l₁.length = l₂.length → (∀ (j : Nat) a b, l₁[j]? = some a → l₂[j]? = some b → F a b) → Paired F l₁ l₂
  | [], [], _, _ => .nil
  | [], _ :: _, h, _ => nomatch h
  | _ :: _, [], h, _ => nomatch h
  | a :: l₁, b :: l₂, h, f => .cons (f 0 a b rfl rfl) (paired_of_get (by simpa using h) fun j x y hx hy => f (j + 1) x y (by simpa using hx) (by simpa using hy))
section
variable {K : Frag} {p : Program} {loose : List Str} {mean : ExcName → Option Value} {mg mb : Str → Option Value} {s₀ : Shared} {led₀ : Led} {env : Env} {oc : List (Str × Addr)} {cl : List (Str × Value)} {m : Str → Option Value} {led mu : Led} {s : Shared}
  {A : Around} {E : Value → Shared → Prop} {prog : Program} {w : World} {x : Str} {v : Value} {pos : Pos}
theorem St.push (S : St K p loose mean mg mb s₀ led₀ env oc cl m led mu s) (o : Obj) : St K p loose mean mg mb s₀ led₀ env oc cl m led mu { s with heap := s.heap.push o } :=
  S.made (tl := []) (Ext.push _ _) Has.nil Fresh.nil
/-- a slice of a list, any ends -/
theorem St.slice {l : Addr} {vs : List Value} {vl vu : Value} {lo hi : Option Int} {value slice : Expr} {Q : Value → Shared → Prop} (S : St K p loose mean mg mb s₀ led₀ env oc cl m led mu s) (hl : s.heap.IsList l vs.toArray) (hsz : vs.length ≤ 100000)
    (pl : IsPart vl lo) (pu : IsPart vu hi)
    (h : ∀ D s', St K p loose mean mg mb s₀ led₀ env oc cl m led ((D, lstO (slicePick vs.toArray lo hi none).toList 0) :: mu) s' → Q (.ref D) s')
    (hs : subscripted slice false (.ref l) (.ref s.heap.objs.size) = operate [.ref s.heap.objs.size, .ref l] (getItem (.ref l) (.ref s.heap.objs.size))) (ht : ∀ r, letTemporaryGo value (.ref l) r = pure ()) :
    wpAny (model prog w) A (subscriptTail value slice (.ref l) (.ref s.heap.objs.size)) Q E { s with heap := s.heap.push { cls := .type "slice", data := .fields #[vl, vu, .none] } } := by
  refine subscriptTail_ops (Heap.IsList.typeIs (s := { s with heap := s.heap.push { cls := .type "slice", data := .fields #[vl, vu, .none] } }) (hl.push _)) list_getitem_lookup
    (wpAny_getItem_list_slice (hl.push _) (Heap.IsSliceOf.new ..) pl pu .none (by simp) ?_ (by rw [sizeLine_eq, List.size_toArray]; walk_at "om")) hs ht
  refine h _ _ (St.grow (tk := s.toks) (S.push _) (Ext.push _ _) ?_ (fresh_size _ (Nat.le_refl _)))
  rw [Heap.get?_push_size _ rfl]
theorem St.sliceFrom {α : Type} {R : Led → Value → α → Prop} {xs : List α} {k : Nat} {t : Tok} {lv : Value} {value slice : Expr} {Q : Value → Shared → Prop} (S : St K p loose mean mg mb s₀ led₀ env oc cl m led mu s) (hq : SeqIn R led lv xs) (hsz : xs.length ≤ 100000)
    (h : ∀ D ws c s', St K p loose mean mg mb s₀ led₀ env oc cl m led ((D, lstO ws c) :: mu) s' → Paired (R led) ws (xs.drop k) → Q (.ref D) s')
    (hs : ∀ l, subscripted slice false (.ref l) (.ref s.heap.objs.size) = operate [.ref s.heap.objs.size, .ref l] (getItem (.ref l) (.ref s.heap.objs.size))) (ht : ∀ l r, letTemporaryGo value (.ref l) r = pure ()) :
    wpAny (model prog w) A (subscriptTail value slice lv (.ref s.heap.objs.size)) Q E { s with heap := s.heap.push { cls := .type "slice", data := .fields #[.int k t, .none, .none] } } := by
  obtain ⟨a, vs, c, rfl, hm, hp⟩ := hq
  have hl := hp.length
  refine S.slice (S.isLst hm) (by walk_at "om") (.int (k : Int) t) .none (fun D s' S' => h D _ _ s' S' ?_) (hs a) (ht a)
  rw [slicePick_from]
  exact paired_drop hp k
theorem St.sliceUpto {α : Type} {R : Led → Value → α → Prop} {xs : List α} {k : Nat} {t : Tok} {lv : Value} {value slice : Expr} {Q : Value → Shared → Prop} (S : St K p loose mean mg mb s₀ led₀ env oc cl m led mu s) (hq : SeqIn R led lv xs) (hsz : xs.length ≤ 100000)
    (h : ∀ D ws c s', St K p loose mean mg mb s₀ led₀ env oc cl m led ((D, lstO ws c) :: mu) s' → Paired (R led) ws (xs.take k) → Q (.ref D) s')
    (hs : ∀ l, subscripted slice false (.ref l) (.ref s.heap.objs.size) = operate [.ref s.heap.objs.size, .ref l] (getItem (.ref l) (.ref s.heap.objs.size))) (ht : ∀ l r, letTemporaryGo value (.ref l) r = pure ()) :
    wpAny (model prog w) A (subscriptTail value slice lv (.ref s.heap.objs.size)) Q E { s with heap := s.heap.push { cls := .type "slice", data := .fields #[.none, .int k t, .none] } } := by
  obtain ⟨a, vs, c, rfl, hm, hp⟩ := hq
  have hl := hp.length
  refine S.slice (S.isLst hm) (by walk_at "om") .none (.int (k : Int) t) (fun D s' S' => h D _ _ s' S' ?_) (hs a) (ht a)
  rw [slicePick_all]
  exact paired_take hp k
theorem St.listRange {n : Nat} {r : Addr} {t u v : Tok} {Q : Value → Shared → Prop} (S : St K p loose mean mg mb s₀ led₀ env oc cl m led mu s) (hh : A.handled = none) (hr : IsRange s.heap r 0 (n : Int) 1 t u v) (hn : n ≤ 1000)
    (h : ∀ D ws c s', St K p loose mean mg mb s₀ led₀ env oc cl m led ((D, lstO ws c) :: mu) s' → Paired (IntIn led) ws (natsI (List.range n)) → Q (.ref D) s') :
    wpAny (model prog w) A (PySem.call (.type "list") [.ref r]) Q E s := by
  refine call_list_range (n := n) hh hr (small_lt (by walk_at "om") (by walk_at "om")) (by rw [rangeSize_one]; split <;> walk_at "om") (by walk_at "om") fun h' tk acc c hk hS hacc => ?_
  obtain ⟨acc⟩ := acc
  refine h _ acc c _ (S.grow (tk := tk) hk hS (fresh_size _ (Nat.le_refl _))) ?_
  refine paired_of_get (by simpa using hacc.1) fun j v y hj hy => ?_
  have hy2 : y = (j : Int) := by
    have hjn : j < n := by have := (List.getElem?_eq_some_iff.mp hy).1; simpa using this
    simp [natsI, hjn] at hy
    exact hy.symm
  subst hy2
  obtain ⟨t, e⟩ := hacc.2 j v (by simpa using hj)
  exact ⟨t, by rw [e]; simp⟩
theorem St.neInts {a b : Addr} {vs us : List Value} {ns ms : List Int} {Q : Value → Shared → Prop} (_ : St K p loose mean mg mb s₀ led₀ env oc cl m led mu s) (hl : s.heap.IsList a vs.toArray) (hi : Paired (IntIn led) vs ns) (hl' : s.heap.IsList b us.toArray) (hi' : Paired (IntIn led) us ms)
    (hu : A.units + 64 < cLine) (h : Q (.bool (!decide (ns = ms))) s) : wpAny (model prog w) A (compareOp .NotEq (.ref a) (.ref b)) Q E s :=
  ne_intsK hl (intsAre_of hi) hl' (intsAre_of hi') hu h
theorem St.eqInts {a b : Addr} {vs us : List Value} {ns ms : List Int} {Q : Value → Shared → Prop} (_ : St K p loose mean mg mb s₀ led₀ env oc cl m led mu s) (hl : s.heap.IsList a vs.toArray) (hi : Paired (IntIn led) vs ns) (hl' : s.heap.IsList b us.toArray) (hi' : Paired (IntIn led) us ms)
    (hu : A.units + 64 < cLine) (h : Q (.bool (decide (ns = ms))) s) : wpAny (model prog w) A (compareOp .Eq (.ref a) (.ref b)) Q E s :=
  eq_intsK hl (intsAre_of hi) hl' (intsAre_of hi') hu h
end
end Mine

-- G13
namespace Mine
noncomputable def wideR (M : List (List Rat)) (n : Nat) : List (List Rat) := (List.range n).map fun i => M.getD i [] ++ (unitR n).getD i []
theorem dim_wide {M : List (List Rat)} {n : Nat} (h : Dim M n n) : Dim (wideR M n) n (2 * n) := ⟨by simp [wideR], fun r hr => by
  unfold wideR at hr
  obtain ⟨i, hi, rfl⟩ := List.mem_map.mp hr
  have hi' := List.mem_range.mp hi
  rw [List.length_append, (h.at hi').2, ((dim_unit n).at hi').2]; walk_at "om"⟩
theorem rb_wide {M : List (List Rat)} {n b : Nat} (h : RBm b M) : RBm b (wideR M n) := fun r hr => by
  unfold wideR at hr
  obtain ⟨i, hi, rfl⟩ := List.mem_map.mp hr
  intro x hx
  rcases List.mem_append.mp hx with hx | hx
  · exact h.at i x hx
  · exact (rb_unit n b).at i x hx
theorem natsI_inj {a b : List Nat} (h : natsI a = natsI b) : a = b := by
  unfold natsI at h
  induction a generalizing b with
  | nil => cases b with
    | nil => rfl
    | cons _ _ => simp at h
  | cons x a ih => cases b with
    | nil => simp at h
    | cons y b =>
      simp only [List.map_cons, List.cons.injEq] at h
      rw [ih h.2, Int.ofNat.inj h.1]
theorem take_nats {l : List Nat} {n : Nat} (h : List.take n (natsI l) = natsI (List.range n)) : l.take n = List.range n := natsI_inj (by rw [← h, natsI, natsI, List.map_take])
theorem nats_take {l : List Nat} {n : Nat} (h : l.take n = List.range n) : List.take n (natsI l) = natsI (List.range n) := by rw [← h, natsI, natsI, List.map_take]
theorem Made.imp {s s' : Shared} {led : Led} {O O' : Led → Value → Prop} {v : Value} (h : Made s led O v s') (f : ∀ l v, O l v → O' l v) : Made s led O' v s' :=
  let ⟨a, b, c, d, e, f1, g, o⟩ := h; ⟨a, b, c, d, e, f1, g, f _ _ o⟩
theorem pratApp {l t : Led} {vs : List Value} {M : List Rat} (h : Paired (RatIn l) vs M) : Paired (RatIn (t ++ l)) vs M := Paired.imp (fun _ _ h => RatIn.sub h subApp) h
theorem pratCons {l : Led} {q : Addr × Obj} {vs : List Value} {M : List Rat} (h : Paired (RatIn l) vs M) : Paired (RatIn (q :: l)) vs M := Paired.imp (fun _ _ h => RatIn.sub h subCons) h
end Mine
open Mine
theorem Mine.rules12 : True := by
  k_with "binaryOp Add" => (((with_reducible show wpAny _ _ (binaryOp _ (Value.ref _) _) _ _ _); (rename St _ _ _ _ _ _ _ _ _ _ _ _ _ _ _ => kS); k_dflt (first | (refine' St.addLists (R := RatIn) (St.tok kS _) ?k1 ?k2 ?k3 ?k4 ?k5 ?_; (case k1 => walk_at "mem"); (case k2 => walk_at "prat"); (case k3 => walk_at "rel"); (case k4 => walk_at "om"); (case k5 => walk_at "om")) | (refine' St.addLists (R := IntIn) (St.tok kS _) ?k1 ?k2 ?k3 ?k4 ?k5 ?_; (case k1 => walk_at "mem"); (case k2 => walk_at "prel"); (case k3 => walk_at "irel"); (case k4 => walk_at "size"); (case k5 => walk_at "size"))); clear kS; intro D' s' us' kS hw'))
  k_with "subscriptTail" => (((with_reducible show wpAny _ _ (subscriptTail _ (Expr.Slice (some _) none none _) _ (Value.ref _)) _ _ _); (rename St _ _ _ _ _ _ _ _ _ _ _ _ _ _ _ => kS); k_dflt (first | (refine' St.sliceFrom (R := RatIn) (St.tok kS _) ?k1 ?k2 ?_ ?k3 ?k4; (case k3 => intro _; with_unfolding_all rfl); (case k4 => intro _ _; with_unfolding_all rfl); (case k1 => walk_at "rel"); (case k2 => walk_at "size"))); clear kS; intro D' us' c' s' kS hw'))
  k_with "subscriptTail" => (((with_reducible show wpAny _ _ (subscriptTail _ (Expr.Slice none (some _) none _) _ (Value.ref _)) _ _ _); (rename St _ _ _ _ _ _ _ _ _ _ _ _ _ _ _ => kS); k_dflt (first | (refine' St.sliceUpto (R := IntIn) (St.tok kS _) ?k1 ?k2 ?_ ?k3 ?k4; (case k3 => intro _; with_unfolding_all rfl); (case k4 => intro _ _; with_unfolding_all rfl); (case k1 => walk_at "irel"); (case k2 => walk_at "size"))); clear kS; intro D' us' c' s' kS hw'))
  k_with "call type:list" => (((with_reducible show wpAny _ _ (call (Value.type _) [Value.ref _]) _ _ _); (rename St _ _ _ _ _ _ _ _ _ _ _ _ _ _ _ => kS); (rename IsRange _ _ _ _ _ _ _ _ => hRg'); k_dflt (refine' St.listRange (St.tok kS _) rfl ?k1 ?k2 ?_; (case k1 => exact hRg'); (case k2 => walk_at "om")); clear kS hRg'; intro D' us' c' s' kS hw'))
  k_with "isl" => (first | exact St.isLstM (by assumption) (by walk_at "mem") | exact St.isLst (by assumption) (by walk_at "mem"))
  k_with "compareOp NotEq" => (((with_reducible show wpAny _ _ (compareOp _ (Value.ref _) (Value.ref _)) _ _ _); (rename St _ _ _ _ _ _ _ _ _ _ _ _ _ _ _ => kS); k_dflt (refine' St.neInts (St.tok kS _) ?k1 ?k2 ?k3 ?k4 ?k5 ?_; (case k1 => walk_at "isl"); (case k2 => walk_at "prel"); (case k3 => walk_at "isl"); (case k4 => walk_at "prel"); (case k5 => show _ < _; (try dsimp only); walk_at "om"))))
  k_with "prat" => (first | assumption | (refine' pratApp ?kz; (case kz => walk_at "prat")) | (refine' pratCons ?kz; (case kz => walk_at "prat")))
  k_with "con" => (((with_reducible show Con _ _ _ _ _ _ _ _ 160 _ _ _ _); (refine' ech_con ?a1 ?a2 ?a3 ?a4 ?a5 ?a6 ?a7; (case a1 => walk_at "rel"); (case a2 => assumption); (case a3 => walk_at "om"); (case a4 => walk_at "om"); (case a5 => walk_at "om"); (case a6 => walk_at "rb"); (case a7 => walk_at "om"))))
  trivial
namespace Mine
section
variable {w : World} {mean : ExcName → Option Value} {mg mb : Str → Option Value}
theorem inv_con {M : List (List Rat)} {n b : Nat} {a : Value} {led : Led} (ha : MatIn led a M) (hD : Dim M n n) (h0 : 0 < n) (hn : n ≤ 3) (hB : RBm b M) (hb : b ≤ 1000) :
    Con (Mine.hd.heap_39 w.params) Mine.view (looseW Mine.view []) mean mg mb PySem.Challenge.rw_sa0086_01.row.prog w 165 [a] 140 led
      (fun l v => if (echTo (wideR M n) (2 * n)).2.take n = List.range n then MatIn l v ((echTo (wideR M n) (2 * n)).1.map fun r => r.drop n) else v = .none) := by
  k_fill
  intro s dp un gd fr E Am H hd hu
  obtain ⟨hr, hc⟩ := hD.head h0
  have hrows := hD.rows
  have hbig : big = 1000000 := rfl
  walk_at "enter"
  k_steps
  rename St _ _ _ _ _ _ _ _ _ _ _ _ _ _ _ => kS
  rename (∀ b ∈ ownOf _ _, _) => hO
  unfold Hold
  replace kS := kS.base
  refine comp_asg n (fun _ => true) (fun i l v => RowIn l v (M.getD i [] ++ (unitR n).getD i [])) (fun _ _ _ _ h => rowSub h subApp) ([] ++ St.ledOf kS) (by walk_at "om") (by with_unfolding_all rfl) (by with_unfolding_all rfl) (by decide) (by walk_at "hoc") rfl (by decide) (by with_unfolding_all rfl) (by with_unfolding_all rfl) ?hit
  unfold St.ledOf
  k_steps
  rename St _ _ _ _ _ _ _ _ _ _ _ _ _ _ _ => kS
  unfold Hold
  refine comp_enumA kS hO (by with_unfolding_all rfl) [(Str.ofString "n", .int M.length _)] rfl ha hrows (fun C => ⟨by walk_at "tgt", by walk_at "tgt"⟩) (by walk_at "clo") (by intros; exact tests_nil) ?turn ?hQ
  case turn =>
    clear kS
    intro i C m₁ y v t tl s₃ E' hi _ hy hR kS
    have e1 := getD_of (d := ([] : List Rat)) hy
    have hyl := hD.cols y (List.mem_of_getElem? hy)
    obtain ⟨hU1, hU2⟩ := (dim_unit M.length).at (i := i) (by walk_at "om")
    k_steps
    rename St _ _ _ _ _ _ _ _ _ _ _ _ _ _ _ => kS
    rename Paired _ _ (_ ++ _) => hw
    refine kS.freeze.done ⟨_, _, _, rfl, .head _, ?_⟩
    rw [e1, ← hrows]
    exact pratCons hw
  case hQ =>
    intro D us c s' tl kS' hP
    clear kS
    replace kS := kS'.freeze
    clear kS'
    have hW : MatIn (St.ledOf kS) (.ref D) (wideR M n) := ⟨D, us, c, rfl, .head _, by
      rw [filter_true] at hP
      exact paired_range _ (fun i y h => rowSub h (fun q hq => List.mem_cons_of_mem _ hq)) hP⟩
    unfold St.ledOf at hW
    have hWD := dim_wide hD
    have hWB := rb_wide (n := n) hB
    clear hP
    k_steps
    rename Exists _ => ho
    obtain ⟨t1, fv, pv, c1, rfl, hm, hf, hp⟩ := ho
    obtain ⟨h1, h2, h3⟩ := ech_inv hWD hWB (2 * n)
    k_steps
    · rename St _ _ _ _ _ _ _ _ _ _ _ _ _ _ _ => kS
      rename List.take _ _ = _ => hpv
      unfold Hold
      refine comp_pure n (fun _ => true) (fun i l v => RowIn l v (((echTo (wideR M n) (2 * n)).1.getD i []).drop n)) (fun _ _ _ _ h => rowSub h subApp) (St.ledOf kS) (by walk_at "om") (by with_unfolding_all rfl) (by decide) (by walk_at "hoc") rfl (by decide) ?hit2
      unfold St.ledOf
      k_steps
      rename St _ _ _ _ _ _ _ _ _ _ _ _ _ _ _ => kS
      unfold Hold
      refine comp_list kS [(Str.ofString "n", .int M.length _)] rfl hf h1.rows (fun C => by walk_at "tgt") (by walk_at "clo") (by intros; exact tests_nil) ?turn2 ?hQ2
      case hQ2 => exact fun _ _ _ _ _ kS' hP => (kS'.doneMat (xs := (echTo (wideR M n) (2 * n)).1.map fun r => r.drop n) hP (by have h9 := map_range_getD (fun r => r.drop n) [] (echTo (wideR M n) (2 * n)).1; rw [h1.rows] at h9; exact h9)).imp fun l v h => by rw [if_pos (take_nats (hrows ▸ hpv))]; exact h
      case turn2 =>
        clear kS
        intro j C m₁ x v tl s₃ E' hj _ hx hR kS
        have e2 := getD_of (d := ([] : List Rat)) hx
        have hxl := h1.cols x (List.mem_of_getElem? hx)
        k_steps
        rename St _ _ _ _ _ _ _ _ _ _ _ _ _ _ _ => kS
        rename Paired _ _ (List.drop _ _) => hw
        refine kS.freeze.done ⟨_, _, _, rfl, .head _, ?_⟩
        rw [e2, ← hrows]
        exact pratCons hw
    · rename St _ _ _ _ _ _ _ _ _ _ _ _ _ _ _ => kS
      rename ¬ List.take _ _ = _ => hpv
      refine (St.tok kS _).done ?_
      rw [if_neg (fun h => hpv (by rw [hrows]; exact nats_take h))]
end
end Mine

-- G14
namespace Mine
theorem paired_drop1 {α β : Type} {F : α → β → Prop} : ∀ {l₁ : List α} {l₂ : List β}, Paired F l₁ l₂ → Paired F l₁.tail l₂.tail
  | _, _, .nil => .nil
  | _, _, .cons _ t => t
section
variable {K : Frag} {p : Program} {loose : List Str} {mean : ExcName → Option Value} {mg mb : Str → Option Value} {s₀ : Shared} {led₀ : Led} {env : Env} {oc : List (Str × Addr)} {cl : List (Str × Value)} {m : Str → Option Value} {led mu : Led} {s : Shared}
  {A : Around} {E : Value → Shared → Prop} {prog : Program} {w : World} {x : Str} {v : Value} {pos : Pos}
theorem St.perm {mu' : Led} (S : St K p loose mean mg mb s₀ led₀ env oc cl m led mu s) (h : mu.Perm mu') : St K p loose mean mg mb s₀ led₀ env oc cl m led mu' s :=
  ⟨S.amb, S.same, S.ext, S.frm, S.clo, S.has, S.new, fun q hq => S.muh q (h.mem_iff.mpr hq), fun q hq => S.muf q (h.mem_iff.mpr hq), (h.map _).nodup_iff.mp S.mun⟩
theorem St.itemRaw {F : Addr} {vs : List Value} {c : Nat} {k : Int} {u : Tok} {value slice : Expr} {y : Value} {Q : Value → Shared → Prop} (S : St K p loose mean mg mb s₀ led₀ env oc cl m led mu s) (hm : (F, lstO vs c) ∈ mu) (h0 : 0 ≤ k) (hk : k < 2 ^ 63)
    (hx : vs[k.toNat]? = some y) (h : Q y s) (hs : ∀ a, subscripted slice false (.ref a) (.int k u) = operate [.ref a, .int k u] (getItem (.ref a) (.int k u)) := by intro _; with_unfolding_all rfl) :
    wpAny (model prog w) A (subscriptTail value slice (.ref F) (.int k u)) Q E s := item_litK (S.isLstM hm) h0 hk hx h (hs F)
end
end Mine
open Mine
theorem Mine.rules13 : True := by
  k_with "subscriptTail" => (((with_reducible show wpAny _ _ (subscriptTail _ _ (Value.ref _) (Value.int _ _)) _ _ _); (rename St _ _ _ _ _ _ _ _ _ _ _ _ _ _ _ => kS); k_dflt (refine' St.itemRaw (St.tok kS _) ?k6 ?k2 ?k3 ?k5 ?_ ?k4; (case k4 => intro _; with_unfolding_all rfl); (case k6 => walk_at "mem"); (case k5 => rfl); (case k2 => walk_at "om"); (case k3 => walk_at "om"))))
  k_with "prel" => ((with_reducible exact Paired.nil))
  trivial
namespace Mine
section
variable {w : World} {mean : ExcName → Option Value} {mg mb : Str → Option Value}
noncomputable abbrev boxO (B I : Addr) (k : Int) (t : Tok) (c : Nat) (vs : List Value) (c' : Nat) : Led := [(B, lstO [.ref I, .int k t] c), (I, lstO vs c')]
theorem ltake_con {B I : Addr} {k many : Int} {t tm : Tok} {c c' : Nat} {vs : List Value} {ns : List Int} {led : Led} (hv : Paired (IntIn led) vs ns) (hn : ns.length ≤ 100) (hk : 0 ≤ k) (hk2 : k ≤ 1000) (hm0 : 0 < many) (hm2 : many ≤ 100) :
    ConT (Mine.hd.heap_39 w.params) Mine.view (looseW Mine.view []) mean mg mb PySem.Challenge.rw_sa0086_01.row.prog w 179 [.ref B, .int many tm] 110 led (boxO B I k t c vs c')
      (fun l mu' v => ∃ x tx t c vs c' ns', v = .int x tx ∧ 0 ≤ x ∧ x < many ∧ mu' = boxO B I (k + 1) t c vs c' ∧ Paired (IntIn l) vs ns' ∧ ns'.length ≤ 100) := by
  k_fill
  intro s dp un gd fr E Am H hm hap hnd hd hu
  have hl := hv.length
  have Am' := Am.ext (h' := s.heap) (fun b o e => of_hideAll _ e)
  have hh := And.intro hm hap
  clear hm hap
  walk_at "enter"
  rename St _ _ _ _ _ _ _ _ _ _ _ _ _ _ _ => kS
  rename (∀ b ∈ ownOf _ _, _) => hO
  replace kS := kS.hide Am hh.1 hh.2 hnd
  replace hO := own_hide (mu₀ := boxO B I k t c vs c') hO
  unfold boxO at kS
  k_steps
  · rename St _ _ _ _ _ _ _ _ _ _ _ _ _ _ _ => kS
    replace kS := kS.forget
    refine (St.tok kS _).doneT rfl ⟨_, _, _, _, vs, _, ns, rfl, ?_, ?_, rfl, hv, hn⟩
    · rw [Int.fmod_eq_emod_of_nonneg _ (by walk_at "om")]; exact Int.emod_nonneg _ (by walk_at "om")
    · rw [Int.fmod_eq_emod_of_nonneg _ (by walk_at "om")]; exact Int.emod_lt_of_pos _ hm0
  · rename St _ _ _ _ _ _ _ _ _ _ _ _ _ _ _ => kS
    replace kS := kS.forget.muSwap
    rename _ = false => hne
    simp only [decide_eq_false_iff_not] at hne
    obtain ⟨z, hz⟩ : ∃ z, ns[0]? = some z := by
      cases ns with
      | nil => exact absurd rfl hne
      | cons z _ => exact ⟨z, rfl⟩
    obtain ⟨y, hy, tz, hyz⟩ := pairedAt hv hz
    subst hyz
    refine St.popAt (St.tok kS _) (by decide) (by decide) hy (by walk_at "om") ?_
    clear kS
    intro c9 s9 kS
    replace kS := kS.muSwap
    k_steps
    rename St _ _ _ _ _ _ _ _ _ _ _ _ _ _ _ => kS
    refine (St.tok kS _).doneT rfl ⟨_, _, _, _, _, _, ns.eraseIdx 0, rfl, ?_, ?_, rfl, ?_, ?_⟩
    · rw [Int.fmod_eq_emod_of_nonneg _ (by walk_at "om")]; exact Int.emod_nonneg _ (by walk_at "om")
    · rw [Int.fmod_eq_emod_of_nonneg _ (by walk_at "om")]; exact Int.emod_lt_of_pos _ hm0
    · show Paired (IntIn led) (vs.eraseIdx 0) (ns.eraseIdx 0)
      simp only [List.eraseIdx_zero]
      exact paired_drop1 hv
    · have := List.length_eraseIdx_le ns 0; walk_at "om"
end
end Mine

-- G15
open Mine
theorem Mine.rules14 : True := by
  k_with "compareOp Eq" => (((with_reducible show wpAny _ _ (compareOp _ (Value.ref _) (Value.ref _)) _ _ _); (rename St _ _ _ _ _ _ _ _ _ _ _ _ _ _ _ => kS); k_dflt (refine' St.eqInts (St.tok kS _) ?k1 ?k2 ?k3 ?k4 ?k5 ?_; (case k1 => walk_at "isl"); (case k2 => walk_at "prel"); (case k3 => walk_at "isl"); (case k4 => walk_at "prel"); (case k5 => show _ < _; (try dsimp only); walk_at "om"))))
  trivial
namespace Mine
section
variable {w : World} {mean : ExcName → Option Value} {mg mb : Str → Option Value}
theorem whole_con {r : List Rat} {v : Value} {led : Led} (hv : RowIn led v r) (hr : ∀ q ∈ r, q.den = 1) (hn : r.length ≤ 100) :
    Con (Mine.hd.heap_39 w.params) Mine.view (looseW Mine.view []) mean mg mb PySem.Challenge.rw_sa0086_01.row.prog w 184 [v] 20 led (fun l v => IntsIn l v (r.map fun q => q.num)) := by
  k_fill
  intro s dp un gd fr E Am H hd hu
  walk_at "enter"
  k_steps
  rename St _ _ _ _ _ _ _ _ _ _ _ _ _ _ _ => kS
  unfold Hold
  refine comp_pure r.length (fun _ => false) (fun _ _ _ => True) (fun _ _ _ _ h => h) led (by walk_at "om") (by with_unfolding_all rfl) (by decide) (by walk_at "hoc") rfl (by decide) ?hit
  k_steps
  rename St _ _ _ _ _ _ _ _ _ _ _ _ _ _ _ => kS
  unfold Hold
  refine comp_list kS [] rfl hv rfl (fun C => by walk_at "tgt") (by walk_at "clo") ?tests ?turn ?hQ
  case tests =>
    clear kS
    intro i C m₁ y v tl s₃ E' hi hy hR kS
    have hden := hr y (List.mem_of_getElem? hy)
    refine wpAny_tests_one (Q := fun ok s₄ => Hold (ok = _ ∧ Keeps s₃ s₄)) ?_
    k_steps
    rename St _ _ _ _ _ _ _ _ _ _ _ _ _ _ _ => kS
    exact ⟨by rw [hden]; rfl, St.keeps (St.tok kS _)⟩
  case turn => intro i C m₁ y v tl s₃ E' hi h; cases h
  case hQ =>
    clear kS
    intro D vs c s' tl kS hP
    have hvs : vs = [] := by
      have := hP.length
      rw [List.filter_eq_nil_iff.mpr (by simp)] at this
      exact List.eq_nil_of_length_eq_zero this.symm
    subst hvs
    clear hP
    k_steps
    rename St _ _ _ _ _ _ _ _ _ _ _ _ _ _ _ => kS
    unfold Hold
    replace kS := kS.forget.forget.base
    refine comp_pure r.length (fun _ => true) (fun i l v => IntIn l v (r.getD i 0).num) (fun _ _ _ _ h => h) led (by walk_at "om") (by with_unfolding_all rfl) (by decide) (by walk_at "hoc") rfl (by decide) ?hit2
    k_steps
    rename St _ _ _ _ _ _ _ _ _ _ _ _ _ _ _ => kS
    unfold Hold
    refine comp_list kS [] rfl hv rfl (fun C => by walk_at "tgt") (by walk_at "clo") (by intros; exact tests_nil) ?turn2 ?hQ2
    case turn2 =>
      clear kS
      intro i C m₁ y v tl s₃ E' hi _ hy hR kS
      have e1 := getD_of (d := (0 : Rat)) hy
      k_steps
      rename St _ _ _ _ _ _ _ _ _ _ _ _ _ _ _ => kS
      refine (St.tok kS _).done ?_
      rw [e1]; exact ⟨_, rfl⟩
    case hQ2 => exact fun _ _ _ _ _ kS' hP => kS'.doneSeq (R := IntIn) (fun h s => h) hP (map_range_getD (fun q => q.num) 0 r)
end
end Mine

-- Lst6
namespace Mine
open Sem (wp)
theorem Feed.tup {prog : Program} {w : World} {A : Around} {env : Env} {oc : List (Str × Addr)} {xi xv : Str} {pi pv pt : Pos} {x1} {I : Addr} {fp wr : List Addr} {n : Nat} {Pt : Nat → Array Value → Prop} {Sx : Nat → Heap → Prop} {Mid : Nat → Addr → Heap → Prop}
    (W : WalksU prog w A I fp wr n Pt Sx Mid) (hh : A.handled = none) (hP : ∀ i v, Pt i v → ∃ x y, v = #[x, y]) (hxi : TgtOk env oc xi) (hxv : TgtOk env oc xv) (hC : ∀ b ∈ ownOf env oc, b ∉ fp)
    (hlive : ∀ i h, Sx i h → ∀ b ∈ wr, ∃ o, h.get? b = some o) :
    Feed prog w A env oc (.Tuple [.Name xi pi, .Name xv pv] x1 pt) I fp wr n Sx (fun i m m' => ∃ x y, Pt i #[x, y] ∧ m' = upd (upd m xi x) xv y) where
  sub := W.sub
  live := hlive
  frame := W.frame
  item := fun i s m Q E hi st hn hQ => by
    refine W.item i s _ E hi st fun T vals h₁ tk₁ hPt hT hM hk₁ => ?_
    obtain ⟨x, y, rfl⟩ := hP i vals hPt
    dsimp only
    refine W.go _ _ _ i T _ _ _ hM fun h₂ hst₂ hk₂ => ?_
    replace hk₂ : ∀ b o, b ∉ wr → h₁.get? b = some o → h₂.get? b = some o := hk₂
    have hT₂ : h₂.IsTuple T #[x, y] := hT.at fun o e => hk₂ _ o (W.apart _ _ _ hM) e
    have hF₂ : Frm env oc m h₂ := hn.keep fun b hb o e => hk₂ b o (fun h => hC b hb (W.sub _ h)) (hk₁ b o (fun h => hC b hb (W.sub _ h)) e)
    refine wpAny_assign_Tuple hh hT₂ rfl rfl fun h₃ hx₃ => ?_
    replace hx₃ : Heap.ExtBut h₂.objs.size h₂ h₃ := hx₃
    have e₃ : Ext h₂ h₃ := fun b o e => hx₃ b o (Nat.ne_of_lt (Heap.lt_size e)) e
    show wpAny _ A (do holding [y] (assign (.Name xi pi) env x); do holding [] (assign (.Name xv pv) env y); pure ()) _ _ _
    refine wpAny_bind (wpAny_holding (wpAny_assign_Name (Frm.store (hF₂.ext e₃) hxi fun h₄ tk₄ hF₄ hs₄ => ?_)))
    refine wpAny_bind (wpAny_holding (wpAny_assign_Name (Frm.store hF₄ hxv fun h₅ tk₅ hF₅ hs₅ => wpAny_pure ?_)))
    have up : ∀ b o, b ∉ ownOf env oc → h₂.get? b = some o → h₅.get? b = some o := fun b o hb e => hs₅ b o hb (hs₄ b o hb (e₃ b o e))
    exact hQ h₅ _ _ ⟨x, y, hPt, rfl⟩ (W.frame _ _ _ hst₂ fun b hb o e => up b o (fun h => hC b h hb) e) hF₅ fun b o hbw hbC e => up b o hbC (hk₂ b o hbw (hk₁ b o hbw e))
  done := W.done
  self := W.self

section
variable {K : Frag} {p : Program} {loose : List Str} {mean : ExcName → Option Value} {mg mb : Str → Option Value} {s₀ : Shared} {led₀ : Led} {env : Env} {oc : List (Str × Addr)} {cl : List (Str × Value)} {m : Str → Option Value} {led mu : Led} {s : Shared}
  {A : Around} {E : Value → Shared → Prop} {prog : Program} {w : World} {x : Str} {v : Value} {pos : Pos}
/-- for x, y in zip(two lists of the ledger) -/
theorem iter_zip {l1 l2 : Addr} {vs us : List Value} {c c' : Nat} {xi xv : Str} {pi pv pt : Pos} {x1} {Q : Value → Shared → Prop} (hh : A.handled = none) (hh' : Has s.heap led) (hm : (l1, lstO vs c) ∈ led) (hm' : (l2, lstO us c') ∈ led)
    (h : ∀ it s₂, IterAt false prog w A led s it s₂ (.Tuple [.Name xi pi, .Name xv pv] x1 pt) [xi, xv] (min vs.length us.length) (fun i m m' => ∃ x y, vs[i]? = some x ∧ us[i]? = some y ∧ m' = upd (upd m xi x) xv y) → Q it s₂) :
    wpAny (model prog w) A (call (.type "zip") [.ref l1, .ref l2]) (fun e s₁ => wpAny (model prog w) A (pyIter e) Q E s₁) E s := by
  have hl1 : s.heap.IsList l1 vs.toArray := ⟨_, (hh' _ hm).1, rfl, c, rfl⟩
  have hl2 : s.heap.IsList l2 us.toArray := ⟨_, (hh' _ hm').1, rfl, c', rfl⟩
  have hlt1 : l1 < s.heap.objs.size := Heap.lt_size (hh' _ hm).1
  have hlt2 : l2 < s.heap.objs.size := Heap.lt_size (hh' _ hm').1
  refine call_zip_2 hl1 hl2 fun h' hz hTI hTO hi1 hi2 hsz hk => wpAny_pyIter_zip hz (h _ _ ⟨s.heap.objs.size + 4, [s.heap.objs.size + 4, s.heap.objs.size + 2, s.heap.objs.size + 3, s.heap.objs.size, s.heap.objs.size + 1, l1, l2],
    [s.heap.objs.size + 4, s.heap.objs.size + 2, s.heap.objs.size + 3, s.heap.objs.size, s.heap.objs.size + 1], (fun i h => IsZip h (s.heap.objs.size + 4) (s.heap.objs.size + 2) (s.heap.objs.size + 3) .none ∧ IsPair h (s.heap.objs.size + 2) (.ref s.heap.objs.size) (.ref (s.heap.objs.size + 1)) ∧ (∃ a b, IsPair h (s.heap.objs.size + 3) a b) ∧ h.IsListIter s.heap.objs.size l1 i ∧ h.IsListIter (s.heap.objs.size + 1) l2 i ∧ h.IsList l1 vs.toArray ∧ h.IsList l2 us.toArray),
    rfl, hk, ⟨_, s.toks, rfl⟩, ⟨?_, fun h => nomatch h⟩, ?_, ?_, ?_, fun env oc htg hown => ?_⟩)
  · intro b hb
    simp only [List.mem_cons, List.not_mem_nil, or_false] at hb
    rcases hb with rfl | rfl | rfl | rfl | rfl <;> first | exact fresh_size _ (Nat.le_add_right _ _) | exact fresh_size _ (Nat.le_refl _)
  · exact ⟨hz, hTI, ⟨_, _, hTO⟩, hi1, hi2, hl1.at fun o e => hk _ o e, hl2.at fun o e => hk _ o e⟩
  · intro b hb
    show b < h'.objs.size
    rw [hsz]
    simp only [List.mem_cons, List.not_mem_nil, or_false] at hb
    rcases hb with rfl | rfl | rfl | rfl | rfl | rfl | rfl <;> first | exact Nat.add_lt_add_left (by decide) _ | exact Nat.lt_add_of_pos_right (by decide) | exact Nat.lt_of_lt_of_le hlt1 (Nat.le_add_right _ _) | exact Nat.lt_of_lt_of_le hlt2 (Nat.le_add_right _ _)
  · intro b hb
    simp only [List.mem_cons, List.not_mem_nil, or_false] at hb
    rcases hb with rfl | rfl | rfl | rfl | rfl | rfl | rfl
    · exact .inl (by simp)
    · exact .inl (by simp)
    · exact .inl (by simp)
    · exact .inl (by simp)
    · exact .inl (by simp)
    · exact .inr ⟨_, hm⟩
    · exact .inr ⟨_, hm'⟩
  · have W := (WalksT.zip2 (prog := prog) (w := w) (A := A) hh (s.heap.objs.size + 4) (s.heap.objs.size + 2) (s.heap.objs.size + 3) s.heap.objs.size (s.heap.objs.size + 1) l1 l2 (zipApart_new hlt1 hlt2) vs.toArray us.toArray).toU
    have F := Feed.tup W hh (env := env) (oc := oc) (xi := xi) (xv := xv) (pi := pi) (pv := pv) (pt := pt) (x1 := x1) (fun i v ⟨x, y, _, _, e⟩ => ⟨x, y, e⟩) (htg xi (by simp)) (htg xv (by simp)) (fun b hb => hown b hb) (fun i h st b hb => by
      obtain ⟨hz, hTI, ⟨a, b', hTO⟩, ⟨o1, h1, _⟩, ⟨o2, h2, _⟩, _⟩ := st
      simp only [List.mem_cons, List.not_mem_nil, or_false] at hb
      rcases hb with rfl | rfl | rfl | rfl
      · exact ⟨_, hz⟩
      · exact ⟨_, hTO⟩
      · exact ⟨_, h1⟩
      · exact ⟨_, h2⟩)
    have sb : ∀ b, b ∉ [s.heap.objs.size + 4, s.heap.objs.size + 2, s.heap.objs.size + 3, s.heap.objs.size, s.heap.objs.size + 1] → b ∉ [s.heap.objs.size + 4, s.heap.objs.size + 3, s.heap.objs.size, s.heap.objs.size + 1] := fun b h h2 => h (by
      simp only [List.mem_cons, List.not_mem_nil, or_false] at h2 ⊢
      rcases h2 with h | h | h | h <;> simp [h])
    refine ⟨fun b hb => by simp only [List.mem_cons, List.not_mem_nil, or_false] at hb ⊢; rcases hb with h | h | h | h | h <;> simp [h], fun i h st b hb => ?_, F.frame, fun i s m Q E hi st hn hQ => F.item i s m Q E (by simpa using hi) st hn fun h' tk m' hb st' hn' hk' => hQ h' tk m' ?_ st' hn' fun b o h1 h2 e => hk' b o (sb b h1) h2 e,
      fun s Q E st hQ => F.done s Q E (by simpa using st) fun h' tk hk => hQ h' tk fun b o h1 e => hk b o (sb b h1) e, F.self⟩
    · by_cases hb' : b = s.heap.objs.size + 2
      · subst hb'; exact ⟨_, st.2.1⟩
      · refine F.live i h st b ?_
        simp only [List.mem_cons, List.not_mem_nil, or_false] at hb ⊢
        rcases hb with h | h | h | h | h <;> first | exact absurd h hb' | simp [h]
    · obtain ⟨x, y, ⟨x', y', h1, h2, h3⟩, rfl⟩ := hb
      have h4 : x = x' ∧ y = y' := by simpa using h3
      obtain ⟨rfl, rfl⟩ := h4
      exact ⟨x, y, by simpa using h1, by simpa using h2, rfl⟩

/-- for x, y in a list of pairs of the ledger -/
theorem iter_pairs {l : Addr} {vs : List Value} {c : Nat} {xi xv : Str} {pi pv pt : Pos} {x1} {Q : Value → Shared → Prop} (Ts : Nat → Addr) (f g : Nat → Value) (hh : A.handled = none) (hh' : Has s.heap led) (hm : (l, lstO vs c) ∈ led)
    (hT : ∀ j, j < vs.length → vs[j]? = some (.ref (Ts j)) ∧ ∃ c, (Ts j, tupO [f j, g j] c) ∈ led)
    (h : ∀ it s₂, IterAt true prog w A led s it s₂ (.Tuple [.Name xi pi, .Name xv pv] x1 pt) [xi, xv] vs.length (fun i m m' => m' = upd (upd m xi (f i)) xv (g i)) → Q it s₂) :
    wpAny (model prog w) A (pyIter (.ref l)) Q E s := by
  have hl : s.heap.IsList l vs.toArray := ⟨_, (hh' _ hm).1, rfl, c, rfl⟩
  have hlt : l < s.heap.objs.size := Heap.lt_size (hh' _ hm).1
  have hTlt : ∀ j, j < vs.length → Ts j < s.heap.objs.size := fun j hj => by obtain ⟨_, c, h⟩ := hT j hj; exact Heap.lt_size (hh' _ h).1
  have hTt : ∀ j, j < vs.length → s.heap.IsTuple (Ts j) #[f j, g j] := fun j hj => by obtain ⟨_, c, h⟩ := hT j hj; exact ⟨_, (hh' _ h).1, rfl, c, rfl⟩
  refine wpAny_pyIter_list hl (h _ _ ⟨s.heap.objs.size, s.heap.objs.size :: l :: (List.range vs.toArray.size).map Ts, [s.heap.objs.size], (fun i h => h.IsListIter s.heap.objs.size l i ∧ h.IsList l vs.toArray ∧ ∀ k, k < vs.toArray.size → h.IsTuple (Ts k) #[f k, g k]), rfl, Ext.push _ _, ⟨_, s.toks, rfl⟩,
    ⟨?_, fun _ i h st b hb => live_list (I := s.heap.objs.size) (ax := l) (items := vs.toArray) i h ⟨st.1, st.2.1⟩ b hb⟩, ?_, ?_, ?_, fun env oc htg hown => ?_⟩)
  · intro b hb; rw [List.mem_singleton.mp hb]; exact fresh_size _ (Nat.le_refl _)
  · exact ⟨⟨_, Heap.get?_push_size _ rfl, rfl, rfl⟩, hl.push _, fun k hk => (hTt k (by simpa using hk)).at fun o e => Heap.get?_push_of_some _ e⟩
  · intro b hb
    show b < (s.heap.push _).objs.size
    rw [Heap.size_push]
    rcases List.mem_cons.mp hb with rfl | hb
    · exact Nat.lt_succ_self _
    · rcases List.mem_cons.mp hb with rfl | hb
      · exact Nat.lt_succ_of_lt hlt
      · obtain ⟨k, hk, rfl⟩ := List.mem_map.mp hb
        exact Nat.lt_succ_of_lt (hTlt k (by simpa using hk))
  · intro b hb
    rcases List.mem_cons.mp hb with rfl | hb
    · exact .inl (List.mem_singleton.mpr rfl)
    · rcases List.mem_cons.mp hb with rfl | hb
      · exact .inr ⟨_, hm⟩
      · obtain ⟨k, hk, rfl⟩ := List.mem_map.mp hb
        obtain ⟨_, c, h⟩ := hT k (by simpa using hk)
        exact .inr ⟨_, h⟩
  · have W := WalksU.listOfTuples (prog := prog) (w := w) (A := A) hh s.heap.objs.size l (Nat.ne_of_lt hlt) vs.toArray Ts (fun j => #[f j, g j]) (fun j hj => by simpa using (hT j (by simpa using hj)).1) (fun j hj => Nat.ne_of_lt (hTlt j (by simpa using hj)))
    have F := Feed.tup W hh (env := env) (oc := oc) (xi := xi) (xv := xv) (pi := pi) (pv := pv) (pt := pt) (x1 := x1) (fun i v e => ⟨_, _, e⟩) (htg xi (by simp)) (htg xv (by simp)) hown (fun i h st b hb => let ⟨o, ho, _⟩ := live_list (I := s.heap.objs.size) (ax := l) (items := vs.toArray) i h ⟨st.1, st.2.1⟩ b hb; ⟨o, ho⟩)
    have F2 : Feed prog w A env oc (.Tuple [.Name xi pi, .Name xv pv] x1 pt) s.heap.objs.size (s.heap.objs.size :: l :: (List.range vs.toArray.size).map Ts) [s.heap.objs.size] vs.toArray.size (fun i h => h.IsListIter s.heap.objs.size l i ∧ h.IsList l vs.toArray ∧ ∀ k, k < vs.toArray.size → h.IsTuple (Ts k) #[f k, g k]) (fun i m m' => m' = upd (upd m xi (f i)) xv (g i)) :=
      ⟨F.sub, F.live, F.frame, fun i s m Q E hi st hn hQ => F.item i s m Q E hi st hn fun h' tk m' hb => hQ h' tk m' (by
        obtain ⟨x, y, h, rfl⟩ := hb
        have h4 : x = f i ∧ y = g i := by simpa using h
        obtain ⟨rfl, rfl⟩ := h4
        rfl), F.done, F.self⟩
    simpa using F2
theorem comp_zipA {α β : Type} {R : Led → Value → α → Prop} {R' : Led → Value → β → Prop} {elt : Expr} {ifs : List Expr} {scope : Scope} {clo : List (Str × Addr)} {xi xv : Str} {pi pv pt : Pos} {x1} {n : Nat} {pf : Nat → Bool} {Rl : Nat → Led → Value → Prop} {y : Str} {Q : Flow → Shared → Prop} {lv lu : Value} {xs : List α} {ys : List β}
    (S : St K p loose mean mg mb s₀ led₀ env oc [] m led mu s) (own0 : ∀ b ∈ ownOf env oc, s₀.heap.get? b = none) (hy : env.kindOf y = some .local) (cl' : List (Str × Value)) (hh : A.handled = none) (hq : SeqIn R led lv xs) (hq' : SeqIn R' led lu ys) (hn : min xs.length ys.length = n)
    (htg : ∀ C, TgtOk (cenvOf scope clo env C) (ocOf scope.names C) xi ∧ TgtOk (cenvOf scope clo env C) (ocOf scope.names C) xv) (hcl : CloOk scope env clo s cl')
    (tests : ∀ i C m₁ y z v u tl s₃ E', i < n → xs[i]? = some y → R led v y → ys[i]? = some z → R' led u z → St K p loose mean mg mb s₃ (tl ++ (mu ++ led)) (cenvOf scope clo env C) (ocOf scope.names C) cl' (upd (upd m₁ xi v) xv u) (tl ++ (mu ++ led)) [] s₃ →
      testsOf prog w A ifs (cenvOf scope clo env C) (fun ok s₄ => ok = pf i ∧ Keeps s₃ s₄) E' s₃)
    (turn : ∀ i C m₁ y z v u tl s₃ E', i < n → pf i = true → xs[i]? = some y → R led v y → ys[i]? = some z → R' led u z → St K p loose mean mg mb s₃ (tl ++ (mu ++ led)) (cenvOf scope clo env C) (ocOf scope.names C) cl' (upd (upd m₁ xi v) xv u) (tl ++ (mu ++ led)) [] s₃ →
      wpAny (model prog w) A (eval elt (cenvOf scope clo env C)) (Made s₃ (tl ++ (mu ++ led)) (Rl i)) E' s₃)
    (hQ : ∀ D vs c s' tl, St K p loose mean mg mb s₀ led₀ env oc [] (upd m y (.ref D)) (tl ++ led) ((D, lstO vs c) :: mu) s' → Paired (fun i y => Rl i (tl ++ (mu ++ led)) y) ((List.range n).filter pf) vs → Q .next s') :
    wpAny (model prog w) A (PySem.call (.type "zip") [lv, lu]) (fun e s₁ => wpAny (model prog w) A (pyIter e) (AsgGoal prog w A env elt (.Tuple [.Name xi pi, .Name xv pv] x1 pt) ifs scope clo Rl (mu ++ led) n pf y Q) E s₁) E s := by
  obtain ⟨a, vs, c, rfl, hm, hp⟩ := hq
  obtain ⟨b, us, c', rfl, hm', hp'⟩ := hq'
  refine iter_zip (led := led) (xi := xi) (xv := xv) (pi := pi) (pv := pv) (pt := pt) (x1 := x1) hh S.has hm hm' fun it s₂ IT => ?_
  rw [hp.length, hp'.length, hn] at IT
  refine comp_atA S own0 hy cl' IT (fun C y hy => ?_) hcl ?_ ?_ hQ
  · simp only [List.mem_cons, List.not_mem_nil, or_false] at hy
    rcases hy with rfl | rfl
    · exact (htg C).1
    · exact (htg C).2
  · rintro i C m₁ m' led' s₃ E' hi ⟨v, u, hv, hu, rfl⟩ ⟨tl, rfl⟩ S'
    obtain ⟨y, hy, hR⟩ := pairedAt' hp hv
    obtain ⟨z, hz, hR'⟩ := pairedAt' hp' hu
    exact tests i C m₁ y z v u tl s₃ E' hi hy hR hz hR' S'
  · rintro i C m₁ m' led' s₃ E' hi hpf ⟨v, u, hv, hu, rfl⟩ ⟨tl, rfl⟩ S'
    obtain ⟨y, hy, hR⟩ := pairedAt' hp hv
    obtain ⟨z, hz, hR'⟩ := pairedAt' hp' hu
    exact turn i C m₁ y z v u tl s₃ E' hi hpf hy hR hz hR' S'
/-- a list over list of pairs: new objects alone -/
theorem comp_pairs {elt : Expr} {ifs : List Expr} {scope : Scope} {clo : List (Str × Addr)} {xi xv : Str} {pi pv pt : Pos} {x1} {n : Nat} {pf : Nat → Bool} {Rl : Nat → Led → Value → Prop} {Q : Value → Shared → Prop} {l : Addr} {vs : List Value} {c : Nat} (Ts : Nat → Addr) (f g : Nat → Value)
    (S : St K p loose mean mg mb s₀ led₀ env oc cl m led mu s) (cl' : List (Str × Value)) (hh : A.handled = none) (hm : (l, lstO vs c) ∈ led) (hn : vs.length = n)
    (hT : ∀ j, j < vs.length → vs[j]? = some (.ref (Ts j)) ∧ ∃ c, (Ts j, tupO [f j, g j] c) ∈ led)
    (htg : ∀ C, TgtOk (cenvOf scope clo env C) (ocOf scope.names C) xi ∧ TgtOk (cenvOf scope clo env C) (ocOf scope.names C) xv) (hcl : CloOk scope env clo s cl')
    (tests : ∀ i C m₁ tl s₃ E', i < n → St K p loose mean mg mb s₃ (tl ++ led) (cenvOf scope clo env C) (ocOf scope.names C) cl' (upd (upd m₁ xi (f i)) xv (g i)) (tl ++ led) [] s₃ →
      testsOf prog w A ifs (cenvOf scope clo env C) (fun ok s₄ => ok = pf i ∧ Keeps s₃ s₄) E' s₃)
    (turn : ∀ i C m₁ tl s₃ E', i < n → pf i = true → St K p loose mean mg mb s₃ (tl ++ led) (cenvOf scope clo env C) (ocOf scope.names C) cl' (upd (upd m₁ xi (f i)) xv (g i)) (tl ++ led) [] s₃ →
      wpAny (model prog w) A (eval elt (cenvOf scope clo env C)) (Made s₃ (tl ++ led) (Rl i)) E' s₃)
    (hQ : ∀ D vs c s' tl, St K p loose mean mg mb s₀ led₀ env oc cl m (tl ++ led) ((D, lstO vs c) :: mu) s' → Paired (fun i y => Rl i (tl ++ led) y) ((List.range n).filter pf) vs → Q (.ref D) s') :
    wpAny (model prog w) A (pyIter (.ref l)) (CompGoal prog w A env elt (.Tuple [.Name xi pi, .Name xv pv] x1 pt) ifs scope clo Rl led n pf Q) E s := by
  refine iter_pairs (led := led) (xi := xi) (xv := xv) (pi := pi) (pv := pv) (pt := pt) (x1 := x1) Ts f g hh S.has hm hT fun it s₂ IT => ?_
  rw [hn] at IT
  refine comp_at S cl' IT (fun C y hy => ?_) hcl ?_ ?_ hQ
  · simp only [List.mem_cons, List.not_mem_nil, or_false] at hy
    rcases hy with rfl | rfl
    · exact (htg C).1
    · exact (htg C).2
  · rintro i C m₁ m' led' s₃ E' hi rfl ⟨tl, rfl⟩ S'
    exact tests i C m₁ tl s₃ E' hi S'
  · rintro i C m₁ m' led' s₃ E' hi hpf rfl ⟨tl, rfl⟩ S'
    exact turn i C m₁ tl s₃ E' hi hpf S'
theorem St.addAny {α : Type} {R : Led → Value → α → Prop} {xs ys : List α} {a b : Addr} {vs us : List Value} {c c' : Nat} {Q : Value → Shared → Prop} (S : St K p loose mean mg mb s₀ led₀ env oc cl m led mu s) (ha : s.heap.get? a = some (lstO vs c)) (hb : s.heap.get? b = some (lstO us c'))
    (hp : Paired (R led) vs xs) (hp' : Paired (R led) us ys) (hsz : xs.length ≤ 1000) (hsz2 : ys.length ≤ 1000)
    (h : ∀ D s' ws, St K p loose mean mg mb s₀ led₀ env oc cl m led ((D, lstO ws 0) :: mu) s' → Paired (R led) ws (xs ++ ys) → Q (.ref D) s') : wpAny (model prog w) A (binaryOp .Add (.ref a) (.ref b)) Q E s := by
  have hl := hp.length
  have hl' := hp'.length
  refine P.add_list ha hb ?_ (by rw [sizeLine_eq, List.size_toArray, List.size_toArray]; walk_at "om")
  have e : vs.toArray ++ us.toArray = (vs ++ us).toArray := by simp
  rw [e]
  exact h _ _ (vs ++ us) (S.grow (tk := s.toks) (Ext.push _ _) (Heap.get?_push_size _ rfl) (fresh_size _ (Nat.le_refl _))) (paired_append hp' hp)
theorem foldl_rep {v : Value} : ∀ (n : Nat) (a : Array Value), List.foldl (fun x1 x2 => x1 ++ x2) a (List.replicate n #[v]) = a ++ (List.replicate n v).toArray
  | 0, a => by simp
  | n + 1, a => by
    rw [List.replicate_succ, List.foldl_cons, foldl_rep n, List.replicate_succ, Array.append_assoc]
    congr 1
    simp
theorem mulL {l : Addr} {items : Array Value} {k : Nat} {x : Int} {u : Tok} {Q : Value → Shared → Prop}
    (hl : s.heap.get? l = some { cls := .type "list", dict := none, data := .seq items k, slots := #[] }) (hlo : -(2 ^ 63 : Int) ≤ x) (hhi : x < 2 ^ 63) (hsz : items.size * x.toNat ≤ 2 ^ 24)
    (h : Q (.ref s.heap.objs.size) { s with heap := s.heap.push { cls := .type "list", data := .seq (List.foldl (fun x1 x2 => x1 ++ x2) #[] (List.replicate (if items.isEmpty = true then 0 else x.toNat) items)) } }) :
    wpAny (model prog w) A (binaryOp .Mult (.ref l) (.int x u)) Q E s :=
  wpAny_binaryOp_repeat_ref (T := "list") (U := "int") (by decide) ⟨_, hl, rfl⟩ (fun s' => typeIs_int s' x u) noFill_list_mul F.fills_int_mul F.slot_int_rmul repeat_list F.slot_int_index.lookup
    (call_meets F.slot_int_rmul (typeIs_int s x u) F.entry_int_rmul (F.args_int_rmul_2 _ _) (int___rmul___int_list x u l items k)
      ⟨hl, rfl, ⟨_, hl, rfl⟩, call_meets F.slot_list_mul ⟨_, hl, rfl⟩ F.entry_list_mul (F.args_list_mul_2 _ _)
        (AutoListH.list___mul___list_int_3 l items k x u (by simp [Builtin.List.listFitsIndex]; walk_at "om") (by walk_at "om") (by simp [Builtin.List.listTooLong, sizeLine]; walk_at "om"))
        ⟨hl, h⟩⟩)
theorem St.repeat1 {a : Addr} {v : Value} {c n : Nat} {u : Tok} {Q : Value → Shared → Prop} (S : St K p loose mean mg mb s₀ led₀ env oc cl m led mu s) (ha : s.heap.get? a = some (lstO [v] c)) (hn : n ≤ 1000)
    (h : ∀ D s', St K p loose mean mg mb s₀ led₀ env oc cl m led ((D, lstO (List.replicate n v) 0) :: mu) s' → Q (.ref D) s') : wpAny (model prog w) A (binaryOp .Mult (.ref a) (.int n u)) Q E s := by
  refine mulL ha (by walk_at "om") (by walk_at "om") (by simp; walk_at "om") ?_
  have e : (if ([v] : List Value).toArray.isEmpty = true then 0 else (n : Int).toNat) = n := by simp
  have e2 := foldl_rep (v := v) n #[]
  refine h _ _ (S.grow (tk := s.toks) (Ext.push _ _) ?_ (fresh_size _ (Nat.le_refl _)))
  rw [Heap.get?_push_size _ rfl, e, show ([v] : List Value).toArray = #[v] from rfl, e2]
  simp
theorem St.addListsR {α : Type} {R : Led → Value → α → Prop} {xs ys : List α} {a : Addr} {vs : List Value} {c : Nat} {Q : Value → Shared → Prop} (S : St K p loose mean mg mb s₀ led₀ env oc cl m led mu s) (hq : SeqIn R led v xs) (hm : (a, lstO vs c) ∈ mu) (hp : Paired (R led) vs ys)
    (hsz : xs.length ≤ 1000) (hsz2 : ys.length ≤ 1000)
    (h : ∀ D s' ws, St K p loose mean mg mb s₀ led₀ env oc cl m led ((D, lstO ws 0) :: mu) s' → Paired (R led) ws (xs ++ ys) → Q (.ref D) s') : wpAny (model prog w) A (binaryOp .Add v (.ref a)) Q E s := by
  obtain ⟨b, us, c', rfl, hm', hp'⟩ := hq
  exact S.addAny (S.has _ hm').1 (S.muh _ hm).1 hp' hp hsz hsz2 h
end
theorem pintCons {l : Led} {vs : List Value} {ns : List Int} {i : Int} {t : Tok} (h : Paired (IntIn l) vs ns) : Paired (IntIn l) (.int i t :: vs) (i :: ns) := .cons ⟨_, rfl⟩ h
theorem EltOk.led {prog : Program} {w : World} {A : Around} {elt : Expr} {ifs : List Expr} {n : Nat} {p : Nat → Bool} {W wr : List Addr} {J : Nat → Heap → Prop} {Bd : Nat → (Str → Option Value) → (Str → Option Value) → Prop}
    {R : Nat → Led → Value → Prop} {led led' : Led} {cenv : Addr → Env} {oc : Addr → List (Str × Addr)} {s₂ : Shared} (E : EltOk prog w A elt ifs n p W wr J Bd R led cenv oc s₂) (h : ∀ i l l' v, R i l v → R i l' v) : EltOk prog w A elt ifs n p W wr J Bd R led' cenv oc s₂ :=
  ⟨E.tests, fun i C m m' s₃ tl E' a1 a2 a3 a4 a5 a6 a7 a8 a9 => wpAny_mono (E.elt i C m m' s₃ tl E' a1 a2 a3 a4 a5 a6 a7 a8 a9) (fun _ _ ⟨h', tk, tl', a, b, c, d, e, r⟩ => ⟨h', tk, tl', a, b, c, d, e, h _ _ _ _ r⟩) fun _ _ h => h⟩
theorem CompAt.led {prog : Program} {w : World} {A : Around} {env : Env} {elt target : Expr} {ifs : List Expr} {scope : Scope} {cl : List (Str × Addr)} {Rl : Nat → Led → Value → Prop} {led led' : Led} {J : Nat → Heap → Prop} {W : List Addr} {n : Nat} {p : Nat → Bool}
    {it : Value} {s₂ : Shared} {wr : List Addr} (C : CompAt prog w A env elt target ifs scope cl Rl led J W n p it s₂ wr) (h : ∀ i l l' v, Rl i l v → Rl i l' v) : CompAt prog w A env elt target ifs scope cl Rl led' J W n p it s₂ wr :=
  let ⟨I, fp, Sx, Bd, e1, e2, e3, e4, e5, e6⟩ := C.at_
  ⟨I, fp, Sx, Bd, e1, e2, e3, e4, e5, e6.led h⟩
theorem AsgGoal.led {prog : Program} {w : World} {A : Around} {env : Env} {elt target : Expr} {ifs : List Expr} {scope : Scope} {clo : List (Str × Addr)} {Rl : Nat → Led → Value → Prop} {led led' : Led} {n : Nat} {pf : Nat → Bool} {y : Str} {Q : Flow → Shared → Prop} {it : Value} {s₂ : Shared}
    (C : AsgGoal prog w A env elt target ifs scope clo Rl led n pf y Q it s₂) (h : ∀ i l l' v, Rl i l v → Rl i l' v) : AsgGoal prog w A env elt target ifs scope clo Rl led' n pf y Q it s₂ :=
  let ⟨wr, m, e1, e2, e3, e4, e5, e6⟩ := C
  ⟨wr, m, e1.led h, e2, e3, e4, e5, fun D h' tk ys tl c a1 a2 a3 a4 a5 a6 a7 a8 a9 => e6 D h' tk ys tl c a1 a2 a3 a4 a5 a6 (Paired.imp (fun _ _ r => h _ _ _ _ r) a7) a8 a9⟩
theorem CompGoal.led {prog : Program} {w : World} {A : Around} {env : Env} {elt target : Expr} {ifs : List Expr} {scope : Scope} {clo : List (Str × Addr)} {Rl : Nat → Led → Value → Prop} {led led' : Led} {n : Nat} {pf : Nat → Bool} {Q : Value → Shared → Prop} {it : Value} {s₂ : Shared}
    (C : CompGoal prog w A env elt target ifs scope clo Rl led n pf Q it s₂) (h : ∀ i l l' v, Rl i l v → Rl i l' v) : CompGoal prog w A env elt target ifs scope clo Rl led' n pf Q it s₂ :=
  let ⟨wr, e1, e2, e6⟩ := C
  ⟨wr, e1.led h, e2, fun D h' tk ys tl c a1 a2 a3 a4 a5 a6 a7 a9 => e6 D h' tk ys tl c a1 a2 a3 a4 a5 a6 (Paired.imp (fun _ _ r => h _ _ _ _ r) a7) a9⟩
end Mine

-- G16
namespace Mine
/-- a bound of an int -/
structure IB (k : Nat) (i : Int) : Prop where
  le : i.natAbs ≤ 2 ^ k
theorem IB.mono {k j : Nat} {i : Int} (h : IB k i) (hk : k ≤ j) : IB j i := ⟨Nat.le_trans h.le (Nat.pow_le_pow_right (by decide) hk)⟩
theorem IB.mul {k j : Nat} {a b : Int} (ha : IB k a) (hb : IB j b) : IB (k + j) (a * b) := ⟨by rw [Int.natAbs_mul]; exact pow_add_le ha.le hb.le⟩
theorem IB.sub {k : Nat} {a b : Int} (ha : IB k a) (hb : IB k b) : IB (k + 1) (a - b) := ⟨by have := ha.le; have := hb.le; rw [Nat.pow_succ]; walk_at "om"⟩
theorem IB.add {k : Nat} {a b : Int} (ha : IB k a) (hb : IB k b) : IB (k + 1) (a + b) := ⟨by have := ha.le; have := hb.le; rw [Nat.pow_succ]; walk_at "om"⟩
theorem IB.pow {k : Nat} {a : Int} (ha : IB k a) : ∀ n : Nat, IB (k * n) (a ^ n)
  | 0 => ⟨by simp⟩
  | n + 1 => by rw [Int.pow_succ, Nat.mul_succ]; exact (IB.pow ha n).mul ha
theorem IB.zero {k : Nat} : IB k 0 := ⟨Nat.zero_le _⟩
theorem IB.ok {k j : Nat} {a b : Int} (ha : IB k a) (hb : IB j b) (hk : k ≤ big) (hj : j ≤ big) : IntMulOk a b := mulOk ha.le hb.le hk hj
noncomputable def IBr (k : Nat) (r : List Int) : Prop := ∀ x ∈ r, IB k x
theorem IBr.at {k : Nat} {r : List Int} (h : IBr k r) (i : Nat) : IB k (r.getD i 0) := by
  rw [List.getD_eq_getElem?_getD]
  cases e : r[i]? with
  | none => exact IB.zero
  | some x => exact h x (List.mem_of_getElem? e)

noncomputable def movStep (more : Int) (row : List Int) : List Int := (List.range (row.length + 1)).map fun i => (([0] ++ row : List Int).getD i 0) - more * ((row ++ [0] : List Int).getD i 0)
noncomputable def movRow (x more : Int) : Nat → List Int
  | 0 => [x]
  | t + 1 => movStep more (movRow x more t)
noncomputable def addTo (found row : List Int) (i : Nat) : List Int := (List.range found.length).map fun j => if j < i then found.getD j 0 + row.getD j 0 else found.getD j 0
noncomputable def movedTo (ns : List Int) (many more : Int) : Nat → List Int
  | 0 => List.replicate ns.length 0
  | i + 1 => addTo (movedTo ns many more i) (movRow (ns.getD i 0 * many ^ (ns.length - 1 - i)) more i) (i + 1)
theorem movRow_length {x more : Int} : ∀ t, (movRow x more t).length = t + 1
  | 0 => rfl
  | t + 1 => by simp [movRow, movStep, movRow_length t]
theorem movedTo_length {ns : List Int} {many more : Int} : ∀ i, (movedTo ns many more i).length = ns.length
  | 0 => by simp [movedTo]
  | i + 1 => by simp [movedTo, addTo, movedTo_length i]
theorem movRow_ib {x more : Int} {k : Nat} (hx : IB k x) (hm : IB 2 more) : ∀ t, IBr (k + 3 * t) (movRow x more t)
  | 0 => fun y hy => by simp [movRow] at hy; subst hy; exact hx
  | t + 1 => fun y hy => by
    have ih := movRow_ib hx hm t
    unfold movRow movStep at hy
    obtain ⟨i, _, rfl⟩ := List.mem_map.mp hy
    have h1 : IBr (k + 3 * t) ([0] ++ movRow x more t) := fun z hz => (List.mem_append.mp hz).elim (fun h => by rw [List.mem_singleton.mp h]; exact IB.zero) (ih z)
    have h2 : IBr (k + 3 * t) (movRow x more t ++ [0]) := fun z hz => (List.mem_append.mp hz).elim (ih z) (fun h => by rw [List.mem_singleton.mp h]; exact IB.zero)
    refine IB.mono (IB.sub (k := k + 3 * t + 2) ((h1.at i).mono (by walk_at "om")) ((hm.mul (h2.at i)).mono (by walk_at "om"))) (by walk_at "om")
theorem addTo_zero {a b : List Int} : addTo a b 0 = a := by
  unfold addTo; simpa using range_getD 0 a
theorem addTo_succ {a b : List Int} {i : Nat} (hi : i < a.length) : addTo a b (i + 1) = (addTo a b i).set i ((addTo a b i).getD i 0 + b.getD i 0) := by
  refine list_ext_getD (d := 0) (by simp [addTo]) fun j hj => ?_
  have hj' : j < a.length := by simpa [addTo] using hj
  rw [getD_set _ _ _ (by simpa [addTo] using hj')]
  unfold addTo
  rw [getD_map_range _ _ hj', getD_map_range _ _ hj', getD_map_range _ _ hi]
  by_cases e : i = j
  · subst e; simp
  · rw [if_neg e]
    by_cases h : j < i
    · rw [if_pos h, if_pos (by walk_at "om")]
    · rw [if_neg h, if_neg (by walk_at "om")]
theorem paired_rep {l : Led} {v : Value} {x : Int} (h : IntIn l v x := by exact ⟨_, rfl⟩) : ∀ {n : Nat}, Paired (IntIn l) (List.replicate n v) (List.replicate n x)
  | 0 => .nil
  | _ + 1 => .cons h (paired_rep h)
theorem powOk {a n : Int} (h : IB 2 a) (h0 : 0 ≤ n) (h3 : n ≤ 100) : (Builtin.Int.intBits a : Int) * n ≤ 2 ^ 27 := by
  have h1 := intBits_of h.le
  have : (Builtin.Int.intBits a : Int) * n ≤ 3 * 100 := Int.mul_le_mul (by walk_at "om") h3 h0 (by decide)
  walk_at "om"
theorem addTo_length {a b : List Int} {i : Nat} : (addTo a b i).length = a.length := by simp [addTo]
end Mine
open Mine
theorem Mine.rules15 : True := by
  k_with "get" => (first | exact (St.muh (by assumption) _ (by walk_at "mem")).1 | exact (St.has (by assumption) _ (by walk_at "mem")).1)
  k_with "binaryOp Mult ref int" => (((with_reducible show wpAny _ _ (binaryOp _ (Value.ref _) (Value.int (Nat.cast _) _)) _ _ _); (rename St _ _ _ _ _ _ _ _ _ _ _ _ _ _ _ => kS); k_dflt (refine' St.repeat1 (St.tok kS _) ?k1 ?k2 ?_; (case k1 => walk_at "get"); (case k2 => walk_at "om")); clear kS; intro D' s' kS))
  k_with "prel" => ((with_reducible refine' pintCons ?kz); (case kz => walk_at "prel"))
  k_with "binaryOp Add" => (((with_reducible show wpAny _ _ (binaryOp _ _ (Value.ref _)) _ _ _); (rename St _ _ _ _ _ _ _ _ _ _ _ _ _ _ _ => kS); k_dflt (refine' St.addListsR (R := IntIn) (St.tok kS _) ?k3 ?k1 ?k2 ?k4 ?k5 ?_; (case k1 => walk_at "mem"); (case k2 => walk_at "prel"); (case k3 => walk_at "irel"); (case k4 => walk_at "size"); (case k5 => walk_at "size")); clear kS; intro D' s' us' kS hw'))
  k_with "binaryOp Pow int int" => ((k_dflt (refine' pow_int ?k1 ?k2 ?_; (case k1 => walk_at "om"); (case k2 => assumption))))
  k_with "subscriptTail" => (((with_reducible show wpAny _ _ (subscriptTail _ _ (Value.ref _) (Value.int _ _)) _ _ _); (rename St _ _ _ _ _ _ _ _ _ _ _ _ _ _ _ => kS); k_dflt (refine' St.itemM (R := IntIn) (St.tok kS _) ?k6 ?k1 ?k2 ?k3 ?k5 ?_ ?k4; (case k4 => intro _; with_unfolding_all rfl); (case k6 => walk_at "mem"); (case k1 => walk_at "prel"); (case k5 => walk_at "idx"); (case k2 => walk_at "om"); (case k3 => walk_at "om")); intro v' hv' hw'; refine Exists.elim hw' ?_; clear hw'; intro t9 hw'; subst hw'; clear hv'))
  trivial
namespace Mine
section
variable {w : World} {mean : ExcName → Option Value} {mg mb : Str → Option Value}
theorem moved_con {ns : List Int} {many more : Int} {tm tn : Tok} {b : Nat} {v : Value} {led : Led} (hv : IntsIn led v ns) (hn : ns.length ≤ 4) (hb : IBr b ns) (hb2 : b ≤ 100000) (hm : IB 2 many) (hm2' : IB 2 more) :
    Con (Mine.hd.heap_39 w.params) Mine.view (looseW Mine.view []) mean mg mb PySem.Challenge.rw_sa0086_01.row.prog w 189 [v, .int many tm, .int more tn] 20 led (fun l v => IntsIn l v (movedTo ns many more ns.length)) := by
  k_fill
  intro s dp un gd fr E Am H hd hu
  have hbig : big = 1000000 := rfl
  walk_at "enter"
  k_steps
  rename St _ _ _ _ _ _ _ _ _ _ _ _ _ _ _ => kS
  rename (∀ b ∈ ownOf _ _, _) => hO
  replace kS := kS.muSwap.forget
  unfold Hold
  refine wpAny_For ?_
  k_steps
  unfold Hold
  rename St _ _ _ _ _ _ _ _ _ _ _ _ _ _ _ => kS
  refine for_enum kS hO rfl hv rfl ⟨by walk_at "tgt", by walk_at "tgt"⟩
    (fun i m l mu => m "numbers" = some v ∧ m "many" = some (.int many tm) ∧ m "more" = some (.int more tn) ∧ ∃ F ws d, m "found" = some (.ref F) ∧ mu = [(F, lstO ws d)] ∧ Paired (IntIn l) ws (movedTo ns many more i))
    ⟨by walk_at "km", by walk_at "km", by walk_at "km", _, _, _, by walk_at "km", rfl, paired_rep⟩ ?turn ?hR
  case hR =>
    rintro m' tl mu' s' kS' ⟨hm1, hm2, hm3, F, ws, d, hm4, rfl, hP⟩
    clear kS hO
    dsimp only
    k_steps
    rename St _ _ _ _ _ _ _ _ _ _ _ _ _ _ _ => kS
    exact kS.freeze.done ⟨_, _, _, rfl, .head _, hP⟩
  case turn =>
    clear kS hO
    rintro i s₀' m₁ y vy t tl mu₁ s₂ E' hi hy hR ⟨hm1, hm2, hm3, F, ws, d, hm4, rfl, hP⟩ kS hO
    obtain ⟨ty, rfl⟩ := hR
    have hyb := hb y (List.mem_of_getElem? hy)
    have hex : ((ns.length : Int) - 1 - (i : Int)).toNat = ns.length - 1 - i := by walk_at "om"
    have hpb := hm.pow ((ns.length : Int) - 1 - (i : Int)).toNat
    have hpw := powOk (n := (ns.length : Int) - 1 - (i : Int)) hm (by walk_at "om") (by walk_at "om")
    have hok := hyb.ok hpb (by walk_at "om") (by walk_at "om")
    refine stop_wp ?_
    k_steps
    rename St _ _ _ _ _ _ _ _ _ _ _ _ _ _ _ => kS
    replace kS := kS.freeze
    have hxb : IB (b + 6) (y * many ^ ((ns.length : Int) - 1 - (i : Int)).toNat) := (hyb.mul hpb).mono (by walk_at "om")
    have hgy := getD_of (d := (0 : Int)) hy
    rw [hex] at kS hxb
    generalize hX : y * many ^ (ns.length - 1 - i) = X at kS hxb
    unfold Hold
    refine wpAny_For ?_
    k_steps
    unfold Hold
    rename St _ _ _ _ _ _ _ _ _ _ _ _ _ _ _ => kS
    rename IsRange _ _ _ _ _ _ _ _ => hRg
    refine for_range (n := i) kS hO rfl hRg (small_lt (by walk_at "om") (by walk_at "om")) (by walk_at "om") (by walk_at "tgt")
      (fun t m l mu => m "numbers" = some v ∧ m "many" = some (.int many tm) ∧ m "more" = some (.int more tn) ∧ m "found" = some (.ref F) ∧ mu = [(F, lstO ws d)] ∧ Paired (IntIn l) ws (movedTo ns many more i) ∧ ∃ rv, m "row" = some rv ∧ IntsIn l rv (movRow X more t))
      ⟨by walk_at "km", by walk_at "km", by walk_at "km", by walk_at "km", rfl, pintAny hP, _, by walk_at "km", ⟨_, _, _, rfl, .head _, .cons ⟨_, rfl⟩ .nil⟩⟩ ?turn2 ?hR2
    case turn2 =>
      clear kS hO hRg
      rintro j s5 m5 t5 tl5 mu5 s4 E5 hj ⟨hm1, hm2, hm3, hm4, rfl, hP, rv, hm5, hrow⟩ kS hO
      rw [Int.zero_add] at kS
      have hrb := movRow_ib hxb hm2' j
      have hrl := movRow_length (x := X) (more := more) j
      generalize hRW : movRow X more j = row at *
      refine stop_wp ?_
      k_steps
      rename St _ _ _ _ _ _ _ _ _ _ _ _ _ _ _ => kS
      unfold Hold
      refine comp_asg (j + 2) (fun _ => true) (fun x l v => IntIn l v ((([0] ++ row : List Int).getD x 0) - more * ((row ++ [0] : List Int).getD x 0))) (fun _ _ _ _ h => h) ([(F, lstO ws d)] ++ St.ledOf kS) (by walk_at "om") (by with_unfolding_all rfl) (by with_unfolding_all rfl) (by decide) (by walk_at "hoc") rfl (by decide) (by with_unfolding_all rfl) (by with_unfolding_all rfl) ?hit
      unfold St.ledOf
      k_steps
      rename St _ _ _ _ _ _ _ _ _ _ _ _ _ _ _ => kS
      replace kS := kS.freeze.forget.freeze.forget
      rename Paired _ _ ([0] ++ _) => hw1
      rename Paired _ _ (_ ++ [0]) => hw2
      refine wpAny_mono (comp_zipA (R := IntIn) (R' := IntIn) kS hO (by with_unfolding_all rfl) [(Str.ofString "more", .int more tn)] rfl ⟨_, _, _, rfl, .head _, pintAny hw1⟩ ⟨_, _, _, rfl, .tail _ (.head _), pintAny hw2⟩ (n := j + 2) (by simp; walk_at "om") (fun C => ⟨by walk_at "tgt", by walk_at "tgt"⟩) (by walk_at "clo") (by intros; exact tests_nil) ?turn3 ?hQ3)
        (fun _ _ h => wpAny_mono h (fun _ _ h => AsgGoal.led h fun _ _ _ _ h => h) fun _ _ h => h) fun _ _ h => h
      case turn3 =>
        clear kS
        intro x C m7 y1 z1 v1 u1 tl7 s7 E7 hx _ hy1 hR1 hz1 hR2 kS
        obtain ⟨ty1, rfl⟩ := hR1
        obtain ⟨tz1, rfl⟩ := hR2
        have e1 : (0 :: row).getD x 0 = y1 := getD_of (d := (0 : Int)) hy1
        have e2 := getD_of (d := (0 : Int)) hz1
        have hz1b : IB (b + 6 + 3 * j) z1 := (List.mem_append.mp (List.mem_of_getElem? hz1)).elim (hrb z1) (fun h => by rw [List.mem_singleton.mp h]; exact IB.zero)
        have hok2 := hm2'.ok hz1b (by walk_at "om") (by walk_at "om")
        k_steps
        rename St _ _ _ _ _ _ _ _ _ _ _ _ _ _ _ => kS
        refine (St.tok kS _).done ?_
        rw [e1, e2]
        exact ⟨_, rfl⟩
      case hQ3 =>
        clear kS
        intro D9 us9 c9 s9 tl9 kS hP9
        k_steps

        refine Stop.mk ?_
        refine ⟨.inl rfl, ?_⟩
        refine ⟨_, _, _, kS.freeze, ?_⟩
        refine ⟨by walk_at "km", by walk_at "km", by walk_at "km", by walk_at "km", rfl, pintAny hP, _, by walk_at "km", ?_⟩
        refine ⟨_, _, _, rfl, .head _, ?_⟩
        rw [filter_true] at hP9
        unfold movRow movStep
        rw [hRW, hrl]
        exact paired_range (G := fun (v : Value) (j : Int) => IntIn led v j) _ (fun x y h => h) hP9
    case hR2 =>
      clear kS hRg
      rintro m9 tl9 mu9 s9 kS ⟨hm1, hm2, hm3, hm4, rfl, hP, rv, hm5, hrow⟩
      dsimp only
      have hrl := movRow_length (x := X) (more := more) i
      have hfl := movedTo_length (ns := ns) (many := many) (more := more) i
      k_steps
      unfold Hold
      refine wpAny_For ?_
      k_steps
      unfold Hold
      rename St _ _ _ _ _ _ _ _ _ _ _ _ _ _ _ => kS
      refine for_enum kS hO rfl hrow hrl ⟨by walk_at "tgt", by walk_at "tgt"⟩
        (fun t m l mu => m "numbers" = some v ∧ m "many" = some (.int many tm) ∧ m "more" = some (.int more tn) ∧ m "found" = some (.ref F) ∧ ∃ ws d, mu = [(F, lstO ws d)] ∧ Paired (IntIn l) ws (addTo (movedTo ns many more i) (movRow X more i) t))
        ⟨by walk_at "km", by walk_at "km", by walk_at "km", by walk_at "km", _, _, rfl, by rw [addTo_zero]; exact pintAny hP⟩ ?turn4 ?hR4
      case turn4 =>
        clear kS hO
        rintro x s7 m7 y1 v1 t7 tl7 mu7 s8 E7 hx hy1 hR1 ⟨hm1, hm2, hm3, hm4, ws, d, rfl, hP⟩ kS hO
        obtain ⟨ty1, rfl⟩ := hR1
        have e1 := getD_of (d := (0 : Int)) hy1
        have hal := addTo_length (a := movedTo ns many more i) (b := movRow X more i) (i := x)
        have hit := some_getD (xs := addTo (movedTo ns many more i) (movRow X more i) x) (d := (0 : Int)) (show x < _ by walk_at "om")
        have hwl := hP.length
        refine stop_wp ?_
        k_steps
        rename St _ _ _ _ _ _ _ _ _ _ _ _ _ _ _ => kS
        refine Stop.mk ?_
        refine ⟨.inl rfl, ?_⟩
        refine ⟨_, _, _, kS, ?_⟩
        refine ⟨by walk_at "km", by walk_at "km", by walk_at "km", by walk_at "km", _, _, rfl, ?_⟩
        rw [addTo_succ (by walk_at "om"), e1]
        exact paired_set ⟨_, rfl⟩ (pintAny hP) _
      case hR4 =>
        clear kS hO
        rintro m7 tl7 mu7 s7 kS ⟨hm1, hm2, hm3, hm4, ws, d, rfl, hP⟩
        dsimp only
        k_steps
        rename St _ _ _ _ _ _ _ _ _ _ _ _ _ _ _ => kS
        refine Stop.mk ?_
        refine ⟨.inl rfl, ?_⟩
        refine ⟨_, _, _, kS, ?_⟩
        refine ⟨by walk_at "km", by walk_at "km", by walk_at "km", _, _, _, by walk_at "km", rfl, ?_⟩
        unfold movedTo
        rw [hgy, hX]
        exact pintAny hP
end
end Mine

-- G17
namespace Mine
noncomputable abbrev invOk (M : List (List Rat)) (n : Nat) : Prop := (echTo (wideR M n) (2 * n)).2.take n = List.range n
noncomputable abbrev invR (M : List (List Rat)) (n : Nat) : List (List Rat) := (echTo (wideR M n) (2 * n)).1.map fun r => r.drop n
theorem dim_inv {M : List (List Rat)} {n b : Nat} (hD : Dim M n n) (hB : RBm b M) : Dim (invR M n) n n := by
  obtain ⟨h1, _, _⟩ := ech_inv (dim_wide hD) (rb_wide (n := n) hB) (2 * n)
  refine ⟨by simp [invR, h1.rows], fun r hr => ?_⟩
  obtain ⟨q, hq, rfl⟩ := List.mem_map.mp hr
  rw [List.length_drop, h1.cols q hq]; walk_at "om"
theorem eb_le3 {b p : Nat} (hp : p ≤ 3) : eb b p ≤ 64 * b + 21 := by
  have : p = 0 ∨ p = 1 ∨ p = 2 ∨ p = 3 := by walk_at "om"
  rcases this with rfl | rfl | rfl | rfl <;> simp only [eb] <;> walk_at "om"
theorem rb_inv {M : List (List Rat)} {n b : Nat} (hD : Dim M n n) (hn : n ≤ 3) (hB : RBm b M) : RBm (64 * b + 21) (invR M n) := by
  obtain ⟨_, h2, h3⟩ := ech_inv (dim_wide hD) (rb_wide (n := n) hB) (2 * n)
  intro r hr x hx
  obtain ⟨q, hq, rfl⟩ := List.mem_map.mp hr
  exact (h2 q hq x (List.mem_of_mem_drop hx)).mono (eb_le3 (by walk_at "om"))
theorem charR_length {M : List (List Rat)} {n : Nat} : (charR M n).length = n + 1 := by simp [charR]
theorem rb_char {M : List (List Rat)} {n b : Nat} (hD : Dim M n n) (hn : n ≤ 3) (hB : RBm b M) (hb : b ≤ 500) : RBr (2000 * b + 10000) (charR M n) := fun x hx => by
  unfold charR at hx
  rw [List.mem_reverse] at hx
  rcases List.mem_cons.mp hx with rfl | hx
  · exact RB.one
  · obtain ⟨i, hi, rfl⟩ := List.mem_map.mp hx
    have hi3 := List.mem_range.mp hi
    have h1 := rb_mul (k := n) hD hn hB (rb_fad hD hn hB i (by walk_at "om"))
    have h2 := fb_le hb i (by walk_at "om")
    exact (rb_num hn (by walk_at "om") h1).mono (by walk_at "om")
theorem RatIn.tup {l : Led} {v : Value} {q : Rat} (h0 : (42, tupO [.int 0 232, .int 1 233] 0) ∈ l) (h1 : (43, tupO [.int 1 235, .int 1 236] 0) ∈ l) (h : RatIn l v q) :
    ∃ T t1 t2 c, v = .ref T ∧ (T, tupO [.int q.num t1, .int q.den t2] c) ∈ l := by
  cases h with
  | mem h => exact ⟨_, _, _, _, rfl, h⟩
  | zero => exact ⟨_, _, _, _, rfl, h0⟩
  | one => exact ⟨_, _, _, _, rfl, h1⟩
theorem rats_tup {l : Led} {vs : List Value} {xs : List Rat} (h0 : (42, tupO [.int 0 232, .int 1 233] 0) ∈ l) (h1 : (43, tupO [.int 1 235, .int 1 236] 0) ∈ l) (h : Paired (RatIn l) vs xs) :
    ∃ (Ts : Nat → Addr) (f g : Nat → Tok), ∀ j, j < vs.length → vs[j]? = some (.ref (Ts j)) ∧ ∃ c, (Ts j, tupO [.int (xs.getD j 0).num (f j), .int (xs.getD j 0).den (g j)] c) ∈ l := by
  have key : ∀ j : Nat, ∃ w : Addr × Tok × Tok, j < vs.length → vs[j]? = some (.ref w.1) ∧ ∃ c, (w.1, tupO [.int (xs.getD j 0).num w.2.1, .int (xs.getD j 0).den w.2.2] c) ∈ l := fun j => by
    by_cases hj : j < vs.length
    · obtain ⟨a, ha, hR⟩ := pairedAt h (some_getD (xs := xs) (i := j) (d := 0) (by rw [← h.length]; exact hj))
      obtain ⟨T, t1, t2, c, rfl, hm⟩ := hR.tup h0 h1
      exact ⟨(T, t1, t2), fun _ => ⟨ha, c, hm⟩⟩
    · exact ⟨(0, 0, 0), fun h => absurd h hj⟩
  obtain ⟨F, hF⟩ := Classical.axiomOfChoice key
  exact ⟨fun j => (F j).1, fun j => (F j).2.1, fun j => (F j).2.2, hF⟩
theorem Con.more {K : Frag} {p : Program} {loose : List Str} {mean : ExcName → Option Value} {mg mb : Str → Option Value} {prog : Program} {w : World} {f : Addr} {vs : List Value} {dep : Nat} {led ex : Led} {P : Value → Prop}
    (h : ∀ h : Heap, K.In h → Has h ex) (C : Con K p loose mean mg mb prog w f vs dep (ex ++ led) (fun _ v => P v)) : Con K p loose mean mg mb prog w f vs dep led (fun _ v => P v) :=
  fun s dp un gd fr E Am H hd hu => wpAny_mono (C s dp un gd fr E Am ((h _ Am.kin).append H) hd hu) (fun _ _ ⟨h', tk, tl, e, ex, ht, hf, o⟩ => ⟨h', tk, tl, e, ex, ht, hf, o⟩) fun _ _ h => h
noncomputable abbrev consts : Led := [(42, tupO [.int 0 232, .int 1 233] 0), (43, tupO [.int 1 235, .int 1 236] 0)]
theorem Con.imp {K : Frag} {p : Program} {loose : List Str} {mean : ExcName → Option Value} {mg mb : Str → Option Value} {prog : Program} {w : World} {f : Addr} {vs : List Value} {dep : Nat} {led : Led} {O O' : Led → Value → Prop}
    (C : Con K p loose mean mg mb prog w f vs dep led O) (h : ∀ l v, O l v → O' l v) : Con K p loose mean mg mb prog w f vs dep led O' :=
  fun s dp un gd fr E Am H hd hu => wpAny_mono (C s dp un gd fr E Am H hd hu) (fun _ _ m => m.imp h) fun _ _ h => h
section
variable {w : World} {mean : ExcName → Option Value} {mg mb : Str → Option Value}
theorem inv_yes {M : List (List Rat)} {n b : Nat} {a : Value} {led : Led} (ha : MatIn led a M) (hD : Dim M n n) (h0 : 0 < n) (hn : n ≤ 3) (hB : RBm b M) (hb : b ≤ 1000) (h : invOk M n) :
    Con (Mine.hd.heap_39 w.params) Mine.view (looseW Mine.view []) mean mg mb PySem.Challenge.rw_sa0086_01.row.prog w 165 [a] 140 led (fun l v => MatIn l v (invR M n)) :=
  (inv_con ha hD h0 hn hB hb).imp fun l v o => by rw [if_pos h] at o; exact o
theorem inv_no {M : List (List Rat)} {n b : Nat} {a : Value} {led : Led} (ha : MatIn led a M) (hD : Dim M n n) (h0 : 0 < n) (hn : n ≤ 3) (hB : RBm b M) (hb : b ≤ 1000) (h : ¬ invOk M n) :
    Con (Mine.hd.heap_39 w.params) Mine.view (looseW Mine.view []) mean mg mb PySem.Challenge.rw_sa0086_01.row.prog w 165 [a] 140 led (fun l v => v = .none) :=
  (inv_con ha hD h0 hn hB hb).imp fun l v o => by rw [if_neg h] at o; exact o
end
end Mine
open Mine
theorem Mine.rules16 : True := by
  k_with "con" => (((with_reducible show Con _ _ _ _ _ _ _ _ 165 _ _ _ _); first | (refine' inv_yes ?a1 ?a2 ?a3 ?a4 ?a5 ?a6 ?a7; (case a7 => with_reducible assumption); (case a1 => walk_at "rel"); (case a2 => assumption); (case a3 => walk_at "om"); (case a4 => walk_at "om"); (case a5 => walk_at "rb"); (case a6 => walk_at "om")) | (refine' inv_no ?a1 ?a2 ?a3 ?a4 ?a5 ?a6 ?a7; (case a7 => with_reducible assumption); (case a1 => walk_at "rel"); (case a2 => assumption); (case a3 => walk_at "om"); (case a4 => walk_at "om"); (case a5 => walk_at "rb"); (case a6 => walk_at "om"))))
  k_with "con" => (((with_reducible show Con _ _ _ _ _ _ _ _ 172 _ _ _ _); (refine' char_con ?a1 ?a2 ?a3 ?a4 ?a5 ?a6; (case a1 => walk_at "rel"); (case a2 => assumption); (case a3 => walk_at "om"); (case a4 => walk_at "om"); (case a5 => walk_at "rb"); (case a6 => walk_at "om"))))
  k_with "subscriptTail" => (((with_reducible show wpAny _ _ (subscriptTail _ _ _ (Value.int _ _)) _ _ _); (rename St _ _ _ _ _ _ _ _ _ _ _ _ _ _ _ => kS); k_dflt (refine' St.item (R := IntIn) (St.tok kS _) ?k1 ?k2 ?k3 ?k5 ?_ ?k4; (case k4 => intro _; with_unfolding_all rfl); (case k1 => walk_at "irel"); (case k5 => walk_at "idx"); (case k2 => walk_at "om"); (case k3 => walk_at "om")); intro v' hv'; refine Exists.elim hv' ?_; clear hv'; intro t9 hv'; subst hv'))
  trivial
namespace Mine
section
variable {w : World} {mean : ExcName → Option Value} {mg mb : Str → Option Value}
theorem turned_con' {M : List (List Rat)} {n b c : Nat} {ns : List Int} {a v : Value} {led : Led} (hc0 : (42, tupO [.int 0 232, .int 1 233] 0) ∈ led) (hc1 : (43, tupO [.int 1 235, .int 1 236] 0) ∈ led) (ha : MatIn led a M) (hv : IntsIn led v ns) (hD : Dim M n n) (h0 : 0 < n) (hn : n ≤ 3) (hB : RBm b M) (hb : b ≤ 4) (hns : ns.length = n + 1) (hnb : IBr c ns) (hc : c ≤ 100000)
    (h1 : ns.getD 0 0 = 0 ↔ ¬ invOk M n) (h2 : invOk M n → ∀ i, i < n + 1 → ((charR (invR M n) n).getD i 0).num * ns.getD 0 0 = ((charR (invR M n) n).getD i 0).den * ns.getD (n - i) 0) :
    Con (Mine.hd.heap_39 w.params) Mine.view (looseW Mine.view []) mean mg mb PySem.Challenge.rw_sa0086_01.row.prog w 194 [a, v] 160 led (fun _ v => v = .bool true) := by
  have hbig : big = 1000000 := rfl
  have hn0 := some_getD (xs := ns) (d := (0 : Int)) (i := 0) (by walk_at "om")
  by_cases hok : invOk M n
  · have hf0 : ns.getD 0 0 ≠ 0 := fun h => h1.mp h hok
    have h3 := h2 hok
    clear h1 h2
    k_fill
    intro s dp un gd fr E Am H hd hu
    walk_at "enter"
    k_steps
    rename MatIn _ _ (invR _ _) => hI
    obtain ⟨Bk, bus, bc, rfl, hIm, hIp⟩ := hI
    have hI : MatIn _ (.ref Bk) (invR M n) := ⟨Bk, bus, bc, rfl, hIm, hIp⟩
    clear hIm hIp
    have hID := dim_inv hD hB
    have hIB := rb_inv hD hn hB
    have hIr := hID.rows
    have hID' : Dim (invR M n) (invR M n).length (invR M n).length := by rw [hIr]; exact hID
    have hCl := charR_length (M := invR M n) (n := (invR M n).length)
    have hCB := rb_char hID hn hIB (by walk_at "om")
    generalize hIX : invR M n = X at *
    k_steps
    unfold Hold
    rename St _ _ _ _ _ _ _ _ _ _ _ _ _ _ _ => kS
    rename RowIn _ _ (charR _ _) => hT
    rw [hIr] at hT hCl
    obtain ⟨Tl, tvs, tc, rfl, hTm, hTp⟩ := hT
    have hT : RowIn _ (.ref Tl) (charR X n) := ⟨Tl, tvs, tc, rfl, hTm, hTp⟩
    have hTl := hTp.length
    obtain ⟨Ts, tf, tg, hTs⟩ := rats_tup (by walk_at "mem") (by walk_at "mem") hTp
    have hfb := hnb.at 0
    generalize hC : charR X n = ch at *
    clear hC
    refine comp_pure (n + 1) (fun _ => true) (fun i l v => IntIn l v ((ch.getD i 0).num * ns.getD 0 0)) (fun _ _ _ _ h => h) (St.ledOf kS) (by walk_at "om") (by with_unfolding_all rfl) (by decide) (by walk_at "hoc") rfl (by decide) ?hit
    unfold St.ledOf
    k_steps
    unfold Hold
    rename St _ _ _ _ _ _ _ _ _ _ _ _ _ _ _ => kS
    refine comp_pairs Ts (fun i => .int (ch.getD i 0).num (tf i)) (fun i => .int (ch.getD i 0).den (tg i)) (St.tok kS _) [(Str.ofString "first", .int (ns.getD 0 0) _)] rfl hTm (by walk_at "om") hTs (fun C => ⟨by walk_at "tgt", by walk_at "tgt"⟩) (by walk_at "clo") (by intros; exact tests_nil) ?turn ?hQ
    case turn =>
      clear kS
      intro i C m₁ tl s₃ E' hi _ kS
      have hb1 := hCB.at i
      have hok2 : IntMulOk (ch.getD i 0).num (ns.getD 0 0) := mulOk hb1.num hfb.le (by walk_at "om") (by walk_at "om")
      k_steps
      rename St _ _ _ _ _ _ _ _ _ _ _ _ _ _ _ => kS
      exact (St.tok kS _).done ⟨_, rfl⟩
    case hQ =>
      clear kS
      intro D us c' s' tl kS hP
      rw [filter_true] at hP
      have hP1 := paired_range (G := fun (v : Value) (j : Int) => IntIn led v j) (fun i => (ch.getD i 0).num * ns.getD 0 0) (fun x y h => h) hP
      clear hP
      k_steps
      unfold Hold
      rename St _ _ _ _ _ _ _ _ _ _ _ _ _ _ _ => kS
      refine comp_pure (n + 1) (fun _ => true) (fun i l v => IntIn l v ((ch.getD i 0).den * ns.getD (n - i) 0)) (fun _ _ _ _ h => h) (St.ledOf kS) (by walk_at "om") (by with_unfolding_all rfl) (by decide) (by walk_at "hoc") rfl (by decide) ?hit2
      unfold St.ledOf
      k_steps
      unfold Hold
      rename St _ _ _ _ _ _ _ _ _ _ _ _ _ _ _ => kS
      refine comp_enum (St.tok kS _) [(Str.ofString "numbers", v)] rfl (rowSub hT subApp) (by walk_at "om") (fun C => ⟨by walk_at "tgt", by walk_at "tgt"⟩) (by walk_at "clo") (by intros; exact tests_nil) ?turn2 ?hQ2
      case turn2 =>
        clear kS
        intro i C m₁ y v1 t1 tl2 s₃ E' hi _ hy hR kS
        have e1 := getD_of (d := (0 : Rat)) hy
        have hb1 := hCB.at i
        have hex : ((ns.length : Int) - 1 - (i : Int)).toNat = n - i := by walk_at "om"
        have hnx := some_getD (xs := ns) (d := (0 : Int)) (i := ((ns.length : Int) - 1 - (i : Int)).toNat) (by walk_at "om")
        have hok2 : IntMulOk y.den (ns.getD ((ns.length : Int) - 1 - (i : Int)).toNat 0) := mulOk (by rw [← e1]; simpa using hb1.den) (hnb.at _).le (by walk_at "om") (by walk_at "om")
        k_steps
        rename St _ _ _ _ _ _ _ _ _ _ _ _ _ _ _ => kS
        refine (St.tok kS _).done ?_
        rw [e1, hex]
        exact ⟨_, rfl⟩
      case hQ2 =>
        clear kS
        intro D2 us2 c2 s2 tl2 kS hP
        rw [filter_true] at hP
        have hP2 := paired_range (G := fun (v : Value) (j : Int) => IntIn led v j) (fun i => ((ch.getD i 0).den : Int) * ns.getD (n - i) 0) (fun x y h => h) hP
        clear hP
        have hPe : (List.range (n + 1)).map (fun i => (ch.getD i 0).num * ns.getD 0 0) = (List.range (n + 1)).map (fun i => ((ch.getD i 0).den : Int) * ns.getD (n - i) 0) := List.map_congr_left fun i hi => h3 i (List.mem_range.mp hi)
        rw [hPe] at hP1
        k_steps
        rename St _ _ _ _ _ _ _ _ _ _ _ _ _ _ _ => kS
        exact kS.done (by rw [decide_eq_true rfl])
  · have hf0 : ns.getD 0 0 = 0 := h1.mpr hok
    clear h1 h2
    k_fill
    intro s dp un gd fr E Am H hd hu
    walk_at "enter"
    k_steps
    rename St _ _ _ _ _ _ _ _ _ _ _ _ _ _ _ => kS
    exact (St.tok kS _).done rfl
theorem consts_in {w : World} : ∀ h : Heap, (Mine.hd.heap_39 w.params).In h → Has h consts := fun h hK q hq => by
  simp only [List.mem_cons, List.not_mem_nil, or_false] at hq
  rcases hq with rfl | rfl
  · exact ⟨hK _ _ (by k_is), rfl⟩
  · exact ⟨hK _ _ (by k_is), rfl⟩
theorem turned_con {M : List (List Rat)} {n b c : Nat} {ns : List Int} {a v : Value} {led : Led} (ha : MatIn led a M) (hv : IntsIn led v ns) (hD : Dim M n n) (h0 : 0 < n) (hn : n ≤ 3) (hB : RBm b M) (hb : b ≤ 4) (hns : ns.length = n + 1) (hnb : IBr c ns) (hc : c ≤ 100000)
    (h1 : ns.getD 0 0 = 0 ↔ ¬ invOk M n) (h2 : invOk M n → ∀ i, i < n + 1 → ((charR (invR M n) n).getD i 0).num * ns.getD 0 0 = ((charR (invR M n) n).getD i 0).den * ns.getD (n - i) 0) :
    Con (Mine.hd.heap_39 w.params) Mine.view (looseW Mine.view []) mean mg mb PySem.Challenge.rw_sa0086_01.row.prog w 194 [a, v] 160 led (fun _ v => v = .bool true) :=
  Con.more consts_in (turned_con' (List.mem_append_left _ (.head _)) (List.mem_append_left _ (.tail _ (.head _))) (matSub ha subApp) (intsSub hv subApp) hD h0 hn hB hb hns hnb hc h1 h2)
end
end Mine

-- Lst7
namespace Mine
open Sem (wp)
section
variable {K : Frag} {p : Program} {loose : List Str} {mean : ExcName → Option Value} {mg mb : Str → Option Value} {s₀ : Shared} {led₀ : Led} {env : Env} {oc : List (Str × Addr)} {cl : List (Str × Value)} {m : Str → Option Value} {led mu : Led} {s : Shared}
  {A : Around} {E : Value → Shared → Prop} {prog : Program} {w : World} {pos : Pos}
theorem St.noMu (S : St K p loose mean mg mb s₀ led₀ env oc cl m led mu s) : St K p loose mean mg mb s₀ led₀ env oc cl m led [] s :=
  ⟨S.amb, S.same, S.ext, S.frm, S.clo, S.has, S.new, Has.nil, (fun _ h => nomatch h), List.nodup_nil⟩
/-- a list stored under a name by a comprehension that leaves mu as it is and does not look at it -/
theorem comp_atA0 {st : Bool} {elt target : Expr} {ifs : List Expr} {scope : Scope} {clo : List (Str × Addr)} {tg : List Str} {Bd : Nat → (Str → Option Value) → (Str → Option Value) → Prop} {n : Nat} {pf : Nat → Bool} {Rl : Nat → Led → Value → Prop} {it : Value} {s₂ : Shared} {y : Str} {Q : Flow → Shared → Prop}
    (S : St K p loose mean mg mb s₀ led₀ env oc [] m led mu s) (own0 : ∀ b ∈ ownOf env oc, s₀.heap.get? b = none) (hy : env.kindOf y = some .local) (cl' : List (Str × Value)) (IT : IterAt st prog w A led s it s₂ target tg n Bd)
    (htg : ∀ C, ∀ x ∈ tg, TgtOk (cenvOf scope clo env C) (ocOf scope.names C) x) (hcl : CloOk scope env clo s cl')
    (tests : ∀ i C m₁ m' led' s₃ E', i < n → Bd i m₁ m' → (∃ tl, led' = tl ++ led) → St K p loose mean mg mb s₃ led' (cenvOf scope clo env C) (ocOf scope.names C) cl' m' led' [] s₃ →
      testsOf prog w A ifs (cenvOf scope clo env C) (fun ok s₄ => ok = pf i ∧ Keeps s₃ s₄) E' s₃)
    (turn : ∀ i C m₁ m' led' s₃ E', i < n → pf i = true → Bd i m₁ m' → (∃ tl, led' = tl ++ led) → St K p loose mean mg mb s₃ led' (cenvOf scope clo env C) (ocOf scope.names C) cl' m' led' [] s₃ →
      wpAny (model prog w) A (eval elt (cenvOf scope clo env C)) (Made s₃ led' (Rl i)) E' s₃)
    (hQ : ∀ D vs c s' tl, St K p loose mean mg mb s₀ led₀ env oc [] (upd m y (.ref D)) (tl ++ led) ((D, lstO vs c) :: mu) s' → Paired (fun i y => Rl i (tl ++ led) y) ((List.range n).filter pf) vs → Q .next s') :
    AsgGoal prog w A env elt target ifs scope clo Rl led n pf y Q it s₂ := by
  obtain ⟨wr, CA, hwr, hex, hs, tks, rfl⟩ := comp_elt S.noMu cl' IT htg hcl tests turn
  obtain ⟨ml, hn, hl⟩ := S.frm.loc
  obtain ⟨ol, hol, _⟩ := S.frm.live env.locals mem_own_loc
  have hLw : env.locals ∉ wr := fun h => by rw [hwr _ h] at hol; cases hol
  refine ⟨wr, ml, CA, trivial, hn.at' (fun o e => hex _ _ e), hLw, (fun h => nomatch h), fun D h' tk ys tl c hD hl' _ hT hTf hDt hP hn' hx => ?_⟩
  obtain ⟨ys⟩ := ys
  have e : ∀ b o, b ≠ env.locals → s.heap.get? b = some o → h'.get? b = some o := fun b o hb e => hx b o (fun h => by rw [List.nil_append] at h; rw [hwr b h] at e; cases e) hb (hex b o e)
  have hDs : s.heap.get? D = none := by
    cases q : s.heap.get? D with
    | none => rfl
    | some o => have := hex _ _ q; rw [hD] at this; cases this
  have nl : ∀ {l : Led}, Has s.heap l → ∀ q ∈ l, q.1 ≠ env.locals := fun H q hq he => S.frm.notHas H q hq (he ▸ mem_own_loc)
  have hTs : Fresh s.heap tl := hTf.back hex
  refine hQ D ys c _ tl ⟨S.amb, ?_, fun b o h => e b o (fun q => by rw [q, own0 _ mem_own_loc] at h; cases h) (S.ext b o h), ⟨S.frm.fn, ⟨_, hn', fun z hz => ?_⟩, fun q hq => ?_, S.frm.knd, S.frm.inj⟩, (fun _ h => nomatch h),
    hT.append (S.has.via fun q hq o => e _ o (nl S.has q hq)), ?_, fun q hq => (List.mem_cons.mp hq).elim (fun h => by rw [h]; exact ⟨hl', rfl⟩) (S.muh.via (fun q hq o => e _ o (nl S.muh q hq)) q), fun q hq => ?_, ?_⟩ hP
  · obtain ⟨h, t, e⟩ := S.same
    exact ⟨h', tk, by rw [e]⟩
  · by_cases q : z = y
    · subst q; exact (upd_eq (m := ml)).trans (upd_eq (m := m)).symm
    · exact (upd_ne (m := ml) q).trans ((hl z hz).trans (upd_ne (m := m) q).symm)
  · have hk := S.frm.knd q hq
    have hyx : q.1 ≠ y := fun e => by rw [e, hy] at hk; cases hk.1
    simp only [upd, if_neg hyx]
    obtain ⟨o, ho, r⟩ := S.frm.cel q hq
    exact ⟨o, e _ _ hk.2.2 ho, r⟩
  · obtain ⟨t0, e0, f0⟩ := S.new
    exact ⟨tl ++ t0, by rw [e0, List.append_assoc], (hTs.back S.ext).append f0⟩
  · rcases List.mem_cons.mp hq with rfl | hq
    · refine ⟨?_, fun r hr => (List.mem_append.mp hr).elim (hDt r) fun hr he => ?_⟩
      · cases q0 : s₀.heap.get? D with
        | none => rfl
        | some o' => rw [S.ext _ _ q0] at hDs; cases hDs
      · have := (S.has r hr).1; rw [he, hDs] at this; cases this
    · exact ⟨(S.muf q hq).1, fun r hr => (List.mem_append.mp hr).elim (fun hr he => by have := hTs r hr; rw [he, (S.muh q hq).1] at this; cases this) ((S.muf q hq).2 r)⟩
  · rw [List.map_cons, List.nodup_cons]
    refine ⟨fun h => ?_, S.mun⟩
    obtain ⟨q, hq, he⟩ := List.mem_map.mp h
    have := (S.muh q hq).1
    rw [he, hDs] at this; cases this
theorem comp_listA0 {α : Type} {R : Led → Value → α → Prop} {elt : Expr} {ifs : List Expr} {scope : Scope} {clo : List (Str × Addr)} {x : Str} {px : Pos} {n : Nat} {pf : Nat → Bool} {Rl : Nat → Led → Value → Prop} {y : Str} {Q : Flow → Shared → Prop} {lv : Value} {xs : List α}
    (S : St K p loose mean mg mb s₀ led₀ env oc [] m led mu s) (own0 : ∀ b ∈ ownOf env oc, s₀.heap.get? b = none) (hy : env.kindOf y = some .local) (cl' : List (Str × Value)) (hh : A.handled = none) (hq : SeqIn R led lv xs) (hn : xs.length = n)
    (htg : ∀ C, TgtOk (cenvOf scope clo env C) (ocOf scope.names C) x) (hcl : CloOk scope env clo s cl')
    (tests : ∀ i C m₁ y v tl s₃ E', i < n → xs[i]? = some y → R led v y → St K p loose mean mg mb s₃ (tl ++ led) (cenvOf scope clo env C) (ocOf scope.names C) cl' (upd m₁ x v) (tl ++ led) [] s₃ →
      testsOf prog w A ifs (cenvOf scope clo env C) (fun ok s₄ => ok = pf i ∧ Keeps s₃ s₄) E' s₃)
    (turn : ∀ i C m₁ y v tl s₃ E', i < n → pf i = true → xs[i]? = some y → R led v y → St K p loose mean mg mb s₃ (tl ++ led) (cenvOf scope clo env C) (ocOf scope.names C) cl' (upd m₁ x v) (tl ++ led) [] s₃ →
      wpAny (model prog w) A (eval elt (cenvOf scope clo env C)) (Made s₃ (tl ++ led) (Rl i)) E' s₃)
    (hQ : ∀ D vs c s' tl, St K p loose mean mg mb s₀ led₀ env oc [] (upd m y (.ref D)) (tl ++ led) ((D, lstO vs c) :: mu) s' → Paired (fun i y => Rl i (tl ++ led) y) ((List.range n).filter pf) vs → Q .next s') :
    wpAny (model prog w) A (pyIter lv) (AsgGoal prog w A env elt (.Name x px) ifs scope clo Rl led n pf y Q) E s := by
  obtain ⟨a, vs, c, rfl, hm, hp⟩ := hq
  refine iter_list (led := led) (x := x) (px := px) hh S.has hm fun it s₂ IT => ?_
  rw [hp.length, hn] at IT
  refine comp_atA0 S own0 hy cl' IT (fun C y hy => by rw [List.mem_singleton.mp hy]; exact htg C) hcl ?_ ?_ hQ
  · rintro i C m₁ m' led' s₃ E' hi ⟨v, hv, rfl⟩ ⟨tl, rfl⟩ S'
    obtain ⟨y, hy, hR⟩ := pairedAt' hp hv
    exact tests i C m₁ y v tl s₃ E' hi hy hR S'
  · rintro i C m₁ m' led' s₃ E' hi hpf ⟨v, hv, rfl⟩ ⟨tl, rfl⟩ S'
    obtain ⟨y, hy, hR⟩ := pairedAt' hp hv
    exact turn i C m₁ y v tl s₃ E' hi hpf hy hR S'
theorem comp_enumA0 {α : Type} {R : Led → Value → α → Prop} {elt : Expr} {ifs : List Expr} {scope : Scope} {clo : List (Str × Addr)} {xi xv : Str} {pi pv pt : Pos} {x1} {n : Nat} {pf : Nat → Bool} {Rl : Nat → Led → Value → Prop} {y : Str} {Q : Flow → Shared → Prop} {lv : Value} {xs : List α}
    (S : St K p loose mean mg mb s₀ led₀ env oc [] m led mu s) (own0 : ∀ b ∈ ownOf env oc, s₀.heap.get? b = none) (hy : env.kindOf y = some .local) (cl' : List (Str × Value)) (hh : A.handled = none) (hq : SeqIn R led lv xs) (hn : xs.length = n)
    (htg : ∀ C, TgtOk (cenvOf scope clo env C) (ocOf scope.names C) xi ∧ TgtOk (cenvOf scope clo env C) (ocOf scope.names C) xv) (hcl : CloOk scope env clo s cl')
    (tests : ∀ i C m₁ y v t tl s₃ E', i < n → xs[i]? = some y → R led v y → St K p loose mean mg mb s₃ (tl ++ led) (cenvOf scope clo env C) (ocOf scope.names C) cl' (upd (upd m₁ xi (.int i t)) xv v) (tl ++ led) [] s₃ →
      testsOf prog w A ifs (cenvOf scope clo env C) (fun ok s₄ => ok = pf i ∧ Keeps s₃ s₄) E' s₃)
    (turn : ∀ i C m₁ y v t tl s₃ E', i < n → pf i = true → xs[i]? = some y → R led v y → St K p loose mean mg mb s₃ (tl ++ led) (cenvOf scope clo env C) (ocOf scope.names C) cl' (upd (upd m₁ xi (.int i t)) xv v) (tl ++ led) [] s₃ →
      wpAny (model prog w) A (eval elt (cenvOf scope clo env C)) (Made s₃ (tl ++ led) (Rl i)) E' s₃)
    (hQ : ∀ D vs c s' tl, St K p loose mean mg mb s₀ led₀ env oc [] (upd m y (.ref D)) (tl ++ led) ((D, lstO vs c) :: mu) s' → Paired (fun i y => Rl i (tl ++ led) y) ((List.range n).filter pf) vs → Q .next s') :
    wpAny (model prog w) A (PySem.call (.type "enumerate") [lv]) (fun e s₁ => wpAny (model prog w) A (pyIter e) (AsgGoal prog w A env elt (.Tuple [.Name xi pi, .Name xv pv] x1 pt) ifs scope clo Rl led n pf y Q) E s₁) E s := by
  obtain ⟨a, vs, c, rfl, hm, hp⟩ := hq
  refine iter_enum (led := led) (xi := xi) (xv := xv) (pi := pi) (pv := pv) (pt := pt) (x1 := x1) hh S.has hm fun it s₂ IT => ?_
  rw [hp.length, hn] at IT
  refine comp_atA0 S own0 hy cl' IT (fun C y hy => ?_) hcl ?_ ?_ hQ
  · simp only [List.mem_cons, List.not_mem_nil, or_false] at hy
    rcases hy with rfl | rfl
    · exact (htg C).1
    · exact (htg C).2
  · rintro i C m₁ m' led' s₃ E' hi ⟨v, t, hv, rfl⟩ ⟨tl, rfl⟩ S'
    obtain ⟨y, hy, hR⟩ := pairedAt' hp hv
    exact tests i C m₁ y v t tl s₃ E' hi hy hR S'
  · rintro i C m₁ m' led' s₃ E' hi hpf ⟨v, t, hv, rfl⟩ ⟨tl, rfl⟩ S'
    obtain ⟨y, hy, hR⟩ := pairedAt' hp hv
    exact turn i C m₁ y v t tl s₃ E' hi hpf hy hR S'

/-! ### comprehensions whose elements turn mu -/
/-- the word of mu in a heap -/
noncomputable def JB (W : List Addr) (Inv : Nat → Led → Prop) (i : Nat) (h : Heap) : Prop := ∃ mu', mu'.map (·.1) = W ∧ Has h mu' ∧ Inv i mu'
theorem JB.frame {W : List Addr} {Inv : Nat → Led → Prop} {i : Nat} {h h' : Heap} (j : JB W Inv i h) (k : ∀ b ∈ W, ∀ o, h.get? b = some o → h'.get? b = some o) : JB W Inv i h' :=
  let ⟨mu', a, b, c⟩ := j
  ⟨mu', a, b.via fun q hq o e => k _ (a ▸ List.mem_map_of_mem hq) o e, c⟩
theorem JB.live {W : List Addr} {Inv : Nat → Led → Prop} {i : Nat} {h : Heap} (j : JB W Inv i h) : ∀ b ∈ W, h.get? b ≠ none := fun b hb => by
  obtain ⟨mu', rfl, k, _⟩ := j
  obtain ⟨q, hq, rfl⟩ := List.mem_map.mp hb
  rw [(k q hq).1]; exact Option.some_ne_none _
theorem comp_eltB {st : Bool} {elt target : Expr} {ifs : List Expr} {scope : Scope} {clo : List (Str × Addr)} {tg : List Str} {Bd : Nat → (Str → Option Value) → (Str → Option Value) → Prop} {n : Nat} {Rl : Nat → Led → Value → Prop} {it : Value} {s₂ : Shared}
    (S : St K p loose mean mg mb s₀ led₀ env oc cl m led mu s) (cl' : List (Str × Value)) (IT : IterAt st prog w A led s it s₂ target tg n Bd) (Inv : Nat → Led → Prop)
    (htg : ∀ C, ∀ x ∈ tg, TgtOk (cenvOf scope clo env C) (ocOf scope.names C) x) (hcl : CloOk scope env clo s cl') (hifs : ifs = [])
    (turn : ∀ i C m₁ m' tl mu' s₃ E', i < n → Bd i m₁ m' → Inv i mu' → mu'.map (·.1) = mu.map (·.1) → St K p loose mean mg mb (hidden s₃ mu') (tl ++ led) (cenvOf scope clo env C) (ocOf scope.names C) cl' m' (tl ++ led) mu' s₃ →
      wpAny (model prog w) A (eval elt (cenvOf scope clo env C)) (MadeT s₃ (tl ++ led) mu' (fun l mu'' v => Inv (i + 1) mu'' ∧ Rl i l v)) E' s₃) :
    ∃ wr, CompAt prog w A env elt target ifs scope clo Rl led (JB (mu.map (·.1)) Inv) (mu.map (·.1)) n (fun _ => true) it s₂ wr ∧ (∀ b ∈ wr, s.heap.get? b = none) ∧ Ext s.heap s₂.heap ∧ (∃ h tk, s₂ = { s with heap := h, toks := tk }) := by
  subst hifs
  obtain ⟨I, fp, wr, Sx, rfl, hex, hsh, ⟨hwr, _⟩, hsx, hlt, hfp, FD⟩ := IT.ex
  have hWf : ∀ b ∈ mu.map (·.1), b ∉ fp := fun b hb hf => by
    obtain ⟨q, hq, rfl⟩ := List.mem_map.mp hb
    rcases hfp _ hf with h | ⟨o, h⟩
    · have := (S.muh q hq).1; rw [hwr _ h] at this; cases this
    · exact (S.muf q hq).2 _ h rfl
  refine ⟨wr, ⟨I, fp, Sx, Bd, rfl, fun C hC => FD _ _ (htg C) hC, hsx, hlt, hWf, fun i C m₁ m' s₃ E' _ _ _ _ _ hJ => wpAny_tests_nil ⟨rfl, ⟨_, _, rfl, fun _ _ e => e⟩, fun h => nomatch h⟩, fun i C m₁ m' s₃ tl E' hi _ hB F hx hO hJ hT hTf => ?_⟩, hwr, hex, hsh⟩
  obtain ⟨mu', hmm, hmh, hInv⟩ := hJ
  have kp : ∀ b o, b ∉ mu.map (·.1) → s.heap.get? b = some o → s₃.heap.get? b = some o := fun b o hb e => hx b o (fun h => (List.mem_append.mp h).elim hb fun h => by rw [hwr b h] at e; cases e) (hex b o e)
  have hW0 : ∀ b o, s₀.heap.get? b = some o → b ∉ mu.map (·.1) := fun b o e hb => by
    obtain ⟨q, hq, rfl⟩ := List.mem_map.mp hb
    rw [(S.muf q hq).1] at e; cases e
  have e0 : Ext s₀.heap (hidden s₃ mu').heap := fun b o e => hideAll_get _ (kp b o (hW0 b o e) (S.ext b o e)) (by rw [hmm]; exact hW0 b o e)
  have hWlive : ∀ b ∈ mu.map (·.1), s₂.heap.get? b ≠ none := fun b hb => by
    obtain ⟨q, hq, rfl⟩ := List.mem_map.mp hb
    rw [hex _ _ (S.muh q hq).1]; exact Option.some_ne_none _
  have S' : St K p loose mean mg mb (hidden s₃ mu') (tl ++ led) (cenvOf scope clo env C) (ocOf scope.names C) cl' m' (tl ++ led) mu' s₃ := by
    refine ⟨S.amb.ext e0, ⟨s₃.heap, s₃.toks, rfl⟩, fun b o e => of_hideAll _ e, F, fun q hq => ⟨(hcl q hq).1 C, let ⟨c, a, o, ho, hb⟩ := (hcl q hq).2; ⟨c, a C, o, kp _ _ (fun hc => ?_) ho, hb⟩⟩, hT.append fun q hq => ⟨kp _ _ (fun hc => ?_) (S.has q hq).1, (S.has q hq).2⟩, ⟨[], rfl, Fresh.nil⟩, hmh, fun q hq => ⟨hideAll_none _ (List.mem_map_of_mem hq), fun r hr e => ?_⟩, by rw [hmm]; exact S.mun⟩
    · obtain ⟨r, hr, e⟩ := List.mem_map.mp hc
      have := S.muh r hr
      rw [e, ho] at this
      cases this.1
      unfold isSeq at this
      rw [hb] at this; cases this.2
    · obtain ⟨r, hr, e⟩ := List.mem_map.mp hc
      exact (S.muf r hr).2 q hq e.symm
    · have hq' : q.1 ∈ mu.map (·.1) := hmm ▸ List.mem_map_of_mem hq
      rcases List.mem_append.mp hr with hr | hr
      · exact hWlive _ hq' (e ▸ hTf r hr)
      · obtain ⟨z, hz, ez⟩ := List.mem_map.mp hq'
        exact (S.muf z hz).2 r hr (e.trans ez.symm)
  refine wpAny_mono (turn i C m₁ m' tl mu' s₃ E' hi hB hInv hmm S') (fun y s₄ ⟨h', tk, tl', mu'', e, hk, hm2, hh2, ht, hf, _, hI2, hR⟩ => ?_) fun _ _ h => h
  exact ⟨h', tk, tl', e, fun b o hb e => hk b o (by rw [hmm]; exact hb) e, ⟨mu'', hm2.trans hmm, hh2, hI2⟩, ht, hf, hR⟩

/-- what stands behind a comprehension whose elements turned mu -/
theorem St.afterB {Inv : Nat → Led → Prop} {n : Nat} {h' : Heap} {tk : Nat} {tl : Led} {D : Addr} {ys : List Value} {c : Nat} {wr : List Addr} {s₂ : Shared}
    (S : St K p loose mean mg mb s₀ led₀ env oc cl m led mu s) (hwr : ∀ b ∈ wr, s.heap.get? b = none) (hex : Ext s.heap s₂.heap) (hD : s₂.heap.get? D = none) (hl : h'.get? D = some (lstO ys c)) (hT : Has h' tl) (hTf : Fresh s₂.heap tl) (hDt : ∀ q ∈ tl, q.1 ≠ D)
    (hx : ExtB (mu.map (·.1) ++ wr) s₂.heap h') {mu' : Led} (hmm : mu'.map (·.1) = mu.map (·.1)) (hmh : Has h' mu') (_ : Inv n mu') :
    St K p loose mean mg mb s₀ led₀ env oc cl m (tl ++ led) ((D, lstO ys c) :: mu') { s with heap := h', toks := tk } := by
  have kp : ∀ b o, b ∉ mu.map (·.1) → s.heap.get? b = some o → h'.get? b = some o := fun b o hb e => hx b o (fun h => (List.mem_append.mp h).elim hb fun h => by rw [hwr b h] at e; cases e) (hex b o e)
  have hW0 : ∀ b o, s₀.heap.get? b = some o → b ∉ mu.map (·.1) := fun b o e hb => by
    obtain ⟨q, hq, rfl⟩ := List.mem_map.mp hb
    rw [(S.muf q hq).1] at e; cases e
  have hDs : s.heap.get? D = none := by
    cases q : s.heap.get? D with
    | none => rfl
    | some o => have := hex _ _ q; rw [hD] at this; cases this
  have hTs : Fresh s.heap tl := hTf.back hex
  have inW : ∀ q ∈ mu', ∃ r ∈ mu, r.1 = q.1 := fun q hq => by
    have : q.1 ∈ mu.map (·.1) := hmm ▸ List.mem_map_of_mem hq
    obtain ⟨r, hr, e⟩ := List.mem_map.mp this
    exact ⟨r, hr, e⟩
  have ncell : ∀ c o x, s.heap.get? c = some o → o.data = .cell x → c ∉ mu.map (·.1) := fun c o x ho hd hb => by
    obtain ⟨r, hr, e⟩ := List.mem_map.mp hb
    have := S.muh r hr
    rw [e, ho] at this
    cases this.1
    unfold isSeq at this
    rw [hd] at this; cases this.2
  refine ⟨S.amb, ?_, fun b o e => kp b o (hW0 b o e) (S.ext b o e), S.frm.keep fun b hb o e => kp b o (fun h => ?_) e, fun q hq => let ⟨a, c, b, o, ho, d⟩ := S.clo q hq; ⟨a, c, b, o, kp _ _ (ncell _ _ _ ho d) ho, d⟩,
    hT.append fun q hq => ⟨kp _ _ (fun hc => ?_) (S.has q hq).1, (S.has q hq).2⟩, ?_, fun q hq => (List.mem_cons.mp hq).elim (fun h => by rw [h]; exact ⟨hl, rfl⟩) (hmh q), fun q hq => ?_, ?_⟩
  · obtain ⟨h, t, e⟩ := S.same
    exact ⟨h', tk, by rw [e]⟩
  · obtain ⟨q, hq, rfl⟩ := List.mem_map.mp h
    exact S.frm.notHas S.muh q hq hb
  · obtain ⟨r, hr, e⟩ := List.mem_map.mp hc
    exact (S.muf r hr).2 q hq e.symm
  · obtain ⟨t0, e0, f0⟩ := S.new
    exact ⟨tl ++ t0, by rw [e0, List.append_assoc], (hTs.back S.ext).append f0⟩
  · rcases List.mem_cons.mp hq with rfl | hq
    · refine ⟨?_, fun r hr => (List.mem_append.mp hr).elim (hDt r) fun hr he => ?_⟩
      · cases q0 : s₀.heap.get? D with
        | none => rfl
        | some o' => rw [S.ext _ _ q0] at hDs; cases hDs
      · have := (S.has r hr).1; rw [he, hDs] at this; cases this
    · obtain ⟨r, hr, e⟩ := inW q hq
      rw [← e]
      exact ⟨(S.muf r hr).1, fun z hz => (List.mem_append.mp hz).elim (fun hz he => by have := hTs z hz; rw [he, (S.muh r hr).1] at this; cases this) ((S.muf r hr).2 z)⟩
  · rw [List.map_cons, List.nodup_cons, hmm]
    refine ⟨fun h => ?_, S.mun⟩
    obtain ⟨q, hq, he⟩ := List.mem_map.mp h
    have := (S.muh q hq).1
    rw [he, hDs] at this; cases this
/-- a comprehension over a range whose elements turn mu -/
theorem comp_rangeB {elt : Expr} {scope : Scope} {clo : List (Str × Addr)} {x : Str} {px pos : Pos} {n : Nat} {Rl : Nat → Led → Value → Prop} {Q : Value → Shared → Prop} {r : Addr} {b : Int} {t u v : Tok} {iter : Expr} {led' : Led}
    (S : St K p loose mean mg mb s₀ led₀ env oc cl m led mu s) (Inv : Nat → Led → Prop) (h0 : Inv 0 mu) (cl' : List (Str × Value)) (hh : A.handled = none) (hr : IsRange s.heap r 0 b 1 t u v) (hn : b.toNat = n) (hb0 : 0 ≤ b) (hn2 : n ≤ 1000)
    (htg : ∀ C, TgtOk (cenvOf scope clo env C) (ocOf scope.names C) x) (hcl : CloOk scope env clo s cl')
    (turn : ∀ i C m₁ t' tl mu' s₃ E', i < n → Inv i mu' → mu'.map (·.1) = mu.map (·.1) → St K p loose mean mg mb (hidden s₃ mu') (tl ++ led) (cenvOf scope clo env C) (ocOf scope.names C) cl' (upd m₁ x (.int i t')) (tl ++ led) mu' s₃ →
      wpAny (model prog w) A (eval elt (cenvOf scope clo env C)) (MadeT s₃ (tl ++ led) mu' (fun l mu'' v => Inv (i + 1) mu'' ∧ Rl i l v)) E' s₃)
    (hQ : ∀ D vs c s' tl mu', St K p loose mean mg mb s₀ led₀ env oc cl m (tl ++ led) ((D, lstO vs c) :: mu') s' → mu'.map (·.1) = mu.map (·.1) → Inv n mu' → Paired (fun i y => Rl i (tl ++ led) y) (List.range n) vs → Q (.ref D) s') :
    wpAny (model prog w) A (pyIter (.ref r)) (fun it s₂ => ∃ wr, CompAt prog w A env elt (.Name x px) [] scope clo Rl led (JB (mu.map (·.1)) Inv) (mu.map (·.1)) n (fun _ => true) it s₂ wr ∧ JB (mu.map (·.1)) Inv 0 s₂.heap ∧
      (∀ D h' tk ys tl c, s₂.heap.get? D = none → h'.get? D = some (listOf ys c) → JB (mu.map (·.1)) Inv n h' → Has h' tl → Fresh s₂.heap tl → (∀ q ∈ tl, q.1 ≠ D) → Paired (fun i y => Rl i (tl ++ led) y) ((List.range n).filter fun _ => true) ys.toList → ExtB (mu.map (·.1) ++ wr) s₂.heap h' →
        Q (.ref D) { s₂ with heap := h', toks := tk })) E s := by
  refine iter_range (led := led) (x := x) (px := px) hh hr (small_lt hb0 (by walk_at "om")) fun it s₂ IT => ?_
  rw [Int.sub_zero, hn] at IT
  obtain ⟨wr, CA, hwr, hex, hs, tks, rfl⟩ := comp_eltB (ifs := []) S cl' IT Inv (fun C y hy => by rw [List.mem_singleton.mp hy]; exact htg C) hcl rfl (by
    rintro i C m₁ m' tl mu' s₃ E' hi ⟨t', rfl⟩ hI hmm S'
    rw [Int.zero_add] at S'
    exact turn i C m₁ t' tl mu' s₃ E' hi hI hmm S')
  refine ⟨wr, CA, ⟨mu, rfl, S.muh.ext hex, h0⟩, fun D h' tk ys tl c hD hl hJ hT hTf hDt hP hx => ?_⟩
  obtain ⟨ys⟩ := ys
  obtain ⟨mu', hmm, hmh, hI⟩ := hJ
  rw [filter_true] at hP
  exact hQ D ys c _ tl mu' (S.afterB (Inv := Inv) (n := n) hwr hex hD hl hT hTf hDt hx hmm hmh hI) hmm hI hP
theorem comp_pureB {elt target iter : Expr} {scope : Scope} {clo : List (Str × Addr)} {Q : Value → Shared → Prop} (W : List Addr) (Inv : Nat → Led → Prop) (n : Nat) (Rl : Nat → Led → Value → Prop) (Rm : ∀ i l t y, Rl i l y → Rl i (t ++ l) y) (led : Led)
    (hsz : n ≤ 100000) (hclos : closureFor scope env = pure clo) (h1 : (scope.names.filter isCellN).length ≤ 1)
    (hoc : ∀ C, ∀ q ∈ ocOf scope.names C, (cenvOf scope clo env C).kindOf q.1 = some .cell ∧ (cellsFrom (C + 1) scope.names clo).lookup q.1 = some q.2 ∧ q.2 ≠ C) (hkind : scope.kind = .function)
    (hnames : ∀ y ∈ scope.names, y.2 = .local → scope.names.lookup y.1 = some .local)
    (h : wpAny (model prog w) A (eval iter env) (fun xv s₁ => wpAny (model prog w) A (pyIter xv) (fun it s₂ => ∃ wr, CompAt prog w A env elt target [] scope clo Rl led (JB W Inv) W n (fun _ => true) it s₂ wr ∧ JB W Inv 0 s₂.heap ∧
      (∀ D h' tk ys tl c, s₂.heap.get? D = none → h'.get? D = some (listOf ys c) → JB W Inv n h' → Has h' tl → Fresh s₂.heap tl → (∀ q ∈ tl, q.1 ≠ D) → Paired (fun i y => Rl i (tl ++ led) y) ((List.range n).filter fun _ => true) ys.toList → ExtB (W ++ wr) s₂.heap h' →
        Q (.ref D) { s₂ with heap := h', toks := tk })) E s₁) E s)
    (hs : ∀ x, foldedSetIterable iter env x = pure x := by intro _; rfl) :
    wpAny (model prog w) A (eval (.ListComp elt [⟨target, iter, [], 0⟩] scope pos) env) Q E s :=
  comp_eval W (JB W Inv) n (fun _ => true) Rl Rm led hclos h1 hoc hkind hnames (by rw [sizeLine_eq]; walk_at "om") (fun _ _ _ j k => j.frame k) (fun _ _ j => j.live) h hs
noncomputable abbrev AsgGoalB (prog : Program) (w : World) (A : Around) (env : Env) (elt target : Expr) (scope : Scope) (clo : List (Str × Addr)) (Rl : Nat → Led → Value → Prop) (led : Led) (W : List Addr) (Inv : Nat → Led → Prop) (n : Nat) (y : Str) (Q : Flow → Shared → Prop) (it : Value) (s₂ : Shared) : Prop :=
  ∃ wr m, CompAt prog w A env elt target [] scope clo Rl led (JB W Inv) W n (fun _ => true) it s₂ wr ∧ JB W Inv 0 s₂.heap ∧ s₂.heap.Ns env.locals m ∧ env.locals ∉ wr ∧ env.locals ∉ W ∧
      (∀ D h' tk ys tl c, s₂.heap.get? D = none → h'.get? D = some (listOf ys c) → JB W Inv n h' → Has h' tl → Fresh s₂.heap tl → (∀ q ∈ tl, q.1 ≠ D) → Paired (fun i y => Rl i (tl ++ led) y) ((List.range n).filter fun _ => true) ys.toList →
        h'.Ns env.locals (upd m y (.ref D)) → (∀ b o, b ∉ W ++ wr → b ≠ env.locals → s₂.heap.get? b = some o → h'.get? b = some o) → Q .next { s₂ with heap := h', toks := tk })
theorem comp_asgB {elt target iter : Expr} {scope : Scope} {clo : List (Str × Addr)} {y : Str} {py spos : Pos} {Q : Flow → Shared → Prop} (W : List Addr) (Inv : Nat → Led → Prop) (n : Nat) (Rl : Nat → Led → Value → Prop) (Rm : ∀ i l t y, Rl i l y → Rl i (t ++ l) y) (led : Led)
    (hsz : n ≤ 100000) (hsw : swapsWith (.ListComp elt [⟨target, iter, [], 0⟩] scope pos) (some (.Name y py)) spos.line env = pure true) (hclos : closureFor scope env = pure clo) (h1 : (scope.names.filter isCellN).length ≤ 1)
    (hoc : ∀ C, ∀ q ∈ ocOf scope.names C, (cenvOf scope clo env C).kindOf q.1 = some .cell ∧ (cellsFrom (C + 1) scope.names clo).lookup q.1 = some q.2 ∧ q.2 ≠ C) (hkind : scope.kind = .function)
    (hnames : ∀ y ∈ scope.names, y.2 = .local → scope.names.lookup y.1 = some .local) (hy : env.kindOf y = some .local) (hp : (env.scope.kind == .class || (env.scope.kind == .module && env.locals != env.globals)) = false)
    (h : wpAny (model prog w) A (eval iter env) (fun xv s₁ => wpAny (model prog w) A (pyIter xv) (AsgGoalB prog w A env elt target scope clo Rl led W Inv n y Q) E s₁) E s)
    (hs : ∀ x, foldedSetIterable iter env x = pure x := by intro _; rfl) :
    wpAny (model prog w) A (exec (.Assign [.Name y py] (.ListComp elt [⟨target, iter, [], 0⟩] scope pos) spos) env) Q E s :=
  comp_assign W (JB W Inv) n (fun _ => true) Rl Rm led hsw hclos h1 hoc hkind hnames hy hp (by rw [sizeLine_eq]; walk_at "om") (fun _ _ _ j k => j.frame k) (fun _ _ j => j.live) h hs
theorem comp_rangeBA {elt : Expr} {scope : Scope} {clo : List (Str × Addr)} {x y : Str} {px : Pos} {n : Nat} {Rl : Nat → Led → Value → Prop} {Q : Flow → Shared → Prop} {r : Addr} {b : Int} {t u v : Tok}
    (S : St K p loose mean mg mb s₀ led₀ env oc [] m led mu s) (own0 : ∀ b ∈ ownOf env oc, s₀.heap.get? b = none) (hy : env.kindOf y = some .local) (Inv : Nat → Led → Prop) (h0 : Inv 0 mu) (cl' : List (Str × Value)) (hh : A.handled = none) (hr : IsRange s.heap r 0 b 1 t u v) (hn : b.toNat = n) (hb0 : 0 ≤ b) (hn2 : n ≤ 1000)
    (htg : ∀ C, TgtOk (cenvOf scope clo env C) (ocOf scope.names C) x) (hcl : CloOk scope env clo s cl')
    (turn : ∀ i C m₁ t' tl mu' s₃ E', i < n → Inv i mu' → mu'.map (·.1) = mu.map (·.1) → St K p loose mean mg mb (hidden s₃ mu') (tl ++ led) (cenvOf scope clo env C) (ocOf scope.names C) cl' (upd m₁ x (.int i t')) (tl ++ led) mu' s₃ →
      wpAny (model prog w) A (eval elt (cenvOf scope clo env C)) (MadeT s₃ (tl ++ led) mu' (fun l mu'' v => Inv (i + 1) mu'' ∧ Rl i l v)) E' s₃)
    (hQ : ∀ D vs c s' tl mu', St K p loose mean mg mb s₀ led₀ env oc [] (upd m y (.ref D)) (tl ++ led) ((D, lstO vs c) :: mu') s' → mu'.map (·.1) = mu.map (·.1) → Inv n mu' → Paired (fun i y => Rl i (tl ++ led) y) (List.range n) vs → Q .next s') :
    wpAny (model prog w) A (pyIter (.ref r)) (AsgGoalB prog w A env elt (.Name x px) scope clo Rl led (mu.map (·.1)) Inv n y Q) E s := by
  refine iter_range (led := led) (x := x) (px := px) hh hr (small_lt hb0 (by walk_at "om")) fun it s₂ IT => ?_
  rw [Int.sub_zero, hn] at IT
  obtain ⟨wr, CA, hwr, hex, hs, tks, rfl⟩ := comp_eltB (ifs := []) S cl' IT Inv (fun C y hy => by rw [List.mem_singleton.mp hy]; exact htg C) hcl rfl (by
    rintro i C m₁ m' tl mu' s₃ E' hi ⟨t', rfl⟩ hI hmm S'
    rw [Int.zero_add] at S'
    exact turn i C m₁ t' tl mu' s₃ E' hi hI hmm S')
  obtain ⟨ml, hnl, hl⟩ := S.frm.loc
  obtain ⟨ol, hol, _⟩ := S.frm.live env.locals mem_own_loc
  have hLw : env.locals ∉ wr := fun h => by rw [hwr _ h] at hol; cases hol
  have hLW : env.locals ∉ mu.map (·.1) := fun h => by
    obtain ⟨q, hq, e⟩ := List.mem_map.mp h
    exact S.frm.notHas S.muh q hq (e ▸ mem_own_loc)
  refine ⟨wr, ml, CA, ⟨mu, rfl, S.muh.ext hex, h0⟩, hnl.at' (fun o e => hex _ _ e), hLw, hLW, fun D h' tk ys tl c hD hl' hJ hT hTf hDt hP hn' hx => ?_⟩
  obtain ⟨ys⟩ := ys
  obtain ⟨mu', hmm, hmh, hI⟩ := hJ
  rw [filter_true] at hP
  have kp : ∀ b o, b ∉ mu.map (·.1) → b ≠ env.locals → s.heap.get? b = some o → h'.get? b = some o := fun b o hb hb2 e => hx b o (fun h => (List.mem_append.mp h).elim hb fun h => by rw [hwr b h] at e; cases e) hb2 (hex b o e)
  have hW0 : ∀ b o, s₀.heap.get? b = some o → b ∉ mu.map (·.1) := fun b o e hb => by
    obtain ⟨q, hq, rfl⟩ := List.mem_map.mp hb
    rw [(S.muf q hq).1] at e; cases e
  have hDs : s.heap.get? D = none := by
    cases q : s.heap.get? D with
    | none => rfl
    | some o => have := hex _ _ q; rw [hD] at this; cases this
  have hTs : Fresh s.heap tl := hTf.back hex
  have inW : ∀ q ∈ mu', ∃ r ∈ mu, r.1 = q.1 := fun q hq => by
    have : q.1 ∈ mu.map (·.1) := hmm ▸ List.mem_map_of_mem hq
    obtain ⟨r, hr, e⟩ := List.mem_map.mp this
    exact ⟨r, hr, e⟩
  have nl : ∀ {l : Led}, Has s.heap l → ∀ q ∈ l, q.1 ≠ env.locals := fun H q hq he => S.frm.notHas H q hq (he ▸ mem_own_loc)
  have ncell : ∀ b ∈ ownOf env oc, b ∉ mu.map (·.1) := fun b hb h => by
    obtain ⟨q, hq, e⟩ := List.mem_map.mp h
    exact S.frm.notHas S.muh q hq (e ▸ hb)
  refine hQ D ys c _ tl mu' ⟨S.amb, ?_, fun b o e => kp b o (hW0 b o e) (fun q => by rw [q, own0 _ mem_own_loc] at e; cases e) (S.ext b o e), ⟨S.frm.fn, ⟨_, hn', fun z hz => ?_⟩, fun q hq => ?_, S.frm.knd, S.frm.inj⟩, (fun _ h => nomatch h),
    hT.append fun q hq => ⟨kp _ _ (fun hc => ?_) (nl S.has q hq) (S.has q hq).1, (S.has q hq).2⟩, ?_, fun q hq => (List.mem_cons.mp hq).elim (fun h => by rw [h]; exact ⟨hl', rfl⟩) (hmh q), fun q hq => ?_, ?_⟩ hmm hI hP
  · obtain ⟨h, t, e⟩ := S.same
    exact ⟨h', tk, by rw [e]⟩
  · by_cases q : z = y
    · subst q; exact (upd_eq (m := ml)).trans (upd_eq (m := m)).symm
    · exact (upd_ne (m := ml) q).trans ((hl z hz).trans (upd_ne (m := m) q).symm)
  · have hk := S.frm.knd q hq
    have hyx : q.1 ≠ y := fun e => by rw [e, hy] at hk; cases hk.1
    simp only [upd, if_neg hyx]
    obtain ⟨o, ho, r⟩ := S.frm.cel q hq
    exact ⟨o, kp _ _ (ncell _ (mem_own_cel hq)) hk.2.2 ho, r⟩
  · obtain ⟨r, hr, e⟩ := List.mem_map.mp hc
    exact (S.muf r hr).2 q hq e.symm
  · obtain ⟨t0, e0, f0⟩ := S.new
    exact ⟨tl ++ t0, by rw [e0, List.append_assoc], (hTs.back S.ext).append f0⟩
  · rcases List.mem_cons.mp hq with rfl | hq
    · refine ⟨?_, fun r hr => (List.mem_append.mp hr).elim (hDt r) fun hr he => ?_⟩
      · cases q0 : s₀.heap.get? D with
        | none => rfl
        | some o' => rw [S.ext _ _ q0] at hDs; cases hDs
      · have := (S.has r hr).1; rw [he, hDs] at this; cases this
    · obtain ⟨r, hr, e⟩ := inW q hq
      rw [← e]
      exact ⟨(S.muf r hr).1, fun z hz => (List.mem_append.mp hz).elim (fun hz he => by have := hTs z hz; rw [he, (S.muh r hr).1] at this; cases this) ((S.muf r hr).2 z)⟩
  · rw [List.map_cons, List.nodup_cons, hmm]
    refine ⟨fun h => ?_, S.mun⟩
    obtain ⟨q, hq, he⟩ := List.mem_map.mp h
    have := (S.muh q hq).1
    rw [he, hDs] at this; cases this
/-- a call that turns mu, from a frame with captured names -/
theorem St.callC {mu₁ : Led} {f : Addr} {vs : List Value} {dep dp un : Nat} {gd : Option (List Code)} {fr : List Env} {Out : Led → Led → Value → Prop} {Q : Value → Shared → Prop} (S : St K p loose mean mg mb s₀ led₀ env oc cl m led mu₁ s)
    (C : ConT K p loose mean mg mb prog w f vs dep led mu₁ Out) (hd : dp + dep < recursionLimit) (hu : un + 8 * dep < cLine)
    (h : ∀ v s' tl mu', St K p loose mean mg mb s₀ led₀ env oc cl m (tl ++ led) mu' s' → Out (tl ++ led) mu' v → mu'.map (·.1) = mu₁.map (·.1) → Q v s') :
    wpAny (model prog w) { handled := none, depth := dp, frames := some fr, guards := gd, units := un } (PySem.call (.ref f) vs) Q E s := by
  have h0 : ∀ b o, s₀.heap.get? b = some o → b ∉ mu₁.map (·.1) := fun b o e hb => by
    obtain ⟨q, hq, rfl⟩ := List.mem_map.mp hb
    have := (S.muf q hq).1
    rw [e] at this; cases this
  refine wpAny_mono (C s dp un gd fr E (S.amb.ext fun b o e => hideAll_get _ (S.ext b o e) (h0 b o e)) S.has S.muh (fun q hq => (S.muf q hq).2) S.mun hd hu) (fun v s' ⟨h', tk, tl, mu', e, ex, hme, hmu, ht, hf, hap, ho⟩ => ?_) fun _ _ x => x
  subst e
  have up : ∀ {l : Led}, Has s.heap l → (∀ q ∈ l, q.1 ∉ mu₁.map (·.1)) → Has h' l := fun H hne q hq => ⟨ex _ _ (hne q hq) (H q hq).1, (H q hq).2⟩
  refine h v _ tl mu' ⟨S.amb, ?_, fun b o e => ex b o (h0 b o e) (S.ext b o e), S.frm.keep fun b hb o e => ex b o (fun hq => ?_) e, fun q hq => let ⟨a, c, b, o, hoc, d⟩ := S.clo q hq; ⟨a, c, b, o, ex _ _ (fun hc => ?_) hoc, d⟩, ht.append (up S.has fun q hq hb => ?_), ?_, hmu, fun q hq => ?_, ?_⟩ ho hme
  · obtain ⟨h, t, e⟩ := S.same
    exact ⟨h', tk, by rw [e]⟩
  · obtain ⟨q, hq', rfl⟩ := List.mem_map.mp hq
    exact S.frm.notHas S.muh q hq' hb
  · obtain ⟨r, hr, e⟩ := List.mem_map.mp hc
    have := S.muh r hr
    rw [e, hoc] at this
    cases this.1
    unfold isSeq at this
    rw [d] at this; cases this.2
  · obtain ⟨r, hr, er⟩ := List.mem_map.mp hb
    exact (S.muf r hr).2 q hq er.symm
  · obtain ⟨t0, e0, f0⟩ := S.new
    exact ⟨tl ++ t0, by rw [e0, List.append_assoc], (hf.back S.ext).append f0⟩
  · have hb : q.1 ∈ mu₁.map (·.1) := hme ▸ List.mem_map_of_mem hq
    refine ⟨?_, fun r hr => ?_⟩
    · obtain ⟨t, ht, et⟩ := List.mem_map.mp hb
      rw [← et]; exact (S.muf t ht).1
    · rcases List.mem_append.mp hr with hr | hr
      · exact hap q hq r hr
      · obtain ⟨t, ht, et⟩ := List.mem_map.mp hb
        rw [← et]; exact (S.muf t ht).2 r hr
  · rw [hme]; exact S.mun
end
/-- the script's ints -/
noncomputable def BoxOk (vs : List Value) : Prop := ∃ ns : List Int, IntsAre vs ns ∧ ns.length ≤ 100
theorem paired_ints {l : Led} : ∀ {vs : List Value} {ns : List Int}, IntsAre vs ns → Paired (IntIn l) vs ns
  | _, _, .nil => .nil
  | _, _, .cons k t r => .cons ⟨t, rfl⟩ (paired_ints r)
section
variable {w : World} {mean : ExcName → Option Value} {mg mb : Str → Option Value} {s₀ : Shared} {led₀ : Led} {env : Env} {oc : List (Str × Addr)} {cl : List (Str × Value)} {m : Str → Option Value} {led : Led} {s : Shared} {E : Value → Shared → Prop}
theorem St.callBox {B I : Addr} {k many : Int} {t tm : Tok} {c c' : Nat} {vs : List Value} {dp un : Nat} {gd : Option (List Code)} {fr : List Env} {Q : Value → Shared → Prop}
    (S : St (Mine.hd.heap_39 w.params) Mine.view (looseW Mine.view []) mean mg mb s₀ led₀ env oc cl m led (boxO B I k t c vs c') s) (hb : BoxOk vs) (hk : 0 ≤ k) (hk2 : k ≤ 1000) (hm0 : 0 < many) (hm2 : many ≤ 100) (hd : dp + 110 < recursionLimit) (hu : un + 8 * 110 < cLine)
    (h : ∀ x tx s' tl t c vs c', St (Mine.hd.heap_39 w.params) Mine.view (looseW Mine.view []) mean mg mb s₀ led₀ env oc cl m (tl ++ led) (boxO B I (k + 1) t c vs c') s' → BoxOk vs → 0 ≤ x → x < many → Q (.int x tx) s') :
    wpAny (model PySem.Challenge.rw_sa0086_01.row.prog w) { handled := none, depth := dp, frames := some fr, guards := gd, units := un } (PySem.call (.ref 179) [.ref B, .int many tm]) Q E s := by
  obtain ⟨ns, hi, hn⟩ := hb
  refine S.callC (ltake_con (paired_ints hi) hn hk hk2 hm0 hm2) hd hu ?_
  rintro v s' tl mu' S' ⟨x, tx, t, c, vs, c', ns', rfl, h0, h1, rfl, hv, hn'⟩ _
  exact h x tx s' tl t c vs c' S' ⟨ns', intsAre_of hv, hn'⟩ h0 h1
end
section
variable {K : Frag} {p : Program} {loose : List Str} {mean : ExcName → Option Value} {mg mb : Str → Option Value} {prog : Program} {w : World}
theorem enter_fnO {led : Led} {s : Shared} {dp un : Nat} {gd : Option (List Code)} {fr : List Env} {Q : Value → Shared → Prop} {E : Value → Shared → Prop} {name qual : Str} {params : Arguments} {body : List Stmt} {scope : Scope}
    {dV kV doc pm cdv ct : Value} {an : Option Addr} {f : Addr} {o : Obj} {args : List Value} {binds : List (Str × Value)}
    (Am : Amb K p loose mean mg mb s.heap) (H : Has s.heap led)
    (ho : s.heap.get? f = some o) (hod : o.data = .func (fnOf name qual params body scope dV kV doc pm an cdv ct)) (hcr : s.heap.CodeRec cdv qual) (hroom : dp < recursionLimit)
    (hbind : bindArgs (fnOf name qual params body scope dV kV doc pm an cdv ct) ⟨args, []⟩ = pure binds)
    (hkind : (binds.all fun y => scope.names.lookup y.1 == some .local || scope.names.lookup y.1 == some .cell) = true)
    (hnd : ((cellsFrom 0 scope.names []).map (·.1)).Nodup) (hck : (scope.names.all fun y => y.2 != .cell || scope.names.lookup y.1 == some .cell) = true)
    (h : ∀ L s₁, St K p loose mean mg mb s led (envOfC qual scope L f cdv) (cellsFrom (L + 1) scope.names []) [] (fun x => binds.reverse.lookup x) led [] s₁ →
      (∀ b ∈ ownOf (envOfC qual scope L f cdv) (cellsFrom (L + 1) scope.names []), s.heap.get? b = none) →
      wpAny (model prog w) { handled := none, depth := dp + 1, frames := some (envOfC qual scope L f cdv :: fr), guards := gd, units := un + 3 } (execs body (envOfC qual scope L f cdv)) (fun fl s' => Q (match fl with | .ret v => v | _ => .none) s') (fun _ _ => False) s₁)
    (hco : scope.isCoroutine = false := by rfl) (hgen : scope.isGenerator = false := by rfl) (hk : scope.kind = .function := by rfl) :
    wpAny (model prog w) { handled := none, depth := dp, frames := some fr, guards := gd, units := un } (call (.ref f) args) Q E s := by
  refine wpAny_call ?_
  have hgood : ∀ y ∈ scope.names, y.2 = .cell → scope.names.lookup y.1 = some .cell := fun y hy e => by
    have := List.all_eq_true.mp hck y hy
    rw [e] at this; simpa using this
  refine codeAny_call_cells (fd := fnOf name qual params body scope dV kV doc pm an cdv ct) (body := body) (binds := binds) hroom ho hod Am.top.nolimit hcr rfl hbind rfl (kindsX hkind _) (fun s₁ x => ?_) hco hgen hk
  have x' : InCallC s s.heap.objs.size (bindL (envOfC qual scope s.heap.objs.size f cdv).kindOf binds fun _ => none) (cellsFrom (s.heap.objs.size + 1) scope.names []) (bindC (envOfC qual scope s.heap.objs.size f cdv).kindOf binds fun _ => none) s₁ := x
  clear x
  have hS : St K p loose mean mg mb s led (envOfC qual scope s.heap.objs.size f cdv) (cellsFrom (s.heap.objs.size + 1) scope.names []) [] (fun x => binds.reverse.lookup x) led [] s₁ := by
    refine ⟨Am, x'.toInCall.same, x'.toInCall.keep, ⟨hk, ⟨_, x'.toInCall.ns, fun z hz => by rw [bindL_eq hz]; simp⟩, fun q hq => ?_, fun q hq => ?_, fun q hq r hr e => ?_⟩, (fun _ hq => nomatch hq), H.ext x'.toInCall.keep, ⟨[], rfl, Fresh.nil⟩, Has.nil, (fun _ hq => nomatch hq), List.nodup_nil⟩
    · have hl := lookup_of_mem_nodup (cellsFrom_names scope.names 0 (s.heap.objs.size + 1) [] [] rfl ▸ hnd) hq
      have hkq : scope.names.lookup q.1 = some .cell := (cellsFrom_kind _ _ _ q hq).elim (fun h => nomatch h) fun h => hgood _ h rfl
      have := x'.cell q.1 q.2 hl
      rw [bindC_eq (by show scope.names.lookup q.1 ≠ _; rw [hkq]; decide)] at this
      simpa using this
    · have hl := lookup_of_mem_nodup (cellsFrom_names scope.names 0 (s.heap.objs.size + 1) [] [] rfl ▸ hnd) hq
      exact ⟨(cellsFrom_kind _ _ _ q hq).elim (fun h => nomatch h) fun h => hgood _ h rfl, hl, Nat.ne_of_gt (x'.above q.1 q.2 hq)⟩
    · exact name_of_addr x'.apart (c := q.2) hq (by rw [e]; exact hr)
  have hO : ∀ b ∈ ownOf (envOfC qual scope s.heap.objs.size f cdv) (cellsFrom (s.heap.objs.size + 1) scope.names []), s.heap.get? b = none := fun b hb => by
    unfold ownOf at hb
    rcases List.mem_cons.mp hb with rfl | hb
    · exact fresh_size _ (Nat.le_refl _)
    · obtain ⟨q, hq, rfl⟩ := List.mem_map.mp hb
      exact fresh_size _ (Nat.le_of_lt (x'.above q.1 q.2 hq))
  exact wpAny_mono (h s.heap.objs.size s₁ hS hO) (fun _ _ y => y) fun _ _ y => y.elim
end
end Mine

-- Law1
namespace Mine
noncomputable abbrev cast1 (r : List Int) : List Rat := r.map fun x : Int => (x : Rat)
noncomputable abbrev castM (A : List (List Int)) : List (List Rat) := A.map cast1
theorem rng2 : List.range 2 = [0, 1] := rfl
theorem rng3 : List.range 3 = [0, 1, 2] := rfl
theorem unit2 : unitR 2 = [[1, 0], [0, 1]] := by simp [unitR, rng2]
theorem unit3 : unitR 3 = [[1, 0, 0], [0, 1, 0], [0, 0, 1]] := by simp [unitR, rng3]
theorem mul2 (a b c d x y z w : Rat) : mulR [[a, b], [c, d]] [[x, y], [z, w]] 2 = [[0 + a * x + b * z, 0 + a * y + b * w], [0 + c * x + d * z, 0 + c * y + d * w]] := by
  simp only [mulR, transR, dotR, dotTo, rng2, List.map_cons, List.map_nil, List.foldl_cons, List.foldl_nil, List.getD_cons_zero, List.getD_cons_succ, List.length_cons, List.length_nil, Nat.zero_add, Nat.reduceAdd]
theorem add2 (a b c d x y z w : Rat) : addR [[a, b], [c, d]] [[x, y], [z, w]] = [[a + x, b + y], [c + z, d + w]] := by
  simp only [addR, rng2, List.map_cons, List.map_nil, List.getD_cons_zero, List.getD_cons_succ, List.length_cons, List.length_nil, Nat.zero_add, Nat.reduceAdd]
theorem tr2 (a b c d : Rat) : traceTo [[a, b], [c, d]] 2 = 0 + a + d := by
  simp only [traceTo, rng2, List.foldl_cons, List.foldl_nil, List.getD_cons_zero, List.getD_cons_succ]
theorem mul3 (a b c d e f g h i p q r s t u v w x : Rat) : mulR [[a, b, c], [d, e, f], [g, h, i]] [[p, q, r], [s, t, u], [v, w, x]] 3 =
    [[0 + a * p + b * s + c * v, 0 + a * q + b * t + c * w, 0 + a * r + b * u + c * x], [0 + d * p + e * s + f * v, 0 + d * q + e * t + f * w, 0 + d * r + e * u + f * x], [0 + g * p + h * s + i * v, 0 + g * q + h * t + i * w, 0 + g * r + h * u + i * x]] := by
  simp only [mulR, transR, dotR, dotTo, rng3, List.map_cons, List.map_nil, List.foldl_cons, List.foldl_nil, List.getD_cons_zero, List.getD_cons_succ, List.length_cons, List.length_nil, Nat.zero_add, Nat.reduceAdd]
theorem add3 (a b c d e f g h i p q r s t u v w x : Rat) : addR [[a, b, c], [d, e, f], [g, h, i]] [[p, q, r], [s, t, u], [v, w, x]] =
    [[a + p, b + q, c + r], [d + s, e + t, f + u], [g + v, h + w, i + x]] := by
  simp only [addR, rng3, List.map_cons, List.map_nil, List.getD_cons_zero, List.getD_cons_succ, List.length_cons, List.length_nil, Nat.zero_add, Nat.reduceAdd]
theorem tr3 (a b c d e f g h i : Rat) : traceTo [[a, b, c], [d, e, f], [g, h, i]] 3 = 0 + a + e + i := by
  simp only [traceTo, rng3, List.foldl_cons, List.foldl_nil, List.getD_cons_zero, List.getD_cons_succ]
theorem num1 (Q : List (List Rat)) (n : Nat) : fadNum Q n 0 = -(traceTo Q n) := by
  unfold fadNum; rw [show ((1 + ((0 : Nat) : Int) : Int) : Rat) = 1 from by decide]; grind
theorem num2 (Q : List (List Rat)) (n : Nat) : fadNum Q n 1 = -(traceTo Q n / 2) := by
  unfold fadNum; rw [show ((1 + ((1 : Nat) : Int) : Int) : Rat) = 2 from by decide]
theorem num3 (Q : List (List Rat)) (n : Nat) : fadNum Q n 2 = -(traceTo Q n / 3) := by
  unfold fadNum; rw [show ((1 + ((2 : Nat) : Int) : Int) : Rat) = 3 from by decide]
theorem char2 (a b c d : Rat) : charR [[a, b], [c, d]] 2 = [a * d - b * c, -(a + d), 1] := by
  simp only [charR, rng2, List.map_cons, List.map_nil, fadN, fadP, unit2, mul2, num1, num2, tr2, scaleR, add2, List.reverse_cons, List.reverse_nil, List.nil_append, List.cons_append, List.cons.injEq, and_true]
  refine ⟨?_, ?_⟩ <;> grind
theorem char3 (a b c d e f g h i : Rat) : charR [[a, b, c], [d, e, f], [g, h, i]] 3 = [-(a * (e * i - f * h) - b * (d * i - f * g) + c * (d * h - e * g)), (a * e - b * d) + (a * i - c * g) + (e * i - f * h), -(a + e + i), 1] := by
  have h1 : fadP [[a, b, c], [d, e, f], [g, h, i]] 3 1 = [[-(e + i), b, c], [d, -(a + i), f], [g, h, -(a + e)]] := by
    simp only [fadP, unit3, mul3, num1, tr3, scaleR, add3, List.map_cons, List.map_nil, List.cons.injEq, and_true]
    refine ⟨⟨?_, ?_, ?_⟩, ⟨?_, ?_, ?_⟩, ?_, ?_, ?_⟩ <;> grind
  have h2 : fadP [[a, b, c], [d, e, f], [g, h, i]] 3 2 = [[e * i - f * h, -(b * i - c * h), b * f - c * e], [-(d * i - f * g), a * i - c * g, -(a * f - c * d)], [d * h - e * g, -(a * h - b * g), a * e - b * d]] := by
    rw [fadP, h1]
    simp only [unit3, mul3, num2, tr3, scaleR, add3, List.map_cons, List.map_nil, List.cons.injEq, and_true]
    refine ⟨⟨?_, ?_, ?_⟩, ⟨?_, ?_, ?_⟩, ?_, ?_, ?_⟩ <;> grind
  simp only [charR, rng3, List.map_cons, List.map_nil, fadN, h1, h2, List.reverse_cons, List.reverse_nil, List.nil_append, List.cons_append, List.cons.injEq, and_true]
  simp only [fadP, unit3, mul3, num1, num2, num3, tr3]
  refine ⟨?_, ?_, ?_⟩ <;> grind
noncomputable def charI (A : List (List Int)) : List Int :=
  let q := fun i j : Nat => (A.getD i []).getD j 0
  if A.length = 2 then [q 0 0 * q 1 1 - q 0 1 * q 1 0, -(q 0 0 + q 1 1), 1]
  else [-(q 0 0 * (q 1 1 * q 2 2 - q 1 2 * q 2 1) - q 0 1 * (q 1 0 * q 2 2 - q 1 2 * q 2 0) + q 0 2 * (q 1 0 * q 2 1 - q 1 1 * q 2 0)), (q 0 0 * q 1 1 - q 0 1 * q 1 0) + (q 0 0 * q 2 2 - q 0 2 * q 2 0) + (q 1 1 * q 2 2 - q 1 2 * q 2 1), -(q 0 0 + q 1 1 + q 2 2), 1]
theorem charI2 (a b c d : Int) : charI [[a, b], [c, d]] = [a * d - b * c, -(a + d), 1] := rfl
theorem charI3 (a b c d e f g h i : Int) : charI [[a, b, c], [d, e, f], [g, h, i]] = [-(a * (e * i - f * h) - b * (d * i - f * g) + c * (d * h - e * g)), (a * e - b * d) + (a * i - c * g) + (e * i - f * h), -(a + e + i), 1] := rfl
theorem len1 {α : Type} {n : Nat} {l : List α} (h : l.length = n + 1) : ∃ x r, l = x :: r ∧ r.length = n := by
  cases l with
  | nil => exact absurd h (Nat.succ_ne_zero n).symm
  | cons x r => exact ⟨x, r, rfl, Nat.succ.inj h⟩
theorem len2 {α : Type} {l : List α} (h : l.length = 2) : ∃ a b, l = [a, b] := by
  obtain ⟨a, r, rfl, h1⟩ := len1 h
  obtain ⟨b, q, rfl, h2⟩ := len1 h1
  exact ⟨a, b, by rw [List.eq_nil_of_length_eq_zero h2]⟩
theorem len3 {α : Type} {l : List α} (h : l.length = 3) : ∃ a b c, l = [a, b, c] := by
  obtain ⟨a, r, rfl, h1⟩ := len1 h
  obtain ⟨b, c, rfl⟩ := len2 h1
  exact ⟨a, b, c, rfl⟩
theorem sq2 {α : Type} {A : List (List α)} (h : A.length = 2) (hr : ∀ r ∈ A, r.length = 2) : ∃ a b c d, A = [[a, b], [c, d]] := by
  obtain ⟨x, y, rfl⟩ := len2 h
  obtain ⟨a, b, rfl⟩ := len2 (hr x (.head _))
  obtain ⟨c, d, rfl⟩ := len2 (hr y (.tail _ (.head _)))
  exact ⟨a, b, c, d, rfl⟩
theorem sq3 {α : Type} {A : List (List α)} (hA : A.length = 3) (hr : ∀ r ∈ A, r.length = 3) : ∃ a b c d e f g h i, A = [[a, b, c], [d, e, f], [g, h, i]] := by
  obtain ⟨x, y, z, rfl⟩ := len3 hA
  obtain ⟨a, b, c, rfl⟩ := len3 (hr x (.head _))
  obtain ⟨d, e, f, rfl⟩ := len3 (hr y (.tail _ (.head _)))
  obtain ⟨g, h, i, rfl⟩ := len3 (hr z (.tail _ (.tail _ (.head _))))
  exact ⟨a, b, c, d, e, f, g, h, i, rfl⟩
theorem char_cast {A : List (List Int)} {N : Nat} (hN : N = 2 ∨ N = 3) (h : A.length = N) (hr : ∀ r ∈ A, r.length = N) : charR (castM A) N = cast1 (charI A) ∧ (charI A).length = N + 1 ∧ (charI A)[N]? = some 1 := by
  rcases hN with rfl | rfl
  · obtain ⟨a, b, c, d, rfl⟩ := sq2 h hr
    simp only [List.map_cons, List.map_nil, char2, charI2, List.length_cons, List.length_nil, List.cons.injEq, and_true]
    refine ⟨⟨?_, ?_, ?_⟩, trivial, rfl⟩ <;> push_cast <;> rfl
  · obtain ⟨a, b, c, d, e, f, g, h, i, rfl⟩ := sq3 h hr
    simp only [List.map_cons, List.map_nil, char3, charI3, List.length_cons, List.length_nil, List.cons.injEq, and_true]
    refine ⟨⟨?_, ?_, ?_, ?_⟩, trivial, rfl⟩ <;> push_cast <;> rfl
end Mine

-- Law2
namespace Mine
noncomputable def otherI (A : List (List Int)) (N : Nat) (t u : Int) : List (List Int) := (List.range N).map fun i : Nat => (List.range N).map fun j : Nat => t * (A.getD i []).getD j 0 + (if (j : Int) = (i : Int) then u else 0)
theorem rng4 : List.range 4 = [0, 1, 2, 3] := rfl
theorem moved2 (p q t u : Int) : movedTo [p, q, 1] t u 3 = [p * (t * t) - u * (q * t) + u * u, q * t - 2 * u, 1] := by
  simp only [movedTo, movRow, movStep, addTo, rng2, rng3, List.length_cons, List.length_nil, List.replicate, List.map_cons, List.map_nil, List.getD_cons_zero, List.getD_cons_succ, List.cons_append, List.nil_append, Nat.zero_add, Nat.reduceAdd, Nat.reduceSub, Nat.sub_self, Nat.reduceLT, if_true, Nat.lt_irrefl, if_false, List.getD_nil, List.cons.injEq, and_true]
  refine ⟨?_, ?_, ?_⟩ <;> grind
theorem moved3 (p q r t u : Int) : movedTo [p, q, r, 1] t u 4 = [p * (t * t * t) - u * (q * (t * t)) + u * u * (r * t) - u * u * u, q * (t * t) - 2 * u * (r * t) + 3 * (u * u), r * t - 3 * u, 1] := by
  simp only [movedTo, movRow, movStep, addTo, rng2, rng3, rng4, List.length_cons, List.length_nil, List.replicate, List.map_cons, List.map_nil, List.getD_cons_zero, List.getD_cons_succ, List.cons_append, List.nil_append, Nat.zero_add, Nat.reduceAdd, Nat.reduceSub, Nat.sub_self, Nat.reduceLT, if_true, Nat.lt_irrefl, if_false, List.getD_nil, List.cons.injEq, and_true]
  refine ⟨?_, ?_, ?_, ?_⟩ <;> grind
theorem other2 (a b c d t u : Int) : otherI [[a, b], [c, d]] 2 t u = [[t * a + u, t * b + 0], [t * c + 0, t * d + u]] := by
  simp [otherI, rng2]
theorem other3 (a b c d e f g h i t u : Int) : otherI [[a, b, c], [d, e, f], [g, h, i]] 3 t u = [[t * a + u, t * b + 0, t * c + 0], [t * d + 0, t * e + u, t * f + 0], [t * g + 0, t * h + 0, t * i + u]] := by
  simp [otherI, rng3]
theorem moved_law {A : List (List Int)} {N : Nat} {t u : Int} (hN : N = 2 ∨ N = 3) (h : A.length = N) (hr : ∀ r ∈ A, r.length = N) : charI (otherI A N t u) = movedTo (charI A) t u (charI A).length := by
  rcases hN with rfl | rfl
  · obtain ⟨a, b, c, d, rfl⟩ := sq2 h hr
    simp only [other2, charI2, List.length_cons, List.length_nil, Nat.zero_add, Nat.reduceAdd, moved2, List.cons.injEq, and_true]
    refine ⟨?_, ?_⟩ <;> grind
  · obtain ⟨a, b, c, d, e, f, g, h, i, rfl⟩ := sq3 h hr
    simp only [other3, charI3, List.length_cons, List.length_nil, Nat.zero_add, Nat.reduceAdd, moved3, List.cons.injEq, and_true]
    refine ⟨?_, ?_, ?_⟩ <;> grind
theorem other_ok {A : List (List Int)} {N : Nat} {t u : Int} : (otherI A N t u).length = N ∧ ∀ r ∈ otherI A N t u, r.length = N := by
  unfold otherI
  refine ⟨by simp, fun r hr => ?_⟩
  obtain ⟨i, _, rfl⟩ := List.mem_map.mp hr
  simp

/-! the square -/
noncomputable def sqI (A : List (List Int)) : List (List Int) :=
  let q := fun i j : Nat => (A.getD i []).getD j 0
  if A.length = 2 then (List.range 2).map fun i => (List.range 2).map fun j => q i 0 * q 0 j + q i 1 * q 1 j
  else (List.range 3).map fun i => (List.range 3).map fun j => q i 0 * q 0 j + q i 1 * q 1 j + q i 2 * q 2 j
theorem sqI2 (a b c d : Int) : sqI [[a, b], [c, d]] = [[a * a + b * c, a * b + b * d], [c * a + d * c, c * b + d * d]] := rfl
theorem sqI3 (a b c d e f g h i : Int) : sqI [[a, b, c], [d, e, f], [g, h, i]] = [[a * a + b * d + c * g, a * b + b * e + c * h, a * c + b * f + c * i], [d * a + e * d + f * g, d * b + e * e + f * h, d * c + e * f + f * i], [g * a + h * d + i * g, g * b + h * e + i * h, g * c + h * f + i * i]] := rfl
theorem sq_cast {A : List (List Int)} {N : Nat} (hN : N = 2 ∨ N = 3) (h : A.length = N) (hr : ∀ r ∈ A, r.length = N) : mulR (castM A) (castM A) N = castM (sqI A) ∧ (sqI A).length = N ∧ ∀ r ∈ sqI A, r.length = N := by
  rcases hN with rfl | rfl
  · obtain ⟨a, b, c, d, rfl⟩ := sq2 h hr
    simp only [List.map_cons, List.map_nil, mul2, sqI2, List.length_cons, List.length_nil, List.cons.injEq, and_true]
    refine ⟨⟨⟨?_, ?_⟩, ?_, ?_⟩, trivial, by simp⟩ <;> push_cast <;> grind
  · obtain ⟨a, b, c, d, e, f, g, h, i, rfl⟩ := sq3 h hr
    simp only [List.map_cons, List.map_nil, mul3, sqI3, List.length_cons, List.length_nil, List.cons.injEq, and_true]
    refine ⟨⟨⟨?_, ?_, ?_⟩, ⟨?_, ?_, ?_⟩, ?_, ?_, ?_⟩, trivial, by simp⟩ <;> push_cast <;> grind
noncomputable def cvStep (ns : List Int) (N a : Nat) (f : List Int) (b : Nat) : List Int := f.set (a + b) (f.getD (a + b) 0 + ns.getD a 0 * ns.getD b 0 * (1 - 2 * (((N : Int) - (b : Int)).fmod 2)))
noncomputable def cvRow (ns : List Int) (N a : Nat) (f : List Int) (j : Nat) : List Int := (List.range j).foldl (cvStep ns N a) f
noncomputable def cvTo (ns : List Int) (N i : Nat) : List Int := (List.range i).foldl (fun f a => cvRow ns N a f ns.length) (List.replicate (2 * N + 1) 0)
theorem cv2 (p q : Int) : cvTo [p, q, 1] 2 3 = [p * p, 0, 2 * p - q * q, 0, 1] := by
  have e0 : ((2 : Nat) : Int) - ((0 : Nat) : Int) = 2 := rfl
  have e1 : ((2 : Nat) : Int) - ((1 : Nat) : Int) = 1 := rfl
  have e2 : ((2 : Nat) : Int) - ((2 : Nat) : Int) = 0 := rfl
  have f0 : (2 : Int).fmod 2 = 0 := by decide
  have f1 : (1 : Int).fmod 2 = 1 := by decide
  have f2 : (0 : Int).fmod 2 = 0 := by decide
  simp only [cvTo, cvRow, cvStep, rng3, List.length_cons, List.length_nil, Nat.zero_add, Nat.reduceAdd, Nat.reduceMul, List.replicate, List.foldl_cons, List.foldl_nil, List.set_cons_zero, List.set_cons_succ, List.getD_cons_zero, List.getD_cons_succ, e0, e1, e2, f0, f1, f2, List.cons.injEq, and_true]
  refine ⟨?_, ?_, ?_, ?_, ?_⟩ <;> grind
theorem cv3 (p q r : Int) : cvTo [p, q, r, 1] 3 4 = [-(p * p), 0, q * q - 2 * (p * r), 0, 2 * q - r * r, 0, 1] := by
  have e0 : ((3 : Nat) : Int) - ((0 : Nat) : Int) = 3 := rfl
  have e1 : ((3 : Nat) : Int) - ((1 : Nat) : Int) = 2 := rfl
  have e2 : ((3 : Nat) : Int) - ((2 : Nat) : Int) = 1 := rfl
  have e3 : ((3 : Nat) : Int) - ((3 : Nat) : Int) = 0 := rfl
  have f3 : (3 : Int).fmod 2 = 1 := by decide
  have f0 : (2 : Int).fmod 2 = 0 := by decide
  have f1 : (1 : Int).fmod 2 = 1 := by decide
  have f2 : (0 : Int).fmod 2 = 0 := by decide
  simp only [cvTo, cvRow, cvStep, rng4, List.length_cons, List.length_nil, Nat.zero_add, Nat.reduceAdd, Nat.reduceMul, List.replicate, List.foldl_cons, List.foldl_nil, List.set_cons_zero, List.set_cons_succ, List.getD_cons_zero, List.getD_cons_succ, e0, e1, e2, e3, f0, f1, f2, f3, List.cons.injEq, and_true]
  refine ⟨?_, ?_, ?_, ?_, ?_, ?_, ?_⟩ <;> grind
theorem pick_even5 (a b c d e : Int) : pickNums [a, b, c, d, e] none none (some 2) = [a, c, e] := by
  have e : sliceRange (sliceBounds none none (some 2) 5).1 (sliceBounds none none (some 2) 5).2.1 (sliceBounds none none (some 2) 5).2.2 = [0, 2, 4] := by decide
  unfold pickNums
  simp only [List.length_cons, List.length_nil, Nat.zero_add, Nat.reduceAdd]
  rw [e]; rfl
theorem pick_odd5 (a b c d e : Int) : pickNums [a, b, c, d, e] (some 1) none (some 2) = [b, d] := by
  have e : sliceRange (sliceBounds (some 1) none (some 2) 5).1 (sliceBounds (some 1) none (some 2) 5).2.1 (sliceBounds (some 1) none (some 2) 5).2.2 = [1, 3] := by decide
  unfold pickNums
  simp only [List.length_cons, List.length_nil, Nat.zero_add, Nat.reduceAdd]
  rw [e]; rfl
theorem pick_even7 (a b c d e f g : Int) : pickNums [a, b, c, d, e, f, g] none none (some 2) = [a, c, e, g] := by
  have e : sliceRange (sliceBounds none none (some 2) 7).1 (sliceBounds none none (some 2) 7).2.1 (sliceBounds none none (some 2) 7).2.2 = [0, 2, 4, 6] := by decide
  unfold pickNums
  simp only [List.length_cons, List.length_nil, Nat.zero_add, Nat.reduceAdd]
  rw [e]; rfl
theorem pick_odd7 (a b c d e f g : Int) : pickNums [a, b, c, d, e, f, g] (some 1) none (some 2) = [b, d, f] := by
  have e : sliceRange (sliceBounds (some 1) none (some 2) 7).1 (sliceBounds (some 1) none (some 2) 7).2.1 (sliceBounds (some 1) none (some 2) 7).2.2 = [1, 3, 5] := by decide
  unfold pickNums
  simp only [List.length_cons, List.length_nil, Nat.zero_add, Nat.reduceAdd]
  rw [e]; rfl
theorem graeffe {A : List (List Int)} {N : Nat} (hN : N = 2 ∨ N = 3) (h : A.length = N) (hr : ∀ r ∈ A, r.length = N) :
    pickNums (cvTo (charI A) N (charI A).length) none none (some 2) = charI (sqI A) ∧ pickNums (cvTo (charI A) N (charI A).length) (some 1) none (some 2) = List.replicate N 0 := by
  rcases hN with rfl | rfl
  · obtain ⟨a, b, c, d, rfl⟩ := sq2 h hr
    simp only [sqI2, charI2, List.length_cons, List.length_nil, Nat.zero_add, Nat.reduceAdd, cv2, pick_even5, pick_odd5, List.cons.injEq, and_true]
    refine ⟨⟨?_, ?_⟩, rfl⟩ <;> grind
  · obtain ⟨a, b, c, d, e, f, g, h, i, rfl⟩ := sq3 h hr
    simp only [sqI3, charI3, List.length_cons, List.length_nil, Nat.zero_add, Nat.reduceAdd, cv3, pick_even7, pick_odd7, List.cons.injEq, and_true]
    refine ⟨⟨?_, ?_, ?_⟩, rfl⟩ <;> grind
end Mine

-- Law3
namespace Mine
noncomputable def sumTo (f : Nat → Rat) : Nat → Rat
  | 0 => 0
  | m + 1 => sumTo f m + f m
theorem sumTo_congr {f g : Nat → Rat} : ∀ {m : Nat}, (∀ j, j < m → f j = g j) → sumTo f m = sumTo g m
  | 0, _ => rfl
  | m + 1, h => by rw [sumTo, sumTo, sumTo_congr fun j hj => h j (by omega), h m (by omega)]
theorem sumTo_div {f : Nat → Rat} {q : Rat} : ∀ {m : Nat}, sumTo (fun j => f j / q) m = sumTo f m / q
  | 0 => by simp only [sumTo]; grind
  | m + 1 => by rw [sumTo, sumTo, sumTo_div]; grind
theorem sumTo_sub {f g : Nat → Rat} {q : Rat} : ∀ {m : Nat}, sumTo (fun j => f j - q * g j) m = sumTo f m - q * sumTo g m
  | 0 => by simp only [sumTo]; grind
  | m + 1 => by rw [sumTo, sumTo, sumTo, sumTo_sub]; grind
theorem div_at {r : List Rat} {q : Rat} {j : Nat} : (divRow r q).getD j 0 = r.getD j 0 / q := by
  unfold divRow
  rw [List.getD_eq_getElem?_getD, List.getElem?_map, List.getD_eq_getElem?_getD]
  cases r[j]? with
  | none => simp only [Option.map_none, Option.getD_none]; grind
  | some x => rfl
theorem sub_at {r s : List Rat} {q : Rat} {j : Nat} (h : j < r.length) : (subRow r s q).getD j 0 = r.getD j 0 - q * s.getD j 0 := by
  unfold subRow; rw [getD_map_range _ _ h]
/-- a word of rows that the steps keep -/
theorem ech_rows {M : List (List Rat)} {n k b : Nat} (hD : Dim M n k) (hB : RBm b M) (G : List Rat → Prop) (hdiv : ∀ r q, r.length = k → G r → G (divRow r q)) (hsub : ∀ r s q, r.length = k → s.length = k → G r → G s → G (subRow r s q))
    (h0 : ∀ x, x < n → G (M.getD x [])) : ∀ i x, x < n → G ((echTo M i).1.getD x [])
  | 0, x, hx => h0 x hx
  | i + 1, x, hx => by
    have ih := ech_rows hD hB G hdiv hsub h0 i
    obtain ⟨h1, _, _⟩ := ech_inv hD hB i
    rw [echTo_succ]
    unfold echStep
    split
    · exact ih x hx
    · rename_i i0 l hs
      generalize echTo M i = st at *
      obtain ⟨X, piv⟩ := st
      simp only at *
      have hlt := (spots_lt hs).1
      rw [h1.rows] at hlt
      have hsw := dim_swap (i := piv.length) (j := piv.length + i0) h1 (by omega) hlt
      have hp := dim_piv (col := i) h1 hlt
      have hG : ∀ y, y < n → G ((swapR X piv.length (piv.length + i0)).getD y []) := fun y hy => by
        unfold swapR
        rw [getD_set _ _ _ (by simp [h1.rows, hy]), getD_set _ _ _ (by rw [h1.rows]; exact hy)]
        split
        · exact ih _ (by omega)
        · split
          · exact ih _ hlt
          · exact ih y hy
      have hGr : G ((pivR X piv.length i0 i).getD piv.length []) := by
        rw [piv_row h1 hlt]
        exact hdiv _ _ (hsw.at (by omega)).2 (hG _ (by omega))
      rw [clrTo_at (by rw [hp.rows]; exact hx)]
      have hGx : G ((pivR X piv.length i0 i).getD x []) := by
        by_cases e : x = piv.length
        · rw [e]; exact hGr
        · rw [piv_other h1 hlt hx e]; exact hG x hx
      split
      · exact hsub _ _ _ (hp.at hx).2 (hp.at (by omega)).2 hGx hGr
      · exact hGx
noncomputable abbrev dv (r : List Rat) (v : Nat → Rat) (n : Nat) : Rat := sumTo (fun j => r.getD j 0 * v j) n
theorem dv_div {r : List Rat} {v : Nat → Rat} {n : Nat} {q : Rat} : dv (divRow r q) v n = dv r v n / q := by
  unfold dv
  rw [← sumTo_div]
  exact sumTo_congr fun j _ => by rw [div_at]; grind
theorem dv_sub {r s : List Rat} {v : Nat → Rat} {n : Nat} {q : Rat} (h : n ≤ r.length) : dv (subRow r s q) v n = dv r v n - q * dv s v n := by
  unfold dv
  rw [← sumTo_sub]
  exact sumTo_congr fun j hj => by rw [sub_at (by omega)]; grind
/-- the steps keep the kernel -/
theorem ech_ker {M : List (List Rat)} {n k b : Nat} (hD : Dim M n k) (hB : RBm b M) (hk : n ≤ k) (v : Nat → Rat) : ∀ i, (∀ x, x < n → dv ((echTo M i).1.getD x []) v n = 0) → ∀ x, x < n → dv (M.getD x []) v n = 0
  | 0, h => h
  | i + 1, h => by
    refine ech_ker hD hB hk v i ?_
    obtain ⟨h1, _, _⟩ := ech_inv hD hB i
    rw [echTo_succ] at h
    unfold echStep at h
    split at h
    · exact h
    · rename_i i0 l hs
      generalize echTo M i = st at *
      obtain ⟨X, piv⟩ := st
      simp only at *
      obtain ⟨hlt, hnz⟩ := spots_lt hs
      rw [h1.rows] at hlt
      have hsw := dim_swap (i := piv.length) (j := piv.length + i0) h1 (by omega) hlt
      have hp := dim_piv (col := i) h1 hlt
      have hr0 := h piv.length (by omega)
      rw [clrTo_at (by rw [hp.rows]; omega), if_neg (fun h => h.2.1 rfl), piv_row h1 hlt, dv_div, swap_first (by rw [h1.rows]; omega) (by rw [h1.rows]; exact hlt)] at hr0
      have hr1 : dv (X.getD (piv.length + i0) []) v n = 0 := by grind
      have hsx : ∀ y, y < n → dv ((swapR X piv.length (piv.length + i0)).getD y []) v n = 0 := fun y hy => by
        by_cases e : y = piv.length
        · rw [e, swap_first (by rw [h1.rows]; omega) (by rw [h1.rows]; exact hlt)]; exact hr1
        · have hy2 := h y hy
          rw [clrTo_at (by rw [hp.rows]; exact hy), piv_row h1 hlt, piv_other h1 hlt hy e] at hy2
          split at hy2
          · rw [dv_sub (by rw [(hsw.at hy).2]; exact hk), dv_div, swap_first (by rw [h1.rows]; omega) (by rw [h1.rows]; exact hlt), hr1] at hy2
            grind
          · exact hy2
      intro y hy
      by_cases e : y = piv.length
      · subst e
        have := hsx (piv.length + i0) hlt
        unfold swapR at this
        rw [getD_set _ _ _ (by simp [h1.rows, hlt]), if_pos rfl] at this
        exact this
      · by_cases e2 : y = piv.length + i0
        · rw [e2]; exact hr1
        · have := hsx y hy
          unfold swapR at this
          rw [getD_set _ _ _ (by simp [h1.rows, hy]), if_neg (Ne.symm e2), getD_set _ _ _ (by rw [h1.rows]; exact hy), if_neg (Ne.symm e)] at this
          exact this
/-- columns that are done -/
noncomputable def Ones (X : List (List Rat)) (n i : Nat) : Prop := ∀ t x, t < i → x < n → (X.getD x []).getD t 0 = if x = t then 1 else 0
theorem ker_sum {X : List (List Rat)} {n i x : Nat} (h : Ones X n i) (hx : x < n) (hi : i < n) : ∀ m, m ≤ n → sumTo (fun j => (X.getD x []).getD j 0 * (if j = i then 1 else if j < i then -((X.getD j []).getD i 0) else 0)) m = (if x < m ∧ x < i then -((X.getD x []).getD i 0) else 0) + (if i < m then (X.getD x []).getD i 0 else 0)
  | 0, _ => by simp only [sumTo]; grind
  | m + 1, hm => by
    rw [sumTo, ker_sum h hx hi m (by omega)]
    by_cases e : m = i
    · subst e
      rw [if_pos rfl, if_neg (Nat.lt_irrefl m), if_pos (Nat.lt_succ_self m)]
      by_cases h1 : x < m
      · rw [if_pos ⟨h1, h1⟩, if_pos ⟨by omega, h1⟩]; grind
      · rw [if_neg (fun h => h1 h.2), if_neg (fun h => h1 h.2)]; grind
    · rw [if_neg e]
      by_cases h1 : m < i
      · rw [if_pos h1, h m x h1 hx, if_neg (show ¬ i < m by omega), if_neg (show ¬ i < m + 1 by omega)]
        by_cases h2 : x = m
        · subst h2
          rw [if_pos rfl, if_neg (fun h => Nat.lt_irrefl _ h.1), if_pos ⟨Nat.lt_succ_self _, h1⟩]; grind
        · rw [if_neg h2]
          by_cases h3 : x < m
          · rw [if_pos ⟨h3, by omega⟩, if_pos ⟨by omega, by omega⟩]; grind
          · rw [if_neg (fun h => h3 h.1), if_neg (fun h => by omega)]; grind
      · rw [if_neg h1, if_pos (show i < m by omega), if_pos (show i < m + 1 by omega)]
        by_cases h2 : x < i
        · rw [if_pos ⟨by omega, h2⟩, if_pos ⟨by omega, h2⟩]; grind
        · rw [if_neg (fun h => h2 h.2), if_neg (fun h => h2 h.2)]; grind
theorem ech_cases {M : List (List Rat)} {n k b : Nat} (hD : Dim M n k) (hB : RBm b M) (hk : n ≤ k) : ∀ i, i ≤ n →
    ((echTo M i).2 = List.range i ∧ Ones (echTo M i).1 n i) ∨ (∃ c, c < i ∧ c ∉ (echTo M i).2 ∧ ∃ v : Nat → Rat, v c = 1 ∧ ∀ x, x < n → dv (M.getD x []) v n = 0)
  | 0, _ => .inl ⟨rfl, fun t x h => absurd h (Nat.not_lt_zero t)⟩
  | i + 1, hi => by
    obtain ⟨h1, _, _⟩ := ech_inv hD hB i
    rcases ech_cases hD hB hk i (by omega) with ⟨hp, hO⟩ | ⟨c, hc, hcp, hv⟩
    · have hker := ech_ker hD hB hk (fun j => if j = i then 1 else if j < i then -(((echTo M i).1.getD j []).getD i 0) else 0) i
      rw [echTo_succ]
      unfold echStep
      split
      · rename_i hs
        refine .inr ⟨i, Nat.lt_succ_self i, by rw [hp]; simp, _, if_pos rfl, hker fun x hx => ?_⟩
        unfold dv
        rw [ker_sum hO hx (by omega) n (Nat.le_refl n), if_pos (show i < n by omega)]
        by_cases h2 : x < i
        · rw [if_pos ⟨hx, h2⟩]; grind
        · rw [if_neg (fun h => h2 h.2)]
          rw [hp, List.length_range] at hs
          rw [spots_nil hs (by omega) (by rw [h1.rows]; exact hx)]; grind
      · rename_i i0 l hs
        left
        clear hker
        generalize echTo M i = st at *
        obtain ⟨X, piv⟩ := st
        simp only at *
        subst hp
        simp only [List.length_range] at *
        obtain ⟨hlt, hnz⟩ := spots_lt hs
        rw [h1.rows] at hlt
        have hsw := dim_swap (i := i) (j := i + i0) h1 (by omega) hlt
        have hpD := dim_piv (col := i) h1 hlt
        refine ⟨List.range_succ.symm, fun t x ht hx => ?_⟩
        have hs0 : ∀ y, y < n → t < i → ((swapR X i (i + i0)).getD y []).getD t 0 = if y = t then 1 else 0 := fun y hy ht => by
          unfold swapR
          rw [getD_set _ _ _ (by simp [h1.rows, hy]), getD_set _ _ _ (by rw [h1.rows]; exact hy)]
          split
          · rw [hO t i ht (by omega)]
            rename_i e
            rw [if_neg (by omega), if_neg (by omega)]
          · split
            · rw [hO t _ ht hlt]
              rw [if_neg (by omega), if_neg (by omega)]
            · exact hO t y ht hy
        have hrow : ((pivR X i i0 i).getD i []).getD t 0 = if i = t then 1 else 0 := by
          rw [piv_row h1 hlt, div_at, swap_first (by rw [h1.rows]; omega) (by rw [h1.rows]; exact hlt)]
          by_cases e : i = t
          · subst e; rw [if_pos rfl]; grind
          · have := hs0 i (by omega) (by omega)
            rw [swap_first (by rw [h1.rows]; omega) (by rw [h1.rows]; exact hlt)] at this
            rw [this, if_neg e]; grind
        rw [clrTo_at (by rw [hpD.rows]; exact hx)]
        by_cases e : x = i
        · subst e
          rw [if_neg (fun h => h.2.1 rfl)]; exact hrow
        · rw [piv_other h1 hlt hx e]
          split
          · rw [sub_at (by rw [(hsw.at hx).2]; omega), hrow]
            by_cases e2 : i = t
            · subst e2; rw [if_pos rfl, if_neg e]; grind
            · rw [if_neg e2, hs0 x hx (by omega)]; grind
          · rename_i hc
            by_cases e2 : i = t
            · subst e2
              rw [if_neg e]
              have : ¬ (((swapR X i (i + i0)).getD x []).getD i 0 ≠ 0) := fun h => hc ⟨by rw [hpD.rows]; exact hx, e, h⟩
              grind
            · exact hs0 x hx (by omega)
    · right
      rw [echTo_succ]
      refine ⟨c, by omega, ?_, hv⟩
      unfold echStep
      split
      · exact hcp
      · intro h
        rcases List.mem_append.mp h with h | h
        · exact hcp h
        · have := List.mem_singleton.mp h; omega
/-- behind the first columns -/
theorem ech_rest {M : List (List Rat)} {n k b : Nat} (hD : Dim M n k) (hB : RBm b M) (h : (echTo M n).2 = List.range n) : ∀ d, echTo M (n + d) = echTo M n
  | 0 => rfl
  | d + 1 => by
    have hr := ech_rest hD hB h d
    have h1 := (ech_inv hD hB n).1.rows
    rw [← Nat.add_assoc, echTo_succ, hr]
    unfold echStep
    have e : spotsR (echTo M n).1 (echTo M n).2.length (n + d) = [] := by
      unfold spotsR; rw [h1, h, List.length_range, Nat.sub_self]; rfl
    rw [e]
theorem ech_bad {M : List (List Rat)} {n c : Nat} (hc : c < n) (h : c ∉ (echTo M n).2) : ∀ d, c ∉ (echTo M (n + d)).2
  | 0 => h
  | d + 1 => by
    rw [← Nat.add_assoc, echTo_succ]
    unfold echStep
    split
    · exact ech_bad hc h d
    · intro hm
      rcases List.mem_append.mp hm with hm | hm
      · exact ech_bad hc h d hm
      · have := List.mem_singleton.mp hm; omega
end Mine

-- Law4
namespace Mine
theorem getD_app_l {a b : List Rat} {j : Nat} (h : j < a.length) : (a ++ b).getD j 0 = a.getD j 0 := by
  rw [List.getD_eq_getElem?_getD, List.getD_eq_getElem?_getD, List.getElem?_append_left h]
theorem getD_app_r {a b : List Rat} {j : Nat} : (a ++ b).getD (a.length + j) 0 = b.getD j 0 := by
  rw [List.getD_eq_getElem?_getD, List.getD_eq_getElem?_getD, List.getElem?_append_right (by omega)]
  simp
theorem getD_drop {a : List Rat} {n j : Nat} : (a.drop n).getD j 0 = a.getD (n + j) 0 := by
  rw [List.getD_eq_getElem?_getD, List.getD_eq_getElem?_getD, List.getElem?_drop]
theorem wide_at {M : List (List Rat)} {n x : Nat} (hx : x < n) : (wideR M n).getD x [] = M.getD x [] ++ (unitR n).getD x [] := by
  unfold wideR; rw [getD_map_range _ _ hx]
theorem unit_at {n x j : Nat} (hx : x < n) (hj : j < n) : ((unitR n).getD x []).getD j 0 = if x = j then 1 else 0 := by
  unfold unitR; rw [getD_map_range _ _ hx, getD_map_range _ _ hj]
theorem sum_delta {f : Nat → Rat} {x : Nat} : ∀ {m : Nat}, sumTo (fun k => (if x = k then 1 else 0) * f k) m = if x < m then f x else 0
  | 0 => by simp only [sumTo]; rw [if_neg (Nat.not_lt_zero x)]
  | m + 1 => by
    rw [sumTo, sum_delta]
    by_cases h : x = m
    · subst h; rw [if_neg (Nat.lt_irrefl x), if_pos rfl, if_pos (Nat.lt_succ_self x)]; grind
    · rw [if_neg h]
      by_cases h2 : x < m
      · rw [if_pos h2, if_pos (by omega)]; grind
      · rw [if_neg h2, if_neg (by omega)]; grind
theorem inv_two {M : List (List Rat)} {n b : Nat} (hD : Dim M n n) (hB : RBm b M) :
    (invOk M n ∧ ∀ x j, x < n → j < n → sumTo (fun k => ((invR M n).getD x []).getD k 0 * (M.getD k []).getD j 0) n = if x = j then 1 else 0) ∨
    (¬ invOk M n ∧ ∃ c, c < n ∧ ∃ v : Nat → Rat, v c = 1 ∧ ∀ x, x < n → dv (M.getD x []) v n = 0) := by
  have hW := dim_wide hD
  have hWB := rb_wide (n := n) hB
  have h2 : n + n = 2 * n := by omega
  rcases ech_cases hW hWB (by omega) n (Nat.le_refl n) with ⟨hp, hO⟩ | ⟨c, hc, hcp, v, hv, hv0⟩
  · left
    have hr := ech_rest hW hWB hp n
    rw [h2] at hr
    refine ⟨by unfold invOk; rw [hr, hp]; exact List.take_of_length_le (by simp), fun x j hx hj => ?_⟩
    have hG := ech_rows hW hWB (fun r => ∀ j, j < n → r.getD j 0 = sumTo (fun k => r.getD (n + k) 0 * (M.getD k []).getD j 0) n)
      (fun r q hl h j hj => by
        rw [div_at, h j hj, ← sumTo_div]
        exact sumTo_congr fun k _ => by rw [div_at]; grind)
      (fun r s q hl hl2 h h' j hj => by
        rw [sub_at (by omega), h j hj, h' j hj, ← sumTo_sub]
        exact sumTo_congr fun k hk => by rw [sub_at (by omega)]; grind)
      (fun x hx j hj => by
        have hl := (hD.at hx).2
        rw [wide_at hx, getD_app_l (by omega)]
        rw [sumTo_congr (g := fun k => (if x = k then 1 else 0) * (M.getD k []).getD j 0) fun k hk => by
          have e : ((M.getD x []) ++ (unitR n).getD x []).getD (n + k) 0 = ((unitR n).getD x []).getD k 0 := by
            have := getD_app_r (a := M.getD x []) (b := (unitR n).getD x []) (j := k)
            rwa [hl] at this
          rw [e, unit_at hx hk]]
        rw [sum_delta, if_pos hx]) n x hx j hj
    rw [hO j x hj hx] at hG
    rw [hG]
    refine sumTo_congr fun k _ => ?_
    have h1 := (ech_inv hW hWB n).1.rows
    have e : (invR M n).getD x [] = ((echTo (wideR M n) n).1.getD x []).drop n := by
      unfold invR
      rw [hr, List.getD_eq_getElem?_getD, List.getElem?_map, some_getD (d := ([] : List Rat)) (by rw [h1]; exact hx)]
      rfl
    rw [e, getD_drop]
  · right
    refine ⟨fun h => ?_, c, hc, v, hv, fun x hx => ?_⟩
    · have := ech_bad hc hcp n
      rw [h2] at this
      refine this (List.mem_of_mem_take (i := n) ?_)
      unfold invOk at h
      rw [h]; exact List.mem_range.mpr hc
    · have := hv0 x hx
      rw [← this]
      unfold dv
      refine sumTo_congr fun j hj => ?_
      rw [wide_at hx, getD_app_l (by rw [(hD.at hx).2]; exact hj)]
theorem sqr2 {A : List (List Rat)} (h : Dim A 2 2) : ∃ a b c d, A = [[a, b], [c, d]] := sq2 h.rows h.cols
theorem sqr3 {A : List (List Rat)} (h : Dim A 3 3) : ∃ a b c d e f g h i, A = [[a, b, c], [d, e, f], [g, h, i]] := sq3 h.rows h.cols
theorem num_den (q : Rat) : (q.num : Rat) = q * (q.den : Rat) := by
  have h := Rat.num_divInt_den q
  rw [Rat.divInt_eq_div] at h
  have hd : ((q.den : Int) : Rat) ≠ 0 := by
    intro e
    have := q.den_nz
    have h2 : (q.den : Int) = 0 := Rat.intCast_inj.mp (by rw [e]; rfl)
    omega
  have e : ((q.den : Int) : Rat) = (q.den : Rat) := by rfl
  rw [e] at h hd
  generalize (q.num : Rat) = n at *
  generalize (q.den : Rat) = d at *
  subst h
  grind
theorem num_of {q : Rat} {f m : Int} (h : q * (f : Rat) = (m : Rat)) : q.num * f = q.den * m := by
  have h1 : (q.num : Rat) = q * (q.den : Rat) := num_den q
  have h2 : ((q.num * f : Int) : Rat) = ((q.den * m : Int) : Rat) := by
    push_cast
    rw [h1, ← h]
    grind
  exact Rat.intCast_inj.mp h2
theorem dim_cast {A : List (List Int)} {N : Nat} (h : A.length = N) (hr : ∀ r ∈ A, r.length = N) : Dim (castM A) N N := ⟨by simp [h], fun r hr' => by
  obtain ⟨q, hq, rfl⟩ := List.mem_map.mp hr'
  simp [hr q hq]⟩
theorem inv_facts2 {A : List (List Int)} {b : Nat} (h : A.length = 2) (hr : ∀ r ∈ A, r.length = 2) (hB : RBm b (castM A)) :
    ((charI A).getD 0 0 = 0 ↔ ¬ invOk (castM A) 2) ∧ (invOk (castM A) 2 → ∀ i, i < 3 → ((charR (invR (castM A) 2) 2).getD i 0).num * (charI A).getD 0 0 = ((charR (invR (castM A) 2) 2).getD i 0).den * (charI A).getD (2 - i) 0) := by
  have hD := dim_cast h hr
  have hI := dim_inv hD hB
  have hT := inv_two hD hB
  obtain ⟨a, b, c, d, rfl⟩ := sq2 h hr
  rcases hT with ⟨hok, hE⟩ | ⟨hno, c0, hc, v, hv, hk⟩
  · obtain ⟨x, y, z, w, hX⟩ := sqr2 hI
    rw [hX] at hE ⊢
    simp only [List.map_cons, List.map_nil] at hE
    have e00 := hE 0 0 (by omega) (by omega)
    have e01 := hE 0 1 (by omega) (by omega)
    have e10 := hE 1 0 (by omega) (by omega)
    have e11 := hE 1 1 (by omega) (by omega)
    simp only [sumTo, List.getD_cons_zero, List.getD_cons_succ, if_true, Nat.zero_ne_one, Nat.one_ne_zero, if_false] at e00 e01 e10 e11
    clear hE
    have hdet : ((a * d - b * c : Int) : Rat) ≠ 0 := by push_cast; grind
    have hdet' : a * d - b * c ≠ 0 := fun e => hdet (by rw [e]; rfl)
    have hx : x * ((a : Rat) * d - b * c) = d := by grind
    have hy : y * ((a : Rat) * d - b * c) = -b := by grind
    have hz : z * ((a : Rat) * d - b * c) = -c := by grind
    have hw : w * ((a : Rat) * d - b * c) = a := by grind
    have hdd : (x * w - y * z) * ((a : Rat) * d - b * c) = 1 := by grind
    refine ⟨⟨fun e => absurd e hdet', fun e => absurd hok e⟩, fun _ i hi => num_of ?_⟩
    simp only [char2, charI2]
    have : i = 0 ∨ i = 1 ∨ i = 2 := by omega
    rcases this with rfl | rfl | rfl <;> simp only [List.getD_cons_zero, List.getD_cons_succ, Nat.sub_zero, Nat.reduceSub, Nat.sub_self] <;> push_cast <;> grind
  · refine ⟨⟨fun _ => hno, fun _ => ?_⟩, fun h => absurd h hno⟩
    have k0 := hk 0 (by omega)
    have k1 := hk 1 (by omega)
    simp only [dv, sumTo, List.map_cons, List.map_nil, List.getD_cons_zero, List.getD_cons_succ] at k0 k1
    show a * d - b * c = 0
    have : ((a * d - b * c : Int) : Rat) = ((0 : Int) : Rat) := by
      push_cast
      have : c0 = 0 ∨ c0 = 1 := by omega
      rcases this with rfl | rfl <;> grind
    exact Rat.intCast_inj.mp this
theorem adj3 {a b c d e f g h i p q r s t u D : Rat} (hD : D = a * (e * i - f * h) - b * (d * i - f * g) + c * (d * h - e * g))
    (h0 : p * a + q * d + r * g = s) (h1 : p * b + q * e + r * h = t) (h2 : p * c + q * f + r * i = u) :
    p * D = s * (e * i - f * h) - t * (d * i - f * g) + u * (d * h - e * g) ∧ q * D = -(s * (b * i - c * h)) + t * (a * i - c * g) - u * (a * h - b * g) ∧ r * D = s * (b * f - c * e) - t * (a * f - c * d) + u * (a * e - b * d) := by
  subst hD h0 h1 h2
  refine ⟨?_, ?_, ?_⟩ <;> grind
theorem minor {x y z w D X Y Z W m : Rat} (hD : D ≠ 0) (hx : x * D = X) (hy : y * D = Y) (hz : z * D = Z) (hw : w * D = W) (h : X * W - Y * Z = D * m) : (x * w - y * z) * D = m := by
  have : ((x * w - y * z) * D - m) * D = 0 := by subst hx hy hz hw; grind
  rcases Rat.mul_eq_zero.mp this with h | h
  · grind
  · exact absurd h hD
theorem inv_facts3 {A : List (List Int)} {b : Nat} (hA : A.length = 3) (hr : ∀ r ∈ A, r.length = 3) (hB : RBm b (castM A)) :
    ((charI A).getD 0 0 = 0 ↔ ¬ invOk (castM A) 3) ∧ (invOk (castM A) 3 → ∀ i, i < 4 → ((charR (invR (castM A) 3) 3).getD i 0).num * (charI A).getD 0 0 = ((charR (invR (castM A) 3) 3).getD i 0).den * (charI A).getD (3 - i) 0) := by
  have hD := dim_cast hA hr
  have hI := dim_inv hD hB
  have hT := inv_two hD hB
  obtain ⟨a, b, c, d, e, f, g, h, i, rfl⟩ := sq3 hA hr
  clear hA hr hB hD
  rcases hT with ⟨hok, hE⟩ | ⟨hno, c0, hc, v, hv, hk⟩
  · obtain ⟨p, q, r, s, t, u, x, y, z, hX⟩ := sqr3 hI
    rw [hX] at hE ⊢
    clear hI hX
    simp only [List.map_cons, List.map_nil] at hE
    have e00 := hE 0 0 (by omega) (by omega)
    have e01 := hE 0 1 (by omega) (by omega)
    have e02 := hE 0 2 (by omega) (by omega)
    have e10 := hE 1 0 (by omega) (by omega)
    have e11 := hE 1 1 (by omega) (by omega)
    have e12 := hE 1 2 (by omega) (by omega)
    have e20 := hE 2 0 (by omega) (by omega)
    have e21 := hE 2 1 (by omega) (by omega)
    have e22 := hE 2 2 (by omega) (by omega)
    simp only [sumTo, List.getD_cons_zero, List.getD_cons_succ, if_true, Nat.reduceEqDiff, if_false, Rat.zero_add] at e00 e01 e02 e10 e11 e12 e20 e21 e22
    clear hE
    have key : ∀ a b c d e f g h i : Rat, p * a + q * d + r * g = 1 → p * b + q * e + r * h = 0 → p * c + q * f + r * i = 0 → s * a + t * d + u * g = 0 → s * b + t * e + u * h = 1 → s * c + t * f + u * i = 0 → x * a + y * d + z * g = 0 → x * b + y * e + z * h = 0 → x * c + y * f + z * i = 1 →
        (a * (e * i - f * h) - b * (d * i - f * g) + c * (d * h - e * g)) ≠ 0 ∧ (p * (t * z - u * y) - q * (s * z - u * x) + r * (s * y - t * x)) * (a * (e * i - f * h) - b * (d * i - f * g) + c * (d * h - e * g)) = 1 ∧
        ((p * t - q * s) + (p * z - r * x) + (t * z - u * y)) * (a * (e * i - f * h) - b * (d * i - f * g) + c * (d * h - e * g)) = a + e + i ∧ (p + t + z) * (a * (e * i - f * h) - b * (d * i - f * g) + c * (d * h - e * g)) = (a * e - b * d) + (a * i - c * g) + (e * i - f * h) := by
      clear e00 e01 e02 e10 e11 e12 e20 e21 e22
      intro a b c d e f g h i e00 e01 e02 e10 e11 e12 e20 e21 e22
      obtain ⟨D, hD⟩ : ∃ D, D = a * (e * i - f * h) - b * (d * i - f * g) + c * (d * h - e * g) := ⟨_, rfl⟩
      obtain ⟨hp, hq, hr⟩ := adj3 hD e00 e01 e02
      obtain ⟨hs, ht, hu⟩ := adj3 hD e10 e11 e12
      obtain ⟨hx, hy, hz⟩ := adj3 hD e20 e21 e22
      have hD0 : D ≠ 0 := fun h0 => by
        have m1 : a * e - b * d = 0 := by grind
        have m2 : a * h - b * g = 0 := by grind
        have m3 : d * h - e * g = 0 := by grind
        have id : (p * a + q * d + r * g) * (s * b + t * e + u * h) - (p * b + q * e + r * h) * (s * a + t * d + u * g) = (p * t - q * s) * (a * e - b * d) + (p * u - r * s) * (a * h - b * g) + (q * u - r * t) * (d * h - e * g) := by grind
        rw [e00, e01, e10, e11, m1, m2, m3] at id
        grind
      have c00 : (t * z - u * y) * D = a := minor hD0 ht hu hy hz (by subst hD; grind)
      have c01 : (s * z - u * x) * D = -d := minor hD0 hs hu hx hz (by subst hD; grind)
      have c02 : (s * y - t * x) * D = g := minor hD0 hs ht hx hy (by subst hD; grind)
      have c11 : (p * z - r * x) * D = e := minor hD0 hp hr hx hz (by subst hD; grind)
      have c22 : (p * t - q * s) * D = i := minor hD0 hp hq hs ht (by subst hD; grind)
      rw [← hD]
      clear hD
      refine ⟨hD0, ?_, ?_, ?_⟩ <;> grind
    obtain ⟨k0, k1, k2, k3⟩ := key _ _ _ _ _ _ _ _ _ e00 e01 e02 e10 e11 e12 e20 e21 e22
    clear key e00 e01 e02 e10 e11 e12 e20 e21 e22
    have hdet' : -(a * (e * i - f * h) - b * (d * i - f * g) + c * (d * h - e * g)) ≠ 0 := fun e0 => k0 (by
      have h2 : ((a * (e * i - f * h) - b * (d * i - f * g) + c * (d * h - e * g) : Int) : Rat) = ((0 : Int) : Rat) := by rw [show a * (e * i - f * h) - b * (d * i - f * g) + c * (d * h - e * g) = 0 by omega]
      push_cast at h2
      exact h2)
    refine ⟨⟨fun e => absurd e hdet', fun e => absurd hok e⟩, fun _ j hj => num_of ?_⟩
    simp only [char3, charI3]
    have : j = 0 ∨ j = 1 ∨ j = 2 ∨ j = 3 := by omega
    generalize hDD : (a : Rat) * ((e : Rat) * (i : Rat) - (f : Rat) * (h : Rat)) - (b : Rat) * ((d : Rat) * (i : Rat) - (f : Rat) * (g : Rat)) + (c : Rat) * ((d : Rat) * (h : Rat) - (e : Rat) * (g : Rat)) = D at *
    rcases this with rfl | rfl | rfl | rfl <;> simp only [List.getD_cons_zero, List.getD_cons_succ, Nat.sub_zero, Nat.reduceSub, Nat.sub_self] <;> push_cast <;> rw [hDD] <;> clear hDD <;> grind
  · refine ⟨⟨fun _ => hno, fun _ => ?_⟩, fun h => absurd h hno⟩
    have k0 := hk 0 (by omega)
    have k1 := hk 1 (by omega)
    have k2 := hk 2 (by omega)
    simp only [dv, sumTo, List.map_cons, List.map_nil, List.getD_cons_zero, List.getD_cons_succ, Rat.zero_add] at k0 k1 k2
    show -(a * (e * i - f * h) - b * (d * i - f * g) + c * (d * h - e * g)) = 0
    have : ((-(a * (e * i - f * h) - b * (d * i - f * g) + c * (d * h - e * g)) : Int) : Rat) = ((0 : Int) : Rat) := by
      push_cast
      clear hk
      generalize (a : Rat) = a at *
      generalize (b : Rat) = b at *
      generalize (c : Rat) = c at *
      generalize (d : Rat) = d at *
      generalize (e : Rat) = e at *
      generalize (f : Rat) = f at *
      generalize (g : Rat) = g at *
      generalize (h : Rat) = h at *
      generalize (i : Rat) = i at *
      have : c0 = 0 ∨ c0 = 1 ∨ c0 = 2 := by omega
      rcases this with rfl | rfl | rfl
      · have : (a * (e * i - f * h) - b * (d * i - f * g) + c * (d * h - e * g)) * v 0 = (e * i - f * h) * (a * v 0 + b * v 1 + c * v 2) - (b * i - c * h) * (d * v 0 + e * v 1 + f * v 2) + (b * f - c * e) * (g * v 0 + h * v 1 + i * v 2) := by grind
        rw [k0, k1, k2, hv] at this; grind
      · have : (a * (e * i - f * h) - b * (d * i - f * g) + c * (d * h - e * g)) * v 1 = -((d * i - f * g) * (a * v 0 + b * v 1 + c * v 2)) + (a * i - c * g) * (d * v 0 + e * v 1 + f * v 2) - (a * f - c * d) * (g * v 0 + h * v 1 + i * v 2) := by grind
        rw [k0, k1, k2, hv] at this; grind
      · have : (a * (e * i - f * h) - b * (d * i - f * g) + c * (d * h - e * g)) * v 2 = (d * h - e * g) * (a * v 0 + b * v 1 + c * v 2) - (a * h - b * g) * (d * v 0 + e * v 1 + f * v 2) + (a * e - b * d) * (g * v 0 + h * v 1 + i * v 2) := by grind
        rw [k0, k1, k2, hv] at this; grind
    exact Rat.intCast_inj.mp this
theorem inv_facts {A : List (List Int)} {b N : Nat} (hN : N = 2 ∨ N = 3) (h : A.length = N) (hr : ∀ r ∈ A, r.length = N) (hB : RBm b (castM A)) :
    ((charI A).getD 0 0 = 0 ↔ ¬ invOk (castM A) N) ∧ (invOk (castM A) N → ∀ i, i < N + 1 → ((charR (invR (castM A) N) N).getD i 0).num * (charI A).getD 0 0 = ((charR (invR (castM A) N) N).getD i 0).den * (charI A).getD (N - i) 0) := by
  rcases hN with rfl | rfl
  · exact inv_facts2 h hr hB
  · exact inv_facts3 h hr hB
end Mine

-- Lst8
namespace Mine
theorem paired_choose {α : Type} {P : Nat → Value → Prop} {G : Value → α → Prop} {Q : α → Prop} (h : ∀ i y, P i y → ∃ x, G y x ∧ Q x) : ∀ {is : List Nat} {ys : List Value}, Paired P is ys → ∃ xs : List α, Paired G ys xs ∧ xs.length = is.length ∧ ∀ x ∈ xs, Q x
  | _, _, .nil => ⟨[], .nil, rfl, fun _ h => nomatch h⟩
  | _, _, .cons hp t => by
    obtain ⟨x, hx, hq⟩ := h _ _ hp
    obtain ⟨xs, h1, h2, h3⟩ := paired_choose h t
    exact ⟨x :: xs, .cons hx h1, by simp [h2], fun z hz => (List.mem_cons.mp hz).elim (fun e => e ▸ hq) (h3 z)⟩
section
variable {K : Frag} {p : Program} {loose : List Str} {mean : ExcName → Option Value} {mg mb : Str → Option Value} {s₀ : Shared} {led₀ : Led} {env : Env} {oc : List (Str × Addr)} {cl : List (Str × Value)} {m : Str → Option Value} {led mu : Led} {s : Shared}
/-- names and ledger behind a word -/
theorem St.abs (S : St K p loose mean mg mb s₀ led₀ env oc cl m led mu s) (P : (Str → Option Value) → Led → Led → Prop) (h : P m led mu) : ∃ m led mu, St K p loose mean mg mb s₀ led₀ env oc cl m led mu s ∧ P m led mu := ⟨m, led, mu, S, h⟩
end
section
variable {w : World} {mean : ExcName → Option Value} {mg mb : Str → Option Value}
theorem whole_con2 {r : List Rat} {ns : List Int} {v : Value} {led : Led} (hv : RowIn led v r) (hr : r = cast1 ns) (hn : ns.length ≤ 100) :
    Con (Mine.hd.heap_39 w.params) Mine.view (looseW Mine.view []) mean mg mb PySem.Challenge.rw_sa0086_01.row.prog w 184 [v] 20 led (fun l v => IntsIn l v ns) := by
  have h1 : ns = r.map fun q => q.num := by
    rw [hr, List.map_map]
    exact (List.map_id ns).symm.trans (List.map_congr_left fun x _ => rfl)
  rw [h1]
  exact whole_con hv (fun q hq => by
    rw [hr] at hq
    obtain ⟨x, _, rfl⟩ := List.mem_map.mp hq
    rfl) (by rw [hr, List.length_map]; exact hn)
end
section
variable {K : Frag} {p : Program} {loose : List Str} {mean : ExcName → Option Value} {mg mb : Str → Option Value} {s₀ : Shared} {led₀ : Led} {env : Env} {oc : List (Str × Addr)} {cl : List (Str × Value)} {m : Str → Option Value} {led mu : Led} {s : Shared}
  {A : Around} {E : Value → Shared → Prop} {prog : Program} {w : World}
theorem St.head1 {q : Addr × Obj} (S : St K p loose mean mg mb s₀ led₀ env oc cl m led (q :: mu) s) : St K p loose mean mg mb s₀ led₀ env oc cl m led [q] s :=
  ⟨S.amb, S.same, S.ext, S.frm, S.clo, S.has, S.new, fun r hr => S.muh r (by rw [List.mem_singleton.mp hr]; exact .head _), fun r hr => S.muf r (by rw [List.mem_singleton.mp hr]; exact .head _), by simp⟩
theorem St.sliceStep {l : Addr} {vs : List Value} {ns : List Int} {vl vu vk : Value} {lo hi st : Option Int} {value slice : Expr} {ops : List Value} {Q : Value → Shared → Prop} (S : St K p loose mean mg mb s₀ led₀ env oc cl m led mu s) (hl : s.heap.IsList l vs.toArray) (hp : Paired (IntIn led) vs ns) (hsz : vs.length ≤ 100000)
    (pl : IsPart vl lo) (pu : IsPart vu hi) (pk : IsPart vk st) (hst : st ≠ some 0)
    (h : ∀ D ws c s', St K p loose mean mg mb s₀ led₀ env oc cl m led ((D, lstO ws c) :: mu) s' → Paired (IntIn led) ws (pickNums ns lo hi st) → Q (.ref D) s')
    (hs : subscripted slice false (.ref l) (.ref s.heap.objs.size) = operate ops (getItem (.ref l) (.ref s.heap.objs.size))) (ht : ∀ r, letTemporaryGo value (.ref l) r = pure ()) :
    wpAny (model prog w) A (subscriptTail value slice (.ref l) (.ref s.heap.objs.size)) Q E { s with heap := s.heap.push { cls := .type "slice", data := .fields #[vl, vu, vk] } } := by
  refine subscriptTail_ops (Heap.IsList.typeIs (s := { s with heap := s.heap.push { cls := .type "slice", data := .fields #[vl, vu, vk] } }) (hl.push _)) list_getitem_lookup
    (wpAny_getItem_list_slice (hl.push _) (Heap.IsSliceOf.new ..) pl pu pk hst ?_ (by rw [sizeLine_eq, List.size_toArray]; walk_at "om")) hs ht
  refine h _ (slicePick vs.toArray lo hi st).toList 0 _ (St.grow (tk := s.toks) (S.push _) (Ext.push _ _) ?_ (fresh_size _ (Nat.le_refl _))) (paired_ints (IntsAre.pick (intsAre_of hp) lo hi st))
  rw [Heap.get?_push_size _ rfl]
theorem St.repeatI {a : Addr} {v : Value} {c n : Nat} {x : Int} {u : Tok} {Q : Value → Shared → Prop} (S : St K p loose mean mg mb s₀ led₀ env oc cl m led mu s) (ha : s.heap.get? a = some (lstO [v] c)) (hx : x = (n : Int)) (hn : n ≤ 1000)
    (h : ∀ D s', St K p loose mean mg mb s₀ led₀ env oc cl m led ((D, lstO (List.replicate n v) 0) :: mu) s' → Q (.ref D) s') : wpAny (model prog w) A (binaryOp .Mult (.ref a) (.int x u)) Q E s := by
  subst hx; exact S.repeat1 ha hn h
theorem St.eqI {va vb : Value} {ns ms : List Int} {Q : Value → Shared → Prop} (S : St K p loose mean mg mb s₀ led₀ env oc cl m led mu s) (ha : IntsIn led va ns) (hb : IntsIn led vb ms) (hu : A.units + 64 < cLine) (h : Q (.bool (decide (ns = ms))) s) :
    wpAny (model prog w) A (compareOp .Eq va vb) Q E s := by
  obtain ⟨a, vs, c, rfl, hm, hp⟩ := ha
  obtain ⟨b, us, c', rfl, hm', hp'⟩ := hb
  exact S.eqInts (S.isLst hm) hp (S.isLst hm') hp' hu h
end
theorem rb_cast {A : List (List Int)} {k : Nat} (h : ∀ r ∈ A, IBr k r) : RBm k (castM A) := fun r hr x hx => by
  obtain ⟨q, hq, rfl⟩ := List.mem_map.mp hr
  obtain ⟨y, hy, rfl⟩ := List.mem_map.mp hx
  exact RB.int (h q hq y hy).le
theorem ib_cast {ns : List Int} {k : Nat} (h : RBr k (cast1 ns)) : IBr k ns := fun x hx => ⟨(h _ (List.mem_map_of_mem hx)).num⟩
theorem castM_getD {A : List (List Int)} {i : Nat} : (castM A).getD i [] = cast1 (A.getD i []) := by
  rw [List.getD_eq_getElem?_getD, List.getElem?_map, List.getD_eq_getElem?_getD]
  cases A[i]? <;> rfl
theorem cast1_getD {r : List Int} {i : Nat} : (cast1 r).getD i 0 = ((r.getD i 0 : Int) : Rat) := by
  rw [List.getD_eq_getElem?_getD, List.getElem?_map, List.getD_eq_getElem?_getD]
  cases r[i]? <;> rfl
theorem iisSub {l l' : Led} {v : Value} {A : List (List Int)} (h : SeqIn IntsIn l v A) (s : ∀ p ∈ l, p ∈ l') : SeqIn IntsIn l' v A := SeqIn.sub (R := IntsIn) (fun h s => intsSub h s) h s
theorem cvStep_length {ns : List Int} {N a b : Nat} {f : List Int} : (cvStep ns N a f b).length = f.length := by simp [cvStep]
theorem cvRow_succ {ns : List Int} {N a j : Nat} {f : List Int} : cvRow ns N a f (j + 1) = cvStep ns N a (cvRow ns N a f j) j := by
  unfold cvRow; rw [List.range_succ, List.foldl_append]; rfl
theorem cvRow_length {ns : List Int} {N a : Nat} {f : List Int} : ∀ j, (cvRow ns N a f j).length = f.length
  | 0 => rfl
  | j + 1 => by rw [cvRow_succ, cvStep_length, cvRow_length j]
theorem cvTo_succ {ns : List Int} {N i : Nat} : cvTo ns N (i + 1) = cvRow ns N i (cvTo ns N i) ns.length := by
  unfold cvTo; rw [List.range_succ, List.foldl_append]; rfl
theorem cvTo_length {ns : List Int} {N : Nat} : ∀ i, (cvTo ns N i).length = 2 * N + 1
  | 0 => by simp [cvTo]
  | i + 1 => by rw [cvTo_succ, cvRow_length, cvTo_length i]
theorem fmod2 (x : Int) : x.fmod 2 = 0 ∨ x.fmod 2 = 1 := by
  rw [Int.fmod_eq_emod_of_nonneg _ (by decide)]; walk_at "om"
/-- the box between draws: k draws at most -/
noncomputable def BoxI (B I : Addr) (n : Nat) (mu : Led) : Prop := ∃ k t c vs c', mu = boxO B I k t c vs c' ∧ BoxOk vs ∧ 0 ≤ k ∧ k ≤ (n : Int)
noncomputable def Sm (x : Int) : Prop := -3 ≤ x ∧ x ≤ 3
theorem Sm.ib {x : Int} (h : Sm x) : IB 2 x := ⟨by have := h.1; have := h.2; walk_at "om"⟩
noncomputable def RowOk (N : Nat) (r : List Int) : Prop := r.length = N ∧ ∀ x ∈ r, Sm x
end Mine
open Mine

theorem Mine.rules17 : True := by
  k_with "subscriptTail Name Slice ref ref" => (refine Hold.out ?_)
  k_with "call ref" => (((with_reducible show wpAny _ _ (call (Value.ref 179) _) _ _ _); (rename Mine.St _ _ _ _ _ _ _ _ _ _ _ _ _ _ _ => kS); k_dflt (refine' St.callBox (St.tok kS _) ?k1 ?k2 ?k3 ?k4 ?k5 ?k6 ?k7 ?_; (case k1 => assumption); (case k2 => walk_at "om"); (case k3 => walk_at "om"); (case k4 => walk_at "om"); (case k5 => walk_at "om"); (case k6 => walk_at "om"); (case k7 => walk_at "om")); clear kS; intro x' tx' s' tl' t' c' us' c2' kS hB' hx0' hx1'; (try unfold boxO at kS)))
  k_with "con" => (((with_reducible show Con _ _ _ _ _ _ _ _ 184 _ _ _ _); (refine' whole_con2 ?a1 ?a2 ?a3; (case a1 => walk_at "rel"); (case a2 => assumption); (case a3 => walk_at "om"))))
  k_with "con" => (((with_reducible show Con _ _ _ _ _ _ _ _ 189 _ _ _ _); (refine' moved_con ?a1 ?a2 ?a3 ?a4 ?a5 ?a6; (case a1 => walk_at "irel"); (case a2 => walk_at "om"); (case a3 => assumption); (case a4 => walk_at "om"); (case a5 => assumption); (case a6 => assumption))))
  k_with "con" => (((with_reducible show Con _ _ _ _ _ _ _ _ 194 _ _ _ _); (refine' turned_con ?a1 ?a2 ?a3 ?a4 ?a5 ?a6 ?a7 ?a8 ?a9 ?b1 ?b2 ?b3; (case a1 => walk_at "rel"); (case a2 => walk_at "irel"); (case a3 => assumption); (case a4 => walk_at "om"); (case a5 => walk_at "om"); (case a6 => assumption); (case a7 => walk_at "om"); (case a8 => assumption); (case a9 => assumption); (case b1 => walk_at "om"); (case b2 => assumption); (case b3 => assumption))))
  k_with "compareOp Eq" => (((rename Mine.St _ _ _ _ _ _ _ _ _ _ _ _ _ _ _ => kS); k_dflt (refine' St.eqI (St.tok kS _) ?k1 ?k2 ?k3 ?_; (case k1 => walk_at "irel"); (case k2 => walk_at "irel"); (case k3 => show _ < _; (try dsimp only); walk_at "om"))))
  k_with "binaryOp Mult ref int" => (((with_reducible show wpAny _ _ (binaryOp _ (Value.ref _) (Value.int (_ + _) _)) _ _ _); (rename Mine.St _ _ _ _ _ _ _ _ _ _ _ _ _ _ _ => kS); k_dflt (refine' St.repeatI (St.tok kS _) ?k1 ?k2 ?k3 ?_; (case k1 => walk_at "get"); (case k2 => with_reducible assumption); (case k3 => walk_at "om")); clear kS; intro D' s' kS))
  k_with "exec For Tuple Call cons nil" => (refine Hold.out ?_)
  k_with "exec For Tuple Call" => (refine Hold.out ?_)
  k_with "prel" => ((with_reducible exact paired_rep))
  trivial

-- Fin
theorem PySem.Challenge.cw_sa0086_01_holds : PySem.Challenge.rw_sa0086_01.Holds := by
  refine Mine.hd ?_
  k_fill
  intro w s₀ s₁ mg mb G Y fa o pm cd doc dV kV ho hd hcd hD hmg hg args vals as hpre hlay hrd hwl hlo
  have KX := kIn_of Y
  refine Ground.open G ?_
  intro T B D TE TW
  wrow_args hpre hlay hrd hwl hlo
  rename IntsAre _ _ => hI
  rename Heap.IsList _ _ _ => hL
  rename ¬ _ < _ => hlen
  rename List Int => ns
  rename List Value => vs
  rename Addr => l
  have hdn := Dflts.none hD rfl
  subst hdn
  have hkn := Dflts.noKw hD
  subst hkn
  clear hD
  refine wpAny_mono (Q := Mine.Made s₁ [] (fun _ v => v = .bool true)) ?walk (fun v s' m => ?fin) (fun e s' h => h)
  case fin =>
    obtain ⟨h', tk, tl, rfl, ex, _, _, rfl⟩ := m
    refine ⟨.inl ⟨_, .bool true, [], rfl, fun _ => rfl, .bool true, ?_, fun _ => ⟨.nil, fun _ ha => nomatch ha⟩⟩, .of_keep ex, rfl, .of_eq hg⟩
    with_unfolding_all rfl
  have Am : Amb (Mine.hd.heap_39 w.params) Mine.view (looseW Mine.view []) (ExcName.means s₀.heap) mg mb s₁.heap := ⟨KX, T⟩
  have hdp : 1 + claimMargin + 180 < recursionLimit := by decide
  have hun : 4 + 8 * 180 < cLine := by decide
  clear hmg hg B TE TW D G Y KX T
  dsimp only [docDef] at hd hcd
  refine' enter_fnO (led := []) Am Has.nil ho hd hcd ?h3 ?h4 ?h5 ?h6 ?h7 ?h8 ?h9 ?h10 ?h11
  case h3 => decide
  case h4 => with_unfolding_all rfl
  case h5 => rfl
  case h6 => decide
  case h7 => rfl
  case h9 => rfl
  case h10 => rfl
  case h11 => rfl
  intro L s₁ kS hO
  clear hd hcd ho
  k_steps
  rename Mine.St _ _ _ _ _ _ _ _ _ _ _ _ _ _ _ => kS
  unfold Hold
  refine comp_pure (ns.take 14).length (fun _ => true) (fun i l v => Mine.IntIn l v ((ns.take 14).getD i 0)) (fun _ _ _ _ h => h) (Mine.St.ledOf kS) (by rw [List.length_take]; walk_at "om") (by with_unfolding_all rfl) (by decide) (by walk_at "hoc") rfl (by decide) ?hit
  unfold Mine.St.ledOf
  k_steps
  unfold Hold
  rename Mine.St _ _ _ _ _ _ _ _ _ _ _ _ _ _ _ => kS
  have hvl := hI.length
  refine Mine.St.slice (St.tok kS _) (hL.at fun b e => kS.ext _ b e) (by walk_at "om") .none (.int 14 _) (fun D s' kS' => ?_) (by with_unfolding_all rfl) (by intro _; with_unfolding_all rfl)
  clear kS
  rw [show (14 : Int) = ((14 : Nat) : Int) from rfl, Mine.slicePick_all] at kS'
  replace kS := kS'.freeze
  clear kS'
  refine wpAny_mono (comp_list kS [] rfl (xs := ns.take 14) ⟨D, _, _, rfl, .head _, Mine.paired_take (Mine.paired_ints hI) 14⟩ rfl (fun C => by walk_at "tgt") (by walk_at "clo") (by intros; exact tests_nil) ?turn ?hQ) (fun _ _ h => CompGoal.led h fun _ _ _ _ h => h) fun _ _ h => h
  case turn =>
    clear kS
    intro i C m₁ y v tl s₃ E' hi _ hy hR kS
    obtain ⟨t, rfl⟩ := hR
    have e1 := getD_of (d := (0 : Int)) hy
    k_steps
    rename Mine.St _ _ _ _ _ _ _ _ _ _ _ _ _ _ _ => kS
    refine (St.tok kS _).done ?_
    rw [e1]; exact ⟨_, rfl⟩
  case hQ =>
    clear kS
    intro D2 us c s' tl kS hP
    rw [filter_true] at hP
    have hB : BoxOk us := ⟨_, intsAre_of (Mine.paired_range (G := fun (v : Value) (j : Int) => Mine.IntIn [] v j) _ (fun x y h => h) hP), by rw [List.length_map, List.length_range, List.length_take]; walk_at "om"⟩
    clear hP
    k_steps
    rename Mine.St _ _ _ _ _ _ _ _ _ _ _ _ _ _ _ => kS
    clear hB
    rename BoxOk _ => hB
    rename _ < (2 : Int) => hx1
    rename (0 : Int) ≤ _ => hx0
    rename Int => x0
    obtain ⟨N, hN, hN2⟩ : ∃ N : Nat, 3 - x0 = (N : Int) ∧ (N = 2 ∨ N = 3) := ⟨(3 - x0).toNat, by walk_at "om", by walk_at "om"⟩
    rw [hN] at kS
    have hA := kS.abs (fun m led mu => ∃ B, m "box" = some (.ref B) ∧ (∃ t, m "many" = some (.int N t)) ∧ BoxI B D2 (10 + 10 * 0) mu) ⟨_, by walk_at "km", ⟨_, by walk_at "km"⟩, _, _, _, _, _, by exact rfl, hB, by decide, by decide⟩
    clear kS
    obtain ⟨m, led, mu, kS, B, hm1, ⟨tN, hm2⟩, hBI⟩ := hA
    clear hB hx0 hx1 hN
    have hmmap : mu.map (·.1) = [B, D2] := by obtain ⟨_, _, _, _, _, rfl, _⟩ := hBI; rfl
    unfold Hold
    refine comp_asgB [B, D2] (fun i mu => BoxI B D2 (10 + 10 * i) mu) N (fun i l v => ∃ r, IntsIn l v r ∧ RowOk N r) (fun _ _ _ _ ⟨r, h, k⟩ => ⟨r, intsSub h subApp, k⟩) led (by walk_at "om") (by with_unfolding_all rfl) (by with_unfolding_all rfl) (by decide) (by walk_at "hoc") rfl (by decide) (by with_unfolding_all rfl) (by with_unfolding_all rfl) ?hit2
    k_steps
    rename Mine.St _ _ _ _ _ _ _ _ _ _ _ _ _ _ _ => kS
    rename IsRange _ _ _ _ _ _ _ _ => hRg
    unfold Hold
    rw [← hmmap]
    refine comp_rangeBA kS hO (by with_unfolding_all rfl) (fun i mu => BoxI B D2 (10 + 10 * i) mu) hBI [(Str.ofString "box", .ref B), (Str.ofString "many", .int N tN)] rfl hRg (by walk_at "om") (by walk_at "om") (by walk_at "om") (fun C => by walk_at "tgt") (by walk_at "clo") ?turn2 ?hQ2
    case turn2 =>
      clear kS hRg hBI
      rintro i C m₁ t₁ tl₁ mu₁ s₃ E₁ hi ⟨k, t, c, vs, c', rfl, hB, hk0, hk1⟩ _ kS
      unfold boxO at kS
      k_steps
      rename Mine.St _ _ _ _ _ _ _ _ _ _ _ _ _ _ _ => kS
      unfold Hold
      refine comp_pureB [B, D2] (fun j mu => BoxI B D2 (10 + 10 * i + j) mu) N (fun j l v => ∃ x, Mine.IntIn l v x ∧ Sm x) (fun _ _ _ _ h => h) (Mine.St.ledOf kS) (by walk_at "om") (by with_unfolding_all rfl) (by decide) (by walk_at "hoc") rfl (by decide) ?hit3
      unfold Mine.St.ledOf
      k_steps
      rename Mine.St _ _ _ _ _ _ _ _ _ _ _ _ _ _ _ => kS
      rename IsRange _ _ _ _ _ _ _ _ => hRg
      unfold Hold
      refine comp_rangeB (iter := .Name (Str.ofString "x") ⟨0, 0, 0, 0⟩) (led' := []) (pos := ⟨0, 0, 0, 0⟩) kS (fun j mu => BoxI B D2 (10 + 10 * i + j) mu) ⟨k, _, _, _, _, rfl, hB, hk0, by walk_at "om"⟩ [(Str.ofString "box", .ref B)] rfl hRg (by walk_at "om") (by walk_at "om") (by walk_at "om") (fun C => by walk_at "tgt") (by walk_at "clo") ?turn3 ?hQ3
      case turn3 =>
        clear kS hRg hB hk0 hk1
        rintro j C m₁ t₁ tl₁ mu₁ s₃ E₁ hj ⟨k, t, c, vs, c', rfl, hB, hk0, hk1⟩ _ kS
        unfold boxO at kS
        k_steps
        rename Mine.St _ _ _ _ _ _ _ _ _ _ _ _ _ _ _ => kS
        refine (St.tok kS _).doneT rfl ⟨⟨_, _, _, _, _, rfl, by assumption, by walk_at "om", by walk_at "om"⟩, _, ⟨_, rfl⟩, by walk_at "om", by walk_at "om"⟩
      case hQ3 =>
        clear kS hRg hB hk0 hk1
        rintro D3 vs3 c3 s3 tl3 mu3 kS hmm ⟨k, t, c, vs, c', rfl, hB, hk0, hk1⟩ hP
        obtain ⟨r, hr1, hr2, hr3⟩ := paired_choose (G := Mine.IntIn []) (Q := Sm) (fun i y ⟨x, h, k⟩ => ⟨x, h, k⟩) hP
        refine kS.freeze.doneT rfl ⟨⟨_, _, _, _, _, rfl, hB, hk0, by walk_at "om"⟩, r, ⟨_, _, _, rfl, .head _, pintAny hr1⟩, by rw [hr2, List.length_range], hr3⟩
    case hQ2 =>
      clear kS hRg hBI
      rintro D3 vs3 c3 s3 tl3 mu3 kS _ hBI hP
      obtain ⟨A, hA1, hA2, hA3⟩ := paired_choose (G := IntsIn (tl3 ++ led)) (Q := RowOk N) (fun i y ⟨x, h, k⟩ => ⟨x, h, k⟩) hP
      rw [List.length_range] at hA2
      clear hP
      replace kS := Mine.St.freeze kS
      have hAD : Mine.SeqIn IntsIn (Mine.St.ledOf kS) (.ref D3) A := ⟨_, _, _, rfl, .head _, Paired.imp (fun _ _ h => intsSub h subCons) hA1⟩
      unfold Mine.St.ledOf at hAD
      have hA4 : ∀ r ∈ A, r.length = N := fun r hr => (hA3 r hr).1
      clear hA1
      k_steps
      rename Mine.St _ _ _ _ _ _ _ _ _ _ _ _ _ _ _ => kS
      unfold Hold
      refine comp_asg N (fun _ => true) (fun i l v => Mine.RowIn l v (cast1 (A.getD i []))) (fun _ _ _ _ h => rowSub h subApp) (Mine.St.ledOf kS) (by walk_at "om") (by with_unfolding_all rfl) (by with_unfolding_all rfl) (by decide) (by walk_at "hoc") rfl (by decide) (by with_unfolding_all rfl) (by with_unfolding_all rfl) ?hit4
      unfold Mine.St.ledOf
      k_steps
      rename Mine.St _ _ _ _ _ _ _ _ _ _ _ _ _ _ _ => kS
      unfold Hold
      refine comp_listA0 kS hO (by with_unfolding_all rfl) [] rfl hAD hA2 (fun C => by walk_at "tgt") (by walk_at "clo") (by intros; exact tests_nil) ?turn4 ?hQ4
      case turn4 =>
        clear kS hBI
        intro i C m₁ y v tl s₃ E' hi _ hy hR kS
        have e1 := getD_of (d := ([] : List Int)) hy
        have hyl := hA4 y (List.mem_of_getElem? hy)
        k_steps
        rename Mine.St _ _ _ _ _ _ _ _ _ _ _ _ _ _ _ => kS
        refine comp_pure N (fun _ => true) (fun j l v => Mine.RatIn l v ((y.getD j 0 : Int) : Rat)) (fun _ _ _ _ h => h.sub subApp) (Mine.St.ledOf kS) (by walk_at "om") (by with_unfolding_all rfl) (by decide) (by walk_at "hoc") rfl (by decide) ?hit5
        unfold Mine.St.ledOf
        k_steps
        rename Mine.St _ _ _ _ _ _ _ _ _ _ _ _ _ _ _ => kS
        unfold Hold
        refine comp_list kS [] rfl (intsSub hR subApp) hyl (fun C => by walk_at "tgt") (by walk_at "clo") (by intros; exact tests_nil) ?turn5 ?hQ5
        case hQ5 =>
          exact fun _ _ _ _ _ kS' hP => kS'.doneRow hP (by
            rw [e1, ← hyl]
            exact map_range_getD (fun x : Int => (x : Rat)) 0 y)
        case turn5 =>
          clear kS
          intro j C m₁ x v tl s₃ E' hj _ hx hR kS
          obtain ⟨tx, rfl⟩ := hR
          have e2 := getD_of (d := (0 : Int)) hx
          k_steps
          rename Mine.St _ _ _ _ _ _ _ _ _ _ _ _ _ _ _ => kS
          refine (St.tok kS _).done ?_
          rw [e2]
          exact RatIn.step (.head _)
      case hQ4 =>
        clear kS
        intro D4 vs4 c4 s4 tl4 kS hP
        replace kS := Mine.St.freeze kS
        have hPM : MatIn (Mine.St.ledOf kS) (.ref D4) (castM A) := ⟨_, _, _, rfl, .head _, by
          rw [filter_true] at hP
          have := paired_range (G := fun v r => Mine.RowIn (Mine.St.ledOf kS) v r) (fun i => cast1 (A.getD i [])) (fun i y h => rowSub h subCons) hP
          have h9 := map_range_getD cast1 [] A
          rw [hA2] at h9
          rw [h9] at this
          exact this⟩
        unfold Mine.St.ledOf at hPM
        clear hP
        have hA := kS.abs (fun m led mu => m "box" = some (.ref B) ∧ (∃ t, m "many" = some (.int N t)) ∧ m "a" = some (.ref D3) ∧ m "plain" = some (.ref D4) ∧ Mine.SeqIn IntsIn led (.ref D3) A ∧ MatIn led (.ref D4) (castM A) ∧ BoxI B D2 (10 + 10 * N) mu)
          ⟨by walk_at "km", ⟨_, by walk_at "km"⟩, by walk_at "km", by walk_at "km", iisSub hAD (fun q hq => List.mem_cons_of_mem _ (List.mem_append_right _ hq)), hPM, hBI⟩
        clear kS hBI hAD hPM
        obtain ⟨m, led, mu, kS, hm1, ⟨tN, hm2⟩, hm3, hm4, hAD, hPM, hBI⟩ := hA
        obtain ⟨k, t, c, vs, c', rfl, hB, hk0, hk1⟩ := hBI
        unfold boxO at kS
        obtain ⟨hC1, hC2, hC3⟩ := char_cast hN2 hA2 hA4
        obtain ⟨NS, hNS⟩ : ∃ NS, NS = charI A := ⟨_, rfl⟩
        rw [← hNS] at hC1 hC2 hC3
        have hPr : (castM A).length = N := by rw [List.length_map]; exact hA2
        have hPD : Dim (castM A) (castM A).length (castM A).length := by rw [hPr]; exact dim_cast hA2 hA4
        have hPB : RBm 2 (castM A) := rb_cast fun r hr x hx => ((hA3 r hr).2 x hx).ib
        have hC4 : charR (castM A) (castM A).length = cast1 NS := by rw [hPr]; exact hC1
        have hC5 : NS[(N : Int).toNat]? = some 1 := by rw [Int.toNat_natCast]; exact hC3
        have hPDN : Dim (castM A) N N := dim_cast hA2 hA4
        have hC6 : IBr 14000 NS := ib_cast (by rw [← hC1]; exact rb_char hPDN (by walk_at "om") hPB (by walk_at "om"))
        obtain ⟨hV1, hV2⟩ := inv_facts hN2 hA2 hA4 hPB
        rw [← hNS] at hV1 hV2
        have hRp : 2 * (N : Int) + 1 = ((2 * N + 1 : Nat) : Int) := by push_cast; rfl
        k_steps
        · rename Mine.St _ _ _ _ _ _ _ _ _ _ _ _ _ _ _ => kS
          have hA := kS.abs (fun m led mu => ∃ t u tt tu nv, m "times" = some (.int t tt) ∧ m "more" = some (.int u tu) ∧ m "numbers" = some nv ∧ IntsIn led nv NS ∧ m "a" = some (.ref D3) ∧ Mine.SeqIn IntsIn led (.ref D3) A ∧ -2 ≤ t ∧ t ≤ 2 ∧ -3 ≤ u ∧ u ≤ 3)
            ⟨_, _, _, _, _, by walk_at "km", by walk_at "km", by walk_at "km", by walk_at "irel", by walk_at "km", iisSub hAD (fun q hq => by walk_at "mem"), by walk_at "om", by walk_at "om", by walk_at "om", by walk_at "om"⟩
          clear kS hAD hPM hB hm1 hm2 hm3 hm4
          obtain ⟨m, led, mu, kS, t, u, tt, tu, nv, hm1, hm2, hm3, hNV, hm4, hAD, ht0, ht1, hu0, hu1⟩ := hA
          have htb : IB 2 t := ⟨by walk_at "om"⟩
          have hub : IB 2 u := ⟨by walk_at "om"⟩
          obtain ⟨hO1, hO2⟩ := other_ok (A := A) (N := N) (t := t) (u := u)
          obtain ⟨hK1, hK2, hK3⟩ := char_cast hN2 hO1 hO2
          have hML := moved_law (t := t) (u := u) hN2 hA2 hA4
          rw [← hNS] at hML
          unfold Hold
          refine comp_asg N (fun _ => true) (fun i l v => Mine.RowIn l v (cast1 ((otherI A N t u).getD i []))) (fun _ _ _ _ h => rowSub h subApp) led (by walk_at "om") (by with_unfolding_all rfl) (by with_unfolding_all rfl) (by decide) (by walk_at "hoc") rfl (by decide) (by with_unfolding_all rfl) (by with_unfolding_all rfl) ?hit6
          k_steps
          rename Mine.St _ _ _ _ _ _ _ _ _ _ _ _ _ _ _ => kS
          unfold Hold
          refine comp_enumA0 kS hO (by with_unfolding_all rfl) [(Str.ofString "more", .int u tu), (Str.ofString "times", .int t tt)] rfl hAD hA2 (fun C => ⟨by walk_at "tgt", by walk_at "tgt"⟩) (by walk_at "clo") (by intros; exact tests_nil) ?turn6 ?hQ6
          case turn6 =>
            clear kS
            intro i C m₁ y v t₁ tl s₃ E' hi _ hy hR kS
            have e1 := getD_of (d := ([] : List Int)) hy
            have hym := List.mem_of_getElem? hy
            have hyl := hA4 y hym
            k_steps
            rename Mine.St _ _ _ _ _ _ _ _ _ _ _ _ _ _ _ => kS
            unfold Hold
            refine comp_pure N (fun _ => true) (fun j l v => Mine.RatIn l v ((t * y.getD j 0 + (if (j : Int) = (i : Int) then u else 0) : Int) : Rat)) (fun _ _ _ _ h => h.sub subApp) (Mine.St.ledOf kS) (by walk_at "om") (by with_unfolding_all rfl) (by decide) (by walk_at "hoc") rfl (by decide) ?hit7
            unfold Mine.St.ledOf
            k_steps
            rename Mine.St _ _ _ _ _ _ _ _ _ _ _ _ _ _ _ => kS
            unfold Hold
            refine comp_enum kS [(Str.ofString "more", .int u tu), (Str.ofString "spot", .int i t₁), (Str.ofString "times", .int t tt)] rfl (intsSub hR subApp) hyl (fun C => ⟨by walk_at "tgt", by walk_at "tgt"⟩) (by walk_at "clo") (by intros; exact tests_nil) ?turn7 ?hQ7
            case hQ7 =>
              exact fun _ _ _ _ _ kS' hP => kS'.doneRow hP (by
                unfold otherI
                rw [getD_map_range _ _ hi, e1, cast1, List.map_map]
                rfl)
            case turn7 =>
              clear kS
              intro j C m₁ x v t₂ tl s₃ E' hj _ hx hR kS
              obtain ⟨tx, rfl⟩ := hR
              have e2 := getD_of (d := (0 : Int)) hx
              have hxb := ((hA3 y hym).2 x (List.mem_of_getElem? hx)).ib
              have hok := htb.ok hxb (by decide) (by decide)
              k_steps
              · rename Mine.St _ _ _ _ _ _ _ _ _ _ _ _ _ _ _ => kS
                refine (St.tok kS _).done ?_
                rw [e2, if_pos (by assumption)]
                exact RatIn.step (.head _)
              · rename Mine.St _ _ _ _ _ _ _ _ _ _ _ _ _ _ _ => kS
                refine (St.tok kS _).done ?_
                rw [e2, if_neg (by assumption)]
                exact RatIn.step (.head _)
          case hQ6 =>
            clear kS
            intro D5 vs5 c5 s5 tl5 kS hP
            replace kS := Mine.St.freeze kS
            have hOM : MatIn (Mine.St.ledOf kS) (.ref D5) (castM (otherI A N t u)) := ⟨_, _, _, rfl, .head _, by
              rw [filter_true] at hP
              have := paired_range (G := fun v r => Mine.RowIn (Mine.St.ledOf kS) v r) (fun i => cast1 ((otherI A N t u).getD i [])) (fun i y h => rowSub h subCons) hP
              have h9 := map_range_getD cast1 [] (otherI A N t u)
              rw [hO1] at h9
              rw [h9] at this
              exact this⟩
            unfold Mine.St.ledOf at hOM
            clear hP
            have hP2 : (castM (otherI A N t u)).length = N := by rw [List.length_map]; exact hO1
            have hPD2 : Dim (castM (otherI A N t u)) (castM (otherI A N t u)).length (castM (otherI A N t u)).length := by rw [hP2]; exact dim_cast hO1 hO2
            have hPB2 : RBm 6 (castM (otherI A N t u)) := rb_cast fun r hr x hx => by
              unfold otherI at hr
              obtain ⟨i, _, rfl⟩ := List.mem_map.mp hr
              obtain ⟨j, _, rfl⟩ := List.mem_map.mp hx
              have h1 : IB 2 ((A.getD i []).getD j 0) := by
                rw [List.getD_eq_getElem?_getD, List.getD_eq_getElem?_getD]
                cases hq : A[i]? with
                | none => exact IB.zero
                | some r =>
                  show IB 2 (r[j]?.getD 0)
                  cases hz : r[j]? with
                  | none => exact IB.zero
                  | some z => exact ((hA3 r (List.mem_of_getElem? hq)).2 z (List.mem_of_getElem? hz)).ib
              refine (IB.add (k := 4) ((htb.mul h1).mono (by decide)) ?_).mono (by decide)
              split
              · exact hub.mono (by decide)
              · exact IB.zero
            have hC7 : charR (castM (otherI A N t u)) (castM (otherI A N t u)).length = cast1 (charI (otherI A N t u)) := by rw [hP2]; exact hK1
            generalize otherI A N t u = O at *
            k_steps
            rename Mine.St _ _ _ _ _ _ _ _ _ _ _ _ _ _ _ => kS
            exact (St.tok kS _).done (by rw [hML, decide_eq_true rfl])
        · rename Mine.St _ _ _ _ _ _ _ _ _ _ _ _ _ _ _ => kS
          exact (St.tok kS _).done rfl
        · rename Mine.St _ _ _ _ _ _ _ _ _ _ _ _ _ _ _ => kS
          replace kS := St.head1 kS
          have hA := kS.abs (fun m led mu => ∃ nv F t c, m "numbers" = some nv ∧ IntsIn led nv NS ∧ (∃ t, m "many" = some (.int N t)) ∧ m "plain" = some (.ref D4) ∧ MatIn led (.ref D4) (castM A) ∧ m "found" = some (.ref F) ∧ mu = [(F, lstO (List.replicate (2 * N + 1) (.int 0 t)) c)])
            ⟨_, _, _, _, by walk_at "km", by walk_at "irel", ⟨_, by walk_at "km"⟩, by walk_at "km", by walk_at "rel", by walk_at "km", rfl⟩
          clear kS hAD hPM hB hm1 hm2 hm3 hm4
          obtain ⟨m, led, mu, kS, nv, F, t0, c0, hm1, hNV, ⟨tN, hm2⟩, hm3, hPM, hm4, rfl⟩ := hA
          unfold Hold
          refine wpAny_For ?_
          k_steps
          unfold Hold
          rename Mine.St _ _ _ _ _ _ _ _ _ _ _ _ _ _ _ => kS
          refine for_enum kS hO rfl hNV hC2 ⟨by walk_at "tgt", by walk_at "tgt"⟩
            (fun i m l mu => m "numbers" = some nv ∧ m "many" = some (.int N tN) ∧ m "plain" = some (.ref D4) ∧ m "found" = some (.ref F) ∧ ∃ ws d, mu = [(F, lstO ws d)] ∧ Paired (Mine.IntIn l) ws (cvTo NS N i))
            ⟨by walk_at "km", by walk_at "km", by walk_at "km", by walk_at "km", _, _, rfl, paired_rep⟩ ?turn8 ?hR8
          case turn8 =>
            clear kS hO
            rintro i s6 m6 y v6 t6 tl6 mu6 s7 E6 hi hy hR ⟨hm1, hm2, hm3, hm4, ws, d, rfl, hP⟩ kS hO
            obtain ⟨ty, rfl⟩ := hR
            have e1 := getD_of (d := (0 : Int)) hy
            have hyb := hC6 y (List.mem_of_getElem? hy)
            refine stop_wp ?_
            k_steps
            unfold Hold
            refine wpAny_For ?_
            k_steps
            unfold Hold
            rename Mine.St _ _ _ _ _ _ _ _ _ _ _ _ _ _ _ => kS
            refine for_enum kS hO rfl (intsSub hNV subApp) hC2 ⟨by walk_at "tgt", by walk_at "tgt"⟩
              (fun j m l mu => m "numbers" = some nv ∧ m "many" = some (.int N tN) ∧ m "plain" = some (.ref D4) ∧ m "found" = some (.ref F) ∧ m "at" = some (.int i t6) ∧ m "one" = some (.int y ty) ∧ ∃ ws d, mu = [(F, lstO ws d)] ∧ Paired (Mine.IntIn l) ws (cvRow NS N i (cvTo NS N i) j))
              ⟨by walk_at "km", by walk_at "km", by walk_at "km", by walk_at "km", by walk_at "km", by walk_at "km", _, _, rfl, pintAny hP⟩ ?turn9 ?hR9
            case turn9 =>
              clear kS hO
              rintro j s8 m8 z v8 t8 tl8 mu8 s9 E8 hj hz hR ⟨hm1, hm2, hm3, hm4, hm5, hm6, ws, d, rfl, hP⟩ kS hO
              obtain ⟨tz, rfl⟩ := hR
              have e2 := getD_of (d := (0 : Int)) hz
              have hzb := hC6 z (List.mem_of_getElem? hz)
              have hl1 : (cvRow NS N i (cvTo NS N i) j).length = 2 * N + 1 := by rw [cvRow_length, cvTo_length]
              have hwl := hP.length
              have hex : ((i : Int) + (j : Int)).toNat = i + j := by walk_at "om"
              have hit := some_getD (xs := cvRow NS N i (cvTo NS N i) j) (d := (0 : Int)) (i := ((i : Int) + (j : Int)).toNat) (by walk_at "om")
              have hfm := fmod2 ((N : Int) - (j : Int))
              have hk1 : IntMulOk y z := hyb.ok hzb (by decide) (by decide)
              have hk2 : IntMulOk 2 (((N : Int) - (j : Int)).fmod 2) := IB.ok (k := 2) (j := 2) ⟨by decide⟩ ⟨by rcases hfm with h | h <;> rw [h] <;> decide⟩ (by decide) (by decide)
              have hk3 : IntMulOk (y * z) (1 - 2 * (((N : Int) - (j : Int)).fmod 2)) := IB.ok (hyb.mul hzb) (j := 2) ⟨by rcases hfm with h | h <;> rw [h] <;> decide⟩ (by decide) (by decide)
              refine stop_wp ?_
              k_steps
              rename Mine.St _ _ _ _ _ _ _ _ _ _ _ _ _ _ _ => kS
              refine Stop.mk ?_
              refine ⟨.inl rfl, ?_⟩
              refine ⟨_, _, _, kS, ?_⟩
              refine ⟨by walk_at "km", by walk_at "km", by walk_at "km", by walk_at "km", by walk_at "km", by walk_at "km", _, _, rfl, ?_⟩
              rw [cvRow_succ]
              unfold cvStep
              rw [e1, e2, hex]
              exact paired_set ⟨_, rfl⟩ (pintAny hP) _
            case hR9 =>
              clear kS hO
              rintro m8 tl8 mu8 s8 kS ⟨hm1, hm2, hm3, hm4, hm5, hm6, ws, d, rfl, hP⟩
              dsimp only
              k_steps
              rename Mine.St _ _ _ _ _ _ _ _ _ _ _ _ _ _ _ => kS
              refine Stop.mk ?_
              refine ⟨.inl rfl, ?_⟩
              refine ⟨_, _, _, kS, ?_⟩
              refine ⟨by walk_at "km", by walk_at "km", by walk_at "km", by walk_at "km", _, _, rfl, ?_⟩
              rw [cvTo_succ, hC2]
              exact pintAny hP
          case hR8 =>
            clear kS hO
            rintro m8 tl8 mu8 s8 kS ⟨hm1, hm2, hm3, hm4, ws, d, rfl, hP⟩
            dsimp only
            obtain ⟨hG1, hG2⟩ := graeffe hN2 hA2 hA4
            rw [← hNS, hC2] at hG1 hG2
            obtain ⟨hS1, hS2, hS3⟩ := sq_cast hN2 hA2 hA4
            obtain ⟨hK1, hK2, hK3⟩ := char_cast hN2 hS2 hS3
            have hQl : (mulR (castM A) (castM A) N).length = N := by rw [hS1, List.length_map]; exact hS2
            have hQD : Dim (mulR (castM A) (castM A) N) (mulR (castM A) (castM A) N).length (mulR (castM A) (castM A) N).length := by rw [hQl, hS1]; exact dim_cast hS2 hS3
            have hQB := rb_mul (k := N) hPDN (by walk_at "om") hPB hPB
            have hC7 : charR (mulR (castM A) (castM A) N) (mulR (castM A) (castM A) N).length = cast1 (charI (sqI A)) := by rw [hQl, hS1]; exact hK1
            have hcl := cvTo_length (ns := NS) (N := N) (N + 1)
            have hwl := hP.length
            clear hPD
            have hbig : big = 1000000 := rfl
            k_steps
            unfold Hold
            rename Mine.St _ _ _ _ _ _ _ _ _ _ _ _ _ _ _ => kS
            refine Mine.St.sliceStep (St.tok kS _) (kS.isLstM (.head _)) (pintAny hP) (by walk_at "om") .none .none (.int 2 _) (by decide) (fun D6 ws6 c6 s6 kS6 hP6 => ?_) (by with_unfolding_all rfl) (by intro _; with_unfolding_all rfl)
            clear kS
            replace kS := Mine.St.freeze kS6
            clear kS6
            rw [hG1] at hP6
            have hE6 : IntsIn (Mine.St.ledOf kS) (.ref D6) (charI (sqI A)) := ⟨_, _, _, rfl, .head _, pintAny hP6⟩
            unfold Mine.St.ledOf at hE6
            clear hP6
            k_steps
            · unfold Hold
              rename Mine.St _ _ _ _ _ _ _ _ _ _ _ _ _ _ _ => kS
              refine Mine.St.sliceStep (St.tok kS _) (kS.isLstM (.head _)) (pintAny hP) (by walk_at "om") (.int 1 _) .none (.int 2 _) (by decide) (fun D7 ws7 c7 s7 kS7 hP7 => ?_) (by with_unfolding_all rfl) (by intro _; with_unfolding_all rfl)
              clear kS
              replace kS := Mine.St.freeze kS7
              clear kS7
              rw [hG2] at hP7
              replace hP7 := pintAny (l' := []) hP7
              k_steps
              rename Mine.St _ _ _ _ _ _ _ _ _ _ _ _ _ _ _ => kS
              refine Mine.St.eqInts kS (kS.isLst (by walk_at "mem")) (pintAny hP7) (kS.isLstM (by walk_at "mem")) (paired_rep (x := 0)) (by show _ < _; dsimp only; walk_at "om") ?_
              exact (St.tok kS _).done (by rw [decide_eq_true rfl])
            · rename ¬ _ = _ => hne
              exact absurd rfl hne
