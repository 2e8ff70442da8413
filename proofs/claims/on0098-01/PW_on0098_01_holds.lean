import PyProof.Rows.All
import Wide.All
import OpenK.AllK
import Wide.FinOn
import PySem.Challenge.RW_on0098_01
open PySem PySem.W PySem.Calls PySem.Spec PyProof.Rows
set_option Elab.async false
set_option maxRecDepth 100000
set_option linter.unusedVariables false
set_option maxHeartbeats 8000000
set_option compiler.extract_closed false
namespace Mine
section
/-- the text without its four names of files -/
def vw : Program := view PySem.Challenge.pw_on0098_01 [1, 2, 4, 5, 6, 7, 8, 9, 10, 11, 12, 13, 14, 16, 18, 19, 20, 21, 22, 23, 24]
abbrev gE : List Str := [Str.ofString "GateloomError"]
abbrev rowW : RowW := PySem.Challenge.rw_on0098_01.row.toRowW
theorem said_all : PySem.Challenge.rw_on0098_01.wellSaid = true := (congrFun Fast.te9446332074065402090 PySem.Challenge.rw_on0098_01).trans (by kernel_rfl)
theorem head_ok : (chainsOk vw && opensWell rowW.prog && (frees rowW && PySem.Challenge.rw_on0098_01.row.within.isEmpty)) = true := by kernel_rfl
theorem head_of {H : Hook} {d : DefRec} {kwd : List (Str × Expr)}
    (hl : LeftO rowW.prog vw gE (fun s => xlAt vw [] s && recOk (RowW.records rowW) s) H.obs H.val 2284)
    (hdef : defOf vw PySem.Challenge.rw_on0098_01.row.name = some (d, kwd)) (hp : PySem.Challenge.rw_on0098_01.row.prog.theDef PySem.Challenge.rw_on0098_01.row.name = some (d.params, d.body, d.scope)) (hk : kwWritten? d.params.kwonlyargs d.params.kw_defaults = some kwd)
    (k1 : PySem.Challenge.rw_on0098_01.row.wellSaid = true) (hw : rowW.promised) (call : WalkO vw gE (XL vw []) H.says rowW d kwd fun f vs => PySem.call f vs) : PySem.Challenge.rw_on0098_01.row.Holds :=
  holds_open (q := vw) (loose := gE) (Xt := fun s => xlAt vw [] s && recOk (RowW.records rowW) s) (XP := XL vw []) (Yf := H.obs) (Ya := H.val) (YP := H.says) (N := 2284) hl H.of H.keeps
    (fun s e => xl_of s (Bool.and_eq_true_iff.mp e).1) XL.keeps hdef hp hk (fun s e => recFacts_of (Bool.and_eq_true_iff.mp e).2) (by rfl) k1 head_ok ⟨rfl, rfl, rfl, rfl, rfl, by decide +kernel⟩ hw call
-- the top's run, each part of the machine turned to the library's quick form of it
local macro_rules | `(tactic| walk_at "top") => `(tactic| (delta openEnds fencedOpening topFrom; rw [Fast.te10274390034422433532, Fast.te14082659384304107361, Fast.te4187177175401517315, Fast.te14364793385576792824, Fast.te5923862056798008813, Fast.te14289696077712309145, Fast.te1435165496053646825, Fast.te8920871248978507458]; kernel_rfl))
local macro_rules | `(tactic| o_law) => `(tactic| (refine holds_law said_all fun said => ?_))
local macro_rules | `(tactic| o_head $H) => `(tactic| (refine head_of (H := $H) (fun w => by walk_at "top") (by rfl) (by rfl) (by rfl) (by assumption) ?hw ?hc))
open_top hd for PySem.Challenge.rw_on0098_01

end
section

abbrev Base := Addr → Option Obj

/-- what a frame's walk holds fast: the world's heap, the heap at the entry, what the caller knew, what may change -/
structure Cx where
  G : Heap
  s0 : Shared
  B0 : Base
  M : List Addr

def Like (s s' : Shared) : Prop := s' = { s with heap := s'.heap, toks := s'.toks }
theorem Like.refl (s : Shared) : Like s s := rfl
theorem Like.mk (s : Shared) (h : Heap) (t : Nat) : Like s { s with heap := h, toks := t } := rfl
theorem Like.trans {s s' s'' : Shared} (x : Like s s') (y : Like s' s'') : Like s s'' := by
  unfold Like at *
  rw [x] at y
  exact y

structure Post (c : Cx) (B : Base) (s : Shared) : Prop where
  sub : ∀ b o, c.B0 b = some o → B b = some o
  new : ∀ b o, B b = some o → c.B0 b = some o ∨ c.s0.heap.objs.size ≤ b
  keep : ∀ b o, B b = some o → s.heap.get? b = some o
  ext : ∀ b o, b ∉ c.M → c.s0.heap.get? b = some o → s.heap.get? b = some o
  lk : Like c.s0 s

structure St (c : Cx) (B : Base) (L : Addr) (m : Str → Option Value) (σ : List (Addr × Obj)) (s : Shared) : Prop where
  ns : s.heap.Ns L m
  g : ∀ b o, c.G.get? b = some o → B b = some o
  above : c.s0.heap.objs.size ≤ L
  po : Post c B s
  fr : B L = none
  own : ∀ p ∈ σ, s.heap.get? p.1 = some p.2 ∧ p.1 ≠ L ∧ B p.1 = none ∧ (p.1 ∈ c.M ∨ c.s0.heap.objs.size ≤ p.1)
  nd : (σ.map (·.1)).Nodup

theorem Ns.lt {h : Heap} {L : Addr} {m : Str → Option Value} (n : h.Ns L m) : L < h.objs.size := by
  obtain ⟨o, _, _, ho, _⟩ := n; exact Heap.lt_size ho

namespace St
variable {c : Cx} {B : Base} {L : Addr} {m : Str → Option Value} {σ : List (Addr × Obj)} {s s' : Shared}

theorem grown (S : St c B L m σ s) : ∀ b o, c.G.get? b = some o → s.heap.get? b = some o := fun b o e => S.po.keep b o (S.g b o e)
theorem ltL (S : St c B L m σ s) : L < s.heap.objs.size := Ns.lt S.ns

/-- the frame's own names turn -/
theorem setL {m' : Str → Option Value} (S : St c B L m σ s) (n : s'.heap.Ns L m') (hs : Heap.SameBut L s.heap s'.heap) (hl : Like s s') : St c B L m' σ s' := by
  refine ⟨n, S.g, S.above, ⟨S.po.sub, S.po.new, fun b o e => ?_, fun b o hb e => ?_, S.po.lk.trans hl⟩, S.fr, fun p hp => ?_, S.nd⟩
  · rw [hs.2 b (fun q => by rw [q, S.fr] at e; cases e)]; exact S.po.keep b o e
  · rw [hs.2 b (Nat.ne_of_lt (Nat.lt_of_lt_of_le (Heap.lt_size e) S.above))]; exact S.po.ext b o hb e
  · obtain ⟨a, b, d, e⟩ := S.own p hp
    exact ⟨(hs.2 _ b).trans a, b, d, e⟩

/-- an object of its own turns -/
theorem setD {i : Nat} {D : Addr} {o o' : Obj} (S : St c B L m σ s) (hi : σ[i]? = some (D, o)) (hs : Heap.SameBut D s.heap s'.heap) (ho : s'.heap.get? D = some o') (hl : Like s s') :
    St c B L m (σ.set i (D, o')) s' := by
  have hmem := List.mem_of_getElem? hi
  obtain ⟨h1, h2, h3, h4⟩ := S.own _ hmem
  have hil : i < σ.length := (List.getElem?_eq_some_iff.mp hi).1
  have he : σ[i] = (D, o) := (List.getElem?_eq_some_iff.mp hi).2
  have hmap : (σ.set i (D, o')).map (·.1) = σ.map (·.1) := by
    rw [List.map_set]
    apply List.ext_getElem?
    intro j
    rw [List.getElem?_set]
    split
    · rename_i hj
      subst hj
      simp [hil, he]
    · rfl
  refine ⟨?_, S.g, S.above, ⟨S.po.sub, S.po.new, fun b o e => ?_, fun b o hb e => ?_, S.po.lk.trans hl⟩, S.fr, fun p hp => ?_, hmap ▸ S.nd⟩
  · exact S.ns.extBut hs.extBut (Ne.symm h2)
  · rw [hs.2 b (fun q => by rw [q, h3] at e; cases e)]; exact S.po.keep b o e
  · have : b ≠ D := by
      rintro rfl
      rcases h4 with h4 | h4
      · exact hb h4
      · exact absurd (Heap.lt_size e) (Nat.not_lt.mpr h4)
    rw [hs.2 b this]; exact S.po.ext b o hb e
  · obtain ⟨j, hj⟩ := List.mem_iff_getElem?.mp hp
    rw [List.getElem?_set] at hj
    split at hj
    · rename_i hij
      (try rw [if_pos hil] at hj)
      cases hj
      exact ⟨ho, h2, h3, h4⟩
    · rename_i hij
      have hpm := List.mem_of_getElem? hj
      obtain ⟨a1, a2, a3, a4⟩ := S.own p hpm
      refine ⟨(hs.2 _ (fun q => ?_)).trans a1, a2, a3, a4⟩
      have hj' : (σ.map (·.1))[j]? = some D := by rw [List.getElem?_map, hj]; simpa using q
      have hi' : (σ.map (·.1))[i]? = some D := by rw [List.getElem?_map, hi]; rfl
      exact hij ((List.getElem?_inj (by simpa using hil) S.nd).mp (hi'.trans hj'.symm))

/-- a new object, its own -/
theorem push (S : St c B L m σ s) (o : Obj) (hp : (s.heap.push o).get? s.heap.objs.size = some o) : St c B L m ((s.heap.objs.size, o) :: σ) { s with heap := s.heap.push o } := by
  have hB : B s.heap.objs.size = none := by
    cases q : B s.heap.objs.size with
    | none => rfl
    | some o' => exact absurd (Heap.lt_size (S.po.keep _ _ q)) (Nat.lt_irrefl _)
  refine ⟨S.ns.push o, S.g, S.above, ⟨S.po.sub, S.po.new, fun b o' e => Heap.get?_push_of_some _ (S.po.keep b o' e), fun b o' hb e => Heap.get?_push_of_some _ (S.po.ext b o' hb e), S.po.lk.trans (Like.mk _ _ _)⟩, S.fr, fun p hp' => ?_, ?_⟩
  · rcases List.mem_cons.mp hp' with rfl | hp'
    · exact ⟨hp, Nat.ne_of_gt S.ltL, hB, .inr (Nat.le_of_lt (Nat.lt_of_le_of_lt S.above S.ltL))⟩
    · obtain ⟨a1, a2, a3, a4⟩ := S.own p hp'
      exact ⟨Heap.get?_push_of_some _ a1, a2, a3, a4⟩
  · rw [List.map_cons, List.nodup_cons]
    refine ⟨fun q => ?_, S.nd⟩
    obtain ⟨p, hp', e⟩ := List.mem_map.mp q
    have := Heap.lt_size (S.own p hp').1
    rw [e] at this
    exact Nat.lt_irrefl _ this

/-- what is its own and new goes into the base -/
theorem freeze {a : Addr} {o : Obj} (S : St c B L m ((a, o) :: σ) s) (ha : L < a) : St c (fun b => if b = a then some o else B b) L m σ s := by
  obtain ⟨h1, h2, h3, h4⟩ := S.own _ (.head _)
  have hnd := S.nd
  rw [List.map_cons, List.nodup_cons] at hnd
  have hup : ∀ b x, B b = some x → (if b = a then some o else B b) = some x := fun b x e => by
    rw [if_neg]; · exact e
    intro q; rw [q] at e; rw [h3] at e; cases e
  refine ⟨S.ns, fun b o' e => hup _ _ (S.g b o' e), S.above, ⟨fun b x e => hup _ _ (S.po.sub b x e), fun b x e => ?_, fun b x e => ?_, S.po.ext, S.po.lk⟩, ?_, fun p hp => ?_, hnd.2⟩
  · by_cases q : b = a
    · subst q; right; exact Nat.le_of_lt (Nat.lt_of_le_of_lt S.above ha)
    · rw [if_neg q] at e; exact S.po.new b x e
  · by_cases q : b = a
    · subst q; rw [if_pos rfl] at e; cases e; exact h1
    · rw [if_neg q] at e; exact S.po.keep b x e
  · rw [if_neg (Ne.symm h2)]; exact S.fr
  · obtain ⟨a1, a2, a3, a4⟩ := S.own p (.tail _ hp)
    refine ⟨a1, a2, ?_, a4⟩
    rw [if_neg]; · exact a3
    intro q; exact hnd.1 (List.mem_map.mpr ⟨p, hp, q⟩)
theorem freeze_sub {a : Addr} {o : Obj} (S : St c B L m ((a, o) :: σ) s) : ∀ b x, B b = some x → (if b = a then some o else B b) = some x := fun b x e => by
  obtain ⟨h1, h2, h3, h4⟩ := S.own _ (.head _)
  rw [if_neg]; · exact e
  intro q; rw [q] at e; rw [h3] at e; cases e

/-- a declared mutable object of the entry is taken -/
theorem take {a : Addr} {o : Obj} (S : St c B L m σ s) (hm : a ∈ c.M) (ho : s.heap.get? a = some o) (hlt : a < c.s0.heap.objs.size) (hB : B a = none) (hn : a ∉ σ.map (·.1)) : St c B L m ((a, o) :: σ) s :=
  ⟨S.ns, S.g, S.above, S.po, S.fr, fun p hp => by
    rcases List.mem_cons.mp hp with rfl | hp
    · exact ⟨ho, Nat.ne_of_lt (Nat.lt_of_lt_of_le hlt S.above), hB, .inl hm⟩
    · exact S.own p hp, by rw [List.map_cons, List.nodup_cons]; exact ⟨hn, S.nd⟩⟩

/-- a call came back -/
theorem back {B' : Base} {M : List Addr} {σ' : List (Addr × Obj)} (S : St c B L m σ s) (P : Post ⟨c.G, s, B, M⟩ B' s') (hM : ∀ a ∈ M, a ∈ σ.map (·.1))
    (ha : σ'.map (·.1) = σ.map (·.1)) (hk : ∀ p ∈ σ', p.1 ∉ M → p ∈ σ) (hc : ∀ p ∈ σ', p.1 ∈ M → s'.heap.get? p.1 = some p.2) : St c B' L m σ' s' := by
  have hL : L ∉ M := fun q => by
    obtain ⟨p, hp, e⟩ := List.mem_map.mp (hM _ q)
    exact (S.own p hp).2.1 e
  have hBn : ∀ b, b < s.heap.objs.size → B b = none → B' b = none := fun b hb e => by
    cases q : B' b with
    | none => rfl
    | some o =>
      rcases P.new b o q with z | z
      · rw [show B b = some o from z] at e; cases e
      · exact absurd hb (Nat.not_lt.mpr z)
  refine ⟨?_, fun b o e => P.sub b o (S.g b o e), S.above, ⟨fun b o e => P.sub b o (S.po.sub b o e), fun b o e => ?_, P.keep, fun b o hb e => ?_, S.po.lk.trans P.lk⟩, hBn L S.ltL S.fr, fun p hp => ?_, ha ▸ S.nd⟩
  · obtain ⟨o, es, ep, ho, r⟩ := S.ns
    exact ⟨o, es, ep, P.ext L o hL ho, r⟩
  · rcases P.new b o e with z | z
    · exact S.po.new b o z
    · exact .inr (Nat.le_trans (Nat.le_trans S.above (Nat.le_of_lt S.ltL)) z)
  · refine P.ext b o (fun q => ?_) (S.po.ext b o hb e)
    obtain ⟨p, hp, rfl⟩ := List.mem_map.mp (hM _ q)
    rcases (S.own p hp).2.2.2 with z | z
    · exact hb z
    · exact absurd (Heap.lt_size e) (Nat.not_lt.mpr z)
  · have : p.1 ∈ σ.map (·.1) := ha ▸ List.mem_map_of_mem hp
    obtain ⟨q, hq, e⟩ := List.mem_map.mp this
    obtain ⟨a1, a2, a3, a4⟩ := S.own q hq
    rw [e] at a1 a2 a3 a4
    refine ⟨?_, a2, hBn _ (Heap.lt_size a1) a3, a4⟩
    by_cases hpM : p.1 ∈ M
    · exact hc p hp hpM
    · exact P.ext p.1 p.2 hpM (S.own p (hk p hp hpM)).1

theorem toks (S : St c B L m σ s) (t : Nat) : St c B L m σ { s with toks := t } :=
  ⟨S.ns, S.g, S.above, ⟨S.po.sub, S.po.new, S.po.keep, S.po.ext, S.po.lk.trans (Like.mk _ _ _)⟩, S.fr, S.own, S.nd⟩
end St

end
section

noncomputable abbrev KK (w : World) : Frag := hd.heap_1 w.params
structure Wd (w : World) (G : Heap) : Prop where
  k : (KK w).In G
  t : ∃ mg mb, TopRead vw (looseW vw gE) mg mb G

/-- the rest of the run, once named -/
structure Into {α : Type} (K R : α → Shared → Prop) : Prop where
  go : ∀ v s, K v s → R v s
theorem execs_consG {M : Model} {A : Around} {st : Stmt} {rest : List Stmt} {env : Env} {Q : Flow → Shared → Prop} {E : Value → Shared → Prop} {s : Shared}
    (h : ∀ R, Into (fun f s₁ => match f with | .next => wpAny M A (execs rest env) Q E s₁ | f => Q f s₁) R → wpAny M A (exec st env) R E s) : wpAny M A (execs (st :: rest) env) Q E s :=
  wpAny_execs_cons (h _ ⟨fun _ _ h => h⟩)
/-- a name is set -/
abbrev upd (m : Str → Option Value) (x : Str) (v : Value) : Str → Option Value := fun y => if y = x then some v else m y
abbrev tupO (vs : List Value) : Obj := { cls := .type "tuple", data := .seq vs.toArray }
abbrev lstO (vs : List Value) (n : Nat) : Obj := { cls := .type "list", data := .seq vs.toArray n }

theorem idx0 {α : Type} {x0 : α} {r : List α} : (x0 :: r)[0]? = some x0 := rfl
theorem idx1 {α : Type} {x0 x1 : α} {r : List α} : (x0 :: x1 :: r)[1]? = some x1 := rfl
theorem idx2 {α : Type} {x0 x1 x2 : α} {r : List α} : (x0 :: x1 :: x2 :: r)[2]? = some x2 := rfl
theorem idx3 {α : Type} {x0 x1 x2 x3 : α} {r : List α} : (x0 :: x1 :: x2 :: x3 :: r)[3]? = some x3 := rfl
theorem idx4 {α : Type} {x0 x1 x2 x3 x4 : α} {r : List α} : (x0 :: x1 :: x2 :: x3 :: x4 :: r)[4]? = some x4 := rfl
theorem idx5 {α : Type} {x0 x1 x2 x3 x4 x5 : α} {r : List α} : (x0 :: x1 :: x2 :: x3 :: x4 :: x5 :: r)[5]? = some x5 := rfl
theorem idx6 {α : Type} {x0 x1 x2 x3 x4 x5 x6 : α} {r : List α} : (x0 :: x1 :: x2 :: x3 :: x4 :: x5 :: x6 :: r)[6]? = some x6 := rfl
theorem idx7 {α : Type} {x0 x1 x2 x3 x4 x5 x6 x7 : α} {r : List α} : (x0 :: x1 :: x2 :: x3 :: x4 :: x5 :: x6 :: x7 :: r)[7]? = some x7 := rfl
theorem idx8 {α : Type} {x0 x1 x2 x3 x4 x5 x6 x7 x8 : α} {r : List α} : (x0 :: x1 :: x2 :: x3 :: x4 :: x5 :: x6 :: x7 :: x8 :: r)[8]? = some x8 := rfl
theorem idx9 {α : Type} {x0 x1 x2 x3 x4 x5 x6 x7 x8 x9 : α} {r : List α} : (x0 :: x1 :: x2 :: x3 :: x4 :: x5 :: x6 :: x7 :: x8 :: x9 :: r)[9]? = some x9 := rfl
theorem idx10 {α : Type} {x0 x1 x2 x3 x4 x5 x6 x7 x8 x9 x10 : α} {r : List α} : (x0 :: x1 :: x2 :: x3 :: x4 :: x5 :: x6 :: x7 :: x8 :: x9 :: x10 :: r)[10]? = some x10 := rfl
theorem idx11 {α : Type} {x0 x1 x2 x3 x4 x5 x6 x7 x8 x9 x10 x11 : α} {r : List α} : (x0 :: x1 :: x2 :: x3 :: x4 :: x5 :: x6 :: x7 :: x8 :: x9 :: x10 :: x11 :: r)[11]? = some x11 := rfl
theorem idx12 {α : Type} {x0 x1 x2 x3 x4 x5 x6 x7 x8 x9 x10 x11 x12 : α} {r : List α} : (x0 :: x1 :: x2 :: x3 :: x4 :: x5 :: x6 :: x7 :: x8 :: x9 :: x10 :: x11 :: x12 :: r)[12]? = some x12 := rfl
theorem idx13 {α : Type} {x0 x1 x2 x3 x4 x5 x6 x7 x8 x9 x10 x11 x12 x13 : α} {r : List α} : (x0 :: x1 :: x2 :: x3 :: x4 :: x5 :: x6 :: x7 :: x8 :: x9 :: x10 :: x11 :: x12 :: x13 :: r)[13]? = some x13 := rfl
theorem idx14 {α : Type} {x0 x1 x2 x3 x4 x5 x6 x7 x8 x9 x10 x11 x12 x13 x14 : α} {r : List α} : (x0 :: x1 :: x2 :: x3 :: x4 :: x5 :: x6 :: x7 :: x8 :: x9 :: x10 :: x11 :: x12 :: x13 :: x14 :: r)[14]? = some x14 := rfl
theorem idx15 {α : Type} {x0 x1 x2 x3 x4 x5 x6 x7 x8 x9 x10 x11 x12 x13 x14 x15 : α} {r : List α} : (x0 :: x1 :: x2 :: x3 :: x4 :: x5 :: x6 :: x7 :: x8 :: x9 :: x10 :: x11 :: x12 :: x13 :: x14 :: x15 :: r)[15]? = some x15 := rfl
theorem szle {n : Nat} (h : n ≤ 16777216) : n ≤ sizeLine := by rw [sizeLine_eq]; exact h

section
variable {prog : Program} {w : World} {A : Around} {E : Value → Shared → Prop} {s : Shared} {c : Cx} {B : Base} {L f : Addr} {m : Str → Option Value} {σ : List (Addr × Obj)}
  {cn : Str} {cs : Scope} {ccd : Value} {cl : List (Str × Addr)}

theorem S_loc {x : Str} {pos : Pos} {v : Value} {env : Env} {Q : Value → Shared → Prop} (S : St c B L m σ s) (hv : m x = some v) (h : Q v s)
    (hL : env.locals = L := by rfl) (hk : env.scope.kind = .function := by rfl) (hx : env.kindOf x = some .local := by rfl) (hd : (x == ("__debug__" : Str)) = false := by decide) :
    wpAny (model prog w) A (eval (.Name x pos) env) Q E s := wpAny_Name (wpAny_loadName_local hk hx (hL ▸ S.ns) hv h) hd

theorem S_cell {x : Str} {pos : Pos} {v : Value} {env : Env} {a : Addr} {o : Obj} {i : Nat} {Q : Value → Shared → Prop} (S : St c B L m σ s) (hc : env.cells.lookup x = some a) (hi : σ[i]? = some (a, o)) (ho : o.data = .cell (some v)) (h : Q v s)
    (hk : env.scope.kind = .function := by rfl) (hx : env.kindOf x = some .cell := by rfl) (hd : (x == ("__debug__" : Str)) = false := by decide) :
    wpAny (model prog w) A (eval (.Name x pos) env) Q E s := wpAny_Name (wpAny_loadName_cell hk hx hc ⟨o, (S.own _ (List.mem_of_getElem? hi)).1, ho⟩ h) hd

theorem S_glob {x : Str} {pos : Pos} {v : Value} {env : Env} {Q : Value → Shared → Prop} (S : St c B L m σ s) (W : Wd w c.G) (e : nsIn (KK w) mainGlobals x = some (some v)) (h : Q v s)
    (hg : env.globals = mainGlobals := by rfl) (hk : env.scope.kind = .function := by rfl) (hx : env.kindOf x = some .globalImplicit := by rfl) (hd : (x == ("__debug__" : Str)) = false := by decide) :
    wpAny (model prog w) A (eval (.Name x pos) env) Q E s := by
  obtain ⟨mg, mb, T⟩ := W.t
  exact Name_function_global hk hx (loadGlobal_global (env := env) (hg ▸ T.g.keeps S.grown) (mg_of W.k T.g e) h) hd

theorem S_blt {x : Str} {pos : Pos} {v : Value} {env : Env} {Q : Value → Shared → Prop} (S : St c B L m σ s) (W : Wd w c.G) (e : nsIn (KK w) mainGlobals x = some none) (hv : bootBuiltins x = some v) (h : Q v s)
    (hn : x ≠ "__name__" := by decide) (hg : env.globals = mainGlobals := by rfl) (hb : env.builtins = builtinsNs := by rfl) (hk : env.scope.kind = .function := by rfl) (hx : env.kindOf x = some .globalImplicit := by rfl) (hd : (x == ("__debug__" : Str)) = false := by decide) :
    wpAny (model prog w) A (eval (.Name x pos) env) Q E s := by
  obtain ⟨mg, mb, T⟩ := W.t
  exact Name_function_global hk hx (loadGlobal_builtin (env := env) (hg ▸ T.g.keeps S.grown) (mg_none_of W.k T.g e) (hb ▸ T.b.keeps S.grown) ((T.builtins x hn).trans hv) h) hd

theorem S_store {x : Str} {v : Value} {env : Env} {Q : Unit → Shared → Prop} (S : St c B L m σ s)
    (h : ∀ s', St c B L (upd m x v) σ s' → Q () s')
    (hL : env.locals = L := by rfl) (hk : env.scope.kind = .function := by rfl) (hx : env.kindOf x = some .local := by rfl) : wpAny (model prog w) A (storeName env x v) Q E s := by
  subst hL
  exact wpAny_storeName_local hx S.ns (fun h' hn hs => h _ (S.setL hn hs (Like.mk _ _ _))) (by rw [hk]; rfl)

theorem S_tuple {vs : List Value} {Q : Value → Shared → Prop} (S : St c B L m σ s)
    (h : ∀ a s', L < a → St c B L m ((a, tupO vs) :: σ) s' → Q (.ref a) s') (hsz : vs.length ≤ 16777216) : wpAny (model prog w) A (newTuple vs) Q E s :=
  wpAny_newObj_type (h _ _ S.ltL (S.push _ (Heap.get?_push_size _ rfl))) (by show vs.toArray.size ≤ sizeLine; rw [List.size_toArray]; exact szle hsz)
theorem S_list {vs : List Value} {Q : Value → Shared → Prop} (S : St c B L m σ s)
    (h : ∀ a s', L < a → St c B L m ((a, lstO vs 0) :: σ) s' → Q (.ref a) s') (hsz : vs.length ≤ 16777216) : wpAny (model prog w) A (newList vs) Q E s :=
  wpAny_newObj_type (h _ _ S.ltL (S.push _ (Heap.get?_push_size _ rfl))) (by show vs.toArray.size ≤ sizeLine; rw [List.size_toArray]; exact szle hsz)

theorem S_itemB {value slice : Expr} {a : Addr} {vs : List Value} {k : Int} {u : Tok} {j : Nat} {x : Value} {Q : Value → Shared → Prop} (S : St c B L m σ s) (hB : B a = some (tupO vs))
    (hlo : -(2 ^ 63) ≤ k) (hhi : k < 2 ^ 63) (hj : seqIndex? k vs.length = some j) (hx : vs[j]? = some x) (h : Q x s)
    (hs : subscripted slice false (.ref a) (.int k u) = operate [.ref a, .int k u] (getItem (.ref a) (.int k u)) := by with_unfolding_all rfl) :
    wpAny (model prog w) A (subscriptTail value slice (.ref a) (.int k u)) Q E s := item_tupleT ⟨_, S.po.keep _ _ hB, rfl, 0, rfl⟩ hlo hhi hj hx h hs

theorem S_itemL {value slice : Expr} {a : Addr} {vs : List Value} {n i : Nat} {k : Int} {u : Tok} {x : Value} {Q : Value → Shared → Prop} (S : St c B L m σ s) (hi : σ[i]? = some (a, lstO vs n))
    (h0 : 0 ≤ k) (hhi : k < 2 ^ 63) (hx : vs[k.toNat]? = some x) (h : Q x s)
    (hs : subscripted slice false (.ref a) (.int k u) = operate [.ref a, .int k u] (getItem (.ref a) (.int k u)) := by with_unfolding_all rfl) :
    wpAny (model prog w) A (subscriptTail value slice (.ref a) (.int k u)) Q E s :=
  item_litK ⟨_, (S.own _ (List.mem_of_getElem? hi)).1, rfl, n, rfl⟩ h0 hhi hx h hs

/-- a method of a list, of a tuple .. -/
theorem S_listMeth {a : Addr} {vs : List Value} {n i : Nat} {name : Str} {id : String} {pl : Sem Bool} {Q : Value × List Value → Shared → Prop} (S : St c B L m σ s) (hi : σ[i]? = some (a, lstO vs n))
    (slot : Slot "list" name id) (hty : typeOf (.builtin id) = pure (.type "method_descriptor")) (h : Q (.builtin id, [.ref a]) s) : wpAny (model prog w) A (getMethod (.ref a) name pl) Q E s :=
  getMethod_builtin ⟨_, (S.own _ (List.mem_of_getElem? hi)).1, rfl⟩ PySem.F.plainAttrs_list slot hty (fun b e => by cases e; exact ⟨_, (S.own _ (List.mem_of_getElem? hi)).1, rfl⟩) h

theorem S_append {D : Addr} {vs : List Value} {n i : Nat} {x : Value} {Q : Value → Shared → Prop} (S : St c B L m σ s) (hi : σ[i]? = some (D, lstO vs n))
    (h : ∀ s', St c B L m (σ.set i (D, lstO (vs ++ [x]) (n + 1))) s' → Q .none s') (hsz : vs.length ≤ 16777216) :
    wpAny (model prog w) A (call (.builtin "list.append") [.ref D, x]) Q E s :=
  append_at (S.own _ (List.mem_of_getElem? hi)).1 (fun h' hs ho => h _ (S.setD hi hs (by show h'.get? D = _; rw [ho]; simp) (Like.mk _ _ _))) (by rw [List.size_toArray]; exact szle hsz)

theorem S_pop {D : Addr} {vs : List Value} {y : Value} {n i : Nat} {Q : Value → Shared → Prop} (S : St c B L m σ s) (hi : σ[i]? = some (D, lstO (vs ++ [y]) n))
    (h : ∀ s', St c B L m (σ.set i (D, lstO vs (n + 1))) s' → Q y s') (hsz : (vs ++ [y]).length ≤ 16777216) :
    wpAny (model prog w) A (call (.builtin "list.pop") [.ref D]) Q E s := by
  have z := (S.own _ (List.mem_of_getElem? hi)).1
  have hz' : (vs ++ [y]).toArray.size ≤ sizeLine := by rw [List.size_toArray]; exact szle hsz
  have hk : (vs ++ [y]).toArray.size - 1 = vs.length := by rw [List.size_toArray, List.length_append]; rfl
  have hy : (vs ++ [y]).toArray[(vs ++ [y]).toArray.size - 1]? = some y := by rw [hk]; simp
  refine call_meets PySem.F.slot_list_pop ⟨_, z, rfl⟩ PySem.F.entry_list_pop (PySem.F.args_list_pop_1 _) (PySem.MeetsSeq.list_pop_last D _ n y hy hz') ⟨z, h _ (S.setD hi (Heap.SameBut.update ..) ?_ (Like.mk _ _ _))⟩
  have q := PySem.IsL.update z fun xs => xs.eraseIdxIfInBounds ((vs ++ [y]).toArray.size - 1)
  have e : (vs ++ [y]).toArray.eraseIdxIfInBounds ((vs ++ [y]).toArray.size - 1) = vs.toArray := by
    rw [hk, kl_erase, List.append_nil]
  rw [e, if_neg (by simp)] at q
  exact q

theorem S_int {i : Int} {k : Nat} {pos : Pos} {env : Env} {Q : Value → Shared → Prop} (S : St c B L m σ s) (h : ∀ s' t, St c B L m σ s' → Q (.int i t) s') : wpAny (model prog w) A (eval (.Constant (.int i) k pos) env) Q E s :=
  wpAny_Constant_int (h _ _ (S.toks _))
theorem S_str {x : Str} {k : Nat} {pos : Pos} {env : Env} {Q : Value → Shared → Prop} (S : St c B L m σ s) (h : ∀ s' t, St c B L m σ s' → Q (.str x t) s') : wpAny (model prog w) A (eval (.Constant (.str x) k pos) env) Q E s :=
  Calls.Constant_str (h _ _ (S.toks _))
theorem S_sub {a b : Int} {t u : Tok} {Q : Value → Shared → Prop} (S : St c B L m σ s) (h : ∀ s' t, St c B L m σ s' → Q (.int (a - b) t) s') : wpAny (model prog w) A (binaryOp .Sub (.int a t) (.int b u)) Q E s :=
  PyProof.Rows.sub_int (h _ _ (S.toks _))
theorem S_add {a b : Int} {t u : Tok} {Q : Value → Shared → Prop} (S : St c B L m σ s) (h : ∀ s' t, St c B L m σ s' → Q (.int (a + b) t) s') : wpAny (model prog w) A (binaryOp .Add (.int a t) (.int b u)) Q E s :=
  PyProof.Rows.add_int (h _ _ (S.toks _))
theorem S_neg {a : Int} {t : Tok} {Q : Value → Shared → Prop} (S : St c B L m σ s) (h : ∀ s' t, St c B L m σ s' → Q (.int (-a) t) s') : wpAny (model prog w) A (unaryOp .USub (.int a t)) Q E s :=
  PyProof.Rows.neg_int (h _ _ (S.toks _))
theorem S_mod {a b : Int} {t u : Tok} {Q : Value → Shared → Prop} (S : St c B L m σ s) (hb : b ≠ 0) (h : ∀ s' t, St c B L m σ s' → Q (.int (a.fmod b) t) s') : wpAny (model prog w) A (binaryOp .Mod (.int a t) (.int b u)) Q E s :=
  PyProof.Rows.mod_int hb (h _ _ (S.toks _))

theorem St.inK {w : World} {c : Cx} {B : Base} {L : Addr} {m : Str → Option Value} {σ : List (Addr × Obj)} {s : Shared} (S : St c B L m σ s) (W : Wd w c.G) : (KK w).In s.heap := W.k.keeps S.grown
theorem S_callWith {G : Heap} {pos : Pos} {e : Expr} {rest : List Expr} {fv : Value} {env : Env} {Q : Value → Shared → Prop} (W : Wd w G) (hk : keepIn (KK w) fv = true)
    (h : wpAny (model prog w) A (spliced (backTo pos (starEach (e :: rest) env))) (fun vs s₁ => (KK w).In s₁.heap ∧ wpAny (model prog w) A (call fv vs) Q E s₁) E s)
    (he : starEach (e :: rest) env = (false, eval e env) :: starEach rest env := by rfl) (hplain : (backTo pos (starEach rest env)).any (·.1) = false := by rfl) :
    wpAny (model prog w) A (callWith pos fv [] (backTo pos (starEach (e :: rest) env)) []) Q E s :=
  callWith_K W.k hk h he hplain

/-- an expression that reads names or makes a number: its value, but for the number's token -/
structure At (prog : Program) (w : World) (c : Cx) (B : Base) (L : Addr) (m : Str → Option Value) (σ : List (Addr × Obj)) (env : Env) (e : Expr) (f : Tok → Value) : Prop where
  run : ∀ (A : Around) (E : Value → Shared → Prop) (s : Shared) (Q : Value → Shared → Prop), St c B L m σ s → (∀ t s', St c B L m σ s' → Q (f t) s') → wpAny (model prog w) A (eval e env) Q E s
theorem At.loc {x : Str} {pos : Pos} {v : Value} {env : Env} (hv : m x = some v)
    (hL : env.locals = L := by rfl) (hk : env.scope.kind = .function := by rfl) (hx : env.kindOf x = some .local := by rfl) (hd : (x == ("__debug__" : Str)) = false := by decide) : At prog w c B L m σ env (.Name x pos) (fun _ => v) :=
  ⟨fun _ _ _ _ S h => S_loc S hv (h default _ S) hL hk hx hd⟩
theorem At.cell {x : Str} {pos : Pos} {v : Value} {env : Env} {a : Addr} {o : Obj} {i : Nat} (hc : env.cells.lookup x = some a) (hi : σ[i]? = some (a, o)) (ho : o.data = .cell (some v))
    (hk : env.scope.kind = .function := by rfl) (hx : env.kindOf x = some .cell := by rfl) (hd : (x == ("__debug__" : Str)) = false := by decide) : At prog w c B L m σ env (.Name x pos) (fun _ => v) :=
  ⟨fun _ _ _ _ S h => S_cell S hc hi ho (h default _ S) hk hx hd⟩
theorem At.int {i : Int} {k : Nat} {pos : Pos} {env : Env} : At prog w c B L m σ env (.Constant (.int i) k pos) (fun t => .int i t) := ⟨fun _ _ _ _ S h => S_int S fun s' t S' => h t s' S'⟩
theorem At.sub {e : Expr} {i j : Int} {u : Tok} {k : Nat} {p p' : Pos} {env : Env} (h : At prog w c B L m σ env e (fun _ => .int i u)) : At prog w c B L m σ env (.BinOp e .Sub (.Constant (.int j) k p) p') (fun t => .int (i - j) t) :=
  ⟨fun _ _ _ _ S hQ => wpAny_BinOp (h.run _ _ _ _ S fun _ _ S1 => S_int S1 fun _ _ S2 => S_sub S2 fun s' t S' => hQ t s' S')⟩
theorem S_callA1 {fn x : Str} {f : Addr} {v : Value} {p p' q : Pos} {env : Env} {Q : Value → Shared → Prop} (S : St c B L m σ s) (W : Wd w c.G) (e : nsIn (KK w) mainGlobals fn = some (some (.ref f))) (hk : keepIn (KK w) (.ref f) = true)
    (hv : m x = some v) (h : wpAny (model prog w) A (call (.ref f) [v]) Q E s)
    (hg : env.globals = mainGlobals := by rfl) (hs : env.scope.kind = .function := by rfl) (hx : env.kindOf fn = some .globalImplicit := by rfl) (hd : (fn == ("__debug__" : Str)) = false := by decide)
    (hL : env.locals = L := by rfl) (hx' : env.kindOf x = some .local := by rfl) (hd' : (x == ("__debug__" : Str)) = false := by decide)
    (he : eval (.Call (.Name fn p) [.Name x q] [] p') env = (do callWith p' (← eval (.Name fn p) env) [] (backTo p' (starEach [.Name x q] env)) (backToKw p' (keywordEach [] env))) := by rfl)
    (he1 : starEach [.Name x q] env = (false, eval (.Name x q) env) :: starEach [] env := by rfl) (hp1 : (backTo p' (starEach [] env)).any (·.1) = false := by rfl) :
    wpAny (model prog w) A (eval (.Call (.Name fn p) [.Name x q] [] p') env) Q E s :=
  Call_ (S_glob S W e (S_callWith W hk (args_cons (S_loc S hv (args_nil ⟨S.inK W, h⟩) hL hs hx' hd') he1) he1 hp1) hg hs hx hd) he
theorem S_callA2 {fn : Str} {f : Addr} {e1 e2 : Expr} {g1 g2 : Tok → Value} {p p' : Pos} {env : Env} {Q : Value → Shared → Prop} (S : St c B L m σ s) (W : Wd w c.G) (e : nsIn (KK w) mainGlobals fn = some (some (.ref f))) (hk : keepIn (KK w) (.ref f) = true)
    (a1 : At prog w c B L m σ env e1 g1) (a2 : At prog w c B L m σ env e2 g2) (h : ∀ t1 t2 s', St c B L m σ s' → wpAny (model prog w) A (call (.ref f) [g1 t1, g2 t2]) Q E s')
    (hg : env.globals = mainGlobals := by rfl) (hs : env.scope.kind = .function := by rfl) (hx : env.kindOf fn = some .globalImplicit := by rfl) (hd : (fn == ("__debug__" : Str)) = false := by decide)
    (he : eval (.Call (.Name fn p) [e1, e2] [] p') env = (do callWith p' (← eval (.Name fn p) env) [] (backTo p' (starEach [e1, e2] env)) (backToKw p' (keywordEach [] env))) := by rfl)
    (he1 : starEach [e1, e2] env = (false, eval e1 env) :: starEach [e2] env := by rfl) (he2 : starEach [e2] env = (false, eval e2 env) :: starEach [] env := by rfl) (hp1 : (backTo p' (starEach [e2] env)).any (·.1) = false := by rfl) :
    wpAny (model prog w) A (eval (.Call (.Name fn p) [e1, e2] [] p') env) Q E s :=
  Call_ (S_glob S W e (S_callWith W hk (args_cons (a1.run _ _ _ _ S fun t1 _ S1 => args_cons (a2.run _ _ _ _ S1 fun t2 _ S2 => args_nil ⟨S2.inK W, h t1 t2 _ S2⟩) he2) he1) he1 hp1) hg hs hx hd) he
theorem S_callA3 {fn : Str} {f : Addr} {e1 e2 e3 : Expr} {g1 g2 g3 : Tok → Value} {p p' : Pos} {env : Env} {Q : Value → Shared → Prop} (S : St c B L m σ s) (W : Wd w c.G) (e : nsIn (KK w) mainGlobals fn = some (some (.ref f))) (hk : keepIn (KK w) (.ref f) = true)
    (a1 : At prog w c B L m σ env e1 g1) (a2 : At prog w c B L m σ env e2 g2) (a3 : At prog w c B L m σ env e3 g3) (h : ∀ t1 t2 t3 s', St c B L m σ s' → wpAny (model prog w) A (call (.ref f) [g1 t1, g2 t2, g3 t3]) Q E s')
    (hg : env.globals = mainGlobals := by rfl) (hs : env.scope.kind = .function := by rfl) (hx : env.kindOf fn = some .globalImplicit := by rfl) (hd : (fn == ("__debug__" : Str)) = false := by decide)
    (he : eval (.Call (.Name fn p) [e1, e2, e3] [] p') env = (do callWith p' (← eval (.Name fn p) env) [] (backTo p' (starEach [e1, e2, e3] env)) (backToKw p' (keywordEach [] env))) := by rfl)
    (he1 : starEach [e1, e2, e3] env = (false, eval e1 env) :: starEach [e2, e3] env := by rfl) (he2 : starEach [e2, e3] env = (false, eval e2 env) :: starEach [e3] env := by rfl) (he3 : starEach [e3] env = (false, eval e3 env) :: starEach [] env := by rfl) (hp1 : (backTo p' (starEach [e2, e3] env)).any (·.1) = false := by rfl) :
    wpAny (model prog w) A (eval (.Call (.Name fn p) [e1, e2, e3] [] p') env) Q E s :=
  Call_ (S_glob S W e (S_callWith W hk (args_cons (a1.run _ _ _ _ S fun t1 _ S1 => args_cons (a2.run _ _ _ _ S1 fun t2 _ S2 => args_cons (a3.run _ _ _ _ S2 fun t3 _ S3 => args_nil ⟨S3.inK W, h t1 t2 t3 _ S3⟩) he3) he2) he1) he1 hp1) hg hs hx hd) he
theorem S_callA4 {fn : Str} {f : Addr} {e1 e2 e3 e4 : Expr} {g1 g2 g3 g4 : Tok → Value} {p p' : Pos} {env : Env} {Q : Value → Shared → Prop} (S : St c B L m σ s) (W : Wd w c.G) (e : nsIn (KK w) mainGlobals fn = some (some (.ref f))) (hk : keepIn (KK w) (.ref f) = true)
    (a1 : At prog w c B L m σ env e1 g1) (a2 : At prog w c B L m σ env e2 g2) (a3 : At prog w c B L m σ env e3 g3) (a4 : At prog w c B L m σ env e4 g4) (h : ∀ t1 t2 t3 t4 s', St c B L m σ s' → wpAny (model prog w) A (call (.ref f) [g1 t1, g2 t2, g3 t3, g4 t4]) Q E s')
    (hg : env.globals = mainGlobals := by rfl) (hs : env.scope.kind = .function := by rfl) (hx : env.kindOf fn = some .globalImplicit := by rfl) (hd : (fn == ("__debug__" : Str)) = false := by decide)
    (he : eval (.Call (.Name fn p) [e1, e2, e3, e4] [] p') env = (do callWith p' (← eval (.Name fn p) env) [] (backTo p' (starEach [e1, e2, e3, e4] env)) (backToKw p' (keywordEach [] env))) := by rfl)
    (he1 : starEach [e1, e2, e3, e4] env = (false, eval e1 env) :: starEach [e2, e3, e4] env := by rfl) (he2 : starEach [e2, e3, e4] env = (false, eval e2 env) :: starEach [e3, e4] env := by rfl) (he3 : starEach [e3, e4] env = (false, eval e3 env) :: starEach [e4] env := by rfl)
    (he4 : starEach [e4] env = (false, eval e4 env) :: starEach [] env := by rfl) (hp1 : (backTo p' (starEach [e2, e3, e4] env)).any (·.1) = false := by rfl) :
    wpAny (model prog w) A (eval (.Call (.Name fn p) [e1, e2, e3, e4] [] p') env) Q E s :=
  Call_ (S_glob S W e (S_callWith W hk (args_cons (a1.run _ _ _ _ S fun t1 _ S1 => args_cons (a2.run _ _ _ _ S1 fun t2 _ S2 => args_cons (a3.run _ _ _ _ S2 fun t3 _ S3 => args_cons (a4.run _ _ _ _ S3 fun t4 _ S4 => args_nil ⟨S4.inK W, h t1 t2 t3 t4 _ S4⟩) he4) he3) he2) he1) he1 hp1) hg hs hx hd) he
/-- the tests of a name against a written text, a written number -/
theorem S_testS {e : Expr} {x y : Str} {t : Tok} {k : Nat} {p p' : Pos} {env : Env} {whole : Sem Value} {Q : Bool → Shared → Prop} (S : St c B L m σ s) (a : At prog w c B L m σ env e (fun _ => .str x t)) (h : ∀ s', St c B L m σ s' → Q (x == y) s')
    (hm : behindInMarks .Eq (.Constant (.str y) k p) = false := by with_unfolding_all rfl) : wpAny (model prog w) A (isTrue (.Compare e [.Eq] [.Constant (.str y) k p] p') env whole) Q E s :=
  wpAny_isTrue_Compare1 (a.run _ _ _ _ S fun _ _ S1 => S_str S1 fun _ _ S2 => PyProof.Rows.eq_str (wpAny_truthy_bool (h _ S2))) hm
theorem S_testEq {e : Expr} {x y : Int} {t : Tok} {k : Nat} {p p' : Pos} {env : Env} {whole : Sem Value} {Q : Bool → Shared → Prop} (S : St c B L m σ s) (a : At prog w c B L m σ env e (fun _ => .int x t)) (h : ∀ s', St c B L m σ s' → Q (x == y) s')
    (hm : behindInMarks .Eq (.Constant (.int y) k p) = false := by with_unfolding_all rfl) : wpAny (model prog w) A (isTrue (.Compare e [.Eq] [.Constant (.int y) k p] p') env whole) Q E s :=
  wpAny_isTrue_Compare1 (a.run _ _ _ _ S fun _ _ S1 => S_int S1 fun _ _ S2 => PyProof.Rows.eq_int (wpAny_truthy_bool (h _ S2))) hm
theorem S_testLt {e : Expr} {x y : Int} {t : Tok} {k : Nat} {p p' : Pos} {env : Env} {whole : Sem Value} {Q : Bool → Shared → Prop} (S : St c B L m σ s) (a : At prog w c B L m σ env e (fun _ => .int x t)) (h : ∀ s', St c B L m σ s' → Q (decide (x < y)) s')
    (hm : behindInMarks .Lt (.Constant (.int y) k p) = false := by with_unfolding_all rfl) : wpAny (model prog w) A (isTrue (.Compare e [.Lt] [.Constant (.int y) k p] p') env whole) Q E s :=
  wpAny_isTrue_Compare1 (a.run _ _ _ _ S fun _ _ S1 => S_int S1 fun _ _ S2 => PyProof.Rows.lt_int (wpAny_truthy_bool (h _ S2))) hm

/-- into a def without cells that never raises -/
theorem enter {G : Heap} {M : List Addr} {vals : List Value} {binds : List (Str × Value)} {Q : Value → Shared → Prop}
    {name qual : Str} {params : Arguments} {body : List Stmt} {scope : Scope} {dV kV doc pm cdv ct oc : Value} {an od : Option Addr} {osl : Array (Option Value)}
    (W : Wd w G) (hg : ∀ b o, G.get? b = some o → B b = some o) (hk : ∀ b o, B b = some o → s.heap.get? b = some o) (hroom : A.depth < recursionLimit)
    (ho : (KK w).lookup f = some ⟨oc, od, .func (fnX name qual params body scope [] dV kV doc pm an cdv ct), osl⟩) (hcd : codeIn (KK w) cdv qual = true)
    (hbind : bindArgs (fnX name qual params body scope [] dV kV doc pm an cdv ct) ⟨vals, []⟩ = pure binds) (hloc : ∀ y ∈ binds, scope.names.lookup y.1 = some .local)
    (h : ∀ L s₁, s.heap.objs.size ≤ L → (∀ b o, s.heap.get? b = some o → s₁.heap.get? b = some o) → St ⟨G, s, B, M⟩ B L (fun y => binds.reverse.lookup y) [] s₁ →
      wpAny (model prog w) (A.deeper (envX qual scope L f cdv [])) (execs body (envX qual scope L f cdv [])) (fun fl s' => Q (match fl with | .ret v => v | _ => .none) s') (fun _ _ => False) s₁)
    (hcell : ∀ x ∈ scope.names, x.2 ≠ .cell) (hco : scope.isCoroutine = false) (hgen : scope.isGenerator = false) (hkk : scope.kind = .function) :
    wpAny (model prog w) A (call (.ref f) vals) Q E s := by
  obtain ⟨mg, mb, T⟩ := W.t
  have hG : ∀ b o, G.get? b = some o → s.heap.get? b = some o := fun b o e => hk b o (hg b o e)
  refine wpAny_call (codeAny_call_def (fd := fnX name qual params body scope [] dV kV doc pm an cdv ct) (body := body) (binds := binds) hroom (hG _ _ (W.k _ _ ho)) rfl (T.nolimit.keeps hG)
    (codeRec_of (W.k.keeps hG) hcd) rfl (BindsTo.of_eq hbind) hcell hloc (fun h₁ hns hk₁ => ?_) hco hgen hkk)
  refine wpAny_mono (h s.heap.objs.size _ (Nat.le_refl _) hk₁ ⟨hns, hg, Nat.le_refl _, ⟨fun _ _ e => e, fun _ _ e => .inl e, fun b o e => hk₁ b o (hk b o e), fun b o _ e => hk₁ b o e, Like.mk _ _ _⟩, ?_, fun _ hp => (nomatch hp), List.nodup_nil⟩) (fun _ _ x => x) (fun _ _ x => x.elim)
  cases q : B s.heap.objs.size with
  | none => rfl
  | some o => exact absurd (Heap.lt_size (hk _ _ q)) (Nat.lt_irrefl _)
end

/-- the list is turned by a call that was handed it -/
theorem St.back0 {c : Cx} {B B' : Base} {L : Addr} {m : Str → Option Value} {σ : List (Addr × Obj)} {s s' : Shared} (S : St c B L m σ s) (P : Post ⟨c.G, s, B, []⟩ B' s') : St c B' L m σ s' :=
  S.back P (fun _ ha => nomatch ha) rfl (fun _ hp _ => hp) (fun _ _ q => nomatch q)
theorem set_keys {σ : List (Addr × Obj)} {i : Nat} {D : Addr} {o o' : Obj} (hi : σ[i]? = some (D, o)) : (σ.set i (D, o')).map (·.1) = σ.map (·.1) := by
  obtain ⟨hl, he⟩ := List.getElem?_eq_some_iff.mp hi
  rw [List.map_set]
  apply List.ext_getElem?
  intro j
  rw [List.getElem?_set]
  split
  · rename_i hj; subst hj; simp [hl, he]
  · rfl
theorem mem_set {σ : List (Addr × Obj)} {i : Nat} {D : Addr} {o' : Obj} {p : Addr × Obj} (hp : p ∈ σ.set i (D, o')) : p = (D, o') ∨ p ∈ σ := by
  obtain ⟨j, hj⟩ := List.mem_iff_getElem?.mp hp
  rw [List.getElem?_set] at hj
  split at hj
  · split at hj
    · cases hj; exact .inl rfl
    · cases hj
  · exact .inr (List.mem_of_getElem? hj)
theorem St.back1 {c : Cx} {B B' : Base} {L D : Addr} {m : Str → Option Value} {σ : List (Addr × Obj)} {i : Nat} {o o' : Obj} {s s' : Shared} (S : St c B L m σ s) (P : Post ⟨c.G, s, B, [D]⟩ B' s')
    (hi : σ[i]? = some (D, o)) (ho : s'.heap.get? D = some o') : St c B' L m (σ.set i (D, o')) s' := by
  have hD : D ∈ σ.map (·.1) := List.mem_map.mpr ⟨_, List.mem_of_getElem? hi, rfl⟩
  refine S.back P (fun a ha => by rw [List.mem_singleton.mp ha]; exact hD) (set_keys hi) (fun p hp hn => ?_) fun p hp hm => ?_
  · rcases mem_set hp with rfl | q
    · exact absurd (List.mem_singleton.mpr rfl) hn
    · exact q
  · have hpD := List.mem_singleton.mp hm
    rcases mem_set hp with rfl | q
    · exact ho
    · -- another entry at the same place: there is but one
      obtain ⟨hl, he⟩ := List.getElem?_eq_some_iff.mp hi
      obtain ⟨j, hj⟩ := List.mem_iff_getElem?.mp hp
      rw [List.getElem?_set] at hj
      split at hj
      · (try rw [if_pos hl] at hj)
        cases hj
        exact ho
      · rename_i hij
        have hj' : (σ.map (·.1))[j]? = some D := by rw [List.getElem?_map, hj]; simpa using hpD
        have hi' : (σ.map (·.1))[i]? = some D := by rw [List.getElem?_map, hi]; rfl
        exact absurd ((List.getElem?_inj (by simpa using hl) S.nd).mp (hi'.trans hj'.symm)) hij

end
section
-- --nodrv: facts
theorem gl_bits (w : World) : nsIn (KK w) mainGlobals "_law_bits" = some (some (.ref 134)) := by kernel_rfl
theorem gl_cut (w : World) : nsIn (KK w) mainGlobals "_law_cut" = some (some (.ref 141)) := by kernel_rfl
theorem gl_expr (w : World) : nsIn (KK w) mainGlobals "_law_expr" = some (some (.ref 148)) := by kernel_rfl
theorem gl_target (w : World) : nsIn (KK w) mainGlobals "_law_target" = some (some (.ref 155)) := by kernel_rfl
theorem gl_set (w : World) : nsIn (KK w) mainGlobals "_law_set" = some (some (.ref 162)) := by kernel_rfl
theorem gl_statement (w : World) : nsIn (KK w) mainGlobals "_law_statement" = some (some (.ref 167)) := by kernel_rfl
theorem gl_children (w : World) : nsIn (KK w) mainGlobals "children" = some (some (.ref 54)) := by kernel_rfl
theorem gl_subexpressions (w : World) : nsIn (KK w) mainGlobals "subexpressions" = some (some (.ref 61)) := by kernel_rfl
theorem gl_expr_reads (w : World) : nsIn (KK w) mainGlobals "expr_reads" = some (some (.ref 68)) := by kernel_rfl
theorem gl_target_indexes (w : World) : nsIn (KK w) mainGlobals "target_indexes" = some (some (.ref 75)) := by kernel_rfl
theorem gl_target_writes (w : World) : nsIn (KK w) mainGlobals "target_writes" = some (some (.ref 82)) := by kernel_rfl
theorem gl_stmt_parts (w : World) : nsIn (KK w) mainGlobals "stmt_parts" = some (some (.ref 87)) := by kernel_rfl
theorem gl_substatements (w : World) : nsIn (KK w) mainGlobals "substatements" = some (some (.ref 94)) := by kernel_rfl
theorem gl_stmt_targets (w : World) : nsIn (KK w) mainGlobals "stmt_targets" = some (some (.ref 99)) := by kernel_rfl
theorem gl_stmt_exprs (w : World) : nsIn (KK w) mainGlobals "stmt_exprs" = some (some (.ref 106)) := by kernel_rfl
theorem gl_stmt_reads (w : World) : nsIn (KK w) mainGlobals "stmt_reads" = some (some (.ref 113)) := by kernel_rfl
theorem gl_stmt_writes (w : World) : nsIn (KK w) mainGlobals "stmt_writes" = some (some (.ref 120)) := by kernel_rfl
theorem gl_check_sensitivity (w : World) : nsIn (KK w) mainGlobals "check_sensitivity" = some (some (.ref 127)) := by kernel_rfl
theorem gl_SynthError (w : World) : nsIn (KK w) mainGlobals "SynthError" = some (some (.ref 45)) := by kernel_rfl
theorem kp_134 (w : World) : keepIn (KK w) (.ref 134) = true := by kernel_rfl
theorem kp_141 (w : World) : keepIn (KK w) (.ref 141) = true := by kernel_rfl
theorem kp_148 (w : World) : keepIn (KK w) (.ref 148) = true := by kernel_rfl
theorem kp_155 (w : World) : keepIn (KK w) (.ref 155) = true := by kernel_rfl
theorem kp_162 (w : World) : keepIn (KK w) (.ref 162) = true := by kernel_rfl
theorem kp_167 (w : World) : keepIn (KK w) (.ref 167) = true := by kernel_rfl
theorem kp_54 (w : World) : keepIn (KK w) (.ref 54) = true := by kernel_rfl
theorem kp_61 (w : World) : keepIn (KK w) (.ref 61) = true := by kernel_rfl
theorem kp_68 (w : World) : keepIn (KK w) (.ref 68) = true := by kernel_rfl
theorem kp_75 (w : World) : keepIn (KK w) (.ref 75) = true := by kernel_rfl
theorem kp_82 (w : World) : keepIn (KK w) (.ref 82) = true := by kernel_rfl
theorem kp_87 (w : World) : keepIn (KK w) (.ref 87) = true := by kernel_rfl
theorem kp_94 (w : World) : keepIn (KK w) (.ref 94) = true := by kernel_rfl
theorem kp_99 (w : World) : keepIn (KK w) (.ref 99) = true := by kernel_rfl
theorem kp_106 (w : World) : keepIn (KK w) (.ref 106) = true := by kernel_rfl
theorem kp_113 (w : World) : keepIn (KK w) (.ref 113) = true := by kernel_rfl
theorem kp_120 (w : World) : keepIn (KK w) (.ref 120) = true := by kernel_rfl
theorem kp_127 (w : World) : keepIn (KK w) (.ref 127) = true := by kernel_rfl
theorem no_range (w : World) : nsIn (KK w) mainGlobals "range" = some none := by kernel_rfl
theorem no_reversed (w : World) : nsIn (KK w) mainGlobals "reversed" = some none := by kernel_rfl
theorem no_sorted (w : World) : nsIn (KK w) mainGlobals "sorted" = some none := by kernel_rfl
theorem no_tuple (w : World) : nsIn (KK w) mainGlobals "tuple" = some none := by kernel_rfl
theorem no_list (w : World) : nsIn (KK w) mainGlobals "list" = some none := by kernel_rfl

end
-- the walk's driver: one step
local macro_rules | `(tactic| walk_at "m-idx") => `(tactic| with_reducible first | exact idx0 | exact idx1 | exact idx2 | exact idx3 | exact idx4 | exact idx5 | exact idx6 | exact idx7 | exact idx8 | exact idx9 | exact idx10 | exact idx11 | exact idx12 | exact idx13 | exact idx14 | exact idx15)
local macro_rules | `(tactic| walk_at "m-sz") => `(tactic| first | omega | (simp only [List.length_append, List.length_cons, List.length_nil]; omega))
local macro_rules | `(tactic| walk_at "m-glob") => `(tactic| with_reducible first
  | exact gl_cut _ | exact gl_expr _ | exact gl_target _ | exact gl_set _ | exact gl_statement _ | exact gl_children _ | exact gl_subexpressions _ | exact gl_expr_reads _ | exact gl_target_indexes _
  | exact gl_target_writes _ | exact gl_stmt_parts _ | exact gl_substatements _ | exact gl_stmt_targets _ | exact gl_stmt_exprs _ | exact gl_stmt_reads _ | exact gl_stmt_writes _ | exact gl_check_sensitivity _ | exact gl_SynthError _ | exact gl_bits _)
local macro_rules | `(tactic| walk_at "m-blt") => `(tactic| ((with_reducible rename St _ _ _ _ _ _ => S0); first
  | refine S_blt S0 (by assumption) (by with_reducible exact no_range _) boot_range ?_ | refine S_blt S0 (by assumption) (by with_reducible exact no_reversed _) boot_reversed ?_ | refine S_blt S0 (by assumption) (by with_reducible exact no_sorted _) boot_sorted ?_
  | refine S_blt S0 (by assumption) (by with_reducible exact no_tuple _) boot_tuple ?_ | refine S_blt S0 (by assumption) (by with_reducible exact no_list _) boot_list ?_))
local macro_rules | `(tactic| walk_at "m-keep") => `(tactic| with_reducible first
  | exact kp_141 _ | exact kp_148 _ | exact kp_155 _ | exact kp_162 _ | exact kp_167 _ | exact kp_54 _ | exact kp_61 _ | exact kp_68 _ | exact kp_75 _ | exact kp_82 _ | exact kp_87 _ | exact kp_94 _ | exact kp_99 _ | exact kp_106 _ | exact kp_113 _ | exact kp_120 _ | exact kp_127 _ | exact kp_134 _)
local macro_rules | `(tactic| walk_at "m-loc") => `(tactic| first | with_reducible assumption | with_reducible exact rfl | rfl | (refine (if_neg (by decide)).trans ?_; walk_at "m-loc"))
set_option hygiene false
local macro_rules | `(tactic| walk_at "m-gen") => `(tactic| ((with_reducible refine execs_consG ?_); intro qq hqq))
local macro_rules | `(tactic| walk_at "m-go") => `(tactic| ((with_reducible refine Into.go hqq _ _ ?_); clear hqq; try clear qq))
set_option hygiene true
local macro_rules | `(tactic| walk_at "m-atom") => `(tactic| first
  | ((with_reducible show At _ _ _ _ _ _ _ _ (Expr.Name _ _) _); first | exact At.loc (by walk_at "m-loc") | exact At.cell (by rfl) (by walk_at "m-idx") (by assumption))
  | ((with_reducible show At _ _ _ _ _ _ _ _ (Expr.Constant (Const.int _) _ _) _); exact At.int)
  | ((with_reducible show At _ _ _ _ _ _ _ _ (Expr.BinOp _ _ (Expr.Constant (Const.int _) _ _) _) _); exact At.sub (by walk_at "m-atom")))
local macro_rules | `(tactic| walk_at "m-callA") => `(tactic| ((with_reducible rename St _ _ _ _ _ _ => S0); first
  | ((with_reducible show wpAny _ _ (eval (Expr.Call _ [Expr.Name _ _] _ _) _) _ _ _); refine S_callA1 S0 (by assumption) (by walk_at "m-glob") (by walk_at "m-keep") (by walk_at "m-loc") ?_)
  | ((with_reducible show wpAny _ _ (eval (Expr.Call _ [_, _] _ _) _) _ _ _); refine S_callA2 S0 (by assumption) (by walk_at "m-glob") (by walk_at "m-keep") (by walk_at "m-atom") (by walk_at "m-atom") ?_; clear S0; intro t1' t2' s' S')
  | ((with_reducible show wpAny _ _ (eval (Expr.Call _ [_, _, _] _ _) _) _ _ _); refine S_callA3 S0 (by assumption) (by walk_at "m-glob") (by walk_at "m-keep") (by walk_at "m-atom") (by walk_at "m-atom") (by walk_at "m-atom") ?_; clear S0; intro t1' t2' t3' s' S')
  | ((with_reducible show wpAny _ _ (eval (Expr.Call _ [_, _, _, _] _ _) _) _ _ _); refine S_callA4 S0 (by assumption) (by walk_at "m-glob") (by walk_at "m-keep") (by walk_at "m-atom") (by walk_at "m-atom") (by walk_at "m-atom") (by walk_at "m-atom") ?_; clear S0; intro t1' t2' t3' t4' s' S')))
local macro_rules | `(tactic| walk_at "m-testA") => `(tactic| ((with_reducible show wpAny _ _ (isTrue (Expr.Compare _ [_] [Expr.Constant _ _ _] _) _ _) _ _ _); (with_reducible rename St _ _ _ _ _ _ => S0); (first | ((with_reducible show wpAny _ _ (isTrue (Expr.Compare _ [CmpOp.Eq] [Expr.Constant (Const.str _) _ _] _) _ _) _ _ _); refine S_testS S0 (by walk_at "m-atom") ?_) | ((with_reducible show wpAny _ _ (isTrue (Expr.Compare _ [CmpOp.Eq] [Expr.Constant (Const.int _) _ _] _) _ _) _ _ _); refine S_testEq S0 (by walk_at "m-atom") ?_) | ((with_reducible show wpAny _ _ (isTrue (Expr.Compare _ [CmpOp.Lt] [Expr.Constant (Const.int _) _ _] _) _ _) _ _ _); refine S_testLt S0 (by walk_at "m-atom") ?_)); clear S0; intro s' S'))
local macro_rules | `(tactic| walk_at "m-eval") => `(tactic| first
  | ((with_reducible show wpAny _ _ (eval (Expr.Name _ _) _) _ _ _); (with_reducible rename St _ _ _ _ _ _ => S0); first
      | (refine S_glob S0 (by assumption) (by walk_at "m-glob") ?_)
      | (refine S_loc S0 (by walk_at "m-loc") ?_)
      | walk_at "m-blt")
  | (with_reducible refine Subscript_ ?_)
  | ((with_reducible rename St _ _ _ _ _ _ => S0); first
      | ((with_reducible refine S_int S0 ?_); clear S0; intro s' t' S')
      | ((with_reducible refine S_str S0 ?_); clear S0; intro s' t' S'))
  | ((with_reducible show wpAny _ _ (eval (Expr.Call (Expr.Attribute _ _ _) _ _ _) _) _ _ _); refine MethodCall_ ?_)
  | ((with_reducible show wpAny _ _ (eval (Expr.Call (Expr.Name _ _) _ [] _) _) _ _ _); walk_at "m-callA")
  | ((with_reducible show wpAny _ _ (eval (Expr.Call _ _ _ _) _) _ _ _); refine Call_ ?_)
  | (with_reducible refine Tuple_ ?_)
  | (with_reducible refine List_ ?_)
  | ((with_reducible show wpAny _ _ (eval (Expr.Compare _ [_] [_] _) _) _ _ _); refine wpAny_Compare1 ?_)
  | (with_reducible refine wpAny_BinOp ?_)
  | (with_reducible refine IfExp_ ?_)
  | (with_reducible refine Constant_none ?_)
  | (with_reducible refine Constant_bool ?_)
  | (with_reducible refine UnaryOp_ ?_)
  | ((with_reducible show wpAny _ _ (eval (Expr.BoolOp BoolOp.And (_ :: _ :: _) _) _) _ _ _); refine PyProof.Rows.BoolOp_and ?_)
  | ((with_reducible show wpAny _ _ (eval (Expr.BoolOp _ [_] _) _) _ _ _); refine PyProof.Rows.BoolOp_one ?_))
local macro_rules | `(tactic| walk_at "m-test") => `(tactic| first
  | walk_at "m-testA"
  | ((with_reducible show wpAny _ _ (isTrue (Expr.Compare _ [_] [_] _) _ _) _ _ _); refine wpAny_isTrue_Compare1 ?_)
  | (with_reducible refine isTrue_or ?_)
  | (with_reducible refine isTrue_or_nil ?_)
  | (with_reducible refine isTrue_and ?_)
  | (with_reducible refine isTrue_and_nil ?_)
  | ((with_reducible show wpAny _ _ (isTrue (Expr.Name _ _) _ _) _ _ _); refine isTrue_plain ?_))
local macro_rules | `(tactic| walk_at "m-exec") => `(tactic| first
  | ((with_reducible show wpAny _ _ (exec (Stmt.Assign [Expr.Name _ _] _ _) _) _ _ _); refine wpAny_Assign_Name ?_)
  | (with_reducible refine wpAny_Return_some ?_)
  | (with_reducible refine wpAny_If ?_)
  | ((with_reducible show wpAny _ _ (exec (Stmt.Expr _ _) _) _ _ _); refine wpAny_Expr ?_)
  | ((with_reducible show wpAny _ _ (exec (Stmt.For _ _ _ _ _) _) _ _ _); refine wpAny_For ?_)
  | ((with_reducible show wpAny _ _ (exec (Stmt.While _ _ _ _) _) _ _ _); fail "while"))
local macro_rules | `(tactic| walk_at "m-cmp") => `(tactic| first
  | (with_reducible refine PyProof.Rows.eq_int ?_)
  | (with_reducible refine PyProof.Rows.eq_str ?_)
  | (with_reducible refine PyProof.Rows.lt_int ?_)
  | (with_reducible refine PyProof.Rows.gt_int ?_)
  | (with_reducible refine PySem.isNot_none ?_)
  | (with_reducible refine PySem.is_none ?_))
local macro_rules | `(tactic| walk_at "m-bin") => `(tactic| ((with_reducible rename St _ _ _ _ _ _ => S0); first
  | ((with_reducible refine S_sub S0 ?_); clear S0; intro s' t' S')
  | ((with_reducible refine S_add S0 ?_); clear S0; intro s' t' S')))
local macro_rules | `(tactic| walk_at "m-with") => `(tactic| first
  | ((with_reducible show wpAny _ _ (callWith _ (Value.ref _) [] (backTo _ (starEach (_ :: _) _)) []) _ _ _); refine S_callWith (by assumption) (by walk_at "m-keep") ?_)
  | ((with_reducible show wpAny _ _ (callWith _ (Value.builtin _) [] (backTo _ (starEach (_ :: _) _)) []) _ _ _); refine PyProof.Rows.callWith_builtin1 ?_)
  | ((with_reducible show wpAny _ _ (callWith _ (Value.builtin _) _ (backTo _ (starEach (_ :: _) _)) []) _ _ _); refine PyProof.Rows.callWith_method1 ?_; (try simp only [List.cons_append, List.nil_append]))
  | ((with_reducible show wpAny _ _ (callWith _ (Value.builtin _) _ (backTo _ (starEach [] _)) []) _ _ _); refine PyProof.Rows.callWith_method0 ?_))
local macro_rules | `(tactic| walk_at "m-with") => `(tactic| ((with_reducible show wpAny _ _ (callWith _ (Value.type _) [] (backTo _ (starEach (_ :: _) _)) []) _ _ _); refine PyProof.Rows.callWith_type1 ?_))
local macro_rules | `(tactic| walk_at "m-call") => `(tactic| ((with_reducible rename St _ _ _ _ _ _ => S0); (with_reducible show wpAny _ _ (call (Value.builtin "list.append") _) _ _ _); (refine S_append S0 (by walk_at "m-idx") ?_ (by walk_at "m-sz")); clear S0; intro s' S'; (try dsimp only [List.set_cons_zero, List.set_cons_succ] at S')))
local macro_rules | `(tactic| walk_at "m-meth") => `(tactic| ((with_reducible rename St _ _ _ _ _ _ => S0); first
  | refine S_listMeth S0 (by walk_at "m-idx") PySem.F.slot_list_append PySem.F.type_list_append ?_
  | refine S_listMeth S0 (by walk_at "m-idx") PySem.F.slot_list_pop PySem.F.type_list_pop ?_))
local macro_rules | `(tactic| walk_at "m-sub1") => `(tactic| ((with_reducible rename St _ _ _ _ _ _ => S0); first
  | refine S_itemB S0 (by with_reducible assumption) (by decide) (by decide) (by rfl) (by rfl) ?_
  | refine S_itemL S0 (by walk_at "m-idx") (by omega) (by omega) (by rfl) ?_))
local macro_rules | `(tactic| walk_at "m") => `(tactic| first
  | ((with_reducible show wpAny _ _ (eval _ _) _ _ _); walk_at "m-eval")
  | ((with_reducible show wpAny _ _ (spliced _) _ _ _); first
      | ((with_reducible show wpAny _ _ (spliced (backTo _ (starEach (_ :: _) _))) _ _ _); refine args_cons ?_)
      | (refine args_nil ?_; (try simp only [List.cons_append, List.nil_append])))
  | ((with_reducible show wpAny _ _ (truthy (Value.bool _)) _ _ _); (with_reducible refine wpAny_truthy_bool ?_))
  | ((with_reducible show wpAny _ _ (isTrue _ _ _) _ _ _); walk_at "m-test")
  | walk_at "m-gen"
  | ((with_reducible show wpAny _ _ (exec _ _) _ _ _); walk_at "m-exec")
  | ((with_reducible show wpAny _ _ (storeName _ _ _) _ _ _); (with_reducible rename St _ _ _ _ _ _ => S0); refine S_store S0 ?_; clear S0; intro s' S')
  | ((with_reducible show wpAny _ _ (compareOp _ _ _) _ _ _); walk_at "m-cmp")
  | ((with_reducible show wpAny _ _ (binaryOp _ _ _) _ _ _); walk_at "m-bin")
  | ((with_reducible show wpAny _ _ (unaryOp _ _) _ _ _); (with_reducible rename St _ _ _ _ _ _ => S0); (with_reducible refine S_neg S0 ?_); clear S0; intro s' t' S')
  | ((with_reducible show wpAny _ _ (callWith _ _ _ _ _) _ _ _); walk_at "m-with")
  | ((with_reducible show wpAny _ _ (call _ _ _) _ _ _); walk_at "m-call")
  | ((with_reducible show wpAny _ _ (newTuple _) _ _ _); (with_reducible rename St _ _ _ _ _ _ => S0); refine S_tuple S0 ?_ (by walk_at "m-sz"); clear S0; intro a' s' ha' S')
  | ((with_reducible show wpAny _ _ (newList _) _ _ _); (with_reducible rename St _ _ _ _ _ _ => S0); refine S_list S0 ?_ (by walk_at "m-sz"); clear S0; intro a' s' ha' S')
  | ((with_reducible show (KK _).In _ ∧ _); (with_reducible rename St _ _ _ _ _ _ => S0); refine ⟨St.inK S0 (by assumption), ?_⟩)
  | ((with_reducible show wpAny _ _ (subscriptTail _ _ _ _) _ _ _); walk_at "m-sub1")
  | ((with_reducible show wpAny _ _ (getMethod _ _ _) _ _ _); walk_at "m-meth")
  | (with_reducible refine wpAny_execs_nil ?_)
  | ((with_reducible show ite _ _ _); first | rw [if_pos (by decide)] | rw [if_neg (by decide)])
  | walk_at "m-go"
  | (dsimp only))
section
def RowO (o : Obj) : Prop := ∃ vs n ns, o = lstO vs n ∧ IntsAre vs ns ∧ vs.length ≤ 100
def IntsO (o : Obj) (ks : List Int) : Prop := ∃ vs n, o = lstO vs n ∧ IntsAre vs ks

theorem Post.ofS {c : Cx} {B : Base} {L : Addr} {m : Str → Option Value} {σ : List (Addr × Obj)} {s : Shared} (S : St c B L m σ s) : Post c B s := S.po

section
variable {prog : Program} {w : World} {A : Around} {E : Value → Shared → Prop} {s : Shared} {c : Cx} {B : Base} {L : Addr} {m : Str → Option Value} {σ : List (Addr × Obj)}
theorem S_neNil {a b : Addr} {xs : List Value} {n n' i j : Nat} {ns : List Int} {Q : Value → Shared → Prop} (S : St c B L m σ s) (hi : σ[i]? = some (a, lstO xs n)) (hj : σ[j]? = some (b, lstO [] n')) (hx : IntsAre xs ns) (hu : A.units + 64 < cLine)
    (h : Q (.bool (!decide (xs = []))) s) : wpAny (model prog w) A (compareOp .NotEq (.ref a) (.ref b)) Q E s := by
  refine ke_ne_ints ⟨_, (S.own _ (List.mem_of_getElem? hi)).1, rfl, n, rfl⟩ ⟨_, (S.own _ (List.mem_of_getElem? hj)).1, rfl, n', rfl⟩ hx .nil hu ?_
  have : decide (ns = []) = decide (xs = []) := by
    cases hx <;> simp
  rw [this]; exact h
end

theorem cut_raw {prog : Program} {w : World} {A : Around} {s : Shared} {G : Heap} {B : Base} {row : Addr} {k : Int} {t : Tok} {o : Obj} {Q E : Value → Shared → Prop}
    (W : Wd w G) (hg : ∀ b o, G.get? b = some o → B b = some o) (hk : ∀ b o, B b = some o → s.heap.get? b = some o) (hr : s.heap.get? row = some o) (ho : RowO o) (hBr : B row = none) (h0 : 0 < k)
    (hroom : A.depth < recursionLimit) (hu : A.units + 100 < cLine)
    (hQ : ∀ i t' o' B' s', 0 ≤ i → i < k → RowO o' → s'.heap.get? row = some o' → Post ⟨G, s, B, [row]⟩ B' s' → Q (.int i t') s') :
    wpAny (model prog w) A (call (.ref 141) [.ref row, .int k t]) Q E s := by
  refine enter (M := [row]) (binds := [(Str.ofString "row", .ref row), (Str.ofString "many", .int k t)]) W hg hk hroom (by rfl) (by kernel_rfl) (by rfl) (locs (by rfl)) ?_ (by decide) (by rfl) (by rfl) (by rfl)
  intro L h₁ hL hk₁ S
  obtain ⟨vs, n, ns, rfl, hi, hl⟩ := ho
  replace S := S.take (a := row) (.head _) (hk₁ _ _ hr) (Heap.lt_size hr) hBr (fun q => nomatch q)
  generalize hA : A.deeper (envX _ _ _ _ _ _) = A'
  have hu' : A'.units + 64 < cLine := by rw [← hA]; show A.units + 3 + 64 < cLine; omega
  repeat (walk_at "m")
  refine S_neNil (by assumption) (by walk_at "m-idx") (by walk_at "m-idx") hi hu' ?_
  walk_at "m"
  by_cases hx : vs = []
  · subst hx
    rw [if_neg (by simp)]
    repeat (walk_at "m")
    exact hQ _ _ _ _ _ (Int.le_refl 0) h0 ⟨_, _, _, rfl, hi, hl⟩ (St.own ‹_› (row, _) (.tail _ (.head _))).1 (St.po ‹_›)
  · rw [if_pos (by simp [hx])]
    obtain ⟨y, u, e1, rfl, h3⟩ := kpa_ints hi (List.length_pos_iff.mpr hx)
    generalize hds : vs.dropLast = ds at e1 h3
    subst e1
    repeat (walk_at "m")
    rename St _ _ _ _ _ _ => S0
    refine S_pop S0 (by walk_at "m-idx") ?_ (by omega)
    clear S0
    intro s' S'
    repeat (walk_at "m")
    rename St _ _ _ _ _ _ => S0
    refine S_mod S0 (by omega) ?_
    clear S0
    intro s' t' S'
    refine hqq.go _ _ ?_
    refine hQ _ _ _ _ _ (fmod_lo _ h0) (fmod_hi _ h0) ⟨ds, _, _, rfl, h3, ?_⟩ (S'.own (row, _) (.tail _ (.head _))).1 S'.po
    simp only [List.length_append, List.length_cons] at hl
    omega

end
section
def Sub (B B' : Base) : Prop := ∀ b o, B b = some o → B' b = some o
theorem Sub.refl (B : Base) : Sub B B := fun _ _ e => e
theorem Sub.trans' {B B' B'' : Base} (y : Sub B' B'') (x : Sub B B') : Sub B B'' := fun b o e => y b o (x b o e)
theorem Sub.trans {B B' B'' : Base} (x : Sub B B') (y : Sub B' B'') : Sub B B'' := fun b o e => y b o (x b o e)
def ins (B : Base) (a : Addr) (o : Obj) : Base := fun b => if b = a then some o else B b
theorem ins_self (B : Base) (a : Addr) (o : Obj) : ins B a o a = some o := if_pos rfl
theorem St.ins {c : Cx} {B : Base} {L : Addr} {m : Str → Option Value} {σ : List (Addr × Obj)} {s : Shared} {a : Addr} {o : Obj} (S : St c B L m ((a, o) :: σ) s) (ha : L < a) : St c (ins B a o) L m σ s := S.freeze ha
theorem St.insSub {c : Cx} {B : Base} {L : Addr} {m : Str → Option Value} {σ : List (Addr × Obj)} {s : Shared} {a : Addr} {o : Obj} (S : St c B L m ((a, o) :: σ) s) : Sub B (Mine.ins B a o) := S.freeze_sub

theorem St.insAt {c : Cx} {B : Base} {L : Addr} {m : Str → Option Value} {σ : List (Addr × Obj)} {s : Shared} {a : Addr} {o : Obj} (S : St c B L m ((a, o) :: σ) s) : Mine.ins B a o a = some o := ins_self _ _ _

/-- the expressions that the law draws -/
inductive PE where
  | sig (k : Int) | const | word (k : Int) (e : PE) | un (e : PE) | cond (a b c : PE) | pick (a b : PE) | bin (a b : PE)
def keysE : PE → List Int
  | .sig k => [k]
  | .const => []
  | .word k e => k :: keysE e
  | .un e => keysE e
  | .cond a b c => keysE a ++ keysE b ++ keysE c
  | .pick a b => keysE a ++ keysE b
  | .bin a b => keysE a ++ keysE b
/-- the base bears it at v -/
def EIn0 (B : Base) : PE → Value → Prop
  | .sig k, v => ∃ a t1 t2 t3, v = .ref a ∧ B a = some (tupO [.str (Str.ofString "sig") t1, .int 4 t2, .int k t3])
  | .const, v => ∃ a t1 x y z, v = .ref a ∧ B a = some (tupO [.str (Str.ofString "const") t1, x, y, z])
  | .word k e, v => ∃ a t1 t2 t3 u, v = .ref a ∧ B a = some (tupO [.str (Str.ofString "word") t1, .int 4 t2, .int k t3, u, .bool false]) ∧ EIn0 B e u
  | .un e, v => ∃ a t1 t2 t3 u, v = .ref a ∧ B a = some (tupO [.str (Str.ofString "un") t1, .int 4 t2, .str (Str.ofString "~") t3, u]) ∧ EIn0 B e u
  | .cond x y z, v => ∃ a t1 t2 vx vy vz, v = .ref a ∧ B a = some (tupO [.str (Str.ofString "cond") t1, .int 4 t2, vx, vy, vz]) ∧ EIn0 B x vx ∧ EIn0 B y vy ∧ EIn0 B z vz
  | .pick x y, v => ∃ a t1 t2 t3 t4 vx vy, v = .ref a ∧ B a = some (tupO [.str (Str.ofString "pick") t1, .int 1 t2, vx, vy, .bool false, .int 0 t3, .int 1 t4]) ∧ EIn0 B x vx ∧ EIn0 B y vy
  | .bin x y, v => ∃ a t1 t2 t3 vx vy, v = .ref a ∧ B a = some (tupO [.str (Str.ofString "bin") t1, .int 4 t2, .str (Str.ofString "+") t3, vx, vy, .bool false]) ∧ EIn0 B x vx ∧ EIn0 B y vy
theorem EIn0.mono {B B' : Base} (hs : Sub B B') {e : PE} {v : Value} (h : EIn0 B e v) : EIn0 B' e v := by
  induction e generalizing v with
  | sig k => exact Exists.imp (fun _ => Exists.imp fun _ => Exists.imp fun _ => Exists.imp fun _ => And.imp_right (hs _ _)) h
  | const => exact Exists.imp (fun _ => Exists.imp fun _ => Exists.imp fun _ => Exists.imp fun _ => Exists.imp fun _ => And.imp_right (hs _ _)) h
  | word k e ih => exact Exists.imp (fun _ => Exists.imp fun _ => Exists.imp fun _ => Exists.imp fun _ => Exists.imp fun _ => And.imp_right (And.imp (hs _ _) ih)) h
  | un e ih => exact Exists.imp (fun _ => Exists.imp fun _ => Exists.imp fun _ => Exists.imp fun _ => Exists.imp fun _ => And.imp_right (And.imp (hs _ _) ih)) h
  | cond x y z ix iy iz => exact Exists.imp (fun _ => Exists.imp fun _ => Exists.imp fun _ => Exists.imp fun _ => Exists.imp fun _ => Exists.imp fun _ => And.imp_right (And.imp (hs _ _) (And.imp ix (And.imp iy iz)))) h
  | pick x y ix iy => exact Exists.imp (fun _ => Exists.imp fun _ => Exists.imp fun _ => Exists.imp fun _ => Exists.imp fun _ => Exists.imp fun _ => Exists.imp fun _ => And.imp_right (And.imp (hs _ _) (And.imp ix iy))) h
  | bin x y ix iy => exact Exists.imp (fun _ => Exists.imp fun _ => Exists.imp fun _ => Exists.imp fun _ => Exists.imp fun _ => Exists.imp fun _ => And.imp_right (And.imp (hs _ _) (And.imp ix iy))) h

def sizeE : PE → Nat
  | .sig _ => 1
  | .const => 1
  | .word _ e => sizeE e + 1
  | .un e => sizeE e + 1
  | .cond a b c => sizeE a + sizeE b + sizeE c + 1
  | .pick a b => sizeE a + sizeE b + 1
  | .bin a b => sizeE a + sizeE b + 1
/-- no deeper than d, its keys below eight -/
def goodE : PE → Nat → Prop
  | .sig k, _ => 0 ≤ k ∧ k < 8
  | .const, _ => True
  | .word k e, d => (0 ≤ k ∧ k < 8) ∧ 1 ≤ d ∧ goodE e (d - 1)
  | .un e, d => 1 ≤ d ∧ goodE e (d - 1)
  | .cond a b c, d => 1 ≤ d ∧ goodE a (d - 1) ∧ goodE b (d - 1) ∧ goodE c (d - 1)
  | .pick a b, d => 1 ≤ d ∧ goodE a (d - 1) ∧ goodE b (d - 1)
  | .bin a b, d => 1 ≤ d ∧ goodE a (d - 1) ∧ goodE b (d - 1)
theorem goodE.mono : ∀ {e : PE} {d d' : Nat}, d ≤ d' → goodE e d → goodE e d'
  | .sig _, _, _, _, h => h
  | .const, _, _, _, h => h
  | .word _ _, _, _, hd, ⟨h1, h2, h3⟩ => ⟨h1, by omega, h3.mono (by omega)⟩
  | .un _, _, _, hd, ⟨h2, h3⟩ => ⟨by omega, h3.mono (by omega)⟩
  | .cond _ _ _, _, _, hd, ⟨h2, h3, h4, h5⟩ => ⟨by omega, h3.mono (by omega), h4.mono (by omega), h5.mono (by omega)⟩
  | .pick _ _, _, _, hd, ⟨h2, h3, h4⟩ => ⟨by omega, h3.mono (by omega), h4.mono (by omega)⟩
  | .bin _ _, _, _, hd, ⟨h2, h3, h4⟩ => ⟨by omega, h3.mono (by omega), h4.mono (by omega)⟩
theorem goodE.keys : ∀ {e : PE} {d : Nat}, goodE e d → ∀ k ∈ keysE e, 0 ≤ k ∧ k < 8
  | .sig _, _, h, k, hk => by simp only [keysE, List.mem_singleton] at hk; exact hk ▸ h
  | .const, _, _, k, hk => by simp [keysE] at hk
  | .word _ _, _, ⟨h1, _, h3⟩, k, hk => by
    simp only [keysE, List.mem_cons] at hk
    rcases hk with rfl | hk
    · exact h1
    · exact h3.keys k hk
  | .un _, _, ⟨_, h3⟩, k, hk => h3.keys k hk
  | .cond _ _ _, _, ⟨_, h3, h4, h5⟩, k, hk => by
    simp only [keysE, List.mem_append] at hk
    rcases hk with (hk | hk) | hk
    · exact h3.keys k hk
    · exact h4.keys k hk
    · exact h5.keys k hk
  | .pick _ _, _, ⟨_, h3, h4⟩, k, hk => by
    simp only [keysE, List.mem_append] at hk
    rcases hk with hk | hk
    · exact h3.keys k hk
    · exact h4.keys k hk
  | .bin _ _, _, ⟨_, h3, h4⟩, k, hk => by
    simp only [keysE, List.mem_append] at hk
    rcases hk with hk | hk
    · exact h3.keys k hk
    · exact h4.keys k hk
theorem goodE.size : ∀ {e : PE} {d : Nat}, goodE e d → 2 * sizeE e + 1 ≤ 3 ^ (d + 1)
  | .sig _, d, _ => by have := Nat.pow_pos (n := d) (show 0 < 3 by decide); rw [Nat.pow_succ]; simp only [sizeE]; omega
  | .const, d, _ => by have := Nat.pow_pos (n := d) (show 0 < 3 by decide); rw [Nat.pow_succ]; simp only [sizeE]; omega
  | .word _ e, d + 1, ⟨_, _, h3⟩ => by have := goodE.size h3; have := Nat.pow_pos (n := d) (show 0 < 3 by decide); simp only [Nat.add_sub_cancel, Nat.pow_succ, sizeE] at *; omega
  | .un e, d + 1, ⟨_, h3⟩ => by have := goodE.size h3; have := Nat.pow_pos (n := d) (show 0 < 3 by decide); simp only [Nat.add_sub_cancel, Nat.pow_succ, sizeE] at *; omega
  | .cond a b c, d + 1, ⟨_, h3, h4, h5⟩ => by have := goodE.size h3; have := goodE.size h4; have := goodE.size h5; simp only [Nat.add_sub_cancel, Nat.pow_succ, sizeE] at *; omega
  | .pick a b, d + 1, ⟨_, h3, h4⟩ => by have := goodE.size h3; have := goodE.size h4; have := Nat.pow_pos (n := d) (show 0 < 3 by decide); simp only [Nat.add_sub_cancel, Nat.pow_succ, sizeE] at *; omega
  | .bin a b, d + 1, ⟨_, h3, h4⟩ => by have := goodE.size h3; have := goodE.size h4; have := Nat.pow_pos (n := d) (show 0 < 3 by decide); simp only [Nat.add_sub_cancel, Nat.pow_succ, sizeE] at *; omega
  | .word _ _, 0, ⟨_, h, _⟩ => absurd h (by decide)
  | .un _, 0, ⟨h, _⟩ => absurd h (by decide)
  | .cond _ _ _, 0, ⟨h, _⟩ => absurd h (by decide)
  | .pick _ _, 0, ⟨h, _⟩ => absurd h (by decide)
  | .bin _ _, 0, ⟨h, _⟩ => absurd h (by decide)
def EIn (B : Base) (e : PE) (v : Value) : Prop := EIn0 B e v ∧ goodE e 2
theorem EIn.zero {B : Base} {e : PE} {v : Value} (h : EIn B e v) : EIn0 B e v := h.1
theorem EIn.mono {B B' : Base} (hs : Sub B B') {e : PE} {v : Value} (h : EIn B e v) : EIn B' e v := ⟨h.1.mono hs, h.2⟩

section
variable {prog : Program} {w : World} {A : Around} {E : Value → Shared → Prop} {s : Shared} {c : Cx} {B : Base} {L : Addr} {m : Str → Option Value} {σ : List (Addr × Obj)}
theorem S_cut {i : Nat} {row : Addr} {o : Obj} {k : Int} {t : Tok} {Q : Value → Shared → Prop} (S : St c B L m σ s) (W : Wd w c.G) (hi : σ[i]? = some (row, o)) (ho : RowO o) (h0 : 0 < k)
    (hroom : A.depth < recursionLimit) (hu : A.units + 100 < cLine)
    (h : ∀ s' B' j t' o', 0 ≤ j → j < k → RowO o' → Sub B B' → St c B' L m (σ.set i (row, o')) s' → Q (.int j t') s') :
    wpAny (model prog w) A (call (.ref 141) [.ref row, .int k t]) Q E s :=
  have z := S.own _ (List.mem_of_getElem? hi)
  cut_raw W S.g S.po.keep z.1 ho z.2.2.1 h0 hroom hu fun j t' o' B' s' a b d e P => h s' B' j t' o' a b d P.sub (S.back1 P hi e)
theorem S_methO {a : Addr} {o : Obj} {i : Nat} {name : Str} {id : String} {pl : Sem Bool} {Q : Value × List Value → Shared → Prop} (S : St c B L m σ s) (hi : σ[i]? = some (a, o)) (hc : o.cls = .type "list") (hd : o.dict = none)
    (slot : Slot "list" name id) (hty : typeOf (.builtin id) = pure (.type "method_descriptor")) (h : Q (.builtin id, [.ref a]) s) : wpAny (model prog w) A (getMethod (.ref a) name pl) Q E s :=
  getMethod_builtin ⟨_, (S.own _ (List.mem_of_getElem? hi)).1, hc⟩ PySem.F.plainAttrs_list slot hty (fun b e => by cases e; exact ⟨_, (S.own _ (List.mem_of_getElem? hi)).1, hd⟩) h
theorem IntsO.cls {o : Obj} {ks : List Int} (h : IntsO o ks) : o.cls = .type "list" := by obtain ⟨vs, n, rfl, _⟩ := h; rfl
theorem IntsO.dict {o : Obj} {ks : List Int} (h : IntsO o ks) : o.dict = none := by obtain ⟨vs, n, rfl, _⟩ := h; rfl
theorem IntsAre.snoc {vs : List Value} {ns : List Int} (h : IntsAre vs ns) (k : Int) (t : Tok) : IntsAre (vs ++ [.int k t]) (ns ++ [k]) := by
  induction h with
  | nil => exact .cons _ _ .nil
  | cons n u _ ih => exact .cons _ _ ih
theorem S_appendI {D : Addr} {o : Obj} {ks : List Int} {i : Nat} {k : Int} {t : Tok} {Q : Value → Shared → Prop} (S : St c B L m σ s) (hi : σ[i]? = some (D, o)) (ho : IntsO o ks) (hsz : ks.length ≤ 16777216)
    (h : ∀ s' o', IntsO o' (ks ++ [k]) → St c B L m (σ.set i (D, o')) s' → Q .none s') : wpAny (model prog w) A (call (.builtin "list.append") [.ref D, .int k t]) Q E s := by
  obtain ⟨vs, n, rfl, hv⟩ := ho
  exact S_append S hi (fun s' S' => h s' _ ⟨_, _, rfl, IntsAre.snoc hv k t⟩ S') (by rw [IntsAre.length hv]; exact hsz)
end
/-- the two lists are turned by a call that was handed them -/
theorem St.back2 {c : Cx} {B B' : Base} {L D D' : Addr} {m : Str → Option Value} {σ : List (Addr × Obj)} {i j : Nat} {o o' p p' : Obj} {s s' : Shared} (S : St c B L m σ s) (P : Post ⟨c.G, s, B, [D, D']⟩ B' s')
    (hi : σ[i]? = some (D, o)) (hj : σ[j]? = some (D', p)) (hij : i ≠ j) (ho : s'.heap.get? D = some o') (hp : s'.heap.get? D' = some p') : St c B' L m ((σ.set i (D, o')).set j (D', p')) s' := by
  have hD : D ∈ σ.map (·.1) := List.mem_map.mpr ⟨_, List.mem_of_getElem? hi, rfl⟩
  have hD' : D' ∈ σ.map (·.1) := List.mem_map.mpr ⟨_, List.mem_of_getElem? hj, rfl⟩
  have hil := (List.getElem?_eq_some_iff.mp hi).1
  have hjl := (List.getElem?_eq_some_iff.mp hj).1
  have hj1 : (σ.set i (D, o'))[j]? = some (D', p) := by rw [List.getElem?_set, if_neg hij]; exact hj
  have keys : ((σ.set i (D, o')).set j (D', p')).map (·.1) = σ.map (·.1) := (set_keys hj1).trans (set_keys hi)
  have at_ : ∀ q ∈ (σ.set i (D, o')).set j (D', p'), q = (D, o') ∨ q = (D', p') ∨ (q ∈ σ ∧ q.1 ≠ D ∧ q.1 ≠ D') := by
    intro q hq
    obtain ⟨l, hl⟩ := List.mem_iff_getElem?.mp hq
    have hk : (σ.map (·.1))[l]? = some q.1 := by rw [← keys, List.getElem?_map, hl]; rfl
    have hii : (σ.map (·.1))[i]? = some D := by rw [List.getElem?_map, hi]; rfl
    have hjj : (σ.map (·.1))[j]? = some D' := by rw [List.getElem?_map, hj]; rfl
    rw [List.getElem?_set] at hl
    by_cases e1 : j = l
    · rw [if_pos e1] at hl
      split at hl
      · cases hl; exact .inr (.inl rfl)
      · cases hl
    · rw [if_neg e1, List.getElem?_set] at hl
      by_cases e2 : i = l
      · rw [if_pos e2] at hl
        (try rw [if_pos hil] at hl)
        cases hl; exact .inl rfl
      · rw [if_neg e2] at hl
        refine .inr (.inr ⟨List.mem_of_getElem? hl, fun z => ?_, fun z => ?_⟩)
        · exact e2 ((List.getElem?_inj (by simpa using hil) S.nd).mp (hii.trans (z ▸ hk.symm)))
        · exact e1 ((List.getElem?_inj (by simpa using hjl) S.nd).mp (hjj.trans (z ▸ hk.symm)))
  refine S.back P (fun a ha => ?_) keys (fun q hq hn => ?_) fun q hq hm => ?_
  · rcases List.mem_cons.mp ha with rfl | ha
    · exact hD
    · rw [List.mem_singleton.mp ha]; exact hD'
  · rcases at_ q hq with rfl | rfl | z
    · exact absurd (.head _) hn
    · exact absurd (.tail _ (.head _)) hn
    · exact z.1
  · rcases at_ q hq with rfl | rfl | z
    · exact ho
    · exact hp
    · rcases List.mem_cons.mp hm with e | e
      · exact absurd e z.2.1
      · exact absurd (List.mem_singleton.mp e) z.2.2

end
local macro_rules | `(tactic| walk_at "m-call") => `(tactic| ((with_reducible show wpAny _ _ (call (Value.ref 141) [Value.ref _, Value.int _ _]) _ _ _); (with_reducible rename St _ _ _ _ _ _ => S0); refine S_cut S0 (by assumption) (by walk_at "m-idx") (by assumption) (by omega) (by omega) (by omega) ?_; clear S0; intro s' B' j' t' o' hj0 hj1 ho' hsub' S'; (try dsimp only [List.set_cons_zero, List.set_cons_succ] at S')))
local macro_rules | `(tactic| walk_at "m-sub") => `(tactic| first | assumption | exact Sub.refl _ | exact Sub.trans (by walk_at "m-sub1") (by assumption))
local macro_rules | `(tactic| walk_at "m-split") => `(tactic| ((with_reducible show ite _ _ _); (refine split_bool ?_ ?_ <;> (intro hb; (try simp only [beq_iff_eq, beq_eq_false_iff_ne, decide_eq_true_eq, decide_eq_false_iff_not, ne_eq, Bool.not_eq_true', Bool.not_eq_false'] at hb); try (exfalso; omega)))))
local macro_rules | `(tactic| walk_at "m-len") => `(tactic| first | omega | (simp only [List.length_append, List.length_cons, List.length_nil] at *; omega))
local macro_rules | `(tactic| walk_at "m-meth") => `(tactic| ((with_reducible show wpAny _ _ (getMethod (Value.ref _) (Str.ofString "append") _) _ _ _); (with_reducible rename St _ _ _ _ _ _ => S0); refine S_methO S0 (by walk_at "m-idx") (IntsO.cls (by assumption)) (IntsO.dict (by assumption)) PySem.F.slot_list_append PySem.F.type_list_append ?_))
local macro_rules | `(tactic| walk_at "m-call") => `(tactic| ((with_reducible show wpAny _ _ (call (Value.builtin "list.append") [Value.ref _, Value.int _ _]) _ _ _); (with_reducible rename St _ _ _ _ _ _ => S0); refine S_appendI S0 (by walk_at "m-idx") (by assumption) (by walk_at "m-len") ?_; clear S0; intro s' o' ho' S'; (try dsimp only [List.set_cons_zero, List.set_cons_succ] at S')))
section
def ExprSpec (prog : Program) (w : World) (G : Heap) (d : Nat) : Prop :=
  ∀ (A : Around) (s : Shared) (B : Base) (row read : Addr) (t : Tok) (o p : Obj) (rs : List Int) (Q E : Value → Shared → Prop),
    (∀ b o, G.get? b = some o → B b = some o) → (∀ b o, B b = some o → s.heap.get? b = some o) → s.heap.get? row = some o → RowO o → B row = none → s.heap.get? read = some p → IntsO p rs → B read = none → row ≠ read →
    rs.length + 3 ^ d ≤ 100000 → A.depth + 5 + d < recursionLimit → A.units + 200 + 10 * d < cLine →
    (∀ v e o' p' B' s', EIn B' e v → goodE e d → RowO o' → IntsO p' (rs ++ keysE e) → (keysE e).length ≤ 3 ^ d → s'.heap.get? row = some o' → s'.heap.get? read = some p' → Post ⟨G, s, B, [row, read]⟩ B' s' → Q v s') →
    wpAny (model prog w) A (call (.ref 148) [.ref row, .ref read, .int (d : Int) t]) Q E s


section
variable {prog : Program} {w : World} {A : Around} {E : Value → Shared → Prop} {s : Shared} {c : Cx} {B : Base} {L : Addr} {m : Str → Option Value} {σ : List (Addr × Obj)}
theorem S_expr {i j d : Nat} {row read : Addr} {o p : Obj} {rs : List Int} {k : Int} {t : Tok} {Q : Value → Shared → Prop} (S : St c B L m σ s) (X : ExprSpec prog w c.G d) (hi : σ[i]? = some (row, o)) (ho : RowO o) (hj : σ[j]? = some (read, p)) (hp : IntsO p rs)
    (hij : i ≠ j) (hk : k = (d : Int)) (hlen : rs.length + 3 ^ d ≤ 100000) (hroom : A.depth + 5 + d < recursionLimit) (hu : A.units + 200 + 10 * d < cLine)
    (h : ∀ s' B' v e o' p', EIn B' e v → goodE e d → RowO o' → IntsO p' (rs ++ keysE e) → (keysE e).length ≤ 3 ^ d → Sub B B' → St c B' L m ((σ.set i (row, o')).set j (read, p')) s' → Q v s') :
    wpAny (model prog w) A (call (.ref 148) [.ref row, .ref read, .int k t]) Q E s := by
  subst hk
  have z := S.own _ (List.mem_of_getElem? hi)
  have y := S.own _ (List.mem_of_getElem? hj)
  have hne : row ≠ read := by
    rintro rfl
    have hi' : (σ.map (·.1))[i]? = some row := by rw [List.getElem?_map, hi]; rfl
    have hj' : (σ.map (·.1))[j]? = some row := by rw [List.getElem?_map, hj]; rfl
    exact hij ((List.getElem?_inj (by simpa using (List.getElem?_eq_some_iff.mp hi).1) S.nd).mp (hi'.trans hj'.symm))
  exact X _ _ _ _ _ _ _ _ _ _ _ S.g S.po.keep z.1 ho z.2.2.1 y.1 hp y.2.2.1 hne hlen hroom hu fun v e o' p' B' s' he hg' hr hq hl h1 h2 P => h s' B' v e o' p' he hg' hr hq hl P.sub (S.back2 P hi hj hij h1 h2)
end
local macro_rules | `(tactic| walk_at "m-call") => `(tactic| ((with_reducible show wpAny _ _ (call (Value.ref 148) [Value.ref _, Value.ref _, Value.int _ _]) _ _ _); (with_reducible rename St _ _ _ _ _ _ => S0); refine S_expr S0 (by assumption) (by walk_at "m-idx") (by assumption) (by walk_at "m-idx") (by assumption) (by decide) (by omega) (by walk_at "m-len") (by omega) (by omega) ?_; clear S0; intro s' B' v' e' o' p' hv' hgd' ho' hp' hl' hsub' S'; (try dsimp only [List.set_cons_zero, List.set_cons_succ] at S')))

theorem expr_leaf {G : Heap} {s s' : Shared} {B B' : Base} {L a row read : Addr} {m : Str → Option Value} {tup o' p' : Obj} {rs : List Int} {N d : Nat} (hd2 : d ≤ 2) {Q : Value → Shared → Prop}
    (S : St ⟨G, s, B, [row, read]⟩ B' L m [(a, tup), (row, o'), (read, p')] s') (ha : L < a)
    (hQ : ∀ v e o' p' B' s', EIn B' e v → goodE e d → RowO o' → IntsO p' (rs ++ keysE e) → (keysE e).length ≤ N → s'.heap.get? row = some o' → s'.heap.get? read = some p' → Post ⟨G, s, B, [row, read]⟩ B' s' → Q v s')
    (e : PE) (he : EIn0 (ins B' a tup) e (.ref a)) (hgd : goodE e d) (ho : RowO o') (hp : IntsO p' (rs ++ keysE e)) (hl : (keysE e).length ≤ N) : Q (.ref a) s' :=
  have T := S.ins ha
  hQ _ e _ _ _ _ ⟨he, hgd.mono hd2⟩ hgd ho hp hl (T.own (row, _) (.head _)).1 (T.own (read, _) (.tail _ (.head _))).1 T.po
local macro_rules | `(tactic| walk_at "m-ein") => `(tactic| first | with_reducible assumption | exact EIn.mono (by with_reducible assumption) (by walk_at "m-ein"))
local macro_rules | `(tactic| walk_at "m-ein0") => `(tactic| exact EIn0.mono (St.insSub (by assumption)) (EIn.zero (by walk_at "m-ein")))
local macro_rules | `(tactic| walk_at "m-ints") => `(tactic| first | assumption | (simp only [keysE, ← List.append_assoc, List.append_nil]; assumption) | (simp only [keysE]; rw [List.append_cons]; assumption))
local macro_rules | `(tactic| walk_at "m-good") => `(tactic| (simp only [goodE, Nat.add_sub_cancel]; (repeat' (first | apply And.intro | trivial | assumption | omega))))
local macro_rules | `(tactic| walk_at "m-lenE") => `(tactic| (simp only [keysE, List.length_append, List.length_cons, List.length_nil]; omega))

theorem expr_step {prog : Program} {w : World} {G : Heap} (W : Wd w G) (d : Nat) (hd2 : d ≤ 2) (ih : ∀ d', d = d' + 1 → ExprSpec prog w G d') : ExprSpec prog w G d := by
  intro A s B row read t o p rs Q E hg hk hr ho hBr hp hpo hBp hne hlen hroom hu hQ
  refine enter (M := [row, read]) (binds := [(Str.ofString "row", .ref row), (Str.ofString "read", .ref read), (Str.ofString "deep", .int d t)]) W hg hk (by omega) (by rfl) (by kernel_rfl) (by rfl) (locs (by rfl)) ?_ (by decide) (by rfl) (by rfl) (by rfl)
  intro L s₁ hL hk₁ S
  replace S := S.take (a := read) (.tail _ (.head _)) (hk₁ _ _ hp) (Heap.lt_size hp) hBp (fun q => nomatch q)
  replace S := S.take (a := row) (.head _) (hk₁ _ _ hr) (Heap.lt_size hr) hBr (fun q => hne (List.mem_singleton.mp q))
  generalize hA : A.deeper (envX _ _ _ _ _ _) = A'
  have hd' : A'.depth + 4 + d < recursionLimit := by rw [← hA]; show A.depth + 1 + 4 + d < _; omega
  have hu' : A'.units + 197 + 10 * d < cLine := by rw [← hA]; show A.units + 3 + 197 + 10 * d < cLine; omega
  clear hA
  rcases d with _ | d
  · repeat' (first | walk_at "m" | walk_at "m-split")
    · rename_i a s₁ ha S₁
      exact expr_leaf hd2 S₁ ha hQ .const ⟨_, _, _, _, _, rfl, ins_self _ _ _⟩ (by walk_at "m-good") (by assumption) (by walk_at "m-ints") (by walk_at "m-lenE")
    · rename_i a s₁ ha S₁
      exact expr_leaf hd2 S₁ ha hQ (.sig _) ⟨_, _, _, _, rfl, ins_self _ _ _⟩ (by walk_at "m-good") (by assumption) (by walk_at "m-ints") (by walk_at "m-lenE")
  · have ih := ih d rfl
    have e3 : 3 ^ (d + 1) = 3 * 3 ^ d := by rw [Nat.pow_succ, Nat.mul_comm]
    rw [e3] at hlen hQ
    have p3 : 0 < 3 ^ d := Nat.pow_pos (by decide)
    repeat' (first | walk_at "m" | walk_at "m-split")
    · rename_i a s₁ ha S₁
      exact expr_leaf hd2 S₁ ha hQ .const ⟨_, _, _, _, _, rfl, ins_self _ _ _⟩ (by walk_at "m-good") (by assumption) (by walk_at "m-ints") (by walk_at "m-lenE")
    · rename_i a s₁ ha S₁
      exact expr_leaf hd2 S₁ ha hQ (.sig _) ⟨_, _, _, _, rfl, ins_self _ _ _⟩ (by walk_at "m-good") (by assumption) (by walk_at "m-ints") (by walk_at "m-lenE")
    · rename_i a s₁ ha S₁
      exact expr_leaf hd2 S₁ ha hQ (.word _ _) ⟨_, _, _, _, _, rfl, ins_self _ _ _, by walk_at "m-ein0"⟩ (by walk_at "m-good") (by assumption) (by walk_at "m-ints") (by walk_at "m-lenE")
    · rename_i a s₁ ha S₁
      exact expr_leaf hd2 S₁ ha hQ (.un _) ⟨_, _, _, _, _, rfl, ins_self _ _ _, by walk_at "m-ein0"⟩ (by walk_at "m-good") (by assumption) (by walk_at "m-ints") (by walk_at "m-lenE")
    · rename_i a s₁ ha S₁
      exact expr_leaf hd2 S₁ ha hQ (.cond _ _ _) ⟨_, _, _, _, _, _, rfl, ins_self _ _ _, by walk_at "m-ein0", by walk_at "m-ein0", by walk_at "m-ein0"⟩ (by walk_at "m-good") (by assumption) (by walk_at "m-ints") (by walk_at "m-lenE")
    · rename_i a s₁ ha S₁
      exact expr_leaf hd2 S₁ ha hQ (.pick _ _) ⟨_, _, _, _, _, _, _, rfl, ins_self _ _ _, by walk_at "m-ein0", by walk_at "m-ein0"⟩ (by walk_at "m-good") (by assumption) (by walk_at "m-ints") (by walk_at "m-lenE")
    · rename_i a s₁ ha S₁
      exact expr_leaf hd2 S₁ ha hQ (.bin _ _) ⟨_, _, _, _, _, _, rfl, ins_self _ _ _, by walk_at "m-ein0", by walk_at "m-ein0"⟩ (by walk_at "m-good") (by assumption) (by walk_at "m-ints") (by walk_at "m-lenE")

theorem expr_all {prog : Program} {w : World} {G : Heap} (W : Wd w G) : ∀ d, d ≤ 2 → ExprSpec prog w G d
  | 0, h => expr_step W 0 h fun d' e => by omega
  | d + 1, h => expr_step W (d + 1) h fun d' e => by
    cases e
    exact expr_all W d (by omega)

end
section
theorem St.drop0 {c : Cx} {B : Base} {L a : Addr} {m : Str → Option Value} {σ : List (Addr × Obj)} {s s' : Shared} {o : Obj} (S : St c B L m ((a, o) :: σ) s) (h : Heap.ExtBut a s.heap s'.heap) (hl : Like s s') : St c B L m σ s' := by
  obtain ⟨h1, h2, h3, h4⟩ := S.own _ (.head _)
  have hnd := S.nd
  rw [List.map_cons, List.nodup_cons] at hnd
  refine ⟨S.ns.extBut h (Ne.symm h2), S.g, S.above, ⟨S.po.sub, S.po.new, fun b o e => h b o (fun q => by rw [q, h3] at e; cases e) (S.po.keep b o e), fun b o hb e => h b o ?_ (S.po.ext b o hb e), S.po.lk.trans hl⟩, S.fr, fun p hp => ?_, hnd.2⟩
  · rintro rfl
    rcases h4 with h4 | h4
    · exact hb h4
    · exact absurd (Heap.lt_size e) (Nat.not_lt.mpr h4)
  · obtain ⟨a1, a2, a3, a4⟩ := S.own p (.tail _ hp)
    exact ⟨h _ _ (fun q => hnd.1 (List.mem_map.mpr ⟨p, hp, q⟩)) a1, a2, a3, a4⟩

/-- an iterator that stands at the head of what is its own -/
structure Iter (prog : Program) (w : World) (it : Addr) (n : Nat) (ok : Nat → Obj → Prop) (side : Base → Prop) (V : Nat → Value → Prop) : Prop where
  mono : ∀ {B B' : Base}, Sub B B' → side B → side B'
  next : ∀ {A : Around} {c : Cx} {B : Base} {L : Addr} {m : Str → Option Value} {σ : List (Addr × Obj)} {s : Shared} {i : Nat} {o : Obj} {Q : Option Value → Shared → Prop} {E : Value → Shared → Prop},
    i < n → ok i o → side B → St c B L m ((it, o) :: σ) s → (∀ s' v o', V i v → ok (i + 1) o' → St c B L m ((it, o') :: σ) s' → Q (some v) s') → wpAny (model prog w) A (pyNext (.ref it)) Q E s
  fin : ∀ {A : Around} {c : Cx} {B : Base} {L : Addr} {m : Str → Option Value} {σ : List (Addr × Obj)} {s : Shared} {o : Obj} {Q : Option Value → Shared → Prop} {E : Value → Shared → Prop},
    A.handled = none → ok n o → side B → St c B L m ((it, o) :: σ) s → (∀ s', St c B L m σ s' → Q none s') → wpAny (model prog w) A (pyNext (.ref it)) Q E s

theorem iterList (prog : Program) (w : World) (it l : Addr) (vs : List Value) (k : Nat) :
    Iter prog w it vs.length (fun i o => o.cls = .type "list_iterator" ∧ o.data = .fields #[.ref l, .int i 0]) (fun B => B l = some (lstO vs k)) (fun i v => vs[i]? = some v) where
  mono hs h := hs _ _ h
  next := fun {A c B L m σ s i o Q E} hi ho hs S h => by
    refine wpAny_pyNext_list_item (l := l) (i := i) (items := vs.toArray) (x := vs[i]) ⟨o, (S.own _ (.head _)).1, ho.1, ho.2⟩ ⟨_, S.po.keep _ _ hs, rfl, k, rfl⟩ (by simp [hi]) (fun h' hit hsb => ?_)
    obtain ⟨o', ho', hc', hd'⟩ := hit
    exact h _ _ o' (by simp [hi]) ⟨hc', hd'⟩ (S.setD (i := 0) rfl hsb ho' (Like.mk _ _ _))
  fin := fun {A c B L m σ s o Q E} hh ho hs S h =>
    wpAny_pyNext_list_end (l := l) (i := vs.length) (items := vs.toArray) hh ⟨o, (S.own _ (.head _)).1, ho.1, ho.2⟩ ⟨_, S.po.keep _ _ hs, rfl, k, rfl⟩ (by simp) (fun h' he => h _ (S.drop0 he (Like.mk _ _ _)))
theorem iterTup (prog : Program) (w : World) (it l : Addr) (vs : List Value) :
    Iter prog w it vs.length (fun i o => o.cls = .type "tuple_iterator" ∧ o.data = .fields #[.ref l, .int i 0]) (fun B => B l = some (tupO vs)) (fun i v => vs[i]? = some v) where
  mono hs h := hs _ _ h
  next := fun {A c B L m σ s i o Q E} hi ho hs S h => by
    refine wpAny_pyNext_tuple_item (t := l) (i := i) (items := vs.toArray) (x := vs[i]) ⟨o, (S.own _ (.head _)).1, ho.1, ho.2⟩ ⟨_, S.po.keep _ _ hs, rfl, 0, rfl⟩ (by simp [hi]) (fun h' hit hsb => ?_)
    obtain ⟨o', ho', hc', hd'⟩ := hit
    exact h _ _ o' (by simp [hi]) ⟨hc', hd'⟩ (S.setD (i := 0) rfl hsb ho' (Like.mk _ _ _))
  fin := fun {A c B L m σ s o Q E} hh ho hs S h =>
    wpAny_pyNext_tuple_end (t := l) (i := vs.length) (items := vs.toArray) hh ⟨o, (S.own _ (.head _)).1, ho.1, ho.2⟩ ⟨_, S.po.keep _ _ hs, rfl, 0, rfl⟩ (by simp) (fun h' he => h _ (S.drop0 he (Like.mk _ _ _)))
theorem iterRange (prog : Program) (w : World) (it : Addr) (n : Nat) :
    Iter prog w it n (fun i o => o = { cls := .type "range_iterator", dict := none, data := .fields #[rawInt i, rawInt ((n : Int) - i), rawInt 1], slots := #[] }) (fun _ => True) (fun i v => ∃ t, v = .int i t) where
  mono _ h := h
  next := fun {A c B L m σ s i o Q E} hi ho hs S h => by
    subst ho
    refine wpAny_pyNext_range_item (x := i) (left := (n : Int) - i) (step := 1) (S.own _ (.head _)).1 (by omega) (fun h' hit hsb => ?_)
    refine h _ _ _ ⟨_, rfl⟩ rfl ((S.setD (i := 0) rfl (s' := { s with heap := h', toks := s.toks + 1 }) hsb ?_ (Like.mk _ _ _)))
    have e1 : ((i : Int) + 1) = ((i + 1 : Nat) : Int) := by push_cast; rfl
    have e2 : ((n : Int) - i - 1) = (n : Int) - ((i + 1 : Nat) : Int) := by push_cast; omega
    rw [e1, e2] at hit
    exact hit
  fin := fun {A c B L m σ s o Q E} hh ho hs S h => by
    subst ho
    exact wpAny_pyNext_range_end (x := n) (left := (n : Int) - n) (step := 1) hh (S.own _ (.head _)).1 (by omega) (fun h' he => h _ (S.drop0 he (Like.mk _ _ _)))
theorem iterRev (prog : Program) (w : World) (it l : Addr) (vs : List Value) (k : Nat) :
    Iter prog w it vs.length (fun i o => o.cls = .type "list_reverseiterator" ∧ o.data = .fields #[.ref l, rawInt ((vs.length : Int) - 1 - i)]) (fun B => B l = some (lstO vs k)) (fun i v => vs.reverse[i]? = some v) where
  mono hs h := hs _ _ h
  next := fun {A c B L m σ s i o Q E} hi ho hs S h => by
    have e : ((vs.length : Int) - 1 - i) = ((vs.length - 1 - i : Nat) : Int) := by omega
    rw [e] at ho
    refine wpAny_pyNext_rev_item (l := l) (i := vs.length - 1 - i) (items := vs.toArray) (x := vs[vs.length - 1 - i]) ⟨o, (S.own _ (.head _)).1, ho.1, ho.2⟩ ⟨_, S.po.keep _ _ hs, rfl, k, rfl⟩ (by rw [List.getElem?_toArray]; exact List.getElem?_eq_getElem (by omega)) (fun h' hit hsb => ?_)
    obtain ⟨o', ho', hc', hd'⟩ := hit
    refine h _ _ o' (by rw [List.getElem?_reverse hi]; exact List.getElem?_eq_getElem (by omega)) ⟨hc', ?_⟩ (S.setD (i := 0) rfl hsb ho' (Like.mk _ _ _))
    rw [hd']
    have e2 : ((vs.length - 1 - i : Nat) : Int) - 1 = (vs.length : Int) - 1 - ((i + 1 : Nat) : Int) := by omega
    rw [e2]
  fin := fun {A c B L m σ s o Q E} hh ho hs S h => by
    have e : ((vs.length : Int) - 1 - (vs.length : Nat)) = -1 := by omega
    rw [e] at ho
    exact wpAny_pyNext_rev_end (l := l) hh ⟨o, (S.own _ (.head _)).1, ho.1, ho.2⟩ (fun h' he => h _ (S.drop0 he (Like.mk _ _ _)))

section
variable {prog : Program} {w : World} {A : Around} {E : Value → Shared → Prop} {s : Shared} {c : Cx} {B : Base} {L f : Addr} {m : Str → Option Value} {σ : List (Addr × Obj)}
  {cn : Str} {cs : Scope} {ccd : Value} {cl : List (Str × Addr)}

theorem S_loop {it : Addr} {n : Nat} {ok : Nat → Obj → Prop} {side : Base → Prop} {V : Nat → Value → Prop} {x : Str} {px : Pos} {body : List Stmt} {o : Obj} {R : Result → Shared → Prop}
    (I : Iter prog w it n ok side V) (hh : A.handled = none) (S : St c B L m ((it, o) :: σ) s) (ho : ok 0 o) (hs : side B)
    (Inv : Nat → Base → (Str → Option Value) → List (Addr × Obj) → Prop) (h0 : Inv 0 B m σ)
    (step : ∀ i B m σ s v o, i < n → V i v → side B → Inv i B m σ → St c B L (upd m x v) ((it, o) :: σ) s →
      wpAny (model prog w) A (execs body (envX cn cs L f ccd cl)) (fun fl s' => fl = .next ∧ ∃ B' m' σ', Sub B B' ∧ Inv (i + 1) B' m' σ' ∧ St c B' L m' ((it, o) :: σ') s') (fun _ _ => False) s)
    (fin : ∀ B m σ s, side B → Inv n B m σ → St c B L m σ s → R (.ok .next) s)
    (hk : cs.kind = .function := by rfl) (hx : (envX cn cs L f ccd cl).kindOf x = some .local := by rfl) :
    codeAny (model prog w) A (.forLoop (.Name x px) (.ref it) body [] (envX cn cs L f ccd cl)) R s := by
  refine codeAny_forLoop (fun k s => ∃ i B m σ o, k = n - i ∧ i ≤ n ∧ ok i o ∧ side B ∧ Inv i B m σ ∧ St c B L m ((it, o) :: σ) s) ?_ n ⟨0, B, m, σ, o, rfl, Nat.zero_le _, ho, hs, h0, S⟩
  rintro k s ⟨i, B, m, σ, o, rfl, hi, ho, hs, hInv, S⟩
  rcases Nat.lt_or_ge i n with hlt | hge
  · refine I.next hlt ho hs S fun s₁ v o₁ hv ho₁ S₁ => ?_
    refine wpAny_assign_Name (S_store S₁ (fun s₂ S₂ => ?_) rfl hk hx)
    refine wpAny_mono (step i B m σ s₂ v o₁ hlt hv hs hInv S₂) (fun fl s₃ h₃ => ?_) fun _ _ z => z.elim
    obtain ⟨rfl, B', m', σ', hsub, hInv', S'⟩ := h₃
    exact ⟨n - (i + 1), by omega, i + 1, B', m', σ', o₁, rfl, hlt, ho₁, I.mono hsub hs, hInv', S'⟩
  · have : i = n := Nat.le_antisymm hi hge
    subst this
    exact I.fin hh ho hs S fun s₁ S₁ => wpAny_execs_nil (fin B m σ s₁ hs hInv S₁)

theorem S_forList {l : Addr} {vs : List Value} {k : Nat} {x : Str} {px : Pos} {body : List Stmt} {Q : Flow → Shared → Prop} {Er : Value → Shared → Prop}
    (S : St c B L m σ s) (hh : A.handled = none) (hl : B l = some (lstO vs k))
    (Inv : Nat → Base → (Str → Option Value) → List (Addr × Obj) → Prop) (h0 : Inv 0 B m σ)
    (step : ∀ it i B m σ s v o, i < vs.length → vs[i]? = some v → B l = some (lstO vs k) → Inv i B m σ → St c B L (upd m x v) ((it, o) :: σ) s →
      wpAny (model prog w) A (execs body (envX cn cs L f ccd cl)) (fun fl s' => fl = .next ∧ ∃ B' m' σ', Sub B B' ∧ Inv (i + 1) B' m' σ' ∧ St c B' L m' ((it, o) :: σ') s') (fun _ _ => False) s)
    (fin : ∀ B m σ s, B l = some (lstO vs k) → Inv vs.length B m σ → St c B L m σ s → Q .next s)
    (hk : cs.kind = .function := by rfl) (hx : (envX cn cs L f ccd cl).kindOf x = some .local := by rfl) :
    wpAny (model prog w) A (pyIter (.ref l)) (fun it s₂ => codeAny (model prog w) A (.forLoop (.Name x px) it body [] (envX cn cs L f ccd cl)) (fun r s' => match r with | .ok f => Q f s' | .error e => Er e s') s₂) E s :=
  wpAny_pyIter_list ⟨_, S.po.keep _ _ hl, rfl, k, rfl⟩ (S_loop (iterList prog w _ l vs k) hh (S.push _ (Heap.get?_push_size _ rfl)) ⟨rfl, rfl⟩ hl Inv h0 (step _) fin hk hx)
theorem S_forTup {l : Addr} {vs : List Value} {x : Str} {px : Pos} {body : List Stmt} {Q : Flow → Shared → Prop} {Er : Value → Shared → Prop}
    (S : St c B L m σ s) (hh : A.handled = none) (hl : B l = some (tupO vs))
    (Inv : Nat → Base → (Str → Option Value) → List (Addr × Obj) → Prop) (h0 : Inv 0 B m σ)
    (step : ∀ it i B m σ s v o, i < vs.length → vs[i]? = some v → B l = some (tupO vs) → Inv i B m σ → St c B L (upd m x v) ((it, o) :: σ) s →
      wpAny (model prog w) A (execs body (envX cn cs L f ccd cl)) (fun fl s' => fl = .next ∧ ∃ B' m' σ', Sub B B' ∧ Inv (i + 1) B' m' σ' ∧ St c B' L m' ((it, o) :: σ') s') (fun _ _ => False) s)
    (fin : ∀ B m σ s, B l = some (tupO vs) → Inv vs.length B m σ → St c B L m σ s → Q .next s)
    (hk : cs.kind = .function := by rfl) (hx : (envX cn cs L f ccd cl).kindOf x = some .local := by rfl) :
    wpAny (model prog w) A (pyIter (.ref l)) (fun it s₂ => codeAny (model prog w) A (.forLoop (.Name x px) it body [] (envX cn cs L f ccd cl)) (fun r s' => match r with | .ok f => Q f s' | .error e => Er e s') s₂) E s :=
  wpAny_pyIter_tuple ⟨_, S.po.keep _ _ hl, rfl, 0, rfl⟩ (S_loop (iterTup prog w _ l vs) hh (S.push _ (Heap.get?_push_size _ rfl)) ⟨rfl, rfl⟩ hl Inv h0 (step _) fin hk hx)
theorem S_range {n : Int} {t : Tok} {Q : Value → Shared → Prop} (S : St c B L m σ s)
    (h : ∀ a s' t1 t2, L < a → St c B L m ((a, { cls := .type "range", dict := none, data := .fields #[.int 0 t1, .int n t, .int 1 t2], slots := #[] }) :: σ) s' → Q (.ref a) s') :
    wpAny (model prog w) A (call (.type "range") [.int n t]) Q E s :=
  call_range_1 (h _ _ _ _ S.ltL ((S.push _ (Heap.get?_push_size _ rfl)).toks _))
theorem S_forRange {r : Addr} {n : Nat} {t t1 t2 : Tok} {x : Str} {px : Pos} {body : List Stmt} {Q : Flow → Shared → Prop} {Er : Value → Shared → Prop}
    (S : St c B L m ((r, { cls := .type "range", dict := none, data := .fields #[.int 0 t1, .int n t, .int 1 t2], slots := #[] }) :: σ) s) (hh : A.handled = none) (hn : n ≤ 1000)
    (Inv : Nat → Base → (Str → Option Value) → List (Addr × Obj) → Prop) (h0 : Inv 0 B m σ)
    (step : ∀ it i B m σ s t o, i < n → Inv i B m σ → St c B L (upd m x (.int i t)) ((it, o) :: σ) s →
      wpAny (model prog w) A (execs body (envX cn cs L f ccd cl)) (fun fl s' => fl = .next ∧ ∃ B' m' σ', Sub B B' ∧ Inv (i + 1) B' m' σ' ∧ St c B' L m' ((it, o) :: σ') s') (fun _ _ => False) s)
    (fin : ∀ B m σ s, Inv n B m σ → St c B L m σ s → Q .next s)
    (hk : cs.kind = .function := by rfl) (hx : (envX cn cs L f ccd cl).kindOf x = some .local := by rfl) :
    wpAny (model prog w) A (pyIter (.ref r)) (fun it s₂ => codeAny (model prog w) A (.forLoop (.Name x px) it body [] (envX cn cs L f ccd cl)) (fun r s' => match r with | .ok f => Q f s' | .error e => Er e s') s₂) E s := by
  have hz : Builtin.Range.rangeSize 0 n 1 = n := by
    unfold Builtin.Range.rangeSize
    split <;> omega
  have hsmall : Builtin.Range.small 0 n 1 = true := by
    unfold Builtin.Range.small
    rw [hz]
    unfold Builtin.Range.rangeFitsLong
    simp
    omega
  refine wpAny_pyIter_range (S.own _ (.head _)).1 hsmall ?_
  rw [hz]
  have S' := S.push { cls := .type "range_iterator", data := .fields #[rawInt 0, rawInt n, rawInt 1] } (Heap.get?_push_size _ rfl)
  have S'' : St c B L m ((s.heap.objs.size, { cls := .type "range_iterator", data := .fields #[rawInt 0, rawInt n, rawInt 1] }) :: σ) { s with heap := s.heap.push { cls := .type "range_iterator", data := .fields #[rawInt 0, rawInt n, rawInt 1] } } := by
    refine ⟨S'.ns, S'.g, S'.above, S'.po, S'.fr, fun p hp => S'.own p ?_, ?_⟩
    · rcases List.mem_cons.mp hp with rfl | hp
      · exact .head _
      · exact .tail _ (.tail _ hp)
    · have := S'.nd
      rw [List.map_cons, List.map_cons, List.nodup_cons, List.nodup_cons] at this
      rw [List.map_cons, List.nodup_cons]
      exact ⟨fun q => this.1 (.tail _ q), this.2.2⟩
  exact S_loop (iterRange prog w _ n) hh S'' (by simp) trivial Inv h0 (fun i B m σ s v o hi hv _ hI S => by obtain ⟨t, rfl⟩ := hv; exact step _ i B m σ s t o hi hI S) (fun B m σ s _ hI S => fin B m σ s hI S) hk hx
theorem S_tupleOf {l : Addr} {vs : List Value} {k i : Nat} {Q : Value → Shared → Prop} (S : St c B L m σ s) (hl : σ[i]? = some (l, lstO vs k)) (hsz : vs.length ≤ 16777216)
    (h : ∀ a s', L < a → St c B L m ((a, tupO vs) :: σ) s' → Q (.ref a) s') : wpAny (model prog w) A (call (.type "tuple") [.ref l]) Q E s := by
  refine call_tuple_list ⟨_, (S.own _ (List.mem_of_getElem? hl)).1, rfl, k, rfl⟩ (fun h' hk => ?_) (by rw [List.size_toArray]; exact szle hsz)
  have S₁ : St c B L m σ { s with heap := h' } := by
    obtain ⟨oL, es, ep, ho, r⟩ := S.ns
    exact ⟨⟨oL, es, ep, hk _ _ ho, r⟩, S.g, S.above, ⟨S.po.sub, S.po.new, fun b o e => hk _ _ (S.po.keep b o e), fun b o hb e => hk _ _ (S.po.ext b o hb e), S.po.lk.trans (Like.mk _ _ _)⟩, S.fr, fun p hp => ⟨hk _ _ (S.own p hp).1, (S.own p hp).2⟩, S.nd⟩
  exact h _ _ S₁.ltL (S₁.push _ (Heap.get?_push_size _ rfl))
end

end
section
-- --nodrv
/-! reversed(t) of a tuple: the library has the list's alone -/
theorem owner_rev : Manifest.owners.lookup (String.ofList ['d', 'e', 's', 'r', 'e', 'v', 'e', 'r'].reverse) = some Manifest.sig_reversed := by kernel_rfl
theorem slot_rev_next : Slot "reversed" "__next__" "reversed.__next__" :=
  .of (owner := "reversed") (n := "__next__") (by rw [typeLookup_type, builtinLookup_eq_fast]; kernel_rfl) (by decide +kernel) (by decide +kernel) (by decide +kernel)
    (by first | exact .inl (by decide +kernel) | exact .inr (by decide +kernel)) (by rw [isSubtype_type]; kernel_rfl)
theorem entry_rev_next : entryFor table "reversed.__next__" = some Builtin.«reversed.__next__» := entryFor_of_tree (by kernel_rfl)
theorem args_rev_next (a : Value) : argsOk "reversed.__next__" ⟨[a], []⟩ := by
  unfold argsOk; rw [signature?_of (id := "reversed.__next__") (n := ['_', '_', 't', 'x', 'e', 'n', '_', '_']) (o := ['d', 'e', 's', 'r', 'e', 'v', 'e', 'r']) (by kernel_rfl) owner_rev]; kernel_rfl
theorem slot_rev_iter : Slot "reversed" "__iter__" "reversed.__iter__" :=
  .of (owner := "reversed") (n := "__iter__") (by rw [typeLookup_type, builtinLookup_eq_fast]; kernel_rfl) (by decide +kernel) (by decide +kernel) (by decide +kernel)
    (by first | exact .inl (by decide +kernel) | exact .inr (by decide +kernel)) (by rw [isSubtype_type]; kernel_rfl)
theorem args_rev_iter (a : Value) : argsOk "reversed.__iter__" ⟨[a], []⟩ := by
  unfold argsOk; rw [signature?_of (id := "reversed.__iter__") (n := ['_', '_', 'r', 'e', 't', 'i', '_', '_']) (o := ['d', 'e', 's', 'r', 'e', 'v', 'e', 'r']) (by kernel_rfl) owner_rev]; kernel_rfl
theorem entry_rev_iter : entryFor table "reversed.__iter__" = some Builtin.«dict_keyiterator.__iter__» :=
  entryFor_alias (id' := "dict_keyiterator.__iter__") (by kernel_rfl) (by first | rfl | decide +kernel | (unfold String.splitOn; simp +decide [String.splitOnAux])) (by decide +kernel) (by kernel_rfl)
theorem slot_rev_init : Slot "reversed" "__init__" "object.__init__" :=
  .of (owner := "object") (n := "__init__") (by rw [typeLookup_type, builtinLookup_eq_fast]; kernel_rfl) (by decide +kernel) (by decide +kernel) (by decide +kernel)
    (by first | exact .inl (by decide +kernel) | exact .inr (by decide +kernel)) (by rw [isSubtype_type]; kernel_rfl)
theorem called_rev : TypeCalled "reversed" "reversed.__new__" "object.__init__" :=
  ⟨by decide +kernel, PySem.F.create_reversed, ⟨_, _, PySem.F.mro_reversed⟩, PySem.F.made_reversed, PySem.F.plain_reversed_new, PySem.F.sub_reversed_self, slot_rev_init⟩
theorem tup_no_reversed : typeLookup (.type "tuple") "__reversed__" = pure none := by rw [typeLookup_type, builtinLookup_eq_fast]; kernel_rfl
theorem sub_tuple_dict : isSubtype (.type "tuple") (.type "dict") = pure false := by rw [isSubtype_type]; kernel_rfl

section
variable {prog : Program} {w : World} {A : Around} {E : Value → Shared → Prop} {s : Shared}
abbrev revTupObj (t : Addr) (i : Int) : Obj := { cls := .type "reversed", data := .fields #[.ref t, rawInt i] }
theorem meets_rev_new (t : Addr) (vs : List Value) (hv : vs.length < 1000) :
    Meets (Builtin.«reversed.__new__» ⟨[.type "reversed", .ref t], []⟩)
      (fun _ R s => s.heap.get? t = some (tupO vs) ∧ R (.ok (.ret (.ref s.heap.objs.size))) { s with heap := s.heap.push (revTupObj t ((vs.length : Int) - 1)), toks := s.toks + 1 + 1 }) :=
  .of_wp fun prog w A R s ⟨ht, h⟩ => by
    have hT : s.TypeIs (.ref t) "tuple" := ⟨_, ht, rfl⟩
    unfold Builtin.«reversed.__new__»
    refine wpAny_bind (wpAny_of_eq (newClass_reversed _) ?_)
    try dsimp only
    refine wpAny_bind (wpAny_of_eq (a := ()) (by first | rfl | kernel_rfl) ?_)
    refine wpAny_bind (wpAny_of_eq (a := ()) (by first | rfl | kernel_rfl) ?_)
    try dsimp only
    refine wpAny_bind (wpAny_specialOf hT tup_no_reversed ?_)
    try dsimp only
    refine wpAny_bind ?_
    refine wpAny_bind (m := isInstance (.ref t) (.type "dict")) (wpAny_isInstance (b := false) hT sub_tuple_dict ?_)
    rw [if_neg (by decide)]
    refine wpAny_bind (m := specialOf (.ref t) (Str.ofString "__getitem__")) (wpAny_specialOf hT slot_tuple_getitem.lookup ?_)
    dsimp only
    rw [if_pos (by decide +kernel)]
    refine wpAny_pure ?_
    rw [if_neg (by decide)]
    refine wpAny_bind (PyProof.Rows.len_tuple ⟨_, ht, rfl, 0, rfl⟩ (by simp; omega) ?_)
    refine wpAny_bind (m := asInt? _) (wpAny_pure ?_)
    dsimp only
    refine wpAny_bind (m := Builtin.SmallTypes.newRecord _ _) ?_
    show wpAny _ _ (newObj (.type "reversed") (.fields #[.ref t, rawInt ((vs.toArray.size : Int) - 1)])) _ _ _
    refine wpAny_newObj_type ?_ (by size_fits)
    refine wpAny_pure ⟨_, rfl, ?_⟩
    simpa using h

theorem call_rev_tuple {t : Addr} {vs : List Value} {Q : Value → Shared → Prop} (ht : s.heap.get? t = some (tupO vs)) (hv : vs.length < 1000)
    (h : Q (.ref s.heap.objs.size) { s with heap := s.heap.push (revTupObj t ((vs.length : Int) - 1)), toks := s.toks + 1 + 1 }) : wpAny (model prog w) A (call (.type "reversed") [.ref t]) Q E s :=
  callType_new called_rev (by decide) (PySem.F.typeCall_reversed_1 _) (PySem.F.newCall_reversed_1 _) (fun obj => PySem.F.args_object_init_2 obj _) PySem.F.entry_reversed_new
    (meets_rev_new t vs hv) ⟨ht, ⟨_, Heap.get?_push_size _ rfl, rfl⟩, h⟩

theorem pyIter_revTup {it t : Addr} {i : Int} {Q : Value → Shared → Prop} (hit : s.heap.get? it = some (revTupObj t i)) (h : Q (.ref it) s) : wpAny (model prog w) A (pyIter (.ref it)) Q E s := by
  have hT : s.TypeIs (.ref it) "reversed" := ⟨_, hit, rfl⟩
  refine wpAny_pyIter_slot hT slot_rev_iter (wpAny_call_entry slot_rev_iter hT entry_rev_iter ?_ (args_rev_iter _))
  show wpAny _ _ (ret (.ref it)) _ _ s
  exact wpAny_pure ⟨_, rfl, "reversed", _, hT, slot_rev_next.lookup, h⟩

theorem pyNext_revTup_item {it t : Addr} {i : Nat} {vs : List Value} {x : Value} {Q : Option Value → Shared → Prop} (hit : s.heap.get? it = some (revTupObj t (i : Int))) (ht : s.heap.get? t = some (tupO vs)) (hi : i < 1000) (hx : vs[i]? = some x)
    (hQ : ∀ h' tk, h'.get? it = some (revTupObj t ((i : Int) - 1)) → Heap.SameBut it s.heap h' → Q (some x) { s with heap := h', toks := tk }) : wpAny (model prog w) A (pyNext (.ref it)) Q E s := by
  have hT : s.TypeIs (.ref it) "reversed" := ⟨_, hit, rfl⟩
  have hTt : s.TypeIs (.ref t) "tuple" := ⟨_, ht, rfl⟩
  unfold pyNext
  refine wpAny_bind (wpAny_attempt (wpAny_callSpecial?_slot (name := Str.ofString "__next__") hT slot_rev_next (wpAny_call_entry slot_rev_next hT entry_rev_next ?_ (args_rev_next _))))
  unfold Builtin.«reversed.__next__»
  refine wpAny_bind (wpAny_of_eq (a := (Value.ref it, [])) rfl ?_)
  try dsimp only
  refine wpAny_bind (wpAny_field hit rfl (x := .ref t) rfl ?_)
  refine wpAny_bind (wpAny_field hit rfl (x := rawInt (i : Int)) rfl ?_)
  show wpAny _ _ (if (i : Int) < 0 then _ else _) _ _ s
  rw [if_neg (by omega)]
  refine wpAny_bind (wpAny_specialOf hTt slot_tuple_getitem.lookup ?_)
  rw [if_neg (by decide)]
  refine wpAny_bind (wpAny_mkInt ?_)
  refine wpAny_bind (wpAny_attempt (getItem_tuple (j := i) (x := x) (s := { s with toks := s.toks + 1 }) ⟨_, ht, rfl, 0, rfl⟩ (by omega) (by omega) ?_ ?_ ?_))
  · have hl := (List.getElem?_eq_some_iff.mp hx).1
    unfold seqIndex?
    rw [if_neg (show ¬ (i : Int) < 0 by omega)]
    dsimp only
    rw [if_pos (by simp; omega)]
    simp
  · simpa using hx
  · dsimp only
    refine wpAny_bind (wpAny_field (o := revTupObj t (i : Int)) hit rfl (x := rawInt (i : Int)) rfl ?_)
    show wpAny _ _ (setField (.ref it) 1 (rawInt ((i : Int) - 1)) >>= fun _ => ret x) _ _ _
    refine wpAny_bind (wpAny_setField (o := revTupObj t (i : Int)) hit rfl (by simp) ?_)
    refine wpAny_pure ⟨x, rfl, wpAny_pure (hQ _ _ ?_ (Heap.SameBut.update ..))⟩
    have := Heap.get?_update_self (h := s.heap) (a := it) (Obj.mapFields fun vs => vs.setIfInBounds 1 (rawInt ((i : Int) - 1))) hit rfl
    exact this
theorem pyNext_revTup_end {it t : Addr} {Q : Option Value → Shared → Prop} (hh : A.handled = none) (hit : s.heap.get? it = some (revTupObj t (-1)))
    (hQ : ∀ h', Heap.ExtBut it s.heap h' → Q none { s with heap := h' }) : wpAny (model prog w) A (pyNext (.ref it)) Q E s := by
  have hT : s.TypeIs (.ref it) "reversed" := ⟨_, hit, rfl⟩
  unfold pyNext
  refine wpAny_bind (wpAny_attempt (wpAny_callSpecial?_slot (name := Str.ofString "__next__") hT slot_rev_next (wpAny_call_entry slot_rev_next hT entry_rev_next ?_ (args_rev_next _))))
  unfold Builtin.«reversed.__next__»
  refine wpAny_bind (wpAny_of_eq (a := (Value.ref it, [])) rfl ?_)
  try dsimp only
  refine wpAny_bind (wpAny_field hit rfl (x := .ref t) rfl ?_)
  refine wpAny_bind (wpAny_field hit rfl (x := rawInt (-1)) rfl ?_)
  show wpAny _ _ (if (-1 : Int) < 0 then _ else _) _ _ s
  rw [if_pos (by decide)]
  refine wpAny_bind (wpAny_rule ?_)
  refine wpAny_bind ?_
  refine wpAny_bind (m := setField (.ref it) 1 (rawInt (-1))) (wpAny_setField (o := revTupObj t (-1)) hit rfl (by simp) ?_)
  have h1 := Heap.get?_update_self (h := s.heap) (a := it) (Obj.mapFields fun vs => vs.setIfInBounds 1 (rawInt (-1))) hit rfl
  refine wpAny_setField (s := { s with heap := s.heap.update it (Obj.mapFields fun vs => vs.setIfInBounds 1 (rawInt (-1))) }) (o := revTupObj t (-1)) h1 rfl (by simp) ?_
  first
  | show wpAny _ _ (newExc (.type "StopIteration") [] >>= _) _ _ _
  | (refine wpAny_bind ?_; show wpAny _ _ (newExc (.type "StopIteration") [] >>= _) _ _ _)
  refine wpAny_bind ?_
  simp only [newExc, newTuple]
  refine wpAny_bind (wpAny_newObj_type ?_ (by size_fits))
  refine wpAny_bind (m := firstArgMember _ _) (wpAny_of_eq (a := Value.none) (by first | rfl | (simp only [firstArgMember]; rfl)) ?_)
  refine wpAny_newObj_type ?_ (by size_fits)
  simp only [raiseNew]
  refine wpAny_bind (wpAny_handled ?_)
  first | rw [show A.in1.handled = none from hh] | rw [hh]
  refine wpAny_bind (wpAny_pure (wpAny_throw ?_))
  refine wpAny_bind (wpAny_isInstance (T := "StopIteration") (b := true) ⟨_, Heap.get?_push_size _ rfl, rfl⟩ isSubtype_stop ?_)
  exact wpAny_pure (hQ _ (((((Heap.SameBut.update ..).trans (Heap.SameBut.update ..)).extBut).push _).push _))
end

end
section
theorem IntsO.nil (n : Nat) : IntsO (lstO [] n) [] := ⟨[], n, rfl, .nil⟩
theorem IntsO.cast {o : Obj} {l l' : List Int} (h : IntsO o l) (e : l = l') : IntsO o l' := e ▸ h
theorem Sub.ein {B B' : Base} (hs : Sub B B') {e : PE} {v : Value} (h : EIn B e v) : EIn B' e v := h.mono hs
/-- three lists are turned by a call that was handed them -/
theorem St.back3 {c : Cx} {B B' : Base} {L D D' D'' : Addr} {m : Str → Option Value} {σ : List (Addr × Obj)} {i j k : Nat} {o o' p p' q q' : Obj} {s s' : Shared} (S : St c B L m σ s) (P : Post ⟨c.G, s, B, [D, D', D'']⟩ B' s')
    (hi : σ[i]? = some (D, o)) (hj : σ[j]? = some (D', p)) (hk : σ[k]? = some (D'', q)) (hij : i ≠ j) (hik : i ≠ k) (hjk : j ≠ k) (ho : s'.heap.get? D = some o') (hp : s'.heap.get? D' = some p') (hq : s'.heap.get? D'' = some q') :
    St c B' L m (((σ.set i (D, o')).set j (D', p')).set k (D'', q')) s' := by
  have hD : D ∈ σ.map (·.1) := List.mem_map.mpr ⟨_, List.mem_of_getElem? hi, rfl⟩
  have hD' : D' ∈ σ.map (·.1) := List.mem_map.mpr ⟨_, List.mem_of_getElem? hj, rfl⟩
  have hD'' : D'' ∈ σ.map (·.1) := List.mem_map.mpr ⟨_, List.mem_of_getElem? hk, rfl⟩
  have hil := (List.getElem?_eq_some_iff.mp hi).1
  have hjl := (List.getElem?_eq_some_iff.mp hj).1
  have hkl := (List.getElem?_eq_some_iff.mp hk).1
  have hj1 : (σ.set i (D, o'))[j]? = some (D', p) := by rw [List.getElem?_set, if_neg hij]; exact hj
  have hk1 : ((σ.set i (D, o')).set j (D', p'))[k]? = some (D'', q) := by rw [List.getElem?_set, if_neg hjk, List.getElem?_set, if_neg hik]; exact hk
  have keys : (((σ.set i (D, o')).set j (D', p')).set k (D'', q')).map (·.1) = σ.map (·.1) := (set_keys hk1).trans ((set_keys hj1).trans (set_keys hi))
  have hii : (σ.map (·.1))[i]? = some D := by rw [List.getElem?_map, hi]; rfl
  have hjj : (σ.map (·.1))[j]? = some D' := by rw [List.getElem?_map, hj]; rfl
  have hkk : (σ.map (·.1))[k]? = some D'' := by rw [List.getElem?_map, hk]; rfl
  have at_ : ∀ r ∈ ((σ.set i (D, o')).set j (D', p')).set k (D'', q'), r = (D, o') ∨ r = (D', p') ∨ r = (D'', q') ∨ (r ∈ σ ∧ r.1 ≠ D ∧ r.1 ≠ D' ∧ r.1 ≠ D'') := by
    intro r hr
    obtain ⟨l, hl⟩ := List.mem_iff_getElem?.mp hr
    have hlk : (σ.map (·.1))[l]? = some r.1 := by rw [← keys, List.getElem?_map, hl]; rfl
    rw [List.getElem?_set] at hl
    by_cases e0 : k = l
    · rw [if_pos e0] at hl
      (try rw [if_pos (by simpa using hkl)] at hl)
      cases hl; exact .inr (.inr (.inl rfl))
    · rw [if_neg e0, List.getElem?_set] at hl
      by_cases e1 : j = l
      · rw [if_pos e1] at hl
        (try rw [if_pos (by simpa using hjl)] at hl)
        cases hl; exact .inr (.inl rfl)
      · rw [if_neg e1, List.getElem?_set] at hl
        by_cases e2 : i = l
        · rw [if_pos e2] at hl
          (try rw [if_pos hil] at hl)
          cases hl; exact .inl rfl
        · rw [if_neg e2] at hl
          refine .inr (.inr (.inr ⟨List.mem_of_getElem? hl, fun z => ?_, fun z => ?_, fun z => ?_⟩))
          · exact e2 ((List.getElem?_inj (by simpa using hil) S.nd).mp (hii.trans (z ▸ hlk.symm)))
          · exact e1 ((List.getElem?_inj (by simpa using hjl) S.nd).mp (hjj.trans (z ▸ hlk.symm)))
          · exact e0 ((List.getElem?_inj (by simpa using hkl) S.nd).mp (hkk.trans (z ▸ hlk.symm)))
  refine S.back P (fun a ha => ?_) keys (fun r hr hn => ?_) fun r hr hm => ?_
  · rcases List.mem_cons.mp ha with rfl | ha
    · exact hD
    · rcases List.mem_cons.mp ha with rfl | ha
      · exact hD'
      · rw [List.mem_singleton.mp ha]; exact hD''
  · rcases at_ r hr with rfl | rfl | rfl | z
    · exact absurd (.head _) hn
    · exact absurd (.tail _ (.head _)) hn
    · exact absurd (.tail _ (.tail _ (.head _))) hn
    · exact z.1
  · rcases at_ r hr with rfl | rfl | rfl | z
    · exact ho
    · exact hp
    · exact hq
    · rcases List.mem_cons.mp hm with e | e
      · exact absurd e z.2.1
      · rcases List.mem_cons.mp e with e | e
        · exact absurd e z.2.2.1
        · exact absurd (List.mem_singleton.mp e) z.2.2.2
/-- two of its own lists stand apart -/
theorem St.apart {c : Cx} {B : Base} {L D D' : Addr} {m : Str → Option Value} {σ : List (Addr × Obj)} {i j : Nat} {o p : Obj} {s : Shared} (S : St c B L m σ s) (hi : σ[i]? = some (D, o)) (hj : σ[j]? = some (D', p)) (hij : i ≠ j) : D ≠ D' := by
  rintro rfl
  have hi' : (σ.map (·.1))[i]? = some D := by rw [List.getElem?_map, hi]; rfl
  have hj' : (σ.map (·.1))[j]? = some D := by rw [List.getElem?_map, hj]; rfl
  exact hij ((List.getElem?_inj (by simpa using (List.getElem?_eq_some_iff.mp hi).1) S.nd).mp (hi'.trans hj'.symm))

/-- what a target is made of -/
structure PPart where
  key : Int
  word : Option PE
  spot : Option PE
def optKeys : Option PE → List Int
  | none => []
  | some e => keysE e
def WordIn (B : Base) : Option PE → Value → Prop
  | none, v => v = .none
  | some e, v => ∃ b u, v = .ref b ∧ B b = some (tupO [u, .bool false]) ∧ EIn B e u
def SpotIn (B : Base) : Option PE → Value → Prop
  | none, v => ∃ b t x, v = .ref b ∧ B b = some (tupO [.str (Str.ofString "at") t, x])
  | some e, v => ∃ b t u x y, v = .ref b ∧ B b = some (tupO [.str (Str.ofString "pick") t, u, .bool false, x, y]) ∧ EIn B e u
def PartIn (B : Base) (p : PPart) (v : Value) : Prop :=
  ∃ a t1 t2 t3 x y, v = .ref a ∧ B a = some (tupO [.str (Str.ofString "sig") t1, .int 4 t2, .int p.key t3, x, y]) ∧ WordIn B p.word x ∧ SpotIn B p.spot y
def keysP (p : PPart) : List Int := optKeys p.word ++ optKeys p.spot
def keysT (ps : List PPart) : List Int := ps.flatMap keysP
def writesT (ps : List PPart) : List Int := ps.map (·.key)
inductive All2 {α β : Type} (R : α → β → Prop) : List α → List β → Prop
  | nil : All2 R [] []
  | cons {a b r q} : R a b → All2 R r q → All2 R (a :: r) (b :: q)
theorem All2.mono {α β : Type} {R R' : α → β → Prop} (h : ∀ a b, R a b → R' a b) {r : List α} {q : List β} (x : All2 R r q) : All2 R' r q := by
  induction x with
  | nil => exact .nil
  | cons y _ ih => exact .cons (h _ _ y) ih
theorem All2.snoc {α β : Type} {R : α → β → Prop} {r : List α} {q : List β} (x : All2 R r q) {a : α} {b : β} (y : R a b) : All2 R (r ++ [a]) (q ++ [b]) := by
  induction x with
  | nil => exact .cons y .nil
  | cons z _ ih => exact .cons z ih
theorem All2.length {α β : Type} {R : α → β → Prop} {r : List α} {q : List β} (x : All2 R r q) : r.length = q.length := by
  induction x with
  | nil => rfl
  | cons _ _ ih => simp [ih]
theorem All2.at {α β : Type} {R : α → β → Prop} {r : List α} {q : List β} (x : All2 R r q) {i : Nat} {b : β} (h : q[i]? = some b) : ∃ a, r[i]? = some a ∧ R a b := by
  induction x generalizing i with
  | nil => simp at h
  | cons y _ ih =>
    cases i with
    | zero => simp at h; subst h; exact ⟨_, rfl, y⟩
    | succ i => simp at h ⊢; exact ih h
theorem WordIn.mono {B B' : Base} (hs : Sub B B') {w : Option PE} {v : Value} (h : WordIn B w v) : WordIn B' w v := by
  cases w with
  | none => exact h
  | some e => exact Exists.imp (fun _ => Exists.imp fun _ => And.imp_right (And.imp (hs _ _) (EIn.mono hs))) h
theorem SpotIn.mono {B B' : Base} (hs : Sub B B') {w : Option PE} {v : Value} (h : SpotIn B w v) : SpotIn B' w v := by
  cases w with
  | none => exact Exists.imp (fun _ => Exists.imp fun _ => Exists.imp fun _ => And.imp_right (hs _ _)) h
  | some e => exact Exists.imp (fun _ => Exists.imp fun _ => Exists.imp fun _ => Exists.imp fun _ => Exists.imp fun _ => And.imp_right (And.imp (hs _ _) (EIn.mono hs))) h
theorem PartIn.mono {B B' : Base} (hs : Sub B B') {p : PPart} {v : Value} (h : PartIn B p v) : PartIn B' p v :=
  Exists.imp (fun _ => Exists.imp fun _ => Exists.imp fun _ => Exists.imp fun _ => Exists.imp fun _ => Exists.imp fun _ => And.imp_right (And.imp (hs _ _) (And.imp (WordIn.mono hs) (SpotIn.mono hs)))) h
def TIn (B : Base) (ps : List PPart) (v : Value) : Prop :=
  ∃ a t1 t2 b vs, v = .ref a ∧ B a = some (tupO [.str (Str.ofString "lv") t1, .int 4 t2, .ref b]) ∧ B b = some (tupO vs) ∧ All2 (PartIn B) ps vs ∧ ps.length ≤ 2 ∧ ∀ p ∈ ps, 0 ≤ p.key ∧ p.key < 8
theorem TIn.mono {B B' : Base} (hs : Sub B B') {ps : List PPart} {v : Value} (h : TIn B ps v) : TIn B' ps v :=
  Exists.imp (fun _ => Exists.imp fun _ => Exists.imp fun _ => Exists.imp fun _ => Exists.imp fun _ => And.imp_right (And.imp (hs _ _) (And.imp (hs _ _) (And.imp_left (All2.mono fun _ _ => PartIn.mono hs))))) h

def TargetSpec (prog : Program) (w : World) (G : Heap) : Prop :=
  ∀ (A : Around) (s : Shared) (B : Base) (row read kept : Addr) (o p q : Obj) (rs ws : List Int) (Q E : Value → Shared → Prop),
    (∀ b o, G.get? b = some o → B b = some o) → (∀ b o, B b = some o → s.heap.get? b = some o) → s.heap.get? row = some o → RowO o → B row = none → s.heap.get? read = some p → IntsO p rs → B read = none →
    s.heap.get? kept = some q → IntsO q ws → B kept = none → row ≠ read → row ≠ kept → read ≠ kept → rs.length ≤ 90000 → ws.length ≤ 90000 → A.handled = none → A.depth + 10 < recursionLimit → A.units + 300 < cLine →
    (∀ v ps o' p' q' B' s', TIn B' ps v → RowO o' → IntsO p' (rs ++ keysT ps) → IntsO q' (ws ++ writesT ps) → (keysT ps).length ≤ 12 → (writesT ps).length ≤ 2 → s'.heap.get? row = some o' → s'.heap.get? read = some p' → s'.heap.get? kept = some q' →
      Post ⟨G, s, B, [row, read, kept]⟩ B' s' → Q v s') →
    wpAny (model prog w) A (call (.ref 155) [.ref row, .ref read, .ref kept]) Q E s

end
local macro_rules | `(tactic| walk_at "m-ein") => `(tactic| first | with_reducible assumption | exact EIn.mono (by with_reducible assumption) (by walk_at "m-ein"))
local macro_rules | `(tactic| walk_at "m-ein0") => `(tactic| exact EIn.mono (St.insSub (by assumption)) (by walk_at "m-ein"))
local macro_rules | `(tactic| walk_at "m-ints") => `(tactic| first | assumption | (simp only [keysE, ← List.append_assoc, List.append_nil]; assumption) | (simp only [keysE]; rw [List.append_cons]; assumption))
local macro_rules | `(tactic| walk_at "m-lenE") => `(tactic| (simp only [keysE, List.length_append, List.length_cons, List.length_nil]; omega))
local macro_rules | `(tactic| walk_at "m-call") => `(tactic| ((with_reducible show wpAny _ _ (call (Value.type "range") _) _ _ _); (with_reducible rename St _ _ _ _ _ _ => S0); refine S_range S0 ?_; clear S0; intro a' s' t1' t2' ha' S'))
local macro_rules | `(tactic| walk_at "m-call") => `(tactic| ((with_reducible show wpAny _ _ (call (Value.type "tuple") _) _ _ _); (with_reducible rename St _ _ _ _ _ _ => S0); refine S_tupleOf S0 (by walk_at "m-idx") (by walk_at "m-len") ?_; clear S0; intro a' s' ha' S'))
local macro_rules | `(tactic| walk_at "m-call") => `(tactic| ((with_reducible show wpAny _ _ (call (Value.ref 148) [Value.ref _, Value.ref _, Value.int _ _]) _ _ _); (with_reducible rename St _ _ _ _ _ _ => S0); (first | (refine S_expr S0 (by assumption) (by walk_at "m-idx") (by assumption) (by walk_at "m-idx") (by first | assumption | exact IntsO.nil _) (by decide) (by omega) (by walk_at "m-len") (by omega) (by omega) ?_) | (refine S_expr (d := 1) S0 (by assumption) (by walk_at "m-idx") (by assumption) (by walk_at "m-idx") (by first | assumption | exact IntsO.nil _) (by decide) (by omega) (by walk_at "m-len") (by omega) (by omega) ?_) | (refine S_expr (d := 2) S0 (by assumption) (by walk_at "m-idx") (by assumption) (by walk_at "m-idx") (by first | assumption | exact IntsO.nil _) (by decide) (by omega) (by walk_at "m-len") (by omega) (by omega) ?_) | (refine S_expr (d := 0) S0 (by assumption) (by walk_at "m-idx") (by assumption) (by walk_at "m-idx") (by first | assumption | exact IntsO.nil _) (by decide) (by omega) (by walk_at "m-len") (by omega) (by omega) ?_)); clear S0; intro s' B' v' e' o' p' hv' hgd' ho' hp' hl' hsub' S'; (try dsimp only [List.set_cons_zero, List.set_cons_succ] at S')))
local macro_rules | `(tactic| walk_at "m-subT") => `(tactic| first | with_reducible assumption | exact Sub.refl _ | exact Sub.trans' (by with_reducible assumption) (by walk_at "m-subT"))
section
theorem target_spec {prog : Program} {w : World} {G : Heap} (W : Wd w G) : TargetSpec prog w G := by
  intro A s B row read kept o p q rs ws Q E hg hk hr ho hBr hp hpo hBp hq hqo hBq hne1 hne2 hne3 hlr hlw hh hroom hu hQ
  refine enter (M := [row, read, kept]) (binds := [(Str.ofString "row", .ref row), (Str.ofString "read", .ref read), (Str.ofString "kept_keys", .ref kept)]) W hg hk (by omega) (by rfl) (by kernel_rfl) (by rfl) (locs (by rfl)) ?_ (by decide) (by rfl) (by rfl) (by rfl)
  intro L s₁ hL hk₁ S
  replace S := S.take (a := kept) (.tail _ (.tail _ (.head _))) (hk₁ _ _ hq) (Heap.lt_size hq) hBq (fun z => nomatch z)
  replace S := S.take (a := read) (.tail _ (.head _)) (hk₁ _ _ hp) (Heap.lt_size hp) hBp (fun z => hne3 (List.mem_singleton.mp z))
  replace S := S.take (a := row) (.head _) (hk₁ _ _ hr) (Heap.lt_size hr) hBr (fun z => by rcases List.mem_cons.mp z with z | z; exact hne1 z; exact hne2 (List.mem_singleton.mp z))
  generalize hA : A.deeper (envX _ _ _ _ _ _) = A'
  have hd' : A'.depth + 9 < recursionLimit := by rw [← hA]; show A.depth + 1 + 9 < _; omega
  have hu' : A'.units + 297 < cLine := by rw [← hA]; show A.units + 3 + 297 < cLine; omega
  have hh' : A'.handled = none := by rw [← hA]; exact hh
  clear hA
  have X1 := expr_all (prog := prog) W 1 (by decide)
  repeat (walk_at "m")
  rename_i pa _ hpa _ _ _ _ _ _ _ B₁ j _ o₁ hj0 hj1 ho₁ hs₁ _ tn ra s₂ u1 u2 hra S₂
  obtain ⟨n, hn⟩ := Int.eq_ofNat_of_zero_le (show 0 ≤ 1 + j by omega)
  rw [hn] at S₂
  refine S_forRange S₂ hh' (by omega) (fun i B m σ => ∃ vs k ps o p q, σ = [(pa, lstO vs k), (row, o), (read, p), (kept, q)] ∧ RowO o ∧ IntsO p (rs ++ keysT ps) ∧ IntsO q (ws ++ writesT ps) ∧ All2 (PartIn B) ps vs ∧ ps.length = i ∧
      (keysT ps).length ≤ 6 * i ∧ (∀ p ∈ ps, 0 ≤ p.key ∧ p.key < 8) ∧ m "row" = some (.ref row) ∧ m "read" = some (.ref read) ∧ m "kept_keys" = some (.ref kept) ∧ m "parts" = some (.ref pa))
    ⟨[], 0, [], o₁, p, q, rfl, ho₁, by simpa [keysT] using hpo, by simpa [writesT] using hqo, .nil, rfl, by simp [keysT], by simp, rfl, rfl, rfl, rfl⟩ ?_ ?_
  · clear S₂ hpo hqo
    rintro it i B₂ m₂ σ₂ s₃ t oi hi ⟨vs, k, ps, o₂, p₂, q₂, rfl, ho₂, hp₂, hq₂, hps, hl, hkl, hkr, hm1, hm2, hm3, hm4⟩ S₃
    have hvl := hps.length
    have hwl : (writesT ps).length = ps.length := by simp [writesT]
    repeat' (first | walk_at "m" | walk_at "m-split")
    · rename St _ _ _ _ _ _ => T0
      have T1 := St.ins T0 (by assumption)
      have u0 := St.insSub T0
      have T2 := St.ins T1 (by assumption)
      have u1 := St.insSub T1
      have T3 := St.ins T2 (by assumption)
      have u2 := St.insSub T2
      have TT := St.ins T3 (by assumption)
      have u3 := St.insSub T3
      have hsig := u3 _ _ (u2 _ _ (u1 _ _ ((St.insAt T0))))
      have hpick := u3 _ _ (u2 _ _ ((St.insAt T1)))
      have hat := u3 _ _ ((St.insAt T2))
      have hword := (St.insAt T3)
      have hpart : PartIn _ ⟨_, some _, some _⟩ _ := ⟨_, _, _, _, _, _, rfl, hsig, ⟨_, _, rfl, hword, by walk_at "m-ein"⟩, ⟨_, _, _, _, _, rfl, hpick, by walk_at "m-ein"⟩⟩
      refine ⟨rfl, _, _, _, ?_, ⟨_, _, ps ++ [_], _, _, _, rfl, by assumption, ?_, ?_, (hps.mono fun _ _ z => PartIn.mono (by walk_at "m-subT") z).snoc hpart, ?_, ?_, ?_, ?_, ?_, ?_, ?_⟩, TT⟩
      · walk_at "m-subT"
      · exact IntsO.cast (by assumption) (by simp [keysT, keysP, optKeys, List.append_assoc])
      · exact IntsO.cast (by assumption) (by simp [writesT, List.append_assoc])
      · rw [List.length_append, hl]; rfl
      · simp only [keysT, keysP, optKeys, List.flatMap_append, List.flatMap_cons, List.flatMap_nil, List.length_append, List.length_nil] at hkl ⊢
        omega
      · intro p hp
        rcases List.mem_append.mp hp with hp | hp
        · exact hkr p hp
        · rw [List.mem_singleton.mp hp]; exact ⟨by assumption, by assumption⟩
      · walk_at "m-loc"
      · walk_at "m-loc"
      · walk_at "m-loc"
      · walk_at "m-loc"
    · rename St _ _ _ _ _ _ => T0
      have T1 := St.ins T0 (by assumption)
      have u0 := St.insSub T0
      have T2 := St.ins T1 (by assumption)
      have u1 := St.insSub T1
      have TT := St.ins T2 (by assumption)
      have u2 := St.insSub T2
      have hsig := u2 _ _ (u1 _ _ ((St.insAt T0)))
      have hat := u2 _ _ ((St.insAt T1))
      have hword := (St.insAt T2)
      have hpart : PartIn _ ⟨_, some _, none⟩ _ := ⟨_, _, _, _, _, _, rfl, hsig, ⟨_, _, rfl, hword, by walk_at "m-ein"⟩, ⟨_, _, _, rfl, hat⟩⟩
      refine ⟨rfl, _, _, _, ?_, ⟨_, _, ps ++ [_], _, _, _, rfl, by assumption, ?_, ?_, (hps.mono fun _ _ z => PartIn.mono (by walk_at "m-subT") z).snoc hpart, ?_, ?_, ?_, ?_, ?_, ?_, ?_⟩, TT⟩
      · walk_at "m-subT"
      · exact IntsO.cast (by assumption) (by simp [keysT, keysP, optKeys, List.append_assoc])
      · exact IntsO.cast (by assumption) (by simp [writesT, List.append_assoc])
      · rw [List.length_append, hl]; rfl
      · simp only [keysT, keysP, optKeys, List.flatMap_append, List.flatMap_cons, List.flatMap_nil, List.length_append, List.length_nil] at hkl ⊢
        omega
      · intro p hp
        rcases List.mem_append.mp hp with hp | hp
        · exact hkr p hp
        · rw [List.mem_singleton.mp hp]; exact ⟨by assumption, by assumption⟩
      · walk_at "m-loc"
      · walk_at "m-loc"
      · walk_at "m-loc"
      · walk_at "m-loc"
    · rename St _ _ _ _ _ _ => T0
      have T1 := St.ins T0 (by assumption)
      have u0 := St.insSub T0
      have T2 := St.ins T1 (by assumption)
      have u1 := St.insSub T1
      have TT := St.ins T2 (by assumption)
      have u2 := St.insSub T2
      have hsig := u2 _ _ (u1 _ _ ((St.insAt T0)))
      have hpick := u2 _ _ ((St.insAt T1))
      have hat := (St.insAt T2)
      have hpart : PartIn _ ⟨_, none, some _⟩ _ := ⟨_, _, _, _, _, _, rfl, hsig, rfl, ⟨_, _, _, _, _, rfl, hpick, by walk_at "m-ein"⟩⟩
      refine ⟨rfl, _, _, _, ?_, ⟨_, _, ps ++ [_], _, _, _, rfl, by assumption, ?_, ?_, (hps.mono fun _ _ z => PartIn.mono (by walk_at "m-subT") z).snoc hpart, ?_, ?_, ?_, ?_, ?_, ?_, ?_⟩, TT⟩
      · walk_at "m-subT"
      · exact IntsO.cast (by assumption) (by simp [keysT, keysP, optKeys, List.append_assoc])
      · exact IntsO.cast (by assumption) (by simp [writesT, List.append_assoc])
      · rw [List.length_append, hl]; rfl
      · simp only [keysT, keysP, optKeys, List.flatMap_append, List.flatMap_cons, List.flatMap_nil, List.length_append, List.length_nil] at hkl ⊢
        omega
      · intro p hp
        rcases List.mem_append.mp hp with hp | hp
        · exact hkr p hp
        · rw [List.mem_singleton.mp hp]; exact ⟨by assumption, by assumption⟩
      · walk_at "m-loc"
      · walk_at "m-loc"
      · walk_at "m-loc"
      · walk_at "m-loc"
    · rename St _ _ _ _ _ _ => T0
      have T1 := St.ins T0 (by assumption)
      have u0 := St.insSub T0
      have TT := St.ins T1 (by assumption)
      have u1 := St.insSub T1
      have hsig := u1 _ _ ((St.insAt T0))
      have hat := (St.insAt T1)
      have hpart : PartIn _ ⟨_, none, none⟩ _ := ⟨_, _, _, _, _, _, rfl, hsig, rfl, ⟨_, _, _, rfl, hat⟩⟩
      refine ⟨rfl, _, _, _, ?_, ⟨_, _, ps ++ [_], _, _, _, rfl, by assumption, ?_, ?_, (hps.mono fun _ _ z => PartIn.mono (by walk_at "m-subT") z).snoc hpart, ?_, ?_, ?_, ?_, ?_, ?_, ?_⟩, TT⟩
      · walk_at "m-subT"
      · exact IntsO.cast (by assumption) (by simp [keysT, keysP, optKeys, List.append_assoc])
      · exact IntsO.cast (by assumption) (by simp [writesT, List.append_assoc])
      · rw [List.length_append, hl]; rfl
      · simp only [keysT, keysP, optKeys, List.flatMap_append, List.flatMap_cons, List.flatMap_nil, List.length_append, List.length_nil] at hkl ⊢
        omega
      · intro p hp
        rcases List.mem_append.mp hp with hp | hp
        · exact hkr p hp
        · rw [List.mem_singleton.mp hp]; exact ⟨by assumption, by assumption⟩
      · walk_at "m-loc"
      · walk_at "m-loc"
      · walk_at "m-loc"
      · walk_at "m-loc"
  · clear S₂ hpo hqo
    rintro B₂ m₂ σ₂ s₃ ⟨vs, k, ps, o₂, p₂, q₂, rfl, ho₂, hp₂, hq₂, hps, hl, hkl, hkr, hm1, hm2, hm3, hm4⟩ S₃
    have hvl := hps.length
    repeat (walk_at "m")
    rename St _ _ _ _ _ _ => T0
    have T1 := St.ins T0 (by assumption)
    have u0 := St.insSub T0
    have TT := St.ins T1 (by assumption)
    have u1 := St.insSub T1
    have hwl : (writesT ps).length = ps.length := by simp [writesT]
    exact hQ _ ps _ _ _ _ _ ⟨_, _, _, _, vs, rfl, u1 _ _ (St.insAt T0), St.insAt T1, hps.mono fun _ _ z => PartIn.mono (by walk_at "m-subT") z, by omega, hkr⟩ ho₂ hp₂ hq₂ (by omega) (by omega)
      (TT.own (row, _) (.tail _ (.head _))).1 (TT.own (read, _) (.tail _ (.tail _ (.head _)))).1 (TT.own (kept, _) (.tail _ (.tail _ (.tail _ (.head _))))).1 TT.po

end
section
/-- the statements that the law draws -/
inductive PS where
  | set (ps : List PPart) (e : PE)
  | if1 (c : PE) (a : PS)
  | if2 (c : PE) (a b : PS)
  | case (sel lab : PE) (a b : PS)
  | block0
  | block1 (a : PS)
  | block2 (a b : PS)
  | loop (c : PE) (a : PS)
  | for_ (i : PS) (c : PE) (u a : PS)
  | wait (a : PS)
  | await (a : PS)
def readsS : PS → List Int
  | .set ps e => keysE e ++ keysT ps
  | .if1 c a => keysE c ++ readsS a
  | .if2 c a b => keysE c ++ readsS a ++ readsS b
  | .case x y a b => keysE x ++ keysE y ++ readsS a ++ readsS b
  | .block0 => []
  | .block1 a => readsS a
  | .block2 a b => readsS a ++ readsS b
  | .loop c a => keysE c ++ readsS a
  | .for_ i c u a => readsS i ++ keysE c ++ readsS u ++ readsS a
  | .wait a => readsS a
  | .await a => readsS a
def writesS : PS → List Int
  | .set ps _ => writesT ps
  | .if1 _ a => writesS a
  | .if2 _ a b => writesS a ++ writesS b
  | .case _ _ a b => writesS a ++ writesS b
  | .block0 => []
  | .block1 a => writesS a
  | .block2 a b => writesS a ++ writesS b
  | .loop _ a => writesS a
  | .for_ i _ u a => writesS i ++ writesS u ++ writesS a
  | .wait a => writesS a
  | .await a => writesS a
def strV (x : String) (v : Value) : Prop := ∃ t, v = .str (Str.ofString x) t
/-- the base bears it at v -/
def SIn (B : Base) : PS → Value → Prop
  | .set ps e, v => ∃ a g x y, v = .ref a ∧ B a = some (tupO [g, x, y, .none]) ∧ (strV "set" g ∨ strV "nba" g) ∧ TIn B ps x ∧ EIn B e y
  | .if1 c s, v => ∃ a t x y, v = .ref a ∧ B a = some (tupO [.str (Str.ofString "if") t, x, y, .none]) ∧ EIn B c x ∧ SIn B s y
  | .if2 c s r, v => ∃ a t x y z, v = .ref a ∧ B a = some (tupO [.str (Str.ofString "if") t, x, y, z]) ∧ EIn B c x ∧ SIn B s y ∧ SIn B r z
  | .case sel lab s r, v => ∃ a t u x l r1 r2 lt y z k q, v = .ref a ∧ B a = some (tupO [.str (Str.ofString "case") t, .str (Str.ofString "case") u, x, .ref l]) ∧ B l = some (lstO [.ref r1, .ref r2] k) ∧
      B r1 = some (tupO [.ref lt, y]) ∧ B lt = some (tupO [q]) ∧ B r2 = some (tupO [.none, z]) ∧ EIn B sel x ∧ EIn B lab q ∧ SIn B s y ∧ SIn B r z
  | .block0, v => ∃ a t l x k, v = .ref a ∧ B a = some (tupO [.str (Str.ofString "block") t, .ref l, x]) ∧ B l = some (lstO [] k)
  | .block1 s, v => ∃ a t l x k y, v = .ref a ∧ B a = some (tupO [.str (Str.ofString "block") t, .ref l, x]) ∧ B l = some (lstO [y] k) ∧ SIn B s y
  | .block2 s r, v => ∃ a t l x k y z, v = .ref a ∧ B a = some (tupO [.str (Str.ofString "block") t, .ref l, x]) ∧ B l = some (lstO [y, z] k) ∧ SIn B s y ∧ SIn B r z
  | .loop c s, v => ∃ a t x y, v = .ref a ∧ B a = some (tupO [.str (Str.ofString "while") t, x, y]) ∧ EIn B c x ∧ SIn B s y
  | .for_ i c u s, v => ∃ a t x y z q, v = .ref a ∧ B a = some (tupO [.str (Str.ofString "for") t, x, y, z, q]) ∧ SIn B i x ∧ EIn B c y ∧ SIn B u z ∧ SIn B s q
  | .wait s, v => ∃ a t x y, v = .ref a ∧ B a = some (tupO [.str (Str.ofString "wait") t, x, y]) ∧ SIn B s y
  | .await s, v => ∃ a t x y, v = .ref a ∧ B a = some (tupO [.str (Str.ofString "await") t, x, y]) ∧ SIn B s y
theorem SIn.mono {B B' : Base} (hs : Sub B B') {st : PS} {v : Value} (h : SIn B st v) : SIn B' st v := by
  induction st generalizing v with
  | set ps e => exact Exists.imp (fun _ => Exists.imp fun _ => Exists.imp fun _ => Exists.imp fun _ => And.imp_right (And.imp (hs _ _) (And.imp_right (And.imp (TIn.mono hs) (EIn.mono hs))))) h
  | if1 c a ia => exact Exists.imp (fun _ => Exists.imp fun _ => Exists.imp fun _ => Exists.imp fun _ => And.imp_right (And.imp (hs _ _) (And.imp (EIn.mono hs) ia))) h
  | if2 c a b ia ib => exact Exists.imp (fun _ => Exists.imp fun _ => Exists.imp fun _ => Exists.imp fun _ => Exists.imp fun _ => And.imp_right (And.imp (hs _ _) (And.imp (EIn.mono hs) (And.imp ia ib)))) h
  | case x y a b ia ib => exact Exists.imp (fun _ => Exists.imp fun _ => Exists.imp fun _ => Exists.imp fun _ => Exists.imp fun _ => Exists.imp fun _ => Exists.imp fun _ => Exists.imp fun _ => Exists.imp fun _ => Exists.imp fun _ => Exists.imp fun _ => Exists.imp fun _ => And.imp_right (And.imp (hs _ _) (And.imp (hs _ _) (And.imp (hs _ _) (And.imp (hs _ _) (And.imp (hs _ _) (And.imp (EIn.mono hs) (And.imp (EIn.mono hs) (And.imp ia ib))))))))) h
  | block0 => exact Exists.imp (fun _ => Exists.imp fun _ => Exists.imp fun _ => Exists.imp fun _ => Exists.imp fun _ => And.imp_right (And.imp (hs _ _) (hs _ _))) h
  | block1 a ia => exact Exists.imp (fun _ => Exists.imp fun _ => Exists.imp fun _ => Exists.imp fun _ => Exists.imp fun _ => Exists.imp fun _ => And.imp_right (And.imp (hs _ _) (And.imp (hs _ _) ia))) h
  | block2 a b ia ib => exact Exists.imp (fun _ => Exists.imp fun _ => Exists.imp fun _ => Exists.imp fun _ => Exists.imp fun _ => Exists.imp fun _ => Exists.imp fun _ => And.imp_right (And.imp (hs _ _) (And.imp (hs _ _) (And.imp ia ib)))) h
  | loop c a ia => exact Exists.imp (fun _ => Exists.imp fun _ => Exists.imp fun _ => Exists.imp fun _ => And.imp_right (And.imp (hs _ _) (And.imp (EIn.mono hs) ia))) h
  | for_ i c u a ii iu ia => exact Exists.imp (fun _ => Exists.imp fun _ => Exists.imp fun _ => Exists.imp fun _ => Exists.imp fun _ => Exists.imp fun _ => And.imp_right (And.imp (hs _ _) (And.imp ii (And.imp (EIn.mono hs) (And.imp iu ia))))) h
  | wait a ia => exact Exists.imp (fun _ => Exists.imp fun _ => Exists.imp fun _ => Exists.imp fun _ => And.imp_right (And.imp (hs _ _) ia)) h
  | await a ia => exact Exists.imp (fun _ => Exists.imp fun _ => Exists.imp fun _ => Exists.imp fun _ => And.imp_right (And.imp (hs _ _) ia)) h
@[elab_as_elim] theorem SIn.setE {B : Base} {ps : List PPart} {e : PE} {v : Value} {P : Value → Prop} (h : SIn B (.set ps e) v) (k₀ : ∀ a g x y, B a = some (tupO [g, x, y, .none]) → (strV "set" g ∨ strV "nba" g) → TIn B ps x → EIn B e y → SIn B (.set ps e) (.ref a) → P (.ref a)) : P v := by
  have h₀ := h
  obtain ⟨a, g, x, y, rfl, h0, h1, h2, h3⟩ := h
  exact k₀ a g x y h0 h1 h2 h3 h₀
@[elab_as_elim] theorem SIn.if1E {B : Base} {c : PE} {s : PS} {v : Value} {P : Value → Prop} (h : SIn B (.if1 c s) v) (k₀ : ∀ a t x y, B a = some (tupO [.str (Str.ofString "if") t, x, y, .none]) → EIn B c x → SIn B s y → SIn B (.if1 c s) (.ref a) → P (.ref a)) : P v := by
  have h₀ := h
  obtain ⟨a, t, x, y, rfl, h0, h1, h2⟩ := h
  exact k₀ a t x y h0 h1 h2 h₀
@[elab_as_elim] theorem SIn.if2E {B : Base} {c : PE} {s r : PS} {v : Value} {P : Value → Prop} (h : SIn B (.if2 c s r) v) (k₀ : ∀ a t x y z, B a = some (tupO [.str (Str.ofString "if") t, x, y, z]) → EIn B c x → SIn B s y → SIn B r z → SIn B (.if2 c s r) (.ref a) → P (.ref a)) : P v := by
  have h₀ := h
  obtain ⟨a, t, x, y, z, rfl, h0, h1, h2, h3⟩ := h
  exact k₀ a t x y z h0 h1 h2 h3 h₀
@[elab_as_elim] theorem SIn.caseE {B : Base} {sel lab : PE} {s r : PS} {v : Value} {P : Value → Prop} (h : SIn B (.case sel lab s r) v) (k₀ : ∀ a t u x l r1 r2 lt y z k q, B a = some (tupO [.str (Str.ofString "case") t, .str (Str.ofString "case") u, x, .ref l]) → B l = some (lstO [.ref r1, .ref r2] k) → B r1 = some (tupO [.ref lt, y]) → B lt = some (tupO [q]) → B r2 = some (tupO [.none, z]) → EIn B sel x → EIn B lab q → SIn B s y → SIn B r z → SIn B (.case sel lab s r) (.ref a) → P (.ref a)) : P v := by
  have h₀ := h
  obtain ⟨a, t, u, x, l, r1, r2, lt, y, z, k, q, rfl, h0, h1, h2, h3, h4, h5, h6, h7, h8⟩ := h
  exact k₀ a t u x l r1 r2 lt y z k q h0 h1 h2 h3 h4 h5 h6 h7 h8 h₀
@[elab_as_elim] theorem SIn.block0E {B : Base}  {v : Value} {P : Value → Prop} (h : SIn B (.block0) v) (k₀ : ∀ a t l x k, B a = some (tupO [.str (Str.ofString "block") t, .ref l, x]) → B l = some (lstO [] k) → SIn B (.block0) (.ref a) → P (.ref a)) : P v := by
  have h₀ := h
  obtain ⟨a, t, l, x, k, rfl, h0, h1⟩ := h
  exact k₀ a t l x k h0 h1 h₀
@[elab_as_elim] theorem SIn.block1E {B : Base} {s : PS} {v : Value} {P : Value → Prop} (h : SIn B (.block1 s) v) (k₀ : ∀ a t l x k y, B a = some (tupO [.str (Str.ofString "block") t, .ref l, x]) → B l = some (lstO [y] k) → SIn B s y → SIn B (.block1 s) (.ref a) → P (.ref a)) : P v := by
  have h₀ := h
  obtain ⟨a, t, l, x, k, y, rfl, h0, h1, h2⟩ := h
  exact k₀ a t l x k y h0 h1 h2 h₀
@[elab_as_elim] theorem SIn.block2E {B : Base} {s r : PS} {v : Value} {P : Value → Prop} (h : SIn B (.block2 s r) v) (k₀ : ∀ a t l x k y z, B a = some (tupO [.str (Str.ofString "block") t, .ref l, x]) → B l = some (lstO [y, z] k) → SIn B s y → SIn B r z → SIn B (.block2 s r) (.ref a) → P (.ref a)) : P v := by
  have h₀ := h
  obtain ⟨a, t, l, x, k, y, z, rfl, h0, h1, h2, h3⟩ := h
  exact k₀ a t l x k y z h0 h1 h2 h3 h₀
@[elab_as_elim] theorem SIn.loopE {B : Base} {c : PE} {s : PS} {v : Value} {P : Value → Prop} (h : SIn B (.loop c s) v) (k₀ : ∀ a t x y, B a = some (tupO [.str (Str.ofString "while") t, x, y]) → EIn B c x → SIn B s y → SIn B (.loop c s) (.ref a) → P (.ref a)) : P v := by
  have h₀ := h
  obtain ⟨a, t, x, y, rfl, h0, h1, h2⟩ := h
  exact k₀ a t x y h0 h1 h2 h₀
@[elab_as_elim] theorem SIn.forE {B : Base} {i : PS} {c : PE} {u s : PS} {v : Value} {P : Value → Prop} (h : SIn B (.for_ i c u s) v) (k₀ : ∀ a t x y z q, B a = some (tupO [.str (Str.ofString "for") t, x, y, z, q]) → SIn B i x → EIn B c y → SIn B u z → SIn B s q → SIn B (.for_ i c u s) (.ref a) → P (.ref a)) : P v := by
  have h₀ := h
  obtain ⟨a, t, x, y, z, q, rfl, h0, h1, h2, h3, h4⟩ := h
  exact k₀ a t x y z q h0 h1 h2 h3 h4 h₀
@[elab_as_elim] theorem SIn.waitE {B : Base} {s : PS} {v : Value} {P : Value → Prop} (h : SIn B (.wait s) v) (k₀ : ∀ a t x y, B a = some (tupO [.str (Str.ofString "wait") t, x, y]) → SIn B s y → SIn B (.wait s) (.ref a) → P (.ref a)) : P v := by
  have h₀ := h
  obtain ⟨a, t, x, y, rfl, h0, h1⟩ := h
  exact k₀ a t x y h0 h1 h₀
@[elab_as_elim] theorem SIn.awaitE {B : Base} {s : PS} {v : Value} {P : Value → Prop} (h : SIn B (.await s) v) (k₀ : ∀ a t x y, B a = some (tupO [.str (Str.ofString "await") t, x, y]) → SIn B s y → SIn B (.await s) (.ref a) → P (.ref a)) : P v := by
  have h₀ := h
  obtain ⟨a, t, x, y, rfl, h0, h1⟩ := h
  exact k₀ a t x y h0 h1 h₀

section
variable {prog : Program} {w : World} {A : Around} {E : Value → Shared → Prop} {s : Shared} {c : Cx} {B : Base} {L : Addr} {m : Str → Option Value} {σ : List (Addr × Obj)}
theorem S_target {i j k : Nat} {row read kept : Addr} {o p q : Obj} {rs ws : List Int} {Q : Value → Shared → Prop} (S : St c B L m σ s) (X : TargetSpec prog w c.G) (hi : σ[i]? = some (row, o)) (ho : RowO o) (hj : σ[j]? = some (read, p)) (hp : IntsO p rs)
    (hk : σ[k]? = some (kept, q)) (hq : IntsO q ws) (hij : i ≠ j) (hik : i ≠ k) (hjk : j ≠ k) (hlr : rs.length ≤ 90000) (hlw : ws.length ≤ 90000) (hh : A.handled = none) (hroom : A.depth + 10 < recursionLimit) (hu : A.units + 300 < cLine)
    (h : ∀ s' B' v ps o' p' q', TIn B' ps v → RowO o' → IntsO p' (rs ++ keysT ps) → IntsO q' (ws ++ writesT ps) → (keysT ps).length ≤ 12 → (writesT ps).length ≤ 2 → Sub B B' → St c B' L m (((σ.set i (row, o')).set j (read, p')).set k (kept, q')) s' → Q v s') :
    wpAny (model prog w) A (call (.ref 155) [.ref row, .ref read, .ref kept]) Q E s := by
  have z := S.own _ (List.mem_of_getElem? hi)
  have y := S.own _ (List.mem_of_getElem? hj)
  have x := S.own _ (List.mem_of_getElem? hk)
  exact X _ _ _ _ _ _ _ _ _ _ _ _ _ S.g S.po.keep z.1 ho z.2.2.1 y.1 hp y.2.2.1 x.1 hq x.2.2.1 (S.apart hi hj hij) (S.apart hi hk hik) (S.apart hj hk hjk) hlr hlw hh hroom hu
    fun v ps o' p' q' B' s' a b d e f g h1 h2 h3 P => h s' B' v ps o' p' q' a b d e f g P.sub (S.back3 P hi hj hk hij hik hjk h1 h2 h3)
end
local macro_rules | `(tactic| walk_at "m-call") => `(tactic| ((with_reducible show wpAny _ _ (call (Value.ref 155) [Value.ref _, Value.ref _, Value.ref _]) _ _ _); (with_reducible rename St _ _ _ _ _ _ => S0); refine S_target S0 (by assumption) (by walk_at "m-idx") (by assumption) (by walk_at "m-idx") (by assumption) (by walk_at "m-idx") (by assumption) (by decide) (by decide) (by decide) (by walk_at "m-len") (by walk_at "m-len") (by assumption) (by omega) (by omega) ?_; clear S0; intro s' B' v' ps' o' p' q' hv' ho' hp' hq' hl' hl2' hsub' S'; (try dsimp only [List.set_cons_zero, List.set_cons_succ] at S')))

def SetSpec (prog : Program) (w : World) (G : Heap) : Prop :=
  ∀ (A : Around) (s : Shared) (B : Base) (row read kept : Addr) (o p q : Obj) (rs ws : List Int) (Q E : Value → Shared → Prop),
    (∀ b o, G.get? b = some o → B b = some o) → (∀ b o, B b = some o → s.heap.get? b = some o) → s.heap.get? row = some o → RowO o → B row = none → s.heap.get? read = some p → IntsO p rs → B read = none →
    s.heap.get? kept = some q → IntsO q ws → B kept = none → row ≠ read → row ≠ kept → read ≠ kept → rs.length ≤ 80000 → ws.length ≤ 80000 → A.handled = none → A.depth + 20 < recursionLimit → A.units + 400 < cLine →
    (∀ v ps e o' p' q' B' s', SIn B' (.set ps e) v → RowO o' → IntsO p' (rs ++ readsS (.set ps e)) → IntsO q' (ws ++ writesT ps) → (readsS (.set ps e)).length ≤ 21 → (writesT ps).length ≤ 2 → s'.heap.get? row = some o' → s'.heap.get? read = some p' → s'.heap.get? kept = some q' →
      Post ⟨G, s, B, [row, read, kept]⟩ B' s' → Q v s') →
    wpAny (model prog w) A (call (.ref 162) [.ref row, .ref read, .ref kept]) Q E s

theorem set_spec {prog : Program} {w : World} {G : Heap} (W : Wd w G) : SetSpec prog w G := by
  intro A s B row read kept o p q rs ws Q E hg hk hr ho hBr hp hpo hBp hq hqo hBq hne1 hne2 hne3 hlr hlw hh hroom hu hQ
  refine enter (M := [row, read, kept]) (binds := [(Str.ofString "row", .ref row), (Str.ofString "read", .ref read), (Str.ofString "kept_keys", .ref kept)]) W hg hk (by omega) (by rfl) (by kernel_rfl) (by rfl) (locs (by rfl)) ?_ (by decide) (by rfl) (by rfl) (by rfl)
  intro L s₁ hL hk₁ S
  replace S := S.take (a := kept) (.tail _ (.tail _ (.head _))) (hk₁ _ _ hq) (Heap.lt_size hq) hBq (fun z => nomatch z)
  replace S := S.take (a := read) (.tail _ (.head _)) (hk₁ _ _ hp) (Heap.lt_size hp) hBp (fun z => hne3 (List.mem_singleton.mp z))
  replace S := S.take (a := row) (.head _) (hk₁ _ _ hr) (Heap.lt_size hr) hBr (fun z => by rcases List.mem_cons.mp z with z | z; exact hne1 z; exact hne2 (List.mem_singleton.mp z))
  generalize hA : A.deeper (envX _ _ _ _ _ _) = A'
  have hd' : A'.depth + 19 < recursionLimit := by rw [← hA]; show A.depth + 1 + 19 < _; omega
  have hu' : A'.units + 397 < cLine := by rw [← hA]; show A.units + 3 + 397 < cLine; omega
  have hh' : A'.handled = none := by rw [← hA]; exact hh
  clear hA
  have X2 := expr_all (prog := prog) W 2 (by decide)
  have XT := target_spec (prog := prog) W
  repeat (walk_at "m")
  rename_i t3 _ t2 la s2 hla _ tx s3 s4 B4 j tj o4 hj0 hj1 ho4 hs4 S4
  have hj : j = 0 ∨ j = 1 := by omega
  obtain ⟨g, hg1, hg2⟩ : ∃ g, ([.str (Str.ofString "set") t3, .str (Str.ofString "nba") t2] : List Value)[j.toNat]? = some g ∧ (strV "set" g ∨ strV "nba" g) := by
    rcases hj with rfl | rfl
    · exact ⟨_, rfl, .inl ⟨_, rfl⟩⟩
    · exact ⟨_, rfl, .inr ⟨_, rfl⟩⟩
  refine S_itemL S4 (by walk_at "m-idx") hj0 (by omega) hg1 ?_
  repeat (walk_at "m")
  rename St _ _ _ _ _ _ => T0
  have TT := St.ins T0 (by assumption)
  have u0 := St.insSub T0
  exact hQ _ _ _ _ _ _ _ _ ⟨_, _, _, _, rfl, St.insAt T0, hg2, TIn.mono u0 (by assumption), by walk_at "m-ein"⟩ (by assumption) (IntsO.cast (by assumption) (by simp [readsS, List.append_assoc])) (by assumption)
    (by simp only [readsS, List.length_append]; omega) (by assumption) (TT.own (row, _) (.tail _ (.head _))).1 (TT.own (read, _) (.tail _ (.tail _ (.head _)))).1 (TT.own (kept, _) (.tail _ (.tail _ (.tail _ (.head _))))).1 TT.po

end
section
/-- a new object is taken as its own -/
theorem St.adopt {c : Cx} {B : Base} {L a : Addr} {m : Str → Option Value} {σ : List (Addr × Obj)} {s : Shared} {o : Obj} (S : St c B L m σ s) (h : s.heap.get? a = some o) (ha : L < a) (hB : B a = none) (hn : a ∉ σ.map (·.1)) : St c B L m ((a, o) :: σ) s :=
  ⟨S.ns, S.g, S.above, S.po, S.fr, fun p hp => by
    rcases List.mem_cons.mp hp with rfl | hp
    · exact ⟨h, Nat.ne_of_gt ha, hB, .inr (Nat.le_of_lt (Nat.lt_of_le_of_lt S.above ha))⟩
    · exact S.own p hp, by rw [List.map_cons, List.nodup_cons]; exact ⟨hn, S.nd⟩⟩

/-- a comprehension's own frame is left: the frame around goes on -/
theorem St.leave {c : Cx} {B B' : Base} {L C : Addr} {m m' : Str → Option Value} {σ σ' : List (Addr × Obj)} {s s' : Shared} (S : St c B L m σ s) (T : St ⟨c.G, s, B, σ.map (·.1)⟩ B' C m' σ' s') :
    ∃ oC, s'.heap.get? C = some oC ∧ St c B' L m ((C, oC) :: σ') s' := by
  obtain ⟨oC, es, ep, hC, rC⟩ := id T.ns
  refine ⟨oC, hC, ?_⟩
  have hLσ : L ∉ σ.map (·.1) := fun q => by
    obtain ⟨p, hp, e⟩ := List.mem_map.mp q
    exact (S.own p hp).2.1 e
  have hsz : s.heap.objs.size ≤ C := T.above
  have hold : ∀ b, b ∈ σ.map (·.1) → b ∈ c.M ∨ c.s0.heap.objs.size ≤ b := fun b hb => by
    obtain ⟨p, hp, rfl⟩ := List.mem_map.mp hb
    exact (S.own p hp).2.2.2
  have hgrow : c.s0.heap.objs.size ≤ s.heap.objs.size := Nat.le_trans S.above (Nat.le_of_lt S.ltL)
  have hBn : ∀ b, b < s.heap.objs.size → B b = none → B' b = none := fun b hb e => by
    cases q : B' b with
    | none => rfl
    | some o =>
      rcases T.po.new b o q with z | z
      · rw [show B b = some o from z] at e; cases e
      · exact absurd hb (Nat.not_lt.mpr z)
  refine ⟨?_, fun b o e => T.g b o e, S.above, ⟨fun b o e => T.po.sub b o (S.po.sub b o e), fun b o e => ?_, T.po.keep, fun b o hb e => ?_, S.po.lk.trans T.po.lk⟩, hBn L S.ltL S.fr, fun p hp => ?_, ?_⟩
  · obtain ⟨o, es, ep, ho, r⟩ := S.ns
    exact ⟨o, es, ep, T.po.ext L o hLσ ho, r⟩
  · rcases T.po.new b o e with z | z
    · exact S.po.new b o z
    · exact .inr (Nat.le_trans hgrow z)
  · refine T.po.ext b o (fun q => ?_) (S.po.ext b o hb e)
    rcases hold b q with z | z
    · exact hb z
    · exact absurd (Heap.lt_size e) (Nat.not_lt.mpr z)
  · rcases List.mem_cons.mp hp with rfl | hp
    · exact ⟨hC, Nat.ne_of_gt (Nat.lt_of_lt_of_le S.ltL hsz), T.fr, .inr (Nat.le_trans hgrow hsz)⟩
    · obtain ⟨a1, a2, a3, a4⟩ := T.own p hp
      rcases a4 with a4 | a4
      · exact ⟨a1, fun q => hLσ (q ▸ a4), a3, hold _ a4⟩
      · exact ⟨a1, Nat.ne_of_gt (Nat.lt_of_lt_of_le S.ltL a4), a3, .inr (Nat.le_trans hgrow a4)⟩
  · rw [List.map_cons, List.nodup_cons]
    refine ⟨fun q => ?_, T.nd⟩
    obtain ⟨p, hp, e⟩ := List.mem_map.mp q
    exact (T.own p hp).2.1 e

theorem selfList (prog : Program) (w : World) (it l : Addr) : ∀ {A : Around} {s : Shared} {o : Obj} {Q : Value → Shared → Prop} {E : Value → Shared → Prop}, (o.cls = .type "list_iterator" ∧ o.data = .fields #[.ref l, .int (0 : Nat) 0]) → s.heap.get? it = some o → Q (.ref it) s →
    wpAny (model prog w) A (pyIter (.ref it)) Q E s := fun h ho q => wpAny_pyIter_listiter (l := l) (i := 0) ⟨_, ho, h.1, h.2⟩ q

section
variable {prog : Program} {w : World} {A : Around} {E : Value → Shared → Prop} {s : Shared} {c : Cx} {B : Base} {L f : Addr} {m : Str → Option Value} {σ : List (Addr × Obj)}
/-- into a def with cells that never raises -/
theorem enterC {G : Heap} {M : List Addr} {vals : List Value} {binds : List (Str × Value)} {Q : Value → Shared → Prop}
    {name qual : Str} {params : Arguments} {body : List Stmt} {scope : Scope} {dV kV doc pm cdv ct oc : Value} {an od : Option Addr} {osl : Array (Option Value)}
    (W : Wd w G) (hg : ∀ b o, G.get? b = some o → B b = some o) (hk : ∀ b o, B b = some o → s.heap.get? b = some o) (hroom : A.depth < recursionLimit)
    (ho : (KK w).lookup f = some ⟨oc, od, .func (fnX name qual params body scope [] dV kV doc pm an cdv ct), osl⟩) (hcd : codeIn (KK w) cdv qual = true)
    (hbind : bindArgs (fnX name qual params body scope [] dV kV doc pm an cdv ct) ⟨vals, []⟩ = pure binds)
    (hkind : (binds.all fun y => scope.names.lookup y.1 == some .local || scope.names.lookup y.1 == some .cell) = true)
    (h : ∀ L s₁ kinds cm, s.heap.objs.size ≤ L → (∀ b o, s.heap.get? b = some o → s₁.heap.get? b = some o) → kinds = (envX qual scope L f cdv (cellsFrom (L + 1) scope.names [])).kindOf → cm = bindC kinds binds (fun _ => none) →
      St ⟨G, s, B, M⟩ B L (bindL kinds binds fun _ => none) [] s₁ → (∀ n a, (cellsFrom (L + 1) scope.names []).lookup n = some a → L < a ∧ ∃ o, s₁.heap.get? a = some o ∧ o.data = .cell (cm n)) →
      wpAny (model prog w) (A.deeper (envX qual scope L f cdv (cellsFrom (L + 1) scope.names []))) (execs body (envX qual scope L f cdv (cellsFrom (L + 1) scope.names []))) (fun fl s' => Q (match fl with | .ret v => v | _ => .none) s') (fun _ _ => False) s₁)
    (hco : scope.isCoroutine = false) (hgen : scope.isGenerator = false) (hkk : scope.kind = .function) :
    wpAny (model prog w) A (call (.ref f) vals) Q E s := by
  obtain ⟨mg, mb, T⟩ := W.t
  have hG : ∀ b o, G.get? b = some o → s.heap.get? b = some o := fun b o e => hk b o (hg b o e)
  refine wpAny_call (codeAny_call_function hroom (hG _ _ (W.k _ _ ho)) rfl hco hgen rfl (codeRec_of (W.k.keeps hG) hcd) ((BindsTo.of_eq hbind) _ _ _ _ ?_))
  refine wpAny_newFunctionEnv_cells hkk (kindsX hkind _) fun env' he s' x => ?_
  subst he
  refine ⟨(T.nolimit.keeps hG).keeps x.toInCall.keep, codeAny_func ?_⟩
  obtain ⟨h₁, tk, rfl, _⟩ := x.done
  have hk₁ := x.toInCall.keep
  refine wpAny_mono (h s.heap.objs.size { s with heap := h₁, toks := tk } _ _ (Nat.le_refl _) hk₁ rfl rfl ⟨x.toInCall.ns, hg, Nat.le_refl _, ⟨fun _ _ e => e, fun _ _ e => .inl e, fun b o e => hk₁ b o (hk b o e), fun b o _ e => hk₁ b o e, Like.mk _ _ _⟩, ?_, fun _ hp => (nomatch hp), List.nodup_nil⟩
    fun n a ha => ⟨x.above n a (mem_of_lookup ha), x.cell n a ha⟩) (fun _ _ x => x) (fun _ _ x => x.elim)
  cases q : B s.heap.objs.size with
  | none => rfl
  | some o => exact absurd (Heap.lt_size (hk _ _ q)) (Nat.lt_irrefl _)

/-- a comprehension over what an iterator gives, in a frame of its own -/
theorem comp_run {n : Nat} {ok : Nat → Obj → Prop} {side : Base → Prop} {V : Nat → Value → Prop} {elt iter : Expr} {x : Str} {px : Pos} {ifs : List Expr} {scope : Scope} {cl : List (Str × Addr)} {pos : Pos} {env : Env} {o0 : Obj} {RR : Value → Addr → Result → Shared → Prop}
    (S : St c B L m σ s) (I : ∀ it, Iter prog w it n ok side V) (hself : ∀ {it : Addr} {A : Around} {s : Shared} {o : Obj} {Q : Value → Shared → Prop} {E : Value → Shared → Prop}, ok 0 o → s.heap.get? it = some o → Q (.ref it) s → wpAny (model prog w) A (pyIter (.ref it)) Q E s)
    (h0 : ok 0 o0) (hf0 : o0.isFreed = false) (hh : A.handled = none) (hs : side B) (hn : n ≤ 16777216)
    (hcell : ∀ y ∈ scope.names, y.2 ≠ .cell) (hkind : scope.kind = .function) (hx : scope.names.lookup x = some .local)
    (Inv : Nat → Base → List (Addr × Obj) → List Value → Prop) (hI : Inv 0 B σ [])
    (turn : ∀ (C it D : Addr) (i : Nat) (B' : Base) (m' : Str → Option Value) (τ : List (Addr × Obj)) (vs : List Value) (v : Value) (o : Obj) (k : Nat) (s' : Shared), i < n → V i v → side B' → Inv i B' τ vs → St ⟨c.G, s, B, σ.map (·.1)⟩ B' C (upd m' x v) ((it, o) :: (D, lstO vs k) :: τ) s' →
      wpAny (model prog w) A (forIn ifs true fun c r => if r = true then do let ok ← isTrue c (compEnvC scope cl C env) (eval c (compEnvC scope cl C env)); pure (ForInStep.yield ok) else pure (ForInStep.yield r)) (fun b s₁ =>
        if b = true then wpAny (model prog w) A (eval elt (compEnvC scope cl C env)) (fun y s₂ => ∃ B'' m'' τ', Sub B' B'' ∧ Inv (i + 1) B'' τ' (vs ++ [y]) ∧ St ⟨c.G, s, B, σ.map (·.1)⟩ B'' C m'' ((it, o) :: (D, lstO vs k) :: τ') s₂) (fun _ _ => False) s₁
        else ∃ B'' m'' τ', Sub B' B'' ∧ Inv (i + 1) B'' τ' vs ∧ St ⟨c.G, s, B, σ.map (·.1)⟩ B'' C m'' ((it, o) :: (D, lstO vs k) :: τ') s₁) (fun _ _ => False) s')
    (fin : ∀ C D B' m' τ vs k s', L < D → Inv n B' τ vs → St ⟨c.G, s, B, σ.map (·.1)⟩ B' C m' ((D, lstO vs k) :: τ) s' → RR (.ref D) C (.ok .next) s') :
    wpAny (model prog w) A (newList []) (fun acc s₃ => wpAny (model prog w) A (newFunctionEnv scope env.globals cl [] env.qual none .none (some env)) (fun cenv s₄ =>
      codeAny (model prog w) A (.compStart (.ListComp elt [⟨.Name x px, iter, ifs, 0⟩] scope pos) 0 (.ref s.heap.objs.size) acc { cenv with scope := relabel scope env }) (RR acc cenv.locals) s₄) E s₃) E { s with heap := s.heap.push o0 } := by
  refine wpAny_newObj_type ?_ (by show (#[] : Array Value).size ≤ sizeLine; exact szle (by simp))
  generalize hH : ((s.heap.push o0).push { cls := .type "list", data := .seq ([] : List Value).toArray }) = H3
  have hsz₂ : (s.heap.push o0).objs.size = s.heap.objs.size + 1 := Heap.size_push ..
  have hsz₃ : H3.objs.size = s.heap.objs.size + 1 + 1 := by rw [← hH, Heap.size_push, hsz₂]
  have old₃ : ∀ b o, s.heap.get? b = some o → H3.get? b = some o := fun b o e => hH ▸ Heap.get?_push_of_some _ (Heap.get?_push_of_some _ e)
  have it₃ : H3.get? s.heap.objs.size = some o0 := hH ▸ Heap.get?_push_of_some _ (Heap.get?_push_size _ hf0)
  have D₃ : H3.get? (s.heap.objs.size + 1) = some (lstO [] 0) := by
    have := Heap.get?_push_size (s.heap.push o0) (o := lstO [] 0) rfl
    rw [hsz₂] at this
    exact hH ▸ this
  simp only [hsz₂]
  refine wpAny_newFunctionEnv hcell (by intro y hy; simp at hy) (fun h₁ hns₁ hsb₁ => ?_) hkind
  dsimp only at hns₁ hsb₁
  simp only [newEnv]
  rw [hsz₃] at hns₁ hsb₁
  simp only [hsz₃]
  have keep₁ : ∀ b o, H3.get? b = some o → h₁.get? b = some o := fun b o e => hsb₁.extBut b o (Nat.ne_of_lt (hsz₃ ▸ Heap.lt_size e)) (Heap.get?_push_of_some _ e)
  have fresh : ∀ b, s.heap.objs.size ≤ b → s.heap.get? b = none := fun b hb => by
    cases q : s.heap.get? b with
    | none => rfl
    | some o => exact absurd (Heap.lt_size q) (Nat.not_lt.mpr hb)
  have freshB : ∀ b, s.heap.objs.size ≤ b → B b = none := fun b hb => by
    cases q : B b with
    | none => rfl
    | some o => have := S.po.keep _ _ q; rw [fresh b hb] at this; cases this
  have ltσ : ∀ p ∈ σ, p.1 < s.heap.objs.size := fun p hp => Heap.lt_size (S.own p hp).1
  generalize hs₄ : ({ heap := h₁, gens := s.gens, drawn := s.drawn, toks := s.toks + ([] : List (Str × Value)).length, os := s.os } : Shared) = s₄
  have hs₄h : s₄.heap = h₁ := by rw [← hs₄]
  have T₀ : St ⟨c.G, s, B, σ.map (·.1)⟩ B (s.heap.objs.size + 1 + 1) (fun y => ([] : List (Str × Value)).reverse.lookup y) ((s.heap.objs.size, o0) :: (s.heap.objs.size + 1, lstO [] 0) :: σ) s₄ := by
    refine ⟨hs₄h ▸ hns₁, S.g, by show s.heap.objs.size ≤ _; omega, ⟨fun _ _ e => e, fun _ _ e => .inl e, fun b o e => hs₄h ▸ keep₁ _ _ (old₃ _ _ (S.po.keep b o e)), fun b o _ e => hs₄h ▸ keep₁ _ _ (old₃ _ _ e), hs₄ ▸ Like.mk _ _ _⟩, freshB _ (by omega), fun p hp => ?_, ?_⟩
    · rw [hs₄h]
      rcases List.mem_cons.mp hp with rfl | hp
      · exact ⟨keep₁ _ _ it₃, by show s.heap.objs.size ≠ _; omega, freshB _ (Nat.le_refl _), .inr (Nat.le_refl _)⟩
      · rcases List.mem_cons.mp hp with rfl | hp
        · exact ⟨keep₁ _ _ D₃, by show s.heap.objs.size + 1 ≠ _; omega, freshB _ (Nat.le_succ _), .inr (Nat.le_succ _)⟩
        · have := ltσ p hp
          exact ⟨keep₁ _ _ (old₃ _ _ (S.own p hp).1), Nat.ne_of_lt (Nat.lt_succ_of_lt (Nat.lt_succ_of_lt this)), (S.own p hp).2.2.1, .inl (List.mem_map_of_mem hp)⟩
    · rw [List.map_cons, List.map_cons, List.nodup_cons, List.nodup_cons]
      refine ⟨fun q => ?_, fun q => ?_, S.nd⟩
      · rcases List.mem_cons.mp q with q | q
        · exact absurd (show s.heap.objs.size = s.heap.objs.size + 1 from q) (Nat.ne_of_lt (Nat.lt_succ_self _))
        · obtain ⟨p, hp, e⟩ := List.mem_map.mp q
          exact absurd (ltσ p hp) (by rw [show p.1 = s.heap.objs.size from e]; exact Nat.lt_irrefl _)
      · obtain ⟨p, hp, e⟩ := List.mem_map.mp q
        exact absurd (ltσ p hp) (by rw [show p.1 = s.heap.objs.size + 1 from e]; exact Nat.not_lt.mpr (Nat.le_succ _))
  generalize hC : s.heap.objs.size + 1 + 1 = C at T₀ ⊢
  generalize hD : s.heap.objs.size + 1 = D at T₀ ⊢
  have hLD : L < D := hD ▸ Nat.lt_succ_of_lt S.ltL
  generalize hit : s.heap.objs.size = it at T₀ ⊢
  have loop : codeAny (model prog w) A (.compLoop (.ListComp elt [⟨.Name x px, iter, ifs, 0⟩] scope pos) 0 (.ref it) (.ref D) (compEnvC scope cl C env)) (RR (.ref D) C) s₄ := by
    refine codeAny_compLoop_tests (fun j s' => ∃ i B' m' τ o vs k, j = n - i ∧ i ≤ n ∧ vs.length ≤ i ∧ ok i o ∧ side B' ∧ Inv i B' τ vs ∧ St ⟨c.G, s, B, σ.map (·.1)⟩ B' C m' ((it, o) :: (D, lstO vs k) :: τ) s') ?_ n
      ⟨0, B, _, σ, o0, [], 0, rfl, Nat.zero_le _, Nat.le_refl _, h0, hs, hI, T₀⟩
    rintro j s' ⟨i, B', m', τ, o, vs, k, rfl, hi, hvl, ho, hs', hInv, T⟩
    rcases Nat.lt_or_ge i n with hlt | hge
    · refine (I it).next hlt ho hs' T fun s₁ v o₁ hv ho₁ T₁ => ?_
      refine wpAny_assign_Name (S_store T₁ (fun s₂ T₂ => ?_) rfl (by simp [compEnvC, relabel, hkind]) (lookup_relabel_local hx))
      refine wpAny_mono (turn C it D i B' m' τ vs v o₁ k s₂ hlt hv hs' hInv T₂) (fun b s₅ h₅ => ?_) fun _ _ z => z.elim
      cases b with
      | true =>
        simp only [if_true] at h₅ ⊢
        refine wpAny_mono h₅ (fun y s₆ h₆ => ?_) fun _ _ z => z.elim
        obtain ⟨B'', m'', τ', hsub, hInv', T₆⟩ := h₆
        refine S_append T₆ idx1 (fun s₇ T₇ => ?_) (by omega)
        exact ⟨n - (i + 1), by omega, i + 1, B'', m'', τ', o₁, vs ++ [y], k + 1, rfl, hlt, by simp; omega, ho₁, (I it).mono hsub hs', hInv', T₇⟩
      | false =>
        simp only [Bool.false_eq_true, if_false] at h₅ ⊢
        obtain ⟨B'', m'', τ', hsub, hInv', T₆⟩ := h₅
        exact ⟨n - (i + 1), by omega, i + 1, B'', m'', τ', o₁, vs, k, rfl, hlt, by omega, ho₁, (I it).mono hsub hs', hInv', T₆⟩
    · have : i = n := Nat.le_antisymm hi hge
      subst this
      exact (I it).fin hh ho hs' T fun s₁ T₁ => fin C D B' m' τ vs k s₁ hLD hInv T₁
  have e : ∀ P, codeAny (model prog w) A (.compLoop (.ListComp elt [⟨.Name x px, iter, ifs, 0⟩] scope pos) 0 (.ref it) (.ref D) (compEnvC scope cl C env)) P s₄ →
      codeAny (model prog w) A (.compLoop (.ListComp elt [⟨.Name x px, iter, ifs, 0⟩] scope pos) 0 (.ref it) (.ref D) { scope := relabel scope env, locals := C, globals := env.globals, cells := cl, qual := env.qual, func := none, code := env.code, frame := env.frame, builtins := env.builtins }) P s₄ := fun P h => h
  exact codeAny_compStart_list (e _ loop) (hself h0 (T₀.own _ (.head _)).1 (e _ loop))
end

theorem selfRange {prog : Program} {w : World} {n : Nat} {it : Addr} {A : Around} {s : Shared} {o : Obj} {Q : Value → Shared → Prop} {E : Value → Shared → Prop}
    (h : o = { cls := .type "range_iterator", dict := none, data := .fields #[rawInt (0 : Nat), rawInt ((n : Int) - (0 : Nat)), rawInt 1], slots := #[] }) (ho : s.heap.get? it = some o) (q : Q (.ref it) s) : wpAny (model prog w) A (pyIter (.ref it)) Q E s := by
  subst h
  exact wpAny_pyIter_rangeiter (x := (0 : Nat)) (left := (n : Int) - (0 : Nat)) (step := 1) ho q

/-- what a comprehension asks of its frame's names -/
structure CompOk (scope : Scope) (cl : List (Str × Addr)) (env : Env) (x : Str) : Prop where
  clos : closureFor scope env = pure cl
  cell : ∀ y ∈ scope.names, y.2 ≠ .cell
  kind : scope.kind = .function
  names : ∀ y ∈ scope.names, y.2 = .local → scope.names.lookup y.1 = some .local
  tgt : scope.names.lookup x = some .local

section
variable {prog : Program} {w : World} {A : Around} {E : Value → Shared → Prop} {s : Shared} {c : Cx} {B : Base} {L f : Addr} {m : Str → Option Value} {σ : List (Addr × Obj)}
theorem ListComp_in {elt iter : Expr} {x : Str} {px : Pos} {ifs : List Expr} {scope : Scope} {cl : List (Str × Addr)} {pos : Pos} {env : Env} {Q : Value → Shared → Prop} (C : CompOk scope cl env x)
    (h : wpAny (model prog w) A (eval iter env) (fun xv s₁ => wpAny (model prog w) A (pyIter xv) (fun it s₂ => wpAny (model prog w) A (newList []) (fun acc s₃ =>
      wpAny (model prog w) A (newFunctionEnv scope env.globals cl [] env.qual none .none (some env)) (fun cenv s₄ =>
        codeAny (model prog w) A (.compStart (.ListComp elt [⟨.Name x px, iter, ifs, 0⟩] scope pos) 0 it acc { cenv with scope := relabel scope env }) (compPost (model prog w) A E none Q acc cenv.locals) s₄) E s₃) E s₂) E s₁) E s)
    (hs : ∀ x, foldedSetIterable iter env x = pure x := by intro _; rfl) :
    wpAny (model prog w) A (eval (.ListComp elt [⟨.Name x px, iter, ifs, 0⟩] scope pos) env) Q E s := by
  rw [eval_ListComp]
  exact wpAny_comprehension_free (use := none) rfl hs C.clos C.kind C.names h
theorem Assign_ListComp_in {elt iter : Expr} {x y : Str} {px py : Pos} {ifs : List Expr} {scope : Scope} {cl : List (Str × Addr)} {pos spos : Pos} {env : Env} {Q : Flow → Shared → Prop} (C : CompOk scope cl env x)
    (h : wpAny (model prog w) A (eval iter env) (fun xv s₁ => wpAny (model prog w) A (pyIter xv) (fun it s₂ => wpAny (model prog w) A (newList []) (fun acc s₃ =>
      wpAny (model prog w) A (newFunctionEnv scope env.globals cl [] env.qual none .none (some env)) (fun cenv s₄ =>
        codeAny (model prog w) A (.compStart (.ListComp elt [⟨.Name x px, iter, ifs, 0⟩] scope pos) 0 it acc { cenv with scope := relabel scope env }) (compPost (model prog w) A E (some (assign (.Name y py) env)) (fun _ s' => Q .next s') acc cenv.locals) s₄) E s₃) E s₂) E s₁) E s)
    (hsw : swapsWith (.ListComp elt [⟨.Name x px, iter, ifs, 0⟩] scope pos) (some (.Name y py)) spos.line env = pure true := by rfl) (hs : ∀ x, foldedSetIterable iter env x = pure x := by intro _; rfl) :
    wpAny (model prog w) A (exec (.Assign [.Name y py] (.ListComp elt [⟨.Name x px, iter, ifs, 0⟩] scope pos) spos) env) Q E s := by
  rw [exec_Assign_Name_used _ _ _ _ hsw]
  refine wpAny_bind (wpAny_standAt (wpAny_bind ?_))
  show wpAny _ A (do let _ ← comprehension (.ListComp elt [⟨.Name x px, iter, ifs, 0⟩] scope pos) scope env _ (newList []) false (eval iter env) (some (assign (.Name y py) env))) _ _ s
  exact wpAny_bind (wpAny_mono (wpAny_comprehension_free (use := some (assign (.Name y py) env)) (Q := fun _ s' => Q .next s') rfl hs C.clos C.kind C.names h) (fun _ s' hq => wpAny_pure (wpAny_pure hq)) fun _ _ e => e)

theorem post_none {C D : Addr} {B' : Base} {m' : Str → Option Value} {τ : List (Addr × Obj)} {s' : Shared} {Q : Value → Shared → Prop} (S : St c B L m σ s) (T : St ⟨c.G, s, B, σ.map (·.1)⟩ B' C m' τ s') (hQ : ∀ s'', St c B' L m τ s'' → Q (.ref D) s'') :
    compPost (model prog w) A E none Q (.ref D) C (.ok .next) s' := by
  obtain ⟨oC, hC, U⟩ := S.leave T
  exact ⟨m', T.ns, fun h' hs => hQ _ (U.drop0 hs.extBut (Like.mk _ _ _))⟩
theorem post_use {C D : Addr} {B' : Base} {m' : Str → Option Value} {τ : List (Addr × Obj)} {s' : Shared} {y : Str} {py : Pos} {env : Env} {Q : Value → Shared → Prop} (S : St c B L m σ s) (T : St ⟨c.G, s, B, σ.map (·.1)⟩ B' C m' τ s')
    (hL : env.locals = L) (hk : env.scope.kind = .function) (hy : env.kindOf y = some .local) (hQ : ∀ s'', St c B' L (fun z => if z = y then some (.ref D) else m z) τ s'' → Q .none s'') :
    compPost (model prog w) A E (some (assign (.Name y py) env)) Q (.ref D) C (.ok .next) s' := by
  obtain ⟨oC, hC, U⟩ := S.leave T
  obtain ⟨o, es, ep, ho, r⟩ := T.ns
  rw [hC] at ho
  cases ho
  show wpAny _ A (assign (.Name y py) env (.ref D)) _ _ _
  refine wpAny_assign_Name (S_store U (fun s'' U' => ?_) hL hk hy)
  exact ⟨m', ⟨_, es, ep, (U'.own _ (.head _)).1, r⟩, fun h' hs => hQ _ (U'.drop0 hs.extBut (Like.mk _ _ _))⟩

/-- over a list that the base bears -/
theorem S_compList {l : Addr} {ls : List Value} {k : Nat} {elt iter : Expr} {x : Str} {px : Pos} {ifs : List Expr} {scope : Scope} {cl : List (Str × Addr)} {pos : Pos} {env : Env} {RR : Value → Addr → Result → Shared → Prop} (S : St c B L m σ s) (hh : A.handled = none) (hl : B l = some (lstO ls k)) (hn : ls.length ≤ 16777216)
    (C : CompOk scope cl env x) (Inv : Nat → Base → List (Addr × Obj) → List Value → Prop) (hI : Inv 0 B σ [])
    (turn : ∀ (C it D : Addr) (i : Nat) (B' : Base) (m' : Str → Option Value) (τ : List (Addr × Obj)) (vs : List Value) (v : Value) (o : Obj) (k : Nat) (s' : Shared), i < ls.length → ls[i]? = some v → Inv i B' τ vs →
      St ⟨c.G, s, B, σ.map (·.1)⟩ B' C (upd m' x v) ((it, o) :: (D, lstO vs k) :: τ) s' →
      wpAny (model prog w) A (forIn ifs true fun c r => if r = true then do let ok ← isTrue c (compEnvC scope cl C env) (eval c (compEnvC scope cl C env)); pure (ForInStep.yield ok) else pure (ForInStep.yield r)) (fun b s₁ =>
        if b = true then wpAny (model prog w) A (eval elt (compEnvC scope cl C env)) (fun y s₂ => ∃ B'' m'' τ', Sub B' B'' ∧ Inv (i + 1) B'' τ' (vs ++ [y]) ∧ St ⟨c.G, s, B, σ.map (·.1)⟩ B'' C m'' ((it, o) :: (D, lstO vs k) :: τ') s₂) (fun _ _ => False) s₁
        else ∃ B'' m'' τ', Sub B' B'' ∧ Inv (i + 1) B'' τ' vs ∧ St ⟨c.G, s, B, σ.map (·.1)⟩ B'' C m'' ((it, o) :: (D, lstO vs k) :: τ') s₁) (fun _ _ => False) s')
    (fin : ∀ C D B' m' τ vs k s', L < D → Inv ls.length B' τ vs → St ⟨c.G, s, B, σ.map (·.1)⟩ B' C m' ((D, lstO vs k) :: τ) s' → RR (.ref D) C (.ok .next) s') :
    wpAny (model prog w) A (pyIter (.ref l)) (fun it s₂ => wpAny (model prog w) A (newList []) (fun acc s₃ =>
      wpAny (model prog w) A (newFunctionEnv scope env.globals cl [] env.qual none .none (some env)) (fun cenv s₄ =>
        codeAny (model prog w) A (.compStart (.ListComp elt [⟨.Name x px, iter, ifs, 0⟩] scope pos) 0 it acc { cenv with scope := relabel scope env }) (RR acc cenv.locals) s₄) E s₃) E s₂) E s :=
  wpAny_pyIter_list ⟨_, S.po.keep _ _ hl, rfl, k, rfl⟩ (comp_run S (fun it => iterList prog w it l ls k) (fun {it} => selfList prog w it l) ⟨rfl, rfl⟩ rfl hh hl hn C.cell C.kind C.tgt Inv hI
    (fun C it D i B' m' τ vs v o k s' hi hv _ hInv T => turn C it D i B' m' τ vs v o k s' hi hv hInv T) fin)
/-- over a range of a small number -/
theorem S_compRange {r : Addr} {n i₀ : Nat} {t t1 t2 : Tok} {elt iter : Expr} {x : Str} {px : Pos} {ifs : List Expr} {scope : Scope} {cl : List (Str × Addr)} {pos : Pos} {env : Env} {RR : Value → Addr → Result → Shared → Prop} (S : St c B L m σ s) (hh : A.handled = none)
    (hl : σ[i₀]? = some (r, { cls := .type "range", dict := none, data := .fields #[.int 0 t1, .int n t, .int 1 t2], slots := #[] })) (hn : n ≤ 1000)
    (C : CompOk scope cl env x) (Inv : Nat → Base → List (Addr × Obj) → List Value → Prop) (hI : Inv 0 B σ [])
    (turn : ∀ (C it D : Addr) (i : Nat) (B' : Base) (m' : Str → Option Value) (τ : List (Addr × Obj)) (vs : List Value) (v : Value) (o : Obj) (k : Nat) (s' : Shared), i < n → Inv i B' τ vs →
      St ⟨c.G, s, B, σ.map (·.1)⟩ B' C (upd m' x v) ((it, o) :: (D, lstO vs k) :: τ) s' →
      wpAny (model prog w) A (forIn ifs true fun c r => if r = true then do let ok ← isTrue c (compEnvC scope cl C env) (eval c (compEnvC scope cl C env)); pure (ForInStep.yield ok) else pure (ForInStep.yield r)) (fun b s₁ =>
        if b = true then wpAny (model prog w) A (eval elt (compEnvC scope cl C env)) (fun y s₂ => ∃ B'' m'' τ', Sub B' B'' ∧ Inv (i + 1) B'' τ' (vs ++ [y]) ∧ St ⟨c.G, s, B, σ.map (·.1)⟩ B'' C m'' ((it, o) :: (D, lstO vs k) :: τ') s₂) (fun _ _ => False) s₁
        else ∃ B'' m'' τ', Sub B' B'' ∧ Inv (i + 1) B'' τ' vs ∧ St ⟨c.G, s, B, σ.map (·.1)⟩ B'' C m'' ((it, o) :: (D, lstO vs k) :: τ') s₁) (fun _ _ => False) s')
    (fin : ∀ C D B' m' τ vs k s', L < D → Inv n B' τ vs → St ⟨c.G, s, B, σ.map (·.1)⟩ B' C m' ((D, lstO vs k) :: τ) s' → RR (.ref D) C (.ok .next) s') :
    wpAny (model prog w) A (pyIter (.ref r)) (fun it s₂ => wpAny (model prog w) A (newList []) (fun acc s₃ =>
      wpAny (model prog w) A (newFunctionEnv scope env.globals cl [] env.qual none .none (some env)) (fun cenv s₄ =>
        codeAny (model prog w) A (.compStart (.ListComp elt [⟨.Name x px, iter, ifs, 0⟩] scope pos) 0 it acc { cenv with scope := relabel scope env }) (RR acc cenv.locals) s₄) E s₃) E s₂) E s := by
  have hz : Builtin.Range.rangeSize 0 n 1 = n := by
    unfold Builtin.Range.rangeSize
    split <;> omega
  have hsmall : Builtin.Range.small 0 n 1 = true := by
    unfold Builtin.Range.small
    rw [hz]
    unfold Builtin.Range.rangeFitsLong
    simp
    omega
  refine wpAny_pyIter_range (S.own _ (List.mem_of_getElem? hl)).1 hsmall ?_
  rw [hz]
  exact comp_run S (fun it => iterRange prog w it n) selfRange (by simp) rfl hh trivial (by omega) C.cell C.kind C.tgt Inv hI
    (fun C it D i B' m' τ vs v o k s' hi hv _ hInv T => turn C it D i B' m' τ vs v o k s' hi hInv T) fin
end

end
local macro_rules | `(tactic| walk_at "m-eval") => `(tactic| ((with_reducible show wpAny _ _ (eval (Expr.Name _ _) _) _ _ _); (with_reducible rename St _ _ _ _ _ _ => S0); refine S_cell S0 (by rfl) (by walk_at "m-idx") (by assumption) ?_))
local macro_rules | `(tactic| walk_at "m-call") => `(tactic| ((with_reducible show wpAny _ _ (call (Value.ref 155) [Value.ref _, Value.ref _, Value.ref _]) _ _ _); (with_reducible rename St _ _ _ _ _ _ => S0); refine S_target S0 (by assumption) (by walk_at "m-idx") (by assumption) (by walk_at "m-idx") (by assumption) (by walk_at "m-idx") (by assumption) (by decide) (by decide) (by decide) (by walk_at "m-len") (by walk_at "m-len") (by assumption) (by omega) (by omega) ?_; clear S0; intro s' B' v' ps' o' p' q' hv' ho' hp' hq' hl' hl2' hsub' S'; (try dsimp only [List.set_cons_zero, List.set_cons_succ] at S')))
section
theorem St.getAt {c : Cx} {B : Base} {L a : Addr} {m : Str → Option Value} {σ : List (Addr × Obj)} {s : Shared} {i : Nat} {o : Obj} (S : St c B L m σ s) (hi : σ[i]? = some (a, o)) : s.heap.get? a = some o := (S.own _ (List.mem_of_getElem? hi)).1
theorem IntsO.a2 {o : Obj} {r a b : List Int} (h : IntsO o (r ++ a ++ b)) : IntsO o (r ++ (a ++ b)) := h.cast (by simp)
theorem IntsO.a3 {o : Obj} {r a b c : List Int} (h : IntsO o (r ++ a ++ b ++ c)) : IntsO o (r ++ (a ++ b ++ c)) := h.cast (by simp)
theorem IntsO.a4 {o : Obj} {r a b c d : List Int} (h : IntsO o (r ++ a ++ b ++ c ++ d)) : IntsO o (r ++ (a ++ b ++ c ++ d)) := h.cast (by simp)
local macro_rules | `(tactic| walk_at "m-sin") => `(tactic| first | with_reducible assumption | exact SIn.mono (by with_reducible assumption) (by walk_at "m-sin"))
local macro_rules | `(tactic| walk_at "m-mem") => `(tactic| (intro k; simp only [readsS, writesS, List.mem_append, *, or_assoc, or_comm, or_left_comm]))
local macro_rules | `(tactic| walk_at "m-lenS") => `(tactic| ((try simp only [List.length_append]); omega))
def sizeS : PS → Nat
  | .set _ _ => 1
  | .if1 _ a => sizeS a + 1
  | .if2 _ a b => sizeS a + sizeS b + 1
  | .case _ _ a b => sizeS a + sizeS b + 1
  | .block0 => 1
  | .block1 a => sizeS a + 1
  | .block2 a b => sizeS a + sizeS b + 1
  | .loop _ a => sizeS a + 1
  | .for_ i _ u a => sizeS i + sizeS u + sizeS a + 1
  | .wait a => sizeS a + 1
  | .await a => sizeS a + 1
/-- no deeper than d -/
def goodS : PS → Nat → Prop
  | .set _ _, _ => True
  | .if1 _ a, d => 1 ≤ d ∧ goodS a (d - 1)
  | .if2 _ a b, d => 1 ≤ d ∧ goodS a (d - 1) ∧ goodS b (d - 1)
  | .case _ _ a b, d => 1 ≤ d ∧ goodS a (d - 1) ∧ goodS b (d - 1)
  | .block0, _ => True
  | .block1 a, d => 1 ≤ d ∧ goodS a (d - 1)
  | .block2 a b, d => 1 ≤ d ∧ goodS a (d - 1) ∧ goodS b (d - 1)
  | .loop _ a, d => 1 ≤ d ∧ goodS a (d - 1)
  | .for_ i _ u a, d => 1 ≤ d ∧ goodS i (d - 1) ∧ goodS u (d - 1) ∧ goodS a (d - 1)
  | .wait a, d => 1 ≤ d ∧ goodS a (d - 1)
  | .await a, d => 1 ≤ d ∧ goodS a (d - 1)
theorem goodS.mono : ∀ {e : PS} {d d' : Nat}, d ≤ d' → goodS e d → goodS e d'
  | .set _ _, _, _, _, h => h
  | .block0, _, _, _, h => h
  | .if1 _ _, _, _, hd, ⟨h1, h2⟩ => ⟨by omega, h2.mono (by omega)⟩
  | .if2 _ _ _, _, _, hd, ⟨h1, h2, h3⟩ => ⟨by omega, h2.mono (by omega), h3.mono (by omega)⟩
  | .case _ _ _ _, _, _, hd, ⟨h1, h2, h3⟩ => ⟨by omega, h2.mono (by omega), h3.mono (by omega)⟩
  | .block1 _, _, _, hd, ⟨h1, h2⟩ => ⟨by omega, h2.mono (by omega)⟩
  | .block2 _ _, _, _, hd, ⟨h1, h2, h3⟩ => ⟨by omega, h2.mono (by omega), h3.mono (by omega)⟩
  | .loop _ _, _, _, hd, ⟨h1, h2⟩ => ⟨by omega, h2.mono (by omega)⟩
  | .for_ _ _ _ _, _, _, hd, ⟨h1, h2, h3, h4⟩ => ⟨by omega, h2.mono (by omega), h3.mono (by omega), h4.mono (by omega)⟩
  | .wait _, _, _, hd, ⟨h1, h2⟩ => ⟨by omega, h2.mono (by omega)⟩
  | .await _, _, _, hd, ⟨h1, h2⟩ => ⟨by omega, h2.mono (by omega)⟩
theorem goodS.size : ∀ {e : PS} {d : Nat}, goodS e d → 2 * sizeS e + 1 ≤ 3 ^ (d + 1)
  | .set _ _, d, _ => by have := Nat.pow_pos (n := d) (show 0 < 3 by decide); rw [Nat.pow_succ]; simp only [sizeS]; omega
  | .block0, d, _ => by have := Nat.pow_pos (n := d) (show 0 < 3 by decide); rw [Nat.pow_succ]; simp only [sizeS]; omega
  | .if1 _ a, d + 1, ⟨_, h3⟩ => by have := goodS.size h3; have := Nat.pow_pos (n := d) (show 0 < 3 by decide); simp only [Nat.add_sub_cancel, Nat.pow_succ, sizeS] at *; omega
  | .if2 _ a b, d + 1, ⟨_, h3, h4⟩ => by have := goodS.size h3; have := goodS.size h4; have := Nat.pow_pos (n := d) (show 0 < 3 by decide); simp only [Nat.add_sub_cancel, Nat.pow_succ, sizeS] at *; omega
  | .case _ _ a b, d + 1, ⟨_, h3, h4⟩ => by have := goodS.size h3; have := goodS.size h4; have := Nat.pow_pos (n := d) (show 0 < 3 by decide); simp only [Nat.add_sub_cancel, Nat.pow_succ, sizeS] at *; omega
  | .block1 a, d + 1, ⟨_, h3⟩ => by have := goodS.size h3; have := Nat.pow_pos (n := d) (show 0 < 3 by decide); simp only [Nat.add_sub_cancel, Nat.pow_succ, sizeS] at *; omega
  | .block2 a b, d + 1, ⟨_, h3, h4⟩ => by have := goodS.size h3; have := goodS.size h4; have := Nat.pow_pos (n := d) (show 0 < 3 by decide); simp only [Nat.add_sub_cancel, Nat.pow_succ, sizeS] at *; omega
  | .loop _ a, d + 1, ⟨_, h3⟩ => by have := goodS.size h3; have := Nat.pow_pos (n := d) (show 0 < 3 by decide); simp only [Nat.add_sub_cancel, Nat.pow_succ, sizeS] at *; omega
  | .for_ i _ u a, d + 1, ⟨_, h3, h4, h5⟩ => by have := goodS.size h3; have := goodS.size h4; have := goodS.size h5; simp only [Nat.add_sub_cancel, Nat.pow_succ, sizeS] at *; omega
  | .wait a, d + 1, ⟨_, h3⟩ => by have := goodS.size h3; have := Nat.pow_pos (n := d) (show 0 < 3 by decide); simp only [Nat.add_sub_cancel, Nat.pow_succ, sizeS] at *; omega
  | .await a, d + 1, ⟨_, h3⟩ => by have := goodS.size h3; have := Nat.pow_pos (n := d) (show 0 < 3 by decide); simp only [Nat.add_sub_cancel, Nat.pow_succ, sizeS] at *; omega
  | .if1 _ _, 0, ⟨h, _⟩ => absurd h (by decide)
  | .if2 _ _ _, 0, ⟨h, _⟩ => absurd h (by decide)
  | .case _ _ _ _, 0, ⟨h, _⟩ => absurd h (by decide)
  | .block1 _, 0, ⟨h, _⟩ => absurd h (by decide)
  | .block2 _ _, 0, ⟨h, _⟩ => absurd h (by decide)
  | .loop _ _, 0, ⟨h, _⟩ => absurd h (by decide)
  | .for_ _ _ _ _, 0, ⟨h, _⟩ => absurd h (by decide)
  | .wait _, 0, ⟨h, _⟩ => absurd h (by decide)
  | .await _, 0, ⟨h, _⟩ => absurd h (by decide)
local macro_rules | `(tactic| walk_at "m-goodS") => `(tactic| first | assumption | exact goodS.mono (Nat.zero_le _) (by assumption) | (simp only [goodS, Nat.add_sub_cancel]; (repeat' (first | apply And.intro | trivial | assumption | omega | exact goodS.mono (Nat.zero_le _) (by assumption)))))
def StmtSpec (prog : Program) (w : World) (G : Heap) (d : Nat) : Prop :=
  ∀ (A : Around) (s : Shared) (B : Base) (row read kept : Addr) (t : Tok) (o p q : Obj) (rs ws : List Int) (Q E : Value → Shared → Prop),
    (∀ b o, G.get? b = some o → B b = some o) → (∀ b o, B b = some o → s.heap.get? b = some o) → s.heap.get? row = some o → RowO o → B row = none → s.heap.get? read = some p → IntsO p rs → B read = none →
    s.heap.get? kept = some q → IntsO q ws → B kept = none → row ≠ read → row ≠ kept → read ≠ kept → rs.length + 30 * 4 ^ d ≤ 60000 → ws.length + 30 * 4 ^ d ≤ 60000 → A.handled = none → A.depth + 30 + d < recursionLimit → A.units + 500 + 10 * d < cLine →
    (∀ v st o' p' q' rs' ws' B' s', SIn B' st v → (∃ a, v = .ref a) → goodS st d → RowO o' → IntsO p' (rs ++ rs') → IntsO q' (ws ++ ws') → (∀ k, k ∈ rs' ↔ k ∈ readsS st) → (∀ k, k ∈ ws' ↔ k ∈ writesS st) → rs'.length ≤ 30 * 4 ^ d → ws'.length ≤ 30 * 4 ^ d →
      s'.heap.get? row = some o' → s'.heap.get? read = some p' → s'.heap.get? kept = some q' → Post ⟨G, s, B, [row, read, kept]⟩ B' s' → Q v s') →
    wpAny (model prog w) A (call (.ref 167) [.ref row, .ref read, .ref kept, .int (d : Int) t]) Q E s

section
variable {prog : Program} {w : World} {A : Around} {E : Value → Shared → Prop} {s : Shared} {c : Cx} {B : Base} {L : Addr} {m : Str → Option Value} {σ : List (Addr × Obj)}
theorem S_set {i j k : Nat} {row read kept : Addr} {o p q : Obj} {rs ws : List Int} {Q : Value → Shared → Prop} (S : St c B L m σ s) (X : SetSpec prog w c.G) (hi : σ[i]? = some (row, o)) (ho : RowO o) (hj : σ[j]? = some (read, p)) (hp : IntsO p rs)
    (hk : σ[k]? = some (kept, q)) (hq : IntsO q ws) (hij : i ≠ j) (hik : i ≠ k) (hjk : j ≠ k) (hlr : rs.length ≤ 80000) (hlw : ws.length ≤ 80000) (hh : A.handled = none) (hroom : A.depth + 20 < recursionLimit) (hu : A.units + 400 < cLine)
    (h : ∀ s' B' v st o' p' q' rs' ws', SIn B' st v → (∃ a, v = .ref a) → goodS st 0 → RowO o' → IntsO p' (rs ++ rs') → IntsO q' (ws ++ ws') → (∀ k, k ∈ rs' ↔ k ∈ readsS st) → (∀ k, k ∈ ws' ↔ k ∈ writesS st) → rs'.length ≤ 30 → ws'.length ≤ 30 → Sub B B' →
      St c B' L m (((σ.set i (row, o')).set j (read, p')).set k (kept, q')) s' → Q v s') :
    wpAny (model prog w) A (call (.ref 162) [.ref row, .ref read, .ref kept]) Q E s := by
  have z := S.own _ (List.mem_of_getElem? hi)
  have y := S.own _ (List.mem_of_getElem? hj)
  have x := S.own _ (List.mem_of_getElem? hk)
  exact X _ _ _ _ _ _ _ _ _ _ _ _ _ S.g S.po.keep z.1 ho z.2.2.1 y.1 hp y.2.2.1 x.1 hq x.2.2.1 (S.apart hi hj hij) (S.apart hi hk hik) (S.apart hj hk hjk) hlr hlw hh hroom hu
    fun v ps e o' p' q' B' s' a b d f g g' h1 h2 h3 P => h s' B' v (.set ps e) o' p' q' _ _ a (by obtain ⟨a, _, _, _, e, _⟩ := a; exact ⟨a, e⟩) trivial b d f (fun _ => Iff.rfl) (fun _ => Iff.rfl) (by omega) (by omega) P.sub (S.back3 P hi hj hk hij hik hjk h1 h2 h3)
theorem S_stmt {i j k d : Nat} {row read kept : Addr} {n : Int} {t : Tok} {o p q : Obj} {rs ws : List Int} {Q : Value → Shared → Prop} (S : St c B L m σ s) (X : StmtSpec prog w c.G d) (hi : σ[i]? = some (row, o)) (ho : RowO o) (hj : σ[j]? = some (read, p)) (hp : IntsO p rs)
    (hk : σ[k]? = some (kept, q)) (hq : IntsO q ws) (hij : i ≠ j) (hik : i ≠ k) (hjk : j ≠ k) (hn : n = (d : Int)) (hlr : rs.length + 30 * 4 ^ d ≤ 60000) (hlw : ws.length + 30 * 4 ^ d ≤ 60000) (hh : A.handled = none) (hroom : A.depth + 30 + d < recursionLimit) (hu : A.units + 500 + 10 * d < cLine)
    (h : ∀ s' B' v st o' p' q' rs' ws', SIn B' st v → (∃ a, v = .ref a) → goodS st d → RowO o' → IntsO p' (rs ++ rs') → IntsO q' (ws ++ ws') → (∀ k, k ∈ rs' ↔ k ∈ readsS st) → (∀ k, k ∈ ws' ↔ k ∈ writesS st) → rs'.length ≤ 30 * 4 ^ d → ws'.length ≤ 30 * 4 ^ d → Sub B B' →
      St c B' L m (((σ.set i (row, o')).set j (read, p')).set k (kept, q')) s' → Q v s') :
    wpAny (model prog w) A (call (.ref 167) [.ref row, .ref read, .ref kept, .int n t]) Q E s := by
  subst hn
  have z := S.own _ (List.mem_of_getElem? hi)
  have y := S.own _ (List.mem_of_getElem? hj)
  have x := S.own _ (List.mem_of_getElem? hk)
  exact X _ _ _ _ _ _ _ _ _ _ _ _ _ _ S.g S.po.keep z.1 ho z.2.2.1 y.1 hp y.2.2.1 x.1 hq x.2.2.1 (S.apart hi hj hij) (S.apart hi hk hik) (S.apart hj hk hjk) hlr hlw hh hroom hu
    fun v st o' p' q' rs' ws' B' s' a a' gd b d f g g' e e' h1 h2 h3 P => h s' B' v st o' p' q' rs' ws' a a' gd b d f g g' e e' P.sub (S.back3 P hi hj hk hij hik hjk h1 h2 h3)
end
local macro_rules | `(tactic| walk_at "m-call") => `(tactic| ((with_reducible show wpAny _ _ (call (Value.ref 162) [Value.ref _, Value.ref _, Value.ref _]) _ _ _); (with_reducible rename St _ _ _ _ _ _ => S0); refine S_set S0 (by assumption) (by walk_at "m-idx") (by assumption) (by walk_at "m-idx") (by assumption) (by walk_at "m-idx") (by assumption) (by decide) (by decide) (by decide) (by walk_at "m-len") (by walk_at "m-len") (by assumption) (by omega) (by omega) ?_; clear S0; intro s' B' v' st' o' p' q' rs' ws' hv' hr' hgd' ho' hp' hq' hm' hm2' hl' hl2' hsub' S'; (try dsimp only [List.set_cons_zero, List.set_cons_succ] at S')))
local macro_rules | `(tactic| walk_at "m-call") => `(tactic| ((with_reducible show wpAny _ _ (call (Value.ref 167) [Value.ref _, Value.ref _, Value.ref _, Value.int _ _]) _ _ _); (with_reducible rename St _ _ _ _ _ _ => S0); (first | (refine S_stmt S0 (by assumption) (by walk_at "m-idx") (by assumption) (by walk_at "m-idx") (by assumption) (by walk_at "m-idx") (by assumption) (by decide) (by decide) (by decide) (by omega) (by walk_at "m-len") (by walk_at "m-len") (by assumption) (by omega) (by omega) ?_) | (refine S_stmt (d := 0) S0 (by assumption) (by walk_at "m-idx") (by assumption) (by walk_at "m-idx") (by assumption) (by walk_at "m-idx") (by assumption) (by decide) (by decide) (by decide) (by omega) (by walk_at "m-len") (by walk_at "m-len") (by assumption) (by omega) (by omega) ?_)); clear S0; intro s' B' v' st' o' p' q' rs' ws' hv' hr' hgd' ho' hp' hq' hm' hm2' hl' hl2' hsub' S'; (try dsimp only [List.set_cons_zero, List.set_cons_succ] at S')))

def blockOf : List PS → PS
  | [] => .block0
  | [a] => .block1 a
  | a :: b :: _ => .block2 a b
theorem block_reads : ∀ {sts : List PS}, sts.length ≤ 2 → ∀ k, k ∈ sts.flatMap readsS ↔ k ∈ readsS (blockOf sts)
  | [], _, k => by simp [blockOf, readsS]
  | [a], _, k => by simp [blockOf, readsS]
  | [a, b], _, k => by simp [blockOf, readsS]
  | _ :: _ :: _ :: _, h, _ => by simp only [List.length_cons] at h; omega
theorem block_writes : ∀ {sts : List PS}, sts.length ≤ 2 → ∀ k, k ∈ sts.flatMap writesS ↔ k ∈ writesS (blockOf sts)
  | [], _, k => by simp [blockOf, writesS]
  | [a], _, k => by simp [blockOf, writesS]
  | [a, b], _, k => by simp [blockOf, writesS]
  | _ :: _ :: _ :: _, h, _ => by simp only [List.length_cons] at h; omega
theorem block_good {d : Nat} : ∀ {sts : List PS}, sts.length ≤ 2 → (∀ x ∈ sts, goodS x d) → goodS (blockOf sts) (d + 1)
  | [], _, _ => trivial
  | [a], _, h => ⟨by omega, h a (by simp)⟩
  | [a, b], _, h => ⟨by omega, h a (by simp), h b (by simp)⟩
  | _ :: _ :: _ :: _, h, _ => by simp only [List.length_cons] at h; omega
theorem block_in {B : Base} {a l : Addr} {t : Tok} {x : Value} {k : Nat} {vs : List Value} (ha : B a = some (tupO [.str (Str.ofString "block") t, .ref l, x])) (hl : B l = some (lstO vs k)) {sts : List PS} (hn : sts.length ≤ 2) (h : All2 (SIn B) sts vs) : SIn B (blockOf sts) (.ref a) := by
  cases h with
  | nil => exact ⟨a, t, l, x, k, rfl, ha, hl⟩
  | cons h1 h => cases h with
    | nil => exact ⟨a, t, l, x, k, _, rfl, ha, hl, h1⟩
    | cons h2 h => cases h with
      | nil => exact ⟨a, t, l, x, k, _, _, rfl, ha, hl, h1, h2⟩
      | cons _ _ => simp only [List.length_cons] at hn; omega

theorem stmt_step {prog : Program} {w : World} {G : Heap} (W : Wd w G) (d : Nat) (hd3 : d ≤ 3) (ih : ∀ d', d' < d → StmtSpec prog w G d') : StmtSpec prog w G d := by
  intro A s B row read kept t o p q rs ws Q E hg hk hr ho hBr hp hpo hBp hq hqo hBq hne1 hne2 hne3 hlr hlw hh hroom hu hQ
  refine enterC (M := [row, read, kept]) (binds := [(Str.ofString "row", .ref row), (Str.ofString "read", .ref read), (Str.ofString "kept_keys", .ref kept), (Str.ofString "deep", .int d t)]) W hg hk (by omega) (by rfl) (by kernel_rfl) (by rfl) (by rfl) ?_ (by rfl) (by rfl) (by rfl)
  intro L s₁ kinds cm hL hk₁ hkinds hcm S hcells
  subst hkinds
  subst hcm
  obtain ⟨l1, o1, g1, d1⟩ := hcells (Str.ofString "row") _ (by rfl)
  obtain ⟨l2, o2, g2, d2⟩ := hcells (Str.ofString "read") _ (by rfl)
  obtain ⟨l3, o3, g3, d3⟩ := hcells (Str.ofString "kept_keys") _ (by rfl)
  obtain ⟨l4, o4, g4, d4⟩ := hcells (Str.ofString "deep") _ (by rfl)
  have hBn : ∀ a, L < a → B a = none := fun a ha => by
    cases q : B a with
    | none => rfl
    | some o => exact absurd (Heap.lt_size (hk _ _ q)) (Nat.not_lt.mpr (Nat.le_trans hL (Nat.le_of_lt ha)))
  have ne : ∀ a x : Addr, a < s.heap.objs.size → L < x → a ≠ x := fun a x h1 h2 => Nat.ne_of_lt (Nat.lt_of_lt_of_le h1 (Nat.le_trans hL (Nat.le_of_lt h2)))
  replace d1 : o1.data = .cell (some (.ref row)) := d1
  replace d2 : o2.data = .cell (some (.ref read)) := d2
  replace d3 : o3.data = .cell (some (.ref kept)) := d3
  replace d4 : o4.data = .cell (some (.int d t)) := d4
  replace S := S.adopt g4 l4 (hBn _ l4) (fun z => nomatch z)
  replace S := S.adopt g3 l3 (hBn _ l3) (by simp)
  replace S := S.adopt g2 l2 (hBn _ l2) (by simp)
  replace S := S.adopt g1 l1 (hBn _ l1) (by simp)
  have nin : ∀ a, a < s.heap.objs.size → a ∉ [(L + 1, o1), (L + 1 + 1, o2), (L + 1 + 1 + 1, o3), (L + 1 + 1 + 1 + 1, o4)].map (·.1) := fun a ha z => by
    simp only [List.map_cons, List.map_nil, List.mem_cons, List.not_mem_nil, or_false] at z
    rcases z with z | z | z | z
    · exact ne _ _ ha l1 z
    · exact ne _ _ ha l2 z
    · exact ne _ _ ha l3 z
    · exact ne _ _ ha l4 z
  replace S := S.take (a := kept) (.tail _ (.tail _ (.head _))) (hk₁ _ _ hq) (Heap.lt_size hq) hBq (nin _ (Heap.lt_size hq))
  replace S := S.take (a := read) (.tail _ (.head _)) (hk₁ _ _ hp) (Heap.lt_size hp) hBp (fun z => by rcases List.mem_cons.mp z with z | z; exact hne3 z; exact nin _ (Heap.lt_size hp) z)
  replace S := S.take (a := row) (.head _) (hk₁ _ _ hr) (Heap.lt_size hr) hBr (fun z => by rcases List.mem_cons.mp z with z | z; exact hne1 z; rcases List.mem_cons.mp z with z | z; exact hne2 z; exact nin _ (Heap.lt_size hr) z)
  clear g1 g2 g3 g4 nin ne hBn hcells
  generalize bindL _ _ _ = m₀ at S
  generalize hA : A.deeper (envX _ _ _ _ _ _) = A'
  have hd' : A'.depth + 29 + d < recursionLimit := by rw [← hA]; show A.depth + 1 + 29 + d < _; omega
  have hu' : A'.units + 497 + 10 * d < cLine := by rw [← hA]; show A.units + 3 + 497 + 10 * d < cLine; omega
  have hh' : A'.handled = none := by rw [← hA]; exact hh
  clear hA
  have X0 := expr_all (prog := prog) W 0 (by decide)
  have X1 := expr_all (prog := prog) W 1 (by decide)
  have XS := set_spec (prog := prog) W
  rcases d with _ | d
  · repeat' (first | walk_at "m" | walk_at "m-split")
    rename St _ _ _ _ _ _ => T
    exact hQ _ _ _ _ _ _ _ _ _ (by assumption) (by assumption) (by walk_at "m-goodS") (by assumption) (by assumption) (by assumption) (by assumption) (by assumption) (by omega) (by omega) (T.own (row, _) (.head _)).1 (T.own (read, _) (.tail _ (.head _))).1 (T.own (kept, _) (.tail _ (.tail _ (.head _)))).1 T.po
  · have ih0 : StmtSpec prog w G 0 := ih 0 (Nat.zero_lt_succ _)
    have ihd : StmtSpec prog w G d := ih d (Nat.lt_succ_self _)
    have e4 : 4 ^ (d + 1) = 4 * 4 ^ d := by rw [Nat.pow_succ, Nat.mul_comm]
    rw [e4] at hlr hlw hQ
    have p4 : 0 < 4 ^ d := Nat.pow_pos (by decide)
    repeat' (first | walk_at "m" | walk_at "m-split")
    · -- set
      rename St _ _ _ _ _ _ => TT
      exact hQ _ _ _ _ _ _ _ _ _ (by assumption) (by assumption) (by walk_at "m-goodS") (by assumption) (by assumption) (by assumption) (by assumption) (by assumption) (by omega) (by omega) (TT.getAt (by walk_at "m-idx")) (TT.getAt (by walk_at "m-idx")) (TT.getAt (by walk_at "m-idx")) TT.po
    · -- if with else
      rename St _ _ _ _ _ _ => T0
      have TT := St.ins T0 (by assumption)
      have u0 := St.insSub T0
      exact hQ _ (.if2 _ _ _) _ _ _ _ _ _ _ ⟨_, _, _, _, _, rfl, St.insAt T0, by walk_at "m-ein", by walk_at "m-sin", by walk_at "m-sin"⟩ ⟨_, rfl⟩ (by walk_at "m-goodS") (by assumption) (IntsO.a3 (by assumption)) (IntsO.a2 (by assumption)) (by walk_at "m-mem") (by walk_at "m-mem") (by walk_at "m-lenS") (by walk_at "m-lenS")
        (TT.getAt (by walk_at "m-idx")) (TT.getAt (by walk_at "m-idx")) (TT.getAt (by walk_at "m-idx")) TT.po
    · -- if
      rename St _ _ _ _ _ _ => T0
      have TT := St.ins T0 (by assumption)
      have u0 := St.insSub T0
      exact hQ _ (.if1 _ _) _ _ _ _ _ _ _ ⟨_, _, _, _, rfl, St.insAt T0, by walk_at "m-ein", by walk_at "m-sin"⟩ ⟨_, rfl⟩ (by walk_at "m-goodS") (by assumption) (IntsO.a2 (by assumption)) (by assumption) (by walk_at "m-mem") (by walk_at "m-mem") (by walk_at "m-lenS") (by walk_at "m-lenS")
        (TT.getAt (by walk_at "m-idx")) (TT.getAt (by walk_at "m-idx")) (TT.getAt (by walk_at "m-idx")) TT.po
    · -- case
      rename St _ _ _ _ _ _ => T0
      have T1 := St.ins T0 (by assumption)
      have u0 := St.insSub T0
      have T2 := St.ins T1 (by assumption)
      have u1 := St.insSub T1
      have T3 := St.ins T2 (by assumption)
      have u2 := St.insSub T2
      have T4 := St.ins T3 (by assumption)
      have u3 := St.insSub T3
      have TT := St.ins T4 (by assumption)
      have u4 := St.insSub T4
      exact hQ _ (.case _ _ _ _) _ _ _ _ _ _ _ ⟨_, _, _, _, _, _, _, _, _, _, _, _, rfl, u4 _ _ (u3 _ _ (u2 _ _ (u1 _ _ (St.insAt T0)))), u4 _ _ (u3 _ _ (St.insAt T2)), u4 _ _ (St.insAt T3), St.insAt T4, u4 _ _ (u3 _ _ (u2 _ _ (St.insAt T1))), by walk_at "m-ein", by walk_at "m-ein", by walk_at "m-sin", by walk_at "m-sin"⟩ ⟨_, rfl⟩ (by walk_at "m-goodS") (by assumption) (IntsO.a4 (by assumption)) (IntsO.a2 (by assumption)) (by walk_at "m-mem") (by walk_at "m-mem") (by walk_at "m-lenS") (by walk_at "m-lenS")
        (TT.getAt (by walk_at "m-idx")) (TT.getAt (by walk_at "m-idx")) (TT.getAt (by walk_at "m-idx")) TT.po
    · -- block
      refine ListComp_in (cl := [(Str.ofString "row", L + 1), (Str.ofString "read", L + 1 + 1), (Str.ofString "kept_keys", L + 1 + 1 + 1), (Str.ofString "deep", L + 1 + 1 + 1 + 1)]) ⟨by rfl, by decide, rfl, by decide, by rfl⟩ ?_
      repeat (walk_at "m")
      rename_i j _ _ hj0 hj1 _ _ ra _ _ _ hra S₁
      obtain ⟨n, rfl⟩ := Int.eq_ofNat_of_zero_le hj0
      have hN : ∀ i, i ≤ 2 → 30 * 4 ^ d * i ≤ 30 * 4 ^ d * 2 := fun i hi => Nat.mul_le_mul_left _ hi
      refine S_compRange S₁ hh' idx0 (by omega) ⟨by rfl, by decide, rfl, by decide, by rfl⟩ (fun i B τ vs => ∃ rg o p q sts rs' ws', τ = [(ra, rg), (row, o), (read, p), (kept, q), (L + 1, o1), (L + 1 + 1, o2), (L + 1 + 1 + 1, o3), (L + 1 + 1 + 1 + 1, o4)] ∧
          RowO o ∧ IntsO p (rs ++ rs') ∧ IntsO q (ws ++ ws') ∧ All2 (SIn B) sts vs ∧ sts.length = i ∧ (∀ x ∈ sts, goodS x d) ∧ (∀ k, k ∈ rs' ↔ k ∈ sts.flatMap readsS) ∧ (∀ k, k ∈ ws' ↔ k ∈ sts.flatMap writesS) ∧ rs'.length ≤ 30 * 4 ^ d * i ∧ ws'.length ≤ 30 * 4 ^ d * i)
        ⟨_, _, _, _, [], [], [], rfl, by assumption, by simpa using hpo, by simpa using hqo, .nil, rfl, by simp, by simp, by simp, by simp, by simp⟩ ?_ ?_
      · clear S₁ hpo hqo
        rintro C it D i B₂ m₂ τ vs v oi k s₂ hi ⟨rg, o₂, p₂, q₂, sts, rs', ws', rfl, ho₂, hp₂, hq₂, hsts, hsl, hgs, hmr, hmw, hlr', hlw'⟩ T
        refine wpAny_tests_nil ?_
        rw [if_pos rfl]
        have hNi := hN i (by omega)
        repeat (walk_at "m")
        rename St _ _ _ _ _ _ => T'
        refine ⟨_, _, _, by assumption, ⟨_, _, _, _, sts ++ [_], _, _, rfl, by assumption, IntsO.a2 (by assumption), IntsO.a2 (by assumption), (hsts.mono fun _ _ z => SIn.mono (by assumption) z).snoc (by assumption), by simp [hsl], ?_, ?_, ?_, ?_, ?_⟩, T'⟩
        · intro x hx
          rcases List.mem_append.mp hx with hx | hx
          · exact hgs x hx
          · rw [List.mem_singleton.mp hx]; assumption
        · intro k; simp only [List.flatMap_append, List.flatMap_cons, List.flatMap_nil, List.append_nil, List.mem_append, *]
        · intro k; simp only [List.flatMap_append, List.flatMap_cons, List.flatMap_nil, List.append_nil, List.mem_append, *]
        · rw [List.length_append, Nat.mul_succ]; omega
        · rw [List.length_append, Nat.mul_succ]; omega
      · rintro C D B₂ m₂ τ vs k s₂ hLD ⟨rg, o₂, p₂, q₂, sts, rs', ws', rfl, ho₂, hp₂, hq₂, hsts, hsl, hgs, hmr, hmw, hlr', hlw'⟩ T
        refine post_none S₁ T fun s₃ U => ?_
        clear S₁ T hpo hqo
        repeat (walk_at "m")
        rename St _ _ _ _ _ _ => T0
        have T1 := St.ins T0 (by assumption)
        have u0 := St.insSub T0
        have TT := St.ins T1 hLD
        have u1 := St.insSub T1
        have hsl2 : sts.length ≤ 2 := by omega
        have hNi := hN n (by omega)
        exact hQ _ (blockOf sts) _ _ _ _ _ _ _ (block_in (u1 _ _ (St.insAt T0)) (St.insAt T1) hsl2 (hsts.mono fun _ _ z => SIn.mono (by walk_at "m-subT") z)) ⟨_, rfl⟩ (block_good hsl2 hgs) ho₂ hp₂ hq₂
          (fun k => (hmr k).trans (block_reads hsl2 k)) (fun k => (hmw k).trans (block_writes hsl2 k)) (by omega) (by omega) (TT.getAt (by walk_at "m-idx")) (TT.getAt (by walk_at "m-idx")) (TT.getAt (by walk_at "m-idx")) TT.po
    · -- while
      rename St _ _ _ _ _ _ => T0
      have TT := St.ins T0 (by assumption)
      have u0 := St.insSub T0
      exact hQ _ (.loop _ _) _ _ _ _ _ _ _ ⟨_, _, _, _, rfl, St.insAt T0, by walk_at "m-ein", by walk_at "m-sin"⟩ ⟨_, rfl⟩ (by walk_at "m-goodS") (by assumption) (IntsO.a2 (by assumption)) (by assumption) (by walk_at "m-mem") (by walk_at "m-mem") (by walk_at "m-lenS") (by walk_at "m-lenS")
        (TT.getAt (by walk_at "m-idx")) (TT.getAt (by walk_at "m-idx")) (TT.getAt (by walk_at "m-idx")) TT.po
    · -- for
      rename St _ _ _ _ _ _ => T0
      have TT := St.ins T0 (by assumption)
      have u0 := St.insSub T0
      exact hQ _ (.for_ _ _ _ _) _ _ _ _ _ _ _ ⟨_, _, _, _, _, _, rfl, St.insAt T0, by walk_at "m-sin", by walk_at "m-ein", by walk_at "m-sin", by walk_at "m-sin"⟩ ⟨_, rfl⟩ (by walk_at "m-goodS") (by assumption) (IntsO.a4 (by assumption)) (IntsO.a3 (by assumption)) (by walk_at "m-mem") (by walk_at "m-mem") (by walk_at "m-lenS") (by walk_at "m-lenS")
        (TT.getAt (by walk_at "m-idx")) (TT.getAt (by walk_at "m-idx")) (TT.getAt (by walk_at "m-idx")) TT.po
    · -- wait
      rename St _ _ _ _ _ _ => T0
      have TT := St.ins T0 (by assumption)
      have u0 := St.insSub T0
      exact hQ _ (.wait _) _ _ _ _ _ _ _ ⟨_, _, _, _, rfl, St.insAt T0, by walk_at "m-sin"⟩ ⟨_, rfl⟩ (by walk_at "m-goodS") (by assumption) (by assumption) (by assumption) (by walk_at "m-mem") (by walk_at "m-mem") (by walk_at "m-lenS") (by walk_at "m-lenS")
        (TT.getAt (by walk_at "m-idx")) (TT.getAt (by walk_at "m-idx")) (TT.getAt (by walk_at "m-idx")) TT.po
    · -- await
      rename St _ _ _ _ _ _ => T0
      have TT := St.ins T0 (by assumption)
      have u0 := St.insSub T0
      exact hQ _ (.await _) _ _ _ _ _ _ _ ⟨_, _, _, _, rfl, St.insAt T0, by walk_at "m-sin"⟩ ⟨_, rfl⟩ (by walk_at "m-goodS") (by assumption) (by assumption) (by assumption) (by walk_at "m-mem") (by walk_at "m-mem") (by walk_at "m-lenS") (by walk_at "m-lenS")
        (TT.getAt (by walk_at "m-idx")) (TT.getAt (by walk_at "m-idx")) (TT.getAt (by walk_at "m-idx")) TT.po

theorem stmt_all {prog : Program} {w : World} {G : Heap} (W : Wd w G) (d : Nat) : d ≤ 3 → StmtSpec prog w G d := by
  induction d using Nat.strongRecOn with
  | ind d ih => exact fun h => stmt_step W d h fun d' hd' => ih d' hd' (by omega)

end
section
theorem St.swap {c : Cx} {B : Base} {L : Addr} {m : Str → Option Value} {σ : List (Addr × Obj)} {s : Shared} {p q : Addr × Obj} (S : St c B L m (p :: q :: σ) s) : St c B L m (q :: p :: σ) s :=
  ⟨S.ns, S.g, S.above, S.po, S.fr, fun r hr => S.own r (by rcases List.mem_cons.mp hr with rfl | hr; exact .tail _ (.head _); rcases List.mem_cons.mp hr with rfl | hr; exact .head _; exact .tail _ (.tail _ hr)), by
    have := S.nd
    simp only [List.map_cons, List.nodup_cons, List.mem_cons, not_or] at this ⊢
    exact ⟨⟨Ne.symm this.1.1, this.2.1⟩, this.1.2, this.2.2⟩⟩
theorem iterRevT (prog : Program) (w : World) (it l : Addr) (vs : List Value) (hz : vs.length < 1000) :
    Iter prog w it vs.length (fun i o => o = revTupObj l ((vs.length : Int) - 1 - i)) (fun B => B l = some (tupO vs)) (fun i v => vs.reverse[i]? = some v) where
  mono hs h := hs _ _ h
  next := fun {A c B L m σ s i o Q E} hi ho hs S h => by
    have e : ((vs.length : Int) - 1 - i) = ((vs.length - 1 - i : Nat) : Int) := by omega
    rw [e] at ho
    subst ho
    refine pyNext_revTup_item (i := vs.length - 1 - i) (vs := vs) (x := vs[vs.length - 1 - i]) (S.own _ (.head _)).1 (S.po.keep _ _ hs) (by omega) (List.getElem?_eq_getElem (by omega)) (fun h' tk hit hsb => ?_)
    refine h _ _ _ (by rw [List.getElem?_reverse hi]; exact List.getElem?_eq_getElem (by omega)) rfl (S.setD (i := 0) (s' := { s with heap := h', toks := tk }) rfl hsb ?_ (Like.mk _ _ _))
    have e2 : ((vs.length - 1 - i : Nat) : Int) - 1 = (vs.length : Int) - 1 - ((i + 1 : Nat) : Int) := by omega
    rw [e2] at hit
    exact hit
  fin := fun {A c B L m σ s o Q E} hh ho hs S h => by
    have e : ((vs.length : Int) - 1 - (vs.length : Nat)) = -1 := by omega
    rw [e] at ho
    subst ho
    exact pyNext_revTup_end hh (S.own _ (.head _)).1 (fun h' he => h _ (S.drop0 he (Like.mk _ _ _)))
section
variable {prog : Program} {w : World} {A : Around} {E : Value → Shared → Prop} {s : Shared} {c : Cx} {B : Base} {L f : Addr} {m : Str → Option Value} {σ : List (Addr × Obj)}
  {cn : Str} {cs : Scope} {ccd : Value} {cl : List (Str × Addr)}
theorem S_revTup {t : Addr} {vs : List Value} {Q : Value → Shared → Prop} (S : St c B L m σ s) (hB : B t = some (tupO vs)) (hz : vs.length < 1000)
    (h : ∀ r s', L < r → St c B L m ((r, revTupObj t ((vs.length : Int) - 1)) :: σ) s' → Q (.ref r) s') : wpAny (model prog w) A (call (.type "reversed") [.ref t]) Q E s :=
  call_rev_tuple (S.po.keep _ _ hB) hz (h _ _ S.ltL ((S.push _ (Heap.get?_push_size _ rfl)).toks _))
theorem S_revList {l : Addr} {vs : List Value} {k : Nat} {Q : Value → Shared → Prop} (S : St c B L m σ s) (hB : B l = some (lstO vs k))
    (h : ∀ r s', L < r → St c B L m ((r, revObj l ((vs.length : Int) - 1)) :: σ) s' → Q (.ref r) s') : wpAny (model prog w) A (call (.type "reversed") [.ref l]) Q E s := by
  refine call_reversed_list ⟨_, S.po.keep _ _ hB, rfl, k, rfl⟩ ?_
  have := S.push (revObj l ((vs.length : Int) - 1)) (Heap.get?_push_size _ rfl)
  exact h _ _ S.ltL (by simpa using this)
theorem S_forRevT {r l : Addr} {vs : List Value} {x : Str} {px : Pos} {body : List Stmt} {Q : Flow → Shared → Prop} {Er : Value → Shared → Prop}
    (S : St c B L m ((r, revTupObj l ((vs.length : Int) - 1)) :: σ) s) (hh : A.handled = none) (hl : B l = some (tupO vs)) (hz : vs.length < 1000)
    (Inv : Nat → Base → (Str → Option Value) → List (Addr × Obj) → Prop) (h0 : Inv 0 B m σ)
    (step : ∀ i B m σ s v o, i < vs.length → vs.reverse[i]? = some v → Inv i B m σ → St c B L (upd m x v) ((r, o) :: σ) s →
      wpAny (model prog w) A (execs body (envX cn cs L f ccd cl)) (fun fl s' => fl = .next ∧ ∃ B' m' σ', Sub B B' ∧ Inv (i + 1) B' m' σ' ∧ St c B' L m' ((r, o) :: σ') s') (fun _ _ => False) s)
    (fin : ∀ B m σ s, B l = some (tupO vs) → Inv vs.length B m σ → St c B L m σ s → Q .next s)
    (hk : cs.kind = .function := by rfl) (hx : (envX cn cs L f ccd cl).kindOf x = some .local := by rfl) :
    wpAny (model prog w) A (pyIter (.ref r)) (fun it s₂ => codeAny (model prog w) A (.forLoop (.Name x px) it body [] (envX cn cs L f ccd cl)) (fun r s' => match r with | .ok f => Q f s' | .error e => Er e s') s₂) E s :=
  pyIter_revTup (S.own _ (.head _)).1 (S_loop (iterRevT prog w r l vs hz) hh S (by simp) hl Inv h0 (fun i B m σ s v o hi hv _ hI T => step i B m σ s v o hi hv hI T) fin hk hx)
theorem S_forRevL {r l : Addr} {vs : List Value} {k : Nat} {x : Str} {px : Pos} {body : List Stmt} {Q : Flow → Shared → Prop} {Er : Value → Shared → Prop}
    (S : St c B L m ((r, revObj l ((vs.length : Int) - 1)) :: σ) s) (hh : A.handled = none) (hl : B l = some (lstO vs k))
    (Inv : Nat → Base → (Str → Option Value) → List (Addr × Obj) → Prop) (h0 : Inv 0 B m σ)
    (step : ∀ i B m σ s v o, i < vs.length → vs.reverse[i]? = some v → Inv i B m σ → St c B L (upd m x v) ((r, o) :: σ) s →
      wpAny (model prog w) A (execs body (envX cn cs L f ccd cl)) (fun fl s' => fl = .next ∧ ∃ B' m' σ', Sub B B' ∧ Inv (i + 1) B' m' σ' ∧ St c B' L m' ((r, o) :: σ') s') (fun _ _ => False) s)
    (fin : ∀ B m σ s, B l = some (lstO vs k) → Inv vs.length B m σ → St c B L m σ s → Q .next s)
    (hk : cs.kind = .function := by rfl) (hx : (envX cn cs L f ccd cl).kindOf x = some .local := by rfl) :
    wpAny (model prog w) A (pyIter (.ref r)) (fun it s₂ => codeAny (model prog w) A (.forLoop (.Name x px) it body [] (envX cn cs L f ccd cl)) (fun r s' => match r with | .ok f => Q f s' | .error e => Er e s') s₂) E s :=
  wpAny_pyIter_revIter (i := (vs.length : Int) - 1) ⟨_, (S.own _ (.head _)).1, rfl, rfl⟩ (S_loop (iterRev prog w r l vs k) hh S (by simp [revObj]) hl Inv h0 (fun i B m σ s v o hi hv _ hI T => step i B m σ s v o hi hv hI T) fin hk hx)
theorem S_truthyList {i k : Nat} {l : Addr} {vs : List Value} {Q : Bool → Shared → Prop} (S : St c B L m σ s) (hi : σ[i]? = some (l, lstO vs k)) (hz : vs.length ≤ 16777216) (h : ∀ s', St c B L m σ s' → Q (!vs.isEmpty) s') :
    wpAny (model prog w) A (truthy (.ref l)) Q E s := by
  refine wpAny_truthy_list ⟨_, (S.own _ (List.mem_of_getElem? hi)).1, rfl, k, rfl⟩ (by simp; omega) ?_
  have : vs.toArray.isEmpty = vs.isEmpty := by cases vs <;> rfl
  rw [this]
  exact h _ (S.toks _)
end

def childrenE : PE → List PE
  | .sig _ => []
  | .const => []
  | .word _ e => [e]
  | .un e => [e]
  | .cond a b c => [a, b, c]
  | .pick a b => [a, b]
  | .bin a b => [a, b]
theorem children_spec {prog : Program} {w : World} {G : Heap} (W : Wd w G) {A : Around} {s : Shared} {B : Base} {v : Value} {e : PE} {Q E : Value → Shared → Prop}
    (hg : ∀ b o, G.get? b = some o → B b = some o) (hk : ∀ b o, B b = some o → s.heap.get? b = some o) (he : EIn0 B e v) (hroom : A.depth < recursionLimit)
    (hQ : ∀ t cs B' s', B' t = some (tupO cs) → All2 (EIn0 B') (childrenE e) cs → Post ⟨G, s, B, []⟩ B' s' → Q (.ref t) s') :
    wpAny (model prog w) A (call (.ref 54) [v]) Q E s := by
  refine enter (M := []) (binds := [(Str.ofString "e", v)]) W hg hk hroom (by rfl) (by kernel_rfl) (by rfl) (locs (by rfl)) ?_ (by decide) (by rfl) (by rfl) (by rfl)
  intro L s₁ hL hk₁ S
  generalize hA : A.deeper (envX _ _ _ _ _ _) = A'
  clear hA
  cases e with
  | sig k =>
    obtain ⟨a, t1, t2, t3, rfl, ha⟩ := he
    repeat (walk_at "m")
    rename St _ _ _ _ _ _ => T0
    have TT := St.ins T0 (by assumption)
    have u0 := St.insSub T0
    exact hQ _ _ _ _ (St.insAt T0) .nil TT.po
  | const =>
    obtain ⟨a, t1, x, y, z, rfl, ha⟩ := he
    repeat (walk_at "m")
    rename St _ _ _ _ _ _ => T0
    have TT := St.ins T0 (by assumption)
    have u0 := St.insSub T0
    exact hQ _ _ _ _ (St.insAt T0) .nil TT.po
  | word k e =>
    obtain ⟨a, t1, t2, t3, u, rfl, ha, h1⟩ := he
    repeat (walk_at "m")
    rename St _ _ _ _ _ _ => T0
    have TT := St.ins T0 (by assumption)
    have u0 := St.insSub T0
    exact hQ _ _ _ _ (St.insAt T0) (.cons (h1.mono u0) .nil) TT.po
  | un e =>
    obtain ⟨a, t1, t2, t3, u, rfl, ha, h1⟩ := he
    repeat (walk_at "m")
    rename St _ _ _ _ _ _ => T0
    have TT := St.ins T0 (by assumption)
    have u0 := St.insSub T0
    exact hQ _ _ _ _ (St.insAt T0) (.cons (h1.mono u0) .nil) TT.po
  | cond x y z =>
    obtain ⟨a, t1, t2, vx, vy, vz, rfl, ha, h1, h2, h3⟩ := he
    repeat (walk_at "m")
    rename St _ _ _ _ _ _ => T0
    have TT := St.ins T0 (by assumption)
    have u0 := St.insSub T0
    exact hQ _ _ _ _ (St.insAt T0) (.cons (h1.mono u0) (.cons (h2.mono u0) (.cons (h3.mono u0) .nil))) TT.po
  | pick x y =>
    obtain ⟨a, t1, t2, t3, t4, vx, vy, rfl, ha, h1, h2⟩ := he
    repeat (walk_at "m")
    rename St _ _ _ _ _ _ => T0
    have TT := St.ins T0 (by assumption)
    have u0 := St.insSub T0
    exact hQ _ _ _ _ (St.insAt T0) (.cons (h1.mono u0) (.cons (h2.mono u0) .nil)) TT.po
  | bin x y =>
    obtain ⟨a, t1, t2, t3, vx, vy, rfl, ha, h1, h2⟩ := he
    repeat (walk_at "m")
    rename St _ _ _ _ _ _ => T0
    have TT := St.ins T0 (by assumption)
    have u0 := St.insSub T0
    exact hQ _ _ _ _ (St.insAt T0) (.cons (h1.mono u0) (.cons (h2.mono u0) .nil)) TT.po

section
variable {prog : Program} {w : World} {A : Around} {E : Value → Shared → Prop} {s : Shared} {c : Cx} {B : Base} {L f : Addr} {m : Str → Option Value} {σ : List (Addr × Obj)}
theorem S_children {v : Value} {e : PE} {Q : Value → Shared → Prop} (S : St c B L m σ s) (W : Wd w c.G) (he : EIn0 B e v) (hroom : A.depth < recursionLimit)
    (h : ∀ t cs B' s', B' t = some (tupO cs) → All2 (EIn0 B') (childrenE e) cs → Sub B B' → St c B' L m σ s' → Q (.ref t) s') : wpAny (model prog w) A (call (.ref 54) [v]) Q E s :=
  children_spec W S.g S.po.keep he hroom fun t cs B' s' h1 h2 P => h t cs B' s' h1 h2 P.sub (S.back0 P)
theorem S_while {test : Expr} {body : List Stmt} {pos : Pos} {env : Env} {n : Nat} {Q : Flow → Shared → Prop} (S : St c B L m σ s) (Inv : Nat → Base → (Str → Option Value) → List (Addr × Obj) → Prop) (h0 : Inv n B m σ)
    (turn : ∀ n B m σ s, Inv n B m σ → St c B L m σ s → wpAny (model prog w) A (isTrue test env (eval test env)) (fun b s₂ =>
      if b = true then wpAny (model prog w) A (execs body env) (fun fl s₃ => fl = .next ∧ ∃ n' B' m' σ', n' < n ∧ Inv n' B' m' σ' ∧ St c B' L m' σ' s₃) (fun _ _ => False) s₂ else Q .next s₂) (fun _ _ => False) s) :
    wpAny (model prog w) A (exec (.While test body [] pos) env) Q E s := by
  refine wpAny_While (codeAny_whileLoop (fun n s => ∃ B m σ, Inv n B m σ ∧ St c B L m σ s) ?_ n ⟨B, m, σ, h0, S⟩)
  rintro n s ⟨B, m, σ, hI, T⟩
  refine wpAny_mono (turn n B m σ s hI T) (fun b s₂ h₂ => ?_) fun _ _ z => z.elim
  cases b with
  | true =>
    simp only [if_true] at h₂ ⊢
    refine wpAny_mono h₂ (fun fl s₃ h₃ => ?_) fun _ _ z => z.elim
    obtain ⟨rfl, n', B', m', σ', hn, hI', T'⟩ := h₃
    exact ⟨n', hn, B', m', σ', hI', T'⟩
  | false =>
    simp only [Bool.false_eq_true, if_false] at h₂ ⊢
    exact wpAny_execs_nil h₂
end

end
local macro_rules | `(tactic| walk_at "m-call") => `(tactic| ((with_reducible show wpAny _ _ (call (Value.builtin "list.pop") [Value.ref _]) _ _ _); (with_reducible rename St _ _ _ _ _ _ => S0); refine S_pop S0 (by walk_at "m-idx") ?_ (by walk_at "m-len"); clear S0; intro s' S'; (try dsimp only [List.set_cons_zero, List.set_cons_succ] at S')))
local macro_rules | `(tactic| walk_at "m-call") => `(tactic| ((with_reducible show wpAny _ _ (call (Value.type "reversed") [Value.ref _]) _ _ _); (with_reducible rename St _ _ _ _ _ _ => S0); (first | (refine S_revTup S0 (by with_reducible assumption) (by omega) ?_) | (refine S_revList S0 (by with_reducible assumption) ?_)); clear S0; intro r' s' hr' S'))
section
local macro_rules | `(tactic| walk_at "m-call") => `(tactic| ((with_reducible show wpAny _ _ (call (Value.ref 54) [_]) _ _ _); (with_reducible rename St _ _ _ _ _ _ => S0); refine S_children S0 (by assumption) (by with_reducible assumption) (by omega) ?_; clear S0; intro t' cs' B' s' hB' hc' hsub' S'))
def headE : PE → List Int
  | .sig k => [k]
  | .word k _ => [k]
  | _ => []
theorem keys_head (e : PE) (k : Int) : k ∈ keysE e ↔ k ∈ headE e ∨ k ∈ (childrenE e).flatMap keysE := by
  cases e <;> simp [keysE, headE, childrenE, or_assoc]
theorem size_children (e : PE) : sizeE e = ((childrenE e).map sizeE).sum + 1 := by
  cases e <;> simp [sizeE, childrenE] <;> omega
theorem children_few (e : PE) : (childrenE e).length ≤ 3 := by cases e <;> simp [childrenE]
theorem All2.append {α β : Type} {R : α → β → Prop} {a a' : List α} {b b' : List β} (x : All2 R a b) (y : All2 R a' b') : All2 R (a ++ a') (b ++ b') := by
  induction x with
  | nil => exact y
  | cons h _ ih => exact .cons h ih
theorem All2.reverse {α β : Type} {R : α → β → Prop} {a : List α} {b : List β} (x : All2 R a b) : All2 R a.reverse b.reverse := by
  induction x with
  | nil => exact .nil
  | cons h _ ih => rw [List.reverse_cons, List.reverse_cons]; exact ih.snoc h
theorem All2.last {α β : Type} {R : α → β → Prop} {a : List α} {b : List β} (h : All2 R a b) : b ≠ [] → ∃ a' x b' y, a = a' ++ [x] ∧ b = b' ++ [y] ∧ All2 R a' b' ∧ R x y := by
  induction h with
  | nil => exact fun h => absurd rfl h
  | cons h t ih =>
    intro _
    cases t with
    | nil => exact ⟨[], _, [], _, rfl, rfl, .nil, h⟩
    | cons h' t =>
      obtain ⟨a', x, b', y, e1, e2, t', hr⟩ := ih (by simp)
      exact ⟨_ :: a', x, _ :: b', y, by rw [e1]; rfl, by rw [e2]; rfl, .cons h t', hr⟩

theorem len_le_sizes (es : List PE) : es.length ≤ (es.map sizeE).sum := by
  induction es with
  | nil => simp
  | cons x r ih => simp only [List.length_cons, List.map_cons, List.sum_cons]; have := size_children x; omega

def SubexprSpec (prog : Program) (w : World) (G : Heap) : Prop :=
  ∀ (A : Around) (s : Shared) (B : Base) (v : Value) (e : PE) (Q E : Value → Shared → Prop),
    (∀ b o, G.get? b = some o → B b = some o) → (∀ b o, B b = some o → s.heap.get? b = some o) → EIn0 B e v → sizeE e ≤ 1000 → A.handled = none → A.depth + 5 < recursionLimit → A.units + 100 < cLine →
    (∀ l vs k es B' s', B' l = some (lstO vs k) → All2 (EIn0 B') es vs → (∀ x, x ∈ es.flatMap headE ↔ x ∈ keysE e) → es.length ≤ 1000 → Post ⟨G, s, B, []⟩ B' s' → Q (.ref l) s') →
    wpAny (model prog w) A (call (.ref 61) [v]) Q E s

theorem subexpr_spec {prog : Program} {w : World} {G : Heap} (W : Wd w G) : SubexprSpec prog w G := by
  intro A s B v e Q E hg hk he hsz hh hroom hu hQ
  refine enter (M := []) (binds := [(Str.ofString "e", v)]) W hg hk (by omega) (by rfl) (by kernel_rfl) (by rfl) (locs (by rfl)) ?_ (by decide) (by rfl) (by rfl) (by rfl)
  intro L s₁ hL hk₁ S
  generalize hA : A.deeper (envX _ _ _ _ _ _) = A'
  have hd' : A'.depth + 3 < recursionLimit := by rw [← hA]; show A.depth + 1 + 3 < _; omega
  have hu' : A'.units + 97 < cLine := by rw [← hA]; show A.units + 3 + 97 < cLine; omega
  have hh' : A'.handled = none := by rw [← hA]; exact hh
  clear hA
  repeat (walk_at "m")
  rename_i fa _ hfa _ sa _ hsa _ S₁
  refine (S_while (n := sizeE e) S₁ (fun n B m σ => ∃ svs ks fvs kf es fs, σ = [(sa, lstO svs ks), (fa, lstO fvs kf)] ∧ All2 (EIn0 B) es svs ∧ All2 (EIn0 B) fs fvs ∧ (es.map sizeE).sum = n ∧ fs.length + n ≤ 1000 ∧
      (∀ k, (k ∈ fs.flatMap headE ∨ k ∈ es.flatMap keysE) ↔ k ∈ keysE e) ∧ m "found" = some (.ref fa) ∧ m "stack" = some (.ref sa))
    ⟨[v], 0, [], 0, [e], [], rfl, .cons he .nil, .nil, by simp, by simpa using hsz, by simp, rfl, rfl⟩ ?_)
  clear S₁
  rintro n B₂ m₂ σ₂ s₂ ⟨svs, ks, fvs, kf, es, fs, rfl, hes, hfs, hn, hl, hkeys, hm1, hm2⟩ S
  have hvl := hes.length
  have hfl := hfs.length
  have hle : es.length ≤ n := hn ▸ len_le_sizes es
  walk_at "m"
  walk_at "m"
  rename St _ _ _ _ _ _ => S
  refine S_truthyList S idx0 (by omega) ?_
  clear S
  intro s₃ S
  by_cases hx : svs = []
  · subst hx
    cases hes
    rw [if_neg (by simp)]
    repeat (walk_at "m")
    rename St _ _ _ _ _ _ => S
    have S' := S.swap
    simp only [List.map_nil, List.sum_nil] at hn
    subst hn
    have S2 := S'.ins hfa
    have u0 := S'.insSub
    exact hQ _ _ _ fs _ _ S'.insAt (hfs.mono fun _ _ h => h.mono u0) (fun k => by simpa using hkeys k) (by omega) S2.po
  · obtain ⟨es', x, ds, y, rfl, rfl, hes', hxy⟩ := hes.last hx
    rw [if_pos (by simp)]
    have hfew := children_few x
    have hsx := size_children x
    simp only [List.length_append, List.length_cons, List.length_nil, List.map_append, List.map_cons, List.map_nil, List.sum_append, List.sum_cons, List.sum_nil] at hle hvl hn
    repeat (walk_at "m")
    rename_i t cs B₃ s₄ hB₃ hc₃ u₃ S
    have hcl := hc₃.length
    walk_at "m"
    rename St _ _ _ _ _ _ => S
    refine S_forRevT S hh' hB₃ (by omega) (fun i B m σ => ∃ kq, σ = [(sa, lstO (ds ++ cs.reverse.take i) kq), (fa, lstO (fvs ++ [y]) (kf + 1))] ∧ Sub B₃ B ∧ m "found" = some (.ref fa) ∧ m "stack" = some (.ref sa))
      ⟨ks + 1, by simp, fun _ _ h => h, hm1, hm2⟩ ?_ ?_
    · clear S
      rintro i B m σ s v o hi hv ⟨ks, rfl, u, hf, hs⟩ S
      have hv' := List.getElem?_eq_some_iff.mp hv
      obtain ⟨hv1, hv2⟩ := hv'
      have htk : (cs.reverse.take i).length ≤ 3 := by rw [List.length_take]; omega
      repeat (walk_at "m")
      rename St _ _ _ _ _ _ => S
      refine ⟨rfl, _, _, _, fun _ _ h => h, ?_, S⟩
      refine ⟨ks + 1, ?_, u, (if_neg (by decide)).trans hf, (if_neg (by decide)).trans hs⟩
      rw [List.take_add_one, hv, List.append_assoc]
      rfl
    · clear S
      rintro B m σ s hl ⟨ks, rfl, u, hf, hs⟩ S
      have ha := hes'.mono fun _ _ h => (h.mono u₃).mono u
      have hb := (hc₃.mono fun _ _ h => h.mono u).reverse
      have hc := (hfs.mono fun _ _ h => (h.mono u₃).mono u).snoc ((hxy.mono u₃).mono u)
      refine hqq.go _ _ (wpAny_execs_nil ⟨rfl, n - 1, _, _, _, by omega, ⟨_, _, _, _, es' ++ (childrenE x).reverse, fs ++ [x], rfl, ?_, hc, ?_, ?_, ?_, hf, hs⟩, S⟩)
      · rw [List.take_of_length_le (by simp)]; exact ha.append hb
      · rw [List.map_append, List.sum_append, List.map_reverse, List.sum_reverse]; omega
      · rw [List.length_append, List.length_singleton]; omega
      · intro k
        rw [← hkeys k]
        have := keys_head x k
        simp only [List.flatMap_append, List.mem_append, List.flatMap_cons, List.flatMap_nil, List.append_nil, List.mem_flatMap, List.mem_reverse] at this ⊢
        rw [this]
        rw [or_assoc, or_left_comm (b := ∃ a, a ∈ es' ∧ k ∈ keysE a)]

end
section
theorem St.grow {c : Cx} {B : Base} {L : Addr} {m : Str → Option Value} {σ : List (Addr × Obj)} {s s' : Shared} (S : St c B L m σ s) (hk : ∀ b o, s.heap.get? b = some o → s'.heap.get? b = some o) (hl : Like s s') : St c B L m σ s' :=
  ⟨S.ns.keeps hk, S.g, S.above, ⟨S.po.sub, S.po.new, fun b o h => hk _ _ (S.po.keep b o h), fun b o hb h => hk _ _ (S.po.ext b o hb h), S.po.lk.trans hl⟩, S.fr,
    fun p hp => ⟨hk _ _ (S.own p hp).1, (S.own p hp).2⟩, S.nd⟩
theorem St.grow1 {c : Cx} {B : Base} {L a : Addr} {o : Obj} {m : Str → Option Value} {σ : List (Addr × Obj)} {s s' : Shared} (S : St c B L m σ s) (hk : ∀ b o, s.heap.get? b = some o → s'.heap.get? b = some o) (hl : Like s s')
    (ha : s.heap.objs.size ≤ a) (ho : s'.heap.get? a = some o) : St c B L m ((a, o) :: σ) s' := by
  have T := S.grow hk hl
  have hLa : L < a := Nat.lt_of_lt_of_le S.ltL ha
  refine ⟨T.ns, T.g, T.above, T.po, T.fr, fun p hp => ?_, ?_⟩
  · rcases List.mem_cons.mp hp with rfl | hp
    · refine ⟨ho, Nat.ne_of_gt hLa, ?_, .inr (Nat.le_of_lt (Nat.lt_of_le_of_lt S.above hLa))⟩
      cases q : B a with
      | none => rfl
      | some x => exact absurd (Heap.lt_size (S.po.keep _ _ q)) (Nat.not_lt.mpr ha)
    · exact T.own p hp
  · rw [List.map_cons, List.nodup_cons]
    refine ⟨fun h => ?_, S.nd⟩
    obtain ⟨p, hp, e⟩ := List.mem_map.mp h
    exact absurd (Heap.lt_size (S.own p hp).1) (by rw [e]; exact Nat.not_lt.mpr ha)

/-- a dictionary whose keys are these ints -/
def DictO (prog : Program) (w : World) (o : Obj) (ks : List Int) : Prop := ∃ kvs : List (Int × Value), o.IsDictOf (PySem.intKind prog w) kvs ∧ kvs.map (·.1) = ks
def addK (ks : List Int) (k : Int) : List Int := if k ∈ ks then ks else ks ++ [k]
theorem mem_addK (ks : List Int) (k x : Int) : x ∈ addK ks k ↔ x ∈ ks ∨ x = k := by
  unfold addK
  split <;> simp
  rintro rfl; assumption
theorem addK_len (ks : List Int) (k : Int) : (addK ks k).length ≤ ks.length + 1 := by
  unfold addK
  split <;> simp
theorem stored_keys (kvs : List (Int × Value)) (k : Int) (v : Value) : (stored kvs k v).map (·.1) = addK (kvs.map (·.1)) k := by
  unfold stored addK
  by_cases h : k ∈ kvs.map (·.1)
  · rw [if_pos h, if_pos (by obtain ⟨p, hp, e⟩ := List.mem_map.mp h; exact List.any_eq_true.mpr ⟨p, hp, by simpa using e⟩), List.map_map]
    apply List.map_congr_left
    intro p _
    show (if p.1 = k then (p.1, v) else p).1 = p.1
    split <;> rfl
  · rw [if_neg h, if_neg (by
      intro q; obtain ⟨p, hp, e⟩ := List.any_eq_true.mp q
      exact h (List.mem_map.mpr ⟨p, hp, by simpa using e⟩)), List.map_append]
    rfl
theorem valueAt_keys (kvs : List (Int × Value)) (k : Int) : (valueAt kvs k).isSome = decide (k ∈ kvs.map (·.1)) := by
  unfold valueAt
  rw [Option.isSome_map, Bool.eq_iff_iff, List.find?_isSome, decide_eq_true_iff, List.mem_map]
  constructor
  · rintro ⟨p, hp, e⟩; exact ⟨p, hp, by simpa using e⟩
  · rintro ⟨p, hp, e⟩; exact ⟨p, hp, by simpa using e⟩
theorem ints_of_items : ∀ (kvs : List (Int × Value)) (vs : List Value), vs.length = kvs.length → (∀ (j : Nat) (v : Value), vs[j]? = some v → ∃ (k : Int) (x : Value), kvs[j]? = some (k, x) ∧ Value.isInt k v = true) → IntsAre vs (kvs.map (·.1))
  | [], [], _, _ => .nil
  | p :: kvs, v :: vs, h, k => by
    obtain ⟨a, x, e, hv⟩ := k 0 v rfl
    obtain ⟨t, rfl⟩ := Value.isInt_shape hv
    cases e
    exact .cons _ _ (ints_of_items kvs vs (by simpa using h) fun j v e => k (j + 1) v e)
  | [], _ :: _, h, _ => by simp at h
  | _ :: _, [], h, _ => by simp at h
theorem DictO.nodup {prog : Program} {w : World} {o : Obj} {ks : List Int} (h : DictO prog w o ks) : ks.Nodup := by
  obtain ⟨kvs, hd, rfl⟩ := h
  exact keysNodup_of_isDictOf hd
section
variable {prog : Program} {w : World} {A : Around} {E : Value → Shared → Prop} {s : Shared} {c : Cx} {B : Base} {L f : Addr} {m : Str → Option Value} {σ : List (Addr × Obj)}
theorem S_dict {env : Env} {pos : Pos} {Q : Value → Shared → Prop} (S : St c B L m σ s) (W : Wd w c.G)
    (h : ∀ d o s', L < d → (d == sysModules) = false → DictO prog w o [] → St c B L m ((d, o) :: σ) s' → Q (.ref d) s') : wpAny (model prog w) A (eval (.Dict [] [] pos) env) Q E s := by
  refine wpAny_Dict_empty ?_
  obtain ⟨mg, mb, T⟩ := W.t
  have hlow := modules_low (T.nolimit.keeps S.grown)
  exact h _ _ _ S.ltL (beq_eq_false_iff_ne.mpr (Nat.ne_of_gt hlow)) ⟨[], ⟨#[], 0, ⟨rfl, rfl, rfl⟩, rfl, (fun e he => by simp at he), .nil, by simp⟩, rfl⟩ (S.push _ (Heap.get?_push_size _ rfl))
theorem S_setItem {i : Nat} {d : Addr} {o : Obj} {ks : List Int} {k : Int} {t : Tok} {v : Value} {Q : Unit → Shared → Prop} (S : St c B L m σ s) (hi : σ[i]? = some (d, o)) (hd : DictO prog w o ks) (hz : ks.length ≤ 16777216)
    (h : ∀ o' s', DictO prog w o' (addK ks k) → St c B L m (σ.set i (d, o')) s' → Q () s') : wpAny (model prog w) A (setItem (.ref d) (.int k t) v) Q E s := by
  obtain ⟨kvs, hd, rfl⟩ := hd
  have hmem := List.mem_of_getElem? hi
  refine wpAny_setItem_pairs (intKind_is prog w k t) (Heap.dictOf_iff.mpr ⟨o, (S.own _ hmem).1, hd⟩) (fun h' hm hs => ?_) (by rw [sizeLine_eq]; simpa using hz)
  obtain ⟨o', ho', hd'⟩ := Heap.dictOf_iff.mp hm
  exact h o' _ ⟨_, hd', stored_keys kvs k v⟩ (S.setD (s' := { s with heap := h', toks := s.toks + 1 }) hi hs ho' (Like.mk _ _ _))
theorem S_notIn {i : Nat} {d : Addr} {o : Obj} {ks : List Int} {k : Int} {t : Tok} {Q : Value → Shared → Prop} (S : St c B L m σ s) (hi : σ[i]? = some (d, o)) (hd : DictO prog w o ks) (lo : (d == sysModules) = false)
    (h : ∀ s', St c B L m σ s' → Q (.bool (!decide (k ∈ ks))) s') : wpAny (model prog w) A (compareOp .NotIn (.int k t) (.ref d)) Q E s := by
  obtain ⟨kvs, hd, rfl⟩ := hd
  have hmem := List.mem_of_getElem? hi
  refine wpAny_notIn_of (intKind_is prog w k t) lo (Heap.dictOf_iff.mpr ⟨o, (S.own _ hmem).1, hd⟩ : Heap.DictOf _ _ _ _).mapOf ?_
  rw [valueAt_keys]
  exact h _ (S.toks _)
theorem S_sorted {i : Nat} {d : Addr} {o : Obj} {ks : List Int} {Q : Value → Shared → Prop} (S : St c B L m σ s) (hh : A.handled = none) (hi : σ[i]? = some (d, o)) (hd : DictO prog w o ks) (lo : (d == sysModules) = false) (hz : ks.length < 64)
    (h : ∀ r vs ks' n s', L < r → IntsAre vs ks' → (∀ x, x ∈ ks' ↔ x ∈ ks) → ks'.length = ks.length → St c B L m ((r, lstO vs n) :: σ) s' → Q (.ref r) s') : wpAny (model prog w) A (call (.builtin "sorted") [.ref d]) Q E s := by
  obtain ⟨kvs, hd, rfl⟩ := hd
  rw [List.length_map] at hz
  have hmem := List.mem_of_getElem? hi
  obtain ⟨ep, hat⟩ := (Heap.dictOf_iff.mpr ⟨o, (S.own _ hmem).1, hd⟩ : s.heap.DictOf (PySem.intKind prog w) d kvs).dictAt
  refine Calls.call_function_entry kind_sorted plain_sorted entry_sorted (args_sorted1 _) ?_
  unfold Builtin.«sorted»
  refine wpAny_bind (m := checkCount "sorted" 1 1 _) (wpAny_pure ?_)
  refine wpAny_bind (kdu_collect (A := A.in1) (kdl_dict (knd := PySem.intKind prog w) (kvs := kvs) (ep := ep) lo) hh hat (by rw [sizeLine_eq]; omega) fun h' tk acc hk hacc => ?_)
  have hl : acc.toList.length = kvs.length := by rw [Array.length_toList]; exact hacc.1
  refine wpAny_bind (wpAny_newList ?_ (by rw [hl, sizeLine_eq]; omega))
  have hI : IntsAre acc.toList (kvs.map (·.1)) := ints_of_items kvs _ hl fun j v e => hacc.2 j v (by rw [← Array.getElem?_toList]; exact e)
  have hoL : (h'.push (seqObj "list" acc.toList.toArray 0)).get? h'.objs.size = some (seqObj "list" acc.toList.toArray 0) := Heap.get?_push_size _ rfl
  refine wpAny_bind (wpAny_holding (wpAny_call_entry slot_list_sort ⟨_, hoL, rfl⟩ entry_list_sort (list_sort_tree hoL hI (by omega) fun out ns' a1 a2 a3 => ⟨_, rfl, ?_⟩) (args_list_sort _)))
  refine wpAny_pure ⟨_, rfl, ?_⟩
  obtain ⟨n, hat'⟩ := sortedHeap_at (vs := acc.toList) (out := out) hoL
  have S' : St c B L m σ { s with heap := h', toks := tk } := S.grow hk (Like.mk _ _ _)
  refine h _ out.toList ns' n { s with heap := sortedHeap (h'.push (seqObj "list" acc.toList.toArray 0)) h'.objs.size acc.toList out, toks := tk } S'.ltL a1 (fun x => a2.mem_iff) a2.length_eq (St.grow1 S' (fun b o hb => ?_) (Like.mk _ _ _) (Nat.le_refl _) (by simpa using hat'))
  show (sortedHeap _ _ _ _).get? b = some o
  have hb' : h'.get? b = some o := hb
  rw [sortedHeap_old (Nat.ne_of_lt (Heap.lt_size hb')) (by rw [size_push']; exact Nat.lt_succ_of_lt (Heap.lt_size hb')), Heap.get?_push_ne _ _ _ (Nat.ne_of_lt (Heap.lt_size hb'))]
  exact hb'
end

end
section
theorem erase_room : ∀ (n : Nat) (ks : List Int), ks.Nodup → (∀ x ∈ ks, 0 ≤ x ∧ x < n) → ks.length ≤ n
  | 0, [], _, _ => Nat.le_refl _
  | 0, x :: _, _, h => by have := h x (.head _); omega
  | n + 1, ks, hn, h => by
    have := erase_room n (ks.erase n) (hn.erase _) (fun x hx => by
      have h1 := (hn.mem_erase_iff).mp hx
      have h2 := h x h1.2
      have h3 := h1.1
      omega)
    have h5 := List.le_length_erase (l := ks) (a := (n : Int))
    omega
theorem DictO.few {prog : Program} {w : World} {o : Obj} {ks : List Int} (h : DictO prog w o ks) (hk : ∀ x ∈ ks, 0 ≤ x ∧ x < 8) : ks.length ≤ 8 := erase_room 8 ks h.nodup hk

section
variable {prog : Program} {w : World} {A : Around} {E : Value → Shared → Prop} {s : Shared} {c : Cx} {B : Base} {L f : Addr} {m : Str → Option Value} {σ : List (Addr × Obj)}
theorem S_subexpr {v : Value} {e : PE} {Q : Value → Shared → Prop} (S : St c B L m σ s) (W : Wd w c.G) (he : EIn0 B e v) (hsz : sizeE e ≤ 1000) (hh : A.handled = none) (hroom : A.depth + 5 < recursionLimit) (hu : A.units + 100 < cLine)
    (h : ∀ l vs k es B' s', B' l = some (lstO vs k) → All2 (EIn0 B') es vs → (∀ x, x ∈ es.flatMap headE ↔ x ∈ keysE e) → es.length ≤ 1000 → Sub B B' → St c B' L m σ s' → Q (.ref l) s') : wpAny (model prog w) A (call (.ref 61) [v]) Q E s :=
  subexpr_spec W _ _ _ _ _ _ _ S.g S.po.keep he hsz hh hroom hu fun l vs k es B' s' h1 h2 h3 h4 P => h l vs k es B' s' h1 h2 h3 h4 P.sub (S.back0 P)
end

end
local macro_rules | `(tactic| walk_at "m-eval") => `(tactic| ((with_reducible show wpAny _ _ (eval (Expr.Dict [] [] _) _) _ _ _); (with_reducible rename St _ _ _ _ _ _ => S0); refine S_dict S0 (by assumption) ?_; clear S0; intro d' o' s' hd' lo' ho' S'))
local macro_rules | `(tactic| walk_at "m-exec") => `(tactic| ((with_reducible show wpAny _ _ (exec (Stmt.Assign [Expr.Subscript _ _ _] _ _) _) _ _ _); refine wpAny_Assign_Subscript ?_))
local macro_rules | `(tactic| walk_at "m") => `(tactic| ((with_reducible show wpAny _ _ (setItem _ _ _) _ _ _); (with_reducible rename St _ _ _ _ _ _ => S0); refine S_setItem S0 (by walk_at "m-idx") (by assumption) (by omega) ?_; clear S0; intro o' s' ho' S'; (try dsimp only [List.set_cons_zero, List.set_cons_succ] at S')))
local macro_rules | `(tactic| walk_at "m-cmp") => `(tactic| ((with_reducible show wpAny _ _ (compareOp CmpOp.NotIn (Value.int _ _) (Value.ref _)) _ _ _); (with_reducible rename St _ _ _ _ _ _ => S0); refine S_notIn S0 (by walk_at "m-idx") (by assumption) (by assumption) ?_; clear S0; intro s' S'))
local macro_rules | `(tactic| walk_at "m-call") => `(tactic| ((with_reducible show wpAny _ _ (call (Value.builtin "sorted") [Value.ref _]) _ _ _); (with_reducible rename St _ _ _ _ _ _ => S0); refine S_sorted S0 (by assumption) (by walk_at "m-idx") (by assumption) (by assumption) (by omega) ?_; clear S0; intro r' vs' ks' n' s' hr' hi' hk' hl' S'))
local macro_rules | `(tactic| walk_at "m-call") => `(tactic| ((with_reducible show wpAny _ _ (call (Value.ref 61) [_]) _ _ _); (with_reducible rename St _ _ _ _ _ _ => S0); refine S_subexpr S0 (by assumption) (by with_reducible assumption) (by omega) (by assumption) (by omega) (by omega) ?_; clear S0; intro l' vs' k' es' B' s' hl' ha' hk' hn' hsub' S'))
section
def ReadsSpec (prog : Program) (w : World) (G : Heap) : Prop :=
  ∀ (A : Around) (s : Shared) (B : Base) (v : Value) (e : PE) (Q E : Value → Shared → Prop),
    (∀ b o, G.get? b = some o → B b = some o) → (∀ b o, B b = some o → s.heap.get? b = some o) → EIn0 B e v → sizeE e ≤ 1000 → (∀ k ∈ keysE e, 0 ≤ k ∧ k < 8) → A.handled = none → A.depth + 7 < recursionLimit → A.units + 200 < cLine →
    (∀ l vs k ks B' s', B' l = some (lstO vs k) → IntsAre vs ks → (∀ x, x ∈ ks ↔ x ∈ keysE e) → ks.length ≤ 8 → Post ⟨G, s, B, []⟩ B' s' → Q (.ref l) s') →
    wpAny (model prog w) A (call (.ref 68) [v]) Q E s
theorem heads_some {es : List PE} {k : Int} {e : PE} (i : Nat) (h : es[i]? = some e) (hk : k ∈ headE e) : k ∈ es.flatMap headE := List.mem_flatMap.mpr ⟨e, List.mem_of_getElem? h, hk⟩
theorem heads_take {es : List PE} {e : PE} {i : Nat} (h : es[i]? = some e) (k : Int) : k ∈ (es.take (i + 1)).flatMap headE ↔ k ∈ (es.take i).flatMap headE ∨ k ∈ headE e := by
  rw [List.take_add_one, h, List.flatMap_append, List.mem_append]
  simp

theorem reads_spec {prog : Program} {w : World} {G : Heap} (W : Wd w G) : ReadsSpec prog w G := by
  intro A s B v e Q E hg hk he hsz hlim hh hroom hu hQ
  refine enter (M := []) (binds := [(Str.ofString "e", v)]) W hg hk (by omega) (by rfl) (by kernel_rfl) (by rfl) (locs (by rfl)) ?_ (by decide) (by rfl) (by rfl) (by rfl)
  intro L s₁ hL hk₁ S
  generalize hA : A.deeper (envX _ _ _ _ _ _) = A'
  have hd' : A'.depth + 5 < recursionLimit := by rw [← hA]; show A.depth + 1 + 5 < _; omega
  have hu' : A'.units + 197 < cLine := by rw [← hA]; show A.units + 3 + 197 < cLine; omega
  have hh' : A'.handled = none := by rw [← hA]; exact hh
  clear hA
  repeat (walk_at "m")
  rename_i d o _ hd lo ho _ l vs k es B₂ s₃ hl hes hks hn hsub S
  refine S_forList S hh' hl (fun i B m σ => Sub B₂ B ∧ ∃ o ks, σ = [(d, o)] ∧ DictO prog w o ks ∧ (∀ x, x ∈ ks ↔ x ∈ (es.take i).flatMap headE) ∧ m "keys" = some (.ref d)) ⟨fun _ _ h => h, _, _, rfl, ho, by simp, rfl⟩ ?_ ?_
  · clear S
    rintro it i B m σ s v o hi hv hl ⟨u, o', ks, rfl, hd', hk', hm⟩ S
    obtain ⟨x, hx, hxv⟩ := hes.at hv
    have hxv' := hxv.mono u
    have hkl : ks.length ≤ 8 := hd'.few fun x hx => hlim x ((hks x).mp (by
      have := (hk' x).mp hx
      obtain ⟨e', he', hxe⟩ := List.mem_flatMap.mp this
      exact List.mem_flatMap.mpr ⟨e', List.mem_of_mem_take he', hxe⟩))
    have hnext := heads_take hx
    clear hxv
    cases x with
    | sig k =>
      obtain ⟨a, t1, t2, t3, rfl, ha⟩ := hxv'
      repeat (walk_at "m")
      rename St _ _ _ _ _ _ => S
      refine ⟨rfl, _, _, _, fun _ _ h => h, ?_, S⟩
      refine ⟨u, _, addK ks k, rfl, by assumption, fun x => ?_, (if_neg (by decide)).trans hm⟩
      rw [mem_addK, hk', hnext]; simp [headE]
    | word k e =>
      obtain ⟨a, t1, t2, t3, u', rfl, ha, h1⟩ := hxv'
      repeat (walk_at "m")
      rename St _ _ _ _ _ _ => S
      refine ⟨rfl, _, _, _, fun _ _ h => h, ?_, S⟩
      refine ⟨u, _, addK ks k, rfl, by assumption, fun x => ?_, (if_neg (by decide)).trans hm⟩
      rw [mem_addK, hk', hnext]; simp [headE]
    | const =>
      obtain ⟨a, t1, x, y, z, rfl, ha⟩ := hxv'
      repeat (walk_at "m")
      rename St _ _ _ _ _ _ => S
      refine ⟨rfl, _, _, _, fun _ _ h => h, ?_, S⟩
      refine ⟨u, _, ks, rfl, by assumption, fun x => ?_, (if_neg (by decide)).trans hm⟩
      rw [hk', hnext]; simp [headE]
    | un e =>
      obtain ⟨a, t1, t2, t3, u', rfl, ha, h1⟩ := hxv'
      repeat (walk_at "m")
      rename St _ _ _ _ _ _ => S
      refine ⟨rfl, _, _, _, fun _ _ h => h, ?_, S⟩
      refine ⟨u, _, ks, rfl, by assumption, fun x => ?_, (if_neg (by decide)).trans hm⟩
      rw [hk', hnext]; simp [headE]
    | cond x y z =>
      obtain ⟨a, t1, t2, vx, vy, vz, rfl, ha, h1, h2, h3⟩ := hxv'
      repeat (walk_at "m")
      rename St _ _ _ _ _ _ => S
      refine ⟨rfl, _, _, _, fun _ _ h => h, ?_, S⟩
      refine ⟨u, _, ks, rfl, by assumption, fun x => ?_, (if_neg (by decide)).trans hm⟩
      rw [hk', hnext]; simp [headE]
    | pick x y =>
      obtain ⟨a, t1, t2, t3, t4, vx, vy, rfl, ha, h1, h2⟩ := hxv'
      repeat (walk_at "m")
      rename St _ _ _ _ _ _ => S
      refine ⟨rfl, _, _, _, fun _ _ h => h, ?_, S⟩
      refine ⟨u, _, ks, rfl, by assumption, fun x => ?_, (if_neg (by decide)).trans hm⟩
      rw [hk', hnext]; simp [headE]
    | bin x y =>
      obtain ⟨a, t1, t2, t3, vx, vy, rfl, ha, h1, h2⟩ := hxv'
      repeat (walk_at "m")
      rename St _ _ _ _ _ _ => S
      refine ⟨rfl, _, _, _, fun _ _ h => h, ?_, S⟩
      refine ⟨u, _, ks, rfl, by assumption, fun x => ?_, (if_neg (by decide)).trans hm⟩
      rw [hk', hnext]; simp [headE]
  · clear S
    rintro B m σ s hl ⟨u, o', ks, rfl, hd', hk', hm⟩ S
    rw [List.take_of_length_le (by rw [hes.length]; exact Nat.le_refl _)] at hk'
    have hkl : ks.length ≤ 8 := hd'.few fun x hx => hlim x ((hks x).mp ((hk' x).mp hx))
    repeat (walk_at "m")
    rename_i r vr kr nr sr hr hir hkr hlr S
    have S2 := S.ins hr
    exact hQ _ _ _ kr _ _ S.insAt hir (fun x => (hkr x).trans ((hk' x).trans (hks x))) (by omega) S2.po

section
variable {prog : Program} {w : World} {A : Around} {E : Value → Shared → Prop} {s : Shared} {c : Cx} {B : Base} {L f : Addr} {m : Str → Option Value} {σ : List (Addr × Obj)}
theorem S_reads {v : Value} {e : PE} {Q : Value → Shared → Prop} (S : St c B L m σ s) (W : Wd w c.G) (he : EIn0 B e v) (hsz : sizeE e ≤ 1000) (hlim : ∀ k ∈ keysE e, 0 ≤ k ∧ k < 8) (hh : A.handled = none) (hroom : A.depth + 7 < recursionLimit) (hu : A.units + 200 < cLine)
    (h : ∀ l vs k ks B' s', B' l = some (lstO vs k) → IntsAre vs ks → (∀ x, x ∈ ks ↔ x ∈ keysE e) → ks.length ≤ 8 → Sub B B' → St c B' L m σ s' → Q (.ref l) s') : wpAny (model prog w) A (call (.ref 68) [v]) Q E s :=
  reads_spec W _ _ _ _ _ _ _ S.g S.po.keep he hsz hlim hh hroom hu fun l vs k ks B' s' h1 h2 h3 h4 P => h l vs k ks B' s' h1 h2 h3 h4 P.sub (S.back0 P)
end

end
local macro_rules | `(tactic| walk_at "m") => `(tactic| ((with_reducible show ite _ _ _); (first | rw [if_pos (by decide)] | rw [if_neg (by decide)] | rw [if_pos (by rfl)])))
section
theorem mem_take1 {α : Type} {ps : List α} {p : α} {i : Nat} (f : α → List Int) (h : ps[i]? = some p) (k : Int) : k ∈ (ps.take (i + 1)).flatMap f ↔ k ∈ (ps.take i).flatMap f ∨ k ∈ f p := by
  rw [List.take_add_one, h, List.flatMap_append, List.mem_append]
  simp
theorem take_mem {α : Type} {ps : List α} {i : Nat} {f : α → List Int} {k : Int} (h : k ∈ (ps.take i).flatMap f) : k ∈ ps.flatMap f := by
  obtain ⟨e, he, hk⟩ := List.mem_flatMap.mp h
  exact List.mem_flatMap.mpr ⟨e, List.mem_of_mem_take he, hk⟩
theorem writesT_flat (ps : List PPart) : writesT ps = ps.flatMap fun p => [p.key] := by
  induction ps with
  | nil => rfl
  | cons p r ih => rw [List.flatMap_cons, ← ih]; rfl

theorem twrites_spec {prog : Program} {w : World} {G : Heap} (W : Wd w G) {A : Around} {s : Shared} {B : Base} {v : Value} {ps : List PPart} {Q E : Value → Shared → Prop}
    (hg : ∀ b o, G.get? b = some o → B b = some o) (hk : ∀ b o, B b = some o → s.heap.get? b = some o) (ht : TIn B ps v) (hh : A.handled = none) (hroom : A.depth + 3 < recursionLimit) (hu : A.units + 100 < cLine)
    (hQ : ∀ l vs k ks B' s', B' l = some (lstO vs k) → IntsAre vs ks → (∀ x, x ∈ ks ↔ x ∈ writesT ps) → ks.length ≤ 8 → Post ⟨G, s, B, []⟩ B' s' → Q (.ref l) s') :
    wpAny (model prog w) A (call (.ref 82) [v]) Q E s := by
  refine enter (M := []) (binds := [(Str.ofString "lv", v)]) W hg hk (by omega) (by rfl) (by kernel_rfl) (by rfl) (locs (by rfl)) ?_ (by decide) (by rfl) (by rfl) (by rfl)
  intro L s₁ hL hk₁ S
  generalize hA : A.deeper (envX _ _ _ _ _ _) = A'
  have hd' : A'.depth + 1 < recursionLimit := by rw [← hA]; show A.depth + 1 + 1 < _; omega
  have hu' : A'.units + 97 < cLine := by rw [← hA]; show A.units + 3 + 97 < cLine; omega
  have hh' : A'.handled = none := by rw [← hA]; exact hh
  clear hA
  obtain ⟨ta, t1, t2, tb, vs, rfl, hta, htb, hps, hfew, hlim⟩ := ht
  have hlen := hps.length
  repeat (walk_at "m")
  rename_i d o _ hd lo ho _ _ _ S
  refine S_forTup S hh' htb (fun i B₂ m σ => Sub B B₂ ∧ ∃ o ks, σ = [(d, o)] ∧ DictO prog w o ks ∧ (∀ x, x ∈ ks ↔ x ∈ (ps.take i).flatMap fun p => [p.key]) ∧ m "keys" = some (.ref d)) ⟨fun _ _ h => h, _, _, rfl, ho, by simp, rfl⟩ ?_ ?_
  · clear S
    rintro it i B m σ s v o hi hv hl ⟨u, o', ks, rfl, hd', hk', hm⟩ S
    obtain ⟨x, hx, hxv⟩ := hps.at hv
    have hkl : ks.length ≤ 8 := hd'.few fun x hx => by
      obtain ⟨p, hp, hxp⟩ := List.mem_flatMap.mp (take_mem ((hk' x).mp hx))
      exact List.mem_singleton.mp hxp ▸ hlim p hp
    have hnext := mem_take1 (fun p : PPart => [p.key]) hx
    obtain ⟨a, u1, u2, u3, y, z, rfl, ha, h3, h4⟩ := hxv.mono u
    clear hxv
    repeat (walk_at "m")
    rename St _ _ _ _ _ _ => S
    refine ⟨rfl, _, _, _, fun _ _ h => h, ?_, S⟩
    refine ⟨u, _, addK ks x.key, rfl, by assumption, fun x => ?_, (if_neg (by decide)).trans hm⟩
    rw [mem_addK, hk', hnext]; simp
  · clear S
    rintro B m σ s hl ⟨u, o', ks, rfl, hd', hk', hm⟩ S
    rw [List.take_of_length_le (by omega)] at hk'
    have hkl : ks.length ≤ 8 := hd'.few fun x hx => by
      obtain ⟨p, hp, hxp⟩ := List.mem_flatMap.mp ((hk' x).mp hx)
      exact List.mem_singleton.mp hxp ▸ hlim p hp
    repeat (walk_at "m")
    rename_i r vr kr nr sr hr hir hkr hlr S
    have S2 := S.ins hr
    exact hQ _ _ _ kr _ _ S.insAt hir (fun x => (hkr x).trans ((hk' x).trans (by rw [writesT_flat]))) (by omega) S2.po

theorem tindex_spec {prog : Program} {w : World} {G : Heap} (W : Wd w G) {A : Around} {s : Shared} {B : Base} {v : Value} {ps : List PPart} {Q E : Value → Shared → Prop}
    (hg : ∀ b o, G.get? b = some o → B b = some o) (hk : ∀ b o, B b = some o → s.heap.get? b = some o) (ht : TIn B ps v) (hh : A.handled = none) (hroom : A.depth + 3 < recursionLimit) (hu : A.units + 100 < cLine)
    (hQ : ∀ l vs k es B' s', B' l = some (lstO vs k) → All2 (EIn B') es vs → (∀ x, x ∈ es.flatMap keysE ↔ x ∈ keysT ps) → es.length ≤ 4 → Post ⟨G, s, B, []⟩ B' s' → Q (.ref l) s') :
    wpAny (model prog w) A (call (.ref 75) [v]) Q E s := by
  refine enter (M := []) (binds := [(Str.ofString "lv", v)]) W hg hk (by omega) (by rfl) (by kernel_rfl) (by rfl) (locs (by rfl)) ?_ (by decide) (by rfl) (by rfl) (by rfl)
  intro L s₁ hL hk₁ S
  generalize hA : A.deeper (envX _ _ _ _ _ _) = A'
  have hd' : A'.depth + 1 < recursionLimit := by rw [← hA]; show A.depth + 1 + 1 < _; omega
  have hu' : A'.units + 97 < cLine := by rw [← hA]; show A.units + 3 + 97 < cLine; omega
  have hh' : A'.handled = none := by rw [← hA]; exact hh
  clear hA
  obtain ⟨ta, t1, t2, tb, vs, rfl, hta, htb, hps, hfew, hlim⟩ := ht
  have hlen := hps.length
  repeat (walk_at "m")
  rename_i fa _ hfa _ _ _ S
  refine S_forTup S hh' htb (fun i B₂ m σ => Sub B B₂ ∧ ∃ fvs kf es, σ = [(fa, lstO fvs kf)] ∧ All2 (EIn B₂) es fvs ∧ (∀ x, x ∈ es.flatMap keysE ↔ x ∈ (ps.take i).flatMap keysP) ∧ es.length ≤ 2 * i ∧ m "found" = some (.ref fa)) ⟨fun _ _ h => h, _, _, [], rfl, .nil, by simp, by simp, rfl⟩ ?_ ?_
  · clear S
    rintro it i B m σ s v o hi hv hl ⟨u, fvs, kf, es, rfl, hes, hk', hel, hm⟩ S
    obtain ⟨x, hx, hxv⟩ := hps.at hv
    have hnext := mem_take1 keysP hx
    have hel' := hes.length
    obtain ⟨a, u1, u2, u3, y, z, rfl, ha, h3, h4⟩ := hxv.mono u
    clear hxv
    obtain ⟨key, word, spot⟩ := x
    cases word with
    | none =>
      cases h3
      cases spot with
      | none =>
        obtain ⟨b, t, xx, rfl, hb⟩ := h4
        repeat (walk_at "m")
        rename St _ _ _ _ _ _ => S
        refine ⟨rfl, _, _, _, fun _ _ h => h, ?_, S⟩
        refine ⟨u, _, _, es, rfl, hes, fun x => ?_, by omega, (if_neg (by decide)).trans hm⟩
        rw [hnext, hk']; simp [keysP, optKeys]
      | some e =>
        obtain ⟨b, t, uu, xx, yy, rfl, hb, hu⟩ := h4
        repeat (walk_at "m")
        rename St _ _ _ _ _ _ => S
        refine ⟨rfl, _, _, _, fun _ _ h => h, ?_, S⟩
        refine ⟨u, _, _, es ++ [e], rfl, hes.snoc hu, fun x => ?_, by simp; omega, (if_neg (by decide)).trans hm⟩
        rw [hnext, List.flatMap_append, List.mem_append, hk']; simp [keysP, optKeys]
    | some e =>
      obtain ⟨b1, uu1, rfl, hb1, hu1⟩ := h3
      cases spot with
      | none =>
        obtain ⟨b, t, xx, rfl, hb⟩ := h4
        repeat (walk_at "m")
        rename St _ _ _ _ _ _ => S
        refine ⟨rfl, _, _, _, fun _ _ h => h, ?_, S⟩
        refine ⟨u, _, _, es ++ [e], rfl, hes.snoc hu1, fun x => ?_, by simp; omega, (if_neg (by decide)).trans hm⟩
        rw [hnext, List.flatMap_append, List.mem_append, hk']; simp [keysP, optKeys]
      | some e2 =>
        obtain ⟨b, t, uu, xx, yy, rfl, hb, hu⟩ := h4
        repeat (walk_at "m")
        rename St _ _ _ _ _ _ => S
        refine ⟨rfl, _, _, _, fun _ _ h => h, ?_, S⟩
        refine ⟨u, _, _, es ++ [e] ++ [e2], rfl, (hes.snoc hu1).snoc hu, fun x => ?_, by simp; omega, (if_neg (by decide)).trans hm⟩
        rw [hnext, List.flatMap_append, List.flatMap_append, List.mem_append, List.mem_append, hk']; simp [keysP, optKeys, or_assoc]
  · clear S
    rintro B m σ s hl ⟨u, fvs, kf, es, rfl, hes, hk', hel, hm⟩ S
    rw [List.take_of_length_le (by omega)] at hk'
    repeat (walk_at "m")
    rename St _ _ _ _ _ _ => S
    have S2 := S.ins hfa
    have u0 := S.insSub
    exact hQ _ _ _ es _ _ S.insAt (hes.mono fun _ _ h => h.mono u0) hk' (by omega) S2.po

section
variable {prog : Program} {w : World} {A : Around} {E : Value → Shared → Prop} {s : Shared} {c : Cx} {B : Base} {L f : Addr} {m : Str → Option Value} {σ : List (Addr × Obj)}
theorem S_readsE {v : Value} {e : PE} {Q : Value → Shared → Prop} (S : St c B L m σ s) (W : Wd w c.G) (he : EIn B e v) (hh : A.handled = none) (hroom : A.depth + 7 < recursionLimit) (hu : A.units + 200 < cLine)
    (h : ∀ l vs k ks B' s', B' l = some (lstO vs k) → IntsAre vs ks → (∀ x, x ∈ ks ↔ x ∈ keysE e) → ks.length ≤ 8 → Sub B B' → St c B' L m σ s' → Q (.ref l) s') : wpAny (model prog w) A (call (.ref 68) [v]) Q E s :=
  S_reads S W he.1 (by have := goodE.size he.2; omega) (goodE.keys he.2) hh hroom hu h
theorem S_twrites {v : Value} {ps : List PPart} {Q : Value → Shared → Prop} (S : St c B L m σ s) (W : Wd w c.G) (he : TIn B ps v) (hh : A.handled = none) (hroom : A.depth + 3 < recursionLimit) (hu : A.units + 100 < cLine)
    (h : ∀ l vs k ks B' s', B' l = some (lstO vs k) → IntsAre vs ks → (∀ x, x ∈ ks ↔ x ∈ writesT ps) → ks.length ≤ 8 → Sub B B' → St c B' L m σ s' → Q (.ref l) s') : wpAny (model prog w) A (call (.ref 82) [v]) Q E s :=
  twrites_spec W S.g S.po.keep he hh hroom hu fun l vs k ks B' s' h1 h2 h3 h4 P => h l vs k ks B' s' h1 h2 h3 h4 P.sub (S.back0 P)
theorem S_tindex {v : Value} {ps : List PPart} {Q : Value → Shared → Prop} (S : St c B L m σ s) (W : Wd w c.G) (he : TIn B ps v) (hh : A.handled = none) (hroom : A.depth + 3 < recursionLimit) (hu : A.units + 100 < cLine)
    (h : ∀ l vs k es B' s', B' l = some (lstO vs k) → All2 (EIn B') es vs → (∀ x, x ∈ es.flatMap keysE ↔ x ∈ keysT ps) → es.length ≤ 4 → Sub B B' → St c B' L m σ s' → Q (.ref l) s') : wpAny (model prog w) A (call (.ref 75) [v]) Q E s :=
  tindex_spec W S.g S.po.keep he hh hroom hu fun l vs k ks B' s' h1 h2 h3 h4 P => h l vs k ks B' s' h1 h2 h3 h4 P.sub (S.back0 P)
end

end
local macro_rules | `(tactic| walk_at "m-call") => `(tactic| ((with_reducible show wpAny _ _ (call (Value.ref 68) [_]) _ _ _); (with_reducible rename St _ _ _ _ _ _ => S0); refine S_readsE S0 (by assumption) (by with_reducible assumption) (by assumption) (by omega) (by omega) ?_; clear S0; intro l' vs' k' ks' B' s' hl' hi' hk' hn' hsub' S'))
section
def OptIn (B : Base) : Option PS → Value → Prop
  | none, v => v = .none
  | some st, v => SIn B st v
theorem OptIn.mono {B B' : Base} (hs : Sub B B') : ∀ {o : Option PS} {v : Value}, OptIn B o v → OptIn B' o v
  | none, _, h => h
  | some _, _, h => SIn.mono hs h
theorem ex1 {α : Type} {q : α → Prop} {p : Prop} (f : ∀ x, q x → p) (h : ∃ x, q x) : p := h.elim f
theorem SIn.ref {B : Base} {v : Value} {st : PS} (h : SIn B st v) : ∃ a, v = .ref a := by
  cases st with
  | set => exact Exists.imp (fun _ => ex1 fun _ => ex1 fun _ => ex1 fun _ => And.left) h
  | if1 => exact Exists.imp (fun _ => ex1 fun _ => ex1 fun _ => ex1 fun _ => And.left) h
  | if2 => exact Exists.imp (fun _ => ex1 fun _ => ex1 fun _ => ex1 fun _ => ex1 fun _ => And.left) h
  | case => exact Exists.imp (fun _ => ex1 fun _ => ex1 fun _ => ex1 fun _ => ex1 fun _ => ex1 fun _ => ex1 fun _ => ex1 fun _ => ex1 fun _ => ex1 fun _ => ex1 fun _ => ex1 fun _ => And.left) h
  | block0 => exact Exists.imp (fun _ => ex1 fun _ => ex1 fun _ => ex1 fun _ => ex1 fun _ => And.left) h
  | block1 => exact Exists.imp (fun _ => ex1 fun _ => ex1 fun _ => ex1 fun _ => ex1 fun _ => ex1 fun _ => And.left) h
  | block2 => exact Exists.imp (fun _ => ex1 fun _ => ex1 fun _ => ex1 fun _ => ex1 fun _ => ex1 fun _ => ex1 fun _ => And.left) h
  | loop => exact Exists.imp (fun _ => ex1 fun _ => ex1 fun _ => ex1 fun _ => And.left) h
  | for_ => exact Exists.imp (fun _ => ex1 fun _ => ex1 fun _ => ex1 fun _ => ex1 fun _ => ex1 fun _ => And.left) h
  | wait => exact Exists.imp (fun _ => ex1 fun _ => ex1 fun _ => ex1 fun _ => And.left) h
  | await => exact Exists.imp (fun _ => ex1 fun _ => ex1 fun _ => ex1 fun _ => And.left) h
section
variable {prog : Program} {w : World} {A : Around} {E : Value → Shared → Prop} {s : Shared} {c : Cx} {B : Base} {L f : Addr} {m : Str → Option Value} {σ : List (Addr × Obj)}
theorem S_listOf {l : Addr} {vs : List Value} {k : Nat} {Q : Value → Shared → Prop} (S : St c B L m σ s) (hl : B l = some (lstO vs k)) (hz : vs.length ≤ 16777216)
    (h : ∀ r n s', L < r → St c B L m ((r, lstO vs n) :: σ) s' → Q (.ref r) s') : wpAny (model prog w) A (call (.type "list") [.ref l]) Q E s :=
  call_list_seq (hsz := by rw [List.size_toArray, sizeLine_eq]; exact hz) l (.inl rfl) (S.po.keep _ _ hl) rfl rfl fun h' c' hk hD => h _ c' _ S.ltL (St.grow1 S hk (Like.mk _ _ _) (Nat.le_refl _) hD)
theorem S_inTup {i : Nat} {t : Addr} {vs : List Value} {ys : List Str} {x : Str} {u : Tok} {Q : Value → Shared → Prop} (S : St c B L m σ s) (hi : σ[i]? = some (t, tupO vs)) (hs : StrsAre vs ys)
    (h : Q (.bool (ys.any (· == x))) s) : wpAny (model prog w) A (compareOp .In (.str x u) (.ref t)) Q E s :=
  in_tuple_strs ⟨_, (S.own _ (List.mem_of_getElem? hi)).1, rfl, _, rfl⟩ hs h
theorem S_compSome {l : Addr} {vs : List Value} {k kd : Nat} {iter : Expr} {x : Str} {px p1 p2 p3 p4 : Pos} {ops : List (Option PS)} {scope : Scope} {cl : List (Str × Addr)} {pos : Pos} {env : Env} {Q : Value → Shared → Prop} (S : St c B L m σ s) (hh : A.handled = none) (hl : B l = some (lstO vs k)) (hn : vs.length ≤ 1000)
    (C : CompOk scope cl env x) (ho : All2 (OptIn B) ops vs)
    (hQ : ∀ D vs' k' s', L < D → All2 (SIn B) (ops.filterMap id) vs' → St c B L m ((D, lstO vs' k') :: σ) s' → Q (.ref D) s')
    (h1 : ∀ C, (compEnvC scope cl C env).scope.kind = .function := by intro _; rfl) (h2 : ∀ C, (compEnvC scope cl C env).kindOf x = some .local := by intro _; rfl) (h3 : (x == ("__debug__" : Str)) = false := by decide) :
    wpAny (model prog w) A (pyIter (.ref l)) (fun it s₂ => wpAny (model prog w) A (newList []) (fun acc s₃ =>
      wpAny (model prog w) A (newFunctionEnv scope env.globals cl [] env.qual none .none (some env)) (fun cenv s₄ =>
        codeAny (model prog w) A (.compStart (.ListComp (.Name x p1) [⟨.Name x px, iter, [.Compare (.Name x p2) [.IsNot] [.Constant .none kd p3] p4], 0⟩] scope pos) 0 it acc { cenv with scope := relabel scope env }) (compPost (model prog w) A E none Q acc cenv.locals) s₄) E s₃) E s₂) E s := by
  refine S_compList S hh hl (by omega) C (fun i B' τ ws => B' = B ∧ τ = σ ∧ All2 (SIn B) ((ops.take i).filterMap id) ws ∧ ws.length ≤ i) ⟨rfl, rfl, .nil, Nat.le_refl _⟩ ?_ ?_
  · rintro C it D i B' m' τ ws v o k s' hi hv ⟨rfl, rfl, hws, hwl⟩ T
    obtain ⟨op, hop, hin⟩ := ho.at hv
    have hnext : (ops.take (i + 1)).filterMap id = (ops.take i).filterMap id ++ [op].filterMap id := by
      rw [List.take_add_one, hop, List.filterMap_append]; rfl
    refine wpAny_tests_one ?_
    refine wpAny_isTrue_Compare1 ?_
    refine S_loc T (if_pos rfl) ?_ rfl (h1 C) (h2 C) h3
    refine wpAny_Constant_none ?_
    cases op with
    | none =>
      cases hin
      refine PySem.isNot_none ?_
      refine wpAny_truthy_bool ?_
      refine ⟨_, _, _, fun _ _ h => h, ⟨rfl, rfl, ?_, by omega⟩, T⟩
      rw [hnext]
      simpa using hws
    | some st =>
      obtain ⟨a, rfl⟩ := SIn.ref hin
      refine PySem.isNot_none ?_
      refine wpAny_truthy_bool ?_
      refine S_loc T (if_pos rfl) ?_ rfl (h1 C) (h2 C) h3
      refine ⟨_, _, _, fun _ _ h => h, ⟨rfl, rfl, ?_, by simp; omega⟩, T⟩
      rw [hnext]
      exact hws.snoc hin
  · rintro C D B' m' τ ws k s' hLD ⟨rfl, rfl, hws, hwl⟩ T
    refine post_none S T fun s₃ U => ?_
    rw [List.take_of_length_le (by rw [ho.length]; exact Nat.le_refl _)] at hws
    exact hQ _ _ _ _ hLD hws U
end

end
local macro_rules | `(tactic| walk_at "m-call") => `(tactic| ((with_reducible show wpAny _ _ (call (Value.type "list") [Value.ref _]) _ _ _); (with_reducible rename St _ _ _ _ _ _ => S0); refine S_listOf S0 (by with_reducible assumption) (by walk_at "m-sz") ?_; clear S0; intro r' n' s' hr' S'))
local macro_rules | `(tactic| walk_at "m-cmp") => `(tactic| ((with_reducible show wpAny _ _ (compareOp CmpOp.In (Value.str _ _) (Value.ref _)) _ _ _); (with_reducible rename St _ _ _ _ _ _ => S0); refine S_inTup S0 (by walk_at "m-idx") (by repeat constructor) ?_))
section
def partsO : PS → List (Option PS)
  | .set _ _ => []
  | .if1 _ a => [some a, none]
  | .if2 _ a b => [some a, some b]
  | .case _ _ a b => [some a, some b]
  | .block0 => []
  | .block1 a => [some a]
  | .block2 a b => [some a, some b]
  | .loop _ a => [some a]
  | .for_ i _ u a => [some i, some u, some a]
  | .wait a => [some a]
  | .await a => [some a]
def partsS (st : PS) : List PS := (partsO st).filterMap id
def strs2 (g : Value) : Prop := strV "set" g ∨ strV "nba" g
local macro_rules | `(tactic| walk_at "m") => `(tactic| ((with_reducible show ite _ _ _); first | rw [if_neg (by with_reducible assumption)] | rw [if_pos (by with_reducible assumption)]))
theorem seq0 {n : Nat} : seqIndex? 0 (n + 1) = some 0 := by simp [seqIndex?]
local macro_rules | `(tactic| walk_at "m-sub1") => `(tactic| ((with_reducible rename St _ _ _ _ _ _ => S0); refine S_itemB S0 (by with_reducible assumption) (by decide) (by decide) seq0 idx0 ?_))
theorem All2.somes {B : Base} {sts : List PS} {vs : List Value} (h : All2 (SIn B) sts vs) : All2 (OptIn B) (sts.map some) vs := by
  induction h with
  | nil => exact .nil
  | cons h _ ih => exact .cons h ih
theorem somes_of (sts : List PS) : (sts.map some).filterMap id = sts := by simp
theorem sparts_none {prog : Program} {w : World} {G : Heap} (W : Wd w G) {A : Around} {s : Shared} {B : Base} {Q E : Value → Shared → Prop}
    (hg : ∀ b o, G.get? b = some o → B b = some o) (hk : ∀ b o, B b = some o → s.heap.get? b = some o) (hh : A.handled = none) (hroom : A.depth + 3 < recursionLimit) (hu : A.units + 100 < cLine)
    {ad : Addr} {tag : Str} {t : Tok} {rest : List Value} (ha : B ad = some (tupO (.str tag t :: rest))) (nblock : ¬ (tag == Str.ofString "block") = true) (nfork : ¬ (tag == Str.ofString "fork") = true) (nif : ¬ (tag == Str.ofString "if") = true) (ncase : ¬ (tag == Str.ofString "case") = true) (nfor : ¬ (tag == Str.ofString "for") = true) (nin : ¬ ([Str.ofString "while", Str.ofString "delay", Str.ofString "await", Str.ofString "wait"].any (· == tag)) = true)
    (nrepeat : ¬ (tag == Str.ofString "repeat") = true) (nforever : ¬ (tag == Str.ofString "forever") = true)
    (hQ : ∀ l vs k B' s', B' l = some (lstO vs k) → All2 (SIn B') [] vs → Post ⟨G, s, B, []⟩ B' s' → Q (.ref l) s') : wpAny (model prog w) A (call (.ref 87) [.ref ad]) Q E s := by
  refine enter (M := []) (binds := [(Str.ofString "s", .ref ad)]) W hg hk (by omega) (by rfl) (by kernel_rfl) (by rfl) (locs (by rfl)) ?_ (by decide) (by rfl) (by rfl) (by rfl)
  intro L s₁ hL hk₁ S
  generalize hA : A.deeper (envX _ _ _ _ _ _) = A'
  have hd' : A'.depth + 1 < recursionLimit := by rw [← hA]; show A.depth + 1 + 1 < _; omega
  have hu' : A'.units + 97 < cLine := by rw [← hA]; show A.units + 3 + 97 < cLine; omega
  have hh' : A'.handled = none := by rw [← hA]; exact hh
  clear hA
  repeat (walk_at "m")
  rename St _ _ _ _ _ _ => T00
  have T0 := St.ins T00 (by assumption)
  clear T00
  have T1 := St.ins T0 (by assumption)
  have u0 := St.insSub T0
  have hat := St.insAt T0
  clear T0
  refine ListComp_in (cl := []) ⟨by rfl, by decide, rfl, by decide, by rfl⟩ ?_
  repeat (walk_at "m")
  rename St _ _ _ _ _ _ => T2
  refine S_compSome (ops := []) T2 hh' hat (by simp) ⟨by rfl, by decide, rfl, by decide, by rfl⟩ (.nil) ?_
  intro D vs' k' s' hD hvs T3
  have T4 := St.ins T3 hD
  have u1 := St.insSub T3
  exact hqq.go _ _ (hQ _ _ _ _ _ (St.insAt T3) (hvs.mono fun _ _ h => SIn.mono u1 h) T4.po)
theorem sparts_if {prog : Program} {w : World} {G : Heap} (W : Wd w G) {A : Around} {s : Shared} {B : Base} {Q E : Value → Shared → Prop}
    (hg : ∀ b o, G.get? b = some o → B b = some o) (hk : ∀ b o, B b = some o → s.heap.get? b = some o) (hh : A.handled = none) (hroom : A.depth + 3 < recursionLimit) (hu : A.units + 100 < cLine)
    {ad : Addr} {t : Tok} {x y z : Value} {a : PS} {b : Option PS} (ha : B ad = some (tupO [.str (Str.ofString "if") t, x, y, z])) (h1 : SIn B a y) (h2 : OptIn B b z)
    (hQ : ∀ l vs k B' s', B' l = some (lstO vs k) → All2 (SIn B') ([some a, b].filterMap id) vs → Post ⟨G, s, B, []⟩ B' s' → Q (.ref l) s') : wpAny (model prog w) A (call (.ref 87) [.ref ad]) Q E s := by
  refine enter (M := []) (binds := [(Str.ofString "s", .ref ad)]) W hg hk (by omega) (by rfl) (by kernel_rfl) (by rfl) (locs (by rfl)) ?_ (by decide) (by rfl) (by rfl) (by rfl)
  intro L s₁ hL hk₁ S
  generalize hA : A.deeper (envX _ _ _ _ _ _) = A'
  have hd' : A'.depth + 1 < recursionLimit := by rw [← hA]; show A.depth + 1 + 1 < _; omega
  have hu' : A'.units + 97 < cLine := by rw [← hA]; show A.units + 3 + 97 < cLine; omega
  have hh' : A'.handled = none := by rw [← hA]; exact hh
  clear hA
  repeat (walk_at "m")
  rename St _ _ _ _ _ _ => T0
  have T1 := St.ins T0 (by assumption)
  have u0 := St.insSub T0
  have hat := St.insAt T0
  clear T0
  refine ListComp_in (cl := []) ⟨by rfl, by decide, rfl, by decide, by rfl⟩ ?_
  repeat (walk_at "m")
  rename St _ _ _ _ _ _ => T2
  refine S_compSome (ops := [some a, b]) T2 hh' hat (by simp) ⟨by rfl, by decide, rfl, by decide, by rfl⟩ (.cons (SIn.mono u0 h1) (.cons (OptIn.mono u0 h2) .nil)) ?_
  intro D vs' k' s' hD hvs T3
  have T4 := St.ins T3 hD
  have u1 := St.insSub T3
  exact hqq.go _ _ (hQ _ _ _ _ _ (St.insAt T3) (hvs.mono fun _ _ h => SIn.mono u1 h) T4.po)
theorem sparts_block {prog : Program} {w : World} {G : Heap} (W : Wd w G) {A : Around} {s : Shared} {B : Base} {Q E : Value → Shared → Prop}
    (hg : ∀ b o, G.get? b = some o → B b = some o) (hk : ∀ b o, B b = some o → s.heap.get? b = some o) (hh : A.handled = none) (hroom : A.depth + 3 < recursionLimit) (hu : A.units + 100 < cLine)
    {ad l₀ : Addr} {t : Tok} {x : Value} {us : List Value} {k₀ : Nat} {sts : List PS} (ha : B ad = some (tupO [.str (Str.ofString "block") t, .ref l₀, x])) (hl : B l₀ = some (lstO us k₀)) (hv : All2 (SIn B) sts us) (hn : us.length ≤ 2)
    (hQ : ∀ l vs k B' s', B' l = some (lstO vs k) → All2 (SIn B') sts vs → Post ⟨G, s, B, []⟩ B' s' → Q (.ref l) s') : wpAny (model prog w) A (call (.ref 87) [.ref ad]) Q E s := by
  refine enter (M := []) (binds := [(Str.ofString "s", .ref ad)]) W hg hk (by omega) (by rfl) (by kernel_rfl) (by rfl) (locs (by rfl)) ?_ (by decide) (by rfl) (by rfl) (by rfl)
  intro L s₁ hL hk₁ S
  generalize hA : A.deeper (envX _ _ _ _ _ _) = A'
  have hd' : A'.depth + 1 < recursionLimit := by rw [← hA]; show A.depth + 1 + 1 < _; omega
  have hu' : A'.units + 97 < cLine := by rw [← hA]; show A.units + 3 + 97 < cLine; omega
  have hh' : A'.handled = none := by rw [← hA]; exact hh
  clear hA
  repeat (walk_at "m")
  rename St _ _ _ _ _ _ => T0
  have T1 := St.ins T0 (by assumption)
  have u0 := St.insSub T0
  have hat := St.insAt T0
  clear T0
  refine ListComp_in (cl := []) ⟨by rfl, by decide, rfl, by decide, by rfl⟩ ?_
  repeat (walk_at "m")
  rename St _ _ _ _ _ _ => T2
  refine S_compSome (ops := sts.map some) T2 hh' hat (by omega) ⟨by rfl, by decide, rfl, by decide, by rfl⟩ ((hv.mono fun _ _ h => SIn.mono u0 h).somes) ?_
  intro D vs' k' s' hD hvs T3
  have T4 := St.ins T3 hD
  have u1 := St.insSub T3
  exact hqq.go _ _ (hQ _ _ _ _ _ (St.insAt T3) (somes_of sts ▸ hvs.mono fun _ _ h => SIn.mono u1 h) T4.po)
theorem sparts_loop {prog : Program} {w : World} {G : Heap} (W : Wd w G) {A : Around} {s : Shared} {B : Base} {Q E : Value → Shared → Prop}
    (hg : ∀ b o, G.get? b = some o → B b = some o) (hk : ∀ b o, B b = some o → s.heap.get? b = some o) (hh : A.handled = none) (hroom : A.depth + 3 < recursionLimit) (hu : A.units + 100 < cLine)
    {ad : Addr} {tag : Str} {t : Tok} {x y : Value} {a : PS} (ha : B ad = some (tupO [.str tag t, x, y])) (nblock : ¬ (tag == Str.ofString "block") = true) (nfork : ¬ (tag == Str.ofString "fork") = true) (nif : ¬ (tag == Str.ofString "if") = true) (ncase : ¬ (tag == Str.ofString "case") = true) (nfor : ¬ (tag == Str.ofString "for") = true) (yin : ([Str.ofString "while", Str.ofString "delay", Str.ofString "await", Str.ofString "wait"].any (· == tag)) = true) (h1 : SIn B a y)
    (hQ : ∀ l vs k B' s', B' l = some (lstO vs k) → All2 (SIn B') [a] vs → Post ⟨G, s, B, []⟩ B' s' → Q (.ref l) s') : wpAny (model prog w) A (call (.ref 87) [.ref ad]) Q E s := by
  refine enter (M := []) (binds := [(Str.ofString "s", .ref ad)]) W hg hk (by omega) (by rfl) (by kernel_rfl) (by rfl) (locs (by rfl)) ?_ (by decide) (by rfl) (by rfl) (by rfl)
  intro L s₁ hL hk₁ S
  generalize hA : A.deeper (envX _ _ _ _ _ _) = A'
  have hd' : A'.depth + 1 < recursionLimit := by rw [← hA]; show A.depth + 1 + 1 < _; omega
  have hu' : A'.units + 97 < cLine := by rw [← hA]; show A.units + 3 + 97 < cLine; omega
  have hh' : A'.handled = none := by rw [← hA]; exact hh
  clear hA
  repeat (walk_at "m")
  rename St _ _ _ _ _ _ => T0
  have T1 := St.ins T0 (by assumption)
  have u0 := St.insSub T0
  have hat := St.insAt T0
  clear T0
  refine ListComp_in (cl := []) ⟨by rfl, by decide, rfl, by decide, by rfl⟩ ?_
  repeat (walk_at "m")
  rename St _ _ _ _ _ _ => T2
  refine S_compSome (ops := [some a]) T2 hh' hat (by simp) ⟨by rfl, by decide, rfl, by decide, by rfl⟩ (.cons (SIn.mono u0 h1) .nil) ?_
  intro D vs' k' s' hD hvs T3
  have T4 := St.ins T3 hD
  have u1 := St.insSub T3
  exact hqq.go _ _ (hQ _ _ _ _ _ (St.insAt T3) (hvs.mono fun _ _ h => SIn.mono u1 h) T4.po)
theorem sparts_case {prog : Program} {w : World} {G : Heap} (W : Wd w G) {A : Around} {s : Shared} {B : Base} {Q E : Value → Shared → Prop}
    (hg : ∀ b o, G.get? b = some o → B b = some o) (hk : ∀ b o, B b = some o → s.heap.get? b = some o) (hh : A.handled = none) (hroom : A.depth + 3 < recursionLimit) (hu : A.units + 100 < cLine)
    {ad l r1 r2 lt : Addr} {t u : Tok} {x y z : Value} {k : Nat} {a b : PS} (ha : B ad = some (tupO [.str (Str.ofString "case") t, .str (Str.ofString "case") u, x, .ref l])) (hl : B l = some (lstO [.ref r1, .ref r2] k)) (hr1 : B r1 = some (tupO [.ref lt, y])) (hr2 : B r2 = some (tupO [.none, z])) (h1 : SIn B a y) (h2 : SIn B b z)
    (hQ : ∀ l vs k B' s', B' l = some (lstO vs k) → All2 (SIn B') [a, b] vs → Post ⟨G, s, B, []⟩ B' s' → Q (.ref l) s') : wpAny (model prog w) A (call (.ref 87) [.ref ad]) Q E s := by
  refine enter (M := []) (binds := [(Str.ofString "s", .ref ad)]) W hg hk (by omega) (by rfl) (by kernel_rfl) (by rfl) (locs (by rfl)) ?_ (by decide) (by rfl) (by rfl) (by rfl)
  intro L s₁ hL hk₁ S
  generalize hA : A.deeper (envX _ _ _ _ _ _) = A'
  have hd' : A'.depth + 1 < recursionLimit := by rw [← hA]; show A.depth + 1 + 1 < _; omega
  have hu' : A'.units + 97 < cLine := by rw [← hA]; show A.units + 3 + 97 < cLine; omega
  have hh' : A'.handled = none := by rw [← hA]; exact hh
  clear hA
  repeat (walk_at "m")
  refine Assign_ListComp_in (cl := []) ⟨by rfl, by decide, rfl, by decide, by rfl⟩ ?_
  repeat (walk_at "m")
  rename St _ _ _ _ _ _ => T0
  refine S_compList T0 hh' hl (by simp) ⟨by rfl, by decide, rfl, by decide, by rfl⟩ (fun i B' τ ws => ∃ o, τ = [(_, o)] ∧ B' = B ∧ ws = [y, z].take i) ⟨_, rfl, rfl, rfl⟩ ?_ ?_
  · rintro C it D i B' m' τ ws v o k s' hi hv ⟨o2, rfl, rfl, hw⟩ T
    clear T0
    refine wpAny_tests_nil ?_
    rw [if_pos rfl]
    match i, hi, hv with
    | 0, _, hv =>
      cases hv
      repeat (walk_at "m")
      rename St _ _ _ _ _ _ => T'
      exact ⟨_, _, _, fun _ _ h => h, ⟨_, rfl, rfl, by rw [hw]; rfl⟩, T'⟩
    | 1, _, hv =>
      cases hv
      repeat (walk_at "m")
      rename St _ _ _ _ _ _ => T'
      exact ⟨_, _, _, fun _ _ h => h, ⟨_, rfl, rfl, by rw [hw]; rfl⟩, T'⟩
  · rintro C D B' m' τ ws k s' hLD ⟨o2, rfl, rfl, hw⟩ T
    have hw' : ws = [y, z] := hw
    subst hw'
    refine post_use T0 T rfl rfl (by rfl) fun s'' T0' => ?_
    clear T T0
    rename St _ _ _ _ _ _ => T0
    have T1 := St.ins T0 (by assumption)
    have u0 := St.insSub T0
    have hat := St.insAt T0
    clear T0
    repeat (walk_at "m")
    refine ListComp_in (cl := []) ⟨by rfl, by decide, rfl, by decide, by rfl⟩ ?_
    repeat (walk_at "m")
    rename St _ _ _ _ _ _ => T2
    refine S_compSome (ops := [some a, some b]) T2 hh' hat (by simp) ⟨by rfl, by decide, rfl, by decide, by rfl⟩ (.cons (SIn.mono u0 h1) (.cons (SIn.mono u0 h2) .nil)) ?_
    intro D vs' k' s' hD hvs T3
    have T4 := St.ins T3 hD
    have u1 := St.insSub T3
    exact hqq.go _ _ (hQ _ _ _ _ _ (St.insAt T3) (hvs.mono fun _ _ h => SIn.mono u1 h) T4.po)
theorem sparts_for {prog : Program} {w : World} {G : Heap} (W : Wd w G) {A : Around} {s : Shared} {B : Base} {Q E : Value → Shared → Prop}
    (hg : ∀ b o, G.get? b = some o → B b = some o) (hk : ∀ b o, B b = some o → s.heap.get? b = some o) (hh : A.handled = none) (hroom : A.depth + 3 < recursionLimit) (hu : A.units + 100 < cLine)
    {ad : Addr} {t : Tok} {x y z q : Value} {i u a : PS} (ha : B ad = some (tupO [.str (Str.ofString "for") t, x, y, z, q])) (h1 : SIn B i x) (h2 : SIn B u z) (h3 : SIn B a q)
    (hQ : ∀ l vs k B' s', B' l = some (lstO vs k) → All2 (SIn B') [i, u, a] vs → Post ⟨G, s, B, []⟩ B' s' → Q (.ref l) s') : wpAny (model prog w) A (call (.ref 87) [.ref ad]) Q E s := by
  refine enter (M := []) (binds := [(Str.ofString "s", .ref ad)]) W hg hk (by omega) (by rfl) (by kernel_rfl) (by rfl) (locs (by rfl)) ?_ (by decide) (by rfl) (by rfl) (by rfl)
  intro L s₁ hL hk₁ S
  generalize hA : A.deeper (envX _ _ _ _ _ _) = A'
  have hd' : A'.depth + 1 < recursionLimit := by rw [← hA]; show A.depth + 1 + 1 < _; omega
  have hu' : A'.units + 97 < cLine := by rw [← hA]; show A.units + 3 + 97 < cLine; omega
  have hh' : A'.handled = none := by rw [← hA]; exact hh
  clear hA
  repeat (walk_at "m")
  rename St _ _ _ _ _ _ => T0
  have T1 := St.ins T0 (by assumption)
  have u0 := St.insSub T0
  have hat := St.insAt T0
  clear T0
  refine ListComp_in (cl := []) ⟨by rfl, by decide, rfl, by decide, by rfl⟩ ?_
  repeat (walk_at "m")
  rename St _ _ _ _ _ _ => T2
  refine S_compSome (ops := [some i, some u, some a]) T2 hh' hat (by simp) ⟨by rfl, by decide, rfl, by decide, by rfl⟩ (.cons (SIn.mono u0 h1) (.cons (SIn.mono u0 h2) (.cons (SIn.mono u0 h3) .nil))) ?_
  intro D vs' k' s' hD hvs T3
  have T4 := St.ins T3 hD
  have u1 := St.insSub T3
  exact hqq.go _ _ (hQ _ _ _ _ _ (St.insAt T3) (hvs.mono fun _ _ h => SIn.mono u1 h) T4.po)
theorem sparts_spec {prog : Program} {w : World} {G : Heap} (W : Wd w G) {A : Around} {s : Shared} {B : Base} {v : Value} {st : PS} {Q E : Value → Shared → Prop}
    (hg : ∀ b o, G.get? b = some o → B b = some o) (hk : ∀ b o, B b = some o → s.heap.get? b = some o) (he : SIn B st v) (hh : A.handled = none) (hroom : A.depth + 3 < recursionLimit) (hu : A.units + 100 < cLine)
    (hQ : ∀ l vs k B' s', B' l = some (lstO vs k) → All2 (SIn B') (partsS st) vs → Post ⟨G, s, B, []⟩ B' s' → Q (.ref l) s') :
    wpAny (model prog w) A (call (.ref 87) [v]) Q E s := by
  cases st with
  | set ps e =>
    refine SIn.setE he fun a g x y ha hg' ht hy h₀ => ?_
    rcases hg' with ⟨t, rfl⟩ | ⟨t, rfl⟩
    · exact sparts_none W hg hk hh hroom hu ha (by decide) (by decide) (by decide) (by decide) (by decide) (by decide) (by decide) (by decide) hQ
    · exact sparts_none W hg hk hh hroom hu ha (by decide) (by decide) (by decide) (by decide) (by decide) (by decide) (by decide) (by decide) hQ
  | if1 c a => refine SIn.if1E he fun ad t x y ha hc h1 h₀ => sparts_if (b := none) W hg hk hh hroom hu ha h1 rfl hQ
  | if2 c a b => refine SIn.if2E he fun ad t x y z ha hc h1 h2 h₀ => sparts_if (b := some b) W hg hk hh hroom hu ha h1 h2 hQ
  | case sel lab a b => refine SIn.caseE he fun ad t u x l r1 r2 lt y z k q ha hl hr1 hlt hr2 hx hq h1 h2 h₀ => sparts_case W hg hk hh hroom hu ha hl hr1 hr2 h1 h2 hQ
  | block0 => refine SIn.block0E he fun ad t l x k ha hl h₀ => sparts_block W hg hk hh hroom hu ha hl .nil (by decide) hQ
  | block1 a => refine SIn.block1E he fun ad t l x k y ha hl h1 h₀ => sparts_block W hg hk hh hroom hu ha hl (.cons h1 .nil) (by simp) hQ
  | block2 a b => refine SIn.block2E he fun ad t l x k y z ha hl h1 h2 h₀ => sparts_block W hg hk hh hroom hu ha hl (.cons h1 (.cons h2 .nil)) (by simp) hQ
  | loop c a => refine SIn.loopE he fun ad t x y ha hc h1 h₀ => sparts_loop W hg hk hh hroom hu ha (by decide) (by decide) (by decide) (by decide) (by decide) (by decide) h1 hQ
  | for_ i c u a => refine SIn.forE he fun ad t x y z q ha h1 hc h2 h3 h₀ => sparts_for W hg hk hh hroom hu ha h1 h2 h3 hQ
  | wait a => refine SIn.waitE he fun ad t x y ha h1 h₀ => sparts_loop W hg hk hh hroom hu ha (by decide) (by decide) (by decide) (by decide) (by decide) (by decide) h1 hQ
  | await a => refine SIn.awaitE he fun ad t x y ha h1 h₀ => sparts_loop W hg hk hh hroom hu ha (by decide) (by decide) (by decide) (by decide) (by decide) (by decide) h1 hQ

end
section
section
variable {prog : Program} {w : World} {A : Around} {E : Value → Shared → Prop} {s : Shared} {c : Cx} {B : Base} {L f : Addr} {m : Str → Option Value} {σ : List (Addr × Obj)}
theorem S_sparts {v : Value} {st : PS} {Q : Value → Shared → Prop} (S : St c B L m σ s) (W : Wd w c.G) (he : SIn B st v) (hh : A.handled = none) (hroom : A.depth + 3 < recursionLimit) (hu : A.units + 100 < cLine)
    (h : ∀ l vs k B' s', B' l = some (lstO vs k) → All2 (SIn B') (partsS st) vs → Sub B B' → St c B' L m σ s' → Q (.ref l) s') : wpAny (model prog w) A (call (.ref 87) [v]) Q E s :=
  sparts_spec W S.g S.po.keep he hh hroom hu fun l vs k B' s' h1 h2 P => h l vs k B' s' h1 h2 P.sub (S.back0 P)
end
local macro_rules | `(tactic| walk_at "m-call") => `(tactic| ((with_reducible show wpAny _ _ (call (Value.ref 87) [_]) _ _ _); (with_reducible rename St _ _ _ _ _ _ => S0); refine S_sparts S0 (by assumption) (by with_reducible assumption) (by assumption) (by omega) (by omega) ?_; clear S0; intro l' vs' k' B' s' hl' hp' hsub' S'))
def headR : PS → List Int
  | .set ps e => keysE e ++ keysT ps
  | .if1 c _ => keysE c
  | .if2 c _ _ => keysE c
  | .case x y _ _ => keysE x ++ keysE y
  | .block0 => []
  | .block1 _ => []
  | .block2 _ _ => []
  | .loop c _ => keysE c
  | .for_ _ c _ _ => keysE c
  | .wait _ => []
  | .await _ => []
def headW : PS → List Int
  | .set ps _ => writesT ps
  | _ => []
theorem reads_head (st : PS) (k : Int) : k ∈ readsS st ↔ k ∈ headR st ∨ k ∈ (partsS st).flatMap readsS := by
  cases st <;> simp [readsS, headR, partsS, partsO, or_assoc, or_left_comm]
theorem writes_head (st : PS) (k : Int) : k ∈ writesS st ↔ k ∈ headW st ∨ k ∈ (partsS st).flatMap writesS := by
  cases st <;> simp [writesS, headW, partsS, partsO]
theorem size_parts (st : PS) : sizeS st = ((partsS st).map sizeS).sum + 1 := by
  cases st <;> simp [sizeS, partsS, partsO] <;> omega
theorem parts_few (st : PS) : (partsS st).length ≤ 3 := by cases st <;> simp [partsS, partsO]
theorem len_le_sizesS (es : List PS) : es.length ≤ (es.map sizeS).sum := by
  induction es with
  | nil => simp
  | cons x r ih => simp only [List.length_cons, List.map_cons, List.sum_cons]; have := size_parts x; omega
theorem turn_mem (hd full : PS → List Int) (hf : ∀ st k, k ∈ full st ↔ k ∈ hd st ∨ k ∈ (partsS st).flatMap full) (fs es : List PS) (x : PS) (k : Int) :
    (k ∈ (fs ++ [x]).flatMap hd ∨ k ∈ (es ++ (partsS x).reverse).flatMap full) ↔ (k ∈ fs.flatMap hd ∨ k ∈ (es ++ [x]).flatMap full) := by
  have := hf x k
  simp only [List.flatMap_append, List.mem_append, List.flatMap_cons, List.flatMap_nil, List.append_nil, List.mem_flatMap, List.mem_reverse] at this ⊢
  rw [this]
  rw [or_assoc, or_left_comm (b := ∃ a, a ∈ es ∧ k ∈ full a)]

theorem substm_spec {prog : Program} {w : World} {G : Heap} (W : Wd w G) {A : Around} {s : Shared} {B : Base} {v : Value} {st : PS} {Q E : Value → Shared → Prop}
    (hg : ∀ b o, G.get? b = some o → B b = some o) (hk : ∀ b o, B b = some o → s.heap.get? b = some o) (he : SIn B st v) (hsz : sizeS st ≤ 1000) (hh : A.handled = none) (hroom : A.depth + 5 < recursionLimit) (hu : A.units + 200 < cLine)
    (hQ : ∀ l vs k sts B' s', B' l = some (lstO vs k) → All2 (SIn B') sts vs → (∀ x, x ∈ sts.flatMap headR ↔ x ∈ readsS st) → (∀ x, x ∈ sts.flatMap headW ↔ x ∈ writesS st) → sts.length ≤ 1000 → Post ⟨G, s, B, []⟩ B' s' → Q (.ref l) s') :
    wpAny (model prog w) A (call (.ref 94) [v]) Q E s := by
  obtain ⟨va, rfl⟩ := SIn.ref he
  refine enter (M := []) (binds := [(Str.ofString "s", .ref va)]) W hg hk (by omega) (by rfl) (by kernel_rfl) (by rfl) (locs (by rfl)) ?_ (by decide) (by rfl) (by rfl) (by rfl)
  intro L s₁ hL hk₁ S
  generalize hA : A.deeper (envX _ _ _ _ _ _) = A'
  have hd' : A'.depth + 3 < recursionLimit := by rw [← hA]; show A.depth + 1 + 3 < _; omega
  have hu' : A'.units + 197 < cLine := by rw [← hA]; show A.units + 3 + 197 < cLine; omega
  have hh' : A'.handled = none := by rw [← hA]; exact hh
  clear hA
  repeat (walk_at "m")
  rename_i fa _ hfa _ sa _ hsa _ _ S₁
  refine (S_while (n := sizeS st) S₁ (fun n B m σ => ∃ svs ks fvs kf es fs, σ = [(sa, lstO svs ks), (fa, lstO fvs kf)] ∧ All2 (SIn B) es svs ∧ All2 (SIn B) fs fvs ∧ (es.map sizeS).sum = n ∧ fs.length + n ≤ 1000 ∧
      (∀ k, (k ∈ fs.flatMap headR ∨ k ∈ es.flatMap readsS) ↔ k ∈ readsS st) ∧ (∀ k, (k ∈ fs.flatMap headW ∨ k ∈ es.flatMap writesS) ↔ k ∈ writesS st) ∧ m "found" = some (.ref fa) ∧ m "stack" = some (.ref sa))
    ⟨[.ref va], _, [], 0, [st], [], rfl, .cons he .nil, .nil, by simp, by simpa using hsz, by simp, by simp, rfl, rfl⟩ ?_)
  clear S₁
  rintro n B₂ m₂ σ₂ s₂ ⟨svs, ks, fvs, kf, es, fs, rfl, hes, hfs, hn, hl, hkeys, hkeysW, hm1, hm2⟩ S
  have hvl := hes.length
  have hfl := hfs.length
  have hle : es.length ≤ n := hn ▸ len_le_sizesS es
  walk_at "m"
  walk_at "m"
  rename St _ _ _ _ _ _ => S
  refine S_truthyList S idx0 (by omega) ?_
  clear S
  intro s₃ S
  by_cases hx : svs = []
  · subst hx
    cases hes
    rw [if_neg (by simp)]
    repeat (walk_at "m")
    rename St _ _ _ _ _ _ => S
    have S' := S.swap
    simp only [List.map_nil, List.sum_nil] at hn
    subst hn
    have S2 := S'.ins hfa
    have u0 := S'.insSub
    exact hQ _ _ _ fs _ _ S'.insAt (hfs.mono fun _ _ h => h.mono u0) (fun k => by simpa using hkeys k) (fun k => by simpa using hkeysW k) (by omega) S2.po
  · obtain ⟨es', x, ds, y, rfl, rfl, hes', hxy⟩ := hes.last hx
    rw [if_pos (by simp)]
    have hfew := parts_few x
    have hsx := size_parts x
    simp only [List.length_append, List.length_cons, List.length_nil, List.map_append, List.map_cons, List.map_nil, List.sum_append, List.sum_cons, List.sum_nil] at hle hvl hn
    repeat (walk_at "m")
    rename_i r _ hr S
    rename (All2 (SIn _) (partsS x) _) => hc₃
    rename (Sub B₂ _) => u₃
    rename (_ = some (lstO _ _)) => hB₃
    rename_i l vs kq B₃ s₄ _
    have hcl := hc₃.length
    refine S_forRevL S hh' hB₃ (fun i B m σ => ∃ kq, σ = [(sa, lstO (ds ++ vs.reverse.take i) kq), (fa, lstO (fvs ++ [y]) (kf + 1))] ∧ Sub B₃ B ∧ m "found" = some (.ref fa) ∧ m "stack" = some (.ref sa))
      ⟨ks + 1, by simp, fun _ _ h => h, hm1, hm2⟩ ?_ ?_
    · clear S
      rintro i B m σ s v o hi hv ⟨ks, rfl, u, hf, hs⟩ S
      have hv' := List.getElem?_eq_some_iff.mp hv
      obtain ⟨hv1, hv2⟩ := hv'
      have htk : (vs.reverse.take i).length ≤ 3 := by rw [List.length_take]; omega
      repeat (walk_at "m")
      rename St _ _ _ _ _ _ => S
      refine ⟨rfl, _, _, _, fun _ _ h => h, ?_, S⟩
      refine ⟨ks + 1, ?_, u, (if_neg (by decide)).trans hf, (if_neg (by decide)).trans hs⟩
      rw [List.take_add_one, hv, List.append_assoc]
      rfl
    · clear S
      rintro B m σ s hl ⟨ks, rfl, u, hf, hs⟩ S
      have ha := hes'.mono fun _ _ h => SIn.mono u (SIn.mono u₃ h)
      have hb := (hc₃.mono fun _ _ h => SIn.mono u h).reverse
      have hc := (hfs.mono fun _ _ h => SIn.mono u (SIn.mono u₃ h)).snoc (SIn.mono u (SIn.mono u₃ hxy))
      refine hqq.go _ _ (wpAny_execs_nil ⟨rfl, n - 1, _, _, _, by omega, ⟨_, _, _, _, es' ++ (partsS x).reverse, fs ++ [x], rfl, ?_, hc, ?_, ?_, ?_, ?_, hf, hs⟩, S⟩)
      · rw [List.take_of_length_le (by simp)]; exact ha.append hb
      · rw [List.map_append, List.sum_append, List.map_reverse, List.sum_reverse]; omega
      · rw [List.length_append, List.length_singleton]; omega
      · intro k; exact (turn_mem headR readsS reads_head fs es' x k).trans (hkeys k)
      · intro k; exact (turn_mem headW writesS writes_head fs es' x k).trans (hkeysW k)

section
variable {prog : Program} {w : World} {A : Around} {E : Value → Shared → Prop} {s : Shared} {c : Cx} {B : Base} {L f : Addr} {m : Str → Option Value} {σ : List (Addr × Obj)}
theorem S_substm {v : Value} {st : PS} {Q : Value → Shared → Prop} (S : St c B L m σ s) (W : Wd w c.G) (he : SIn B st v) (hsz : sizeS st ≤ 1000) (hh : A.handled = none) (hroom : A.depth + 5 < recursionLimit) (hu : A.units + 200 < cLine)
    (h : ∀ l vs k sts B' s', B' l = some (lstO vs k) → All2 (SIn B') sts vs → (∀ x, x ∈ sts.flatMap headR ↔ x ∈ readsS st) → (∀ x, x ∈ sts.flatMap headW ↔ x ∈ writesS st) → sts.length ≤ 1000 → Sub B B' → St c B' L m σ s' → Q (.ref l) s') : wpAny (model prog w) A (call (.ref 94) [v]) Q E s :=
  substm_spec W S.g S.po.keep he hsz hh hroom hu fun l vs k sts B' s' h1 h2 h3 h4 h5 P => h l vs k sts B' s' h1 h2 h3 h4 h5 P.sub (S.back0 P)
end

end
local macro_rules | `(tactic| walk_at "m-call") => `(tactic| ((with_reducible show wpAny _ _ (call (Value.ref 87) [_]) _ _ _); (with_reducible rename St _ _ _ _ _ _ => S0); refine S_sparts S0 (by assumption) (by with_reducible assumption) (by assumption) (by omega) (by omega) ?_; clear S0; intro l' vs' k' B' s' hl' hp' hsub' S'))
section
theorem tooLong {vs us : List Value} (hz : vs.length + us.length ≤ 16777216) : ¬(!vs.toArray.isEmpty && Builtin.List.listTooLong (vs.toArray.size + us.toArray.size)) = true := by
  rw [List.size_toArray, List.size_toArray]
  intro q
  rw [Bool.and_eq_true] at q
  have := of_decide_eq_true q.2
  rw [sizeLine_eq] at this
  omega
section
variable {prog : Program} {w : World} {A : Around} {E : Value → Shared → Prop} {s : Shared} {c : Cx} {B : Base} {L f : Addr} {m : Str → Option Value} {σ : List (Addr × Obj)}
theorem S_extendL {D b : Addr} {vs us : List Value} {n k i : Nat} {Q : Value → Shared → Prop} (S : St c B L m σ s) (hi : σ[i]? = some (D, lstO vs n)) (hb : B b = some (lstO us k)) (hz : vs.length + us.length ≤ 16777216)
    (h : ∀ n' s', St c B L m (σ.set i (D, lstO (vs ++ us) n')) s' → Q .none s') : wpAny (model prog w) A (call (.builtin "list.extend") [.ref D, .ref b]) Q E s := by
  have z := (S.own _ (List.mem_of_getElem? hi)).1
  obtain ⟨n', q⟩ : ∃ n', (s.heap.update D (Obj.mapSeq fun x => x ++ us.toArray)).get? D = some (lstO (vs ++ us) n') := by
    have q := PySem.IsL.update z fun xs => xs ++ us.toArray
    simp only [List.append_toArray] at q
    exact ⟨_, q⟩
  refine call_meets PySem.F.slot_list_extend ⟨_, z, rfl⟩ PySem.F.entry_list_extend (PySem.F.args_list_extend_2 _ _) (PySem.AutoSeq1.list_extend_list_list_0 D vs.toArray n b us.toArray k (tooLong hz) (by rw [List.size_toArray, sizeLine_eq]; omega) (by rw [List.size_toArray, List.size_toArray, sizeLine_eq]; omega)) ⟨z, S.po.keep _ _ hb, h n' _ (S.setD hi (Heap.SameBut.update ..) q (Like.mk _ _ _))⟩
theorem S_extendT {D b : Addr} {vs us : List Value} {n i : Nat} {Q : Value → Shared → Prop} (S : St c B L m σ s) (hi : σ[i]? = some (D, lstO vs n)) (hb : B b = some (tupO us)) (hz : vs.length + us.length ≤ 16777216)
    (h : ∀ n' s', St c B L m (σ.set i (D, lstO (vs ++ us) n')) s' → Q .none s') : wpAny (model prog w) A (call (.builtin "list.extend") [.ref D, .ref b]) Q E s := by
  have z := (S.own _ (List.mem_of_getElem? hi)).1
  obtain ⟨n', q⟩ : ∃ n', (s.heap.update D (Obj.mapSeq fun x => x ++ us.toArray)).get? D = some (lstO (vs ++ us) n') := by
    have q := PySem.IsL.update z fun xs => xs ++ us.toArray
    simp only [List.append_toArray] at q
    exact ⟨_, q⟩
  refine call_meets PySem.F.slot_list_extend ⟨_, z, rfl⟩ PySem.F.entry_list_extend (PySem.F.args_list_extend_2 _ _) (PySem.AutoSeq1.list_extend_list_tuple_0 D vs.toArray n b us.toArray 0 (tooLong hz) (by rw [List.size_toArray, sizeLine_eq]; omega) (by rw [List.size_toArray, List.size_toArray, sizeLine_eq]; omega)) ⟨z, S.po.keep _ _ hb, h n' _ (S.setD hi (Heap.SameBut.update ..) q (Like.mk _ _ _))⟩
end

end
local macro_rules | `(tactic| walk_at "m-meth") => `(tactic| ((with_reducible show wpAny _ _ (getMethod (Value.ref _) (Str.ofString "extend") _) _ _ _); (with_reducible rename St _ _ _ _ _ _ => S0); refine S_listMeth S0 (by walk_at "m-idx") PySem.F.slot_list_extend PySem.F.type_list_extend ?_))
local macro_rules | `(tactic| walk_at "m-call") => `(tactic| ((with_reducible show wpAny _ _ (call (Value.builtin "list.extend") [Value.ref _, Value.ref _]) _ _ _); (with_reducible rename St _ _ _ _ _ _ => S0); (first | (refine S_extendL S0 (by walk_at "m-idx") (by with_reducible assumption) (by walk_at "m-sz") ?_) | (refine S_extendT S0 (by walk_at "m-idx") (by with_reducible assumption) (by walk_at "m-sz") ?_)); clear S0; intro n' s' S'; (try dsimp only [List.set_cons_zero, List.set_cons_succ] at S')))
local macro_rules | `(tactic| walk_at "m-call") => `(tactic| ((with_reducible show wpAny _ _ (call (Value.ref 75) [_]) _ _ _); (with_reducible rename St _ _ _ _ _ _ => S0); refine S_tindex S0 (by assumption) (by with_reducible assumption) (by assumption) (by omega) (by omega) ?_; clear S0; intro l' vs' k' es' B' s' hl' he' hk' hn' hsub' S'))
local macro_rules | `(tactic| walk_at "m-call") => `(tactic| ((with_reducible show wpAny _ _ (call (Value.ref 82) [_]) _ _ _); (with_reducible rename St _ _ _ _ _ _ => S0); refine S_twrites S0 (by assumption) (by with_reducible assumption) (by assumption) (by omega) (by omega) ?_; clear S0; intro l' vs' k' ks' B' s' hl' hi' hk' hn' hsub' S'))
section
def tgtsS : PS → List (List PPart)
  | .set ps _ => [ps]
  | _ => []
theorem stgts_spec {prog : Program} {w : World} {G : Heap} (W : Wd w G) {A : Around} {s : Shared} {B : Base} {v : Value} {st : PS} {Q E : Value → Shared → Prop}
    (hg : ∀ b o, G.get? b = some o → B b = some o) (hk : ∀ b o, B b = some o → s.heap.get? b = some o) (he : SIn B st v) (hh : A.handled = none) (hroom : A.depth + 3 < recursionLimit) (hu : A.units + 100 < cLine)
    (hQ : ∀ l vs k B' s', B' l = some (lstO vs k) → All2 (TIn B') (tgtsS st) vs → Post ⟨G, s, B, []⟩ B' s' → Q (.ref l) s') :
    wpAny (model prog w) A (call (.ref 99) [v]) Q E s := by
  refine enter (M := []) (binds := [(Str.ofString "s", v)]) W hg hk (by omega) (by rfl) (by kernel_rfl) (by rfl) (locs (by rfl)) ?_ (by decide) (by rfl) (by rfl) (by rfl)
  intro L s₁ hL hk₁ S
  generalize hA : A.deeper (envX _ _ _ _ _ _) = A'
  clear hA
  cases st with
  | set ps e =>
    revert S
    refine SIn.setE he fun a g x y ha hg ht hy h₀ => ?_
    intro S
    rcases hg with ⟨t, rfl⟩ | ⟨t, rfl⟩
    · repeat (walk_at "m")
      rename St _ _ _ _ _ _ => T0
      have T1 := St.ins T0 (by assumption)
      have u0 := St.insSub T0
      exact hQ _ _ _ _ _ (St.insAt T0) (.cons (ht.mono u0) .nil) T1.po
    · repeat (walk_at "m")
      rename St _ _ _ _ _ _ => T0
      have T1 := St.ins T0 (by assumption)
      have u0 := St.insSub T0
      exact hQ _ _ _ _ _ (St.insAt T0) (.cons (ht.mono u0) .nil) T1.po
  | if1 c a =>
    revert S
    refine SIn.if1E he fun ad t x y ha hc h1 h₀ => ?_
    intro S
    repeat (walk_at "m")
    rename St _ _ _ _ _ _ => T0
    have T1 := St.ins T0 (by assumption)
    have u0 := St.insSub T0
    exact hQ _ _ _ _ _ (St.insAt T0) .nil T1.po
  | if2 c a b =>
    revert S
    refine SIn.if2E he fun ad t x y z ha hc h1 h2 h₀ => ?_
    intro S
    repeat (walk_at "m")
    rename St _ _ _ _ _ _ => T0
    have T1 := St.ins T0 (by assumption)
    have u0 := St.insSub T0
    exact hQ _ _ _ _ _ (St.insAt T0) .nil T1.po
  | case sel lab a b =>
    revert S
    refine SIn.caseE he fun ad t u x l r1 r2 lt y z k q ha hl hr1 hlt hr2 hx hq h1 h2 h₀ => ?_
    intro S
    repeat (walk_at "m")
    rename St _ _ _ _ _ _ => T0
    have T1 := St.ins T0 (by assumption)
    have u0 := St.insSub T0
    exact hQ _ _ _ _ _ (St.insAt T0) .nil T1.po
  | block0 =>
    revert S
    refine SIn.block0E he fun ad t l x k ha hl h₀ => ?_
    intro S
    repeat (walk_at "m")
    rename St _ _ _ _ _ _ => T0
    have T1 := St.ins T0 (by assumption)
    have u0 := St.insSub T0
    exact hQ _ _ _ _ _ (St.insAt T0) .nil T1.po
  | block1 a =>
    revert S
    refine SIn.block1E he fun ad t l x k y ha hl h1 h₀ => ?_
    intro S
    repeat (walk_at "m")
    rename St _ _ _ _ _ _ => T0
    have T1 := St.ins T0 (by assumption)
    have u0 := St.insSub T0
    exact hQ _ _ _ _ _ (St.insAt T0) .nil T1.po
  | block2 a b =>
    revert S
    refine SIn.block2E he fun ad t l x k y z ha hl h1 h2 h₀ => ?_
    intro S
    repeat (walk_at "m")
    rename St _ _ _ _ _ _ => T0
    have T1 := St.ins T0 (by assumption)
    have u0 := St.insSub T0
    exact hQ _ _ _ _ _ (St.insAt T0) .nil T1.po
  | loop c a =>
    revert S
    refine SIn.loopE he fun ad t x y ha hc h1 h₀ => ?_
    intro S
    repeat (walk_at "m")
    rename St _ _ _ _ _ _ => T0
    have T1 := St.ins T0 (by assumption)
    have u0 := St.insSub T0
    exact hQ _ _ _ _ _ (St.insAt T0) .nil T1.po
  | for_ i c u a =>
    revert S
    refine SIn.forE he fun ad t x y z q ha h1 hc h2 h3 h₀ => ?_
    intro S
    repeat (walk_at "m")
    rename St _ _ _ _ _ _ => T0
    have T1 := St.ins T0 (by assumption)
    have u0 := St.insSub T0
    exact hQ _ _ _ _ _ (St.insAt T0) .nil T1.po
  | wait a =>
    revert S
    refine SIn.waitE he fun ad t x y ha h1 h₀ => ?_
    intro S
    repeat (walk_at "m")
    rename St _ _ _ _ _ _ => T0
    have T1 := St.ins T0 (by assumption)
    have u0 := St.insSub T0
    exact hQ _ _ _ _ _ (St.insAt T0) .nil T1.po
  | await a =>
    revert S
    refine SIn.awaitE he fun ad t x y ha h1 h₀ => ?_
    intro S
    repeat (walk_at "m")
    rename St _ _ _ _ _ _ => T0
    have T1 := St.ins T0 (by assumption)
    have u0 := St.insSub T0
    exact hQ _ _ _ _ _ (St.insAt T0) .nil T1.po

section
variable {prog : Program} {w : World} {A : Around} {E : Value → Shared → Prop} {s : Shared} {c : Cx} {B : Base} {L f : Addr} {m : Str → Option Value} {σ : List (Addr × Obj)}
theorem S_stgts {v : Value} {st : PS} {Q : Value → Shared → Prop} (S : St c B L m σ s) (W : Wd w c.G) (he : SIn B st v) (hh : A.handled = none) (hroom : A.depth + 3 < recursionLimit) (hu : A.units + 100 < cLine)
    (h : ∀ l vs k B' s', B' l = some (lstO vs k) → All2 (TIn B') (tgtsS st) vs → Sub B B' → St c B' L m σ s' → Q (.ref l) s') : wpAny (model prog w) A (call (.ref 99) [v]) Q E s :=
  stgts_spec W S.g S.po.keep he hh hroom hu fun l vs k B' s' h1 h2 P => h l vs k B' s' h1 h2 P.sub (S.back0 P)
end
local macro_rules | `(tactic| walk_at "m-call") => `(tactic| ((with_reducible show wpAny _ _ (call (Value.ref 99) [_]) _ _ _); (with_reducible rename St _ _ _ _ _ _ => S0); refine S_stgts S0 (by assumption) (by with_reducible assumption) (by assumption) (by omega) (by omega) ?_; clear S0; intro l' vs' k' B' s' hl' ht' hsub' S'))

section
variable {prog : Program} {w : World} {A : Around} {E : Value → Shared → Prop} {s : Shared} {c : Cx} {B : Base} {L f : Addr} {m : Str → Option Value} {σ : List (Addr × Obj)}
theorem S_tindex2 {v : Value} {ps : List PPart} {Q : Value → Shared → Prop} (S : St c B L m σ s) (W : Wd w c.G) (he : TIn B ps v) (hh : A.handled = none) (hroom : A.depth + 3 < recursionLimit) (hu : A.units + 100 < cLine)
    (h : ∀ l vs k es B' s', B' l = some (lstO vs k) → All2 (EIn B') es vs → (∀ x, x ∈ es.flatMap keysE ↔ x ∈ keysT ps) → es.length ≤ 4 → vs.length ≤ 4 → Sub B B' → St c B' L m σ s' → Q (.ref l) s') : wpAny (model prog w) A (call (.ref 75) [v]) Q E s :=
  S_tindex S W he hh hroom hu fun l vs k es B' s' h1 h2 h3 h4 h5 h6 => h l vs k es B' s' h1 h2 h3 h4 (h2.length ▸ h4) h5 h6
end
local macro_rules | `(tactic| walk_at "m-call") => `(tactic| ((with_reducible show wpAny _ _ (call (Value.ref 75) [_]) _ _ _); (with_reducible rename St _ _ _ _ _ _ => S0); refine S_tindex2 S0 (by assumption) (by with_reducible assumption) (by assumption) (by omega) (by omega) ?_; clear S0; intro l' vs' k' es' B' s' hl' he' hk' hn' hvn' hsub' S'))

theorem sexprs_spec {prog : Program} {w : World} {G : Heap} (W : Wd w G) {A : Around} {s : Shared} {B : Base} {v : Value} {st : PS} {Q E : Value → Shared → Prop}
    (hg : ∀ b o, G.get? b = some o → B b = some o) (hk : ∀ b o, B b = some o → s.heap.get? b = some o) (he : SIn B st v) (hh : A.handled = none) (hroom : A.depth + 6 < recursionLimit) (hu : A.units + 200 < cLine)
    (hQ : ∀ l vs k es B' s', B' l = some (lstO vs k) → All2 (EIn B') es vs → (∀ x, x ∈ es.flatMap keysE ↔ x ∈ headR st) → es.length ≤ 10 → Post ⟨G, s, B, []⟩ B' s' → Q (.ref l) s') :
    wpAny (model prog w) A (call (.ref 106) [v]) Q E s := by
  refine enter (M := []) (binds := [(Str.ofString "s", v)]) W hg hk (by omega) (by rfl) (by kernel_rfl) (by rfl) (locs (by rfl)) ?_ (by decide) (by rfl) (by rfl) (by rfl)
  intro L s₁ hL hk₁ S
  generalize hA : A.deeper (envX _ _ _ _ _ _) = A'
  have hd' : A'.depth + 4 < recursionLimit := by rw [← hA]; show A.depth + 1 + 4 < _; omega
  have hu' : A'.units + 197 < cLine := by rw [← hA]; show A.units + 3 + 197 < cLine; omega
  have hh' : A'.handled = none := by rw [← hA]; exact hh
  clear hA
  cases st with
  | set ps e =>
    revert S
    refine SIn.setE he fun a g x y ha hg ht hy h₀ => ?_
    intro S
    rcases hg with ⟨t, rfl⟩ | ⟨t, rfl⟩
    · repeat (walk_at "m")
      rename (All2 _ _ _) => hts
      rcases hts with _ | ⟨h1, h2⟩
      cases h2
      rename (_ = some (lstO [_] _)) => hl
      rename (Sub B _) => hsub
      rename St _ _ _ _ _ _ => S
      refine S_forList S hh' hl (fun i B₃ m σ => Sub _ B₃ ∧ ∃ us n es, σ = [(_, lstO (y :: us) n)] ∧ All2 (EIn B₃) es us ∧ (∀ x, x ∈ es.flatMap keysE ↔ x ∈ ([ps].take i).flatMap keysT) ∧ es.length ≤ 4 * i ∧ m "found" = some (.ref _)) ⟨fun _ _ h => h, [], _, [], rfl, .nil, by simp, by simp, rfl⟩ ?_ ?_
      · clear S
        rintro it i B₃ m σ s v o hi hv hl3 ⟨u, us, n, es, rfl, hes, hk, hlen, hm⟩ S
        obtain rfl : i = 0 := by simpa using hi
        obtain rfl := List.length_eq_zero_iff.mp (Nat.le_zero.mp hlen)
        cases hes
        cases hv
        have h3 := h1.mono u
        repeat (walk_at "m")
        rename St _ _ _ _ _ _ => S
        refine ⟨rfl, _, _, _, by assumption, ?_, S⟩
        refine ⟨fun _ _ h => ‹Sub B₃ _› _ _ (u _ _ h), _, _, _, rfl, by assumption, fun x => ?_, by omega, (if_neg (by decide)).trans hm⟩
        rename (∀ x, x ∈ List.flatMap keysE _ ↔ x ∈ keysT ps) => hkk
        rw [hkk]; simp
      · clear S
        rintro B₃ m σ s hl3 ⟨u, us, n, es, rfl, hes, hk, hlen, hm⟩ S
        repeat (walk_at "m")
        rename St _ _ _ _ _ _ => S
        have S2 := S.ins (by assumption)
        have u0 := S.insSub
        refine hQ _ _ _ (e :: es) _ _ S.insAt (.cons (((hy.mono hsub).mono u).mono u0) (hes.mono fun _ _ h => h.mono u0)) (fun x => ?_) ?_ S2.po
        · rw [List.flatMap_cons, List.mem_append, hk]; simp [headR]
        · simp at hlen ⊢; omega
    · repeat (walk_at "m")
      rename (All2 _ _ _) => hts
      rcases hts with _ | ⟨h1, h2⟩
      cases h2
      rename (_ = some (lstO [_] _)) => hl
      rename (Sub B _) => hsub
      rename St _ _ _ _ _ _ => S
      refine S_forList S hh' hl (fun i B₃ m σ => Sub _ B₃ ∧ ∃ us n es, σ = [(_, lstO (y :: us) n)] ∧ All2 (EIn B₃) es us ∧ (∀ x, x ∈ es.flatMap keysE ↔ x ∈ ([ps].take i).flatMap keysT) ∧ es.length ≤ 4 * i ∧ m "found" = some (.ref _)) ⟨fun _ _ h => h, [], _, [], rfl, .nil, by simp, by simp, rfl⟩ ?_ ?_
      · clear S
        rintro it i B₃ m σ s v o hi hv hl3 ⟨u, us, n, es, rfl, hes, hk, hlen, hm⟩ S
        obtain rfl : i = 0 := by simpa using hi
        obtain rfl := List.length_eq_zero_iff.mp (Nat.le_zero.mp hlen)
        cases hes
        cases hv
        have h3 := h1.mono u
        repeat (walk_at "m")
        rename St _ _ _ _ _ _ => S
        refine ⟨rfl, _, _, _, by assumption, ?_, S⟩
        refine ⟨fun _ _ h => ‹Sub B₃ _› _ _ (u _ _ h), _, _, _, rfl, by assumption, fun x => ?_, by omega, (if_neg (by decide)).trans hm⟩
        rename (∀ x, x ∈ List.flatMap keysE _ ↔ x ∈ keysT ps) => hkk
        rw [hkk]; simp
      · clear S
        rintro B₃ m σ s hl3 ⟨u, us, n, es, rfl, hes, hk, hlen, hm⟩ S
        repeat (walk_at "m")
        rename St _ _ _ _ _ _ => S
        have S2 := S.ins (by assumption)
        have u0 := S.insSub
        refine hQ _ _ _ (e :: es) _ _ S.insAt (.cons (((hy.mono hsub).mono u).mono u0) (hes.mono fun _ _ h => h.mono u0)) (fun x => ?_) ?_ S2.po
        · rw [List.flatMap_cons, List.mem_append, hk]; simp [headR]
        · simp at hlen ⊢; omega
  | if1 c a =>
    revert S
    refine SIn.if1E he fun ad t x y ha hc h1 h₀ => ?_
    intro S
    repeat (walk_at "m")
    rename (All2 _ _ _) => ht
    cases ht
    rename (_ = some (lstO [] _)) => hl
    rename (Sub B _) => hsub
    rename St _ _ _ _ _ _ => S
    refine S_forList S hh' hl (fun i B m σ => Sub _ B ∧ ∃ o, σ = [(_, o)] ∧ o = _ ∧ m "found" = some (.ref _)) ⟨fun _ _ h => h, _, rfl, rfl, rfl⟩ (fun _ _ _ _ _ _ _ _ hi => absurd hi (Nat.not_lt_zero _)) ?_
    clear S
    rintro B m σ s hl' ⟨u, o, rfl, rfl, hm⟩ S
    repeat (walk_at "m")
    rename St _ _ _ _ _ _ => S
    have S2 := S.ins (by assumption)
    have u0 := S.insSub
    exact hQ _ _ _ [c] _ _ S.insAt (.cons ((((hc).mono hsub).mono u).mono u0) .nil) (by simp [headR]) (by simp) S2.po
  | if2 c a b =>
    revert S
    refine SIn.if2E he fun ad t x y z ha hc h1 h2 h₀ => ?_
    intro S
    repeat (walk_at "m")
    rename (All2 _ _ _) => ht
    cases ht
    rename (_ = some (lstO [] _)) => hl
    rename (Sub B _) => hsub
    rename St _ _ _ _ _ _ => S
    refine S_forList S hh' hl (fun i B m σ => Sub _ B ∧ ∃ o, σ = [(_, o)] ∧ o = _ ∧ m "found" = some (.ref _)) ⟨fun _ _ h => h, _, rfl, rfl, rfl⟩ (fun _ _ _ _ _ _ _ _ hi => absurd hi (Nat.not_lt_zero _)) ?_
    clear S
    rintro B m σ s hl' ⟨u, o, rfl, rfl, hm⟩ S
    repeat (walk_at "m")
    rename St _ _ _ _ _ _ => S
    have S2 := S.ins (by assumption)
    have u0 := S.insSub
    exact hQ _ _ _ [c] _ _ S.insAt (.cons ((((hc).mono hsub).mono u).mono u0) .nil) (by simp [headR]) (by simp) S2.po
  | case sel lab a b =>
    revert S
    refine SIn.caseE he fun ad t u x l r1 r2 lt y z k q ha hl hr1 hlt hr2 hx hq h1 h2 h₀ => ?_
    intro S
    repeat (walk_at "m")
    rename St _ _ _ _ _ _ => S
    refine S_forList S hh' hl (fun i B₃ m σ => B₃ = B ∧ ∃ n, σ = [(_, lstO (x :: [q].take i) n)] ∧ m "found" = some (.ref _) ∧ m "s" = some (.ref ad)) ⟨rfl, _, rfl, rfl, rfl⟩ ?_ ?_
    · clear S
      rintro it i B₃ m σ s v o hi hv hl3 ⟨rfl, n, rfl, hm, hms⟩ S
      match i, hi, hv with
      | 0, _, hv =>
        cases hv
        rw [List.take_zero] at S
        repeat (walk_at "m")
        rename St _ _ _ _ _ _ => S
        exact ⟨rfl, _, _, _, fun _ _ h => h, ⟨rfl, _, rfl, (if_neg (by decide)).trans hm, (if_neg (by decide)).trans hms⟩, S⟩
      | 1, _, hv =>
        cases hv
        repeat (walk_at "m")
        rename St _ _ _ _ _ _ => S
        exact ⟨rfl, _, _, _, fun _ _ h => h, ⟨rfl, _, rfl, (if_neg (by decide)).trans hm, (if_neg (by decide)).trans hms⟩, S⟩
    clear S
    rintro B₃ m σ s hl3 ⟨rfl, n, rfl, hm, hms⟩ S
    repeat (walk_at "m")
    rename (All2 _ _ _) => ht
    cases ht
    rename (_ = some (lstO [] _)) => hl5
    rename (Sub _ _) => hsub
    rename St _ _ _ _ _ _ => S
    refine S_forList S hh' hl5 (fun i B m σ => Sub _ B ∧ ∃ o, σ = [(_, o)] ∧ o = _ ∧ m "found" = some (.ref _)) ⟨fun _ _ h => h, _, rfl, rfl, hm⟩ (fun _ _ _ _ _ _ _ _ hi => absurd hi (Nat.not_lt_zero _)) ?_
    clear S
    rintro B m σ s hl' ⟨u', o, rfl, rfl, hm⟩ S
    repeat (walk_at "m")
    rename St _ _ _ _ _ _ => S
    have S2 := S.ins (by assumption)
    have u0 := S.insSub
    exact hQ _ _ _ [sel, lab] _ _ S.insAt (.cons ((((hx).mono hsub).mono u').mono u0) (.cons ((((hq).mono hsub).mono u').mono u0) .nil)) (by simp [headR]) (by simp) S2.po
  | block0 =>
    revert S
    refine SIn.block0E he fun ad t l x k ha hl h₀ => ?_
    intro S
    repeat (walk_at "m")
    rename (All2 _ _ _) => ht
    cases ht
    rename (_ = some (lstO [] _)) => hl
    rename (Sub B _) => hsub
    rename St _ _ _ _ _ _ => S
    refine S_forList S hh' hl (fun i B m σ => Sub _ B ∧ ∃ o, σ = [(_, o)] ∧ o = _ ∧ m "found" = some (.ref _)) ⟨fun _ _ h => h, _, rfl, rfl, rfl⟩ (fun _ _ _ _ _ _ _ _ hi => absurd hi (Nat.not_lt_zero _)) ?_
    clear S
    rintro B m σ s hl' ⟨u, o, rfl, rfl, hm⟩ S
    repeat (walk_at "m")
    rename St _ _ _ _ _ _ => S
    have S2 := S.ins (by assumption)
    have u0 := S.insSub
    exact hQ _ _ _ [] _ _ S.insAt (.nil) (by simp [headR]) (by simp) S2.po
  | block1 a =>
    revert S
    refine SIn.block1E he fun ad t l x k y ha hl h1 h₀ => ?_
    intro S
    repeat (walk_at "m")
    rename (All2 _ _ _) => ht
    cases ht
    rename (_ = some (lstO [] _)) => hl
    rename (Sub B _) => hsub
    rename St _ _ _ _ _ _ => S
    refine S_forList S hh' hl (fun i B m σ => Sub _ B ∧ ∃ o, σ = [(_, o)] ∧ o = _ ∧ m "found" = some (.ref _)) ⟨fun _ _ h => h, _, rfl, rfl, rfl⟩ (fun _ _ _ _ _ _ _ _ hi => absurd hi (Nat.not_lt_zero _)) ?_
    clear S
    rintro B m σ s hl' ⟨u, o, rfl, rfl, hm⟩ S
    repeat (walk_at "m")
    rename St _ _ _ _ _ _ => S
    have S2 := S.ins (by assumption)
    have u0 := S.insSub
    exact hQ _ _ _ [] _ _ S.insAt (.nil) (by simp [headR]) (by simp) S2.po
  | block2 a b =>
    revert S
    refine SIn.block2E he fun ad t l x k y z ha hl h1 h2 h₀ => ?_
    intro S
    repeat (walk_at "m")
    rename (All2 _ _ _) => ht
    cases ht
    rename (_ = some (lstO [] _)) => hl
    rename (Sub B _) => hsub
    rename St _ _ _ _ _ _ => S
    refine S_forList S hh' hl (fun i B m σ => Sub _ B ∧ ∃ o, σ = [(_, o)] ∧ o = _ ∧ m "found" = some (.ref _)) ⟨fun _ _ h => h, _, rfl, rfl, rfl⟩ (fun _ _ _ _ _ _ _ _ hi => absurd hi (Nat.not_lt_zero _)) ?_
    clear S
    rintro B m σ s hl' ⟨u, o, rfl, rfl, hm⟩ S
    repeat (walk_at "m")
    rename St _ _ _ _ _ _ => S
    have S2 := S.ins (by assumption)
    have u0 := S.insSub
    exact hQ _ _ _ [] _ _ S.insAt (.nil) (by simp [headR]) (by simp) S2.po
  | loop c a =>
    revert S
    refine SIn.loopE he fun ad t x y ha hc h1 h₀ => ?_
    intro S
    repeat (walk_at "m")
    rename (All2 _ _ _) => ht
    cases ht
    rename (_ = some (lstO [] _)) => hl
    rename (Sub B _) => hsub
    rename St _ _ _ _ _ _ => S
    refine S_forList S hh' hl (fun i B m σ => Sub _ B ∧ ∃ o, σ = [(_, o)] ∧ o = _ ∧ m "found" = some (.ref _)) ⟨fun _ _ h => h, _, rfl, rfl, rfl⟩ (fun _ _ _ _ _ _ _ _ hi => absurd hi (Nat.not_lt_zero _)) ?_
    clear S
    rintro B m σ s hl' ⟨u, o, rfl, rfl, hm⟩ S
    repeat (walk_at "m")
    rename St _ _ _ _ _ _ => S
    have S2 := S.ins (by assumption)
    have u0 := S.insSub
    exact hQ _ _ _ [c] _ _ S.insAt (.cons ((((hc).mono hsub).mono u).mono u0) .nil) (by simp [headR]) (by simp) S2.po
  | for_ i c u a =>
    revert S
    refine SIn.forE he fun ad t x y z q ha h1 hc h2 h3 h₀ => ?_
    intro S
    repeat (walk_at "m")
    rename (All2 _ _ _) => ht
    cases ht
    rename (_ = some (lstO [] _)) => hl
    rename (Sub B _) => hsub
    rename St _ _ _ _ _ _ => S
    refine S_forList S hh' hl (fun i B m σ => Sub _ B ∧ ∃ o, σ = [(_, o)] ∧ o = _ ∧ m "found" = some (.ref _)) ⟨fun _ _ h => h, _, rfl, rfl, rfl⟩ (fun _ _ _ _ _ _ _ _ hi => absurd hi (Nat.not_lt_zero _)) ?_
    clear S
    rintro B m σ s hl' ⟨u, o, rfl, rfl, hm⟩ S
    repeat (walk_at "m")
    rename St _ _ _ _ _ _ => S
    have S2 := S.ins (by assumption)
    have u0 := S.insSub
    exact hQ _ _ _ [c] _ _ S.insAt (.cons ((((hc).mono hsub).mono u).mono u0) .nil) (by simp [headR]) (by simp) S2.po
  | wait a =>
    revert S
    refine SIn.waitE he fun ad t x y ha h1 h₀ => ?_
    intro S
    repeat (walk_at "m")
    rename (All2 _ _ _) => ht
    cases ht
    rename (_ = some (lstO [] _)) => hl
    rename (Sub B _) => hsub
    rename St _ _ _ _ _ _ => S
    refine S_forList S hh' hl (fun i B m σ => Sub _ B ∧ ∃ o, σ = [(_, o)] ∧ o = _ ∧ m "found" = some (.ref _)) ⟨fun _ _ h => h, _, rfl, rfl, rfl⟩ (fun _ _ _ _ _ _ _ _ hi => absurd hi (Nat.not_lt_zero _)) ?_
    clear S
    rintro B m σ s hl' ⟨u, o, rfl, rfl, hm⟩ S
    repeat (walk_at "m")
    rename St _ _ _ _ _ _ => S
    have S2 := S.ins (by assumption)
    have u0 := S.insSub
    exact hQ _ _ _ [] _ _ S.insAt (.nil) (by simp [headR]) (by simp) S2.po
  | await a =>
    revert S
    refine SIn.awaitE he fun ad t x y ha h1 h₀ => ?_
    intro S
    repeat (walk_at "m")
    rename (All2 _ _ _) => ht
    cases ht
    rename (_ = some (lstO [] _)) => hl
    rename (Sub B _) => hsub
    rename St _ _ _ _ _ _ => S
    refine S_forList S hh' hl (fun i B m σ => Sub _ B ∧ ∃ o, σ = [(_, o)] ∧ o = _ ∧ m "found" = some (.ref _)) ⟨fun _ _ h => h, _, rfl, rfl, rfl⟩ (fun _ _ _ _ _ _ _ _ hi => absurd hi (Nat.not_lt_zero _)) ?_
    clear S
    rintro B m σ s hl' ⟨u, o, rfl, rfl, hm⟩ S
    repeat (walk_at "m")
    rename St _ _ _ _ _ _ => S
    have S2 := S.ins (by assumption)
    have u0 := S.insSub
    exact hQ _ _ _ [] _ _ S.insAt (.nil) (by simp [headR]) (by simp) S2.po

end
section
theorem ints_at {vs : List Value} {ks : List Int} (h : IntsAre vs ks) : ∀ {i : Nat} {v : Value}, vs[i]? = some v → ∃ k t, v = .int k t ∧ ks[i]? = some k := by
  induction h with
  | nil => intro i v hv; simp at hv
  | cons n t _ ih =>
    intro i v hv
    cases i with
    | zero => simp at hv; exact ⟨n, t, hv.symm, rfl⟩
    | succ i => rw [List.getElem?_cons_succ] at hv ⊢; exact ih hv
theorem ints_len {vs : List Value} {ks : List Int} (h : IntsAre vs ks) : vs.length = ks.length := by
  induction h with
  | nil => rfl
  | cons _ _ _ ih => simp [ih]
theorem take_ints {ks : List Int} {k : Int} {i : Nat} (h : ks[i]? = some k) (x : Int) : x ∈ ks.take (i + 1) ↔ x ∈ ks.take i ∨ x = k := by
  rw [List.take_add_one, h, List.mem_append]
  simp
theorem WordIn.lim {B : Base} {o : Option PE} {v : Value} (h : WordIn B o v) : ∀ k ∈ optKeys o, 0 ≤ k ∧ k < 8 := by
  cases o with
  | none => intro k hk; simp [optKeys] at hk
  | some e =>
    have h' : EIn B e _ := (h.choose_spec.choose_spec).2.2
    exact fun k hk => goodE.keys h'.2 k hk
theorem SpotIn.lim {B : Base} {o : Option PE} {v : Value} (h : SpotIn B o v) : ∀ k ∈ optKeys o, 0 ≤ k ∧ k < 8 := by
  cases o with
  | none => intro k hk; simp [optKeys] at hk
  | some e =>
    obtain ⟨_, _, _, _, _, _, _, h'⟩ := h
    exact fun k hk => goodE.keys h'.2 k hk
theorem TIn.lim {B : Base} {ps : List PPart} {v : Value} (h : TIn B ps v) : ∀ k ∈ keysT ps, 0 ≤ k ∧ k < 8 := by
  obtain ⟨_, _, _, _, vs, -, -, -, h, -⟩ := h
  induction h with
  | nil => intro k hk; simp [keysT] at hk
  | cons hp _ ih =>
    intro k hk
    rw [keysT, List.flatMap_cons, List.mem_append] at hk
    rcases hk with hk | hk
    · obtain ⟨_, _, _, _, _, _, _, _, hw, hs⟩ := hp
      rcases List.mem_append.mp hk with hk | hk
      · exact hw.lim k hk
      · exact hs.lim k hk
    · exact ih k hk
theorem TIn.limW {B : Base} {ps : List PPart} {v : Value} (h : TIn B ps v) : ∀ k ∈ writesT ps, 0 ≤ k ∧ k < 8 := by
  obtain ⟨_, _, _, _, vs, _, _, _, _, _, h⟩ := h
  intro k hk
  obtain ⟨p, hp, rfl⟩ := List.mem_map.mp hk
  exact h p hp
def Lim (l : List Int) : Prop := ∀ k ∈ l, 0 ≤ k ∧ k < 8
theorem Lim.append {l l' : List Int} (h : Lim l) (h' : Lim l') : Lim (l ++ l') := fun k hk => (List.mem_append.mp hk).elim (h k) (h' k)
theorem Lim.nil : Lim [] := fun k hk => by cases hk
theorem EIn.lim {B : Base} {e : PE} {v : Value} (h : EIn B e v) : Lim (keysE e) := goodE.keys h.2
theorem SIn.lim {B : Base} {st : PS} {v : Value} (h : SIn B st v) : Lim (readsS st) ∧ Lim (writesS st) := by
  induction st generalizing v with
  | set _ _ => exact SIn.setE (P := fun _ => _) h fun _ _ _ _ _ _ h1 h2 _ => ⟨h2.lim.append h1.lim, h1.limW⟩
  | if1 _ _ i => exact SIn.if1E (P := fun _ => _) h fun _ _ _ _ _ h1 h2 _ => ⟨h1.lim.append (i h2).1, (i h2).2⟩
  | if2 _ _ _ i j => exact SIn.if2E (P := fun _ => _) h fun _ _ _ _ _ _ h1 h2 h3 _ => ⟨(h1.lim.append (i h2).1).append (j h3).1, (i h2).2.append (j h3).2⟩
  | case _ _ _ _ i j => exact SIn.caseE (P := fun _ => _) h fun _ _ _ _ _ _ _ _ _ _ _ _ _ _ _ _ _ h1 h2 h3 h4 _ => ⟨((h1.lim.append h2.lim).append (i h3).1).append (j h4).1, (i h3).2.append (j h4).2⟩
  | block0 => exact ⟨.nil, .nil⟩
  | block1 a i => exact SIn.block1E (P := fun _ => _) h fun _ _ _ _ _ _ _ _ h1 _ => i h1
  | block2 _ _ i j => exact SIn.block2E (P := fun _ => _) h fun _ _ _ _ _ _ _ _ _ h2 h3 _ => ⟨(i h2).1.append (j h3).1, (i h2).2.append (j h3).2⟩
  | loop _ _ i => exact SIn.loopE (P := fun _ => _) h fun _ _ _ _ _ h1 h2 _ => ⟨h1.lim.append (i h2).1, (i h2).2⟩
  | for_ _ _ _ _ i j k => exact SIn.forE (P := fun _ => _) h fun _ _ _ _ _ _ _ h1 h2 h3 h4 _ => ⟨(((i h1).1.append h2.lim).append (j h3).1).append (k h4).1, ((i h1).2.append (j h3).2).append (k h4).2⟩
  | wait a i => exact SIn.waitE (P := fun _ => _) h fun _ _ _ _ _ h1 _ => i h1
  | await a i => exact SIn.awaitE (P := fun _ => _) h fun _ _ _ _ _ h1 _ => i h1

section
variable {prog : Program} {w : World} {A : Around} {E : Value → Shared → Prop} {s : Shared} {c : Cx} {B : Base} {L f : Addr} {m : Str → Option Value} {σ : List (Addr × Obj)}
theorem S_sexprs {v : Value} {st : PS} {Q : Value → Shared → Prop} (S : St c B L m σ s) (W : Wd w c.G) (he : SIn B st v) (hh : A.handled = none) (hroom : A.depth + 6 < recursionLimit) (hu : A.units + 200 < cLine)
    (h : ∀ l vs k es B' s', B' l = some (lstO vs k) → All2 (EIn B') es vs → (∀ x, x ∈ es.flatMap keysE ↔ x ∈ headR st) → es.length ≤ 10 → Sub B B' → St c B' L m σ s' → Q (.ref l) s') : wpAny (model prog w) A (call (.ref 106) [v]) Q E s :=
  sexprs_spec W S.g S.po.keep he hh hroom hu fun l vs k es B' s' h1 h2 h3 h4 P => h l vs k es B' s' h1 h2 h3 h4 P.sub (S.back0 P)
end
local macro_rules | `(tactic| walk_at "m-call") => `(tactic| ((with_reducible show wpAny _ _ (call (Value.ref 106) [_]) _ _ _); (with_reducible rename St _ _ _ _ _ _ => S0); refine S_sexprs S0 (by assumption) (by with_reducible assumption) (by assumption) (by omega) (by omega) ?_; clear S0; intro l' vs' k' es' B' s' hl' he' hk' hn' hsub' S'))
local macro_rules | `(tactic| walk_at "m-call") => `(tactic| ((with_reducible show wpAny _ _ (call (Value.ref 94) [_]) _ _ _); (with_reducible rename St _ _ _ _ _ _ => S0); refine S_substm S0 (by assumption) (by with_reducible assumption) (by assumption) (by assumption) (by omega) (by omega) ?_; clear S0; intro l' vs' k' sts' B' s' hl' hs' hr' hw' hn' hsub' S'))

theorem sreads_spec {prog : Program} {w : World} {G : Heap} (W : Wd w G) {A : Around} {s : Shared} {B : Base} {v : Value} {st : PS} {Q E : Value → Shared → Prop}
    (hg : ∀ b o, G.get? b = some o → B b = some o) (hk : ∀ b o, B b = some o → s.heap.get? b = some o) (he : SIn B st v) (hsz : sizeS st ≤ 1000) (hh : A.handled = none) (hroom : A.depth + 9 < recursionLimit) (hu : A.units + 300 < cLine)
    (hQ : ∀ l vs k ks B' s', B' l = some (lstO vs k) → IntsAre vs ks → (∀ x, x ∈ ks ↔ x ∈ readsS st) → ks.length ≤ 8 → Post ⟨G, s, B, []⟩ B' s' → Q (.ref l) s') :
    wpAny (model prog w) A (call (.ref 113) [v]) Q E s := by
  refine enter (M := []) (binds := [(Str.ofString "s", v)]) W hg hk (by omega) (by rfl) (by kernel_rfl) (by rfl) (locs (by rfl)) ?_ (by decide) (by rfl) (by rfl) (by rfl)
  intro L s₁ hL hk₁ S
  generalize hA : A.deeper (envX _ _ _ _ _ _) = A'
  have hd' : A'.depth + 7 < recursionLimit := by rw [← hA]; show A.depth + 1 + 7 < _; omega
  have hu' : A'.units + 297 < cLine := by rw [← hA]; show A.units + 3 + 297 < cLine; omega
  have hh' : A'.handled = none := by rw [← hA]; exact hh
  clear hA
  have hlim : Lim (readsS st) := (SIn.lim he).1
  repeat (walk_at "m")
  rename_i d o _ hd lo ho _ l vs k sts B₂ _ hl hsts hr hw hn hsub S
  refine S_forList S hh' hl (fun i B m σ => Sub B₂ B ∧ ∃ o ks, σ = [(d, o)] ∧ DictO prog w o ks ∧ (∀ x, x ∈ ks ↔ x ∈ (sts.take i).flatMap headR) ∧ m "keys" = some (.ref d)) ⟨fun _ _ h => h, _, _, rfl, ho, by simp, rfl⟩ ?_ ?_
  · clear S
    rintro it i B m σ s v o hi hv hl ⟨u, o', ks, rfl, hd', hk', hm⟩ S
    obtain ⟨x, hx, hxv⟩ := hsts.at hv
    have hxv' := SIn.mono u hxv
    have hnext := mem_take1 headR hx
    have hin : ∀ k, k ∈ (sts.take i).flatMap headR ∨ k ∈ headR x → k ∈ readsS st := fun k hk => (hr k).mp (take_mem ((hnext k).mpr hk))
    clear hxv
    repeat (walk_at "m")
    rename_i l2 vs2 k2 es B₄ _ hl2 hes he2 hn2 hsub2 S
    refine S_forList S hh' hl2 (fun j B m σ => Sub B₄ B ∧ ∃ o2 ks, σ = [(it, o), (d, o2)] ∧ DictO prog w o2 ks ∧ (∀ x, x ∈ ks ↔ x ∈ (sts.take i).flatMap headR ∨ x ∈ (es.take j).flatMap keysE) ∧ m "keys" = some (.ref d)) ⟨fun _ _ h => h, _, ks, rfl, hd', by simpa using hk', (if_neg (by decide)).trans hm⟩ ?_ ?_
    · clear S
      rintro it2 j B m σ s v o4 hj hv2 hl3 ⟨u2, o5, ks2, rfl, hd2, hk2, hm2⟩ S
      obtain ⟨y, hy, hyv⟩ := hes.at hv2
      have hyv' := hyv.mono u2
      have hnext2 := mem_take1 keysE hy
      have hin2 : ∀ k, k ∈ (es.take j).flatMap keysE ∨ k ∈ keysE y → k ∈ headR x := fun k hk => (he2 k).mp (take_mem ((hnext2 k).mpr hk))
      clear hyv
      repeat (walk_at "m")
      rename_i l3 vs3 k3 rs B₅ _ hl4 hir hkr hn3 hsub3 S
      refine S_forList S hh' hl4 (fun n B m σ => Sub B₅ B ∧ ∃ o2 ks, σ = [(it2, o4), (it, o), (d, o2)] ∧ DictO prog w o2 ks ∧ (∀ x, x ∈ ks ↔ (x ∈ (sts.take i).flatMap headR ∨ x ∈ (es.take j).flatMap keysE) ∨ x ∈ rs.take n) ∧ m "keys" = some (.ref d)) ⟨fun _ _ h => h, _, ks2, rfl, hd2, by simpa using hk2, (if_neg (by decide)).trans hm2⟩ ?_ ?_
      · clear S
        rintro it3 n B m σ s v o6 hnn hv3 hl5 ⟨u3, o7, ks3, rfl, hd3, hk3, hm3⟩ S
        obtain ⟨q, tq, rfl, hq⟩ := ints_at hir hv3
        have hnext3 := take_ints hq
        have hfew : ks3.length ≤ 8 := hd3.few fun z hz => hlim z (by
          rcases (hk3 z).mp hz with (h | h) | h
          · exact hin z (.inl h)
          · exact hin z (.inr (hin2 z (.inl h)))
          · exact hin z (.inr (hin2 z (.inr ((hkr z).mp (List.mem_of_mem_take h))))))
        repeat (walk_at "m")
        rename St _ _ _ _ _ _ => S
        refine ⟨rfl, _, _, _, fun _ _ h => h, ?_, S⟩
        refine ⟨u3, _, addK ks3 q, rfl, by assumption, fun x => ?_, (if_neg (by decide)).trans hm3⟩
        rw [mem_addK, hk3, hnext3, or_assoc (c := x = q)]
      · clear S
        rintro B m σ s hl5 ⟨u3, o7, ks3, rfl, hd3, hk3, hm3⟩ S
        rw [List.take_of_length_le (l := rs) (by rw [ints_len hir]; exact Nat.le_refl _)] at hk3
        repeat (walk_at "m")
        rename St _ _ _ _ _ _ => S
        refine ⟨rfl, _, _, _, fun _ _ h => u3 _ _ (hsub3 _ _ h), ?_, S⟩
        refine ⟨fun _ _ h => u3 _ _ (hsub3 _ _ (u2 _ _ h)), _, ks3, rfl, hd3, fun x => ?_, hm3⟩
        rw [hk3, hkr, hnext2, or_assoc]
    · clear S
      rintro B m σ s hl3 ⟨u2, o5, ks2, rfl, hd2, hk2, hm2⟩ S
      rw [List.take_of_length_le (l := es) (by rw [hes.length]; exact Nat.le_refl _)] at hk2
      repeat (walk_at "m")
      rename St _ _ _ _ _ _ => S
      refine ⟨rfl, _, _, _, fun _ _ h => u2 _ _ (hsub2 _ _ h), ?_, S⟩
      refine ⟨fun _ _ h => u2 _ _ (hsub2 _ _ (u _ _ h)), _, ks2, rfl, hd2, fun x => ?_, hm2⟩
      rw [hk2, he2, hnext]
  · clear S
    rintro B m σ s hl ⟨u, o', ks, rfl, hd', hk', hm⟩ S
    rw [List.take_of_length_le (by rw [hsts.length]; exact Nat.le_refl _)] at hk'
    have hkl : ks.length ≤ 8 := hd'.few fun x hx => hlim x ((hr x).mp ((hk' x).mp hx))
    repeat (walk_at "m")
    rename_i r vr kr nr sr hrr hir hkr hlr S
    have S2 := S.ins hrr
    exact hQ _ _ _ kr _ _ S.insAt hir (fun x => (hkr x).trans ((hk' x).trans (hr x))) (by omega) S2.po

end
section
theorem tgts_head (st : PS) (x : Int) : x ∈ (tgtsS st).flatMap writesT ↔ x ∈ headW st := by
  cases st <;> simp [tgtsS, headW]
local macro_rules | `(tactic| walk_at "m-call") => `(tactic| ((with_reducible show wpAny _ _ (call (Value.ref 94) [_]) _ _ _); (with_reducible rename St _ _ _ _ _ _ => S0); refine S_substm S0 (by assumption) (by with_reducible assumption) (by assumption) (by assumption) (by omega) (by omega) ?_; clear S0; intro l' vs' k' sts' B' s' hl' hs' hr' hw' hn' hsub' S'))
local macro_rules | `(tactic| walk_at "m-call") => `(tactic| ((with_reducible show wpAny _ _ (call (Value.ref 99) [_]) _ _ _); (with_reducible rename St _ _ _ _ _ _ => S0); refine S_stgts S0 (by assumption) (by with_reducible assumption) (by assumption) (by omega) (by omega) ?_; clear S0; intro l' vs' k' B' s' hl' ht' hsub' S'))
theorem swrites_spec {prog : Program} {w : World} {G : Heap} (W : Wd w G) {A : Around} {s : Shared} {B : Base} {v : Value} {st : PS} {Q E : Value → Shared → Prop}
    (hg : ∀ b o, G.get? b = some o → B b = some o) (hk : ∀ b o, B b = some o → s.heap.get? b = some o) (he : SIn B st v) (hsz : sizeS st ≤ 1000) (hh : A.handled = none) (hroom : A.depth + 9 < recursionLimit) (hu : A.units + 300 < cLine)
    (hQ : ∀ l vs k ks B' s', B' l = some (lstO vs k) → IntsAre vs ks → (∀ x, x ∈ ks ↔ x ∈ writesS st) → ks.length ≤ 8 → Post ⟨G, s, B, []⟩ B' s' → Q (.ref l) s') :
    wpAny (model prog w) A (call (.ref 120) [v]) Q E s := by
  refine enter (M := []) (binds := [(Str.ofString "s", v)]) W hg hk (by omega) (by rfl) (by kernel_rfl) (by rfl) (locs (by rfl)) ?_ (by decide) (by rfl) (by rfl) (by rfl)
  intro L s₁ hL hk₁ S
  generalize hA : A.deeper (envX _ _ _ _ _ _) = A'
  have hd' : A'.depth + 7 < recursionLimit := by rw [← hA]; show A.depth + 1 + 7 < _; omega
  have hu' : A'.units + 297 < cLine := by rw [← hA]; show A.units + 3 + 297 < cLine; omega
  have hh' : A'.handled = none := by rw [← hA]; exact hh
  clear hA
  have hlim : Lim (writesS st) := (SIn.lim he).2
  repeat (walk_at "m")
  rename_i d o _ hd lo ho _ l vs k sts B₂ _ hl hsts hr hw hn hsub S
  refine S_forList S hh' hl (fun i B m σ => Sub B₂ B ∧ ∃ o ks, σ = [(d, o)] ∧ DictO prog w o ks ∧ (∀ x, x ∈ ks ↔ x ∈ (sts.take i).flatMap headW) ∧ m "keys" = some (.ref d)) ⟨fun _ _ h => h, _, _, rfl, ho, by simp, rfl⟩ ?_ ?_
  · clear S
    rintro it i B m σ s v o hi hv hl ⟨u, o', ks, rfl, hd', hk', hm⟩ S
    obtain ⟨x, hx, hxv⟩ := hsts.at hv
    have hxv' := SIn.mono u hxv
    have hnext := mem_take1 headW hx
    have hin : ∀ k, k ∈ (sts.take i).flatMap headW ∨ k ∈ headW x → k ∈ writesS st := fun k hk => (hw k).mp (take_mem ((hnext k).mpr hk))
    clear hxv
    repeat (walk_at "m")
    rename_i l2 vs2 k2 B₄ _ hl2 hes hsub2 S
    have he2 := tgts_head x
    generalize tgtsS x = es at hes he2
    refine S_forList S hh' hl2 (fun j B m σ => Sub B₄ B ∧ ∃ o2 ks, σ = [(it, o), (d, o2)] ∧ DictO prog w o2 ks ∧ (∀ x, x ∈ ks ↔ x ∈ (sts.take i).flatMap headW ∨ x ∈ (es.take j).flatMap writesT) ∧ m "keys" = some (.ref d)) ⟨fun _ _ h => h, _, ks, rfl, hd', by simpa using hk', (if_neg (by decide)).trans hm⟩ ?_ ?_
    · clear S
      rintro it2 j B m σ s v o4 hj hv2 hl3 ⟨u2, o5, ks2, rfl, hd2, hk2, hm2⟩ S
      obtain ⟨y, hy, hyv⟩ := hes.at hv2
      have hyv' := hyv.mono u2
      have hnext2 := mem_take1 writesT hy
      have hin2 : ∀ k, k ∈ (es.take j).flatMap writesT ∨ k ∈ writesT y → k ∈ headW x := fun k hk => (he2 k).mp (take_mem ((hnext2 k).mpr hk))
      clear hyv
      repeat (walk_at "m")
      rename_i l3 vs3 k3 rs B₅ _ hl4 hir hkr hn3 hsub3 S
      refine S_forList S hh' hl4 (fun n B m σ => Sub B₅ B ∧ ∃ o2 ks, σ = [(it2, o4), (it, o), (d, o2)] ∧ DictO prog w o2 ks ∧ (∀ x, x ∈ ks ↔ (x ∈ (sts.take i).flatMap headW ∨ x ∈ (es.take j).flatMap writesT) ∨ x ∈ rs.take n) ∧ m "keys" = some (.ref d)) ⟨fun _ _ h => h, _, ks2, rfl, hd2, by simpa using hk2, (if_neg (by decide)).trans hm2⟩ ?_ ?_
      · clear S
        rintro it3 n B m σ s v o6 hnn hv3 hl5 ⟨u3, o7, ks3, rfl, hd3, hk3, hm3⟩ S
        obtain ⟨q, tq, rfl, hq⟩ := ints_at hir hv3
        have hnext3 := take_ints hq
        have hfew : ks3.length ≤ 8 := hd3.few fun z hz => hlim z (by
          rcases (hk3 z).mp hz with (h | h) | h
          · exact hin z (.inl h)
          · exact hin z (.inr (hin2 z (.inl h)))
          · exact hin z (.inr (hin2 z (.inr ((hkr z).mp (List.mem_of_mem_take h))))))
        repeat (walk_at "m")
        rename St _ _ _ _ _ _ => S
        refine ⟨rfl, _, _, _, fun _ _ h => h, ?_, S⟩
        refine ⟨u3, _, addK ks3 q, rfl, by assumption, fun x => ?_, (if_neg (by decide)).trans hm3⟩
        rw [mem_addK, hk3, hnext3, or_assoc (c := x = q)]
      · clear S
        rintro B m σ s hl5 ⟨u3, o7, ks3, rfl, hd3, hk3, hm3⟩ S
        rw [List.take_of_length_le (l := rs) (by rw [ints_len hir]; exact Nat.le_refl _)] at hk3
        repeat (walk_at "m")
        rename St _ _ _ _ _ _ => S
        refine ⟨rfl, _, _, _, fun _ _ h => u3 _ _ (hsub3 _ _ h), ?_, S⟩
        refine ⟨fun _ _ h => u3 _ _ (hsub3 _ _ (u2 _ _ h)), _, ks3, rfl, hd3, fun x => ?_, hm3⟩
        rw [hk3, hkr, hnext2, or_assoc]
    · clear S
      rintro B m σ s hl3 ⟨u2, o5, ks2, rfl, hd2, hk2, hm2⟩ S
      rw [List.take_of_length_le (l := es) (by rw [hes.length]; exact Nat.le_refl _)] at hk2
      repeat (walk_at "m")
      rename St _ _ _ _ _ _ => S
      refine ⟨rfl, _, _, _, fun _ _ h => u2 _ _ (hsub2 _ _ h), ?_, S⟩
      refine ⟨fun _ _ h => u2 _ _ (hsub2 _ _ (u _ _ h)), _, ks2, rfl, hd2, fun x => ?_, hm2⟩
      rw [hk2, he2, hnext]
  · clear S
    rintro B m σ s hl ⟨u, o', ks, rfl, hd', hk', hm⟩ S
    rw [List.take_of_length_le (by rw [hsts.length]; exact Nat.le_refl _)] at hk'
    have hkl : ks.length ≤ 8 := hd'.few fun x hx => hlim x ((hw x).mp ((hk' x).mp hx))
    repeat (walk_at "m")
    rename_i r vr kr nr sr hrr hir hkr hlr S
    have S2 := S.ins hrr
    exact hQ _ _ _ kr _ _ S.insAt hir (fun x => (hkr x).trans ((hk' x).trans (hw x))) (by omega) S2.po

section
variable {prog : Program} {w : World} {A : Around} {E : Value → Shared → Prop} {s : Shared} {c : Cx} {B : Base} {L f : Addr} {m : Str → Option Value} {σ : List (Addr × Obj)}
theorem S_sreads {v : Value} {st : PS} {Q : Value → Shared → Prop} (S : St c B L m σ s) (W : Wd w c.G) (he : SIn B st v) (hsz : sizeS st ≤ 1000) (hh : A.handled = none) (hroom : A.depth + 9 < recursionLimit) (hu : A.units + 300 < cLine)
    (h : ∀ l vs k ks B' s', B' l = some (lstO vs k) → IntsAre vs ks → (∀ x, x ∈ ks ↔ x ∈ readsS st) → ks.length ≤ 8 → Sub B B' → St c B' L m σ s' → Q (.ref l) s') : wpAny (model prog w) A (call (.ref 113) [v]) Q E s :=
  sreads_spec W S.g S.po.keep he hsz hh hroom hu fun l vs k ks B' s' h1 h2 h3 h4 P => h l vs k ks B' s' h1 h2 h3 h4 P.sub (S.back0 P)
theorem S_swrites {v : Value} {st : PS} {Q : Value → Shared → Prop} (S : St c B L m σ s) (W : Wd w c.G) (he : SIn B st v) (hsz : sizeS st ≤ 1000) (hh : A.handled = none) (hroom : A.depth + 9 < recursionLimit) (hu : A.units + 300 < cLine)
    (h : ∀ l vs k ks B' s', B' l = some (lstO vs k) → IntsAre vs ks → (∀ x, x ∈ ks ↔ x ∈ writesS st) → ks.length ≤ 8 → Sub B B' → St c B' L m σ s' → Q (.ref l) s') : wpAny (model prog w) A (call (.ref 120) [v]) Q E s :=
  swrites_spec W S.g S.po.keep he hsz hh hroom hu fun l vs k ks B' s' h1 h2 h3 h4 P => h l vs k ks B' s' h1 h2 h3 h4 P.sub (S.back0 P)
end

end
section
section
variable {prog : Program} {w : World} {A : Around} {E : Value → Shared → Prop} {s : Shared} {c : Cx} {B : Base} {L f : Addr} {m : Str → Option Value} {σ : List (Addr × Obj)}
theorem S_len {i n : Nat} {a : Addr} {vs : List Value} {Q : Value → Shared → Prop} (S : St c B L m σ s) (hi : σ[i]? = some (a, lstO vs n)) (hz : vs.length ≤ 16777216)
    (h : ∀ t s', St c B L m σ s' → Q (.int (vs.length : Int) t) s') : wpAny (model prog w) A (call (.builtin "len") [.ref a]) Q E s := by
  refine call_len_list (items := vs.toArray) ⟨_, (S.own _ (List.mem_of_getElem? hi)).1, rfl, n, rfl⟩ (by rw [List.size_toArray]; omega) ?_
  rw [List.size_toArray]
  exact h _ _ (S.toks _)
theorem S_floordiv {a : Int} {t u : Tok} {Q : Value → Shared → Prop} (S : St c B L m σ s) (h : ∀ s' t, St c B L m σ s' → Q (.int (a.fdiv 229) t) s') : wpAny (model prog w) A (binaryOp .FloorDiv (.int a t) (.int 229 u)) Q E s :=
  floordiv_int (by decide) (h _ _ (S.toks _)) (.inl (PyProof.noPylong_small (by decide)))
theorem S_mul3r {a : Int} {t u : Tok} {Q : Value → Shared → Prop} (S : St c B L m σ s) (h : ∀ s' t, St c B L m σ s' → Q (.int (a * 3) t) s') : wpAny (model prog w) A (binaryOp .Mult (.int a t) (.int 3 u)) Q E s :=
  mul_int (h _ _ (S.toks _)) (IntMulOk.of_right (by decide))
theorem S_mul3l {a : Int} {t u : Tok} {Q : Value → Shared → Prop} (S : St c B L m σ s) (h : ∀ s' t, St c B L m σ s' → Q (.int (3 * a) t) s') : wpAny (model prog w) A (binaryOp .Mult (.int 3 t) (.int a u)) Q E s :=
  mul_int (h _ _ (S.toks _)) (IntMulOk.of_left (by decide))
theorem S_reverse {i n : Nat} {D : Addr} {vs : List Value} {Q : Value → Shared → Prop} (S : St c B L m σ s) (hi : σ[i]? = some (D, lstO vs n)) (hz : vs.length ≤ 16777216)
    (h : ∀ n' s', St c B L m (σ.set i (D, lstO vs.reverse n')) s' → Q .none s') : wpAny (model prog w) A (call (.builtin "list.reverse") [.ref D]) Q E s := by
  have z := (S.own _ (List.mem_of_getElem? hi)).1
  obtain ⟨n', q⟩ : ∃ n', (s.heap.update D (Obj.mapSeq fun x => x.reverse)).get? D = some (lstO vs.reverse n') := by
    have q := PySem.IsL.update z fun xs => xs.reverse
    simp only [List.reverse_toArray] at q
    exact ⟨_, q⟩
  exact call_meets PySem.F.slot_list_reverse ⟨_, z, rfl⟩ PySem.F.entry_list_reverse (PySem.F.args_list_reverse_1 _) (PySem.AutoSeq1.list_reverse_list_0 D vs.toArray n (by rw [List.size_toArray, sizeLine_eq]; exact hz)) ⟨z, h n' _ (S.setD hi (Heap.SameBut.update ..) q (Like.mk _ _ _))⟩
end

end
section
theorem no_len (w : World) : nsIn (KK w) mainGlobals "len" = some none := by kernel_rfl
local macro_rules | `(tactic| walk_at "m-eval") => `(tactic| ((with_reducible show wpAny _ _ (eval (Expr.Name (Str.ofString "len") _) _) _ _ _); (with_reducible rename St _ _ _ _ _ _ => S0); refine S_blt S0 (by assumption) (by with_reducible exact no_len _) boot_len ?_))
local macro_rules | `(tactic| walk_at "m-call") => `(tactic| ((with_reducible show wpAny _ _ (call (Value.builtin "len") [Value.ref _]) _ _ _); (with_reducible rename St _ _ _ _ _ _ => S0); refine S_len S0 (by walk_at "m-idx") (by walk_at "m-sz") ?_; clear S0; intro t' s' S'))
local macro_rules | `(tactic| walk_at "m-call") => `(tactic| ((with_reducible show wpAny _ _ (call (Value.builtin "list.reverse") [Value.ref _]) _ _ _); (with_reducible rename St _ _ _ _ _ _ => S0); refine S_reverse S0 (by walk_at "m-idx") (by walk_at "m-sz") ?_; clear S0; intro n' s' S'; (try dsimp only [List.set_cons_zero, List.set_cons_succ] at S')))
local macro_rules | `(tactic| walk_at "m-meth") => `(tactic| ((with_reducible show wpAny _ _ (getMethod (Value.ref _) (Str.ofString "reverse") _) _ _ _); (with_reducible rename St _ _ _ _ _ _ => S0); refine S_listMeth S0 (by walk_at "m-idx") PySem.F.slot_list_reverse PySem.F.type_list_reverse ?_))
local macro_rules | `(tactic| walk_at "m-bin") => `(tactic| ((with_reducible show wpAny _ _ (binaryOp Operator.FloorDiv _ _) _ _ _); (with_reducible rename St _ _ _ _ _ _ => S0); (with_reducible refine S_floordiv S0 ?_); clear S0; intro s' t' S'))
local macro_rules | `(tactic| walk_at "m-bin") => `(tactic| ((with_reducible show wpAny _ _ (binaryOp Operator.Mod _ _) _ _ _); (with_reducible rename St _ _ _ _ _ _ => S0); refine S_mod S0 (by decide) ?_; clear S0; intro s' t' S'))
local macro_rules | `(tactic| walk_at "m-bin") => `(tactic| ((with_reducible show wpAny _ _ (binaryOp Operator.Mult _ _) _ _ _); (with_reducible rename St _ _ _ _ _ _ => S0); (first | (with_reducible refine S_mul3r S0 ?_) | (with_reducible refine S_mul3l S0 ?_)); clear S0; intro s' t' S'))
local macro_rules | `(tactic| walk_at "m-cmp") => `(tactic| (with_reducible refine PyProof.Rows.ge_int ?_))
local macro_rules | `(tactic| walk_at "m-exec") => `(tactic| (with_reducible refine wpAny_Break ?_))
section
variable {prog : Program} {w : World} {A : Around} {E : Value → Shared → Prop} {s : Shared} {c : Cx} {B : Base} {L f : Addr} {m : Str → Option Value} {σ : List (Addr × Obj)}
theorem S_whileB {test : Expr} {body : List Stmt} {pos : Pos} {env : Env} {n : Nat} {Q : Flow → Shared → Prop} (S : St c B L m σ s) (Inv : Nat → Base → (Str → Option Value) → List (Addr × Obj) → Prop) (h0 : Inv n B m σ)
    (turn : ∀ n B m σ s, Inv n B m σ → St c B L m σ s → wpAny (model prog w) A (isTrue test env (eval test env)) (fun b s₂ =>
      if b = true then wpAny (model prog w) A (execs body env) (fun fl s₃ => (fl = .next ∧ ∃ n' B' m' σ', n' < n ∧ Inv n' B' m' σ' ∧ St c B' L m' σ' s₃) ∨ (fl = .brk ∧ Q .next s₃)) (fun _ _ => False) s₂ else Q .next s₂) (fun _ _ => False) s) :
    wpAny (model prog w) A (exec (.While test body [] pos) env) Q E s := by
  refine wpAny_While (codeAny_whileLoop (fun n s => ∃ B m σ, Inv n B m σ ∧ St c B L m σ s) ?_ n ⟨B, m, σ, h0, S⟩)
  rintro n s ⟨B, m, σ, hI, T⟩
  refine wpAny_mono (turn n B m σ s hI T) (fun b s₂ h₂ => ?_) fun _ _ z => z.elim
  cases b with
  | true =>
    simp only [if_true] at h₂ ⊢
    refine wpAny_mono h₂ (fun fl s₃ h₃ => ?_) fun _ _ z => z.elim
    rcases h₃ with ⟨rfl, n', B', m', σ', hn, hI', T'⟩ | ⟨rfl, hq⟩
    · exact ⟨n', hn, B', m', σ', hI', T'⟩
    · exact hq
  | false =>
    simp only [Bool.false_eq_true, if_false] at h₂ ⊢
    exact wpAny_execs_nil h₂
theorem S_slice40 {value slice : Expr} {l : Addr} {o : Obj} {vs : List Value} {n : Nat} {ns : List Int} {t : Tok} {Q : Value → Shared → Prop} (S : St c B L m σ s) (hB : B l = some o) (hc : o.cls = .type "list") (hd : o.data = .seq vs.toArray n) (hi : IntsAre vs ns) (hz : vs.length ≤ 63)
    (h : ∀ r ws s', L < r → IntsAre ws (ns.take 40) → St c B L m ((r, lstO ws 0) :: σ) s' → Q (.ref r) s')
    (hs : subscripted slice false (.ref l) (.ref s.heap.objs.size) = operate [.ref s.heap.objs.size, .ref l] (getItem (.ref l) (.ref s.heap.objs.size)) := by with_unfolding_all rfl)
    (ht : ∀ r, letTemporaryGo value (.ref l) r = pure () := by intro _; with_unfolding_all rfl) :
    wpAny (model prog w) A (subscriptTail value slice (.ref l) (.ref s.heap.objs.size)) Q E { s with heap := s.heap.push { cls := .type "slice", data := .fields #[.none, .int 40 t, .none] } } := by
  have hl : s.heap.IsList l vs.toArray := ⟨o, S.po.keep _ _ hB, hc, n, hd⟩
  have hm := kmk_upto (y := 40) hi (by decide)
  refine subscriptTail_ops (Heap.IsList.typeIs (s := { s with heap := s.heap.push _ }) (hl.push _)) list_getitem_lookup
    (wpAny_getItem_list_slice (hl.push _) (Heap.IsSliceOf.new ..) .none (.int _ _) .none (by simp) ?_ (by rw [List.size_toArray, sizeLine_eq]; omega)) hs ht
  refine h _ (slicePick vs.toArray none (some 40) none).toList _ (Nat.lt_trans S.ltL (by rw [Heap.size_push]; exact Nat.lt_succ_self _)) hm (St.grow1 S (fun b o e => Heap.get?_push_of_some _ (Heap.get?_push_of_some _ e)) (Like.mk _ _ _) (by rw [Heap.size_push]; exact Nat.le_succ _) ?_)
  exact Heap.get?_push_size _ rfl
end
theorem ints_reverse {vs : List Value} {ks : List Int} (h : IntsAre vs ks) : ∃ kr, IntsAre vs.reverse kr := by
  induction h with
  | nil => exact ⟨_, .nil⟩
  | cons n t _ ih =>
    obtain ⟨kr, hk⟩ := ih
    rw [List.reverse_cons]
    exact ⟨_, hk.append (.cons _ _ .nil)⟩
theorem bits_spec {prog : Program} {w : World} {G : Heap} (W : Wd w G) {A : Around} {s : Shared} {B : Base} {l : Addr} {o : Obj} {vs : List Value} {n : Nat} {ns : List Int} {Q E : Value → Shared → Prop}
    (hg : ∀ b o, G.get? b = some o → B b = some o) (hk : ∀ b o, B b = some o → s.heap.get? b = some o) (hB : B l = some o) (hc : o.cls = .type "list") (hd : o.data = .seq vs.toArray n) (hi : IntsAre vs ns) (hz : vs.length ≤ 63)
    (hh : A.handled = none) (hroom : A.depth + 3 < recursionLimit) (hu : A.units + 100 < cLine)
    (hQ : ∀ r o' B' s', s.heap.objs.size ≤ r → s'.heap.get? r = some o' → RowO o' → B' r = none → Post ⟨G, s, B, []⟩ B' s' → Q (.ref r) s') :
    wpAny (model prog w) A (call (.ref 134) [.ref l]) Q E s := by
  refine enter (M := []) (binds := [(Str.ofString "script", .ref l)]) W hg hk (by omega) (by rfl) (by kernel_rfl) (by rfl) (locs (by rfl)) ?_ (by decide) (by rfl) (by rfl) (by rfl)
  intro L s₁ hL hk₁ S
  generalize hA : A.deeper (envX _ _ _ _ _ _) = A'
  have hd' : A'.depth + 1 < recursionLimit := by rw [← hA]; show A.depth + 1 + 1 < _; omega
  have hu' : A'.units + 97 < cLine := by rw [← hA]; show A.units + 3 + 97 < cLine; omega
  have hh' : A'.handled = none := by rw [← hA]; exact hh
  clear hA
  repeat (walk_at "m")
  rename_i ra _ hra _ _
  refine wpAny_Slice ?_
  simp only [evalPart_none, evalPart_some]
  refine wpAny_pure ?_
  walk_at "m"
  refine wpAny_pure ?_
  rename St _ _ _ _ _ _ => S
  refine S_slice40 S hB hc hd hi hz ?_
  clear S
  intro r ws s₂ hr hws S
  have hwl := ints_len hws
  have hwl2 : (ns.take 40).length ≤ 40 := by rw [List.length_take]; omega
  have S2 := S.ins hr
  have hat := S.insAt
  have u0 := S.insSub
  clear S
  refine S_forList S2 hh' hat (fun i B m σ => ∃ us n' ks, σ = [(ra, lstO us n')] ∧ IntsAre us ks ∧ us.length ≤ 85 ∧ m "row" = some (.ref ra)) ⟨_, _, _, rfl, .nil, by simp, rfl⟩ ?_ ?_
  · clear S2
    rintro it i B m σ s v o hi' hv hl ⟨us, n', ks, rfl, hus, hul, hm⟩ S
    obtain ⟨cell, tc, rfl, hcell⟩ := ints_at hws hv
    repeat (walk_at "m")
    walk_at "m-split"
    all_goals
      repeat (walk_at "m")
      rename St _ _ _ _ _ _ => S
      refine S_whileB (n := 85 - us.length) S (fun n B' m σ => B' = B ∧ ∃ us n' ks rest t, σ = [(it, o), (ra, lstO us n')] ∧ IntsAre us ks ∧ us.length ≤ 85 ∧ n = 85 - us.length ∧ m "row" = some (.ref ra) ∧ m "rest" = some (.int rest t)) ⟨rfl, _, _, _, _, _, rfl, hus, hul, rfl, (if_neg (by decide)).trans ((if_neg (by decide)).trans hm), rfl⟩ ?_
      clear S
      rintro n B' m σ s ⟨rfl, us, n', ks, rest, t, rfl, hus, hul, rfl, hm1, hm2⟩ S
      repeat (walk_at "m")
      by_cases hlt : (us.length : Int) < 85
      · rw [if_pos (by simpa using hlt)]
        repeat (walk_at "m")
        by_cases hz0 : (rest.fdiv 229 == 0) = true
        · rw [if_pos hz0]
          repeat (walk_at "m")
          rename St _ _ _ _ _ _ => S
          refine .inr ⟨rfl, hqq.go _ _ (wpAny_execs_nil ⟨rfl, _, _, _, fun _ _ h => h, ⟨_, _, _, rfl, hus.append (.cons _ _ .nil), by rw [List.length_append, List.length_singleton]; omega, ?_⟩, S⟩)⟩
          exact (if_neg (by decide)).trans hm1
        · rw [if_neg hz0]
          repeat (walk_at "m")
          rename St _ _ _ _ _ _ => S
          refine .inl ⟨rfl, 85 - (us.length + 1), _, _, _, by omega, ⟨rfl, _, _, _, _, _, rfl, hus.append (.cons _ _ .nil), ?_, ?_, ?_, rfl⟩, S⟩
          · rw [List.length_append, List.length_singleton]; omega
          · rw [List.length_append, List.length_singleton]
          · exact (if_neg (by decide)).trans hm1
      · rw [if_neg (by simpa using hlt)]
        rename St _ _ _ _ _ _ => S
        exact hqq.go _ _ (wpAny_execs_nil ⟨rfl, _, _, _, fun _ _ h => h, ⟨_, _, _, rfl, hus, hul, hm1⟩, S⟩)
  · clear S2
    rintro B m σ s hl ⟨us, n', ks, rfl, hus, hul, hm⟩ S
    repeat (walk_at "m")
    rename St _ _ _ _ _ _ => S
    have hown := S.own _ (.head _)
    obtain ⟨kr, hkr⟩ : ∃ kr, IntsAre us.reverse kr := ints_reverse hus
    exact hQ _ _ _ _ (Nat.le_of_lt (Nat.lt_of_le_of_lt hL hra)) hown.1 ⟨_, _, _, rfl, hkr, by rw [List.length_reverse]; omega⟩ hown.2.2.1 S.po

end
section
-- exceptions of the claim's own class
def synMro : List Value := [.ref 45, .ref 32, .type "Exception", .type "BaseException", .type "object"]
theorem syn_cls (w : World) : (clsIn (KK w) 45).any (fun cd => cd.hasDict && cd.mro == synMro) = true := by kernel_rfl
theorem syn_set (w : World) : findIn (KK w) (.ref 45) "__setattr__" = some (some (.builtin "object.__setattr__")) := by kernel_rfl
theorem syn_top (w : World) : mroIn (KK w) 45 (.type "object") = some true := by kernel_rfl
theorem set_exc {prog : Program} {w : World} {A : Around} {E : Value → Shared → Prop} {h : Heap} {g : Array GenState} {d : Drawn} {t : Nat} {os : OsState} {x : Addr} {mA : Str → Option Value} {name : Str} {v : Value} {Q : Unit → Shared → Prop} {ns : List Str}
    {odi : Option Addr} {oda : Data} {osl : Array (Option Value)} (X : (KK w).In h) (hna : findIn (KK w) (.ref 45) name = some none) (hx : h.get? x = some ⟨.ref 45, odi, oda, osl⟩) (hnc : ∀ c, oda ≠ .cls c)
    (hd : odi = none ∨ ∃ dx, odi = some dx ∧ dx ≠ x ∧ h.Ns1 dx mA)
    (hq1 : odi = none → ∀ h' tk', h'.get? x = some ⟨.ref 45, some h.objs.size, oda, osl⟩ → h'.Ns1 h.objs.size (fun y => if y = name then some v else none) → (∀ b o, b ≠ x → h.get? b = some o → h'.get? b = some o) → Q () ⟨h', g, d, tk', os⟩)
    (hq2 : ∀ dx, odi = some dx → ∀ h' tk', h'.Ns1 dx (fun y => if y = name then some v else mA y) → Heap.SameBut dx h h' → Q () ⟨h', g, d, tk', os⟩)
    (hw : Within mA ns) (hsz : ns.length + 1 ≤ sizeLine) :
    wpAny (model prog w) A (setAttr (.ref x) name v) Q E ⟨h, g, d, t, os⟩ := by
  obtain ⟨cd, hcd, hcm⟩ := any_some (syn_cls w)
  rw [Bool.and_eq_true, beq_iff_eq] at hcm
  obtain ⟨hdict, hmro⟩ := hcm
  have SF := PySem.F.store_Exception
  have L0 : Looks (model prog w) h (typeOf (.ref x)) (.ref 45) := (Looks.ld hx).andThen .now
  have L1 := looks_findIn (M := model prog w) X (syn_set w)
  have L2 := looks_findIn (M := model prog w) X hna
  have L3 : Looks (model prog w) h (mroOf (.ref 45)) cd.mro := (looks_clsIn X hcd).andThen .now
  have L4 : Looks (model prog w) h (isInstance (.ref x) (.type "object")) true := L0.andThen (looks_mroIn X (syn_top w))
  have f3 := PySem.F.store_object.slot.bind (.ref x)
  unfold setAttr callSpecial? specialOf
  refine wpAny_bind (wpAny_mkText (wpAny_bind (wpAny_bind (wpAny_bind (L0.at (L1.at (wpAny_holding ?_)))))))
  rw [f3]
  refine wpAny_bind (wpAny_pure ?_)
  dsimp only
  have SO := PySem.F.store_object
  refine wpAny_bind (wpAny_call (codeAny_call_builtin SO.slot.plain SO.entry (@check_slot (model prog w) _ _ _ "object.__setattr__" "object" "__setattr__" (.ref x) [.str name t, v] [] _ SO.kind SO.split L4 (SO.args _ _ _) ?_)))
  have hpass := SF.passes (.ref x)
  rw [show [Value.ref x] ++ [Value.str name t, v] = [Value.ref x, Value.str name t, v] from rfl, osa_eq, refuse_eq]
  refine wpAny_bind (wpAny_bind (L0.here (wpAny_bind (L3.here ?_))))
  rw [hmro]
  unfold synMro
  rw [refuseLoop_ref, refuseLoop_ref, hpass]
  refine wpAny_pure (wpAny_bind (L0.here (wpAny_bind (L2.here (wpAny_bind (m := Builtin.ObjectAttr.storeTaker? none) (wpAny_pure ?_))))))
  show wpAny _ _ (Builtin.ObjectAttr.storeInOwnDict (.ref x) (.ref 45) (.str name t) name v _) _ _ _
  unfold Builtin.ObjectAttr.storeInOwnDict
  refine wpAny_bind (m := ownStreamTells (.ref x) (.ref 45)) (wpAny_pure ?_)
  have L5 := looks_clsIn (M := model prog w) X hcd
  refine wpAny_bind (wpAny_bind (wpAny_loadPart hx (wpAny_bind (L5.here ?_))))
  rw [hdict]
  rcases hd with rfl | ⟨dx, rfl, hne, hns⟩
  · rw [if_neg (by simp)]
    dsimp only
    rw [if_neg (by simp [typeHasDict])]
    split
    · exact absurd rfl (hnc _)
    · have hx₁ : (h.push { cls := .type "dict", data := .dict #[] }).get? x = some ⟨.ref 45, none, oda, osl⟩ := Heap.get?_push_of_some _ hx
      have hxs : x ≠ h.objs.size := Nat.ne_of_lt (Heap.lt_size hx)
      refine wpAny_bind (wpAny_bind (wpAny_alloc' (wpAny_pure (wpAny_bind (wpAny_update' hx₁ ?_)))))
      refine wpAny_pure ?_
      have hgd : ((h.push { cls := .type "dict", data := .dict #[] }).update x fun o => { cls := o.cls, dict := some h.objs.size, data := o.data, slots := o.slots }).get? h.objs.size
          = some { cls := .type "dict", data := .dict #[] } :=
        (Heap.get?_update_ne _ _ _ _ hxs.symm).trans (Heap.get?_push_at rfl rfl)
      have hnd : ((h.push { cls := .type "dict", data := .dict #[] }).update x fun o => { cls := o.cls, dict := some h.objs.size, data := o.data, slots := o.slots }).Ns h.objs.size (fun _ => none) :=
        ⟨_, #[], _, hgd, rfl, fun e he => absurd he (by simp), fun _ => rfl⟩
      show wpAny _ _ (Builtin.ObjectAttr.storeInDict h.objs.size (.str name t) name v) _ _ _
      unfold Builtin.ObjectAttr.storeInDict Builtin.ObjectAttr.newKeyGuard
      refine wpAny_bind (wpAny_pure (wpAny_bind (wpAny_nsSet1 (Heap.Ns1.of_empty hnd) fun h' hn' hs => ?_)))
      obtain ⟨oD, esD, epD, hoD, hdD, hcD⟩ := hn'.count (Within.cons name v Within.nil)
      refine wpAny_bind (wpAny_lookBehind hoD (by rw [hdD]; exact pastItsLine_dict (Nat.le_trans hcD (by rw [List.length_cons, List.length_nil, sizeLine_eq]; omega))) ?_)
      have hx' : h'.get? x = some { cls := .ref 45, dict := some h.objs.size, data := oda, slots := osl } := by
        refine (hs.2 x hxs).trans (Heap.get?_update_self _ hx₁ ?_)
        have hfr := (Heap.get?_some_iff.mp hx).2
        cases oda <;> first | rfl | exact hfr
      exact wpAny_pure (wpAny_pure (wpAny_pure (hq1 rfl h' _ hx' hn' fun b ob hbx hb => (hs.2 b (Nat.ne_of_lt (Heap.lt_size hb))).trans ((Heap.get?_update_ne _ _ _ _ hbx).trans (Heap.get?_push_of_some _ hb)))))
  · refine wpAny_pure (a := some dx) ?_
    show wpAny _ _ (Builtin.ObjectAttr.storeInDict dx (.str name t) name v) _ _ _
    unfold Builtin.ObjectAttr.storeInDict Builtin.ObjectAttr.newKeyGuard
    refine wpAny_bind (wpAny_pure (wpAny_bind (wpAny_nsSet1 hns fun h' hn' hs => ?_)))
    obtain ⟨oD, esD, epD, hoD, hdD, hcD⟩ := hn'.count (Within.cons name v hw)
    refine wpAny_bind (wpAny_lookBehind hoD (by rw [hdD]; exact pastItsLine_dict (Nat.le_trans hcD (by rw [List.length_cons]; omega))) ?_)
    exact wpAny_pure (wpAny_pure (wpAny_pure (hq2 dx rfl h' _ hn' hs)))

theorem enterD {prog : Program} {w : World} {A : Around} {E : Value → Shared → Prop} {s : Shared} {B : Base} {f : Addr} {G : Heap} {M : List Addr} {vals : List Value} {binds : List (Str × Value)} {Q : Value → Shared → Prop}
    {name qual : Str} {params : Arguments} {body : List Stmt} {scope : Scope} {dV kV doc pm cdv ct oc : Value} {an od : Option Addr} {osl : Array (Option Value)}
    (W : Wd w G) (hg : ∀ b o, G.get? b = some o → B b = some o) (hk : ∀ b o, B b = some o → s.heap.get? b = some o) (hroom : A.depth < recursionLimit)
    (ho : (KK w).lookup f = some ⟨oc, od, .func (fnX name qual params body scope [] dV kV doc pm an cdv ct), osl⟩) (hcd : codeIn (KK w) cdv qual = true)
    (hbind : ∀ S, peek (KK w) S (bindArgs (fnX name qual params body scope [] dV kV doc pm an cdv ct) ⟨vals, []⟩) = some binds) (hloc : ∀ y ∈ binds, scope.names.lookup y.1 = some .local)
    (h : ∀ L s₁, s.heap.objs.size ≤ L → (∀ b o, s.heap.get? b = some o → s₁.heap.get? b = some o) → St ⟨G, s, B, M⟩ B L (fun y => binds.reverse.lookup y) [] s₁ →
      wpAny (model prog w) (A.deeper (envX qual scope L f cdv [])) (execs body (envX qual scope L f cdv [])) (fun fl s' => Q (match fl with | .ret v => v | _ => .none) s') (fun _ _ => False) s₁)
    (hcell : ∀ x ∈ scope.names, x.2 ≠ .cell) (hco : scope.isCoroutine = false) (hgen : scope.isGenerator = false) (hkk : scope.kind = .function) :
    wpAny (model prog w) A (call (.ref f) vals) Q E s := by
  obtain ⟨mg, mb, T⟩ := W.t
  have hG : ∀ b o, G.get? b = some o → s.heap.get? b = some o := fun b o e => hk b o (hg b o e)
  refine wpAny_call (codeAny_call_def (fd := fnX name qual params body scope [] dV kV doc pm an cdv ct) (body := body) (binds := binds) hroom (hG _ _ (W.k _ _ ho)) rfl (T.nolimit.keeps hG)
    (codeRec_of (W.k.keeps hG) hcd) rfl (kp_binds (W.k.keeps hG) hbind) hcell hloc (fun h₁ hns hk₁ => ?_) hco hgen hkk)
  refine wpAny_mono (h s.heap.objs.size _ (Nat.le_refl _) hk₁ ⟨hns, hg, Nat.le_refl _, ⟨fun _ _ e => e, fun _ _ e => .inl e, fun b o e => hk₁ b o (hk b o e), fun b o _ e => hk₁ b o e, Like.mk _ _ _⟩, ?_, fun _ hp => (nomatch hp), List.nodup_nil⟩) (fun _ _ x => x) (fun _ _ x => x.elim)
  cases q : B s.heap.objs.size with
  | none => rfl
  | some o => exact absurd (Heap.lt_size (hk _ _ q)) (Nat.lt_irrefl _)
theorem St.turn {c : Cx} {B : Base} {L e : Addr} {o o1 : Obj} {m : Str → Option Value} {σ : List (Addr × Obj)} {i : Nat} {s s' : Shared} (S : St c B L m σ s) (hi : σ[i]? = some (e, o)) (hk : ∀ b o', b ≠ e → s.heap.get? b = some o' → s'.heap.get? b = some o')
    (ho : s'.heap.get? e = some o1) (hl : Like s s') : St c B L m (σ.set i (e, o1)) s' := by
  obtain ⟨h1, h2, h3, h4⟩ := S.own _ (List.mem_of_getElem? hi)
  refine ⟨?_, S.g, S.above, ⟨S.po.sub, S.po.new, fun b o hb => hk b o (fun q => by subst q; rw [h3] at hb; cases hb) (S.po.keep b o hb), fun b o hb hs => hk b o (fun q => ?_) (S.po.ext b o hb hs), S.po.lk.trans hl⟩, S.fr, fun p hp => ?_, (set_keys hi).symm ▸ S.nd⟩
  · obtain ⟨oL, es, ep, hL, r⟩ := S.ns
    exact ⟨oL, es, ep, hk L oL (Ne.symm h2) hL, r⟩
  · subst q
    rcases h4 with h4 | h4
    · exact hb h4
    · exact absurd (Heap.lt_size hs) (Nat.not_lt.mpr h4)
  · obtain ⟨j, hj⟩ := List.mem_iff_getElem?.mp hp
    rw [List.getElem?_set] at hj
    split at hj
    · split at hj
      · cases hj; exact ⟨ho, h2, h3, h4⟩
      · cases hj
    · rename_i hij
      obtain ⟨p1, p2⟩ := p
      have hne := S.apart hi hj hij
      obtain ⟨a1, a2⟩ := S.own _ (List.mem_of_getElem? hj)
      exact ⟨hk _ _ (Ne.symm hne) a1, a2⟩
theorem St.add {c : Cx} {B : Base} {L d : Addr} {od : Obj} {m : Str → Option Value} {σ : List (Addr × Obj)} {s : Shared} (S : St c B L m σ s) (hL : L < d) (hB : B d = none) (hn : d ∉ σ.map (·.1)) (ho : s.heap.get? d = some od) : St c B L m ((d, od) :: σ) s :=
  ⟨S.ns, S.g, S.above, S.po, S.fr, fun p hp => by
    rcases List.mem_cons.mp hp with rfl | hp
    · exact ⟨ho, Nat.ne_of_gt hL, hB, .inr (Nat.le_of_lt (Nat.lt_of_le_of_lt S.above hL))⟩
    · exact S.own p hp, by rw [List.map_cons, List.nodup_cons]; exact ⟨hn, S.nd⟩⟩
theorem S_setNew {prog : Program} {w : World} {A : Around} {E : Value → Shared → Prop} {s : Shared} {c : Cx} {B : Base} {L e : Addr} {m : Str → Option Value} {σ : List (Addr × Obj)} {i : Nat} {oda : Data} {osl : Array (Option Value)} {name : Str} {v : Value} {Q : Unit → Shared → Prop}
    (S : St c B L m σ s) (W : Wd w c.G) (hi : σ[i]? = some (e, ⟨.ref 45, none, oda, osl⟩)) (hnc : ∀ c, oda ≠ .cls c) (hna : findIn (KK w) (.ref 45) name = some none)
    (h : ∀ d od s', L < d → s'.heap.Ns1 d (fun y => if y = name then some v else none) → St c B L m ((d, od) :: σ.set i (e, ⟨.ref 45, some d, oda, osl⟩)) s' → Q () s') : wpAny (model prog w) A (setAttr (.ref e) name v) Q E s := by
  have X := S.inK W
  have he := (S.own _ (List.mem_of_getElem? hi)).1
  have hLs := S.ltL
  obtain ⟨hp, g, dr, t, os⟩ := s
  refine set_exc (mA := fun _ => none) (ns := []) X hna he hnc (.inl rfl) (fun _ h' tk' hx' hn' hk' => ?_) (fun dx e => by cases e) Within.nil (by rw [sizeLine_eq]; decide)
  have hn2 := hn'
  obtain ⟨od, es, ep, hod, _⟩ := hn2
  have S1 := S.turn (s' := ⟨h', g, dr, tk', os⟩) hi hk' hx' rfl
  refine h hp.objs.size od _ hLs hn' (S1.add hLs ?_ ?_ hod)
  · cases q : B hp.objs.size with
    | none => rfl
    | some o => exact absurd (Heap.lt_size (S.po.keep _ _ q)) (Nat.lt_irrefl _)
  · rw [set_keys hi]
    intro hm
    obtain ⟨p, hpm, hpe⟩ := List.mem_map.mp hm
    have := Heap.lt_size (S.own p hpm).1
    rw [hpe] at this
    exact Nat.lt_irrefl _ this
theorem S_setOld {prog : Program} {w : World} {A : Around} {E : Value → Shared → Prop} {s : Shared} {c : Cx} {B : Base} {L e d : Addr} {od : Obj} {m mA : Str → Option Value} {σ : List (Addr × Obj)} {i j : Nat} {oda : Data} {osl : Array (Option Value)} {name : Str} {v : Value} {Q : Unit → Shared → Prop} {ns : List Str}
    (S : St c B L m σ s) (W : Wd w c.G) (hi : σ[i]? = some (e, ⟨.ref 45, some d, oda, osl⟩)) (hj : σ[j]? = some (d, od)) (hij : i ≠ j) (hnc : ∀ c, oda ≠ .cls c) (hna : findIn (KK w) (.ref 45) name = some none) (hns : s.heap.Ns1 d mA) (hw : Within mA ns) (hz : ns.length ≤ 10)
    (h : ∀ od' s', s'.heap.Ns1 d (fun y => if y = name then some v else mA y) → St c B L m (σ.set j (d, od')) s' → Q () s') : wpAny (model prog w) A (setAttr (.ref e) name v) Q E s := by
  have X := S.inK W
  have he := (S.own _ (List.mem_of_getElem? hi)).1
  have hne := S.apart hi hj hij
  obtain ⟨hp, g, dr, t, os⟩ := s
  refine set_exc (mA := mA) (ns := ns) X hna he hnc (.inr ⟨d, rfl, Ne.symm hne, hns⟩) (fun q => by cases q) (fun dx q h' tk' hn' hs => ?_) hw (by rw [sizeLine_eq]; omega)
  cases q
  have hn2 := hn'
  obtain ⟨od', es, ep, hod, _⟩ := hn2
  exact h od' _ hn' (S.setD (s' := ⟨h', g, dr, tk', os⟩) hj hs hod rfl)

theorem init_spec {prog : Program} {w : World} {G : Heap} (W : Wd w G) {A : Around} {s : Shared} {B : Base} {e : Addr} {oda : Data} {osl : Array (Option Value)} {k : Str} {tk : Tok} {Q E : Value → Shared → Prop}
    (hg : ∀ b o, G.get? b = some o → B b = some o) (hk : ∀ b o, B b = some o → s.heap.get? b = some o) (he : s.heap.get? e = some ⟨.ref 45, none, oda, osl⟩) (hnc : ∀ c, oda ≠ .cls c) (hBe : B e = none) (hroom : A.depth < recursionLimit)
    (hQ : ∀ d od B' s', s'.heap.get? e = some ⟨.ref 45, some d, oda, osl⟩ → s'.heap.get? d = some od → (∃ m, s'.heap.Ns1 d m ∧ m "kind" = some (.str k tk)) → s.heap.objs.size ≤ d → B' d = none → Post ⟨G, s, B, [e]⟩ B' s' → Q .none s') :
    wpAny (model prog w) A (call (.ref 29) [.ref e, .str k tk]) Q E s := by
  refine enterD (M := [e]) (binds := [(Str.ofString "self", .ref e), (Str.ofString "kind", .str k tk), (Str.ofString "at", .int (-1) 202), (Str.ofString "detail", .str (Str.ofString "") 203)]) W hg hk hroom (by rfl) (by kernel_rfl) (fun S => by kernel_rfl) (locs (by rfl)) ?_ (by decide) (by rfl) (by rfl) (by rfl)
  intro L s₁ hL hk₁ S
  replace S := S.take (a := e) (.head _) (hk₁ _ _ he) (Heap.lt_size he) hBe (fun z => nomatch z)
  refine wpAny_execs_cons (plainObj_wpAny_Assign_Attribute ?_ (by rfl))
  walk_at "m"
  walk_at "m"
  rename St _ _ _ _ _ _ => S
  refine S_setNew S W idx0 hnc (by kernel_rfl) ?_
  clear S
  intro d od s2 hd hn S
  dsimp only
  refine wpAny_execs_cons (plainObj_wpAny_Assign_Attribute ?_ (by rfl))
  walk_at "m"
  walk_at "m"
  rename St _ _ _ _ _ _ => S
  refine S_setOld S W (i := 1) (j := 0) idx1 idx0 (by decide) hnc (by kernel_rfl) hn (Within.cons _ _ Within.nil) (by decide) ?_
  clear S hn
  intro od s3 hn S
  dsimp only
  refine wpAny_execs_cons (plainObj_wpAny_Assign_Attribute ?_ (by rfl))
  walk_at "m"
  walk_at "m"
  rename St _ _ _ _ _ _ => S
  refine S_setOld S W (i := 1) (j := 0) idx1 idx0 (by decide) hnc (by kernel_rfl) hn (Within.cons _ _ (Within.cons _ _ Within.nil)) (by decide) ?_
  clear S hn
  intro od s4 hn S
  dsimp only
  refine wpAny_execs_nil ?_
  exact hQ d od B s4 (S.getAt idx1) (S.getAt idx0) ⟨_, hn, (if_neg (by decide)).trans ((if_neg (by decide)).trans (if_pos rfl))⟩ (Nat.le_of_lt (Nat.lt_of_le_of_lt hL hd)) (S.own _ (.head _)).2.2.1 S.po

end
section
abbrev synTail : List Value := [.ref 32, .type "Exception", .type "BaseException", .type "object"]
theorem syn_obj (w : World) : ∃ nm q N bs hdct sn sub ab col dd k0 k1 k2 k3 k5, (KK w).lookup 45 = some (excClassObj nm q 45 N bs synTail hdct sn sub ab col dd k0 k1 k2 k3 k5 "Exception.__new__") := ⟨_, _, _, _, _, _, _, _, _, _, _, _, _, _, _, rfl⟩
section
variable {nm q : Str} {C N : Addr} {bs bm : List Value} {hdct : Bool} {sn : List Str} {sub : List Value} {ab : Bool} {col : Option Bool} {dd : Option Addr} {k0 k1 k2 k3 k5 : Option Value} {Bn newId inN : String} {bmN : List Value}
theorem exc_check {M : Model} {A : Around} {E : Value → Shared → Prop} {h : Heap} {g : Array GenState} {d : Drawn} {t : Nat} {os : OsState} (Fn : ExcBaseFacts Bn newId inN bmN) (hcont : (Value.ref C :: bm).contains (.type Bn) = true) {rest : List Value} {Q : Unit → Shared → Prop} (hC : h.get? C = some (excClassObj nm q C N bs bm hdct sn sub ab col dd k0 k1 k2 k3 k5 newId))
    (hq : Q () ⟨h, g, d, t, os⟩) : wpAny M A (checkBuiltinCall newId ⟨.ref C :: rest, []⟩) Q E ⟨h, g, d, t, os⟩ := by
  have hstar := Fn.noStar
  simp only [checkBuiltinCall, Fn.newKind, Fn.newSplit, Fn.newRow]
  repeat (first | refine wpAny_loadPart_at hC ?_ | (refine wpAny_isSubtype_exc hC ?_; rw [hcont]) | refine wpAny_staticBase_exc hC ?_ | refine wpAny_madeBy_exc hC ?_ | simp only [bne_self_eq_false, Bool.false_eq_true, if_false] | wp_step)
  exact hq
theorem exc_new {prog : Program} {w : World} {A : Around} {R : Result → Shared → Prop} {h : Heap} {g : Array GenState} {d : Drawn} {t : Nat} {os : OsState} (Fn : ExcBaseFacts Bn newId inN bmN) (hcB : (Value.ref C :: bm).contains (.type Bn) = true) (hcA : (Value.ref C :: bm).contains (.type "AttributeError") = false) (hcN : (Value.ref C :: bm).contains (.type "NameError") = false)
    {rest : List Value} (hC : h.get? C = some (excClassObj nm q C N bs bm hdct sn sub ab col dd k0 k1 k2 k3 k5 newId))
    (hq : R (.ok (.ret (.ref (h.objs.size + 1)))) ⟨(h.push { cls := .type "tuple", data := .seq rest.toArray }).push
      { cls := .ref C, data := .fields #[.ref h.objs.size, .none, .none, .none, .bool false, .none] }, g, d, t, os⟩) (hrest : rest.length ≤ sizeLine := by size_fits) :
    codeAny (model prog w) A (.builtin newId ⟨.ref C :: rest, []⟩) R ⟨h, g, d, t, os⟩ := by
  have hends := Fn.ends
  refine codeAny_builtinAt Fn.entry ?_
  unfold Builtin.«BaseException.__new__»
  refine PySem.wpAt_bind ?_
  show PySem.wpAt _ _ _ (stack >>= _) _ _ _
  refine PySem.wpAt_bind (PySem.wpAt_stack fun p below => PySem.wpAt_of_wpAny ?_)
  wp_walk
  refine PySem.wpAt_of_wpAny ?_
  rw [Fn.owner]
  repeat (first | with_reducible refine wpAny_madeHere_exc Fn.canon hC ?_ | with_reducible refine wpAny_loadPart_at hC ?_ | (with_reducible refine wpAny_isSubtype_exc hC ?_; first | rw [hcB] | rw [hcA] | rw [hcN]) | wp_step)
  show R _ _
  rw [Heap.size_push]
  exact hq
end
theorem syn_init (w : World) : findIn (KK w) (.ref 45) "__init__" = some (some (.ref 29)) := by kernel_rfl
theorem syn_fn (w : World) : typeIn (KK w) (.ref 29) = some (.type "function") := by kernel_rfl
abbrev excO (d : Option Addr) (t : Addr) : Obj := ⟨.ref 45, d, .fields #[.ref t, .none, .none, .none, .bool false, .none], #[]⟩

theorem S_mkExc {prog : Program} {w : World} {A : Around} {E : Value → Shared → Prop} {s : Shared} {c : Cx} {B : Base} {L : Addr} {m : Str → Option Value} {σ : List (Addr × Obj)} {k : Str} {tk : Tok} {Q : Value → Shared → Prop}
    (S : St c B L m σ s) (W : Wd w c.G) (hroom : A.depth + 3 < recursionLimit)
    (h : ∀ e d t od s', L < e → (∃ m, s'.heap.Ns1 d m ∧ m "kind" = some (.str k tk)) → (∃ B', Sub B B' ∧ St c B' L m ((d, od) :: (e, excO (some d) t) :: σ) s') → Q (.ref e) s') :
    wpAny (model prog w) A (call (.ref 45) [.str k tk]) Q E s := by
  have X := S.inK W
  obtain ⟨nm, q, N, bs, hdct, sn, sub, ab, col, dd, k0, k1, k2, k3, k5, hCK⟩ := syn_obj w
  have hC := X _ _ hCK
  obtain ⟨hp, g, dr, t, os⟩ := s
  have f1 := tc_lookup
  have f2 := tc_bind (.ref 45)
  have hT : (⟨hp, g, dr, t, os⟩ : Shared).TypeIs (.ref 45) "type" := ⟨_, hC, rfl⟩
  refine wpAny_call (codeAny_of_tree ?_)
  show wpAny _ _ (callAny (.ref 45) _) _ _ _
  repeat (any_goals (first | assumption | with_reducible refine wpAny_loadPart_at hC ?_ | wp_step))
  refine ⟨rfl, ?_⟩
  refine codeAny_call_builtin_at (Code.quiet_builtin _ (by decide +kernel)) entry_typeCall (wpAny_check_type_call_sub hC ?_)
  repeat (first | with_reducible refine wpAny_loadPart_at hC ?_ | with_reducible refine wpAny_madeBy_exc hC ?_ | wp_step)
  have Fn := PySem.F.excBase_Exception
  refine codeAny_call_builtin_code (Code.quiet_builtin _ Fn.quiet) (exc_check Fn (by decide) hC ?_)
  refine exc_new Fn (by decide) (by decide) (by decide) hC ?_ (by show 1 ≤ sizeLine; rw [sizeLine_eq]; decide)
  show wpAny _ _ _ _ _ _
  have S1 : St c B L m ((hp.objs.size + 1, excO none hp.objs.size) :: σ) ⟨(hp.push { cls := .type "tuple", data := .seq [Value.str k tk].toArray }).push (excO none hp.objs.size), g, dr, t, os⟩ :=
    St.grow1 S (fun b o e => Heap.get?_push_of_some _ (Heap.get?_push_of_some _ e)) rfl (Nat.le_succ _) (Heap.get?_push_at (by rw [Heap.size_push]) rfl)
  have he := (S1.own _ (.head _)).1
  have X1 := S1.inK W
  have I1 : PySem.W.InstAt ((hp.push { cls := .type "tuple", data := .seq [Value.str k tk].toArray }).push (excO none hp.objs.size)) (hp.objs.size + 1) (excO none hp.objs.size) 45 none := ⟨he, rfl, rfl, trivial⟩
  have L1 : Looks (model prog w) ((hp.push { cls := .type "tuple", data := .seq [Value.str k tk].toArray }).push (excO none hp.objs.size)) (isInstance (.ref (hp.objs.size + 1)) (.ref 45)) true := I1.type.andThen (looks_mroIn X1 (by kernel_rfl))
  refine wpAny_bind (L1.here ?_)
  simp only [Bool.not_true, Bool.false_eq_true, if_false]
  refine wpAny_bind (wpAny_holding (special_fn X1 I1 (syn_init w) (syn_fn w) ?_))
  refine init_spec W S1.g S1.po.keep he (fun c q => by cases q) (S1.own _ (.head _)).2.2.1 ?_ ?_
  · show A.depth + 1 < recursionLimit
    omega
  intro d' od B' s' h1 h2 h3 h4 h5 P
  dsimp only
  have S2 := S1.back1 P idx0 h1
  simp only [List.set_cons_zero] at S2
  have S3 := S2.add (d := d') (od := od) (Nat.lt_of_lt_of_le S1.ltL h4) h5 (fun hm => ?_) h2
  · refine wpAny_pure ?_
    exact h _ d' _ od s' (Nat.lt_trans S.ltL (Nat.lt_succ_self _)) h3 ⟨B', P.sub, S3⟩
  · have hm' : d' ∈ ((hp.objs.size + 1, excO none hp.objs.size) :: σ).map (·.1) := hm
    obtain ⟨p, hpm, hpe⟩ := List.mem_map.mp hm'
    have := Heap.lt_size (S1.own p hpm).1
    rw [hpe] at this
    exact absurd this (Nat.not_lt.mpr h4)

end
section
theorem raise_own {prog : Program} {w : World} {A : Around} {E : Value → Shared → Prop} {s : Shared} {env : Env} {x : Expr} {pos : Pos} {Q : Flow → Shared → Prop} (hh : A.handled = none)
    (h : wpAny (model prog w) A (eval x env) (fun v s₁ => ∃ e d t, v = .ref e ∧ s₁.heap.get? e = some (excO d t) ∧ (KK w).In s₁.heap ∧ E v s₁) E s) :
    wpAny (model prog w) A (exec (.Raise (some x) none pos) env) Q E s := by
  rw [arm_exec_Raise]
  refine wpAny_bind (wpAny_standAt ?_)
  simp only [evalOpt, Option.map]
  unfold raiseStmt
  refine wpAny_bind (wpAny_bind (wpAny_mono h (fun v s₁ h₁ => wpAny_bind (wpAny_standAt (wpAny_pure ?_))) fun _ _ x => x))
  obtain ⟨e, dd, t0, rfl, he, X, hE⟩ := h₁
  obtain ⟨nm, q, N, bs, hdct, sn, sub, ab, col, dd, k0, k1, k2, k3, k5, hCK⟩ := syn_obj w
  have hC := X _ _ hCK
  have hcB : (Value.ref 45 :: synTail).contains (.type "BaseException") = true := by decide
  obtain ⟨hp, g, d, tk, os⟩ := s₁
  repeat (first | with_reducible refine wpAny_loadPart_at he ?_ | with_reducible refine wpAny_loadPart_at hC ?_ | (with_reducible refine wpAny_isSubtype_exc hC ?_; rw [hcB]) | wp_step)
  exact wpAny_raiseNew_none hh hE

end
section
section
variable {M : Model} {A : Around} {E : Value → Shared → Prop} {s : Shared}
theorem flight_again {base : Heap} {l : List Env} {e L : Addr} {cls a0 fl : Value} {Q : Unit → Shared → Prop} (hkb : base.StaysIn s.heap) (hen : base.get? e = none) (hl : s.heap.FunFrames base l) (ht : s.heap.TracedAtW base e cls a0 fl)
    (h : ∀ h', Heap.HeldW base l e cls a0 L h' → Q () { s with heap := h' }) : wpAny M A (setFlight (.ref e) (some L)) Q E s := by
  obtain ⟨oe, vs, T, oT, ts, he, hcls, hd, h1, hnT, hTe, hT, hdT, h3⟩ := ht
  have hsz3 : 3 < ts.size := (Array.getElem?_eq_some_iff.mp h3).1
  have other : ∀ b, b ≠ T → (s.heap.update T (Obj.mapFields (·.setIfInBounds 3 ((some L).elim Value.none fun f => rawInt f)))).get? b = s.heap.get? b :=
    fun b hb => Heap.get?_update_other _ _ (Ne.symm hb)
  have noRecord : ∀ b o, s.heap.get? b = some o → (∀ vs, o.data ≠ .fields vs) → b ≠ T := fun b o hb hnf q => by
    rw [q, hT] at hb; injection hb with hb; subst hb; exact hnf ts hdT
  unfold setFlight
  refine wpAny_bind (wpAny_field he hd h1 ?_)
  rw [if_pos (show (Value.ref T != Value.none) = true from by simp)]
  refine wpAny_setField hT hdT hsz3 (h _ ⟨fun b o hbo => (other b fun q => by rw [q, hnT] at hbo; cases hbo).trans (hkb b o hbo), hen,
    hl.of_keeps fun b o hb hnf => ⟨o, (other b (noRecord b o hb hnf)).trans hb, rfl⟩, ?_⟩)
  exact ⟨oe, vs, T, _, _, (other e (Ne.symm hTe)).trans he, hcls, hd, h1, hnT, hTe, Heap.get?_update_self _ hT (Obj.isFreed_of_fields (Obj.data_mapFields hdT _)), Obj.data_mapFields hdT _, by simp [hsz3]⟩
/-- a fresh exception inside a for of its frame, out of the frame -/
theorem fly_out {base : Heap} {env : Env} {outer : List Env} {L e : Addr} {d : Option Addr} {t : Addr} {Q : Shared → Prop}
    (hfr : A.frames = some (env :: outer)) (hl : s.heap.FunFrames base (env :: outer)) (hf : env.frame = some L) (he : s.heap.get? e = some (excO d t)) (hkb : base.StaysIn s.heap) (hen : base.get? e = none)
    (hQ : ∀ h', Heap.FlyingW base outer e (.ref 45) (.ref t) h' → Q { s with heap := h' }) :
    notedBy M A env (cameBackBy M A env (fun x s' => wpAny M A (leaving env x) (fun _ s'' => Q s'') (fun _ s'' => Q s'') s')) (.ref e) s := by
  unfold notedBy noteFrame
  simp only [hf]
  refine wpAny_bind (wpAny_field he (x := .none) rfl rfl ?_)
  rw [if_neg (by decide)]
  refine wpAny_entryW hfr hl hf he hkb hen rfl (by simp) rfl fun h' hN => ?_
  obtain ⟨k1, k2, k3, k4⟩ := hN
  unfold cameBackBy
  obtain ⟨oe, vs, T, oT, ts, he', hcls, hd', h1, r⟩ := id k3
  refine wpAny_bind (wpAny_field he' hd' h1 ?_)
  rw [if_neg (show ¬ ((Value.ref T == Value.none) = true) from by simp), hf]
  refine flight_again (L := L) k1 hen k2 k3 fun h'' hH => ?_
  exact wpAny_leaves_heldW hf hH fun h3 hfl => hQ h3 hfl
end

end
section
section
variable {prog : Program} {w : World} {A : Around} {E : Value → Shared → Prop} {s : Shared} {c : Cx} {B : Base} {L f : Addr} {m : Str → Option Value} {σ : List (Addr × Obj)}
  {cn : Str} {cs : Scope} {ccd : Value} {cl : List (Str × Addr)}
theorem S_loopE {it : Addr} {n : Nat} {ok : Nat → Obj → Prop} {side : Base → Prop} {V : Nat → Value → Prop} {x : Str} {px : Pos} {body : List Stmt} {o : Obj} {R : Result → Shared → Prop}
    (I : Iter prog w it n ok side V) (hh : A.handled = none) (S : St c B L m ((it, o) :: σ) s) (ho : ok 0 o) (hs : side B)
    (Inv : Nat → Base → (Str → Option Value) → List (Addr × Obj) → Prop) (h0 : Inv 0 B m σ)
    (step : ∀ i B m σ s v o, i < n → V i v → side B → Inv i B m σ → St c B L (upd m x v) ((it, o) :: σ) s →
      wpAny (model prog w) A (execs body (envX cn cs L f ccd cl)) (fun fl s' => fl = .next ∧ ∃ B' m' σ', Sub B B' ∧ Inv (i + 1) B' m' σ' ∧ St c B' L m' ((it, o) :: σ') s') (notedBy (model prog w) A (envX cn cs L f ccd cl) fun e s' => R (.error e) s') s)
    (fin : ∀ B m σ s, side B → Inv n B m σ → St c B L m σ s → R (.ok .next) s)
    (hk : cs.kind = .function := by rfl) (hx : (envX cn cs L f ccd cl).kindOf x = some .local := by rfl) :
    codeAny (model prog w) A (.forLoop (.Name x px) (.ref it) body [] (envX cn cs L f ccd cl)) R s := by
  refine codeAny_forLoop (fun k s => ∃ i B m σ o, k = n - i ∧ i ≤ n ∧ ok i o ∧ side B ∧ Inv i B m σ ∧ St c B L m ((it, o) :: σ) s) ?_ n ⟨0, B, m, σ, o, rfl, Nat.zero_le _, ho, hs, h0, S⟩
  rintro k s ⟨i, B, m, σ, o, rfl, hi, ho, hs, hInv, S⟩
  rcases Nat.lt_or_ge i n with hlt | hge
  · refine I.next hlt ho hs S fun s₁ v o₁ hv ho₁ S₁ => ?_
    refine wpAny_assign_Name (S_store S₁ (fun s₂ S₂ => ?_) rfl hk hx)
    refine wpAny_mono (step i B m σ s₂ v o₁ hlt hv hs hInv S₂) (fun fl s₃ h₃ => ?_) fun _ _ z => z
    obtain ⟨rfl, B', m', σ', hsub, hInv', S'⟩ := h₃
    exact ⟨n - (i + 1), by omega, i + 1, B', m', σ', o₁, rfl, hlt, ho₁, I.mono hsub hs, hInv', S'⟩
  · have : i = n := Nat.le_antisymm hi hge
    subst this
    exact I.fin hh ho hs S fun s₁ S₁ => wpAny_execs_nil (fin B m σ s₁ hs hInv S₁)

theorem S_forListE {l : Addr} {vs : List Value} {k : Nat} {x : Str} {px : Pos} {body : List Stmt} {Q : Flow → Shared → Prop} {Er : Value → Shared → Prop}
    (S : St c B L m σ s) (hh : A.handled = none) (hl : B l = some (lstO vs k))
    (Inv : Nat → Base → (Str → Option Value) → List (Addr × Obj) → Prop) (h0 : Inv 0 B m σ)
    (step : ∀ it i B m σ s v o, i < vs.length → vs[i]? = some v → B l = some (lstO vs k) → Inv i B m σ → St c B L (upd m x v) ((it, o) :: σ) s →
      wpAny (model prog w) A (execs body (envX cn cs L f ccd cl)) (fun fl s' => fl = .next ∧ ∃ B' m' σ', Sub B B' ∧ Inv (i + 1) B' m' σ' ∧ St c B' L m' ((it, o) :: σ') s') (notedBy (model prog w) A (envX cn cs L f ccd cl) Er) s)
    (fin : ∀ B m σ s, B l = some (lstO vs k) → Inv vs.length B m σ → St c B L m σ s → Q .next s)
    (hk : cs.kind = .function := by rfl) (hx : (envX cn cs L f ccd cl).kindOf x = some .local := by rfl) :
    wpAny (model prog w) A (pyIter (.ref l)) (fun it s₂ => codeAny (model prog w) A (.forLoop (.Name x px) it body [] (envX cn cs L f ccd cl)) (fun r s' => match r with | .ok f => Q f s' | .error e => Er e s') s₂) E s :=
  wpAny_pyIter_list ⟨_, S.po.keep _ _ hl, rfl, k, rfl⟩ (S_loopE (iterList prog w _ l vs k) hh (S.push _ (Heap.get?_push_size _ rfl)) ⟨rfl, rfl⟩ hl Inv h0 (step _) fin hk hx)
/-- into a def without cells that may raise -/
theorem enterE {G : Heap} {M : List Addr} {vals : List Value} {binds : List (Str × Value)} {Q : Value → Shared → Prop}
    {name qual : Str} {params : Arguments} {body : List Stmt} {scope : Scope} {dV kV doc pm cdv ct oc : Value} {an od : Option Addr} {osl : Array (Option Value)}
    (W : Wd w G) (hg : ∀ b o, G.get? b = some o → B b = some o) (hk : ∀ b o, B b = some o → s.heap.get? b = some o) (hroom : A.depth < recursionLimit)
    (ho : (KK w).lookup f = some ⟨oc, od, .func (fnX name qual params body scope [] dV kV doc pm an cdv ct), osl⟩) (hcd : codeIn (KK w) cdv qual = true)
    (hbind : bindArgs (fnX name qual params body scope [] dV kV doc pm an cdv ct) ⟨vals, []⟩ = pure binds) (hloc : ∀ y ∈ binds, scope.names.lookup y.1 = some .local)
    (h : ∀ L s₁, s.heap.objs.size ≤ L → (∀ b o, s.heap.get? b = some o → s₁.heap.get? b = some o) → St ⟨G, s, B, M⟩ B L (fun y => binds.reverse.lookup y) [] s₁ →
      wpAny (model prog w) (A.deeper (envX qual scope L f cdv [])) (execs body (envX qual scope L f cdv [])) (fun fl s' => Q (match fl with | .ret v => v | _ => .none) s') (fun e s' => wpAny (model prog w) (A.deeper (envX qual scope L f cdv [])) (leaving (envX qual scope L f cdv []) e) (fun _ s'' => E e s'') (fun e' s'' => E e' s'') s') s₁)
    (hcell : ∀ x ∈ scope.names, x.2 ≠ .cell) (hco : scope.isCoroutine = false) (hgen : scope.isGenerator = false) (hkk : scope.kind = .function) :
    wpAny (model prog w) A (call (.ref f) vals) Q E s := by
  obtain ⟨mg, mb, T⟩ := W.t
  have hG : ∀ b o, G.get? b = some o → s.heap.get? b = some o := fun b o e => hk b o (hg b o e)
  refine wpAny_call (codeAny_call_def (fd := fnX name qual params body scope [] dV kV doc pm an cdv ct) (body := body) (binds := binds) hroom (hG _ _ (W.k _ _ ho)) rfl (T.nolimit.keeps hG)
    (codeRec_of (W.k.keeps hG) hcd) rfl (BindsTo.of_eq hbind) hcell hloc (fun h₁ hns hk₁ => ?_) hco hgen hkk)
  refine wpAny_mono (h s.heap.objs.size _ (Nat.le_refl _) hk₁ ⟨hns, hg, Nat.le_refl _, ⟨fun _ _ e => e, fun _ _ e => .inl e, fun b o e => hk₁ b o (hk b o e), fun b o _ e => hk₁ b o e, Like.mk _ _ _⟩, ?_, fun _ hp => (nomatch hp), List.nodup_nil⟩) (fun _ _ x => x) (fun _ _ x => x)
  cases q : B s.heap.objs.size with
  | none => rfl
  | some o => exact absurd (Heap.lt_size (hk _ _ q)) (Nat.lt_irrefl _)
end

end
section
section
variable {prog : Program} {w : World} {A : Around} {E : Value → Shared → Prop} {s : Shared} {c : Cx} {B : Base} {L f : Addr} {m : Str → Option Value} {σ : List (Addr × Obj)}
  {cn : Str} {cs : Scope} {ccd : Value} {cl : List (Str × Addr)}
/-- a for over a frozen list of pairs -/
theorem S_forPairs {l : Addr} {vs : List Value} {k : Nat} {x y : Str} {px py pt : Pos} {x1 : Nat} {body : List Stmt} {Q : Flow → Shared → Prop} {Er : Value → Shared → Prop}
    (S : St c B L m σ s) (hh : A.handled = none) (hl : B l = some (lstO vs k)) (hp : ∀ v ∈ vs, ∃ p a b, v = .ref p ∧ B p = some (tupO [a, b]))
    (Inv : Nat → Base → (Str → Option Value) → List (Addr × Obj) → Prop) (h0 : Inv 0 B m σ)
    (step : ∀ it i B' m σ s p a b o, i < vs.length → vs[i]? = some (.ref p) → Sub B B' → B' p = some (tupO [a, b]) → Inv i B' m σ → St c B' L (fun z => if z = y then some b else if z = x then some a else m z) ((it, o) :: σ) s →
      wpAny (model prog w) A (execs body (envX cn cs L f ccd cl)) (fun fl s' => fl = .next ∧ ∃ B'' m' σ', Sub B' B'' ∧ Inv (i + 1) B'' m' σ' ∧ St c B'' L m' ((it, o) :: σ') s') (fun _ _ => False) s)
    (fin : ∀ B' m σ s, Sub B B' → Inv vs.length B' m σ → St c B' L m σ s → Q .next s)
    (hk : cs.kind = .function := by rfl) (hx : (envX cn cs L f ccd cl).kindOf x = some .local := by rfl) (hy : (envX cn cs L f ccd cl).kindOf y = some .local := by rfl) :
    wpAny (model prog w) A (pyIter (.ref l)) (fun it s₂ => codeAny (model prog w) A (.forLoop (.Tuple [.Name x px, .Name y py] x1 pt) it body [] (envX cn cs L f ccd cl)) (fun r s' => match r with | .ok f => Q f s' | .error e => Er e s') s₂) E s := by
  refine wpAny_pyIter_list ⟨_, S.po.keep _ _ hl, rfl, k, rfl⟩ ?_
  have S0 := S.push { cls := .type "list_iterator", data := .fields #[.ref l, .int (0 : Nat) 0] } (Heap.get?_push_size _ rfl)
  generalize s.heap.objs.size = it at S0 ⊢
  have I := iterList prog w it l vs k
  refine codeAny_forLoop_any (fun n s => ∃ i B' m σ o, n = vs.length - i ∧ i ≤ vs.length ∧ (o.cls = .type "list_iterator" ∧ o.data = .fields #[.ref l, .int i 0]) ∧ Sub B B' ∧ Inv i B' m σ ∧ St c B' L m ((it, o) :: σ) s) ?_ vs.length
    ⟨0, B, m, σ, _, rfl, Nat.zero_le _, ⟨rfl, rfl⟩, fun _ _ h => h, h0, S0⟩
  clear S0 S
  rintro n s ⟨i, B', m, σ, o, rfl, hi, ho, hs, hInv, S⟩
  have hl' := hs _ _ hl
  rcases Nat.lt_or_ge i vs.length with hlt | hge
  · refine I.next hlt ho hl' S fun s₁ v o₁ hv ho₁ S₁ => ?_
    obtain ⟨p, a, b, rfl, hpB⟩ := hp v (List.mem_of_getElem? hv)
    have hpB' := hs _ _ hpB
    refine wpAny_letOwnedTupleGo_listiter (l := l) (i := i + 1) ⟨o₁, (S₁.own _ (.head _)).1, ho₁.1, ho₁.2⟩ ?_
    refine wpAny_assign_Tuple (items := #[a, b]) hh ⟨_, S₁.po.keep _ _ hpB', rfl, 0, rfl⟩ (by rfl) (by rfl) fun h' he => ?_
    have S₂ : St c B' L m ((it, o₁) :: σ) { s₁ with heap := h' } := S₁.grow (fun b o e => he b o (Nat.ne_of_lt (Heap.lt_size e)) e) (Like.mk _ _ _)
    refine wpAny_assignInOrder_more (wpAny_assign_Name (S_store S₂ (fun s₃ S₃ => ?_) rfl hk hx))
    refine wpAny_assignInOrder_more (wpAny_assign_Name (S_store S₃ (fun s₄ S₄ => ?_) rfl hk hy))
    refine wpAny_assignInOrder_none ?_
    refine wpAny_mono (step it i B' m σ s₄ p a b o₁ hlt hv hs hpB' hInv S₄) (fun fl s₅ h₅ => ?_) fun _ _ z => z.elim
    obtain ⟨rfl, B'', m', σ', hsub, hInv', S'⟩ := h₅
    exact ⟨vs.length - (i + 1), by omega, i + 1, B'', m', σ', o₁, rfl, hlt, ho₁, fun _ _ h => hsub _ _ (hs _ _ h), hInv', S'⟩
  · have : i = vs.length := Nat.le_antisymm hi hge
    subst this
    exact I.fin hh ho hl' S fun s₁ S₁ => wpAny_execs_nil (fin B' m σ s₁ hs hInv S₁)
end

end
section
/-- in flight, its dict kept; what H bears is kept but for fields (slots may turn) -/
def FlyD (H base : Heap) (l : List Env) (e dd : Addr) (fl : Value) (h : Heap) : Prop :=
  H.UpToSlots h ∧ base.StaysIn h ∧ base.get? e = none ∧ h.FunFrames base l ∧ ∃ vs T oT ts, h.get? e = some ⟨.ref 45, some dd, .fields vs, #[]⟩ ∧ vs[1]? = some (.ref T) ∧ base.get? T = none ∧ T ≠ e ∧ h.get? T = some oT ∧ oT.data = .fields ts ∧ ts[3]? = some fl
section
variable {M : Model} {A : Around} {E : Value → Shared → Prop} {s : Shared}
theorem flightD {H base : Heap} {l : List Env} {e dd : Addr} {fl : Value} {f : Option Addr} {Q : Unit → Shared → Prop} (ht : FlyD H base l e dd fl s.heap)
    (h : ∀ h', FlyD H base l e dd (f.elim .none fun f => rawInt f) h' → Q () { s with heap := h' }) : wpAny M A (setFlight (.ref e) f) Q E s := by
  obtain ⟨hU, hkb, hen, hl, vs, T, oT, ts, he, h1, hnT, hTe, hT, hdT, h3⟩ := ht
  have hsz3 : 3 < ts.size := (Array.getElem?_eq_some_iff.mp h3).1
  have other : ∀ b, b ≠ T → (s.heap.update T (Obj.mapFields (·.setIfInBounds 3 (f.elim Value.none fun f => rawInt f)))).get? b = s.heap.get? b :=
    fun b hb => Heap.get?_update_other _ _ (Ne.symm hb)
  have noRecord : ∀ b o, s.heap.get? b = some o → (∀ vs, o.data ≠ .fields vs) → b ≠ T := fun b o hb hnf q => by
    rw [q, hT] at hb; injection hb with hb; subst hb; exact hnf ts hdT
  unfold setFlight
  refine wpAny_bind (wpAny_field he rfl h1 ?_)
  rw [if_pos (show (Value.ref T != Value.none) = true from by simp)]
  refine wpAny_setField hT hdT hsz3 (h _ ⟨hU.trans fun b o hb hnf => ⟨o.slots, (other b (noRecord b o hb hnf)).trans hb⟩, fun b o hbo => (other b fun q => by rw [q, hnT] at hbo; cases hbo).trans (hkb b o hbo), hen,
    hl.of_keeps fun b o hb hnf => ⟨o, (other b (noRecord b o hb hnf)).trans hb, rfl⟩, ?_⟩)
  exact ⟨vs, T, _, _, (other e (Ne.symm hTe)).trans he, h1, hnT, hTe, Heap.get?_update_self _ hT (Obj.isFreed_of_fields (Obj.data_mapFields hdT _)), Obj.data_mapFields hdT _, by simp [hsz3]⟩
theorem entryD {H base : Heap} {env : Env} {outer : List Env} {L e dd : Addr} {vs : Array Value} {head : Value} {hadNext : Bool} {Q : Unit → Shared → Prop}
    (hfr : A.frames = some (env :: outer)) (hl : s.heap.FunFrames base (env :: outer)) (hf : env.frame = some L)
    (he : s.heap.get? e = some ⟨.ref 45, some dd, .fields vs, #[]⟩) (hU : H.UpToSlots s.heap) (hkb : base.StaysIn s.heap) (hen : base.get? e = none) (hsz : 1 < vs.size)
    (h : ∀ h', FlyD H base (env :: outer) e dd (rawInt L) h' → Q () { s with heap := h' }) :
    wpAny M A (do let a ← frameOf env; let pl ← entryPlaceOf L hadNext; let b ← EntryCells.newEntry head a .none (rawInt L) .none pl; setField (.ref e) 1 b) Q E s := by
  have hene : e ∉ (env :: outer).filterMap (·.frame) := fun hm => by
    obtain ⟨_, o, ho, hnf⟩ := hl.mem hm
    rw [he] at ho; injection ho with ho; subst ho; exact hnf vs rfl
  refine wpAny_bind (wpAny_frameOf_fun hfr hl hf fun h₁ hs₁ => ?_)
  refine wpAny_bind (wpAny_entryPlaceOf fun pl hpl => ?_)
  unfold EntryCells.newEntry newFields
  refine wpAny_bind (wpAny_newObj_type ?_ (hpl.sizeOk5 _ _ _ _ _))
  have he₁ : h₁.get? e = some ⟨.ref 45, some dd, .fields vs, #[]⟩ := (hs₁.2.1 e hene).trans he
  have kb₁ : base.StaysIn h₁ := fun b o hbo => (hs₁.2.1 b fun hm => by rw [(hl.mem hm).1] at hbo; cases hbo).trans (hkb b o hbo)
  generalize hent : ({ cls := .type "traceback", dict := none, data := .fields ([head, .ref L, .none, rawInt L, .none] ++ (if pl.isEmpty then List.replicate 6 Value.none else pl)).toArray } : Obj) = ent
  have he₂ := Heap.get?_push_of_some (h := h₁) ent he₁
  refine wpAny_setField he₂ rfl hsz (h _ ?_)
  have hTe : h₁.objs.size ≠ e := Nat.ne_of_gt (Heap.lt_size he₁)
  have he₃ := Heap.get?_update_self (Obj.mapFields (·.setIfInBounds 1 (Value.ref h₁.objs.size))) he₂ rfl
  have hT₃ := (Heap.get?_update_other (h₁.push ent) (Obj.mapFields (·.setIfInBounds 1 (Value.ref h₁.objs.size))) (Ne.symm hTe)).trans (Heap.get?_push_size h₁ (by rw [← hent]; rfl))
  have keep : ∀ b o, b ≠ e → h₁.get? b = some o → ((h₁.push ent).update e (Obj.mapFields (·.setIfInBounds 1 (Value.ref h₁.objs.size)))).get? b = some o :=
    fun b o hbe hb => by
      rw [Heap.get?_update_other _ _ (Ne.symm hbe)]
      exact Heap.get?_push_of_some _ hb
  have noRecord : ∀ b o, s.heap.get? b = some o → (∀ vs, o.data ≠ .fields vs) → b ≠ e := fun b o hb hnf q => by
    rw [q, he] at hb; injection hb with hb; subst hb; exact hnf vs rfl
  refine ⟨hU.trans fun b o hb hnf => ?_, fun b o hbo => keep b o (fun q => by rw [q, hen] at hbo; cases hbo) (kb₁ b o hbo), hen, hl.of_keeps fun b o hb hnf => ?_, ?_⟩
  · obtain ⟨sl, hs⟩ := hs₁.2.2 b o hb
    exact ⟨sl, keep b _ (noRecord b o hb hnf) hs⟩
  · obtain ⟨sl, hs⟩ := hs₁.2.2 b o hb
    exact ⟨_, keep b _ (noRecord b o hb hnf) hs, rfl⟩
  · subst hent
    exact ⟨_, h₁.objs.size, _, _, he₃, by simp [hsz], kb₁.fresh, hTe, hT₃, rfl, by first | (simp; done) | (rcases hpl with rfl | ⟨_, _, _, _, _, _, _, rfl⟩ <;> simp)⟩
theorem noteD_first {H base : Heap} {env : Env} {outer : List Env} {L e dd t : Addr} {Q : Unit → Shared → Prop}
    (hfr : A.frames = some (env :: outer)) (hl : s.heap.FunFrames base (env :: outer)) (hf : env.frame = some L) (he : s.heap.get? e = some (excO (some dd) t)) (hU : H.UpToSlots s.heap) (hkb : base.StaysIn s.heap) (hen : base.get? e = none)
    (h : ∀ h', FlyD H base (env :: outer) e dd (rawInt L) h' → Q () { s with heap := h' }) : wpAny M A (noteFrame (.ref e) env) Q E s := by
  unfold noteFrame
  simp only [hf]
  refine wpAny_bind (wpAny_field he (x := .none) rfl rfl ?_)
  rw [if_neg (by decide)]
  exact entryD hfr hl hf he hU hkb hen (by simp) h
theorem noteD_on {H base : Heap} {env : Env} {outer : List Env} {L e dd : Addr} {Q : Unit → Shared → Prop}
    (hfr : A.frames = some (env :: outer)) (hf : env.frame = some L) (ht : FlyD H base (env :: outer) e dd .none s.heap)
    (h : ∀ h', FlyD H base (env :: outer) e dd (rawInt L) h' → Q () { s with heap := h' }) : wpAny M A (noteFrame (.ref e) env) Q E s := by
  obtain ⟨hU, hkb, hen, hl, vs, T, oT, ts, he, h1, hnT, hTe, hT, hdT, h3⟩ := ht
  unfold noteFrame
  simp only [hf]
  refine wpAny_bind (wpAny_field he rfl h1 ?_)
  rw [if_pos (show (Value.ref T != Value.none) = true from by simp)]
  refine wpAny_bind (wpAny_field hT hdT h3 ?_)
  rw [if_neg (show ¬ ((Value.none == rawInt L) = true) from by simp [rawInt])]
  refine wpAny_bind (wpAny_setField hT hdT (Array.getElem?_eq_some_iff.mp h3).1 ?_)
  have other : ∀ b, b ≠ T → (s.heap.update T (Obj.mapFields (·.setIfInBounds 3 Value.none))).get? b = s.heap.get? b := fun b hb => Heap.get?_update_other _ _ (Ne.symm hb)
  have noRecord : ∀ b o, s.heap.get? b = some o → (∀ vs, o.data ≠ .fields vs) → b ≠ T := fun b o hb hnf q => by
    rw [q, hT] at hb; injection hb with hb; subst hb; exact hnf ts hdT
  exact entryD hfr (hl.of_keeps fun b o hb hnf => ⟨o, (other b (noRecord b o hb hnf)).trans hb, rfl⟩) hf ((other e (Ne.symm hTe)).trans he) (hU.trans fun b o hb hnf => ⟨o.slots, (other b (noRecord b o hb hnf)).trans hb⟩)
    (fun b o hbo => (other b fun q => by rw [q, hnT] at hbo; cases hbo).trans (hkb b o hbo)) hen (Array.getElem?_eq_some_iff.mp h1).1 h
theorem noteD_again {H base : Heap} {l : List Env} {env : Env} {L e dd : Addr} {Q : Unit → Shared → Prop} (hf : env.frame = some L) (ht : FlyD H base l e dd (rawInt L) s.heap) (h : Q () s) : wpAny M A (noteFrame (.ref e) env) Q E s := by
  obtain ⟨hU, hkb, hen, hl, vs, T, oT, ts, he, h1, hnT, hTe, hT, hdT, h3⟩ := ht
  unfold noteFrame
  simp only [hf]
  refine wpAny_bind (wpAny_field he rfl h1 ?_)
  rw [if_pos (show (Value.ref T != Value.none) = true from by simp)]
  refine wpAny_bind (wpAny_field hT hdT h3 ?_)
  rw [if_pos (show (rawInt L == rawInt L) = true from by simp)]
  exact wpAny_pure h
theorem cameD {H base : Heap} {l : List Env} {env : Env} {L e dd : Addr} {fl : Value} {Er : Value → Shared → Prop} (hf : env.frame = some L) (ht : FlyD H base l e dd fl s.heap)
    (h : ∀ h', FlyD H base l e dd (rawInt L) h' → Er (.ref e) { s with heap := h' }) : cameBackBy M A env Er (.ref e) s := by
  unfold cameBackBy
  obtain ⟨hU, hkb, hen, hl, vs, T, oT, ts, he, h1, hnT, hTe, hT, hdT, h3⟩ := id ht
  refine wpAny_bind (wpAny_field he rfl h1 ?_)
  rw [if_neg (show ¬ ((Value.ref T == Value.none) = true) from by simp), hf]
  exact flightD (f := some L) ht h
theorem leaveD {H base : Heap} {env : Env} {outer : List Env} {L e dd : Addr} {Q : Unit → Shared → Prop} (hf : env.frame = some L) (ht : FlyD H base (env :: outer) e dd (rawInt L) s.heap)
    (h : ∀ h', FlyD H base outer e dd .none h' → Q () { s with heap := h' }) : wpAny M A (leaving env (.ref e)) Q E s := by
  unfold leaving
  refine wpAny_bind (noteD_again hf ht ?_)
  refine flightD (f := none) ht fun h' hfl => ?_
  obtain ⟨k0, k1, k2, ⟨_, _, k3⟩, k4⟩ := hfl
  exact h h' ⟨k0, k1, k2, k3, k4⟩
/-- a fresh exception in a for of its frame, out of the frame -/
theorem fly_outD {H base : Heap} {env : Env} {outer : List Env} {L e dd t : Addr} {Q E' : Value → Shared → Prop}
    (hfr : A.frames = some (env :: outer)) (hl : s.heap.FunFrames base (env :: outer)) (hf : env.frame = some L) (he : s.heap.get? e = some (excO (some dd) t)) (hU : H.UpToSlots s.heap) (hkb : base.StaysIn s.heap) (hen : base.get? e = none)
    (hQ : ∀ h', FlyD H base outer e dd .none h' → Q (.ref e) { s with heap := h' }) :
    notedBy M A env (cameBackBy M A env (fun x s' => wpAny M A (leaving env x) (fun _ s'' => Q x s'') (fun e' s'' => E' e' s'') s')) (.ref e) s :=
  noteD_first hfr hl hf he hU hkb hen fun _ k1 => cameD hf k1 fun _ k2 => leaveD hf k2 fun _ k3 => hQ _ k3
end

end
section
def TrigIn (B : Base) (e : PE) (v : Value) : Prop := ∃ p g x, v = .ref p ∧ B p = some (tupO [g, x]) ∧ EIn B e x
theorem TrigIn.mono {B B' : Base} (hs : Sub B B') {e : PE} {v : Value} : TrigIn B e v → TrigIn B' e v
  | ⟨p, g, x, h1, h2, h3⟩ => ⟨p, g, x, h1, hs _ _ h2, h3.mono hs⟩
theorem All2.mem {α β : Type} {R : α → β → Prop} {r : List α} {q : List β} (x : All2 R r q) {b : β} (h : b ∈ q) : ∃ a, a ∈ r ∧ R a b := by
  obtain ⟨i, hi⟩ := List.mem_iff_getElem?.mp h
  obtain ⟨a, ha, hr⟩ := x.at hi
  exact ⟨a, List.mem_of_getElem? ha, hr⟩
/-- what the caller of check_sensitivity meets when it raises -/
def Out (B : Base) (s : Shared) (lenv : Env) (Ll : Addr) (e : Addr) (s' : Shared) : Prop :=
  ∃ base dd, FlyD s.heap base [lenv] e dd .none s'.heap ∧ s.heap.objs.size ≤ e ∧ s.heap.objs.size ≤ dd ∧ (∀ b o, b ≠ Ll → s.heap.get? b = some o → base.get? b = some o) ∧ (∃ m t, base.Ns1 dd m ∧ m "kind" = some (.str (Str.ofString "incomplete_sensitivity") t)) ∧ Like s s'
theorem check_spec {prog : Program} {w : World} {G : Heap} (W : Wd w G) {A : Around} {s : Shared} {B : Base} {tl : Addr} {vs : List Value} {n : Nat} {es : List PE} {sv : Value} {st : PS} {lenv : Env} {Ll : Addr} {Q E : Value → Shared → Prop}
    (hg : ∀ b o, G.get? b = some o → B b = some o) (hk : ∀ b o, B b = some o → s.heap.get? b = some o) (htl : B tl = some (lstO vs n)) (ht : All2 (TrigIn B) es vs) (he : SIn B st sv) (hsz : sizeS st ≤ 1000)
    (hh : A.handled = none) (hroom : A.depth + 12 < recursionLimit) (hu : A.units + 400 < cLine) (hfr : A.frames = some [lenv]) (hlf : lenv.frame = some Ll) (hlk : lenv.scope.kind ≠ .module) (hlo : ∃ o, s.heap.get? Ll = some o ∧ ∀ vs, o.data ≠ .fields vs) (hlB : B Ll = none)
    (hQ : (∀ x ∈ readsS st, x ∈ es.flatMap keysE ∨ x ∈ writesS st) → ∀ B' s', Post ⟨G, s, B, []⟩ B' s' → Q .none s')
    (hE : (∃ x ∈ readsS st, ¬ (x ∈ es.flatMap keysE ∨ x ∈ writesS st)) → ∀ e s', Out B s lenv Ll e s' → E (.ref e) s') :
    wpAny (model prog w) A (call (.ref 127) [.ref tl, sv]) Q E s := by
  refine enterE (M := []) (binds := [(Str.ofString "triggers", .ref tl), (Str.ofString "s", sv)]) W hg hk (by omega) (by rfl) (by kernel_rfl) (by rfl) (locs (by rfl)) ?_ (by decide) (by rfl) (by rfl) (by rfl)
  intro L s₁ hL hk₁ S
  generalize hA : A.deeper (envX _ _ _ _ _ _) = A'
  have hfr' := Around.frames_deeper hfr ▸ congrArg Around.frames hA
  have hd' : A'.depth + 11 < recursionLimit := by rw [← hA]; show A.depth + 1 + 11 < _; omega
  have hu' : A'.units + 397 < cLine := by rw [← hA]; show A.units + 3 + 397 < cLine; omega
  have hh' : A'.handled = none := by rw [← hA]; exact hh
  clear hA
  repeat (walk_at "m")
  rename_i d o _ hd lo ho _ S
  have hlimE : Lim (es.flatMap keysE) := fun k hk => by
    obtain ⟨e, he, hke⟩ := List.mem_flatMap.mp hk
    obtain ⟨i, hi⟩ := List.mem_iff_getElem?.mp he
    obtain ⟨v, hv⟩ : ∃ v, vs[i]? = some v := ⟨_, List.getElem?_eq_getElem (by rw [← ht.length]; exact (List.getElem?_eq_some_iff.mp hi).1)⟩
    obtain ⟨e', he', p, g, x, _, _, hx⟩ := ht.at hv
    rw [hi] at he'
    cases he'
    exact hx.lim k hke
  refine S_forPairs S hh' htl (fun v hv => by obtain ⟨_, _, p, g, x, h1, h2, _⟩ := ht.mem hv; exact ⟨p, g, x, h1, h2⟩)
    (fun i B' m σ => ∃ o ks, σ = [(d, o)] ∧ DictO prog w o ks ∧ (∀ x, x ∈ ks ↔ x ∈ (es.take i).flatMap keysE) ∧ m "known" = some (.ref d) ∧ m "s" = some sv) ⟨_, _, rfl, ho, by simp, rfl, rfl⟩ ?_ ?_
  · clear S
    rintro it i B₂ m σ s p a b o4 hj hv2 u hpB ⟨o5, ks2, rfl, hd2, hk2, hm2, hms⟩ S
    obtain ⟨y, hy, p', g', x', hp', hpB', hyv⟩ := ht.at hv2
    cases hp'
    rw [u _ _ hpB'] at hpB
    cases hpB
    have hyv' := hyv.mono u
    have hnext2 := mem_take1 keysE hy
    repeat (walk_at "m")
    rename_i l3 vs3 k3 rs B₅ _ hl4 hir hkr hn3 hsub3 S
    refine S_forList S hh' hl4 (fun n B m σ => Sub B₅ B ∧ ∃ o2 ks, σ = [(it, o4), (d, o2)] ∧ DictO prog w o2 ks ∧ (∀ x, x ∈ ks ↔ x ∈ (es.take i).flatMap keysE ∨ x ∈ rs.take n) ∧ m "known" = some (.ref d) ∧ m "s" = some sv) ⟨fun _ _ h => h, _, ks2, rfl, hd2, by simpa using hk2, (if_neg (by decide)).trans ((if_neg (by decide)).trans hm2), (if_neg (by decide)).trans ((if_neg (by decide)).trans hms)⟩ ?_ ?_
    · clear S
      rintro it3 n B m σ s v o6 hnn hv3 hl5 ⟨u3, o7, ks3, rfl, hd3, hk3, hm3, hms3⟩ S
      obtain ⟨q, tq, rfl, hq⟩ := ints_at hir hv3
      have hnext3 := take_ints hq
      have hfew : ks3.length ≤ 8 := hd3.few fun z hz => hlimE z (by
        rcases (hk3 z).mp hz with h | h
        · exact take_mem h
        · exact take_mem ((hnext2 z).mpr (.inr ((hkr z).mp (List.mem_of_mem_take h)))))
      repeat (walk_at "m")
      rename St _ _ _ _ _ _ => S
      refine ⟨rfl, _, _, _, fun _ _ h => h, ?_, S⟩
      refine ⟨u3, _, addK ks3 q, rfl, by assumption, fun x => ?_, (if_neg (by decide)).trans hm3, (if_neg (by decide)).trans hms3⟩
      rw [mem_addK, hk3, hnext3, or_assoc]
    · clear S
      rintro B m σ s hl5 ⟨u3, o7, ks3, rfl, hd3, hk3, hm3, hms3⟩ S
      rw [List.take_of_length_le (l := rs) (by rw [ints_len hir]; exact Nat.le_refl _)] at hk3
      repeat (walk_at "m")
      rename St _ _ _ _ _ _ => S
      refine ⟨rfl, _, _, _, fun _ _ h => u3 _ _ (hsub3 _ _ h), ?_, S⟩
      refine ⟨_, ks3, rfl, hd3, fun x => ?_, hm3, hms3⟩
      rw [hk3, hkr, hnext2]
  clear S
  rintro B₂ m σ s₂ u ⟨o5, ks2, rfl, hd2, hk2, hm2, hms⟩ S
  rw [List.take_of_length_le (by rw [ht.length]; exact Nat.le_refl _)] at hk2
  have he2 : SIn B₂ st sv := SIn.mono u he
  have hlimW : Lim (writesS st) := (SIn.lim he).2
  repeat (walk_at "m")
  rename St _ _ _ _ _ _ => S
  refine S_swrites S W he2 hsz hh' (by omega) (by omega) ?_
  clear S
  intro lw vw nw kw B₃ s₃ hlw hiw hkw hnw u3 S
  repeat (walk_at "m")
  rename St _ _ _ _ _ _ => S
  refine S_forList S hh' hlw (fun n B m σ => Sub B₃ B ∧ ∃ o2 ks, σ = [(d, o2)] ∧ DictO prog w o2 ks ∧ (∀ x, x ∈ ks ↔ x ∈ es.flatMap keysE ∨ x ∈ kw.take n) ∧ m "known" = some (.ref d) ∧ m "s" = some sv) ⟨fun _ _ h => h, _, ks2, rfl, hd2, by simpa using hk2, hm2, hms⟩ ?_ ?_
  · clear S
    rintro it3 n B m σ s v o6 hnn hv3 hl5 ⟨u4, o7, ks3, rfl, hd3, hk3, hm3, hms3⟩ S
    obtain ⟨q, tq, rfl, hq⟩ := ints_at hiw hv3
    have hnext3 := take_ints hq
    have hfew : ks3.length ≤ 8 := hd3.few fun z hz => by
      rcases (hk3 z).mp hz with h | h
      · exact hlimE z h
      · exact hlimW z ((hkw z).mp (List.mem_of_mem_take h))
    repeat (walk_at "m")
    rename St _ _ _ _ _ _ => S
    refine ⟨rfl, _, _, _, fun _ _ h => h, ?_, S⟩
    refine ⟨u4, _, addK ks3 q, rfl, by assumption, fun x => ?_, (if_neg (by decide)).trans hm3, (if_neg (by decide)).trans hms3⟩
    rw [mem_addK, hk3, hnext3, or_assoc]
  clear S
  rintro B₄ m₄ σ₄ s₄ hlw4 ⟨u4, o7, ks3, rfl, hd3, hk3, hm3, hms3⟩ S
  rw [List.take_of_length_le (l := kw) (by rw [ints_len hiw]; exact Nat.le_refl _)] at hk3
  have he4 : SIn B₄ st sv := SIn.mono u4 (SIn.mono u3 he2)
  repeat (walk_at "m")
  rename St _ _ _ _ _ _ => S
  refine S_sreads S W he4 hsz hh' (by omega) (by omega) ?_
  clear S
  intro lr vr nr kr B₅ s₅ hlr hir hkr hnr u5 S
  repeat (walk_at "m")
  rename St _ _ _ _ _ _ => S
  refine S_forListE S hh' hlr (fun n B m σ => Sub B₅ B ∧ σ = [(d, o7)] ∧ (∀ x ∈ kr.take n, x ∈ ks3) ∧ m "known" = some (.ref d)) ⟨fun _ _ h => h, rfl, by simp, hm3⟩ ?_ ?_
  · clear S
    rintro it3 n B m σ s v o6 hnn hv hl5 ⟨u6, rfl, hall, hm4⟩ S
    obtain ⟨q, tq, rfl, hq⟩ := ints_at hir hv
    have hnext := take_ints hq
    repeat (walk_at "m")
    by_cases hin : q ∈ ks3
    · rw [if_neg (by simpa using hin)]
      repeat (walk_at "m")
      rename St _ _ _ _ _ _ => S
      refine ⟨rfl, _, _, _, fun _ _ h => h, ⟨u6, rfl, fun x hx => ?_, (if_neg (by decide)).trans hm4⟩, S⟩
      rcases (hnext x).mp hx with h | rfl
      · exact hall x h
      · exact hin
    · rw [if_pos (by simpa using hin)]
      repeat (walk_at "m")
      rename St _ _ _ _ _ _ => S
      refine raise_own (w := w) hh' ?_
      refine Call_ ?_
      refine S_glob S W (gl_SynthError _) ?_
      refine S_callWith W (by kernel_rfl) ?_
      repeat (walk_at "m")
      rename St _ _ _ _ _ _ => S
      refine S_mkExc S W (by omega) ?_
      clear S
      intro e dd t od s' hLe hkd hS
      obtain ⟨B', hBB, S⟩ := hS
      have he' := S.getAt (i := 1) (a := e) (o := excO (some dd) t) idx1
      refine ⟨e, some dd, t, rfl, he', S.inK W, ?_⟩
      obtain ⟨oLl, hoLl, hnLl⟩ := hlo
      have hLl := Heap.lt_size hoLl
      obtain ⟨oL, esL, epL, hoL, hdL, _⟩ := S.ns
      have hLl' := S.po.ext _ _ (fun q => nomatch q) hoLl
      have hown := S.own _ (.head _)
      have hne : dd ≠ e := S.apart (i := 0) (j := 1) idx0 idx1 (by decide)
      have hdd : Ll < dd := by
        rcases hown.2.2.2 with q | q
        · cases q
        · exact Nat.lt_of_lt_of_le hLl q
      have hmem : ∀ b, b ∉ [e, L, Ll] ↔ b ≠ e ∧ b ≠ L ∧ b ≠ Ll := fun b => by simp
      refine fly_outD (base := hideAll s'.heap [e, L, Ll]) (L := L) hfr'.symm ⟨(fun q => by cases q), ⟨L, oL, rfl, hideAll_none _ (.tail _ (.head _)), hoL, fun vs q => by rw [hdL] at q; cases q⟩, hlk, ⟨Ll, oLl, hlf, hideAll_none _ (.tail _ (.tail _ (.head _))), hLl', hnLl⟩, trivial⟩ rfl he' (Heap.UpToSlots.of_keeps fun b o ho => S.po.ext b o (fun q => nomatch q) ho) (fun b o hb => of_hideAll _ hb) (hideAll_none _ (.head _)) fun h' hF => ?_
      refine hE ⟨q, (hkr q).mp (List.mem_of_getElem? hq), fun hc => hin ((hk3 q).mpr (hc.imp id (hkw q).mpr))⟩ e _ ⟨_, dd, hF, Nat.le_trans hL (Nat.le_of_lt hLe), ?_, fun b o hb ho => ?_, ?_, S.po.lk.trans (Like.mk _ _ _)⟩
      · rcases hown.2.2.2 with q | q
        · cases q
        · exact q
      · refine hideAll_get _ (S.po.ext b o (fun q => nomatch q) ho) ((hmem b).mpr ⟨?_, ?_, hb⟩)
        · exact Nat.ne_of_lt (Nat.lt_of_lt_of_le (Heap.lt_size ho) (Nat.le_of_lt (Nat.lt_of_le_of_lt hL hLe)))
        · exact Nat.ne_of_lt (Nat.lt_of_lt_of_le (Heap.lt_size ho) hL)
      · obtain ⟨mk, hmk, hmv⟩ := hkd
        exact ⟨mk, _, hmk.at (fun o ho => hideAll_get _ ho ((hmem dd).mpr ⟨hne, hown.2.1, Nat.ne_of_gt hdd⟩)), hmv⟩
  · clear S
    rintro B m σ s hl5 ⟨u6, rfl, hall, hm4⟩ S
    rw [List.take_of_length_le (l := kr) (by rw [ints_len hir]; exact Nat.le_refl _)] at hall
    repeat (walk_at "m")
    rename St _ _ _ _ _ _ => S
    exact hQ (fun x hx => ((hk3 x).mp (hall x ((hkr x).mpr hx))).imp id (hkw x).mp) _ _ S.po

end
section
-- --nodrv: reading a field of an object of the claim's own exception class
theorem exc_ga (w : World) : findIn (KK w) (.ref 45) "__getattribute__" = some (some (.builtin "BaseException.__getattribute__")) := by kernel_rfl
theorem exc_noga (w : World) : findIn (KK w) (.ref 45) "__getattr__" = some none := by kernel_rfl
theorem exc_base (w : World) : mroIn (KK w) 45 (.type "BaseException") = some true := by kernel_rfl
theorem exc_kind (w : World) : findIn (KK w) (.ref 45) "kind" = some none := by kernel_rfl
theorem exc_dict (w : World) : (clsIn (KK w) 45).any (fun cd => cd.hasDict) = true := by kernel_rfl
theorem lookIn_ns {h : Heap} {a : Addr} {m : Str → Option Value} {name : Str} {v : Value} {o : Obj} (n : h.Ns1 a m) (e : m name = some v) (ho : h.get? a = some o) : lookIn name o = some (some v) := by
  obtain ⟨o', es, ep, ho', hd, _, _, hf⟩ := n
  rw [ho] at ho'
  cases ho'
  have h1 := (hf name).trans e
  unfold nsFind findBy at h1
  unfold lookIn
  rw [hd]
  dsimp only
  rw [← Array.find?_toList] at h1
  cases q : es.toList.find? (·.key.isStr name) with
  | none => rw [q] at h1; cases h1
  | some x => rw [q] at h1; cases h1; rfl
theorem get_exc {prog : Program} {w : World} {A : Around} {E : Value → Shared → Prop} {h : Heap} {g : Array GenState} {d : Drawn} {t : Nat} {os : OsState} {x dx : Addr} {od : Obj} {name : Str} {v : Value} {oda : Data} {osl : Array (Option Value)} {expr : Bool} {Q : Value → Shared → Prop}
    (X : (KK w).In h) (hx : h.get? x = some ⟨.ref 45, some dx, oda, osl⟩) (hnc : notCls ⟨.ref 45, some dx, oda, osl⟩ = true) (hd : h.get? dx = some od) (hl : lookIn name od = some (some v)) (hna : findIn (KK w) (.ref 45) name = some none) (hv : handedIn v = true)
    (hq : Q v ⟨h, g, d, t + 1, os⟩) : wpAny (model prog w) A (getAttr (.ref x) name expr) Q E ⟨h, g, d, t, os⟩ := by
  have I : InstAt h x ⟨.ref 45, some dx, oda, osl⟩ 45 (some od) := ⟨hx, rfl, hnc, hd⟩
  obtain ⟨cd, hcd, hdict⟩ := any_some (exc_dict w)
  have hf : findObj (KK w) 45 (some od) name = some (.value v) := by
    unfold findObj
    rw [hcd, Option.bind_some, hna, Option.bind_some]
    simp only [Option.bind_some]
    have : PySem.W.ownOf cd (some od) name = some (some v) := by unfold PySem.W.ownOf; rw [if_pos hdict]; exact hl
    rw [this]
    rfl
  have L0 := I.type (M := model prog w)
  have L1 := looks_findIn (M := model prog w) X (exc_ga w)
  have L2 := looks_findIn (M := model prog w) X (exc_noga w)
  have L3 := looks_find (M := model prog w) X I hf
  have L4 : Looks (model prog w) h (isInstance (.ref x) (.type "BaseException")) true := L0.andThen (looks_mroIn X (exc_base w))
  have FB := (PySem.F.attr_Exception).ga
  unfold getAttr getAttrBy
  refine wpAny_bind (wpAny_mkText (wpAny_holding (wpAny_bind (L0.at (wpAny_bind (L1.at ?_))))))
  show wpAny _ _ (getAttrByItsOwn _ _ _ _ _ _) _ _ _
  unfold getAttrByItsOwn hookBefore callGetattribute boundAndCalled
  refine wpAny_bind (L2.at (wpAny_bind (wpAny_attempt (wpAny_holding ?_))))
  rw [if_neg (by cases expr <;> decide)]
  refine wpAny_bind (wpAny_of_eq (FB.bind _) ?_)
  refine wpAny_call (codeAny_call_builtin FB.plain F.entry_bexc_ga (@check_slot (model prog w) _ _ _ "BaseException.__getattribute__" "BaseException" "__getattribute__" (.ref x) [.str name t] [] _ (by decide +kernel) (by decide +kernel) L4 (F.args_bexc_ga _ _) ?_))
  unfold Builtin.«object.__getattribute__»
  refine wpAny_bind (wpAny_pure ?_)
  refine wpAny_bind (wpAny_pure (wpAny_bind (L0.at (wpAny_bind (L3.at ?_)))))
  refine wpAny_pure ?_
  show wpAny _ _ (handedOut v) _ _ _
  rw [handedOut_of hv]
  exact wpAny_pure hq

end
section
-- the law's own try
section
variable {prog : Program} {w : World} {A : Around} {E : Value → Shared → Prop} {s : Shared}
theorem catch_own {G H base : Heap} {env : Env} {L e dd : Addr} {n : Str} {b₀ : Stmt} {suite : List Stmt} {pos np : Pos} {rest : List ExceptHandler} {Q : Flow → Shared → Prop} (W : Wd w G) (hGb : ∀ b o, G.get? b = some o → base.get? b = some o)
    (hfr : A.frames = some [env]) (hf : env.frame = some L) (hF : FlyD H base [env] e dd .none s.heap)
    (k : ∀ h', FlyD H base [env] e dd .none h' → wpAny (model prog w) (A.mark (some (.ref e))) (storeName env n (.ref e)) (fun _ s₂ => wpAny (model prog w) (A.mark (some (.ref e))) (execs (b₀ :: suite) env)
      (fun f s₃ => wpAny (model prog w) A (do bindName env n .none; unbindBehindTheSuite env n pos) (fun _ s₄ => Q f s₄) E s₃) (fun _ _ => False) s₂) (fun _ _ => False) { s with heap := h' })
    (hg : env.globals = mainGlobals := by rfl) (hk : env.scope.kind = .function := by rfl) (hx : env.kindOf "SynthError" = some .globalImplicit := by rfl) :
    wpAny (model prog w) A (noteFrame (.ref e) env) (fun _ s₂ => wpAny (model prog w) A (setFlight (.ref e) none) (fun _ s₃ =>
      wpAny (model prog w) A (handleBy (.ref e) env (.ExceptHandler (some (.Name "SynthError" np)) (some n) (b₀ :: suite) pos :: rest)) Q E s₃) E s₂) E s := by
  obtain ⟨mg, mb, T⟩ := W.t
  obtain ⟨nm, q, N, bs, hdct, sn, sub, ab, col, dd', k0, k1, k2, k3, k5, hCK⟩ := syn_obj w
  obtain ⟨hp, g, d, tk, os⟩ := s
  refine noteD_on hfr hf hF fun h1 hF1 => ?_
  refine flightD (f := none) hF1 fun h2 hF2 => ?_
  have hst : ∀ b o, base.get? b = some o → h2.get? b = some o := hF2.2.1
  have hC := hst _ _ (hGb _ _ (W.k _ _ hCK))
  obtain ⟨vs, T0, oT, ts, hob, _⟩ := hF2.2.2.2.2
  refine wpAny_handleBy_cons (codeAny_handlers_test (Name_function_global hk hx (loadGlobal_global (env := env) (hg ▸ T.g.keeps fun b o e => hst b o (hGb b o e)) (mg_of W.k T.g (gl_SynthError w)) ?_) (by decide))) (by intro q; cases q)
  refine wpAny_excMatches_sub_self hC hob rfl (by decide) (codeAny_handlers_suite_as ?_)
  refine flightD (f := none) hF2 fun h3 hF3 => ?_
  refine wpAny_mono (k h3 hF3) (fun _ s₂ h₂ => ?_) fun _ _ z => z.elim
  exact wpAny_mono h₂ (fun f s₃ h₃ => h₃) fun _ _ z => z.elim

/-- behind the catch the frame goes on; the exception and its dict are known -/
theorem St.caught {c : Cx} {B : Base} {L : Addr} {m : Str → Option Value} {σ : List (Addr × Obj)} {s s' : Shared} {base : Heap} {env : Env} {e dd : Addr} {fl : Value} (S : St c B L m σ s) (hF : FlyD s.heap base [env] e dd fl s'.heap)
    (hb : ∀ b o, b ≠ L → s.heap.get? b = some o → base.get? b = some o) (hl : Like s s') : St c B L m σ s' := by
  have up : ∀ b o, b ≠ L → s.heap.get? b = some o → s'.heap.get? b = some o := fun b o hn ho => hF.2.1 b o (hb b o hn ho)
  refine ⟨hF.1.ns S.ns, S.g, S.above, ⟨S.po.sub, S.po.new, fun b o ho => up b o (fun q => by rw [q, S.fr] at ho; cases ho) (S.po.keep b o ho), fun b o hm ho => up b o (Nat.ne_of_lt (Nat.lt_of_lt_of_le (Heap.lt_size ho) S.above)) (S.po.ext b o hm ho), S.po.lk.trans hl⟩, S.fr, fun p hp => ?_, S.nd⟩
  obtain ⟨a1, a2, a3, a4⟩ := S.own p hp
  exact ⟨up _ _ a2 a1, a2, a3, a4⟩
theorem St.caughtE {c : Cx} {B : Base} {L : Addr} {m : Str → Option Value} {σ : List (Addr × Obj)} {s s' : Shared} {base : Heap} {env : Env} {e dd : Addr} {fl : Value} {mk : Str → Option Value} (S : St c B L m σ s) (hF : FlyD s.heap base [env] e dd fl s'.heap)
    (hb : ∀ b o, b ≠ L → s.heap.get? b = some o → base.get? b = some o) (hl : Like s s') (he : s.heap.objs.size ≤ e) (hdd : s.heap.objs.size ≤ dd) (hk : base.Ns1 dd mk) :
    ∃ B' vs od, Sub B B' ∧ B' e = some ⟨.ref 45, some dd, .fields vs, #[]⟩ ∧ B' dd = some od ∧ s'.heap.Ns1 dd mk ∧ St c B' L m σ s' := by
  have T := S.caught hF hb hl
  obtain ⟨vs, T0, oT, ts, hob, _⟩ := hF.2.2.2.2
  obtain ⟨od, es, ep, hod, _⟩ := id hk
  have hne : e ≠ dd := fun q => by rw [← q, hF.2.2.1] at hod; cases hod
  have fresh : ∀ a, s.heap.objs.size ≤ a → L < a ∧ B a = none ∧ a ∉ σ.map (·.1) := fun a ha => by
    refine ⟨Nat.lt_of_lt_of_le S.ltL ha, ?_, fun hm => ?_⟩
    · cases q : B a with
      | none => rfl
      | some o => exact absurd (Heap.lt_size (S.po.keep _ _ q)) (Nat.not_lt.mpr ha)
    · obtain ⟨p, hp, rfl⟩ := List.mem_map.mp hm
      exact absurd (Heap.lt_size (S.own p hp).1) (Nat.not_lt.mpr ha)
  obtain ⟨e1, e2, e3⟩ := fresh e he
  obtain ⟨d1, d2, d3⟩ := fresh dd hdd
  have T1 := T.add (d := dd) d1 d2 d3 (hF.2.1 _ _ hod)
  have T2 := T1.ins d1
  have u1 := T1.insSub
  have T3 := T2.add (d := e) e1 (by show (if e = dd then _ else B e) = none; rw [if_neg hne]; exact e2) e3 hob
  refine ⟨_, vs, od, Sub.trans u1 T3.insSub, T3.insAt, T3.insSub _ _ T1.insAt, hk.at fun o ho => hF.2.1 _ _ ho, T3.ins e1⟩

/-- a cell of the frame turns -/
theorem S_storeCell {c : Cx} {B : Base} {L a : Addr} {m : Str → Option Value} {σ : List (Addr × Obj)} {i : Nat} {o : Obj} {x : Str} {v : Value} {v₀ : Option Value} {env : Env} {Q : Unit → Shared → Prop} (S : St c B L m σ s) (hc : env.cells.lookup x = some a) (hi : σ[i]? = some (a, o)) (ho : o.data = .cell v₀)
    (h : ∀ s' o', o'.data = .cell (some v) → St c B L m (σ.set i (a, o')) s' → Q () s')
    (hk : env.scope.kind = .function := by rfl) (hx : env.kindOf x = some .cell := by rfl) : wpAny (model prog w) A (storeName env x v) Q E s :=
  wpAny_storeName_cell hk hx hc ⟨o, (S.own _ (List.mem_of_getElem? hi)).1, ho⟩ fun h' hv hs => by
    obtain ⟨o', ho', hd'⟩ := hv
    exact h _ o' hd' (S.setD (s' := { s with heap := h' }) hi hs ho' (Like.mk _ _ _))
theorem S_free {c : Cx} {B : Base} {L : Addr} {m : Str → Option Value} {σ : List (Addr × Obj)} {x : Str} {pos : Pos} {v : Value} {env : Env} {a : Addr} {o : Obj} {i : Nat} {Q : Value → Shared → Prop} (S : St c B L m σ s) (hc : env.cells.lookup x = some a) (hi : σ[i]? = some (a, o)) (ho : o.data = .cell (some v)) (h : Q v s)
    (hk : env.scope.kind = .function := by rfl) (hx : env.kindOf x = some .free := by rfl) (hn : (x == ("__classdict__" : Str)) = false := by decide) (hd : (x == ("__debug__" : Str)) = false := by decide) :
    wpAny (model prog w) A (eval (.Name x pos) env) Q E s := wpAny_Name (wpAny_loadName_free hk hx hc ⟨o, (S.own _ (List.mem_of_getElem? hi)).1, ho⟩ h hn) hd
theorem S_notInL {c : Cx} {B : Base} {L l : Addr} {m : Str → Option Value} {σ : List (Addr × Obj)} {i : Nat} {o : Obj} {ks : List Int} {k : Int} {t : Tok} {Q : Value → Shared → Prop} (S : St c B L m σ s) (hi : σ[i]? = some (l, o)) (ho : IntsO o ks)
    (h : Q (.bool (!decide (k ∈ ks))) s) : wpAny (model prog w) A (compareOp .NotIn (.int k t) (.ref l)) Q E s := by
  obtain ⟨vs, n, rfl, hv⟩ := ho
  refine notin_list_ints ⟨_, (S.own _ (List.mem_of_getElem? hi)).1, rfl, n, rfl⟩ hv ?_
  have : ks.any (· == k) = decide (k ∈ ks) := by
    rw [Bool.eq_iff_iff, List.any_eq_true, decide_eq_true_iff]
    constructor
    · rintro ⟨x, hx, e⟩; rw [beq_iff_eq] at e; exact e ▸ hx
    · exact fun hx => ⟨k, hx, by simp⟩
  rw [this]; exact h
end

end
section
-- the law's tail: lacking, the try, the end
theorem St.perm {c : Cx} {B : Base} {L : Addr} {m : Str → Option Value} {σ σ' : List (Addr × Obj)} {s : Shared} (S : St c B L m σ s) (h : σ.Perm σ') : St c B L m σ' s :=
  ⟨S.ns, S.g, S.above, S.po, S.fr, fun p hp => S.own p (h.mem_iff.mpr hp), ((h.map (·.1)).nodup_iff).mp S.nd⟩
theorem perm_first {α : Type} (a : α) : ∀ (l r : List α), (l ++ a :: r).Perm (a :: (l ++ r)) := fun l r => List.perm_middle
def lackF (as ws : List Int) (k : Int) : Bool := !decide (k ∈ as) && !decide (k ∈ ws)
theorem lack_next (as ws : List Int) {rs : List Int} {i : Nat} {k : Int} (h : rs[i]? = some k) : (rs.take (i + 1)).filter (lackF as ws) = (rs.take i).filter (lackF as ws) ++ [k].filter (lackF as ws) := by
  rw [List.take_add_one, h, List.filter_append]; rfl
theorem S_eqNil {prog : Program} {w : World} {A : Around} {E : Value → Shared → Prop} {s : Shared} {c : Cx} {B : Base} {L a b : Addr} {m : Str → Option Value} {σ : List (Addr × Obj)} {xs : List Value} {n n' i j : Nat} {ns : List Int} {Q : Value → Shared → Prop} (S : St c B L m σ s) (hi : σ[i]? = some (a, lstO xs n)) (hj : σ[j]? = some (b, lstO [] n')) (hx : IntsAre xs ns) (hu : A.units + 64 < cLine)
    (h : Q (.bool (decide (ns = []))) s) : wpAny (model prog w) A (compareOp .Eq (.ref a) (.ref b)) Q E s :=
  ke_eq_ints ⟨_, (S.own _ (List.mem_of_getElem? hi)).1, rfl, n, rfl⟩ ⟨_, (S.own _ (List.mem_of_getElem? hj)).1, rfl, n', rfl⟩ hx .nil hu h

theorem S_getExc {prog : Program} {w : World} {A : Around} {E : Value → Shared → Prop} {s : Shared} {c : Cx} {B : Base} {L e dd : Addr} {m : Str → Option Value} {σ : List (Addr × Obj)} {vs : Array Value} {od : Obj} {name : Str} {v : Value} {expr : Bool} {Q : Value → Shared → Prop} (S : St c B L m σ s) (W : Wd w c.G)
    (he : B e = some ⟨.ref 45, some dd, .fields vs, #[]⟩) (hd : B dd = some od) (hl : lookIn name od = some (some v)) (hna : findIn (KK w) (.ref 45) name = some none) (hv : handedIn v = true) (h : ∀ s', St c B L m σ s' → Q v s') : wpAny (model prog w) A (getAttr (.ref e) name expr) Q E s := by
  have X := S.inK W
  have h1 := S.po.keep _ _ he
  have h2 := S.po.keep _ _ hd
  have h3 := h _ (S.toks (s.toks + 1))
  obtain ⟨hp, g, d, t, os⟩ := s
  exact get_exc X h1 rfl h2 hl hna hv h3
theorem S_goes {prog : Program} {w : World} {A : Around} {E : Value → Shared → Prop} {s : Shared} {c : Cx} {B : Base} {L : Addr} {m : Str → Option Value} {σ : List (Addr × Obj)} {n : Str} {pos : Pos} {env : Env} {Q : Unit → Shared → Prop} (S : St c B L m σ s) (h : ∀ m' s', St c B L m' σ s' → Q () s')
    (hL : env.locals = L := by rfl) (hl : env.kindOf n = some .local := by rfl) (hk : env.scope.kind = .function := by rfl) : wpAny (model prog w) A (do bindName env n .none; unbindBehindTheSuite env n pos) Q E s := by
  subst hL
  exact wpAny_nameGoes hl S.ns (by rw [hk]; rfl) fun h' m' hn hs => h m' _ (S.setL (s' := { s with heap := h', toks := s.toks + 1 }) hn hs (Like.mk _ _ _))
theorem cut_fn {x : Option Obj} {a b : Obj} {P : Prop} (h1 : x = some a) (h2 : x = some b) (k : a = b → P) : P := k (Option.some.inj (h1.symm.trans h2))
section
local macro_rules | `(tactic| walk_at "m-eval") => `(tactic| ((with_reducible show wpAny _ _ (eval (Expr.Name _ _) _) _ _ _); (with_reducible rename St _ _ _ _ _ _ => S0); refine S_free S0 (by rfl) (by walk_at "m-idx") (by assumption) ?_))
local macro_rules | `(tactic| walk_at "m-cmp") => `(tactic| ((with_reducible show wpAny _ _ (compareOp CmpOp.NotIn (Value.int _ _) (Value.ref _)) _ _ _); (with_reducible rename St _ _ _ _ _ _ => S0); refine S_notInL S0 (by walk_at "m-idx") (by assumption) ?_))

theorem law_tail {prog : Program} {w : World} {G : Heap} (W : Wd w G) {A : Around} {s0 s : Shared} {B0 B : Base} {L : Addr} {m : Str → Option Value} {name qual : Str} {params : Arguments} {body : List Stmt} {scope : Scope} {dV kV doc pm cdv ct oc cd : Value} {an od : Option Addr} {osl : Array (Option Value)} {cl : List (Str × Addr)} {fa : Addr}
    {tr aw kp rd row : Addr} {tvs : List Value} {tk : Nat} {pa pk pr ro o1 o2 : Obj} {as ws rs : List Int} {es : List PE} {st : PS} {sv : Value} {Q : Flow → Shared → Prop} {E : Value → Shared → Prop}
    (hfn : (KK w).lookup 172 = some ⟨oc, od, .func (fnX name qual params body scope [] dV kV doc pm an cdv ct), osl⟩) (hcl : cl = [(Str.ofString "awaited", L + 1 + 1), (Str.ofString "kept_keys", L + 1)])
    (S : St ⟨G, s0, B0, []⟩ B L m [(tr, lstO tvs tk), (aw, pa), (kp, pk), (rd, pr), (row, ro), (L + 1, o1), (L + 1 + 1, o2)] s) (hLt : L < tr) (hLr : L < rd) (h1 : o1.data = .cell (some (.ref kp))) (h2 : o2.data = .cell (some (.ref aw)))
    (ha : IntsO pa as) (hk : IntsO pk ws) (hr : IntsO pr rs) (ht : All2 (TrigIn B) es tvs) (hst : SIn B st sv) (hsz : sizeS st ≤ 1000) (hmA : ∀ x, x ∈ as ↔ x ∈ es.flatMap keysE) (hmR : ∀ x, x ∈ rs ↔ x ∈ readsS st) (hmW : ∀ x, x ∈ ws ↔ x ∈ writesS st) (hrl : rs.length ≤ 100000)
    (m1 : m "triggers" = some (.ref tr)) (m2 : m "s" = some sv) (m3 : m "read" = some (.ref rd)) (hh : A.handled = none) (hroom : A.depth + 20 < recursionLimit) (hu : A.units + 500 < cLine) (hfr : A.frames = some [envX qual scope L fa cd cl])
    (hQ : ∀ B' m' σ' s', St ⟨G, s0, B0, []⟩ B' L m' σ' s' → Q (.ret (.bool true)) s') :
    wpAny (model prog w) A (execs (body.drop 8) (envX qual scope L fa cd cl)) Q E s := by
  refine cut_fn (by rfl) hfn fun e => ?_
  cases e
  clear hfn
  obtain ⟨rvs, rk, rfl, hri⟩ := hr
  have hrl' := IntsAre.length hri
  have S1 := S.perm (perm_first (rd, lstO rvs rk) [(tr, lstO tvs tk), (aw, pa), (kp, pk)] [(row, ro), (L + 1, o1), (L + 1 + 1, o2)])
  have S2 := S1.ins hLr
  have u1 := S1.insSub
  have hrB := S1.insAt
  clear S S1
  simp only [List.cons_append, List.nil_append] at S2
  generalize hB1 : Mine.ins B rd (lstO rvs rk) = B1 at S2 u1 hrB
  have ht1 := ht.mono fun _ _ z => TrigIn.mono u1 z
  have hst1 : SIn B1 st sv := SIn.mono u1 hst
  clear ht hst
  subst hcl
  show wpAny _ _ (execs (_ :: _ :: _ :: []) _) _ _ _
  refine wpAny_execs_cons ?_
  refine Assign_ListComp_in (cl := [(Str.ofString "kept_keys", L + 1), (Str.ofString "awaited", L + 1 + 1)]) ⟨by rfl, by decide, rfl, by decide, by rfl⟩ ?_
  walk_at "m"
  rename St _ _ _ _ _ _ => S2
  refine S_compList S2 hh hrB (by omega) ⟨by rfl, by decide, rfl, by decide, by rfl⟩ (fun i B' τ xs => B' = B1 ∧ τ = [(tr, lstO tvs tk), (aw, pa), (kp, pk), (row, ro), (L + 1, o1), (L + 1 + 1, o2)] ∧ IntsAre xs ((rs.take i).filter (lackF as ws))) ⟨rfl, rfl, .nil⟩ ?_ ?_
  · clear S2
    rintro C it D i B' m' τ xs v oi k s' hi hv ⟨rfl, rfl, hxs⟩ T
    obtain ⟨q, tq, rfl, hq⟩ := ints_at hri hv
    have hnext := lack_next as ws hq
    refine wpAny_tests_one ?_
    repeat (walk_at "m")
    by_cases hqa : q ∈ as
    · rw [if_neg (by simpa using hqa)]
      rw [if_neg (by decide)]
      rename St _ _ _ _ _ _ => T
      refine ⟨_, _, _, fun _ _ h => h, ⟨rfl, rfl, ?_⟩, T⟩
      rw [hnext]
      simpa [lackF, hqa] using hxs
    · rw [if_pos (by simpa using hqa)]
      repeat (walk_at "m")
      by_cases hqw : q ∈ ws
      · rw [if_neg (by simpa using hqw)]
        rename St _ _ _ _ _ _ => T
        refine ⟨_, _, _, fun _ _ h => h, ⟨rfl, rfl, ?_⟩, T⟩
        rw [hnext]
        simpa [lackF, hqa, hqw] using hxs
      · rw [if_pos (by simpa using hqw)]
        repeat (walk_at "m")
        rename St _ _ _ _ _ _ => T
        refine ⟨_, _, _, fun _ _ h => h, ⟨rfl, rfl, ?_⟩, T⟩
        rw [hnext]
        simpa [lackF, hqa, hqw] using IntsAre.snoc hxs q tq
  · rintro C D B' m' τ xs k s' hLD ⟨rfl, rfl, hxs⟩ T
    refine post_use S2 T rfl rfl (by rfl) fun s3 U => ?_
    clear S2 T
    rw [List.take_of_length_le (by omega)] at hxs
    have U1 := U.perm (perm_first (tr, lstO tvs tk) [(D, lstO xs k)] [(aw, pa), (kp, pk), (row, ro), (L + 1, o1), (L + 1 + 1, o2)])
    have U2 := U1.ins hLt
    have u2 := U1.insSub
    have htB := U1.insAt
    clear U U1
    simp only [List.cons_append, List.nil_append] at U2
    generalize hB2 : Mine.ins B' tr (lstO tvs tk) = B2 at U2 u2 htB
    have ht2 := ht1.mono fun _ _ z => TrigIn.mono u2 z
    have hst2 : SIn B2 st sv := SIn.mono u2 hst1
    refine wpAny_execs_cons (wpAny_Try_except ?_)
    repeat (walk_at "m")
    rename St _ _ _ _ _ _ => U
    obtain ⟨oL, esL, epL, hoL, hdL, _⟩ := id U.ns
    refine check_spec W U.g U.po.keep htB ht2 hst2 hsz hh (by omega) (by omega) hfr rfl (by intro q; cases q) ⟨oL, hoL, fun vs q => by rw [hdL] at q; cases q⟩ U.fr ?_ ?_
    · intro hall B3 s4 P
      have hnil : rs.filter (lackF as ws) = [] := by
        rw [List.filter_eq_nil_iff]
        intro x hx
        have := hall x ((hmR x).mp hx)
        rw [← hmA, ← hmW] at this
        simp only [lackF]
        rcases this with h | h <;> simp [h]
      rw [hnil] at hxs
      have V := U.back0 P
      clear U
      refine hqq.go _ _ ?_
      clear hqq
      clear qq
      dsimp only
      refine wpAny_execs_nil ?_
      dsimp only
      refine wpAny_execs_nil ?_
      dsimp only
      repeat (walk_at "m")
      rename St _ _ _ _ _ _ => V
      refine S_eqNil V idx1 idx0 hxs (by omega) ?_
      refine hqq.go _ _ ?_
      simpa using hQ _ _ _ _ V
    · rintro ⟨x, hx, hnx⟩ e s4 ⟨base, dd, hF, hle, hldd, hbase, ⟨mk, tk2, hns, hmk⟩, hlk⟩
      have hne : rs.filter (lackF as ws) ≠ [] := by
        intro h
        rw [List.filter_eq_nil_iff] at h
        have := h x ((hmR x).mpr hx)
        rw [← hmA, ← hmW] at hnx
        simp only [lackF] at this
        rw [not_or] at hnx
        simp [hnx] at this
      refine catch_own W (fun b o hb => hbase b o (fun q => ?_) (U.grown b o hb)) hfr rfl hF fun h5 hF5 => ?_
      · have := U.g L o (q ▸ hb)
        rw [U.fr] at this
        cases this
      · obtain ⟨B6, vs6, od6, u6, he6, hd6, hn6, V⟩ := U.caughtE (s' := { s4 with heap := h5 }) hF5 hbase (hlk.trans (Like.mk _ _ _)) hle hldd hns
        have hlook := lookIn_ns hn6 hmk (V.po.keep _ _ hd6)
        clear U hF hF5
        have hu' : (A.mark (some (Value.ref e))).units + 400 < cLine := by show A.units + 400 < cLine; omega
        generalize A.mark (some (Value.ref e)) = A2 at hu' ⊢
        repeat (walk_at "m")
        rename St _ _ _ _ _ _ => V
        refine S_neNil V idx1 idx0 hxs (by omega) ?_
        have hxe : xs ≠ [] := fun q => by
          rw [q] at hxs
          cases hxs' : rs.filter (lackF as ws) with
          | nil => exact hne hxs'
          | cons a b => rw [hxs'] at hxs; cases hxs
        rw [show (!decide (xs = [])) = true from by simp [hxe]]
        refine wpAny_truthy_bool ?_
        rw [if_pos rfl]
        refine PyProof.Rows.BoolOp_one ?_
        refine wpAny_Compare1 ?_
        refine Attribute_name ?_
        walk_at "m"
        rename St _ _ _ _ _ _ => V
        refine S_getExc V W he6 hd6 hlook (exc_kind w) rfl ?_
        clear V
        intro s7 V
        repeat (walk_at "m")
        rename St _ _ _ _ _ _ => V
        refine S_goes V fun m8 s8 V8 => ?_
        simpa using hQ _ _ _ _ V8
end

end
section
-- the law's head
section
local macro_rules | `(tactic| walk_at "m") => `(tactic| ((with_reducible show wpAny _ _ (storeName _ _ _) _ _ _); (with_reducible rename St _ _ _ _ _ _ => S0); refine S_storeCell S0 (by rfl) (by walk_at "m-idx") (by assumption) ?_; clear S0; intro s' o' ho' S'; (try dsimp only [List.set_cons_zero, List.set_cons_succ] at S')))

theorem law_walk {prog : Program} {w : World} {G : Heap} (W : Wd w G) {A : Around} {s0 s : Shared} {B0 B : Base} {L : Addr} {m : Str → Option Value} {name qual : Str} {params : Arguments} {body : List Stmt} {scope : Scope} {dV kV doc pm cdv ct oc cd : Value} {an od : Option Addr} {osl : Array (Option Value)} {cl : List (Str × Addr)} {fa : Addr}
    {o1 o2 ol : Obj} {l : Addr} {vs : List Value} {n : Nat} {ns : List Int} {v1 v2 : Option Value} {Q : Flow → Shared → Prop} {E : Value → Shared → Prop}
    (hfn : (KK w).lookup 172 = some ⟨oc, od, .func (fnX name qual params body scope [] dV kV doc pm an cdv ct), osl⟩) (hcl : cl = [(Str.ofString "awaited", L + 1 + 1), (Str.ofString "kept_keys", L + 1)])
    (S : St ⟨G, s0, B0, []⟩ B L m [(L + 1, o1), (L + 1 + 1, o2)] s) (h1 : o1.data = .cell v1) (h2 : o2.data = .cell v2)
    (m0 : m "script" = some (.ref l)) (hB : B l = some ol) (hc : ol.cls = .type "list") (hd : ol.data = .seq vs.toArray n) (hi : IntsAre vs ns) (hz : vs.length ≤ 63)
    (hh : A.handled = none) (hroom : A.depth + 50 < recursionLimit) (hu : A.units + 1000 < cLine) (hfr : A.frames = some [envX qual scope L fa cd cl])
    (hQ : ∀ B' m' σ' s', St ⟨G, s0, B0, []⟩ B' L m' σ' s' → Q (.ret (.bool true)) s') :
    wpAny (model prog w) A (execs body (envX qual scope L fa cd cl)) Q E s := by
  have hfn' := hfn
  refine cut_fn (by rfl) hfn fun e => ?_
  cases e
  clear hfn
  subst hcl
  repeat (walk_at "m")
  rename St _ _ _ _ _ _ => S
  refine bits_spec W S.g S.po.keep hB hc hd hi hz hh (by omega) (by omega) fun r ro B1 s1 hr hro hrow hBr P => ?_
  have hLr := Nat.lt_of_lt_of_le S.ltL hr
  have hnr : r ∉ [(L + 1, o1), (L + 1 + 1, o2)].map (·.1) := fun hm => by
    obtain ⟨p, hp, e⟩ := List.mem_map.mp hm
    have := Heap.lt_size (S.own p hp).1
    rw [e] at this
    exact absurd this (Nat.not_lt.mpr hr)
  have S1 := (S.back0 P).adopt hro hLr hBr hnr
  clear S P hro
  repeat (walk_at "m")
  rename_i a_rd _ h_rd _ a_kp _ h_kp _ oc1 hoc1 _ _ _ _ _ S2
  have W3 := stmt_all (prog := prog) W 3 (by decide)
  have W2 := expr_all (prog := prog) W 2 (by decide)
  refine S_stmt (d := 3) S2 W3 idx2 hrow idx1 (IntsO.nil _) idx0 (IntsO.nil _) (by decide) (by decide) (by decide) (by decide) (by decide) (by decide) hh (by omega) (by omega) ?_
  clear S2 hrow
  intro s3 B2 sv st ro2 ord okp rs ws hst _ hgd hrow hrd hkp hmR hmW hrl hwl hsub S3
  simp only [List.set_cons_zero, List.set_cons_succ, List.nil_append] at S3 hrd hkp
  have hrl : rs.length ≤ 100000 := Nat.le_trans hrl (by decide)
  have hsz : sizeS st ≤ 1000 := by
    have h9 := goodS.size hgd
    have h8 : (3 : Nat) ^ (3 + 1) = 81 := by decide
    omega
  repeat (walk_at "m")
  rename_i a_aw _ h_aw _ oc2 hoc2 a_tr _ h_tr _ _ _ a_rg _ _ _ h_rg S4
  refine S_forRange (n := 8) S4 hh (by decide) (fun i B m σ => Sub B2 B ∧ ∃ tvs tk pa ro as es, σ = [(a_tr, lstO tvs tk), (a_aw, pa), (a_kp, okp), (a_rd, ord), (r, ro), (L + 1, oc1), (L + 1 + 1, oc2)] ∧ RowO ro ∧ IntsO pa as ∧ All2 (TrigIn B) es tvs ∧ (∀ x, x ∈ as ↔ x ∈ es.flatMap keysE) ∧
      tvs.length ≤ i ∧ as.length ≤ i ∧ m "row" = some (.ref r) ∧ m "triggers" = some (.ref a_tr) ∧ m "s" = some sv ∧ m "read" = some (.ref a_rd))
    ⟨fun _ _ h => h, [], _, _, _, [], [], rfl, hrow, IntsO.nil _, .nil, by simp, Nat.le_refl _, Nat.le_refl _, by walk_at "m-loc", by walk_at "m-loc", by walk_at "m-loc", by walk_at "m-loc"⟩ ?_ ?_
  · clear S4
    rintro it i B3 m3 σ3 s4 tki oit hi ⟨hsub3, tvs, tk, pa, ro3, as, es, rfl, hro3, hpa, hes, hmA, htl, hal, k1, k2, k3, k4⟩ S
    repeat' (first | walk_at "m" | walk_at "m-split")
    · rename St _ _ _ _ _ _ => T0
      have T1 := St.ins T0 (by assumption)
      have u0 := St.insSub T0
      have TT := St.ins T1 (by assumption)
      have u1 := St.insSub T1
      have hpair := u1 _ _ (St.insAt T0)
      have hsig := St.insAt T1
      have hT : TrigIn _ (.sig (i : Int)) _ := ⟨_, _, _, rfl, hpair, ⟨_, _, _, _, rfl, hsig⟩, by show 0 ≤ (i : Int) ∧ (i : Int) < 8; omega⟩
      refine ⟨rfl, _, _, _, by walk_at "m-subT", ⟨by walk_at "m-subT", tvs ++ [_], _, _, _, as ++ [(i : Int)], es ++ [.sig i], rfl, by assumption, by assumption, (hes.mono fun _ _ z => TrigIn.mono (by walk_at "m-subT") z).snoc hT, ?_, ?_, ?_, by walk_at "m-loc", by walk_at "m-loc", by walk_at "m-loc", by walk_at "m-loc"⟩, TT⟩
      · intro x; simp [hmA, keysE]
      · simp; omega
      · simp; omega
    · rename St _ _ _ _ _ _ => T0
      have T1 := St.ins T0 (by assumption)
      have u0 := St.insSub T0
      have T2 := St.ins T1 (by assumption)
      have u1 := St.insSub T1
      have TT := St.ins T2 (by assumption)
      have u2 := St.insSub T2
      have hpair := u2 _ _ (u1 _ _ (St.insAt T0))
      have hword := u2 _ _ (St.insAt T1)
      have hconst := St.insAt T2
      have hT : TrigIn _ (.word (i : Int) .const) _ := ⟨_, _, _, rfl, hpair, ⟨_, _, _, _, _, rfl, hword, _, _, _, _, _, rfl, hconst⟩, ⟨⟨by omega, by omega⟩, by decide, trivial⟩⟩
      refine ⟨rfl, _, _, _, by walk_at "m-subT", ⟨by walk_at "m-subT", tvs ++ [_], _, _, _, as ++ [(i : Int)], es ++ [.word i .const], rfl, by assumption, by assumption, (hes.mono fun _ _ z => TrigIn.mono (by walk_at "m-subT") z).snoc hT, ?_, ?_, ?_, by walk_at "m-loc", by walk_at "m-loc", by walk_at "m-loc", by walk_at "m-loc"⟩, TT⟩
      · intro x; simp [hmA, keysE]
      · simp; omega
      · simp; omega
    · rename St _ _ _ _ _ _ => TT
      refine ⟨rfl, _, _, _, by walk_at "m-subT", ⟨by walk_at "m-subT", tvs, _, _, _, as, es, rfl, by assumption, by assumption, hes.mono fun _ _ z => TrigIn.mono (by walk_at "m-subT") z, hmA, by omega, by omega, by walk_at "m-loc", by walk_at "m-loc", by walk_at "m-loc", by walk_at "m-loc"⟩, TT⟩
  · clear S4
    rintro B3 m3 σ3 s4 ⟨hsub3, tvs, tk, pa, ro3, as, es, rfl, hro3, hpa, hes, hmA, htl, hal, k1, k2, k3, k4⟩ S
    refine hqq.go _ _ ?_
    clear hqq
    clear qq
    dsimp only
    refine wpAny_execs_cons (wpAny_mono (Q := fun f s5 => f = .next ∧ ∃ B5 m5 tvs tk pa ro as es, Sub B2 B5 ∧ IntsO pa as ∧ All2 (TrigIn B5) es tvs ∧ (∀ x, x ∈ as ↔ x ∈ es.flatMap keysE) ∧ m5 "triggers" = some (.ref a_tr) ∧ m5 "s" = some sv ∧ m5 "read" = some (.ref a_rd) ∧
      St ⟨G, s0, B0, []⟩ B5 L m5 [(a_tr, lstO tvs tk), (a_aw, pa), (a_kp, okp), (a_rd, ord), (r, ro), (L + 1, oc1), (L + 1 + 1, oc2)] s5) (E := E) ?_ ?_ (fun _ _ h => h))
    · repeat' (first | walk_at "m" | walk_at "m-split")
      · rename_i t1 _ t2 a_m _ h_m _ tx _ _ B4 j tj ro4 hj0 hj1 hro4 hsub4 S5
        have hj : j = 0 ∨ j = 1 := by omega
        obtain ⟨g, hg⟩ : ∃ g, ([.str (Str.ofString "any") t1, .str (Str.ofString "pos") t2] : List Value)[j.toNat]? = some g := by
          rcases hj with rfl | rfl
          · exact ⟨_, rfl⟩
          · exact ⟨_, rfl⟩
        refine S_itemL S5 (by walk_at "m-idx") hj0 (by omega) hg ?_
        repeat (walk_at "m")
        rename_i v5 e5 _ pa5 hv5 _ _ hpa5 _ _ a_t _ h_t _ T0
        have T1 := St.ins T0 (by assumption)
        have u0 := St.insSub T0
        have TT := St.ins T1 (by assumption)
        have u1 := St.insSub T1
        have hpair := u1 _ _ (St.insAt T0)
        have hT : TrigIn _ e5 _ := ⟨_, _, _, rfl, hpair, EIn.mono u1 (EIn.mono u0 hv5)⟩
        refine ⟨rfl, _, _, tvs ++ [_], _, _, _, as ++ keysE e5, es ++ [e5], by walk_at "m-subT", hpa5, (hes.mono fun _ _ z => TrigIn.mono (by walk_at "m-subT") z).snoc hT, ?_, k2, k3, k4, TT⟩
        intro x; simp [hmA]
      · rename St _ _ _ _ _ _ => TT
        exact ⟨rfl, _, _, tvs, _, _, _, as, es, by walk_at "m-subT", hpa, hes.mono fun _ _ z => TrigIn.mono (by walk_at "m-subT") z, hmA, k2, k3, k4, TT⟩
    · clear S hes hpa hro3 hmA k1 k2 k3 k4
      rintro f s5 ⟨rfl, B5, m5, tvs, tk, pa, ro, as, es, hsub5, hpa, hes, hmA, k2, k3, k4, S⟩
      exact law_tail W hfn' rfl S h_tr h_rd hoc1 hoc2 hpa hkp hrd hes (SIn.mono hsub5 hst) hsz hmA hmR hmW hrl k2 k3 k4 hh (by omega) (by omega) hfr hQ
end

end
section
-- the claim
theorem St.start {s₁ : Shared} {h₁ : Heap} {tk₁ : Nat} {m : Str → Option Value} {wa wb : Obj} (F : Fr s₁.heap s₁.heap.objs.size h₁ m) (N0 : News s₁.heap s₁.heap.objs.size h₁ [(s₁.heap.objs.size + 1 + 1, wa), (s₁.heap.objs.size + 1, wb)]) :
    St ⟨s₁.heap, s₁, s₁.heap.get?, []⟩ s₁.heap.get? s₁.heap.objs.size m [(s₁.heap.objs.size + 1, wb), (s₁.heap.objs.size + 1 + 1, wa)] { s₁ with heap := h₁, toks := tk₁ } := by
  refine ⟨F.ns, fun _ _ e => e, Nat.le_refl _, ⟨fun _ _ e => e, fun _ _ e => .inl e, F.keep, fun b o _ e => F.keep b o e, Like.mk _ _ _⟩, ?_, fun p hp => ?_, ?_⟩
  · cases q : s₁.heap.get? s₁.heap.objs.size with
    | none => rfl
    | some o => exact absurd (Heap.lt_size q) (Nat.lt_irrefl _)
  · rcases List.mem_cons.mp hp with rfl | hp
    · have := N0 _ (.tail _ (.head _))
      exact ⟨this.1, this.2.1, this.2.2, .inr (Nat.le_succ _)⟩
    · rcases List.mem_cons.mp hp with rfl | hp
      · have := N0 _ (.head _)
        exact ⟨this.1, this.2.1, this.2.2, .inr (Nat.le_trans (Nat.le_succ _) (Nat.le_succ _))⟩
      · cases hp
  · show ([s₁.heap.objs.size + 1, s₁.heap.objs.size + 1 + 1] : List Nat).Nodup
    simp
theorem holds : PySem.Challenge.rw_on0098_01.Holds := by
  refine hd ?_
  k_fill
  intro w s₀ s₁ mg mb G Y fa o pm cd doc dV kV ho hd hcd hD hmg hg args vals as hpre hlay hrd hwl hlo
  have KX := kIn_of Y
  refine Ground.open G ?_
  intro T B D TE TW
  try (refine guard_noD D (by decide +kernel) ?_; clear D)
  obtain ⟨_, _, M⟩ := bmod_of_top T
  have TA := at_of_top T
  try (obtain ⟨_, _, he, B0⟩ := based_of_top T rfl hmg ho hd; have he' : cd = _ := he; subst he'; clear he)
  clear hmg
  wrow_args hpre hlay hrd hwl hlo
  refine enter_call ?_
  w_top on
  try refine codeAny_mono ?_ (fun _ _ g => GoodW.toG g)
  have K0 := below_caller (Top.heap T)
  w_call any ho hd hcd hD T F
  clear hd TA
  k_drop
  all_goals try k_fold
  rename_i w11 w10 w9 w8 ns hs hlay0 hL1 hr1 hl2 w6 w5 l vs w2 hL ra w1 r0 hI hr hcond1 hcond h₁ tk₁ wa wb left right N0 X0
  clear X0 K0 hr r0 w1 ra hl2 hr1 M TW TE B ho Y G
  have W : Wd w s₁.heap := ⟨KX, mg, mb, topRead_of T⟩
  have S := St.start (tk₁ := tk₁) F N0
  obtain ⟨ol, hol, hlc, nl, hld⟩ := hL
  have hvl : vs.length ≤ 63 := by
    rw [IntsAre.length hI]
    omega
  refine law_walk (fa := _) W (by rfl) rfl S right left (by rfl) hol hlc hld hI hvl rfl ?_ ?_ rfl ?_
  · show callerA.depth + 1 + 50 < recursionLimit
    decide
  · show callerA.units + 3 + 1000 < cLine
    decide
  · intro B' m' σ' s' V
    have hlk : s' = { s₁ with heap := s'.heap, toks := s'.toks } := V.po.lk
    show GoodW _ _ _ _ _ (.ok (.ret (.bool true))) _
    refine goodW_bool ⟨V.ns, fun b o e => V.po.ext b o (fun q => nomatch q) e, V.above⟩ ((congrArg Shared.gens hlk).trans hg) (raisesW_false ?_) ?_ (by rw [hlk])
    · wrow_none_raised
    · wrow_post

end
end Mine
theorem PySem.Challenge.cw_on0098_01_holds : PySem.Challenge.rw_on0098_01.Holds := by
  exact Mine.holds
