import PyProof.Rows.All
import Wide.All
import OpenK.AllK
import Wide.FinOn
import PySem.Challenge.RW_pq0627_01
open PySem PySem.W PyProof.Rows PySem.Calls
set_option Elab.async false
set_option rowWalk.seconds 0
set_option linter.all false
set_option maxRecDepth 100000
set_option maxHeartbeats 8000000
namespace Mine
local macro_rules | `(tactic| walk_at $s:str) => `(tactic| k_extra $s)
local macro_rules | `(tactic| k_all) => `(tactic| with_reducible assumption)
local macro_rules | `(tactic| k_ne) => `(tactic| first | (refine neN ?_; (try dsimp only); k_extra "M ne") | (refine neN ?_; (try dsimp only); omega))
theorem PySem.W.holds_open {r : OpenRow} {q : Program} {loose : List Str} {Xt : Shared → Bool} {XP : (Str → Option Value) → Heap → Prop} {α : Type} {Yf : Shared → α} {Ya : World → α} {YP : World → Heap → Prop} {d : DefRec} {kwd : List (Str × Expr)} {N : Nat}
    (left : ∀ w, (openEnds treeTable r.prog w N).map (fun s => (openSeen q loose (importedModules r.prog.main.body) Xt true s, Yf s)) = some (openGood q loose, Ya w)) (hY : ∀ w s, Yf s = Ya w → YP w s.heap) (hYk : ∀ w h h', YP w h → (∀ b o, h.get? b = some o → h'.get? b = some o) → YP w h')
    (hX : ∀ s, Xt s = true → XP (s.heap.nsMap mainGlobals) s.heap) (hXk : ∀ mg h h', XP mg h → (∀ b o, h.get? b = some o → h'.get? b = some o) → XP mg h')
    (hdef : defOf q r.name = some (d, kwd)) (hp : r.prog.theDef r.name = some (d.params, d.body, d.scope)) (hk : kwWritten? d.params.kwonlyargs d.params.kw_defaults = some kwd) (hRf : ∀ s, Xt s = true → RecFacts r.records s.heap) (hwr : (!r.writes || r.records.isEmpty) = true)
    (k1 : r.wellSaid = true) (ok : (chainsOk q && opensWell r.prog && (frees r.toRowW && r.within.isEmpty)) = true) (hb : r.prog.bare) (hw : r.toRowW.promised)
    (call : WalkO q loose XP YP r.toRowW d kwd fun f vs => PySem.call f vs) : r.Holds :=
  _root_.PySem.W.holds_open left hY hYk hX hXk hdef hp hk hRf hwr k1 ok hb hw call
theorem said : OpenLaw.wellSaid PySem.Challenge.rw_pq0627_01 = true := by
  show OpenLaw.wellSaid _ = true
  unfold OpenLaw.wellSaid OpenRow.wellSaid OpenRow.partSaid
  with_reducible (repeat' (refine look_both ?_ ?_))
  all_goals decide +kernel
local macro_rules | `(tactic| o_law) => `(tactic| refine holds_law said fun said => ?_)
set_option maxRecDepth 100000 in
set_option maxHeartbeats 8000000 in
open_top hd for PySem.Challenge.rw_pq0627_01
local macro_rules | `(tactic| k_qdec) => `(tactic| decide +kernel)
theorem kreg1 : True := by
  w_top off
  k_with "M ne" => (first | (with_reducible assumption) | (with_reducible exact Ne.symm (by assumption)) | (with_reducible exact Nat.ne_of_lt (by assumption)) | (with_reducible exact Nat.ne_of_gt (by assumption)) | (k_extra "M nec"))
  k_with "M nec" => (first | ((rename (_ < _) ∧ _ => hc9); first | (with_reducible exact Nat.ne_of_lt hc9.1) | (with_reducible exact Nat.ne_of_gt hc9.1) | (with_reducible exact Nat.ne_of_lt hc9) | (with_reducible exact Nat.ne_of_gt hc9) | (with_reducible exact Nat.ne_of_lt hc9.2.1) | (with_reducible exact Nat.ne_of_gt hc9.2.1) | (with_reducible exact Nat.ne_of_lt hc9.2) | (with_reducible exact Nat.ne_of_gt hc9.2) | (with_reducible exact Nat.ne_of_lt hc9.2.2.1) | (with_reducible exact Nat.ne_of_gt hc9.2.2.1) | (with_reducible exact Nat.ne_of_lt hc9.2.2) | (with_reducible exact Nat.ne_of_gt hc9.2.2) | (with_reducible exact Nat.ne_of_lt hc9.2.2.2.1) | (with_reducible exact Nat.ne_of_gt hc9.2.2.2.1) | (with_reducible exact Nat.ne_of_lt hc9.2.2.2) | (with_reducible exact Nat.ne_of_gt hc9.2.2.2) | (with_reducible exact Nat.ne_of_lt hc9.2.2.2.2.1) | (with_reducible exact Nat.ne_of_gt hc9.2.2.2.2.1) | (with_reducible exact Nat.ne_of_lt hc9.2.2.2.2) | (with_reducible exact Nat.ne_of_gt hc9.2.2.2.2) | (with_reducible exact Nat.ne_of_lt hc9.2.2.2.2.2.1) | (with_reducible exact Nat.ne_of_gt hc9.2.2.2.2.2.1) | (with_reducible exact Nat.ne_of_lt hc9.2.2.2.2.2) | (with_reducible exact Nat.ne_of_gt hc9.2.2.2.2.2) | (with_reducible exact Nat.ne_of_lt hc9.2.2.2.2.2.2.1) | (with_reducible exact Nat.ne_of_gt hc9.2.2.2.2.2.2.1) | (with_reducible exact Nat.ne_of_lt hc9.2.2.2.2.2.2) | (with_reducible exact Nat.ne_of_gt hc9.2.2.2.2.2.2) | (with_reducible exact Nat.ne_of_lt hc9.2.2.2.2.2.2.2.1) | (with_reducible exact Nat.ne_of_gt hc9.2.2.2.2.2.2.2.1) | (with_reducible exact Nat.ne_of_lt hc9.2.2.2.2.2.2.2) | (with_reducible exact Nat.ne_of_gt hc9.2.2.2.2.2.2.2) | (with_reducible exact Nat.ne_of_lt hc9.2.2.2.2.2.2.2.2.1) | (with_reducible exact Nat.ne_of_gt hc9.2.2.2.2.2.2.2.2.1) | (with_reducible exact Nat.ne_of_lt hc9.2.2.2.2.2.2.2.2) | (with_reducible exact Nat.ne_of_gt hc9.2.2.2.2.2.2.2.2) | (with_reducible exact Nat.ne_of_lt hc9.2.2.2.2.2.2.2.2.2.1) | (with_reducible exact Nat.ne_of_gt hc9.2.2.2.2.2.2.2.2.2.1) | (with_reducible exact Nat.ne_of_lt hc9.2.2.2.2.2.2.2.2.2) | (with_reducible exact Nat.ne_of_gt hc9.2.2.2.2.2.2.2.2.2) | (with_reducible exact Nat.ne_of_lt hc9.2.2.2.2.2.2.2.2.2.2.1) | (with_reducible exact Nat.ne_of_gt hc9.2.2.2.2.2.2.2.2.2.2.1) | (with_reducible exact Nat.ne_of_lt hc9.2.2.2.2.2.2.2.2.2.2) | (with_reducible exact Nat.ne_of_gt hc9.2.2.2.2.2.2.2.2.2.2) | (with_reducible exact Nat.ne_of_lt hc9.2.2.2.2.2.2.2.2.2.2.2.1) | (with_reducible exact Nat.ne_of_gt hc9.2.2.2.2.2.2.2.2.2.2.2.1) | (with_reducible exact Nat.ne_of_lt hc9.2.2.2.2.2.2.2.2.2.2.2) | (with_reducible exact Nat.ne_of_gt hc9.2.2.2.2.2.2.2.2.2.2.2) | (with_reducible exact Nat.ne_of_lt hc9.2.2.2.2.2.2.2.2.2.2.2.2.1) | (with_reducible exact Nat.ne_of_gt hc9.2.2.2.2.2.2.2.2.2.2.2.2.1) | (with_reducible exact Nat.ne_of_lt hc9.2.2.2.2.2.2.2.2.2.2.2.2) | (with_reducible exact Nat.ne_of_gt hc9.2.2.2.2.2.2.2.2.2.2.2.2) | (with_reducible exact Nat.ne_of_lt hc9.2.2.2.2.2.2.2.2.2.2.2.2.2.1) | (with_reducible exact Nat.ne_of_gt hc9.2.2.2.2.2.2.2.2.2.2.2.2.2.1) | (with_reducible exact Nat.ne_of_lt hc9.2.2.2.2.2.2.2.2.2.2.2.2.2) | (with_reducible exact Nat.ne_of_gt hc9.2.2.2.2.2.2.2.2.2.2.2.2.2) | (clear hc9; k_extra "M nec")) | ((rename (_ ≠ _) ∧ _ => hc9); first | (with_reducible exact hc9.1) | (with_reducible exact Ne.symm hc9.1) | (with_reducible exact hc9) | (with_reducible exact Ne.symm hc9) | (with_reducible exact hc9.2.1) | (with_reducible exact Ne.symm hc9.2.1) | (with_reducible exact hc9.2) | (with_reducible exact Ne.symm hc9.2) | (with_reducible exact hc9.2.2.1) | (with_reducible exact Ne.symm hc9.2.2.1) | (with_reducible exact hc9.2.2) | (with_reducible exact Ne.symm hc9.2.2) | (with_reducible exact hc9.2.2.2.1) | (with_reducible exact Ne.symm hc9.2.2.2.1) | (with_reducible exact hc9.2.2.2) | (with_reducible exact Ne.symm hc9.2.2.2) | (with_reducible exact hc9.2.2.2.2.1) | (with_reducible exact Ne.symm hc9.2.2.2.2.1) | (with_reducible exact hc9.2.2.2.2) | (with_reducible exact Ne.symm hc9.2.2.2.2) | (with_reducible exact hc9.2.2.2.2.2.1) | (with_reducible exact Ne.symm hc9.2.2.2.2.2.1) | (with_reducible exact hc9.2.2.2.2.2) | (with_reducible exact Ne.symm hc9.2.2.2.2.2) | (with_reducible exact hc9.2.2.2.2.2.2.1) | (with_reducible exact Ne.symm hc9.2.2.2.2.2.2.1) | (with_reducible exact hc9.2.2.2.2.2.2) | (with_reducible exact Ne.symm hc9.2.2.2.2.2.2) | (with_reducible exact hc9.2.2.2.2.2.2.2.1) | (with_reducible exact Ne.symm hc9.2.2.2.2.2.2.2.1) | (with_reducible exact hc9.2.2.2.2.2.2.2) | (with_reducible exact Ne.symm hc9.2.2.2.2.2.2.2) | (with_reducible exact hc9.2.2.2.2.2.2.2.2.1) | (with_reducible exact Ne.symm hc9.2.2.2.2.2.2.2.2.1) | (with_reducible exact hc9.2.2.2.2.2.2.2.2) | (with_reducible exact Ne.symm hc9.2.2.2.2.2.2.2.2) | (with_reducible exact hc9.2.2.2.2.2.2.2.2.2.1) | (with_reducible exact Ne.symm hc9.2.2.2.2.2.2.2.2.2.1) | (with_reducible exact hc9.2.2.2.2.2.2.2.2.2) | (with_reducible exact Ne.symm hc9.2.2.2.2.2.2.2.2.2) | (with_reducible exact hc9.2.2.2.2.2.2.2.2.2.2.1) | (with_reducible exact Ne.symm hc9.2.2.2.2.2.2.2.2.2.2.1) | (with_reducible exact hc9.2.2.2.2.2.2.2.2.2.2) | (with_reducible exact Ne.symm hc9.2.2.2.2.2.2.2.2.2.2) | (with_reducible exact hc9.2.2.2.2.2.2.2.2.2.2.2.1) | (with_reducible exact Ne.symm hc9.2.2.2.2.2.2.2.2.2.2.2.1) | (with_reducible exact hc9.2.2.2.2.2.2.2.2.2.2.2) | (with_reducible exact Ne.symm hc9.2.2.2.2.2.2.2.2.2.2.2) | (with_reducible exact hc9.2.2.2.2.2.2.2.2.2.2.2.2.1) | (with_reducible exact Ne.symm hc9.2.2.2.2.2.2.2.2.2.2.2.2.1) | (with_reducible exact hc9.2.2.2.2.2.2.2.2.2.2.2.2) | (with_reducible exact Ne.symm hc9.2.2.2.2.2.2.2.2.2.2.2.2) | (with_reducible exact hc9.2.2.2.2.2.2.2.2.2.2.2.2.2.1) | (with_reducible exact Ne.symm hc9.2.2.2.2.2.2.2.2.2.2.2.2.2.1) | (with_reducible exact hc9.2.2.2.2.2.2.2.2.2.2.2.2.2) | (with_reducible exact Ne.symm hc9.2.2.2.2.2.2.2.2.2.2.2.2.2) | (clear hc9; k_extra "M nec")) | ((rename ((_ ≠ _) ∧ _) ∧ _ => hc9); first | (with_reducible exact hc9.1.1) | (with_reducible exact Ne.symm hc9.1.1) | (with_reducible exact hc9.1.2.1) | (with_reducible exact Ne.symm hc9.1.2.1) | (with_reducible exact hc9.1.2.2) | (with_reducible exact Ne.symm hc9.1.2.2) | (with_reducible exact hc9.1) | (with_reducible exact Ne.symm hc9.1) | (with_reducible exact hc9.2.1) | (with_reducible exact Ne.symm hc9.2.1) | (with_reducible exact hc9.2.2) | (with_reducible exact Ne.symm hc9.2.2) | (with_reducible exact hc9.2.1.1) | (with_reducible exact Ne.symm hc9.2.1.1) | (with_reducible exact hc9.2.1.2.1) | (with_reducible exact Ne.symm hc9.2.1.2.1) | (with_reducible exact hc9.2.1.2.2) | (with_reducible exact Ne.symm hc9.2.1.2.2) | (with_reducible exact hc9.2.2.1) | (with_reducible exact Ne.symm hc9.2.2.1) | (with_reducible exact hc9.2.2.2) | (with_reducible exact Ne.symm hc9.2.2.2) | (with_reducible exact hc9.2.2.1.1) | (with_reducible exact Ne.symm hc9.2.2.1.1) | (with_reducible exact hc9.2.2.1.2.1) | (with_reducible exact Ne.symm hc9.2.2.1.2.1) | (with_reducible exact hc9.2.2.1.2.2) | (with_reducible exact Ne.symm hc9.2.2.1.2.2) | (with_reducible exact hc9.2.2.2.1) | (with_reducible exact Ne.symm hc9.2.2.2.1) | (with_reducible exact hc9.2.2.2.2) | (with_reducible exact Ne.symm hc9.2.2.2.2) | (with_reducible exact hc9.2.2.2.1.1) | (with_reducible exact Ne.symm hc9.2.2.2.1.1) | (with_reducible exact hc9.2.2.2.1.2.1) | (with_reducible exact Ne.symm hc9.2.2.2.1.2.1) | (with_reducible exact hc9.2.2.2.1.2.2) | (with_reducible exact Ne.symm hc9.2.2.2.1.2.2) | (with_reducible exact hc9.2.2.2.2.1) | (with_reducible exact Ne.symm hc9.2.2.2.2.1) | (with_reducible exact hc9.2.2.2.2.2) | (with_reducible exact Ne.symm hc9.2.2.2.2.2) | (with_reducible exact hc9.2.2.2.2.1.1) | (with_reducible exact Ne.symm hc9.2.2.2.2.1.1) | (with_reducible exact hc9.2.2.2.2.1.2.1) | (with_reducible exact Ne.symm hc9.2.2.2.2.1.2.1) | (with_reducible exact hc9.2.2.2.2.1.2.2) | (with_reducible exact Ne.symm hc9.2.2.2.2.1.2.2) | (with_reducible exact hc9.2.2.2.2.2.1) | (with_reducible exact Ne.symm hc9.2.2.2.2.2.1) | (with_reducible exact hc9.2.2.2.2.2.2) | (with_reducible exact Ne.symm hc9.2.2.2.2.2.2) | (with_reducible exact hc9.2.2.2.2.2.1.1) | (with_reducible exact Ne.symm hc9.2.2.2.2.2.1.1) | (with_reducible exact hc9.2.2.2.2.2.1.2.1) | (with_reducible exact Ne.symm hc9.2.2.2.2.2.1.2.1) | (with_reducible exact hc9.2.2.2.2.2.1.2.2) | (with_reducible exact Ne.symm hc9.2.2.2.2.2.1.2.2) | (with_reducible exact hc9.2.2.2.2.2.2.1) | (with_reducible exact Ne.symm hc9.2.2.2.2.2.2.1) | (with_reducible exact hc9.2.2.2.2.2.2.2) | (with_reducible exact Ne.symm hc9.2.2.2.2.2.2.2) | (with_reducible exact hc9.2.2.2.2.2.2.1.1) | (with_reducible exact Ne.symm hc9.2.2.2.2.2.2.1.1) | (with_reducible exact hc9.2.2.2.2.2.2.1.2.1) | (with_reducible exact Ne.symm hc9.2.2.2.2.2.2.1.2.1) | (with_reducible exact hc9.2.2.2.2.2.2.1.2.2) | (with_reducible exact Ne.symm hc9.2.2.2.2.2.2.1.2.2) | (with_reducible exact hc9.2.2.2.2.2.2.2.1) | (with_reducible exact Ne.symm hc9.2.2.2.2.2.2.2.1) | (with_reducible exact hc9.2.2.2.2.2.2.2.2) | (with_reducible exact Ne.symm hc9.2.2.2.2.2.2.2.2) | (with_reducible exact hc9.2.2.2.2.2.2.2.1.1) | (with_reducible exact Ne.symm hc9.2.2.2.2.2.2.2.1.1) | (with_reducible exact hc9.2.2.2.2.2.2.2.1.2.1) | (with_reducible exact Ne.symm hc9.2.2.2.2.2.2.2.1.2.1) | (with_reducible exact hc9.2.2.2.2.2.2.2.1.2.2) | (with_reducible exact Ne.symm hc9.2.2.2.2.2.2.2.1.2.2) | (with_reducible exact hc9.2.2.2.2.2.2.2.2.1) | (with_reducible exact Ne.symm hc9.2.2.2.2.2.2.2.2.1) | (with_reducible exact hc9.2.2.2.2.2.2.2.2.2) | (with_reducible exact Ne.symm hc9.2.2.2.2.2.2.2.2.2) | (with_reducible exact hc9.2.2.2.2.2.2.2.2.1.1) | (with_reducible exact Ne.symm hc9.2.2.2.2.2.2.2.2.1.1) | (with_reducible exact hc9.2.2.2.2.2.2.2.2.1.2.1) | (with_reducible exact Ne.symm hc9.2.2.2.2.2.2.2.2.1.2.1) | (with_reducible exact hc9.2.2.2.2.2.2.2.2.1.2.2) | (with_reducible exact Ne.symm hc9.2.2.2.2.2.2.2.2.1.2.2) | (with_reducible exact hc9.2.2.2.2.2.2.2.2.2.1) | (with_reducible exact Ne.symm hc9.2.2.2.2.2.2.2.2.2.1) | (with_reducible exact hc9.2.2.2.2.2.2.2.2.2.2) | (with_reducible exact Ne.symm hc9.2.2.2.2.2.2.2.2.2.2) | (with_reducible exact hc9.2.2.2.2.2.2.2.2.2.1.1) | (with_reducible exact Ne.symm hc9.2.2.2.2.2.2.2.2.2.1.1) | (with_reducible exact hc9.2.2.2.2.2.2.2.2.2.1.2.1) | (with_reducible exact Ne.symm hc9.2.2.2.2.2.2.2.2.2.1.2.1) | (with_reducible exact hc9.2.2.2.2.2.2.2.2.2.1.2.2) | (with_reducible exact Ne.symm hc9.2.2.2.2.2.2.2.2.2.1.2.2) | (with_reducible exact hc9.2.2.2.2.2.2.2.2.2.2.1) | (with_reducible exact Ne.symm hc9.2.2.2.2.2.2.2.2.2.2.1) | (with_reducible exact hc9.2.2.2.2.2.2.2.2.2.2.2) | (with_reducible exact Ne.symm hc9.2.2.2.2.2.2.2.2.2.2.2) | (with_reducible exact hc9.2.2.2.2.2.2.2.2.2.2.1.1) | (with_reducible exact Ne.symm hc9.2.2.2.2.2.2.2.2.2.2.1.1) | (with_reducible exact hc9.2.2.2.2.2.2.2.2.2.2.1.2.1) | (with_reducible exact Ne.symm hc9.2.2.2.2.2.2.2.2.2.2.1.2.1) | (with_reducible exact hc9.2.2.2.2.2.2.2.2.2.2.1.2.2) | (with_reducible exact Ne.symm hc9.2.2.2.2.2.2.2.2.2.2.1.2.2) | (with_reducible exact hc9.2.2.2.2.2.2.2.2.2.2.2.1) | (with_reducible exact Ne.symm hc9.2.2.2.2.2.2.2.2.2.2.2.1) | (with_reducible exact hc9.2.2.2.2.2.2.2.2.2.2.2.2) | (with_reducible exact Ne.symm hc9.2.2.2.2.2.2.2.2.2.2.2.2) | (clear hc9; k_extra "M nec")))
  exact True.intro
noncomputable abbrev lo : List Str := looseW Mine.hd.view_1 [Str.ofString "ARGUMENTS"]
noncomputable abbrev tupOf (vs : List Value) : Obj := { cls := .type "tuple", data := .seq vs.toArray 0 }
noncomputable abbrev penObj (n c : Int) (t u : Tok) (k : Nat) : Obj := listOf [Value.int n t, Value.int c u].toArray k

/-- all but what stands in W is kept -/
noncomputable def KeepBut (W : List Addr) (h h' : Heap) : Prop := ∀ b o, b ∉ W → h.get? b = some o → h'.get? b = some o
theorem KeepBut.refl {W : List Addr} {h : Heap} : KeepBut W h h := fun _ _ _ e => e
theorem KeepBut.trans {W : List Addr} {h h' h'' : Heap} (a : KeepBut W h h') (b : KeepBut W h' h'') : KeepBut W h h'' := fun x o hx e => b x o hx (a x o hx e)
theorem keep_of {H g h' : Heap} {L' : Addr} {m' : Str → Option Value} {W : List Addr} (G : GSub H g W) (F' : Fr g L' h' m') : KeepBut W H h' := fun b o hb e => F'.keep b o (G b o e hb)
theorem keep_sub {W W' : List Addr} {h h' : Heap} (K : KeepBut W h h') (s : ∀ a ∈ W, a ∈ W') : KeepBut W' h h' := fun b o hb e => K b o (fun q => hb (s b q)) e
theorem fr_keep {h₀ h h' : Heap} {L : Addr} {m : Str → Option Value} {W : List Addr} (F : Fr h₀ L h m) (K : KeepBut W h h') (hL : L ∉ W) (h0 : ∀ a ∈ W, h₀.get? a = none) : Fr h₀ L h' m :=
  ⟨F.ns.at' fun o e => K L o hL e, fun b o e => K b o (fun q => by rw [h0 b q] at e; cases e) (F.keep b o e), F.above⟩
theorem news_keep {h₀ h h' : Heap} {L d : Addr} {o o' : Obj} {news : List (Addr × Obj)} {g : Obj → List (Addr × Obj)} (N : News h₀ L h news) (U : UpdF d o news g) (K : KeepBut [d] h h') (e : h'.get? d = some o') : News h₀ L h' (g o') := by
  obtain ⟨pre, post, rfl, hg, a, b⟩ := U.split
  rw [hg]
  have hD := N (d, o) (List.mem_append_right _ (.head _))
  intro p hp
  rcases List.mem_append.mp hp with q | q
  · exact ⟨K _ _ (by simpa using a p q) (N p (List.mem_append_left _ q)).1, (N p (List.mem_append_left _ q)).2⟩
  · rcases List.mem_cons.mp q with rfl | q
    · exact ⟨e, hD.2⟩
    · exact ⟨K _ _ (by simpa using b p q) (N p (List.mem_append_right _ (.tail _ q))).1, (N p (List.mem_append_right _ (.tail _ q))).2⟩
theorem upd_mem {d : Addr} {o : Obj} {news : List (Addr × Obj)} {g : Obj → List (Addr × Obj)} (U : UpdF d o news g) : (d, o) ∈ news := by
  obtain ⟨pre, post, rfl, hg, a, b⟩ := U.split
  exact List.mem_append_right _ (.head _)
theorem fr_keep1 {h₀ h h' : Heap} {L d : Addr} {o : Obj} {m : Str → Option Value} {news : List (Addr × Obj)} (F : Fr h₀ L h m) (N : News h₀ L h news) (hm : (d, o) ∈ news) (K : KeepBut [d] h h') : Fr h₀ L h' m :=
  fr_keep F K (by simpa using fun e => (N _ hm).2.1 e.symm) (fun a ha => by rw [List.mem_singleton.mp ha]; exact (N _ hm).2.2)

theorem divmod_K {prog : Program} {w : World} {A : Around} {E : Value → Shared → Prop} {s : Shared} {x y : Int} {t u : Tok} {Q : Value → Shared → Prop} {h₀ : Heap} {L : Addr} {m : Str → Option Value} {news : List (Addr × Obj)} (F : Fr h₀ L s.heap m) (N : News h₀ L s.heap news) (hb : y ≠ 0)
    (hp : Builtin.divisionGoesByPylong x y = false)
    (h : ∀ D h' t1 t2, Fr h₀ L h' m → News h₀ L h' ((D, tupOf [.int (x.fdiv y) t1, .int (x.fmod y) t2]) :: news) → (∀ p ∈ news, p.1 < D) →
      Q (.ref D) { s with toks := s.toks + 1 + 1, heap := h' }) :
    wpAny (model prog w) A (call (.builtin "divmod") [.int x t, .int y u]) Q E s :=
  divmod_N F N hb (fun h' F' N' => h _ h' _ _ F' N' fun p hp => Heap.lt_size (N p hp).1) (.inl hp)


theorem keep_led {H g h' h₀ h₁ : Heap} {L L₁ L' : Addr} {m' : Str → Option Value} {W : List Addr} {news news' : List (Addr × Obj)} (G : GSub H g (news.map (·.1))) (F' : Fr g L' h' m') (N : News h₀ L H news) (N' : News h₁ L₁ h' news')
    (hs : ∀ p ∈ news, p.1 ∉ W → p ∈ news') : KeepBut W H h' := fun b o hb e => by
  by_cases hm : b ∈ news.map (·.1)
  · obtain ⟨p, hp, rfl⟩ := List.mem_map.mp hm
    have h1 := (N p hp).1
    rw [e] at h1
    cases h1
    exact (N' p (hs p hp hb)).1
  · exact F'.keep b o (G b o e hm)

/-- entering a def whose locals are captured: besides the library's facts, what the ground keeps of the heap at the call -/
theorem enterCells {prog : Program} {w : World} {A₀ A : Around} {s : Shared} {base h₀ : Heap} {outer : List Env} {L : Addr} {m : Str → Option Value} {env : Env} {news : List (Addr × Obj)}
    {K : Frag} {p : Program} {loose : List Str} {mean : ExcName → Option Value} {mg mb : Str → Option Value} {R : Result → Shared → Prop} {name qual : Str} {params : Arguments} {body : List Stmt} {scope : Scope} {dV kV doc pm cdv ct oc : Value} {an od : Option Addr} {osl : Array (Option Value)} {f : Addr} {args : Args} {binds : List (Str × Value)}
    (B : Below A₀ base outer h₀) (F : Fr h₀ L s.heap m) (X₀ : K.In h₀) (N : News h₀ L s.heap news) (T : Top p loose mean mg mb h₀) (hA : A.frames = some (env :: outer)) (hf : env.frame = some L) (hke : env.scope.kind = .function)
    (ho : K.lookup f = some ⟨oc, od, .func (fnOf name qual params body scope dV kV doc pm an cdv ct), osl⟩) (hcd : codeIn K cdv qual = true) (hroom : A.depth < recursionLimit)
    (hbind : BindsTo s (fnOf name qual params body scope dV kV doc pm an cdv ct) args binds) (hkind : (binds.all fun y => scope.names.lookup y.1 == some .local || scope.names.lookup y.1 == some .cell) = true)
    (hnd : ((cellsFrom 0 scope.names []).map (·.1)).Nodup)
    (h : ∀ g L' h₁ tk cells, Fr h₀ L g m → Fr g L' h₁ (bindL (envOfC qual scope L' f cdv).kindOf binds fun _ => none) → News g L' h₁ (cells ++ news) →
      CellsAre (bindC (envOfC qual scope L' f cdv).kindOf binds fun _ => none) (cellsFrom (L' + 1) scope.names []) cells → Below A base (env :: outer) g → K.In g → Top p loose mean mg mb g → GSub s.heap g (news.map (·.1)) → (∀ p ∈ news, p.1 < L') → (∀ p ∈ cells, L' < p.1) →
      wpAny (model prog w) (A.deeper (envOfC qual scope L' f cdv)) (execs body (envOfC qual scope L' f cdv))
        (fun fl s' => LeaveK h₀ L m g R (match fl with | .ret v => v | _ => .none) s')
        (fun e s' => wpAny (model prog w) (A.deeper (envOfC qual scope L' f cdv)) (leaving (envOfC qual scope L' f cdv) e) (fun _ s'' => R (.error e) s'') (fun e' s'' => R (.error e') s'') s')
        { s with heap := h₁, toks := tk })
    (hco : scope.isCoroutine = false) (hgen : scope.isGenerator = false) (hk : scope.kind = .function) : codeAny (model prog w) A (.call (.ref f) args) R s := by
  have ground := groundX (R := R) B F N hA hf hke
  generalize hG : hideAll s.heap (news.map (·.1)) = G at ground
  obtain ⟨FG, BG, st, back⟩ := ground
  have kept : GSub s.heap G (news.map (·.1)) := fun b o e n => hG ▸ hideAll_get _ e n
  have old : ∀ b o, G.get? b = some o → s.heap.get? b = some o := fun b o e => of_hideAll _ (hG ▸ e)
  have size : G.objs.size = s.heap.objs.size := hG ▸ hideAll_size _ _
  have gone : ∀ q ∈ news, G.get? q.1 = none := fun q hq => hG ▸ hideAll_none _ (List.mem_map_of_mem hq)
  refine codeAny_call_function (fd := fnX name qual params body scope [] dV kV doc pm an cdv ct) hroom ((X₀.keeps F.keep) _ _ ho) rfl hco hgen rfl (codeRec_of (X₀.keeps F.keep) hcd) (hbind _ _ _ _ (wpAny_newFunctionEnv_cells hk (kindsX hkind _) ?_))
  intro env' he s' inside
  subst he
  refine ⟨(T.nolimit.keeps F.keep).keeps inside.toInCall.keep, codeAny_func ?_⟩
  obtain ⟨h₁, tk, rfl, _⟩ := inside.done
  have stays := inside.toInCall.keep
  have cellAt : ∀ n c, (n, c) ∈ cellsFrom (s.heap.objs.size + 1) scope.names [] → _ := fun n c hm => And.intro (inside.cell n c (lookup_of_mem_nodup (cellsFrom_names scope.names 0 (s.heap.objs.size + 1) [] [] rfl ▸ hnd) hm)) (inside.above n c hm)
  obtain ⟨cells, NC, Y⟩ := Cl.news (h₀ := s.heap) (Nat.le_refl _) cellAt
  have NB : News G s.heap.objs.size h₁ (cells ++ news) := by
    intro q hq
    rcases List.mem_append.mp hq with hc | hn
    · obtain ⟨c1, c2, c3⟩ := NC q hc
      refine ⟨c1, c2, Option.eq_none_iff_forall_not_mem.mpr fun o ho' => ?_⟩
      rw [old _ _ ho'] at c3
      cases c3
    · exact ⟨stays _ _ (N q hn).1, Nat.ne_of_lt (Heap.lt_size (N q hn).1), gone q hn⟩
  have up : ∀ q ∈ cells, s.heap.objs.size < q.1 := by
    intro q hq
    have c3 := (NC q hq).2
    rcases Nat.lt_trichotomy s.heap.objs.size q.1 with hlt | heq | hgt
    · exact hlt
    · exact absurd heq.symm c3.1
    · exfalso
      clear h
      have : ∀ {cs : List (Str × Addr)} {cm : Str → Option Value} {cl : List (Addr × Obj)}, CellsAre cm cs cl → ∀ q ∈ cl, ∃ n, (n, q.1) ∈ cs := by
        intro cs cm cl hY
        induction hY with
        | nil => intro q hq; cases hq
        | cons _ _ ih =>
          intro q hq
          rcases List.mem_cons.mp hq with rfl | hq
          · exact ⟨_, List.mem_cons_self⟩
          · obtain ⟨n, hn⟩ := ih q hq
            exact ⟨n, List.mem_cons_of_mem _ hn⟩
      obtain ⟨n, hn⟩ := this Y q hq
      exact absurd (inside.above n q.1 hn) (Nat.not_lt.mpr (Nat.le_of_lt hgt))
  refine wpAny_mono (h G s.heap.objs.size h₁ tk cells FG ⟨inside.toInCall.ns, fun b o e => stays b o (old b o e), Nat.le_of_eq size⟩ NB Y BG (X₀.keeps st) (T.keeps st) kept (fun q hq => Heap.lt_size (N q hq).1) up) (fun fl s' hl => back _ _ hl) fun _ _ y => y

theorem kreg2 : True := by
  w_top off
  k_with "M enter" => ((refine' code_defG ?k1 ?k2 ?k3 ?k4 ?k5 ?kA ?kF ?kK ?k6 ?k7 ?k8 ?k9 ?kB ?_ ?c2 ?c3 ?c4 ?c5; (case kA => exact rfl); (case kF => exact rfl); (case kK => first | assumption | exact rfl); (case k1 => k_asm); (case k2 => k_asm); (case k3 => k_asm); (case k4 => k_asm); (case k5 => k_asm); (case k6 => k_is); (case k7 => k_is); (case k8 => ktr_room); (case k9 => exact BindsTo.of_eq rfl); (case c5 => decide); (case kB => exact locs rfl); (case c2 => exact rfl); (case c3 => exact rfl); (case c4 => exact rfl); k_whole; intro g' L' h' FG' F' N' B' X' T' kG'; (try dsimp only at F' N' kG' ⊢); (try k_fold)))
  k_with "M enterC" => ((refine' enterCells ?k1 ?k2 ?k3 ?k4 ?k5 ?kA ?kF ?kK ?k6 ?k7 ?k8 ?k9 ?kB ?kD ?_ ?c2 ?c3 ?c4; (case kA => exact rfl); (case kF => exact rfl); (case kK => first | assumption | exact rfl); (case k1 => k_asm); (case k2 => k_asm); (case k3 => k_asm); (case k4 => k_asm); (case k5 => k_asm); (case k6 => k_is); (case k7 => k_is); (case k8 => ktr_room); (case k9 => exact BindsTo.of_eq rfl); (case kB => exact rfl); (case kD => decide +kernel); (case c2 => exact rfl); (case c3 => exact rfl); (case c4 => exact rfl); k_whole; intro g' L' h' tk' cells' FG' F' N' Y' B' X' T' kG' l1 l2; (try k_lt l1); k_cells Y'; (try simp only [List.cons_append, List.nil_append] at N'); (try dsimp only at F' N' kG' ⊢); (try k_fold)))
  k_with "M sub" => ((first | exact List.forall_mem_nil _ | (refine List.forall_mem_cons.mpr ⟨?kms1, ?kms2⟩; (case kms1 => (intro hW; first | k_mem | (refine (hW ?_).elim; k_mem))); (case kms2 => k_extra "M sub"))))
  k_with "subscriptTail Name Constant ref int" => ((k_here; (with_reducible show wpAny _ _ (subscriptTail _ _ (Value.ref _) (Value.int _ _)) _ _ _); kim_at))
  k_with "call builtin:divmod" => ((k_here; (with_reducible show wpAny _ _ (call (Value.builtin _) [Value.int _ _, Value.int _ _]) _ _ _); k_dflt (refine' divmod_K ?k1 ?k2 ?k3 ?k4 ?_; (case k1 => k_asm); (case k2 => k_asm); (case k3 => omega); (case k4 => exact PyProof.noPylong_small (by omega)); k_whole); intro D' h' t1 t2 F' N' l1; (try k_lt l1); (try k_sweep)))
  exact True.intro
theorem draw_ok {w : World} {mean : ExcName → Option Value} {mg mb : Str → Option Value} {dp un : Nat} {gd : Option (List Code)} {cn : Str} {cs : Scope} {a : Addr} {ccd : Value} {cl : List (Str × Addr)} {outer : List Env} {A₀ : Around} {base h₀ : Heap} {L : Addr} {m : Str → Option Value} {s : Shared} {Q E : Value → Shared → Prop}
  {pen : Addr} {n c many : Int} {t u v : Tok} {k : Nat}
  (B : Below A₀ base outer h₀) (F : Fr h₀ L s.heap m) (X : (Mine.hd.heap_1 w.params).In h₀) (N : News h₀ L s.heap [(pen, penObj n c t u k)]) (T : Top Mine.hd.view_1 lo mean mg mb h₀) (hk : cs.kind = .function)
  (hd : dp + 1 < recursionLimit)
  (hn : 0 ≤ n) (hc : 0 ≤ c) (hc2 : c < 1000) (hm : 0 < many) (hm2 : many < 100)
  (hret : ∀ h' tk n' c' t' u' k' d td, KeepBut [pen] s.heap h' → h'.get? pen = some (penObj n' c' t' u' k') → 0 ≤ n' → c ≤ c' → c' ≤ c + 1 → 0 ≤ d → d < many → Q (.int d td) { s with heap := h', toks := tk }) :
  wpAny (model PySem.Challenge.rw_pq0627_01.row.prog w) (ktrTop dp un gd cn cs L a ccd cl outer) (call (.ref 107) [.ref pen, .int many v]) Q E s := by
  revert X; k_fill; intro X
  refine wpAny_call ?_
  k_dflt (k_extra "M enter")
  k_steps
  all_goals (
    (rename News h₀ L _ _ => kN)
    (have kP := (kN (pen, _) (by k_mem)).1)
    refine hret _ _ _ _ _ _ _ _ _ (keep_of kG' (by assumption)) kP ?_ ?_ ?_ ?_ ?_
    · exact Int.fdiv_nonneg (by first | omega | exact Int.pow_nonneg (by omega)) (by omega)
    · omega
    · omega
    · exact fmod_lo _ hm
    · exact fmod_hi _ hm)


theorem draw_use {w : World} {mean : ExcName → Option Value} {mg mb : Str → Option Value} {dp un : Nat} {gd : Option (List Code)} {cn : Str} {cs : Scope} {a : Addr} {ccd : Value} {cl : List (Str × Addr)} {outer : List Env} {A₀ : Around} {base h₀ : Heap} {L : Addr} {m : Str → Option Value} {s : Shared} {Q E : Value → Shared → Prop}
  {pen : Addr} {n c many : Int} {t u v : Tok} {k : Nat} {news : List (Addr × Obj)} {g : Obj → List (Addr × Obj)}
  (B : Below A₀ base outer h₀) (F : Fr h₀ L s.heap m) (X : (Mine.hd.heap_1 w.params).In h₀) (T : Top Mine.hd.view_1 lo mean mg mb h₀) (hk : cs.kind = .function) (hd : dp + 1 < recursionLimit)
  (N : News h₀ L s.heap news) (U : UpdF pen (penObj n c t u k) news g)
  (hn : 0 ≤ n) (hc : 0 ≤ c) (hc2 : c < 1000) (hm : 0 < many) (hm2 : many < 100)
  (hret : ∀ h' tk n' c' t' u' k' d td, KeepBut [pen] s.heap h' → Fr h₀ L h' m → News h₀ L h' (g (penObj n' c' t' u' k')) → 0 ≤ n' → c ≤ c' → c' ≤ c + 1 → 0 ≤ d → d < many → Q (.int d td) { s with heap := h', toks := tk }) :
  wpAny (model PySem.Challenge.rw_pq0627_01.row.prog w) (ktrTop dp un gd cn cs L a ccd cl outer) (call (.ref 107) [.ref pen, .int many v]) Q E s :=
  draw_ok B F X (fun p hp => by rw [List.mem_singleton.mp hp]; exact N _ (upd_mem U)) T hk hd hn hc hc2 hm hm2
    fun h' tk n' c' t' u' k' d td K e a1 a2 a3 a4 a5 => hret h' tk n' c' t' u' k' d td K (fr_keep1 F N (upd_mem U) K) (news_keep N U K e) a1 a2 a3 a4 a5

theorem tup_item_any {prog : Program} {w : World} {A : Around} {E : Value → Shared → Prop} {s : Shared} {h₀ : Heap} {L : Addr} {news : List (Addr × Obj)} {value slice : Expr} {a : Addr} {l : List Value} {n : Nat} {k : Int} {u : Tok} {Q : Value → Shared → Prop}
    (N : News h₀ L s.heap news) (hm : (a, ({ cls := .type "tuple", data := .seq l.toArray n } : Obj)) ∈ news) (h0 : 0 ≤ k) (h1 : k < (l.length : Int)) (hhi : k < 2 ^ 63) (h : ∀ x, l[k.toNat]? = some x → x ∈ l → Q x s)
    (hs : subscripted slice false (.ref a) (.int k u) = operate [.ref a, .int k u] (getItem (.ref a) (.int k u)) := by with_unfolding_all rfl) (hg : ∀ r, letTemporaryGo value (.ref a) r = pure () := by intro _; with_unfolding_all rfl) :
    wpAny (model prog w) A (subscriptTail value slice (.ref a) (.int k u)) Q E s := by
  have hk : k.toNat < l.length := by omega
  have hj : seqIndex? k l.length = some k.toNat := by
    unfold seqIndex?
    simp only
    have h2 : ¬ k < 0 := by omega
    simp [h2, hk, h0, h1]
  exact item_tupleL ⟨_, (N _ hm).1, rfl, n, rfl⟩ (by omega) hhi hj (List.getElem?_eq_getElem hk) (h _ (List.getElem?_eq_getElem hk) (List.getElem_mem hk)) hs hg


theorem len_tupA {prog : Program} {w : World} {A : Around} {E : Value → Shared → Prop} {s : Shared} {h₀ : Heap} {L : Addr} {news : List (Addr × Obj)} {a : Addr} {l : List Value} {n : Nat} {Q : Value → Shared → Prop}
    (N : News h₀ L s.heap news) (hm : (a, ({ cls := .type "tuple", data := .seq l.toArray n } : Obj)) ∈ news) (hf : l.length < 2 ^ 62) (h : ∀ t tk, Q (.int (l.length : Int) t) { s with toks := tk }) :
    wpAny (model prog w) A (call (.builtin "len") [.ref a]) Q E s :=
  len_tuple ⟨_, (N _ hm).1, rfl, n, rfl⟩ (by rw [List.size_toArray]; omega) (by rw [List.size_toArray]; exact h _ _)
theorem len_lstA {prog : Program} {w : World} {A : Around} {E : Value → Shared → Prop} {s : Shared} {h₀ : Heap} {L : Addr} {news : List (Addr × Obj)} {a : Addr} {l : List Value} {n : Nat} {Q : Value → Shared → Prop}
    (N : News h₀ L s.heap news) (hm : (a, listOf l.toArray n) ∈ news) (hf : l.length < 2 ^ 62) (h : ∀ t tk, Q (.int (l.length : Int) t) { s with toks := tk }) :
    wpAny (model prog w) A (call (.builtin "len") [.ref a]) Q E s :=
  len_list ⟨_, (N _ hm).1, rfl, n, rfl⟩ (by rw [List.size_toArray]; omega) (by rw [List.size_toArray]; exact h _ _)

theorem kreg3 : True := by
  w_top off
  k_with "call ref" => ((k_here; (with_reducible show wpAny _ _ (call (Value.ref 107) _ _) _ _ _); k_dflt (refine' draw_use ?k1 ?k2 ?k3 ?k4 ?k5 ?k6 ?k7 ?k8 ?b1 ?b2 ?b3 ?b4 ?b5 ?_; (case k1 => k_asm); (case k2 => k_asm); (case k3 => k_asm); (case k4 => k_asm); (case k5 => first | exact rfl | assumption); (case k6 => ktr_room); (case k7 => k_asm); (case k8 => k_updF); (case b1 => omega); (case b2 => omega); (case b3 => omega); (case b4 => omega); (case b5 => omega)); intro h' tk' n' c' t' u' k' d' td' K' F' N' b1 b2 b3 b4 b5; (try dsimp only at N'); (try k_sweep); (try k_fold)))
  k_with "call builtin:len" => ((k_here; (with_reducible show wpAny _ _ (call (Value.builtin "len") [Value.ref _]) _ _ _); k_dflt (first | (refine' len_tupA ?k1 ?k2 ?k3 ?_; (case k1 => k_asm); (case k2 => k_mem); (case k3 => omega)) | (refine' len_lstA ?k1 ?k2 ?k3 ?_; (case k1 => k_asm); (case k2 => k_mem); (case k3 => omega))); intro t' tk'; (try simp only [List.length_cons, List.length_nil])))
  k_with "subscriptTail Name Call ref int" => ((k_here; (with_reducible show wpAny _ _ (subscriptTail _ _ (Value.ref _) (Value.int _ _)) _ _ _); k_dflt (refine' tup_item_any ?k1 ?k2 ?k3 ?k4 ?k5 ?_ ?k6 ?k7; (case k1 => k_asm); (case k2 => k_mem); (case k3 => omega); (case k4 => omega); (case k5 => omega); (case k6 => with_unfolding_all rfl); (case k7 => (intro _; with_unfolding_all rfl))); intro x' hx' hxm'; (try k_fold)))
  exact True.intro
theorem pick_ok {w : World} {mean : ExcName → Option Value} {mg mb : Str → Option Value} {dp un : Nat} {gd : Option (List Code)} {cn : Str} {cs : Scope} {a : Addr} {ccd : Value} {cl : List (Str × Addr)} {outer : List Env} {A₀ : Around} {base h₀ : Heap} {L : Addr} {m : Str → Option Value} {s : Shared} {Q E : Value → Shared → Prop}
  {pen sm : Addr} {n c : Int} {t u : Tok} {k : Nat} {vs : List Value}
  (B : Below A₀ base outer h₀) (F : Fr h₀ L s.heap m) (X : (Mine.hd.heap_1 w.params).In h₀) (T : Top Mine.hd.view_1 lo mean mg mb h₀) (hk : cs.kind = .function) (hd : dp + 2 < recursionLimit)
  (N : News h₀ L s.heap [(pen, penObj n c t u k), (sm, tupOf vs)]) (hne : sm ≠ pen)
  (hn : 0 ≤ n) (hc : 0 ≤ c) (hc2 : c < 1000) (hm : 0 < vs.length) (hm2 : vs.length < 100)
  (hret : ∀ h' tk n' c' t' u' k' x, KeepBut [pen] s.heap h' → h'.get? pen = some (penObj n' c' t' u' k') → 0 ≤ n' → c ≤ c' → c' ≤ c + 1 → x ∈ vs → Q x { s with heap := h', toks := tk }) :
  wpAny (model PySem.Challenge.rw_pq0627_01.row.prog w) (ktrTop dp un gd cn cs L a ccd cl outer) (call (.ref 114) [.ref pen, .ref sm]) Q E s := by
  revert X; k_fill; intro X
  have hne' := neN hne
  refine wpAny_call ?_
  k_dflt (k_extra "M enter")
  k_steps
  (rename News h₀ L _ _ => kN)
  exact hret _ _ _ _ _ _ _ _ (keep_led kG' (by assumption) N kN (by k_extra "M sub")) (kN (pen, _) (by k_mem)).1 (by assumption) (by assumption) (by assumption) (by assumption)


theorem pick_use {w : World} {mean : ExcName → Option Value} {mg mb : Str → Option Value} {dp un : Nat} {gd : Option (List Code)} {cn : Str} {cs : Scope} {a : Addr} {ccd : Value} {cl : List (Str × Addr)} {outer : List Env} {A₀ : Around} {base h₀ : Heap} {L : Addr} {m : Str → Option Value} {s : Shared} {Q E : Value → Shared → Prop}
  {pen sm : Addr} {n c : Int} {t u : Tok} {k : Nat} {vs : List Value} {news : List (Addr × Obj)} {g : Obj → List (Addr × Obj)}
  (B : Below A₀ base outer h₀) (F : Fr h₀ L s.heap m) (X : (Mine.hd.heap_1 w.params).In h₀) (T : Top Mine.hd.view_1 lo mean mg mb h₀) (hk : cs.kind = .function) (hd : dp + 2 < recursionLimit)
  (N : News h₀ L s.heap news) (U : UpdF pen (penObj n c t u k) news g) (hs : (sm, tupOf vs) ∈ news) (hne : sm ≠ pen)
  (hn : 0 ≤ n) (hc : 0 ≤ c) (hc2 : c < 1000) (hm : 0 < vs.length) (hm2 : vs.length < 100)
  (hret : ∀ h' tk n' c' t' u' k' x, KeepBut [pen] s.heap h' → Fr h₀ L h' m → News h₀ L h' (g (penObj n' c' t' u' k')) → 0 ≤ n' → c ≤ c' → c' ≤ c + 1 → x ∈ vs → Q x { s with heap := h', toks := tk }) :
  wpAny (model PySem.Challenge.rw_pq0627_01.row.prog w) (ktrTop dp un gd cn cs L a ccd cl outer) (call (.ref 114) [.ref pen, .ref sm]) Q E s :=
  pick_ok B F X T hk hd (fun p hp => by
      rcases List.mem_cons.mp hp with rfl | hp
      · exact N _ (upd_mem U)
      · rw [List.mem_singleton.mp hp]; exact N _ hs) hne hn hc hc2 hm hm2
    fun h' tk n' c' t' u' k' x K e a1 a2 a3 a4 => hret h' tk n' c' t' u' k' x K (fr_keep1 F N (upd_mem U) K) (news_keep N U K e) a1 a2 a3 a4

inductive Arg where
  | int (i : Int)
  | str (x : Str)
  | labs (l : List Int)
  | any
inductive Op where
  | e0
  | e1 (n : Str)
  | e2 (n : Str) (x : Arg)
  | e3 (n : Str) (x y : Arg)
  | e4 (n : Str)
inductive ArgIs (P : Addr → Obj → Prop) : Value → Arg → Prop where
  | int {i : Int} {t : Tok} : ArgIs P (.int i t) (.int i)
  | str {x : Str} {t : Tok} : ArgIs P (.str x t) (.str x)
  | labs {a : Addr} {us : List Value} {l : List Int} : P a (tupOf us) → IntsAre us l → ArgIs P (.ref a) (.labs l)
  | any {v : Value} : ArgIs P v .any
inductive OpIs (P : Addr → Obj → Prop) : Value → Op → Prop where
  | e0 {a : Addr} : P a (tupOf []) → OpIs P (.ref a) .e0
  | e1 {a : Addr} {n : Str} {t : Tok} : P a (tupOf [.str n t]) → OpIs P (.ref a) (.e1 n)
  | e2 {a : Addr} {n : Str} {t : Tok} {v : Value} {x : Arg} : P a (tupOf [.str n t, v]) → ArgIs P v x → OpIs P (.ref a) (.e2 n x)
  | e3 {a : Addr} {n : Str} {t : Tok} {v v' : Value} {x y : Arg} : P a (tupOf [.str n t, v, v']) → ArgIs P v x → ArgIs P v' y → OpIs P (.ref a) (.e3 n x y)
  | e4 {a : Addr} {n : Str} {t : Tok} {v v' v'' : Value} : P a (tupOf [.str n t, v, v', v'']) → OpIs P (.ref a) (.e4 n)
noncomputable abbrev S (x : String) : Str := Str.ofString x
noncomputable def Op.WF : Op → Prop
  | .e0 | .e1 _ | .e4 _ => True
  | .e2 n x => (n = S "choose" → ∃ l : List Int, x = .labs l ∧ l.length ≤ 3) ∧ (n = S "jump" → ∃ i, x = .int i) ∧ (n = S "leave" → ∃ i, x = .int i) ∧ (n = S "stop" → ∃ w, x = .str w)
  | .e3 n x y => (n = S "push" ∨ n = S "calc" ∨ n = S "put" ∨ n = S "key" ∨ n = S "test" ∨ n = S "less" → ∃ i, y = .int i) ∧ (n = S "calc" → (∃ w, x = .str w) ∨ ∃ i, x = .int i) ∧ (n = S "perform" → (∃ i, x = .int i) ∧ ∃ i, y = .int i)

theorem ArgIs.mono {P P' : Addr → Obj → Prop} (K : ∀ a o, P a o → P' a o) {v : Value} {x : Arg} (r : ArgIs P v x) : ArgIs P' v x := by
  cases r with
  | int => exact .int
  | str => exact .str
  | labs e i => exact .labs (K _ _ e) i
  | any => exact .any
theorem OpIs.mono {P P' : Addr → Obj → Prop} (K : ∀ a o, P a o → P' a o) {v : Value} {x : Op} (r : OpIs P v x) : OpIs P' v x := by
  cases r with
  | e0 e => exact .e0 (K _ _ e)
  | e1 e => exact .e1 (K _ _ e)
  | e2 e i => exact .e2 (K _ _ e) (i.mono K)
  | e3 e i j => exact .e3 (K _ _ e) (i.mono K) (j.mono K)
  | e4 e => exact .e4 (K _ _ e)

theorem kreg4 : True := by
  w_top off
  k_with "call ref" => ((k_here; (with_reducible show wpAny _ _ (call (Value.ref 114) _ _) _ _ _); k_dflt (refine' pick_use ?k1 ?k2 ?k3 ?k4 ?k5 ?k6 ?k7 ?k8 ?k9 ?kA ?b1 ?b2 ?b3 ?b4 ?b5 ?_; (case k1 => k_asm); (case k2 => k_asm); (case k3 => k_asm); (case k4 => k_asm); (case k5 => first | exact rfl | assumption); (case k6 => ktr_room); (case k7 => k_asm); (case k8 => k_updF); (case k9 => k_mem); (case kA => (refine neN ?_; omega)); (case b1 => omega); (case b2 => omega); (case b3 => omega); (case b4 => (simp only [List.length_cons, List.length_nil]; omega)); (case b5 => (simp only [List.length_cons, List.length_nil]; omega))); intro h' tk' n' c' t' u' k' x' K' F' N' b1 b2 b3 b4; (try dsimp only at N'); (try k_sweep); (try k_fold)))
  exact True.intro

section
variable {prog : Program} {w : World} {A : Around} {E : Value → Shared → Prop} {s : Shared} {h₀ : Heap} {L : Addr} {m : Str → Option Value} {news : List (Addr × Obj)}

/-! a tuple of four cut behind its third or its fourth part -/
theorem cut_applied {sl : Addr} {b : Int} {k : Nat} {u : Tok} {Q : Int × Int × Nat → Shared → Prop} (hs : s.heap.IsSliceOf sl .none (.int b u) .none) (e : Builtin.Slice.sliceAdjust none (some b) 1 4 = (0, (k : Int))) (e2 : Builtin.Slice.slicePlaces 0 (k : Int) 1 = k) (h : Q (0, 1, k) s) :
    wpAny (model prog w) A (Builtin.Slice.sliceApplied (.ref sl) (pure (4 : Int))) Q E s := by
  obtain ⟨os, hos, hcs, hds⟩ := id hs
  unfold Builtin.Slice.sliceApplied Builtin.Slice.sliceFields
  refine wpAny_bind (wpAny_bind (wpAny_field hos hds (x := .none) rfl (wpAny_bind (wpAny_field hos hds (x := .int b u) rfl (wpAny_bind (wpAny_field hos hds (x := .none) rfl (wpAny_pure ?_)))))))
  refine wpAny_bind (slicePart_none ?_)
  show wpAny _ _ (if ((1 : Int) == 0) = true then _ else _) _ _ s
  rw [if_neg (by decide)]
  refine wpAny_bind (slicePart_none (wpAny_bind (slicePart_int (wpAny_bind (wpAny_pure ?_)))))
  show wpAny _ _ (match Builtin.Slice.sliceAdjust none (some b) 1 4 with | (lo, hi) => pure (lo, (1 : Int), Builtin.Slice.slicePlaces lo hi 1)) _ _ s
  rw [e]
  show wpAny _ _ (pure ((0 : Int), (1 : Int), Builtin.Slice.slicePlaces 0 (k : Int) 1)) _ _ s
  rw [e2]
  exact wpAny_pure h

theorem cut_get {t sl : Addr} {x0 x1 x2 x3 : Value} {b : Int} {u : Tok} {Q : Value → Shared → Prop} (ht : IsTup s.heap t #[x0, x1, x2, x3]) (hs : s.heap.IsSliceOf sl .none (.int b u) .none)
    (h : (b = 3 ∧ Q (.ref s.heap.objs.size) { s with heap := s.heap.push { cls := .type "tuple", data := .seq #[x0, x1, x2] } }) ∨ (b = 4 ∧ Q (.ref t) s)) : wpAny (model prog w) A (getItem (.ref t) (.ref sl)) Q E s := by
  obtain ⟨os, hos, hcs, hds⟩ := id hs
  have hTs : s.TypeIs (.ref sl) "slice" := ⟨os, hos, hcs⟩
  unfold getItem
  try with_reducible refine wpAny_holding ?_
  first | refine wpAny_bind (wpAny_pure ?_) | skip
  refine wpAny_bind (wpAny_sequenceKey ht.typeIs (by decide) ?_)
  refine wpAny_bind (wpAny_callSpecial?_slot (name := Str.ofString "__getitem__") ht.typeIs slot_tuple_getitem
    (wpAny_call_entry slot_tuple_getitem ht.typeIs entry_tuple_getitem ?_ (args_tuple_getitem _ _)))
  show wpAny _ _ (Builtin.Tuple.tupleItemsOf (.ref t) >>= _) _ _ s
  refine wpAny_bind (tupleItemsOf_ ht ?_)
  refine wpAny_bind (wpAny_typeOf hTs ?_)
  rw [if_pos (by decide)]
  rcases h with ⟨rfl, h⟩ | ⟨rfl, h⟩
  · refine wpAny_bind (cut_applied (k := 3) hs (by decide) (by decide) ?_)
    show wpAny _ _ (if ((0 : Int) == 0 && (1 : Int) == 1 && (3 : Nat) == 4) = true then _ else _) _ _ s
    rw [if_neg (by decide)]
    have e : ((List.range 3).filterMap fun (k : Nat) => #[x0, x1, x2, x3][((0 : Int) + (k : Int) * 1).toNat]?).toArray = #[x0, x1, x2] := rfl
    show wpAny _ _ (do ret (← Builtin.Tuple.tupleExact ((List.range 3).filterMap fun (k : Nat) => #[x0, x1, x2, x3][((0 : Int) + (k : Int) * 1).toNat]?).toArray)) _ _ s
    rw [e]
    exact wpAny_bind (m := Builtin.Tuple.tupleExact _) (wpAny_newObj_type (wpAny_pure ⟨_, rfl, wpAny_pure h⟩) (by show (3 : Nat) ≤ sizeLine; rw [sizeLine_eq]; omega))
  · refine wpAny_bind (cut_applied (k := 4) hs (by decide) (by decide) ?_)
    show wpAny _ _ (if ((0 : Int) == 0 && (1 : Int) == 1 && (4 : Nat) == 4) = true then _ else _) _ _ s
    rw [if_pos (by decide)]
    refine wpAny_bind ?_
    unfold Builtin.Tuple.tupleIsExact
    refine wpAny_bind (wpAny_typeOf ht.typeIs (wpAny_pure ?_))
    rw [if_pos (by decide)]
    exact wpAny_bind (wpAny_rule (wpAny_pure ⟨_, rfl, wpAny_pure h⟩))

theorem cut_tail {value slice : Expr} {t : Addr} {x0 x1 x2 x3 : Value} {b : Int} {u : Tok} {Q : Value → Shared → Prop}
    (F : Fr h₀ L s.heap m) (N : News h₀ L s.heap news) (hm : (t, tupOf [x0, x1, x2, x3]) ∈ news) (hb : b = 3 ∨ b = 4)
    (h3 : b = 3 → ∀ D h', Fr h₀ L h' m → News h₀ L h' ((D, tupOf [x0, x1, x2]) :: news) → (∀ p ∈ news, p.1 < D) → Q (.ref D) { s with heap := h' })
    (h4 : b = 4 → ∀ h', Fr h₀ L h' m → News h₀ L h' news → Q (.ref t) { s with heap := h' })
    (hs : subscripted slice false (.ref t) (.ref s.heap.objs.size) = operate [.ref s.heap.objs.size, .ref t] (getItem (.ref t) (.ref s.heap.objs.size)) := by with_unfolding_all rfl)
    (hg : ∀ r, letTemporaryGo value (.ref t) r = pure () := by intro _; with_unfolding_all rfl) :
    wpAny (model prog w) A (subscriptTail value slice (.ref t) (.ref s.heap.objs.size)) Q E { s with heap := s.heap.push { cls := .type "slice", data := .fields #[.none, .int b u, .none] } } := by
  have ht : IsTup s.heap t #[x0, x1, x2, x3] := ⟨_, (N _ hm).1, rfl, 0, rfl⟩
  have ht' : IsTup (s.heap.push { cls := .type "slice", data := .fields #[.none, .int b u, .none] }) t #[x0, x1, x2, x3] := ht.keeps fun _ _ e => Heap.get?_push_of_some _ e
  refine subscriptTail_ops (s := { s with heap := s.heap.push { cls := .type "slice", data := .fields #[.none, .int b u, .none] } }) ht'.typeIs slot_tuple_getitem.lookup
    (cut_get ht' (Heap.IsSliceOf.new ..) ?_) hs hg
  have F1 := F.push { cls := .type "slice", data := .fields #[.none, .int b u, .none] }
  have N0 : News h₀ L (s.heap.push { cls := .type "slice", data := .fields #[.none, .int b u, .none] }) news := N.grown fun _ _ e => Heap.get?_push_of_some _ e
  rcases hb with hb | hb
  · refine .inl ⟨hb, ?_⟩
    have N1 := News.push F1 N0 (tupOf [x0, x1, x2])
    exact h3 hb _ _ (F1.push _) N1 fun p hp => Heap.lt_size (N0 p hp).1
  · exact .inr ⟨hb, h4 hb _ F1 N0⟩

/-! a tuple of one repeated nought, one or two times -/
theorem tup_repeat_road : seqRepeat? (.type "tuple") = pure (some (.builtin "tuple.__mul__")) := by
  unfold seqRepeat?
  rw [PySem.seqSlot_of (T := "tuple") (name := "__mul__") (id := "tuple.__mul__") PySem.F.slot_tuple_mul.lookup (by decide +kernel), PySem.seqSlot_of (T := "tuple") (name := "__rmul__") (id := "tuple.__rmul__") PySem.F.slot_tuple_rmul.lookup (by decide +kernel)]
  rfl
theorem tup_noFill_mul : fillsNumberSlot (.type "tuple") "mul" = pure false := by kernel_rfl

theorem rmul_tup (a : Int) (t : Tok) (l : Addr) (items : Array Value) (n : Nat) (d : Option Addr) (sl : Array (Option Value)) :
    Meets (Builtin.«int.__rmul__» ⟨[.int a t, .ref l], []⟩) (fun _ R s => s.heap.get? l = some { cls := .type "tuple", dict := d, data := .seq items n, slots := sl } ∧ R (.ok (.ret Value.notImplemented)) s) :=
  .of_wp fun prog w A R s h => by obtain ⟨hp, g, d, tk, os⟩ := s; obtain ⟨hl, h⟩ := h; wp_walk; exact ⟨_, rfl, h⟩
theorem mul_tup0 (l : Addr) (v : Value) (n : Nat) (d : Option Addr) (sl : Array (Option Value)) (u : Tok) :
    Meets (Builtin.«tuple.__mul__» ⟨[.ref l, .int 0 u], []⟩) (fun _ R s => s.heap.get? l = some { cls := .type "tuple", dict := d, data := .seq #[v] n, slots := sl } ∧ R (.ok (.ret (Value.ref s.heap.objs.size))) { s with heap := s.heap.push { cls := Value.type "tuple", data := Data.seq #[] }, toks := s.toks }) :=
  .of_wp fun prog w A R s h => by
    obtain ⟨hp, g, d, tk, os⟩ := s; obtain ⟨hl, h⟩ := h
    wp_walk
    exact ⟨_, rfl, h⟩
theorem mul_tup1 (l : Addr) (v : Value) (n : Nat) (d : Option Addr) (sl : Array (Option Value)) (u : Tok) :
    Meets (Builtin.«tuple.__mul__» ⟨[.ref l, .int 1 u], []⟩) (fun _ R s => s.heap.get? l = some { cls := .type "tuple", dict := d, data := .seq #[v] n, slots := sl } ∧ R (.ok (.ret (Value.ref l))) s) :=
  .of_wp fun prog w A R s h => by
    obtain ⟨hp, g, d, tk, os⟩ := s; obtain ⟨hl, h⟩ := h
    wp_walk
    exact ⟨_, rfl, h⟩
theorem mul_tup2 (l : Addr) (v : Value) (n : Nat) (d : Option Addr) (sl : Array (Option Value)) (u : Tok) :
    Meets (Builtin.«tuple.__mul__» ⟨[.ref l, .int 2 u], []⟩) (fun _ R s => s.heap.get? l = some { cls := .type "tuple", dict := d, data := .seq #[v] n, slots := sl } ∧ R (.ok (.ret (Value.ref s.heap.objs.size))) { s with heap := s.heap.push { cls := Value.type "tuple", data := Data.seq #[v, v] }, toks := s.toks }) :=
  .of_wp fun prog w A R s h => by
    obtain ⟨hp, g, d, tk, os⟩ := s; obtain ⟨hl, h⟩ := h
    wp_walk
    exact ⟨_, rfl, h⟩

theorem tup_mul {a : Addr} {v : Value} {x : Int} {u : Tok} {Q : Value → Shared → Prop} (F : Fr h₀ L s.heap m) (N : News h₀ L s.heap news) (hm : (a, tupOf [v]) ∈ news) (h0 : 0 ≤ x) (hx : x < 3)
    (k0 : x = 0 → ∀ D h', Fr h₀ L h' m → News h₀ L h' ((D, tupOf []) :: news) → (∀ p ∈ news, p.1 < D) → Q (.ref D) { s with heap := h' })
    (k1 : x = 1 → Q (.ref a) s)
    (k2 : x = 2 → ∀ D h', Fr h₀ L h' m → News h₀ L h' ((D, tupOf [v, v]) :: news) → (∀ p ∈ news, p.1 < D) → Q (.ref D) { s with heap := h' }) :
    wpAny (model prog w) A (binaryOp .Mult (.ref a) (.int x u)) Q E s := by
  have ho : s.heap.get? a = some { cls := .type "tuple", dict := none, data := .seq #[v] 0, slots := #[] } := (N _ hm).1
  have up : ∀ o : Obj, o.isFreed = false → Fr h₀ L (s.heap.push o) m ∧ News h₀ L (s.heap.push o) ((s.heap.objs.size, o) :: news) ∧ ∀ p ∈ news, p.1 < s.heap.objs.size := fun o hf => ⟨F.push o, News.push F N o hf, fun p hp => Heap.lt_size (N p hp).1⟩
  have fin : wpAny (model prog w) A (call (.builtin "tuple.__mul__") [.ref a, .int x u]) Q E s := by
    obtain rfl | rfl | rfl : x = 0 ∨ x = 1 ∨ x = 2 := by omega
    · exact call_meets PySem.F.slot_tuple_mul ⟨_, ho, rfl⟩ PySem.F.entry_tuple_mul (PySem.F.args_tuple_mul_2 _ _) (mul_tup0 a v 0 none #[] u) ⟨ho, by
        obtain ⟨f, n, l⟩ := up (tupOf []) rfl
        exact k0 rfl _ _ f n l⟩
    · exact call_meets PySem.F.slot_tuple_mul ⟨_, ho, rfl⟩ PySem.F.entry_tuple_mul (PySem.F.args_tuple_mul_2 _ _) (mul_tup1 a v 0 none #[] u) ⟨ho, k1 rfl⟩
    · exact call_meets PySem.F.slot_tuple_mul ⟨_, ho, rfl⟩ PySem.F.entry_tuple_mul (PySem.F.args_tuple_mul_2 _ _) (mul_tup2 a v 0 none #[] u) ⟨ho, by
        obtain ⟨f, n, l⟩ := up (tupOf [v, v]) rfl
        exact k2 rfl _ _ f n l⟩
  exact wpAny_binaryOp_repeat_ref (T := "tuple") (U := "int") (by decide) ⟨_, ho, rfl⟩ (fun s' => typeIs_int s' x u) tup_noFill_mul PySem.F.fills_int_mul PySem.F.slot_int_rmul tup_repeat_road PySem.F.slot_int_index.lookup
    (call_meets PySem.F.slot_int_rmul (typeIs_int s x u) PySem.F.entry_int_rmul (PySem.F.args_int_rmul_2 _ _) (rmul_tup x u a #[v] 0 none #[])
      ⟨ho, rfl, ⟨_, ho, rfl⟩, fin⟩)
end

theorem kreg5 : True := by
  w_top off
  k_with "binaryOp Mult ref int" => ((k_here; (with_reducible show wpAny _ _ (binaryOp Operator.Mult (Value.ref _) (Value.int _ _)) _ _ _); k_dflt (refine' tup_mul ?k1 ?k2 ?k3 ?k4 ?k5 ?_ ?_ ?_; (case k1 => k_asm); (case k2 => k_asm); (case k3 => k_mem); (case k4 => omega); (case k5 => omega)); (all_goals (intro hx9; (try (exfalso; omega; done)))); (all_goals (try (intro D' h' F' N' l1; (try k_lt l1); (try k_sweep)))); (all_goals (try k_unmd)); (all_goals (try k_fold))))
  k_with "subscriptTail Name Slice ref ref" => ((k_here; (with_reducible show wpAny _ _ (subscriptTail _ _ (Value.ref _) (Value.ref _)) _ _ _); k_dflt (refine' cut_tail ?k1 ?k2 ?k3 ?k4 ?_ ?_ ?k5 ?k6; (case k1 => k_asm); (case k2 => k_asm); (case k3 => k_mem); (case k4 => omega); (case k5 => with_unfolding_all rfl); (case k6 => (intro _; with_unfolding_all rfl))); (all_goals intro hx9); (all_goals (first | (intro D' h' F' N' l1; (try k_lt l1); (try k_sweep)) | (intro h' F' N'; (try k_sweep)))); (all_goals (try k_unmd)); (all_goals (try k_fold))))
  k_with "CompSrc" => ((k_here; k_dflt (refine LCg.CompSrc.range (by rfl) (by k_asm) (by k_asm) (by assumption) (by first | decide | rfl) (by first | rfl | decide) (by first | size_fits | exact Nat.le_of_ble_eq_true rfl) ?_; intro gc'; lcg_lit)))
  exact True.intro

inductive ObjFin (P : Addr → Obj → Prop) : Obj → Prop where
  | e0 : ObjFin P (tupOf [])
  | e1 {n : Str} {t : Tok} : ObjFin P (tupOf [.str n t])
  | e2 {n : Str} {t : Tok} {v : Value} : (∃ x, ArgIs P v x ∧ (Op.e2 n x).WF) → ObjFin P (tupOf [.str n t, v])
  | e3 {n : Str} {t : Tok} {v v' : Value} : (∃ x y, ArgIs P v x ∧ ArgIs P v' y ∧ (Op.e3 n x y).WF) → ObjFin P (tupOf [.str n t, v, v'])
  | e4 {n : Str} {t : Tok} {v v' v'' : Value} : ObjFin P (tupOf [.str n t, v, v', v''])
theorem obj_fin {P : Addr → Obj → Prop} {a : Addr} {o : Obj} (e : P a o) (r : ObjFin P o) : ∃ o, OpIs P (.ref a) o ∧ o.WF := by
  cases r with
  | e0 => exact ⟨_, .e0 e, trivial⟩
  | e1 => exact ⟨_, .e1 e, trivial⟩
  | e2 k => exact k.elim fun _ k => ⟨_, .e2 e k.1, k.2⟩
  | e3 k => exact k.elim fun _ k => k.elim fun _ k => ⟨_, .e3 e k.1 k.2.1, k.2.2⟩
  | e4 => exact ⟨_, .e4 e, trivial⟩
/-- it stands there, and it is new to the frame at L -/
noncomputable abbrev NewAt (h₀ : Heap) (L : Addr) (h : Heap) (a : Addr) (o : Obj) : Prop := h.get? a = some o ∧ a ≠ L ∧ h₀.get? a = none
theorem str_of {x : Value} {l : List Value} (hm : x ∈ l) (hs : ∀ v ∈ l, ∃ n t, v = Value.str n t) : ∃ n t, x = Value.str n t := hs x hm
theorem two_of {d : Int} (h1 : ¬ d < 8) (h2 : d < 10) : d = 8 ∨ d = 9 := by omega




theorem kreg6 : True := by
  w_top off
  k_with "exec Assign cons ListComp" => ((k_here; kcf_look; rcases two_of (by assumption) (by assumption) with h9 | h9 <;> subst h9))
  k_with "M strs" => (first | exact List.forall_mem_nil _ | (refine List.forall_mem_cons.mpr ⟨⟨_, _, rfl⟩, ?_⟩; k_extra "M strs"))
  exact True.intro

theorem pen_in {h₀ h : Heap} {L P : Addr} {news : List (Addr × Obj)} {n c : Int} {t u : Tok} {k : Nat} (_N : News h₀ L h news) (hm : (P, penObj n c t u k) ∈ news) : ∃ o : Obj, (P, o) ∈ news ∧ o.cls = .type "list" := ⟨_, hm, rfl⟩
theorem op_new {H g h' h'' h₀ : Heap} {L L' P a : Addr} {o : Obj} {news news' : List (Addr × Obj)} (G : GSub H g [P]) (M : News g L' h'' news') (N : News h₀ L h' news) (hp : ∃ o : Obj, (P, o) ∈ news ∧ o.cls = .type "list") (hm : (a, o) ∈ news) (hm' : (a, o) ∈ news') (hc : o.cls = .type "tuple") : NewAt h₀ L h' a o ∧ H.get? a = none := by
  refine ⟨N _ hm, ?_⟩
  cases e : H.get? a with
  | none => rfl
  | some ob =>
    have q := G a ob e (fun hb => by
      obtain ⟨po, h1, h2⟩ := hp
      rw [List.mem_singleton.mp hb] at hm
      have e1 := (N _ h1).1
      rw [(N _ hm).1] at e1
      cases e1
      rw [hc] at h2
      exact absurd h2 (by decide))
    rw [(M _ hm').2.2] at q
    cases q





theorem kreg7 : True := by
  w_top off
  k_with "M op" => ((refine obj_fin (P := fun a o => NewAt h₀ L _ a o ∧ s.heap.get? a = none) (op_new kG0 kM kN kPm (by k_mem) (by k_mem) rfl) ?_; first
  | exact ObjFin.e0
  | exact ObjFin.e1
  | (refine ObjFin.e2 ?_; first | (refine ⟨_, .int, ?_⟩; k_extra "M wf") | (refine ⟨_, .str, ?_⟩; k_extra "M wf") | (refine ⟨_, .labs (op_new kG0 kM kN kPm (by k_mem) (by k_mem) rfl) (by first | exact IntsAre.nil | exact IntsAre.cons _ _ .nil | exact IntsAre.cons _ _ (.cons _ _ .nil) | exact IntsAre.cons _ _ (.cons _ _ (.cons _ _ .nil))), ?_⟩; k_extra "M wf") | (refine ⟨_, .any, ?_⟩; k_extra "M wf"))
  | (refine ObjFin.e3 ?_; first | (refine ⟨_, _, .any, .int, ?_⟩; k_extra "M wf") | (refine ⟨_, _, .str, .int, ?_⟩; k_extra "M wf") | (refine ⟨_, _, .int, .int, ?_⟩; k_extra "M wf"))
  | exact ObjFin.e4))
  k_with "M wf" => (first
  | exact True.intro
  | (show (_ → _) ∧ (_ → _) ∧ (_ → _) ∧ (_ → _); refine ⟨fun h9 => ?_, fun h9 => ?_, fun h9 => ?_, fun h9 => ?_⟩ <;> first | exact ⟨_, rfl⟩ | exact ⟨_, rfl, by simp only [List.length_cons, List.length_nil]; omega⟩ | exact absurd h9 (by decide))
  | (show (_ → _) ∧ (_ → _) ∧ (_ → _); refine ⟨fun h9 => ?_, fun h9 => ?_, fun h9 => ?_⟩ <;> first | exact ⟨_, rfl⟩ | exact .inl ⟨_, rfl⟩ | exact .inr ⟨_, rfl⟩ | exact ⟨⟨_, rfl⟩, ⟨_, rfl⟩⟩ | exact absurd h9 (by decide)))
  k_with "M end" => ((
    refine hret2 _ _ _ _ _ _ _ _ _ (keep_led kG' (by assumption) N kN (by k_extra "M sub")) kP (by with_reducible assumption) (by decide) ?_
    k_extra "M op"))
  exact True.intro

/-- the counter of draws, and how far it may have gone -/
noncomputable def BD (c0 : Int) (j : Nat) (n c : Int) : Prop := 0 ≤ n ∧ 0 ≤ c ∧ c0 ≤ c ∧ c ≤ c0 + j
theorem bd_next {c0 n c n' c' : Int} {j : Nat} (h : BD c0 j n c) (a1 : 0 ≤ n') (a2 : c ≤ c') (a3 : c' ≤ c + 1) : BD c0 (j + 1) n' c' := by
  obtain ⟨_, h2, h3, h4⟩ := h
  refine ⟨a1, Int.le_trans h2 a2, Int.le_trans h3 a2, ?_⟩
  omega
theorem bd_lt {c0 n c : Int} {j : Nat} (h : BD c0 j n c) (h0 : c0 < 900) (hj : j ≤ 50) : c < 1000 := by
  have := h.2.2.2
  omega
theorem bd_ten {c0 n c : Int} {j : Nat} (h : BD c0 j n c) (hj : j ≤ 10) : c ≤ c0 + 10 := by
  have := h.2.2.2
  omega
theorem draw_bd {w : World} {mean : ExcName → Option Value} {mg mb : Str → Option Value} {dp un : Nat} {gd : Option (List Code)} {cn : Str} {cs : Scope} {a : Addr} {ccd : Value} {cl : List (Str × Addr)} {outer : List Env} {A₀ : Around} {base h₀ : Heap} {L : Addr} {m : Str → Option Value} {s : Shared} {Q E : Value → Shared → Prop}
  {pen : Addr} {n c c0 many : Int} {t u v : Tok} {k j : Nat} {news : List (Addr × Obj)} {g : Obj → List (Addr × Obj)}
  (B : Below A₀ base outer h₀) (F : Fr h₀ L s.heap m) (X : (Mine.hd.heap_1 w.params).In h₀) (T : Top Mine.hd.view_1 lo mean mg mb h₀) (hk : cs.kind = .function) (hd : dp + 1 < recursionLimit)
  (N : News h₀ L s.heap news) (U : UpdF pen (penObj n c t u k) news g)
  (hb : BD c0 j n c) (h0 : c0 < 900) (hj : j ≤ 50) (hm : 0 < many) (hm2 : many < 100)
  (hret : ∀ h' tk n' c' t' u' k' d td, KeepBut [pen] s.heap h' → Fr h₀ L h' m → News h₀ L h' (g (penObj n' c' t' u' k')) → BD c0 (j + 1) n' c' → 0 ≤ d → d < many → Q (.int d td) { s with heap := h', toks := tk }) :
  wpAny (model PySem.Challenge.rw_pq0627_01.row.prog w) (ktrTop dp un gd cn cs L a ccd cl outer) (call (.ref 107) [.ref pen, .int many v]) Q E s :=
  draw_use B F X T hk hd N U hb.1 hb.2.1 (bd_lt hb h0 hj) hm hm2 fun h' tk n' c' t' u' k' d td K F' N' a1 a2 a3 a4 a5 => hret h' tk n' c' t' u' k' d td K F' N' (bd_next hb a1 a2 a3) a4 a5
theorem pick_bd {w : World} {mean : ExcName → Option Value} {mg mb : Str → Option Value} {dp un : Nat} {gd : Option (List Code)} {cn : Str} {cs : Scope} {a : Addr} {ccd : Value} {cl : List (Str × Addr)} {outer : List Env} {A₀ : Around} {base h₀ : Heap} {L : Addr} {m : Str → Option Value} {s : Shared} {Q E : Value → Shared → Prop}
  {pen sm : Addr} {n c c0 : Int} {t u : Tok} {k j : Nat} {vs : List Value} {news : List (Addr × Obj)} {g : Obj → List (Addr × Obj)}
  (B : Below A₀ base outer h₀) (F : Fr h₀ L s.heap m) (X : (Mine.hd.heap_1 w.params).In h₀) (T : Top Mine.hd.view_1 lo mean mg mb h₀) (hk : cs.kind = .function) (hd : dp + 2 < recursionLimit)
  (N : News h₀ L s.heap news) (U : UpdF pen (penObj n c t u k) news g) (hs : (sm, tupOf vs) ∈ news) (hne : sm ≠ pen)
  (hb : BD c0 j n c) (h0 : c0 < 900) (hj : j ≤ 50) (hm : 0 < vs.length) (hm2 : vs.length < 100)
  (hret : ∀ h' tk n' c' t' u' k' x, KeepBut [pen] s.heap h' → Fr h₀ L h' m → News h₀ L h' (g (penObj n' c' t' u' k')) → BD c0 (j + 1) n' c' → x ∈ vs → Q x { s with heap := h', toks := tk }) :
  wpAny (model PySem.Challenge.rw_pq0627_01.row.prog w) (ktrTop dp un gd cn cs L a ccd cl outer) (call (.ref 114) [.ref pen, .ref sm]) Q E s :=
  pick_use B F X T hk hd N U hs hne hb.1 hb.2.1 (bd_lt hb h0 hj) hm hm2 fun h' tk n' c' t' u' k' x K F' N' a1 a2 a3 a4 => hret h' tk n' c' t' u' k' x K F' N' (bd_next hb a1 a2 a3) a4



theorem kreg8 : True := by
  w_top off
  k_with "call ref" => ((k_here; (with_reducible show wpAny _ _ (call (Value.ref 107) _ _) _ _ _); k_dflt (refine' draw_bd ?k1 ?k2 ?k3 ?k4 ?k5 ?k6 ?k7 ?k8 ?b1 ?b2 ?b3 ?b4 ?b5 ?_; (case k1 => k_asm); (case k2 => k_asm); (case k3 => k_asm); (case k4 => k_asm); (case k5 => first | exact rfl | assumption); (case k6 => ktr_room); (case k7 => k_asm); (case k8 => k_updF); (case b1 => with_reducible assumption); (case b2 => with_reducible assumption); (case b3 => decide); (case b4 => omega); (case b5 => omega)); intro h' tk' n' c' t' u' k' d' td' K' F' N' b1 b2 b3; (try dsimp only at N'); (try k_sweep); (try k_fold)))
  k_with "call ref" => ((k_here; (with_reducible show wpAny _ _ (call (Value.ref 114) _ _) _ _ _); k_dflt (refine' pick_bd ?k1 ?k2 ?k3 ?k4 ?k5 ?k6 ?k7 ?k8 ?k9 ?kA ?b1 ?b2 ?b3 ?b4 ?b5 ?_; (case k1 => k_asm); (case k2 => k_asm); (case k3 => k_asm); (case k4 => k_asm); (case k5 => first | exact rfl | assumption); (case k6 => ktr_room); (case k7 => k_asm); (case k8 => k_updF); (case k9 => k_mem); (case kA => k_ne); (case b1 => with_reducible assumption); (case b2 => with_reducible assumption); (case b3 => decide); (case b4 => exact Nat.zero_lt_succ _); (case b5 => exact Nat.le_of_ble_eq_true rfl)); intro h' tk' n' c' t' u' k' x' K' F' N' b1 b2; (try dsimp only at N'); (try k_sweep); (try k_fold)))
  exact True.intro

theorem op_ok {w : World} {mean : ExcName → Option Value} {mg mb : Str → Option Value} {dp un : Nat} {gd : Option (List Code)} {cn : Str} {cs : Scope} {a : Addr} {ccd : Value} {cl : List (Str × Addr)} {outer : List Env} {A₀ : Around} {base h₀ : Heap} {L : Addr} {m : Str → Option Value} {s : Shared} {Q E : Value → Shared → Prop}
  {pen : Addr} {n c many begun : Int} {t u v v2 : Tok} {k : Nat}
  (B : Below A₀ base outer h₀) (F : Fr h₀ L s.heap m) (X : (Mine.hd.heap_1 w.params).In h₀) (T : Top Mine.hd.view_1 lo mean mg mb h₀) (hk : cs.kind = .function) (hd : dp + 3 < recursionLimit)
  (N : News h₀ L s.heap [(pen, penObj n c t u k)])
  (hn : 0 ≤ n) (hc : 0 ≤ c) (hc2 : c < 900) (hm : 0 < many) (hm2 : many < 90) (hb : 0 ≤ begun) (hb2 : begun < 90)
  (hret : ∀ h' tk n' c' t' u' k' x o, KeepBut [pen] s.heap h' → h'.get? pen = some (penObj n' c' t' u' k') → 0 ≤ n' → c ≤ c' → c' ≤ c + 10 → OpIs (fun a o => NewAt h₀ L h' a o ∧ s.heap.get? a = none) x o → o.WF → Q x { s with heap := h', toks := tk }) :
  wpAny (model PySem.Challenge.rw_pq0627_01.row.prog w) (ktrTop dp un gd cn cs L a ccd cl outer) (call (.ref 119) [.ref pen, .int many v, .int begun v2]) Q E s := by
  revert X; k_fill; intro X
  have hret2 : ∀ h' tk n' c' t' u' k' x j, KeepBut [pen] s.heap h' → h'.get? pen = some (penObj n' c' t' u' k') → BD c j n' c' → j ≤ 10 → (∃ o, OpIs (fun a o => NewAt h₀ L h' a o ∧ s.heap.get? a = none) x o ∧ o.WF) → Q x { s with heap := h', toks := tk } :=
    fun h' tk n' c' t' u' k' x j a1 a2 a3 a4 ⟨o, a6, a7⟩ => hret h' tk n' c' t' u' k' x o a1 a2 a3.1 a3.2.2.1 (bd_ten a3 a4) a6 a7
  clear hret
  have hB0 : BD c 0 n c := ⟨hn, hc, Int.le_refl _, by omega⟩
  refine wpAny_call ?_
  k_dflt (k_extra "M enterC")
  have kG0 := kG'
  k_steps
  all_goals (rename News h₀ L _ _ => kN)
  all_goals (have kP := (kN (pen, _) (by k_mem)).1)
  all_goals (rename News g' _ _ _ => kM)
  all_goals (have kPm := pen_in (P := pen) kN (by k_mem))
  all_goals (try ((rename _ ∈ (_ : List Value) => hxm); (refine (str_of hxm ?_).elim fun n9 h9 => h9.elim fun t9 e9 => ?_); (focus (k_extra "M strs")); subst e9))
  all_goals (first | k_extra "M end" | skip)
  simp only [List.mem_cons, Value.str.injEq, List.not_mem_nil, or_false] at hxm
  rcases hxm with ⟨h, _⟩ | ⟨h, _⟩ | ⟨h, _⟩ | ⟨h, _⟩ <;> subst h
  all_goals k_extra "M end"

theorem kreg9 : True := by
  w_top off
  k_with_none
  k_with "M ne" => (first | (with_reducible assumption) | (with_reducible exact Ne.symm (by assumption)) | (with_reducible exact Nat.ne_of_lt (by assumption)) | (with_reducible exact Nat.ne_of_gt (by assumption)) | (k_extra "M nec"))
  k_with "M nec" => (first | ((rename (_ < _) ∧ _ => hc9); first | (with_reducible exact Nat.ne_of_lt hc9.1) | (with_reducible exact Nat.ne_of_gt hc9.1) | (with_reducible exact Nat.ne_of_lt hc9) | (with_reducible exact Nat.ne_of_gt hc9) | (with_reducible exact Nat.ne_of_lt hc9.2.1) | (with_reducible exact Nat.ne_of_gt hc9.2.1) | (with_reducible exact Nat.ne_of_lt hc9.2) | (with_reducible exact Nat.ne_of_gt hc9.2) | (with_reducible exact Nat.ne_of_lt hc9.2.2.1) | (with_reducible exact Nat.ne_of_gt hc9.2.2.1) | (with_reducible exact Nat.ne_of_lt hc9.2.2) | (with_reducible exact Nat.ne_of_gt hc9.2.2) | (with_reducible exact Nat.ne_of_lt hc9.2.2.2.1) | (with_reducible exact Nat.ne_of_gt hc9.2.2.2.1) | (with_reducible exact Nat.ne_of_lt hc9.2.2.2) | (with_reducible exact Nat.ne_of_gt hc9.2.2.2) | (with_reducible exact Nat.ne_of_lt hc9.2.2.2.2.1) | (with_reducible exact Nat.ne_of_gt hc9.2.2.2.2.1) | (with_reducible exact Nat.ne_of_lt hc9.2.2.2.2) | (with_reducible exact Nat.ne_of_gt hc9.2.2.2.2) | (with_reducible exact Nat.ne_of_lt hc9.2.2.2.2.2.1) | (with_reducible exact Nat.ne_of_gt hc9.2.2.2.2.2.1) | (with_reducible exact Nat.ne_of_lt hc9.2.2.2.2.2) | (with_reducible exact Nat.ne_of_gt hc9.2.2.2.2.2) | (with_reducible exact Nat.ne_of_lt hc9.2.2.2.2.2.2.1) | (with_reducible exact Nat.ne_of_gt hc9.2.2.2.2.2.2.1) | (with_reducible exact Nat.ne_of_lt hc9.2.2.2.2.2.2) | (with_reducible exact Nat.ne_of_gt hc9.2.2.2.2.2.2) | (with_reducible exact Nat.ne_of_lt hc9.2.2.2.2.2.2.2.1) | (with_reducible exact Nat.ne_of_gt hc9.2.2.2.2.2.2.2.1) | (with_reducible exact Nat.ne_of_lt hc9.2.2.2.2.2.2.2) | (with_reducible exact Nat.ne_of_gt hc9.2.2.2.2.2.2.2) | (with_reducible exact Nat.ne_of_lt hc9.2.2.2.2.2.2.2.2.1) | (with_reducible exact Nat.ne_of_gt hc9.2.2.2.2.2.2.2.2.1) | (with_reducible exact Nat.ne_of_lt hc9.2.2.2.2.2.2.2.2) | (with_reducible exact Nat.ne_of_gt hc9.2.2.2.2.2.2.2.2) | (with_reducible exact Nat.ne_of_lt hc9.2.2.2.2.2.2.2.2.2.1) | (with_reducible exact Nat.ne_of_gt hc9.2.2.2.2.2.2.2.2.2.1) | (with_reducible exact Nat.ne_of_lt hc9.2.2.2.2.2.2.2.2.2) | (with_reducible exact Nat.ne_of_gt hc9.2.2.2.2.2.2.2.2.2) | (with_reducible exact Nat.ne_of_lt hc9.2.2.2.2.2.2.2.2.2.2.1) | (with_reducible exact Nat.ne_of_gt hc9.2.2.2.2.2.2.2.2.2.2.1) | (with_reducible exact Nat.ne_of_lt hc9.2.2.2.2.2.2.2.2.2.2) | (with_reducible exact Nat.ne_of_gt hc9.2.2.2.2.2.2.2.2.2.2) | (with_reducible exact Nat.ne_of_lt hc9.2.2.2.2.2.2.2.2.2.2.2.1) | (with_reducible exact Nat.ne_of_gt hc9.2.2.2.2.2.2.2.2.2.2.2.1) | (with_reducible exact Nat.ne_of_lt hc9.2.2.2.2.2.2.2.2.2.2.2) | (with_reducible exact Nat.ne_of_gt hc9.2.2.2.2.2.2.2.2.2.2.2) | (with_reducible exact Nat.ne_of_lt hc9.2.2.2.2.2.2.2.2.2.2.2.2.1) | (with_reducible exact Nat.ne_of_gt hc9.2.2.2.2.2.2.2.2.2.2.2.2.1) | (with_reducible exact Nat.ne_of_lt hc9.2.2.2.2.2.2.2.2.2.2.2.2) | (with_reducible exact Nat.ne_of_gt hc9.2.2.2.2.2.2.2.2.2.2.2.2) | (with_reducible exact Nat.ne_of_lt hc9.2.2.2.2.2.2.2.2.2.2.2.2.2.1) | (with_reducible exact Nat.ne_of_gt hc9.2.2.2.2.2.2.2.2.2.2.2.2.2.1) | (with_reducible exact Nat.ne_of_lt hc9.2.2.2.2.2.2.2.2.2.2.2.2.2) | (with_reducible exact Nat.ne_of_gt hc9.2.2.2.2.2.2.2.2.2.2.2.2.2) | (clear hc9; k_extra "M nec")) | ((rename (_ ≠ _) ∧ _ => hc9); first | (with_reducible exact hc9.1) | (with_reducible exact Ne.symm hc9.1) | (with_reducible exact hc9) | (with_reducible exact Ne.symm hc9) | (with_reducible exact hc9.2.1) | (with_reducible exact Ne.symm hc9.2.1) | (with_reducible exact hc9.2) | (with_reducible exact Ne.symm hc9.2) | (with_reducible exact hc9.2.2.1) | (with_reducible exact Ne.symm hc9.2.2.1) | (with_reducible exact hc9.2.2) | (with_reducible exact Ne.symm hc9.2.2) | (with_reducible exact hc9.2.2.2.1) | (with_reducible exact Ne.symm hc9.2.2.2.1) | (with_reducible exact hc9.2.2.2) | (with_reducible exact Ne.symm hc9.2.2.2) | (with_reducible exact hc9.2.2.2.2.1) | (with_reducible exact Ne.symm hc9.2.2.2.2.1) | (with_reducible exact hc9.2.2.2.2) | (with_reducible exact Ne.symm hc9.2.2.2.2) | (with_reducible exact hc9.2.2.2.2.2.1) | (with_reducible exact Ne.symm hc9.2.2.2.2.2.1) | (with_reducible exact hc9.2.2.2.2.2) | (with_reducible exact Ne.symm hc9.2.2.2.2.2) | (with_reducible exact hc9.2.2.2.2.2.2.1) | (with_reducible exact Ne.symm hc9.2.2.2.2.2.2.1) | (with_reducible exact hc9.2.2.2.2.2.2) | (with_reducible exact Ne.symm hc9.2.2.2.2.2.2) | (with_reducible exact hc9.2.2.2.2.2.2.2.1) | (with_reducible exact Ne.symm hc9.2.2.2.2.2.2.2.1) | (with_reducible exact hc9.2.2.2.2.2.2.2) | (with_reducible exact Ne.symm hc9.2.2.2.2.2.2.2) | (with_reducible exact hc9.2.2.2.2.2.2.2.2.1) | (with_reducible exact Ne.symm hc9.2.2.2.2.2.2.2.2.1) | (with_reducible exact hc9.2.2.2.2.2.2.2.2) | (with_reducible exact Ne.symm hc9.2.2.2.2.2.2.2.2) | (with_reducible exact hc9.2.2.2.2.2.2.2.2.2.1) | (with_reducible exact Ne.symm hc9.2.2.2.2.2.2.2.2.2.1) | (with_reducible exact hc9.2.2.2.2.2.2.2.2.2) | (with_reducible exact Ne.symm hc9.2.2.2.2.2.2.2.2.2) | (with_reducible exact hc9.2.2.2.2.2.2.2.2.2.2.1) | (with_reducible exact Ne.symm hc9.2.2.2.2.2.2.2.2.2.2.1) | (with_reducible exact hc9.2.2.2.2.2.2.2.2.2.2) | (with_reducible exact Ne.symm hc9.2.2.2.2.2.2.2.2.2.2) | (with_reducible exact hc9.2.2.2.2.2.2.2.2.2.2.2.1) | (with_reducible exact Ne.symm hc9.2.2.2.2.2.2.2.2.2.2.2.1) | (with_reducible exact hc9.2.2.2.2.2.2.2.2.2.2.2) | (with_reducible exact Ne.symm hc9.2.2.2.2.2.2.2.2.2.2.2) | (with_reducible exact hc9.2.2.2.2.2.2.2.2.2.2.2.2.1) | (with_reducible exact Ne.symm hc9.2.2.2.2.2.2.2.2.2.2.2.2.1) | (with_reducible exact hc9.2.2.2.2.2.2.2.2.2.2.2.2) | (with_reducible exact Ne.symm hc9.2.2.2.2.2.2.2.2.2.2.2.2) | (with_reducible exact hc9.2.2.2.2.2.2.2.2.2.2.2.2.2.1) | (with_reducible exact Ne.symm hc9.2.2.2.2.2.2.2.2.2.2.2.2.2.1) | (with_reducible exact hc9.2.2.2.2.2.2.2.2.2.2.2.2.2) | (with_reducible exact Ne.symm hc9.2.2.2.2.2.2.2.2.2.2.2.2.2) | (clear hc9; k_extra "M nec")) | ((rename ((_ ≠ _) ∧ _) ∧ _ => hc9); first | (with_reducible exact hc9.1.1) | (with_reducible exact Ne.symm hc9.1.1) | (with_reducible exact hc9.1.2.1) | (with_reducible exact Ne.symm hc9.1.2.1) | (with_reducible exact hc9.1.2.2) | (with_reducible exact Ne.symm hc9.1.2.2) | (with_reducible exact hc9.1) | (with_reducible exact Ne.symm hc9.1) | (with_reducible exact hc9.2.1) | (with_reducible exact Ne.symm hc9.2.1) | (with_reducible exact hc9.2.2) | (with_reducible exact Ne.symm hc9.2.2) | (with_reducible exact hc9.2.1.1) | (with_reducible exact Ne.symm hc9.2.1.1) | (with_reducible exact hc9.2.1.2.1) | (with_reducible exact Ne.symm hc9.2.1.2.1) | (with_reducible exact hc9.2.1.2.2) | (with_reducible exact Ne.symm hc9.2.1.2.2) | (with_reducible exact hc9.2.2.1) | (with_reducible exact Ne.symm hc9.2.2.1) | (with_reducible exact hc9.2.2.2) | (with_reducible exact Ne.symm hc9.2.2.2) | (with_reducible exact hc9.2.2.1.1) | (with_reducible exact Ne.symm hc9.2.2.1.1) | (with_reducible exact hc9.2.2.1.2.1) | (with_reducible exact Ne.symm hc9.2.2.1.2.1) | (with_reducible exact hc9.2.2.1.2.2) | (with_reducible exact Ne.symm hc9.2.2.1.2.2) | (with_reducible exact hc9.2.2.2.1) | (with_reducible exact Ne.symm hc9.2.2.2.1) | (with_reducible exact hc9.2.2.2.2) | (with_reducible exact Ne.symm hc9.2.2.2.2) | (with_reducible exact hc9.2.2.2.1.1) | (with_reducible exact Ne.symm hc9.2.2.2.1.1) | (with_reducible exact hc9.2.2.2.1.2.1) | (with_reducible exact Ne.symm hc9.2.2.2.1.2.1) | (with_reducible exact hc9.2.2.2.1.2.2) | (with_reducible exact Ne.symm hc9.2.2.2.1.2.2) | (with_reducible exact hc9.2.2.2.2.1) | (with_reducible exact Ne.symm hc9.2.2.2.2.1) | (with_reducible exact hc9.2.2.2.2.2) | (with_reducible exact Ne.symm hc9.2.2.2.2.2) | (with_reducible exact hc9.2.2.2.2.1.1) | (with_reducible exact Ne.symm hc9.2.2.2.2.1.1) | (with_reducible exact hc9.2.2.2.2.1.2.1) | (with_reducible exact Ne.symm hc9.2.2.2.2.1.2.1) | (with_reducible exact hc9.2.2.2.2.1.2.2) | (with_reducible exact Ne.symm hc9.2.2.2.2.1.2.2) | (with_reducible exact hc9.2.2.2.2.2.1) | (with_reducible exact Ne.symm hc9.2.2.2.2.2.1) | (with_reducible exact hc9.2.2.2.2.2.2) | (with_reducible exact Ne.symm hc9.2.2.2.2.2.2) | (with_reducible exact hc9.2.2.2.2.2.1.1) | (with_reducible exact Ne.symm hc9.2.2.2.2.2.1.1) | (with_reducible exact hc9.2.2.2.2.2.1.2.1) | (with_reducible exact Ne.symm hc9.2.2.2.2.2.1.2.1) | (with_reducible exact hc9.2.2.2.2.2.1.2.2) | (with_reducible exact Ne.symm hc9.2.2.2.2.2.1.2.2) | (with_reducible exact hc9.2.2.2.2.2.2.1) | (with_reducible exact Ne.symm hc9.2.2.2.2.2.2.1) | (with_reducible exact hc9.2.2.2.2.2.2.2) | (with_reducible exact Ne.symm hc9.2.2.2.2.2.2.2) | (with_reducible exact hc9.2.2.2.2.2.2.1.1) | (with_reducible exact Ne.symm hc9.2.2.2.2.2.2.1.1) | (with_reducible exact hc9.2.2.2.2.2.2.1.2.1) | (with_reducible exact Ne.symm hc9.2.2.2.2.2.2.1.2.1) | (with_reducible exact hc9.2.2.2.2.2.2.1.2.2) | (with_reducible exact Ne.symm hc9.2.2.2.2.2.2.1.2.2) | (with_reducible exact hc9.2.2.2.2.2.2.2.1) | (with_reducible exact Ne.symm hc9.2.2.2.2.2.2.2.1) | (with_reducible exact hc9.2.2.2.2.2.2.2.2) | (with_reducible exact Ne.symm hc9.2.2.2.2.2.2.2.2) | (with_reducible exact hc9.2.2.2.2.2.2.2.1.1) | (with_reducible exact Ne.symm hc9.2.2.2.2.2.2.2.1.1) | (with_reducible exact hc9.2.2.2.2.2.2.2.1.2.1) | (with_reducible exact Ne.symm hc9.2.2.2.2.2.2.2.1.2.1) | (with_reducible exact hc9.2.2.2.2.2.2.2.1.2.2) | (with_reducible exact Ne.symm hc9.2.2.2.2.2.2.2.1.2.2) | (with_reducible exact hc9.2.2.2.2.2.2.2.2.1) | (with_reducible exact Ne.symm hc9.2.2.2.2.2.2.2.2.1) | (with_reducible exact hc9.2.2.2.2.2.2.2.2.2) | (with_reducible exact Ne.symm hc9.2.2.2.2.2.2.2.2.2) | (with_reducible exact hc9.2.2.2.2.2.2.2.2.1.1) | (with_reducible exact Ne.symm hc9.2.2.2.2.2.2.2.2.1.1) | (with_reducible exact hc9.2.2.2.2.2.2.2.2.1.2.1) | (with_reducible exact Ne.symm hc9.2.2.2.2.2.2.2.2.1.2.1) | (with_reducible exact hc9.2.2.2.2.2.2.2.2.1.2.2) | (with_reducible exact Ne.symm hc9.2.2.2.2.2.2.2.2.1.2.2) | (with_reducible exact hc9.2.2.2.2.2.2.2.2.2.1) | (with_reducible exact Ne.symm hc9.2.2.2.2.2.2.2.2.2.1) | (with_reducible exact hc9.2.2.2.2.2.2.2.2.2.2) | (with_reducible exact Ne.symm hc9.2.2.2.2.2.2.2.2.2.2) | (with_reducible exact hc9.2.2.2.2.2.2.2.2.2.1.1) | (with_reducible exact Ne.symm hc9.2.2.2.2.2.2.2.2.2.1.1) | (with_reducible exact hc9.2.2.2.2.2.2.2.2.2.1.2.1) | (with_reducible exact Ne.symm hc9.2.2.2.2.2.2.2.2.2.1.2.1) | (with_reducible exact hc9.2.2.2.2.2.2.2.2.2.1.2.2) | (with_reducible exact Ne.symm hc9.2.2.2.2.2.2.2.2.2.1.2.2) | (with_reducible exact hc9.2.2.2.2.2.2.2.2.2.2.1) | (with_reducible exact Ne.symm hc9.2.2.2.2.2.2.2.2.2.2.1) | (with_reducible exact hc9.2.2.2.2.2.2.2.2.2.2.2) | (with_reducible exact Ne.symm hc9.2.2.2.2.2.2.2.2.2.2.2) | (with_reducible exact hc9.2.2.2.2.2.2.2.2.2.2.1.1) | (with_reducible exact Ne.symm hc9.2.2.2.2.2.2.2.2.2.2.1.1) | (with_reducible exact hc9.2.2.2.2.2.2.2.2.2.2.1.2.1) | (with_reducible exact Ne.symm hc9.2.2.2.2.2.2.2.2.2.2.1.2.1) | (with_reducible exact hc9.2.2.2.2.2.2.2.2.2.2.1.2.2) | (with_reducible exact Ne.symm hc9.2.2.2.2.2.2.2.2.2.2.1.2.2) | (with_reducible exact hc9.2.2.2.2.2.2.2.2.2.2.2.1) | (with_reducible exact Ne.symm hc9.2.2.2.2.2.2.2.2.2.2.2.1) | (with_reducible exact hc9.2.2.2.2.2.2.2.2.2.2.2.2) | (with_reducible exact Ne.symm hc9.2.2.2.2.2.2.2.2.2.2.2.2) | (clear hc9; k_extra "M nec")))
  k_with "M enter" => ((refine' code_defG ?k1 ?k2 ?k3 ?k4 ?k5 ?kA ?kF ?kK ?k6 ?k7 ?k8 ?k9 ?kB ?_ ?c2 ?c3 ?c4 ?c5; (case kA => exact rfl); (case kF => exact rfl); (case kK => first | assumption | exact rfl); (case k1 => k_asm); (case k2 => k_asm); (case k3 => k_asm); (case k4 => k_asm); (case k5 => k_asm); (case k6 => k_is); (case k7 => k_is); (case k8 => ktr_room); (case k9 => exact BindsTo.of_eq rfl); (case c5 => decide); (case kB => exact locs rfl); (case c2 => exact rfl); (case c3 => exact rfl); (case c4 => exact rfl); k_whole; intro g' L' h' FG' F' N' B' X' T' kG'; (try dsimp only at F' N' kG' ⊢); (try k_fold)))
  k_with "M enterC" => ((refine' enterCells ?k1 ?k2 ?k3 ?k4 ?k5 ?kA ?kF ?kK ?k6 ?k7 ?k8 ?k9 ?kB ?kD ?_ ?c2 ?c3 ?c4; (case kA => exact rfl); (case kF => exact rfl); (case kK => first | assumption | exact rfl); (case k1 => k_asm); (case k2 => k_asm); (case k3 => k_asm); (case k4 => k_asm); (case k5 => k_asm); (case k6 => k_is); (case k7 => k_is); (case k8 => ktr_room); (case k9 => exact BindsTo.of_eq rfl); (case kB => exact rfl); (case kD => decide +kernel); (case c2 => exact rfl); (case c3 => exact rfl); (case c4 => exact rfl); k_whole; intro g' L' h' tk' cells' FG' F' N' Y' B' X' T' kG' l1 l2; (try k_lt l1); k_cells Y'; (try simp only [List.cons_append, List.nil_append] at N'); (try dsimp only at F' N' kG' ⊢); (try k_fold)))
  k_with "M sub" => ((first | exact List.forall_mem_nil _ | (refine List.forall_mem_cons.mpr ⟨?kms1, ?kms2⟩; (case kms1 => (intro hW; first | k_mem | (refine (hW ?_).elim; k_mem))); (case kms2 => k_extra "M sub"))))
  k_with "subscriptTail Name Constant ref int" => ((k_here; (with_reducible show wpAny _ _ (subscriptTail _ _ (Value.ref _) (Value.int _ _)) _ _ _); kim_at))
  k_with "call builtin:divmod" => ((k_here; (with_reducible show wpAny _ _ (call (Value.builtin _) [Value.int _ _, Value.int _ _]) _ _ _); k_dflt (refine' divmod_K ?k1 ?k2 ?k3 ?k4 ?_; (case k1 => k_asm); (case k2 => k_asm); (case k3 => omega); (case k4 => exact PyProof.noPylong_small (by omega)); k_whole); intro D' h' t1 t2 F' N' l1; (try k_lt l1); (try k_sweep)))
  k_with "call ref" => ((k_here; (with_reducible show wpAny _ _ (call (Value.ref 107) _ _) _ _ _); k_dflt (refine' draw_use ?k1 ?k2 ?k3 ?k4 ?k5 ?k6 ?k7 ?k8 ?b1 ?b2 ?b3 ?b4 ?b5 ?_; (case k1 => k_asm); (case k2 => k_asm); (case k3 => k_asm); (case k4 => k_asm); (case k5 => first | exact rfl | assumption); (case k6 => ktr_room); (case k7 => k_asm); (case k8 => k_updF); (case b1 => omega); (case b2 => omega); (case b3 => omega); (case b4 => omega); (case b5 => omega)); intro h' tk' n' c' t' u' k' d' td' K' F' N' b1 b2 b3 b4 b5; (try dsimp only at N'); (try k_sweep); (try k_fold)))
  k_with "call builtin:len" => ((k_here; (with_reducible show wpAny _ _ (call (Value.builtin "len") [Value.ref _]) _ _ _); k_dflt (first | (refine' len_tupA ?k1 ?k2 ?k3 ?_; (case k1 => k_asm); (case k2 => k_mem); (case k3 => omega)) | (refine' len_lstA ?k1 ?k2 ?k3 ?_; (case k1 => k_asm); (case k2 => k_mem); (case k3 => omega))); intro t' tk'; (try simp only [List.length_cons, List.length_nil])))
  k_with "subscriptTail Name Call ref int" => ((k_here; (with_reducible show wpAny _ _ (subscriptTail _ _ (Value.ref _) (Value.int _ _)) _ _ _); k_dflt (refine' tup_item_any ?k1 ?k2 ?k3 ?k4 ?k5 ?_ ?k6 ?k7; (case k1 => k_asm); (case k2 => k_mem); (case k3 => omega); (case k4 => omega); (case k5 => omega); (case k6 => with_unfolding_all rfl); (case k7 => (intro _; with_unfolding_all rfl))); intro x' hx' hxm'; (try k_fold)))
  k_with "call ref" => ((k_here; (with_reducible show wpAny _ _ (call (Value.ref 114) _ _) _ _ _); k_dflt (refine' pick_use ?k1 ?k2 ?k3 ?k4 ?k5 ?k6 ?k7 ?k8 ?k9 ?kA ?b1 ?b2 ?b3 ?b4 ?b5 ?_; (case k1 => k_asm); (case k2 => k_asm); (case k3 => k_asm); (case k4 => k_asm); (case k5 => first | exact rfl | assumption); (case k6 => ktr_room); (case k7 => k_asm); (case k8 => k_updF); (case k9 => k_mem); (case kA => (refine neN ?_; omega)); (case b1 => omega); (case b2 => omega); (case b3 => omega); (case b4 => (simp only [List.length_cons, List.length_nil]; omega)); (case b5 => (simp only [List.length_cons, List.length_nil]; omega))); intro h' tk' n' c' t' u' k' x' K' F' N' b1 b2 b3 b4; (try dsimp only at N'); (try k_sweep); (try k_fold)))
  k_with "binaryOp Mult ref int" => ((k_here; (with_reducible show wpAny _ _ (binaryOp Operator.Mult (Value.ref _) (Value.int _ _)) _ _ _); k_dflt (refine' tup_mul ?k1 ?k2 ?k3 ?k4 ?k5 ?_ ?_ ?_; (case k1 => k_asm); (case k2 => k_asm); (case k3 => k_mem); (case k4 => omega); (case k5 => omega)); (all_goals (intro hx9; (try (exfalso; omega; done)))); (all_goals (try (intro D' h' F' N' l1; (try k_lt l1); (try k_sweep)))); (all_goals (try k_unmd)); (all_goals (try k_fold))))
  k_with "subscriptTail Name Slice ref ref" => ((k_here; (with_reducible show wpAny _ _ (subscriptTail _ _ (Value.ref _) (Value.ref _)) _ _ _); k_dflt (refine' cut_tail ?k1 ?k2 ?k3 ?k4 ?_ ?_ ?k5 ?k6; (case k1 => k_asm); (case k2 => k_asm); (case k3 => k_mem); (case k4 => omega); (case k5 => with_unfolding_all rfl); (case k6 => (intro _; with_unfolding_all rfl))); (all_goals intro hx9); (all_goals (first | (intro D' h' F' N' l1; (try k_lt l1); (try k_sweep)) | (intro h' F' N'; (try k_sweep)))); (all_goals (try k_unmd)); (all_goals (try k_fold))))
  k_with "CompSrc" => ((k_here; k_dflt (refine LCg.CompSrc.range (by rfl) (by k_asm) (by k_asm) (by assumption) (by first | decide | rfl) (by first | rfl | decide) (by first | size_fits | exact Nat.le_of_ble_eq_true rfl) ?_; intro gc'; lcg_lit)))
  exact True.intro
section
variable {prog : Program} {w : World} {A : Around} {E : Value → Shared → Prop} {s : Shared} {env : Env} {h₀ : Heap} {target : Expr} {body : List Stmt} {Q : Flow → Shared → Prop}
/-- an invariant over the turns of a loop, from the items that are left -/
theorem items_ind {ws : List (Addr × String)} {keep : List (Addr × Obj)} (J : List Itm → (Str → Option Value) → List (Addr × Obj) → Prop)
    (h0 : ∀ m news, J [] m news → ∀ h tk, Fr h₀ env.locals h m → News h₀ env.locals h news → Q .next { s with heap := h, toks := tk })
    (h1 : ∀ a r m news, J (a :: r) m news → ∀ v h tk, a.Is v h → Fr h₀ env.locals h m → AllObj ws (fun its => News h₀ env.locals h (its ++ news) →
      wpAny (model prog w) A (assign target env v) (fun _ s₂ => wpAny (model prog w) A (execs body env) (UnrPostW h₀ env.locals { s with heap := h, toks := tk } its (fun m' n' => SubL keep n' ∧ J r m' n') Q) E s₂) E { s with heap := h, toks := tk })) :
    ∀ (xs : List Itm) {m : Str → Option Value} {news : List (Addr × Obj)}, J xs m news → ItemsRest prog w A E h₀ env target body Q s ws keep xs m news
  | [], m, news, j => h0 m news j
  | a :: r, m, news, j => by
    intro v h tk ha F
    have hyp := h1 a r m news j v h tk ha F
    have ih : ∀ m' n', J r m' n' → ItemsRest prog w A E h₀ env target body Q s ws keep r m' n' := fun m' n' j' => items_ind J h0 h1 r j'
    clear h0 h1 ha j
    have go : ∀ (ws : List (Addr × String)) (k k' : List (Addr × Obj) → Prop), (∀ its, k its → k' its) → AllObj ws k → AllObj ws k' := by
      intro ws
      induction ws with
      | nil => exact fun k k' f x => f _ x
      | cons w ws i => exact fun k k' f x o ho => i _ _ (fun its y => f _ y) (x o ho)
    refine go ws _ _ ?_ hyp
    intro its f N
    refine wpAny_mono (f N) (fun _ s₂ x => wpAny_mono x (fun fl s₃ y => ?_) fun _ _ e => e) fun _ _ e => e
    have up : UnrEndW h₀ env.locals { s with heap := h, toks := tk } its (fun m' n' => SubL keep n' ∧ J r m' n') s₃ → UnrEndW h₀ env.locals { s with heap := h, toks := tk } its (fun m' n' => SubL keep n' ∧ ItemsRest prog w A E h₀ env target body Q s ws keep r m' n') s₃ :=
      fun ⟨h', tk', m', n', e, F', N', o, sk, j'⟩ => ⟨h', tk', m', n', e, F', N', o, sk, ih m' n' j'⟩
    cases fl with
    | ret v => exact y
    | brk => exact y
    | next => exact up y
    | cont => exact up y
/-- a loop over a list of values -/
theorem vals_ind {ws : List (Addr × String)} {keep : List (Addr × Obj)} (J : List Value → (Str → Option Value) → List (Addr × Obj) → Prop)
    (h0 : ∀ m news, J [] m news → ∀ h tk, Fr h₀ env.locals h m → News h₀ env.locals h news → Q .next { s with heap := h, toks := tk })
    (h1 : ∀ v r m news, J (v :: r) m news → ∀ h tk, Fr h₀ env.locals h m → AllObj ws (fun its => News h₀ env.locals h (its ++ news) →
      wpAny (model prog w) A (assign target env v) (fun _ s₂ => wpAny (model prog w) A (execs body env) (UnrPostW h₀ env.locals { s with heap := h, toks := tk } its (fun m' n' => SubL keep n' ∧ J r m' n') Q) E s₂) E { s with heap := h, toks := tk }))
    (vs : List Value) {m : Str → Option Value} {news : List (Addr × Obj)} (j : J vs m news) : ItemsRest prog w A E h₀ env target body Q s ws keep (vs.map .val) m news := by
  refine items_ind (fun xs m n => ∃ vs, xs = vs.map Itm.val ∧ J vs m n) ?_ ?_ _ ⟨vs, rfl, j⟩
  · rintro m n ⟨vs, e, j⟩
    cases vs with
    | nil => exact h0 m n j
    | cons v r => cases e
  · rintro a r m n ⟨vs, e, j⟩ v h tk ha F
    cases vs with
    | nil => cases e
    | cons v' r' =>
      cases e
      have e' : v = v' := ha
      subst e'
      have hyp := h1 v r' m n j h tk F
      have go : ∀ (ws : List (Addr × String)) (k k' : List (Addr × Obj) → Prop), (∀ its, k its → k' its) → AllObj ws k → AllObj ws k' := by
        intro ws
        induction ws with
        | nil => exact fun k k' f x => f _ x
        | cons w ws i => exact fun k k' f x o ho => i _ _ (fun its y => f _ y) (x o ho)
      refine go ws _ _ ?_ hyp
      intro its f N
      refine wpAny_mono (f N) (fun _ s₂ x => wpAny_mono x (fun fl s₃ y => ?_) fun _ _ e => e) fun _ _ e => e
      have up : UnrEndW h₀ env.locals { s with heap := h, toks := tk } its (fun m' n' => SubL keep n' ∧ J r' m' n') s₃ → UnrEndW h₀ env.locals { s with heap := h, toks := tk } its (fun m' n' => SubL keep n' ∧ ∃ vs, r'.map Itm.val = vs.map Itm.val ∧ J vs m' n') s₃ :=
        fun ⟨h', tk', m', n', e, F', N', o, sk, j'⟩ => ⟨h', tk', m', n', e, F', N', o, sk, r', rfl, j'⟩
      cases fl with
      | ret v => exact y
      | brk => exact y
      | next => exact up y
      | cont => exact up y
/-- the same, the ledger unchanged -/
theorem vals_ind0 {ws : List (Addr × String)} {keep : List (Addr × Obj)} {news : List (Addr × Obj)} (J : List Value → (Str → Option Value) → Prop)
    (h0 : ∀ m, J [] m → ∀ h tk, Fr h₀ env.locals h m → News h₀ env.locals h news → Q .next { s with heap := h, toks := tk })
    (h1 : ∀ v r m, J (v :: r) m → ∀ h tk, Fr h₀ env.locals h m → AllObj ws (fun its => News h₀ env.locals h (its ++ news) →
      wpAny (model prog w) A (assign target env v) (fun _ s₂ => wpAny (model prog w) A (execs body env) (UnrPostW h₀ env.locals { s with heap := h, toks := tk } its (fun m' n' => SubL keep n' ∧ n' = news ∧ J r m') Q) E s₂) E { s with heap := h, toks := tk }))
    (vs : List Value) {m : Str → Option Value} (j : J vs m) : ItemsRest prog w A E h₀ env target body Q s ws keep (vs.map .val) m news := by
  refine vals_ind (fun vs m n => n = news ∧ J vs m) ?_ ?_ vs ⟨rfl, j⟩
  · rintro m n ⟨rfl, j⟩
    exact h0 m j
  · rintro v r m n ⟨rfl, j⟩
    exact h1 v r m j
end

theorem at_name {m : Str → Option Value} {x : Str} {v : Value} (h : m x = some v) : m = fun z => if z = x then some v else m z := by
  funext z
  by_cases e : z = x
  · simp only [if_pos e]; rw [e]; exact h
  · simp only [if_neg e]
inductive PenJ : List Value → (Str → Option Value) → Prop where
  | mk {vs : List Value} {is : List Int} {m : Str → Option Value} {k : Int} {t : Tok} : IntsAre vs is → m (S "number") = some (.int k t) → 0 ≤ k → PenJ vs m
theorem pen_step {k x y : Int} (hk : 0 ≤ k) (hy : 0 < y) : 0 ≤ k * 1063 + x.fmod y := by
  have := Int.fmod_nonneg_of_pos x hy
  omega

theorem kreg10 : True := by
  w_top off
  k_with "exec For Name Subscript cons nil" => ((k_here; (rename Fr _ _ _ _ => lF'); (with_unfolding_all refine' For_turns lF' ?_; k_whole)))
  exact True.intro

theorem pow_ne {n : Nat} : (10 : Int) ^ n ≠ 0 := Int.ne_of_gt (Int.pow_pos (by decide))







theorem kreg11 : True := by
  w_top off
  k_with "binaryOp Mod int int" => ((k_here; (with_reducible refine mod_int' pow_ne ?_)))
  k_with "binaryOp Pow int int" => ((k_here; (with_reducible refine pow_int_small ?kb1 ?kb2 ?kb3 ?_); (case kb1 => decide); (case kb2 => decide); (case kb3 => decide)))
  k_with "execs nil" => ((k_here; (with_reducible refine wpAny_execs_nil ?_)))
  exact True.intro
theorem kreg12 : True := by
  w_top off
  k_with_none
  k_with "M ne" => (first | (with_reducible assumption) | (with_reducible exact Ne.symm (by assumption)) | (with_reducible exact Nat.ne_of_lt (by assumption)) | (with_reducible exact Nat.ne_of_gt (by assumption)) | (k_extra "M nec"))
  k_with "M nec" => (first | ((rename (_ < _) ∧ _ => hc9); first | (with_reducible exact Nat.ne_of_lt hc9.1) | (with_reducible exact Nat.ne_of_gt hc9.1) | (with_reducible exact Nat.ne_of_lt hc9) | (with_reducible exact Nat.ne_of_gt hc9) | (with_reducible exact Nat.ne_of_lt hc9.2.1) | (with_reducible exact Nat.ne_of_gt hc9.2.1) | (with_reducible exact Nat.ne_of_lt hc9.2) | (with_reducible exact Nat.ne_of_gt hc9.2) | (with_reducible exact Nat.ne_of_lt hc9.2.2.1) | (with_reducible exact Nat.ne_of_gt hc9.2.2.1) | (with_reducible exact Nat.ne_of_lt hc9.2.2) | (with_reducible exact Nat.ne_of_gt hc9.2.2) | (with_reducible exact Nat.ne_of_lt hc9.2.2.2.1) | (with_reducible exact Nat.ne_of_gt hc9.2.2.2.1) | (with_reducible exact Nat.ne_of_lt hc9.2.2.2) | (with_reducible exact Nat.ne_of_gt hc9.2.2.2) | (with_reducible exact Nat.ne_of_lt hc9.2.2.2.2.1) | (with_reducible exact Nat.ne_of_gt hc9.2.2.2.2.1) | (with_reducible exact Nat.ne_of_lt hc9.2.2.2.2) | (with_reducible exact Nat.ne_of_gt hc9.2.2.2.2) | (with_reducible exact Nat.ne_of_lt hc9.2.2.2.2.2.1) | (with_reducible exact Nat.ne_of_gt hc9.2.2.2.2.2.1) | (with_reducible exact Nat.ne_of_lt hc9.2.2.2.2.2) | (with_reducible exact Nat.ne_of_gt hc9.2.2.2.2.2) | (with_reducible exact Nat.ne_of_lt hc9.2.2.2.2.2.2.1) | (with_reducible exact Nat.ne_of_gt hc9.2.2.2.2.2.2.1) | (with_reducible exact Nat.ne_of_lt hc9.2.2.2.2.2.2) | (with_reducible exact Nat.ne_of_gt hc9.2.2.2.2.2.2) | (with_reducible exact Nat.ne_of_lt hc9.2.2.2.2.2.2.2.1) | (with_reducible exact Nat.ne_of_gt hc9.2.2.2.2.2.2.2.1) | (with_reducible exact Nat.ne_of_lt hc9.2.2.2.2.2.2.2) | (with_reducible exact Nat.ne_of_gt hc9.2.2.2.2.2.2.2) | (with_reducible exact Nat.ne_of_lt hc9.2.2.2.2.2.2.2.2.1) | (with_reducible exact Nat.ne_of_gt hc9.2.2.2.2.2.2.2.2.1) | (with_reducible exact Nat.ne_of_lt hc9.2.2.2.2.2.2.2.2) | (with_reducible exact Nat.ne_of_gt hc9.2.2.2.2.2.2.2.2) | (with_reducible exact Nat.ne_of_lt hc9.2.2.2.2.2.2.2.2.2.1) | (with_reducible exact Nat.ne_of_gt hc9.2.2.2.2.2.2.2.2.2.1) | (with_reducible exact Nat.ne_of_lt hc9.2.2.2.2.2.2.2.2.2) | (with_reducible exact Nat.ne_of_gt hc9.2.2.2.2.2.2.2.2.2) | (with_reducible exact Nat.ne_of_lt hc9.2.2.2.2.2.2.2.2.2.2.1) | (with_reducible exact Nat.ne_of_gt hc9.2.2.2.2.2.2.2.2.2.2.1) | (with_reducible exact Nat.ne_of_lt hc9.2.2.2.2.2.2.2.2.2.2) | (with_reducible exact Nat.ne_of_gt hc9.2.2.2.2.2.2.2.2.2.2) | (with_reducible exact Nat.ne_of_lt hc9.2.2.2.2.2.2.2.2.2.2.2.1) | (with_reducible exact Nat.ne_of_gt hc9.2.2.2.2.2.2.2.2.2.2.2.1) | (with_reducible exact Nat.ne_of_lt hc9.2.2.2.2.2.2.2.2.2.2.2) | (with_reducible exact Nat.ne_of_gt hc9.2.2.2.2.2.2.2.2.2.2.2) | (with_reducible exact Nat.ne_of_lt hc9.2.2.2.2.2.2.2.2.2.2.2.2.1) | (with_reducible exact Nat.ne_of_gt hc9.2.2.2.2.2.2.2.2.2.2.2.2.1) | (with_reducible exact Nat.ne_of_lt hc9.2.2.2.2.2.2.2.2.2.2.2.2) | (with_reducible exact Nat.ne_of_gt hc9.2.2.2.2.2.2.2.2.2.2.2.2) | (with_reducible exact Nat.ne_of_lt hc9.2.2.2.2.2.2.2.2.2.2.2.2.2.1) | (with_reducible exact Nat.ne_of_gt hc9.2.2.2.2.2.2.2.2.2.2.2.2.2.1) | (with_reducible exact Nat.ne_of_lt hc9.2.2.2.2.2.2.2.2.2.2.2.2.2) | (with_reducible exact Nat.ne_of_gt hc9.2.2.2.2.2.2.2.2.2.2.2.2.2) | (clear hc9; k_extra "M nec")) | ((rename (_ ≠ _) ∧ _ => hc9); first | (with_reducible exact hc9.1) | (with_reducible exact Ne.symm hc9.1) | (with_reducible exact hc9) | (with_reducible exact Ne.symm hc9) | (with_reducible exact hc9.2.1) | (with_reducible exact Ne.symm hc9.2.1) | (with_reducible exact hc9.2) | (with_reducible exact Ne.symm hc9.2) | (with_reducible exact hc9.2.2.1) | (with_reducible exact Ne.symm hc9.2.2.1) | (with_reducible exact hc9.2.2) | (with_reducible exact Ne.symm hc9.2.2) | (with_reducible exact hc9.2.2.2.1) | (with_reducible exact Ne.symm hc9.2.2.2.1) | (with_reducible exact hc9.2.2.2) | (with_reducible exact Ne.symm hc9.2.2.2) | (with_reducible exact hc9.2.2.2.2.1) | (with_reducible exact Ne.symm hc9.2.2.2.2.1) | (with_reducible exact hc9.2.2.2.2) | (with_reducible exact Ne.symm hc9.2.2.2.2) | (with_reducible exact hc9.2.2.2.2.2.1) | (with_reducible exact Ne.symm hc9.2.2.2.2.2.1) | (with_reducible exact hc9.2.2.2.2.2) | (with_reducible exact Ne.symm hc9.2.2.2.2.2) | (with_reducible exact hc9.2.2.2.2.2.2.1) | (with_reducible exact Ne.symm hc9.2.2.2.2.2.2.1) | (with_reducible exact hc9.2.2.2.2.2.2) | (with_reducible exact Ne.symm hc9.2.2.2.2.2.2) | (with_reducible exact hc9.2.2.2.2.2.2.2.1) | (with_reducible exact Ne.symm hc9.2.2.2.2.2.2.2.1) | (with_reducible exact hc9.2.2.2.2.2.2.2) | (with_reducible exact Ne.symm hc9.2.2.2.2.2.2.2) | (with_reducible exact hc9.2.2.2.2.2.2.2.2.1) | (with_reducible exact Ne.symm hc9.2.2.2.2.2.2.2.2.1) | (with_reducible exact hc9.2.2.2.2.2.2.2.2) | (with_reducible exact Ne.symm hc9.2.2.2.2.2.2.2.2) | (with_reducible exact hc9.2.2.2.2.2.2.2.2.2.1) | (with_reducible exact Ne.symm hc9.2.2.2.2.2.2.2.2.2.1) | (with_reducible exact hc9.2.2.2.2.2.2.2.2.2) | (with_reducible exact Ne.symm hc9.2.2.2.2.2.2.2.2.2) | (with_reducible exact hc9.2.2.2.2.2.2.2.2.2.2.1) | (with_reducible exact Ne.symm hc9.2.2.2.2.2.2.2.2.2.2.1) | (with_reducible exact hc9.2.2.2.2.2.2.2.2.2.2) | (with_reducible exact Ne.symm hc9.2.2.2.2.2.2.2.2.2.2) | (with_reducible exact hc9.2.2.2.2.2.2.2.2.2.2.2.1) | (with_reducible exact Ne.symm hc9.2.2.2.2.2.2.2.2.2.2.2.1) | (with_reducible exact hc9.2.2.2.2.2.2.2.2.2.2.2) | (with_reducible exact Ne.symm hc9.2.2.2.2.2.2.2.2.2.2.2) | (with_reducible exact hc9.2.2.2.2.2.2.2.2.2.2.2.2.1) | (with_reducible exact Ne.symm hc9.2.2.2.2.2.2.2.2.2.2.2.2.1) | (with_reducible exact hc9.2.2.2.2.2.2.2.2.2.2.2.2) | (with_reducible exact Ne.symm hc9.2.2.2.2.2.2.2.2.2.2.2.2) | (with_reducible exact hc9.2.2.2.2.2.2.2.2.2.2.2.2.2.1) | (with_reducible exact Ne.symm hc9.2.2.2.2.2.2.2.2.2.2.2.2.2.1) | (with_reducible exact hc9.2.2.2.2.2.2.2.2.2.2.2.2.2) | (with_reducible exact Ne.symm hc9.2.2.2.2.2.2.2.2.2.2.2.2.2) | (clear hc9; k_extra "M nec")) | ((rename ((_ ≠ _) ∧ _) ∧ _ => hc9); first | (with_reducible exact hc9.1.1) | (with_reducible exact Ne.symm hc9.1.1) | (with_reducible exact hc9.1.2.1) | (with_reducible exact Ne.symm hc9.1.2.1) | (with_reducible exact hc9.1.2.2) | (with_reducible exact Ne.symm hc9.1.2.2) | (with_reducible exact hc9.1) | (with_reducible exact Ne.symm hc9.1) | (with_reducible exact hc9.2.1) | (with_reducible exact Ne.symm hc9.2.1) | (with_reducible exact hc9.2.2) | (with_reducible exact Ne.symm hc9.2.2) | (with_reducible exact hc9.2.1.1) | (with_reducible exact Ne.symm hc9.2.1.1) | (with_reducible exact hc9.2.1.2.1) | (with_reducible exact Ne.symm hc9.2.1.2.1) | (with_reducible exact hc9.2.1.2.2) | (with_reducible exact Ne.symm hc9.2.1.2.2) | (with_reducible exact hc9.2.2.1) | (with_reducible exact Ne.symm hc9.2.2.1) | (with_reducible exact hc9.2.2.2) | (with_reducible exact Ne.symm hc9.2.2.2) | (with_reducible exact hc9.2.2.1.1) | (with_reducible exact Ne.symm hc9.2.2.1.1) | (with_reducible exact hc9.2.2.1.2.1) | (with_reducible exact Ne.symm hc9.2.2.1.2.1) | (with_reducible exact hc9.2.2.1.2.2) | (with_reducible exact Ne.symm hc9.2.2.1.2.2) | (with_reducible exact hc9.2.2.2.1) | (with_reducible exact Ne.symm hc9.2.2.2.1) | (with_reducible exact hc9.2.2.2.2) | (with_reducible exact Ne.symm hc9.2.2.2.2) | (with_reducible exact hc9.2.2.2.1.1) | (with_reducible exact Ne.symm hc9.2.2.2.1.1) | (with_reducible exact hc9.2.2.2.1.2.1) | (with_reducible exact Ne.symm hc9.2.2.2.1.2.1) | (with_reducible exact hc9.2.2.2.1.2.2) | (with_reducible exact Ne.symm hc9.2.2.2.1.2.2) | (with_reducible exact hc9.2.2.2.2.1) | (with_reducible exact Ne.symm hc9.2.2.2.2.1) | (with_reducible exact hc9.2.2.2.2.2) | (with_reducible exact Ne.symm hc9.2.2.2.2.2) | (with_reducible exact hc9.2.2.2.2.1.1) | (with_reducible exact Ne.symm hc9.2.2.2.2.1.1) | (with_reducible exact hc9.2.2.2.2.1.2.1) | (with_reducible exact Ne.symm hc9.2.2.2.2.1.2.1) | (with_reducible exact hc9.2.2.2.2.1.2.2) | (with_reducible exact Ne.symm hc9.2.2.2.2.1.2.2) | (with_reducible exact hc9.2.2.2.2.2.1) | (with_reducible exact Ne.symm hc9.2.2.2.2.2.1) | (with_reducible exact hc9.2.2.2.2.2.2) | (with_reducible exact Ne.symm hc9.2.2.2.2.2.2) | (with_reducible exact hc9.2.2.2.2.2.1.1) | (with_reducible exact Ne.symm hc9.2.2.2.2.2.1.1) | (with_reducible exact hc9.2.2.2.2.2.1.2.1) | (with_reducible exact Ne.symm hc9.2.2.2.2.2.1.2.1) | (with_reducible exact hc9.2.2.2.2.2.1.2.2) | (with_reducible exact Ne.symm hc9.2.2.2.2.2.1.2.2) | (with_reducible exact hc9.2.2.2.2.2.2.1) | (with_reducible exact Ne.symm hc9.2.2.2.2.2.2.1) | (with_reducible exact hc9.2.2.2.2.2.2.2) | (with_reducible exact Ne.symm hc9.2.2.2.2.2.2.2) | (with_reducible exact hc9.2.2.2.2.2.2.1.1) | (with_reducible exact Ne.symm hc9.2.2.2.2.2.2.1.1) | (with_reducible exact hc9.2.2.2.2.2.2.1.2.1) | (with_reducible exact Ne.symm hc9.2.2.2.2.2.2.1.2.1) | (with_reducible exact hc9.2.2.2.2.2.2.1.2.2) | (with_reducible exact Ne.symm hc9.2.2.2.2.2.2.1.2.2) | (with_reducible exact hc9.2.2.2.2.2.2.2.1) | (with_reducible exact Ne.symm hc9.2.2.2.2.2.2.2.1) | (with_reducible exact hc9.2.2.2.2.2.2.2.2) | (with_reducible exact Ne.symm hc9.2.2.2.2.2.2.2.2) | (with_reducible exact hc9.2.2.2.2.2.2.2.1.1) | (with_reducible exact Ne.symm hc9.2.2.2.2.2.2.2.1.1) | (with_reducible exact hc9.2.2.2.2.2.2.2.1.2.1) | (with_reducible exact Ne.symm hc9.2.2.2.2.2.2.2.1.2.1) | (with_reducible exact hc9.2.2.2.2.2.2.2.1.2.2) | (with_reducible exact Ne.symm hc9.2.2.2.2.2.2.2.1.2.2) | (with_reducible exact hc9.2.2.2.2.2.2.2.2.1) | (with_reducible exact Ne.symm hc9.2.2.2.2.2.2.2.2.1) | (with_reducible exact hc9.2.2.2.2.2.2.2.2.2) | (with_reducible exact Ne.symm hc9.2.2.2.2.2.2.2.2.2) | (with_reducible exact hc9.2.2.2.2.2.2.2.2.1.1) | (with_reducible exact Ne.symm hc9.2.2.2.2.2.2.2.2.1.1) | (with_reducible exact hc9.2.2.2.2.2.2.2.2.1.2.1) | (with_reducible exact Ne.symm hc9.2.2.2.2.2.2.2.2.1.2.1) | (with_reducible exact hc9.2.2.2.2.2.2.2.2.1.2.2) | (with_reducible exact Ne.symm hc9.2.2.2.2.2.2.2.2.1.2.2) | (with_reducible exact hc9.2.2.2.2.2.2.2.2.2.1) | (with_reducible exact Ne.symm hc9.2.2.2.2.2.2.2.2.2.1) | (with_reducible exact hc9.2.2.2.2.2.2.2.2.2.2) | (with_reducible exact Ne.symm hc9.2.2.2.2.2.2.2.2.2.2) | (with_reducible exact hc9.2.2.2.2.2.2.2.2.2.1.1) | (with_reducible exact Ne.symm hc9.2.2.2.2.2.2.2.2.2.1.1) | (with_reducible exact hc9.2.2.2.2.2.2.2.2.2.1.2.1) | (with_reducible exact Ne.symm hc9.2.2.2.2.2.2.2.2.2.1.2.1) | (with_reducible exact hc9.2.2.2.2.2.2.2.2.2.1.2.2) | (with_reducible exact Ne.symm hc9.2.2.2.2.2.2.2.2.2.1.2.2) | (with_reducible exact hc9.2.2.2.2.2.2.2.2.2.2.1) | (with_reducible exact Ne.symm hc9.2.2.2.2.2.2.2.2.2.2.1) | (with_reducible exact hc9.2.2.2.2.2.2.2.2.2.2.2) | (with_reducible exact Ne.symm hc9.2.2.2.2.2.2.2.2.2.2.2) | (with_reducible exact hc9.2.2.2.2.2.2.2.2.2.2.1.1) | (with_reducible exact Ne.symm hc9.2.2.2.2.2.2.2.2.2.2.1.1) | (with_reducible exact hc9.2.2.2.2.2.2.2.2.2.2.1.2.1) | (with_reducible exact Ne.symm hc9.2.2.2.2.2.2.2.2.2.2.1.2.1) | (with_reducible exact hc9.2.2.2.2.2.2.2.2.2.2.1.2.2) | (with_reducible exact Ne.symm hc9.2.2.2.2.2.2.2.2.2.2.1.2.2) | (with_reducible exact hc9.2.2.2.2.2.2.2.2.2.2.2.1) | (with_reducible exact Ne.symm hc9.2.2.2.2.2.2.2.2.2.2.2.1) | (with_reducible exact hc9.2.2.2.2.2.2.2.2.2.2.2.2) | (with_reducible exact Ne.symm hc9.2.2.2.2.2.2.2.2.2.2.2.2) | (clear hc9; k_extra "M nec")))
  k_with "M enter" => ((refine' code_defG ?k1 ?k2 ?k3 ?k4 ?k5 ?kA ?kF ?kK ?k6 ?k7 ?k8 ?k9 ?kB ?_ ?c2 ?c3 ?c4 ?c5; (case kA => exact rfl); (case kF => exact rfl); (case kK => first | assumption | exact rfl); (case k1 => k_asm); (case k2 => k_asm); (case k3 => k_asm); (case k4 => k_asm); (case k5 => k_asm); (case k6 => k_is); (case k7 => k_is); (case k8 => ktr_room); (case k9 => exact BindsTo.of_eq rfl); (case c5 => decide); (case kB => exact locs rfl); (case c2 => exact rfl); (case c3 => exact rfl); (case c4 => exact rfl); k_whole; intro g' L' h' FG' F' N' B' X' T' kG'; (try dsimp only at F' N' kG' ⊢); (try k_fold)))
  k_with "M enterC" => ((refine' enterCells ?k1 ?k2 ?k3 ?k4 ?k5 ?kA ?kF ?kK ?k6 ?k7 ?k8 ?k9 ?kB ?kD ?_ ?c2 ?c3 ?c4; (case kA => exact rfl); (case kF => exact rfl); (case kK => first | assumption | exact rfl); (case k1 => k_asm); (case k2 => k_asm); (case k3 => k_asm); (case k4 => k_asm); (case k5 => k_asm); (case k6 => k_is); (case k7 => k_is); (case k8 => ktr_room); (case k9 => exact BindsTo.of_eq rfl); (case kB => exact rfl); (case kD => decide +kernel); (case c2 => exact rfl); (case c3 => exact rfl); (case c4 => exact rfl); k_whole; intro g' L' h' tk' cells' FG' F' N' Y' B' X' T' kG' l1 l2; (try k_lt l1); k_cells Y'; (try simp only [List.cons_append, List.nil_append] at N'); (try dsimp only at F' N' kG' ⊢); (try k_fold)))
  k_with "M sub" => ((first | exact List.forall_mem_nil _ | (refine List.forall_mem_cons.mpr ⟨?kms1, ?kms2⟩; (case kms1 => (intro hW; first | k_mem | (refine (hW ?_).elim; k_mem))); (case kms2 => k_extra "M sub"))))
  k_with "subscriptTail Name Constant ref int" => ((k_here; (with_reducible show wpAny _ _ (subscriptTail _ _ (Value.ref _) (Value.int _ _)) _ _ _); kim_at))
  k_with "call builtin:divmod" => ((k_here; (with_reducible show wpAny _ _ (call (Value.builtin _) [Value.int _ _, Value.int _ _]) _ _ _); k_dflt (refine' divmod_K ?k1 ?k2 ?k3 ?k4 ?_; (case k1 => k_asm); (case k2 => k_asm); (case k3 => omega); (case k4 => exact PyProof.noPylong_small (by omega)); k_whole); intro D' h' t1 t2 F' N' l1; (try k_lt l1); (try k_sweep)))
  k_with "call ref" => ((k_here; (with_reducible show wpAny _ _ (call (Value.ref 107) _ _) _ _ _); k_dflt (refine' draw_use ?k1 ?k2 ?k3 ?k4 ?k5 ?k6 ?k7 ?k8 ?b1 ?b2 ?b3 ?b4 ?b5 ?_; (case k1 => k_asm); (case k2 => k_asm); (case k3 => k_asm); (case k4 => k_asm); (case k5 => first | exact rfl | assumption); (case k6 => ktr_room); (case k7 => k_asm); (case k8 => k_updF); (case b1 => omega); (case b2 => omega); (case b3 => omega); (case b4 => omega); (case b5 => omega)); intro h' tk' n' c' t' u' k' d' td' K' F' N' b1 b2 b3 b4 b5; (try dsimp only at N'); (try k_sweep); (try k_fold)))
  k_with "call builtin:len" => ((k_here; (with_reducible show wpAny _ _ (call (Value.builtin "len") [Value.ref _]) _ _ _); k_dflt (first | (refine' len_tupA ?k1 ?k2 ?k3 ?_; (case k1 => k_asm); (case k2 => k_mem); (case k3 => omega)) | (refine' len_lstA ?k1 ?k2 ?k3 ?_; (case k1 => k_asm); (case k2 => k_mem); (case k3 => omega))); intro t' tk'; (try simp only [List.length_cons, List.length_nil])))
  k_with "subscriptTail Name Call ref int" => ((k_here; (with_reducible show wpAny _ _ (subscriptTail _ _ (Value.ref _) (Value.int _ _)) _ _ _); k_dflt (refine' tup_item_any ?k1 ?k2 ?k3 ?k4 ?k5 ?_ ?k6 ?k7; (case k1 => k_asm); (case k2 => k_mem); (case k3 => omega); (case k4 => omega); (case k5 => omega); (case k6 => with_unfolding_all rfl); (case k7 => (intro _; with_unfolding_all rfl))); intro x' hx' hxm'; (try k_fold)))
  k_with "call ref" => ((k_here; (with_reducible show wpAny _ _ (call (Value.ref 114) _ _) _ _ _); k_dflt (refine' pick_use ?k1 ?k2 ?k3 ?k4 ?k5 ?k6 ?k7 ?k8 ?k9 ?kA ?b1 ?b2 ?b3 ?b4 ?b5 ?_; (case k1 => k_asm); (case k2 => k_asm); (case k3 => k_asm); (case k4 => k_asm); (case k5 => first | exact rfl | assumption); (case k6 => ktr_room); (case k7 => k_asm); (case k8 => k_updF); (case k9 => k_mem); (case kA => (refine neN ?_; omega)); (case b1 => omega); (case b2 => omega); (case b3 => omega); (case b4 => (simp only [List.length_cons, List.length_nil]; omega)); (case b5 => (simp only [List.length_cons, List.length_nil]; omega))); intro h' tk' n' c' t' u' k' x' K' F' N' b1 b2 b3 b4; (try dsimp only at N'); (try k_sweep); (try k_fold)))
  k_with "binaryOp Mult ref int" => ((k_here; (with_reducible show wpAny _ _ (binaryOp Operator.Mult (Value.ref _) (Value.int _ _)) _ _ _); k_dflt (refine' tup_mul ?k1 ?k2 ?k3 ?k4 ?k5 ?_ ?_ ?_; (case k1 => k_asm); (case k2 => k_asm); (case k3 => k_mem); (case k4 => omega); (case k5 => omega)); (all_goals (intro hx9; (try (exfalso; omega; done)))); (all_goals (try (intro D' h' F' N' l1; (try k_lt l1); (try k_sweep)))); (all_goals (try k_unmd)); (all_goals (try k_fold))))
  k_with "subscriptTail Name Slice ref ref" => ((k_here; (with_reducible show wpAny _ _ (subscriptTail _ _ (Value.ref _) (Value.ref _)) _ _ _); k_dflt (refine' cut_tail ?k1 ?k2 ?k3 ?k4 ?_ ?_ ?k5 ?k6; (case k1 => k_asm); (case k2 => k_asm); (case k3 => k_mem); (case k4 => omega); (case k5 => with_unfolding_all rfl); (case k6 => (intro _; with_unfolding_all rfl))); (all_goals intro hx9); (all_goals (first | (intro D' h' F' N' l1; (try k_lt l1); (try k_sweep)) | (intro h' F' N'; (try k_sweep)))); (all_goals (try k_unmd)); (all_goals (try k_fold))))
  k_with "CompSrc" => ((k_here; k_dflt (refine LCg.CompSrc.range (by rfl) (by k_asm) (by k_asm) (by assumption) (by first | decide | rfl) (by first | rfl | decide) (by first | size_fits | exact Nat.le_of_ble_eq_true rfl) ?_; intro gc'; lcg_lit)))
  exact True.intro
theorem kreg13 : True := by
  w_top off
  k_with "execs nil" => ((k_here; (with_reducible refine wpAny_execs_nil ?_)))
  exact True.intro
noncomputable abbrev codeDict (w : World) (O G : Addr) (t u : Tok) (n : Nat) : Obj := dictOf [{ hash := PyData.keyHash w.params (Str.ofString "ops"), key := .str (Str.ofString "ops") t, val := .ref O }, { hash := PyData.keyHash w.params (Str.ofString "begins"), key := .str (Str.ofString "begins") u, val := .ref G }] n
/-- how many parts a word takes -/
noncomputable def argc (n : Str) : Option Int :=
  if n = S "push" then some 2 else if n = S "calc" then some 2 else if n = S "put" then some 2 else if n = S "do" then some 1 else if n = S "key" then some 2 else if n = S "test" then some 2 else if n = S "jump" then some 1 else if n = S "choose" then some 1 else if n = S "perform" then some 2 else if n = S "leave" then some 1 else if n = S "count" then some 1 else if n = S "less" then some 2 else if n = S "stop" then some 1 else none
theorem argc_by {n : Str} {C : Prop} (h0 : n = S "push" → argc n = some 2 → C) (h1 : n = S "calc" → argc n = some 2 → C) (h2 : n = S "put" → argc n = some 2 → C) (h3 : n = S "do" → argc n = some 1 → C) (h4 : n = S "key" → argc n = some 2 → C) (h5 : n = S "test" → argc n = some 2 → C) (h6 : n = S "jump" → argc n = some 1 → C) (h7 : n = S "choose" → argc n = some 1 → C) (h8 : n = S "perform" → argc n = some 2 → C) (h9 : n = S "leave" → argc n = some 1 → C) (h10 : n = S "count" → argc n = some 1 → C) (h11 : n = S "less" → argc n = some 2 → C) (h12 : n = S "stop" → argc n = some 1 → C) (hn : argc n = none → C) : C := by
  by_cases e0 : n = S "push"
  · exact h0 e0 (by subst e0; decide +kernel)
  by_cases e1 : n = S "calc"
  · exact h1 e1 (by subst e1; decide +kernel)
  by_cases e2 : n = S "put"
  · exact h2 e2 (by subst e2; decide +kernel)
  by_cases e3 : n = S "do"
  · exact h3 e3 (by subst e3; decide +kernel)
  by_cases e4 : n = S "key"
  · exact h4 e4 (by subst e4; decide +kernel)
  by_cases e5 : n = S "test"
  · exact h5 e5 (by subst e5; decide +kernel)
  by_cases e6 : n = S "jump"
  · exact h6 e6 (by subst e6; decide +kernel)
  by_cases e7 : n = S "choose"
  · exact h7 e7 (by subst e7; decide +kernel)
  by_cases e8 : n = S "perform"
  · exact h8 e8 (by subst e8; decide +kernel)
  by_cases e9 : n = S "leave"
  · exact h9 e9 (by subst e9; decide +kernel)
  by_cases e10 : n = S "count"
  · exact h10 e10 (by subst e10; decide +kernel)
  by_cases e11 : n = S "less"
  · exact h11 e11 (by subst e11; decide +kernel)
  by_cases e12 : n = S "stop"
  · exact h12 e12 (by subst e12; decide +kernel)
  exact hn (by unfold argc; rw [if_neg e0, if_neg e1, if_neg e2, if_neg e3, if_neg e4, if_neg e5, if_neg e6, if_neg e7, if_neg e8, if_neg e9, if_neg e10, if_neg e11, if_neg e12])
theorem argc_or {n : Str} {i : Int} (h : argc n = some i) : i = 1 ∨ i = 2 :=
  argc_by (fun _ e => by rw [h] at e; cases e; exact .inr rfl) (fun _ e => by rw [h] at e; cases e; exact .inr rfl) (fun _ e => by rw [h] at e; cases e; exact .inr rfl) (fun _ e => by rw [h] at e; cases e; exact .inl rfl) (fun _ e => by rw [h] at e; cases e; exact .inr rfl) (fun _ e => by rw [h] at e; cases e; exact .inr rfl) (fun _ e => by rw [h] at e; cases e; exact .inl rfl) (fun _ e => by rw [h] at e; cases e; exact .inl rfl) (fun _ e => by rw [h] at e; cases e; exact .inr rfl) (fun _ e => by rw [h] at e; cases e; exact .inl rfl) (fun _ e => by rw [h] at e; cases e; exact .inl rfl) (fun _ e => by rw [h] at e; cases e; exact .inr rfl) (fun _ e => by rw [h] at e; cases e; exact .inl rfl) (fun e => by rw [h] at e; cases e)
theorem argc_two {n : Str} (h : argc n = some 2) : n = S "push" ∨ n = S "calc" ∨ n = S "put" ∨ n = S "key" ∨ n = S "test" ∨ n = S "perform" ∨ n = S "less" :=
  argc_by (fun e _ => .inl e) (fun e _ => .inr (.inl e)) (fun e _ => .inr (.inr (.inl e))) (fun _ e => by rw [h] at e; cases e) (fun e _ => .inr (.inr (.inr (.inl e)))) (fun e _ => .inr (.inr (.inr (.inr (.inl e))))) (fun _ e => by rw [h] at e; cases e) (fun _ e => by rw [h] at e; cases e) (fun e _ => .inr (.inr (.inr (.inr (.inr (.inl e)))))) (fun _ e => by rw [h] at e; cases e) (fun _ e => by rw [h] at e; cases e) (fun e _ => .inr (.inr (.inr (.inr (.inr (.inr (e))))))) (fun _ e => by rw [h] at e; cases e) (fun e => by rw [h] at e; cases e)
theorem eachL_argc {h : Heap} {n : Str} {P : Value → Prop} (g : ∀ i t, argc n = some i → P (.int i t)) : KTD.EachL h n P [(Str.ofString "push", .flat (.int 2)), (Str.ofString "calc", .flat (.int 2)), (Str.ofString "put", .flat (.int 2)), (Str.ofString "do", .flat (.int 1)), (Str.ofString "key", .flat (.int 2)), (Str.ofString "test", .flat (.int 2)), (Str.ofString "jump", .flat (.int 1)), (Str.ofString "choose", .flat (.int 1)), (Str.ofString "perform", .flat (.int 2)), (Str.ofString "leave", .flat (.int 1)), (Str.ofString "count", .flat (.int 1)), (Str.ofString "less", .flat (.int 2)), (Str.ofString "stop", .flat (.int 1))] := by
  repeat (first | (refine KTD.eachL_ite ?_; split; focus (rename_i hd; have hd := of_decide_eq_true hd; subst hd; exact KTD.opened_int fun t => g _ t (by decide +kernel))) | (refine KTD.eachL_last fun hd => ?_; subst hd; exact KTD.opened_int fun t => g _ t (by decide +kernel)))

noncomputable def inR (m i : Int) : Bool := decide (0 ≤ i ∧ i < m)
noncomputable def argR (m : Int) : Arg → Bool
  | .int i => inR m i
  | _ => false
noncomputable def argIn (l : List Str) : Arg → Bool
  | .str w => l.contains w
  | _ => false
noncomputable def labelsP : Op → List Int
  | .e2 n (.labs l) => if n = S "choose" then l else []
  | .e2 n (.int i) => if n = S "jump" then [i] else []
  | .e3 n _ (.int i) => if n = S "put" ∨ n = S "key" ∨ n = S "test" ∨ n = S "less" then [i] else if (n = S "push" ∨ n = S "calc") ∧ i ≠ -1 then [i] else []
  | _ => []
noncomputable abbrev noOp : Str := S "no op"
noncomputable abbrev labFar : Str := S "a label beyond the code"
noncomputable abbrev noSign : Str := S "no sign of reckoning"
noncomputable abbrev noPar : Str := S "no such paragraph"
noncomputable abbrev noEnd : Str := S "no word of an end"
noncomputable abbrev signs : List Str := [S "+", S "-", S "*", S "/", S "**", S "neg"]
noncomputable abbrev ends : List Str := [S "end", S "stop", S "exit"]
noncomputable def faultP (m b : Int) : Op → Str
  | .e2 n x => if argc n ≠ some 1 then noOp else if (labelsP (.e2 n x)).all (inR m) = false then labFar else if n = S "leave" ∧ argR b x = false then noPar else if n = S "stop" ∧ argIn ends x = false then noEnd else S ""
  | .e3 n x y => if argc n ≠ some 2 then noOp else if (labelsP (.e3 n x y)).all (inR m) = false then labFar else if n = S "calc" ∧ argIn signs x = false then noSign else if n = S "perform" ∧ (argR b x && argR b y) = false then noPar else S ""
  | _ => noOp

section
open LCg LCt
variable {prog : Program} {w : World} {A : Around} {E : Value → Shared → Prop} {s : Shared} {h₀ : Heap} {L : Addr} {m : Str → Option Value} {env : Env}
/-- the end of a test: nothing has changed, and the answer is b -/
noncomputable def TestEnd (h₀ : Heap) (L : Addr) (m : Str → Option Value) (news : List (Addr × Obj)) (s : Shared) (b ok : Bool) (s' : Shared) : Prop :=
  ok = b ∧ ∃ h' tk', s' = { s with heap := h', toks := tk' } ∧ Fr h₀ L h' m ∧ News h₀ L h' news
/-- a comprehension that keeps those of a list of ints that answer the test -/
theorem filtT {ct elt : Expr} {x : Str} {scope : Scope} {cl : List (Str × Addr)} {S : List (Addr × Obj) → Prop} {Fin : List Value → List (Addr × Obj) → Prop} {news : List (Addr × Obj)} {us : List Value} {is : List Int} (p : Int → Bool)
    (hI : IntsAre us is) (hS : S news)
    (test : ∀ k t I oI C oC D ys m₂ h tk (E' : Value → Shared → Prop), k ∈ is → NsObj oC m₂ → m₂ x = some (.int k t) → Fr h₀ L h m → News h₀ L h ((I, oI) :: (C, oC) :: (D, lst ys) :: news) →
      wpAny (model prog w) A (isTrue ct (compEnvC scope cl C env) (eval ct (compEnvC scope cl C env))) (TestEnd h₀ L m ((I, oI) :: (C, oC) :: (D, lst ys) :: news) { s with heap := h, toks := tk } (p k)) E' { s with heap := h, toks := tk })
    (helt : ∀ k t I oI C oC D ys m₂ h tk (Q E' : Value → Shared → Prop), NsObj oC m₂ → m₂ x = some (.int k t) → News h₀ L h ((I, oI) :: (C, oC) :: (D, lst ys) :: news) → Q (.int k t) { s with heap := h, toks := tk } → wpAny (model prog w) A (eval elt (compEnvC scope cl C env)) Q E' { s with heap := h, toks := tk })
    (fin : ∀ ys, IntsAre ys (is.filter p) → Fin ys news) :
    CompRestT prog w A h₀ L m env ct elt x scope cl s S (fun i v => us.toArray[i]? = some v) Fin us.toArray.size 0 [] news := by
  have go : ∀ (rest pre : List Int) (vr : List Value) (i : Nat) (ys : List Value), IntsAre vr rest → us.drop i = vr → i + vr.length = us.length → is = pre ++ rest → IntsAre ys (pre.filter p) →
      CompRestT prog w A h₀ L m env ct elt x scope cl s S (fun i v => us.toArray[i]? = some v) Fin vr.length i ys news := by
    intro rest
    induction rest with
    | nil =>
      intro pre vr i ys hv hd hl hp hy
      cases hv
      refine CompRestT.zero (fin _ ?_)
      rw [hp, List.append_nil]
      exact hy
    | cons k rest ih =>
      intro pre vr i ys hv hd hl hp hy
      cases hv with
      | @cons _ t vr' _ hv =>
      refine CompRestT.succ fun v I oI C oC D m₂ h tk E' hP hC hx F N off ne => ?_
      have hat : us[i]? = some (Value.int k t) := by
        have q : (us.drop i)[0]? = some (Value.int k t) := by rw [hd]; rfl
        rwa [List.getElem?_drop] at q
      have hP' : us.toArray[i]? = some v := hP
      rw [List.getElem?_toArray, hat] at hP'
      cases hP'
      have hd' : us.drop (i + 1) = vr' := by
        have q := congrArg (List.drop 1) hd
        rwa [List.drop_drop] at q
      refine wpAny_mono (test k t I oI C oC D ys m₂ h tk E' (by rw [hp]; exact List.mem_append_right _ (.head _)) hC hx F N) (fun ok s' e => ?_) fun _ _ e => e
      obtain ⟨rfl, h', tk', rfl, F', N'⟩ := e
      have hl' : i + 1 + vr'.length = us.length := by rw [← hl, List.length_cons]; omega
      have hpp : is = (pre ++ [k]) ++ rest := by rw [hp, List.append_assoc]; rfl
      cases hb : p k with
      | true =>
        simp only [if_true]
        refine helt k t I oI C oC D ys m₂ h' tk' _ E' hC hx N' ?_
        refine ⟨h', tk', news, rfl, F', N', off, hS, ih (pre ++ [k]) vr' (i + 1) _ hv hd' hl' hpp ?_⟩
        rw [List.filter_append]
        simp only [List.filter_cons, hb, if_true, List.filter_nil]
        exact hy.append (.cons _ _ .nil)
      | false =>
        simp only [Bool.false_eq_true, if_false]
        refine ⟨h', tk', news, rfl, F', N', off, hS, ih (pre ++ [k]) vr' (i + 1) _ hv hd' hl' hpp ?_⟩
        rw [List.filter_append]
        simp only [List.filter_cons, hb, Bool.false_eq_true, if_false, List.filter_nil, List.append_nil]
        exact hy
  have r := go is [] us 0 [] hI rfl (by simp) rfl .nil
  rw [List.size_toArray]
  exact r
theorem filtSrc {ct elt : Expr} {x : Str} {scope : Scope} {cl : List (Str × Addr)} {Fin : Shared → List Value → List (Addr × Obj) → Prop} {ax : Addr} {k : Nat} {news : List (Addr × Obj)} {s₁ : Shared} {its : Array Value} {is : List Int} (p : Int → Bool)
    (hh : A.handled = none) (F : Fr h₀ L s₁.heap m) (N : News h₀ L s₁.heap news) (hm : (ax, ({ cls := .type "list", data := .seq its k } : Obj)) ∈ news) (hsz : its.size ≤ sizeLine) (hI : IntsAre its.toList is)
    (helt : ∀ k t I oI C oC D ys m₂ (s' : Shared) (Q E' : Value → Shared → Prop), NsObj oC m₂ → m₂ x = some (.int k t) → News h₀ L s'.heap ((I, oI) :: (C, oC) :: (D, lst ys) :: news) → Q (.int k t) s' → wpAny (model prog w) A (eval elt (compEnvC scope cl C env)) Q E' s')
    (test : ∀ k t I oI C oC D ys m₂ h tk (E' : Value → Shared → Prop), k ∈ is → NsObj oC m₂ → m₂ x = some (.int k t) → Fr h₀ L h m → News h₀ L h ((I, oI) :: (C, oC) :: (D, lst ys) :: news) →
      wpAny (model prog w) A (isTrue ct (compEnvC scope cl C env) (eval ct (compEnvC scope cl C env))) (TestEnd h₀ L m ((I, oI) :: (C, oC) :: (D, lst ys) :: news) { s₁ with heap := h, toks := tk } (p k)) E' { s₁ with heap := h, toks := tk })
    (fin : ∀ g ys, IntsAre ys (is.filter p) → Fin { s₁ with heap := g } ys news) :
    CompSrcT prog w A h₀ L m env ct elt x scope cl Fin (.ref ax) s₁ :=
  CompSrcT.ledger hh F N hm hsz fun g => filtT (us := its.toList) p hI (.inr ⟨_, hm, rfl, _, rfl⟩) (fun k t I oI C oC D ys m₂ h tk E' a b c d e => test k t I oI C oC D ys m₂ h tk E' a b c d e)
    (fun k t I oI C oC D ys m₂ h tk Q E' a b c d => helt k t I oI C oC D ys m₂ { s₁ with heap := h, toks := tk } Q E' a b c d) (fun ys hy => fin g ys hy)
end
@[irreducible] def Sealed (P : Prop) : Prop := P
theorem sealOf {P : Prop} (h : Sealed P) : P := by unfold Sealed at h; exact h
theorem toSeal {P : Prop} (h : P) : Sealed P := by unfold Sealed; exact h
theorem inR_lt {m k : Int} (h : 0 ≤ k) : (!decide (k < m)) = !inR m k := by simp [inR, h]
theorem inR_neg {m k : Int} (h : ¬ 0 ≤ k) : (!false) = !inR m k := by simp [inR, h]
theorem filt_all {m : Int} {l : List Int} : decide (List.filter (fun k => !inR m k) l = []) = l.all (inR m) := by
  induction l with
  | nil => rfl
  | cons k l ih =>
    cases h : inR m k with
    | true => simp only [List.filter_cons, h, Bool.not_true, Bool.false_eq_true, if_false, List.all_cons, Bool.true_and, ih]
    | false => simp [List.filter_cons, h]
theorem eq_tup_nil {prog : Program} {w : World} {A : Around} {E : Value → Shared → Prop} {s : Shared} {h₀ : Heap} {L : Addr} {news : List (Addr × Obj)} {a b : Addr} {xs : Array Value} {k k' : Nat} {Q : Value → Shared → Prop}
    (N : News h₀ L s.heap news) (ha : (a, ({ cls := .type "tuple", data := .seq xs k } : Obj)) ∈ news) (hb : (b, ({ cls := .type "tuple", data := .seq #[] k' } : Obj)) ∈ news) (hu : A.units < cLine) (h : Q (.bool (xs.size == 0)) s) :
    wpAny (model prog w) A (compareOp .Eq (.ref a) (.ref b)) Q E s := by
  refine PySem.SeqAt.eq_tupleAt (e := fun _ => true) ⟨_, (N _ ha).1, rfl, _, rfl⟩ ⟨_, (N _ hb).1, rfl, _, rfl⟩ hu (fun j h1 h2 => absurd h2 (by simp)) ?_
  simpa using h

theorem kreg14 : True := by
  w_top off
  k_with "eval ListComp" => ((k_here; lct_look; k_dflt (refine LCt.ListComp_T (F₀ := by k_asm) (by with_unfolding_all rfl) (by decide) (by rfl) (by decide) (by rfl) ?_)))
  k_with "M ints" => (first | exact IntsAre.nil | exact IntsAre.cons _ _ .nil | exact IntsAre.cons _ _ (.cons _ _ .nil) | exact IntsAre.cons _ _ (.cons _ _ (.cons _ _ .nil)) | assumption)
  k_with "call ref" => ((k_here; (with_reducible show wpAny _ _ (call (Value.ref 22) _ _) _ _ _); refine wpAny_call ?_; k_dflt (k_extra "M enter")))
  k_with "M test" => ((unfold TestEnd; refine ⟨?t1, _, _, rfl, ?t2, ?t3⟩; (case t1 => first | exact rfl | exact inR_lt (by omega) | exact inR_neg (by omega)); (case t2 => k_asm); (case t3 => k_asm)))
  k_with "compareOp Eq ref ref" => ((k_here; k_dflt (refine' eq_tup_nil ?k1 ?k2 ?k3 ?k4 ?_; (case k1 => k_asm); (case k2 => k_mem); (case k3 => k_mem); (case k4 => first | units_room | exact Nat.le_of_ble_eq_true rfl)); (try simp only [List.size_toArray, List.length_cons, List.length_nil])))
  k_with "call ref" => ((k_here; (with_reducible show wpAny _ _ (call (Value.ref 93) _ _) _ _ _); (try simp only [List.nil_append]); refine wpAny_call ?_; k_dflt (k_extra "M enter")))
  k_with "call ref" => ((k_here; (with_reducible show wpAny _ _ (call (Value.ref 126) _ _) _ _ _); refine wpAny_call ?_; k_dflt (k_extra "M enter")))
  exact True.intro
theorem call_range_contains {prog : Program} {w : World} {A : Around} {E : Value → Shared → Prop} {s : Shared} {r : Addr} {a b c i : Int} {t u v ti : Tok} {Q : Value → Shared → Prop} (hr : IsRange s.heap r a b c t u v)
    (h : Q (.bool (Builtin.Range.rangePlace? a b c i).isSome) s) :
    wpAny (model prog w) A (call (.builtin "range.__contains__") [.ref r, .int i ti]) Q E s := by
  have hT : s.TypeIs (.ref r) "range" := ⟨_, hr, rfl⟩
  refine wpAny_call_entry F.slot_range_contains hT F.entry_range_contains ?_ (F.args_range_contains_2 _ _)
  obtain ⟨hp, g, d, tk, os⟩ := s
  wp_walk using AutoSeq1.wpAny_loadPart' hr
  exact ⟨_, rfl, h⟩
theorem notin_range {prog : Program} {w : World} {A : Around} {E : Value → Shared → Prop} {s : Shared} {r : Addr} {n i : Int} {t u v ti : Tok} {Q : Value → Shared → Prop} (hr : IsRange s.heap r 0 n 1 t u v)
    (h : Q (.bool (!inR n i)) s) : wpAny (model prog w) A (compareOp .NotIn (.int i ti) (.ref r)) Q E s := by
  show wpAny _ A (do return .bool (!(← contains (.ref r) (.int i ti)))) Q E s
  refine wpAny_bind (wpAny_contains_slot ⟨_, hr, rfl⟩ F.slot_range_contains (call_range_contains hr ?_))
  refine wpAny_truthy_bool (wpAny_pure ?_)
  have e : (Builtin.Range.rangePlace? 0 n 1 i).isSome = inR n i := by
    unfold Builtin.Range.rangePlace? inR
    by_cases h1 : 0 ≤ i <;> by_cases h2 : i < n <;> simp [h1, h2, Int.emod_one]
  rw [e]
  exact h

theorem kreg15 : True := by
  w_top off
  k_with "compareOp NotIn int ref" => ((k_here; (with_reducible show wpAny _ _ (compareOp CmpOp.NotIn (Value.int _ _) (Value.ref _)) _ _ _); k_dflt (refine notin_range (by assumption) ?_)))
  exact True.intro
section
open LCg LCt
variable {prog : Program} {w : World} {A : Around} {E : Value → Shared → Prop} {s : Shared} {h₀ : Heap} {L : Addr} {m : Str → Option Value} {env : Env}
/-- a tuple of the ledger -/
noncomputable def TupAt (ax : Addr) (its : Array Value) (news : List (Addr × Obj)) : Prop := ∃ k, (ax, ({ cls := .type "tuple", data := .seq its k } : Obj)) ∈ news
/-- the source of a comprehension with a test: a tuple -/
noncomputable def CompSrcU (prog : Program) (w : World) (A : Around) (h₀ : Heap) (L : Addr) (m : Str → Option Value) (env : Env) (ct elt : Expr) (x : Str) (scope : Scope) (cl : List (Str × Addr)) (Fin : Shared → List Value → List (Addr × Obj) → Prop) (xv : Value) (s₁ : Shared) : Prop :=
  ∃ ax its news, xv = .ref ax ∧ A.handled = none ∧ Fr h₀ L s₁.heap m ∧ News h₀ L s₁.heap news ∧ TupAt ax its news ∧ its.size ≤ sizeLine ∧
    ∀ g, CompRestT prog w A h₀ L m env ct elt x scope cl { s₁ with heap := g } (TupAt ax its) (fun i v => its[i]? = some v) (Fin { s₁ with heap := g }) its.size 0 [] news
theorem ListComp_Tup {ct elt iter : Expr} {x : Str} {px : Pos} {scope : Scope} {cl : List (Str × Addr)} {pos : Pos} {Q : Value → Shared → Prop} (_F : Fr h₀ L s.heap m)
    (hclos : closureFor scope env = pure cl) (hcell : ∀ y ∈ scope.names, y.2 ≠ .cell) (hkind : scope.kind = .function)
    (hnames : ∀ y ∈ scope.names, y.2 = .local → scope.names.lookup y.1 = some .local) (hx : scope.names.lookup x = some .local)
    (h : wpAny (model prog w) A (eval iter env) (CompSrcU prog w A h₀ L m env ct elt x scope cl (fun s₂ => FinE h₀ L m s₂ Q)) E s)
    (hs : ∀ x, foldedSetIterable iter env x = pure x := by intro _; rfl) :
    wpAny (model prog w) A (eval (.ListComp elt [⟨.Name x px, iter, [ct], 0⟩] scope pos) env) Q E s := by
  rw [eval_ListComp]
  refine wpAny_comprehension_free (use := none) rfl hs hclos hkind hnames (wpAny_mono h (fun xv s₁ src => ?_) fun _ _ e => e)
  obtain ⟨ax, its, news, rfl, hh, F, N, S, hsz, R⟩ := src
  obtain ⟨k, hm⟩ := id S
  have hl : s₁.heap.IsTuple ax its := ⟨_, (N _ hm).1, rfl, k, rfl⟩
  have hlt := Heap.lt_size (N _ hm).1
  refine wpAny_pyIter_tuple hl ?_
  have up : ∀ b o, s₁.heap.get? b = some o → (s₁.heap.push { cls := .type "tuple_iterator", data := .fields #[.ref ax, .int 0 0] }).get? b = some o := fun b o e => Heap.get?_push_of_some _ e
  refine block_T (Walks.tuple hh s₁.heap.objs.size ax (Nat.ne_of_lt hlt) its) hsz (fun i h st => by obtain ⟨o, e, _⟩ := st.1; exact ⟨o, e⟩) (fun i h h' o nw st a1 a2 _ N' S' => ?_) hcell hkind hx
    ⟨⟨_, Heap.get?_push_size _ rfl, rfl, rfl⟩, hl.at fun o e => Heap.get?_push_of_some _ e⟩ (fun b hb => ?_) (F.keeps up) (N.grown up) (Nat.ne_of_lt F.ns.lt) (next_is_new F) (fun p hp => Nat.ne_of_lt (Heap.lt_size (N p hp).1)) S (R _) ?_
  · obtain ⟨k', hm'⟩ := S'
    obtain ⟨⟨o', e1, e2⟩, _⟩ := st
    rw [a1] at e1
    cases e1
    exact ⟨⟨_, a2, e2⟩, ⟨_, (N' _ hm').1, rfl, k', rfl⟩⟩
  · show b < (s₁.heap.push _).objs.size
    rw [Heap.size_push]
    rcases List.mem_cons.mp hb with rfl | hb
    · exact Nat.lt_succ_self _
    · rw [List.mem_singleton.mp hb]; exact Nat.lt_succ_of_lt hlt
  · intro D C h tk m' ys news' F' N' o1 hn hC hD hCL hDL hCD offC fin
    refine ⟨m', hn, fun h'' hs'' => fin D h'' tk (F'.change hs'' hCL hC) (fun p hp => ⟨hs''.extBut _ _ ?_ (N' p hp).1, (N' p hp).2⟩) o1⟩
    rcases List.mem_cons.mp hp with rfl | hp
    · exact Ne.symm hCD
    · exact offC p hp
theorem filtSrcU {ct elt : Expr} {x : Str} {scope : Scope} {cl : List (Str × Addr)} {Fin : Shared → List Value → List (Addr × Obj) → Prop} {ax : Addr} {k : Nat} {news : List (Addr × Obj)} {s₁ : Shared} {its : Array Value} {is : List Int} (p : Int → Bool)
    (hh : A.handled = none) (F : Fr h₀ L s₁.heap m) (N : News h₀ L s₁.heap news) (hm : (ax, ({ cls := .type "tuple", data := .seq its k } : Obj)) ∈ news) (hsz : its.size ≤ sizeLine) (hI : IntsAre its.toList is)
    (helt : ∀ k t I oI C oC D ys m₂ (s' : Shared) (Q E' : Value → Shared → Prop), NsObj oC m₂ → m₂ x = some (.int k t) → News h₀ L s'.heap ((I, oI) :: (C, oC) :: (D, lst ys) :: news) → Q (.int k t) s' → wpAny (model prog w) A (eval elt (compEnvC scope cl C env)) Q E' s')
    (test : ∀ k t I oI C oC D ys m₂ h tk (E' : Value → Shared → Prop), k ∈ is → NsObj oC m₂ → m₂ x = some (.int k t) → Fr h₀ L h m → News h₀ L h ((I, oI) :: (C, oC) :: (D, lst ys) :: news) →
      wpAny (model prog w) A (isTrue ct (compEnvC scope cl C env) (eval ct (compEnvC scope cl C env))) (TestEnd h₀ L m ((I, oI) :: (C, oC) :: (D, lst ys) :: news) { s₁ with heap := h, toks := tk } (p k)) E' { s₁ with heap := h, toks := tk })
    (fin : ∀ g ys, IntsAre ys (is.filter p) → Fin { s₁ with heap := g } ys news) :
    CompSrcU prog w A h₀ L m env ct elt x scope cl Fin (.ref ax) s₁ :=
  ⟨ax, its, news, rfl, hh, F, N, ⟨k, hm⟩, hsz, fun g => filtT (us := its.toList) p hI ⟨k, hm⟩ (fun k t I oI C oC D ys m₂ h tk E' a b c d e => test k t I oI C oC D ys m₂ h tk E' a b c d e)
    (fun k t I oI C oC D ys m₂ h tk Q E' a b c d => helt k t I oI C oC D ys m₂ { s₁ with heap := h, toks := tk } Q E' a b c d) (fun ys hy => fin g ys hy)⟩
end
@[irreducible] def SealedU (P : Prop) : Prop := P
theorem sealUOf {P : Prop} (h : SealedU P) : P := by unfold SealedU at h; exact h
theorem toSealU {P : Prop} (h : P) : SealedU P := by unfold SealedU; exact h
theorem any_has {l : List Str} {w : Str} : (l.any fun x => x == w) = argIn l (.str w) := by
  show _ = l.contains w
  rw [List.any_beq']
theorem tail_from {prog : Program} {w : World} {A : Around} {E : Value → Shared → Prop} {s : Shared} {h₀ : Heap} {L : Addr} {m : Str → Option Value} {news : List (Addr × Obj)} {value slice : Expr} {t : Addr} {x0 : Value} {rest : List Value} {u : Tok} {Q : Value → Shared → Prop}
    (F : Fr h₀ L s.heap m) (N : News h₀ L s.heap news) (hm : (t, tupOf (x0 :: rest)) ∈ news) (hz : rest.length < 10)
    (h : ∀ D h', Fr h₀ L h' m → News h₀ L h' ((D, tupOf rest) :: news) → (∀ p ∈ news, p.1 < D) → Q (.ref D) { s with heap := h' })
    (hs : subscripted slice false (.ref t) (.ref s.heap.objs.size) = operate [.ref s.heap.objs.size, .ref t] (getItem (.ref t) (.ref s.heap.objs.size)) := by with_unfolding_all rfl)
    (hg : ∀ r, letTemporaryGo value (.ref t) r = pure () := by intro _; with_unfolding_all rfl) :
    wpAny (model prog w) A (subscriptTail value slice (.ref t) (.ref s.heap.objs.size)) Q E { s with heap := s.heap.push { cls := .type "slice", data := .fields #[.int ((1 : Nat) : Int) u, .none, .none] } } :=
  slice_tuple_from (a := 1) F N ⟨_, (N _ hm).1, rfl, 0, rfl⟩ (Nat.le_refl _) (by simp) (fun h' F' N' => h _ h' F' N' fun p hp => Nat.lt_succ_of_lt (Heap.lt_size (N p hp).1)) hs hg (by
    rw [List.size_toArray, List.length_cons]
    exact Nat.le_trans (Nat.succ_le_succ (Nat.le_of_lt hz)) (by rw [sizeLine_eq]; decide))
theorem eqat_str_int {A : Around} {s : Shared} {a : Str} {t : Tok} {b : Int} {u : Tok} : PySem.SeqAt.EqAt A s (.str a t) (.int b u) false := fun prog w E Q hq => by
  unfold eqBool
  try with_reducible refine wpAny_holding ?_
  refine wpAny_ite_split (fun hab => absurd hab (by simp)) (fun _ => ?_)
  refine wpAny_bind ?_
  exact EqMixed.eq_str_int (wpAny_truthy_bool hq)
theorem notin_strs {prog : Program} {w : World} {A : Around} {E : Value → Shared → Prop} {s : Shared} {h₀ : Heap} {L : Addr} {news : List (Addr × Obj)} {a : Addr} {its : Array Value} {k : Nat} {i : Int} {t : Tok} {Q : Value → Shared → Prop}
    (N : News h₀ L s.heap news) (hm : (a, ({ cls := .type "tuple", data := .seq its k } : Obj)) ∈ news) (hs : ∀ v ∈ its.toList, ∃ n t, v = Value.str n t) (h : Q (.bool true) s) :
    wpAny (model prog w) A (compareOp .NotIn (.int i t) (.ref a)) Q E s := by
  refine PySem.SeqAt.notIn_tupleAt (fun _ => false) ⟨_, (N _ hm).1, rfl, _, rfl⟩ (fun y hy => ?_) (by rw [show (its.any fun _ => false) = false from by rw [← Array.any_toList]; exact List.any_eq_false.mpr (fun _ _ => by simp)]; exact h)
  obtain ⟨n, t', rfl⟩ := hs y (by simpa using hy)
  exact eqat_str_int

theorem kreg16 : True := by
  w_top off
  k_with "eval ListComp" => ((k_here; lct_look; k_dflt (first | refine ListComp_Tup (iter := Expr.Subscript _ _ _) (_F := by k_asm) (by with_unfolding_all rfl) (by decide) (by rfl) (by decide) (by rfl) ?_ | refine LCt.ListComp_T (F₀ := by k_asm) (by with_unfolding_all rfl) (by decide) (by rfl) (by decide) (by rfl) ?_)))
  k_with "CompSrcU" => ((k_here; refine sealUOf ?_))
  k_with "subscriptTail Name Slice ref ref" => ((k_here; (with_reducible show wpAny _ _ (subscriptTail _ _ (Value.ref _) (Value.ref _)) _ _ _); k_dflt (refine' tail_from ?k1 ?k2 ?k3 ?k4 ?_ ?k5 ?k6; (case k1 => k_asm); (case k2 => k_asm); (case k3 => k_mem); (case k4 => (simp only [List.length_cons, List.length_nil]; omega)); (case k5 => with_unfolding_all rfl); (case k6 => (intro _; with_unfolding_all rfl))); intro D' h' F' N' l1; (try k_lt l1); (try k_sweep)))
  k_with "M strs6" => (first | exact List.forall_mem_nil _ | (refine List.forall_mem_cons.mpr ⟨⟨_, _, rfl⟩, ?_⟩; k_extra "M strs6"))
  k_with "compareOp NotIn int ref" => ((k_here; (with_reducible show wpAny _ _ (compareOp CmpOp.NotIn (Value.int _ _) (Value.ref _)) _ _ _); k_dflt (first | refine notin_range (by assumption) ?_ | (refine' notin_strs ?k1 ?k2 ?k3 ?_; (case k1 => k_asm); (case k2 => k_mem); (case k3 => k_extra "M strs6")))))
  exact True.intro
/-! the sort's tree of questions, answered by an order: what comes out is ordered and the same places -/
section
open PyProof.Rows
variable {O : KeyOrd} {f : Nat → O.α} {N : Nat} {α β : Type}
noncomputable def Tr (O : KeyOrd) (f : Nat → O.α) (N : Nat) {α : Type} : KasT α → (α → Prop) → Prop
  | .ret a, P => P a
  | .ask i j k, P => i < N ∧ j < N ∧ Tr O f N (k (O.blt (f i) (f j))) P
theorem Tr.mono {P P' : α → Prop} (hp : ∀ a, P a → P' a) : ∀ {t : KasT α}, Tr O f N t P → Tr O f N t P'
  | .ret a, h => hp a h
  | .ask _ _ _, h => ⟨h.1, h.2.1, Tr.mono hp h.2.2⟩
theorem Tr.bind {g : α → KasT β} {P : β → Prop} : ∀ {t : KasT α}, Tr O f N t (fun a => Tr O f N (g a) P) → Tr O f N (t.bind g) P
  | .ret _, h => h
  | .ask _ _ _, h => ⟨h.1, h.2.1, Tr.bind h.2.2⟩
theorem Tr.wp {cmp : Nat → Nat → (Bool → Shared → Prop) → Shared → Prop} {Inv : Shared → Prop} {P : α → Prop} {Q : α → Shared → Prop}
    (hc : ∀ i j C s, i < N → j < N → Inv s → (∀ s', Inv s' → C (O.blt (f i) (f j)) s') → cmp i j C s) (hq : ∀ a s, P a → Inv s → Q a s) : ∀ {t : KasT α} {s : Shared}, Tr O f N t P → Inv s → t.kasWp cmp Q s
  | .ret a, s, h, i => hq a s h i
  | .ask i j k, s, h, v => hc i j _ s h.1 h.2.1 v fun s' v' => Tr.wp hc hq h.2.2 v'

noncomputable def PermN (N : Nat) (p : Array Nat) : Prop := p.toList.Perm (List.range N)
theorem PermN.size {p : Array Nat} (h : PermN N p) : p.size = N := by
  have e : p.toList.length = (List.range N).length := List.Perm.length_eq h
  rw [List.length_range, Array.length_toList] at e
  exact e
theorem PermN.lt {p : Array Nat} (h : PermN N p) (hN : 0 < N) (i : Nat) : p.getD i 0 < N := by
  by_cases hi : i < p.size
  · have e : p.getD i 0 = p[i] := by simp [Array.getD, hi]
    rw [e]
    have hm : p[i] ∈ p.toList := by simp
    exact List.mem_range.mp ((List.Perm.mem_iff h).mp hm)
  · have e : p.getD i 0 = 0 := by simp [Array.getD, hi]
    rw [e]; exact hN
theorem PermN.rev {p : Array Nat} (h : PermN N p) (i j : Nat) : PermN N (kas_rev p i j) := (Array.perm_iff_toList_perm.mp (mirror_perm p i j ((j - i) / 2))).trans h
theorem PermN.bub {p : Array Nat} (h : PermN N p) (i j : Nat) : PermN N (bubble p i j) := (Array.perm_iff_toList_perm.mp (bubble_perm p i j)).trans h
theorem getD_eq {p : Array Nat} {k : Nat} : p.getD k 0 = (p[k]?).getD 0 := by
  by_cases hi : k < p.size
  · simp [Array.getD, hi]
  · simp [Array.getD, hi]
theorem jrev {p : Array Nat} {i j : Nat} (hj : j ≤ p.size) (k : Nat) : (kas_rev p i j).getD k 0 = if i ≤ k ∧ k < j then p.getD (i + j - 1 - k) 0 else p.getD k 0 := by
  have e := getElem?_mirror_all (xs := p) (i := i) hj k
  rw [getD_eq, show (kas_rev p i j)[k]? = _ from e]
  split <;> rw [getD_eq]
theorem jbub {p : Array Nat} {src d : Nat} (hs : src < p.size) (hd : d ≤ src) (k : Nat) :
    (bubble p src d).getD k 0 = if k = src - d then p.getD src 0 else if src - d < k ∧ k ≤ src then p.getD (k - 1) 0 else p.getD k 0 := by
  have e := getElem?_bubble hs d hd k
  rw [getD_eq (p := bubble p src d), e]
  by_cases h1 : k = src - d
  · rw [if_pos h1, if_pos h1]; exact getD_eq.symm
  · rw [if_neg h1, if_neg h1]
    by_cases h2 : src - d < k ∧ k ≤ src
    · rw [if_pos h2, if_pos h2]; exact getD_eq.symm
    · rw [if_neg h2, if_neg h2]; exact getD_eq.symm

noncomputable def Sto (O : KeyOrd) (f : Nat → O.α) (p : Array Nat) (k : Nat) : Prop := ∀ i j, i ≤ j → j < k → O.kle (f (p.getD i 0)) (f (p.getD j 0))
noncomputable def Dto (O : KeyOrd) (f : Nat → O.α) (p : Array Nat) (k : Nat) : Prop := ∀ i j, i ≤ j → j < k → O.kle (f (p.getD j 0)) (f (p.getD i 0))

theorem tr_asc {p : Array Nat} (hp : PermN N p) (hN : 0 < N) : ∀ (g n : Nat), 1 ≤ n → Sto O f p n →
    Tr O f N (kas_asc p g n) (fun m => n ≤ m ∧ m ≤ n + g ∧ Sto O f p m ∧ (m = n + g ∨ O.klt (f (p.getD m 0)) (f (p.getD (m - 1) 0))))
  | 0, n, _, hs => ⟨Nat.le_refl _, Nat.le_refl _, hs, .inl rfl⟩
  | g + 1, n, h1, hs => by
    refine ⟨hp.lt hN _, hp.lt hN _, ?_⟩
    cases hless : O.blt (f (p.getD n 0)) (f (p.getD (n - 1) 0)) with
    | true => exact ⟨Nat.le_refl _, by lia, hs, .inr hless⟩
    | false =>
      refine Tr.mono (fun m h => ⟨by lia, by lia, h.2.2.1, ?_⟩) (tr_asc hp hN g (n + 1) (by lia) fun i j hij hj => ?_)
      · rcases h.2.2.2 with h | h
        · exact .inl (by lia)
        · exact .inr h
      · by_cases hjx : j < n
        · exact hs i j hij hjx
        · have hj' : j = n := by lia
          subst hj'
          by_cases hi : i = j
          · subst hi; exact KeyOrd.kle_refl _
          · exact KeyOrd.kle_trans (hs i (j - 1) (by lia) (by lia)) hless

theorem tr_desc (hN : 0 < N) : ∀ (g : Nat) (p : Array Nat) (n q : Nat), PermN N p → n + g ≤ N → Dto O f p n → q + 1 ≤ n → (∀ i, n - (q + 1) ≤ i → i < n → f (p.getD i 0) = f (p.getD (n - 1) 0)) →
    Tr O f N (kas_desc g p n q) (fun r => PermN N r.1 ∧ n ≤ r.2.1 ∧ r.2.1 ≤ n + g ∧ Dto O f r.1 r.2.1 ∧ r.2.2 + 1 ≤ r.2.1 ∧ (∀ i, r.2.1 - (r.2.2 + 1) ≤ i → i < r.2.1 → f (r.1.getD i 0) = f (r.1.getD (r.2.1 - 1) 0)))
  | 0, p, n, q, hp, _, hd, hq, he => ⟨hp, Nat.le_refl _, Nat.le_refl _, hd, hq, he⟩
  | g + 1, p, n, q, hp, hn, hd, hq, he => by
    refine ⟨hp.lt hN _, hp.lt hN _, ?_⟩
    have hz := hp.size
    cases hless : O.blt (f (p.getD n 0)) (f (p.getD (n - 1) 0)) with
    | true =>
      have step : ∀ p' : Array Nat, PermN N p' → (∀ k, f (p'.getD k 0) = f (p.getD k 0)) → Tr O f N (kas_desc g p' (n + 1) 0) _ := fun p' hp' hk =>
        tr_desc hN g p' (n + 1) 0 hp' (by lia) (fun i j hij hj => by
          rw [hk, hk]
          by_cases hjx : j < n
          · exact hd i j hij hjx
          · have hj' : j = n := by lia
            subst hj'
            by_cases hi : i = j
            · subst hi; exact KeyOrd.kle_refl _
            · exact KeyOrd.kle_trans (KeyOrd.kle_of_klt hless) (hd i (j - 1) (by lia) (by lia))) (by lia) (fun i a b => by congr 2; lia)
      show Tr O f N (if q > 0 then kas_desc g (kas_rev p (n - (q + 1)) n) (n + 1) 0 else kas_desc g p (n + 1) 0) _
      split
      · refine Tr.mono (fun r h => ⟨h.1, by lia, by lia, h.2.2.2⟩) (step _ (hp.rev _ _) fun k => ?_)
        rw [jrev (by lia)]
        split
        · rw [he _ (by lia) (by lia), he k (by lia) (by lia)]
        · rfl
      · exact Tr.mono (fun r h => ⟨h.1, by lia, by lia, h.2.2.2⟩) (step _ hp fun _ => rfl)
    | false =>
      show Tr O f N (KasT.ask (p.getD (n - 1) 0) (p.getD n 0) fun d => if d = true then KasT.ret (p, n, q) else kas_desc g p (n + 1) (q + 1)) _
      refine ⟨hp.lt hN _, hp.lt hN _, ?_⟩
      cases hlarger : O.blt (f (p.getD (n - 1) 0)) (f (p.getD n 0)) with
      | true => exact ⟨hp, Nat.le_refl _, Nat.le_add_right _ _, hd, hq, he⟩
      | false =>
        have hx : f (p.getD n 0) = f (p.getD (n - 1) 0) := KeyOrd.kle_antisymm hlarger hless
        refine Tr.mono (fun r h => ⟨h.1, by lia, by lia, h.2.2.2⟩) (tr_desc hN g p (n + 1) (q + 1) hp (by lia) (fun i j hij hj => ?_) (by lia) fun i a b => ?_)
        · by_cases hjx : j < n
          · exact hd i j hij hjx
          · have hj' : j = n := by lia
            subst hj'
            by_cases hi : i = j
            · subst hi; exact KeyOrd.kle_refl _
            · rw [hx]; exact hd i (j - 1) (by lia) (by lia)
        · rw [show n + 1 - 1 = n by lia]
          by_cases hi : i = n
          · subst hi; rfl
          · rw [hx]; exact he i (by lia) (by lia)

noncomputable abbrev RunOk (O : KeyOrd) (f : Nat → O.α) (N : Nat) (r : Nat × Array Nat) : Prop := PermN N r.2 ∧ 1 ≤ r.1 ∧ r.1 ≤ N ∧ Sto O f r.2 r.1
theorem tr_tail3 (hN : 0 < N) {n : Nat} {p : Array Nat} (hp : PermN N p) (h1 : 1 ≤ n) (hn : n ≤ N) (hd : Dto O f p n) : Tr O f N (kas_tail3 n N p) (RunOk O f N) := by
  refine Tr.bind (Tr.mono (fun m h => ?_) (tr_asc (hp.rev 0 n) hN (N - n) n h1 fun i j hij hj => ?_))
  · exact ⟨hp.rev 0 n, by lia, by lia, h.2.2.1⟩
  · have hz := hp.size
    rw [jrev (by lia), jrev (by lia), if_pos (by lia), if_pos (by lia)]
    exact hd _ _ (by lia) (by lia)
theorem tr_descPart (hN : 0 < N) {n : Nat} {p : Array Nat} (hp : PermN N p) (hn : n + 1 ≤ N) (hd : Dto O f p (n + 1)) : Tr O f N (kas_descPart n N p) (RunOk O f N) := by
  refine Tr.bind (Tr.mono (fun r h => ?_) (tr_desc hN (N - (n + 1)) p (n + 1) 0 hp (by lia) hd (by lia) fun i a b => by congr 2; lia))
  obtain ⟨hp', a1, a2, hd', hq, he⟩ := h
  have hz := hp'.size
  show Tr O f N (if r.2.2 > 0 then _ else _) _
  split
  · refine tr_tail3 hN (hp'.rev _ _) (by lia) (by lia) fun i j hij hj => ?_
    have same : ∀ k, f ((kas_rev r.1 (r.2.1 - (r.2.2 + 1)) r.2.1).getD k 0) = f (r.1.getD k 0) := fun k => by
      rw [jrev (by lia)]
      split
      · rw [he _ (by lia) (by lia), he k (by lia) (by lia)]
      · rfl
    rw [same, same]
    exact hd' i j hij hj
  · exact tr_tail3 hN hp' (by lia) (by lia) hd'
theorem tr_count (hN : 0 < N) {p : Array Nat} (hp : PermN N p) : Tr O f N (kas_count N p) (RunOk O f N) := by
  have hz := hp.size
  refine Tr.bind (Tr.mono (fun n h => ?_) (tr_asc hp hN (N - 1) 1 (Nat.le_refl _) fun i j hij hj => by
    have : i = j := by lia
    subst this; exact KeyOrd.kle_refl _))
  obtain ⟨a1, a2, hs, hor⟩ := h
  by_cases hnn : n = N
  · rw [if_pos (by simpa using hnn)]
    exact ⟨hp, a1, by lia, hs⟩
  · rw [if_neg (by simpa using hnn)]
    have hlt : O.klt (f (p.getD n 0)) (f (p.getD (n - 1) 0)) := hor.resolve_left (by lia)
    by_cases hgt : n > 1
    · rw [if_pos hgt]
      refine ⟨hp.lt hN _, hp.lt hN _, ?_⟩
      cases hrose : O.blt (f (p.getD 0 0)) (f (p.getD (n - 1) 0)) with
      | true => exact ⟨hp, a1, by lia, hs⟩
      | false =>
        have hall : ∀ k, k < n → f (p.getD k 0) = f (p.getD (n - 1) 0) := fun k hk =>
          KeyOrd.kle_antisymm (hs k (n - 1) (by lia) (by lia)) (KeyOrd.kle_trans hrose (hs 0 k (by lia) hk))
        have same : ∀ k, f ((kas_rev p 0 n).getD k 0) = f (p.getD k 0) := fun k => by
          rw [jrev (by lia)]
          split
          · rw [hall _ (by lia), hall k (by lia)]
          · rfl
        refine tr_descPart hN (hp.rev 0 n) (by lia) fun i j hij hj => ?_
        rw [same, same]
        by_cases hjn : j < n
        · rw [hall i (by lia), hall j hjn]; exact KeyOrd.kle_refl _
        · have hj' : j = n := by lia
          subst hj'
          by_cases hi : i = j
          · subst hi; exact KeyOrd.kle_refl _
          · rw [hall i (by lia)]; exact KeyOrd.kle_of_klt hlt
    · rw [if_neg hgt]
      have e1 : n = 1 := by lia
      subst e1
      refine tr_descPart hN hp (by lia) fun i j hij hj => ?_
      by_cases hi : i = j
      · subst hi; exact KeyOrd.kle_refl _
      · have e2 : i = 0 := by lia
        have e3 : j = 1 := by lia
        subst e2; subst e3
        exact KeyOrd.kle_of_klt hlt
theorem tr_place {p : Array Nat} {k : Nat} (hN : 0 < N) (hp : PermN N p) (hs : Sto O f p k) : ∀ (g l r : Nat), l ≤ r → r ≤ k → r - l ≤ g →
    (∀ i, i < l → O.kle (f (p.getD i 0)) (f (p.getD k 0))) → (∀ i, r ≤ i → i < k → O.klt (f (p.getD k 0)) (f (p.getD i 0))) →
    Tr O f N (kas_place p k g l r) (fun l' => l' ≤ k ∧ (∀ i, i < l' → O.kle (f (p.getD i 0)) (f (p.getD k 0))) ∧ (∀ i, l' ≤ i → i < k → O.klt (f (p.getD k 0)) (f (p.getD i 0))))
  | 0, l, r, hlr, hrk, hm, hlo, hhi => ⟨by lia, hlo, fun i a b => hhi i (by lia) b⟩
  | g + 1, l, r, hlr, hrk, hm, hlo, hhi => by
    show Tr O f N (if l ≥ r then _ else _) _
    by_cases hge : l ≥ r
    · rw [if_pos hge]
      exact ⟨by lia, hlo, fun i a b => hhi i (by lia) b⟩
    · rw [if_neg hge]
      refine ⟨hp.lt hN _, hp.lt hN _, ?_⟩
      cases hless : O.blt (f (p.getD k 0)) (f (p.getD ((l + r) / 2) 0)) with
      | true => exact tr_place hN hp hs g l ((l + r) / 2) (by lia) (by lia) (by lia) hlo fun i a b => KeyOrd.klt_of_klt_of_kle hless (hs _ _ a b)
      | false => exact tr_place hN hp hs g ((l + r) / 2 + 1) r (by lia) hrk (by lia) (fun i a => KeyOrd.kle_trans (hs i ((l + r) / 2) (by lia) (by lia)) (show O.kle _ _ from hless)) hhi
theorem tr_bin (hN : 0 < N) : ∀ (g : Nat) (p : Array Nat) (k : Nat), PermN N p → k + g ≤ N → Sto O f p k → Tr O f N (kas_bin g p k) (fun p' => PermN N p' ∧ Sto O f p' (k + g))
  | 0, p, k, hp, _, hs => ⟨hp, hs⟩
  | g + 1, p, k, hp, hk, hs => by
    refine Tr.bind (Tr.mono (fun l h => ?_) (tr_place hN hp hs k 0 k (by lia) (by lia) (by lia) (fun i hi => by lia) fun i a b => by lia))
    obtain ⟨hlk, hlo, hhi⟩ := h
    have hz := hp.size
    refine Tr.mono (fun p' h => ⟨h.1, by rw [show k + (g + 1) = k + 1 + g by lia]; exact h.2⟩) (tr_bin hN g (bubble p k (k - l)) (k + 1) (hp.bub _ _) (by lia) fun i j hij hj => ?_)
    rw [jbub (by lia) (by lia), jbub (by lia) (by lia), show k - (k - l) = l by lia]
    repeat' split
    all_goals first
      | (exfalso; lia)
      | exact KeyOrd.kle_refl _
      | exact hlo _ (by lia)
      | exact KeyOrd.kle_of_klt (hhi _ (by lia) (by lia))
      | exact hs _ _ (by lia) (by lia)
theorem tr_sort (hN : 0 < N) : Tr O f N (kas_sort N) (fun p => PermN N p ∧ Sto O f p N) := by
  have h0 : PermN N (List.toArray (List.range N)) := by show List.Perm _ _; exact List.Perm.refl _
  refine Tr.bind (Tr.mono (fun r h => ?_) (tr_count hN h0))
  obtain ⟨hp, h1, h2, hs⟩ := h
  show Tr O f N (if r.1 < N then _ else _) _
  split
  · refine Tr.mono (fun p' h => ⟨h.1, ?_⟩) (tr_bin hN (N - max r.1 1) r.2 (max r.1 1) hp (by lia) (by rwa [show max r.1 1 = r.1 by lia]))
    have e := h.2
    rwa [show max r.1 1 + (N - max r.1 1) = N by lia] at e
  · have e : r.1 = N := by lia
    rw [e] at hs
    exact ⟨hp, hs⟩
end

/-! rows: tuples of an int and a text; their order; list.sort over them -/
noncomputable abbrev Row : Type := Int × Str
noncomputable abbrev rowObj (i : Int) (x : Str) (t u : Tok) : Obj := tupOf [.int i t, .str x u]
inductive RowsAre (P : Addr → Obj → Prop) : List Value → List Row → Prop
  | nil : RowsAre P [] []
  | cons {a : Addr} {i : Int} {x : Str} {t u : Tok} {vs : List Value} {rs : List Row} : P a (rowObj i x t u) → RowsAre P vs rs → RowsAre P (.ref a :: vs) ((i, x) :: rs)
theorem RowsAre.length {P : Addr → Obj → Prop} {vs : List Value} {rs : List Row} (h : RowsAre P vs rs) : vs.length = rs.length := by
  induction h with
  | nil => rfl
  | cons _ _ ih => simp [ih]
theorem RowsAre.mono {P P' : Addr → Obj → Prop} (K : ∀ a o, P a o → P' a o) {vs : List Value} {rs : List Row} (h : RowsAre P vs rs) : RowsAre P' vs rs := by
  induction h with
  | nil => exact .nil
  | cons e _ ih => exact .cons (K _ _ e) ih
theorem RowsAre.mono' {P P' : Addr → Obj → Prop} (K : ∀ a i x t u, P a (rowObj i x t u) → P' a (rowObj i x t u)) {vs : List Value} {rs : List Row} (h : RowsAre P vs rs) : RowsAre P' vs rs := by
  induction h with
  | nil => exact .nil
  | cons e _ ih => exact .cons (K _ _ _ _ _ e) ih
theorem RowsAre.keepList {h h' : Heap} {a : Addr} {xs : Array Value} {n : Nat} (ha : h.get? a = some (seqObj "list" xs n)) (K : KeepBut [a] h h') {vs : List Value} {rs : List Row} (R : RowsAre (fun b o => h.get? b = some o) vs rs) : RowsAre (fun b o => h'.get? b = some o) vs rs :=
  R.mono' fun b i x t u e => K b _ (fun q => by
    rw [List.mem_singleton.mp q, ha] at e
    exact absurd (congrArg Obj.cls (Option.some.inj e)) (show (Value.type "list") ≠ Value.type "tuple" by decide)) e
theorem RowsAre.append {P : Addr → Obj → Prop} {vs vs' : List Value} {rs rs' : List Row} (h : RowsAre P vs rs) (h' : RowsAre P vs' rs') : RowsAre P (vs ++ vs') (rs ++ rs') := by
  induction h with
  | nil => exact h'
  | cons e _ ih => exact .cons e ih
theorem RowsAre.get {P : Addr → Obj → Prop} {vs : List Value} {rs : List Row} (h : RowsAre P vs rs) : ∀ {k : Nat}, k < vs.length → ∃ a t u, vs.getD k .none = .ref a ∧ P a (rowObj (rs.getD k (0, ⟨#[]⟩)).1 (rs.getD k (0, ⟨#[]⟩)).2 t u) := by
  induction h with
  | nil => intro k hk; simp at hk
  | @cons a i x t u _ _ e _ ih =>
    intro k hk
    cases k with
    | zero => exact ⟨a, t, u, rfl, e⟩
    | succ k => exact ih (k := k) (by simpa using hk)
theorem RowsAre.mem {P : Addr → Obj → Prop} {vs : List Value} {rs : List Row} (h : RowsAre P vs rs) : ∀ v ∈ vs, ∃ a i x t u, v = .ref a ∧ P a (rowObj i x t u) ∧ (i, x) ∈ rs := by
  induction h with
  | nil => intro v hv; cases hv
  | @cons a i x t u _ _ e _ ih =>
    intro v hv
    rcases List.mem_cons.mp hv with rfl | hv
    · exact ⟨a, i, x, t, u, rfl, e, List.mem_cons_self⟩
    · obtain ⟨a, i, x, t, u, e1, e2, e3⟩ := ih v hv
      exact ⟨a, i, x, t, u, e1, e2, List.mem_cons_of_mem _ e3⟩
theorem RowsAre.pick {P : Addr → Obj → Prop} {vs : List Value} {rs : List Row} (h : RowsAre P vs rs) : ∀ (ks : List Nat), (∀ k ∈ ks, k < vs.length) → RowsAre P (ks.map fun k => vs.getD k .none) (ks.map fun k => rs.getD k (0, ⟨#[]⟩))
  | [], _ => .nil
  | k :: ks, hk => by
    obtain ⟨a, t, u, e1, e2⟩ := h.get (hk k List.mem_cons_self)
    show RowsAre P (vs.getD k .none :: _) (rs.getD k (0, ⟨#[]⟩) :: _)
    rw [e1]
    exact .cons e2 (RowsAre.pick h ks fun j hj => hk j (List.mem_cons_of_mem _ hj))

theorem str_ext {x y : Str} (h : x.cps.toList = y.cps.toList) : x = y := by
  cases x; cases y
  simp only at h
  exact congrArg Str.mk (Array.toList_inj.mp h)
noncomputable def rowLt (a b : Row) : Bool := if a.1 = b.1 then decide (a.2.cps.toList < b.2.cps.toList) else decide (a.1 < b.1)
theorem rowLt_iff {a b : Row} : rowLt a b = true ↔ a.1 < b.1 ∨ a.1 = b.1 ∧ a.2.cps.toList < b.2.cps.toList := by
  unfold rowLt
  split
  · rename_i e; simp only [decide_eq_true_eq]; exact ⟨fun h => .inr ⟨e, h⟩, fun h => h.elim (fun h => by lia) (·.2)⟩
  · rename_i e; simp only [decide_eq_true_eq]; exact ⟨.inl, fun h => h.elim id (fun h => absurd h.1 e)⟩
noncomputable def rowOrd : PyProof.Rows.KeyOrd where
  α := Row
  blt := rowLt
  irrefl a := by
    cases h : rowLt a a with
    | false => rfl
    | true => rcases rowLt_iff.mp h with h | h; · lia
              · exact absurd h.2 (List.lt_irrefl _)
  trans a b c h1 h2 := by
    rw [rowLt_iff] at *
    rcases h1 with h1 | h1 <;> rcases h2 with h2 | h2
    · exact .inl (by lia)
    · exact .inl (by lia)
    · exact .inl (by lia)
    · exact .inr ⟨by lia, List.lt_trans h1.2 h2.2⟩
  negTrans a b c h := by
    rw [rowLt_iff] at *
    rw [rowLt_iff]
    by_cases e1 : a.1 < b.1
    · exact .inl (.inl e1)
    by_cases e2 : b.1 < c.1
    · exact .inr (.inl e2)
    rcases h with h | h
    · lia
    · by_cases hab : a.2.cps.toList < b.2.cps.toList
      · exact .inl (.inr ⟨by lia, hab⟩)
      · exact .inr (.inr ⟨by lia, List.lt_of_le_of_lt (List.not_lt.mp hab) h.2⟩)
  total a b h1 h2 := by
    have n1 : ¬ rowLt a b = true := by rw [h1]; exact Bool.false_ne_true
    have n2 : ¬ rowLt b a = true := by rw [h2]; exact Bool.false_ne_true
    rw [rowLt_iff] at n1 n2
    have e : a.1 = b.1 := by lia
    have e1 : ¬ a.2.cps.toList < b.2.cps.toList := fun q => n1 (.inr ⟨e, q⟩)
    have e2 : ¬ b.2.cps.toList < a.2.cps.toList := fun q => n2 (.inr ⟨e.symm, q⟩)
    exact Prod.ext e (str_ext (List.le_antisymm (List.not_lt.mp e2) (List.not_lt.mp e1)))
noncomputable abbrev rowLe (a b : Row) : Prop := rowOrd.kle a b
theorem rows_uniq {l l' : List Row} (hp : l.Perm l') (h : l.Pairwise rowLe) (h' : l'.Pairwise rowLe) : l = l' :=
  List.Perm.eq_of_pairwise (fun a b _ _ h1 h2 => PyProof.Rows.KeyOrd.kle_antisymm h1 h2) h h' hp

section
open PyProof.Rows
variable {prog : Program} {w : World} {A : Around} {E : Value → Shared → Prop} {s : Shared}
theorem rows_lt {vs : List Value} {rs : List Row} {i j : Nat} {Q : Bool → Shared → Prop} (R : RowsAre (fun a o => s.heap.get? a = some o) vs rs) (hi : i < vs.length) (hj : j < vs.length)
    (h : Q (rowLt (rs.getD i (0, ⟨#[]⟩)) (rs.getD j (0, ⟨#[]⟩))) s) : wpAny (model prog w) A (keyLt' (tuples' true) (vs.getD i .none) (vs.getD j .none)) Q (fun _ _ => False) s := by
  obtain ⟨a, t, u, e1, e2⟩ := R.get hi
  obtain ⟨b, t', u', e3, e4⟩ := R.get hj
  rw [e1, e3]
  generalize rs.getD i (0, ⟨#[]⟩) = x at *
  generalize rs.getD j (0, ⟨#[]⟩) = y at *
  refine kat_lt e2 rfl e4 rfl ?_
  refine kat_cons (wpAny_eqBool_int (kat_go (fun hx => kat_yes ?_) (fun hx => kat_no ?_)))
  · have hx : x.1 = y.1 := by simpa using hx
    refine kat_cons (wpAny_eqBool_str (kat_go (fun hy => kat_yes (kat_nil ?_)) (fun hy => kat_no ?_)))
    · have hy : x.2 = y.2 := by simpa using hy
      have q : rowLt x y = false := by
        rw [show x = y from Prod.ext hx hy]
        exact rowOrd.irrefl y
      rw [q] at h
      exact h
    · refine kat_one _ _ (lt_str ?_)
      show Q (decide (x.2.cps.toList < y.2.cps.toList)) s
      unfold rowLt at h
      rw [if_pos hx] at h
      exact h
  · have hx : ¬ x.1 = y.1 := by simpa using hx
    unfold rowLt at h
    rw [if_neg hx] at h
    exact oneLt_int h
theorem katTups {h : Heap} {vs : List Value} {rs : List Row} (R : RowsAre (fun a o => h.get? a = some o) vs rs) : ∃ fs : List Value, KatTups h vs fs ∧ fs.length = vs.length ∧ ∀ v ∈ fs, ∃ i t, v = Value.int i t := by
  induction R with
  | nil => exact ⟨[], KatTups.nil, rfl, fun v hv => nomatch hv⟩
  | @cons a i x t u _ _ e _ ih =>
    obtain ⟨fs, h1, h2, h3⟩ := ih
    refine ⟨.int i t :: fs, KatTups.cons e rfl rfl rfl h1, by simp [h2], fun v hv => ?_⟩
    rcases List.mem_cons.mp hv with rfl | hv
    · exact ⟨i, t, rfl⟩
    · exact h3 v hv
theorem map_getD_range {α : Type} (l : List α) (d : α) : (List.range l.length).map (fun k => l.getD k d) = l := by
  refine List.ext_getElem (by simp) fun i h1 h2 => ?_
  simp [h2]
/-- list.sort of rows, over the bare heap -/
theorem rows_list_sort {a : Addr} {vs : List Value} {rs : List Row} {n : Nat} {P : PySem.Fin → Shared → Prop} (ho : s.heap.get? a = some (seqObj "list" vs.toArray n)) (R : RowsAre (fun b o => s.heap.get? b = some o) vs rs) (h64 : vs.length < 64)
    (h : ∀ h' c vs' rs', KeepBut [a] s.heap h' → h'.get? a = some (seqObj "list" vs'.toArray c) → RowsAre (fun b o => s.heap.get? b = some o) vs' rs' → rs'.Perm rs → vs'.Perm vs → rs'.Pairwise rowLe → P (.done (.ret .none)) { s with heap := h' }) :
    wpAny (model prog w) A (Builtin.«list.sort» ⟨[.ref a], []⟩) P E s := by
  have ha : a < s.heap.objs.size := Heap.lt_size ho
  obtain ⟨e1, ho1⟩ : ∃ e1, (s.heap.update a (Obj.mapSeq fun _ => (#[] : Array Value))).get? a = some (seqObj "list" #[] e1) := ⟨_, get?_update_seq ho fun _ => #[]⟩
  have k1 : KeepBut [a] s.heap (((s.heap.update a (Obj.mapSeq fun _ => (#[] : Array Value))).push (seqObj "tuple" vs.toArray 0)).push (seqObj "list" #[] 0)) := fun b o hb e => by
    have hb' : b ≠ a := by simpa using hb
    exact Heap.get?_push_of_some _ (Heap.get?_push_of_some _ ((Heap.get?_update_ne _ _ _ _ hb').trans e))
  have ho3 : (((s.heap.update a (Obj.mapSeq fun _ => (#[] : Array Value))).push (seqObj "tuple" vs.toArray 0)).push (seqObj "list" #[] 0)).get? a = some (seqObj "list" #[] e1) := Heap.get?_push_of_some _ (Heap.get?_push_of_some _ ho1)
  have fin : ∀ (s' : Shared) (vs' : List Value) (rs' : List Row), s' = { s with heap := ((s.heap.update a (Obj.mapSeq fun _ => (#[] : Array Value))).push (seqObj "tuple" vs.toArray 0)).push (seqObj "list" #[] 0) } → RowsAre (fun b o => s.heap.get? b = some o) vs' rs' → rs'.Perm rs → vs'.Perm vs → rs'.Pairwise rowLe →
      P (.done (.ret .none)) { s' with heap := s'.heap.update a (Obj.mapSeq fun _ => vs'.toArray) } := by
    rintro s' vs' rs' rfl R' p1 p2 hs
    obtain ⟨c2, hc2⟩ : ∃ c2, ((((s.heap.update a (Obj.mapSeq fun _ => (#[] : Array Value))).push (seqObj "tuple" vs.toArray 0)).push (seqObj "list" #[] 0)).update a (Obj.mapSeq fun _ => vs'.toArray)).get? a = some (seqObj "list" vs'.toArray c2) := ⟨_, get?_update_seq ho3 fun _ => vs'.toArray⟩
    refine h _ c2 vs' rs' (fun b o hb e => ?_) hc2 R' p1 p2 hs
    exact (Heap.get?_update_ne _ _ _ _ (by simpa using hb)).trans (k1 b o hb e)
  have R3 : RowsAre (fun b o => (((s.heap.update a (Obj.mapSeq fun _ => (#[] : Array Value))).push (seqObj "tuple" vs.toArray 0)).push (seqObj "list" #[] 0)).get? b = some o) vs rs := R.keepList ho k1
  rw [list_sort_plain]
  refine wpAny_bind (listItems_at ho rfl ?_)
  refine wpAny_bind (listUpdate_at ho rfl ?_ (by rw [List.size_toArray, sizeLine_eq]; lia) (Nat.zero_le _))
  refine wpAny_bind (seqEpoch_at ho1 rfl ?_)
  refine wpAny_bind (wpAny_newTuple ?_ (by show vs.length ≤ _; rw [sizeLine_eq]; lia))
  refine wpAny_bind (wpAny_newList ?_ (Nat.zero_le _))
  refine wpAny_holding ?_
  show wpAny (model prog w) A _ P E { s with heap := ((s.heap.update a (Obj.mapSeq fun _ => (#[] : Array Value))).push (seqObj "tuple" vs.toArray 0)).push (seqObj "list" #[] 0) }
  dsimp only
  by_cases h2 : vs.toArray.size < 2
  · rw [if_pos h2, if_pos h2]
    refine wpAny_bind (wpAny_pure ?_)
    rw [StateT.run_pure]
    refine wpAny_bind (wpAny_pure ?_)
    dsimp only
    refine wpAny_bind (seqEpoch_at ho3 rfl ?_)
    have hz : (arrOf (SortSt.mk' general' (vs.toArray.zip vs.toArray) #[] 7 none)).map (·.2) = vs.toArray := by
      apply Array.toList_inj.mp
      show ((vs.toArray.zip vs.toArray).map (·.2)).toList = _
      simp only [Array.toList_map, Array.toList_zip]
      exact List.map_snd_zip (Nat.le_refl _)
    rw [hz]
    refine wpAny_bind (listUpdate_at ho3 rfl ?_ (Nat.zero_le _) (by rw [List.size_toArray, sizeLine_eq]; lia))
    simp only [bne_self_eq_false, Bool.false_eq_true, if_false]
    refine wpAny_pure (fin _ vs rs rfl R (.refl _) (.refl _) ?_)
    have hl : rs.length < 2 := by rw [← R.length]; simpa using h2
    match rs, hl with
    | [], _ => exact .nil
    | [_], _ => exact List.pairwise_singleton _ _
  · rw [if_neg h2, if_neg h2]
    have h2' : 2 ≤ vs.length := by
      rw [List.size_toArray] at h2
      lia
    obtain ⟨fs, f1, f2, f3⟩ := katTups R3
    refine wpAny_bind (kat_kind (T := Value.type "int") f1 (by lia) (fun v hv => by obtain ⟨i, t, rfl⟩ := f3 v hv; exact Looks.of_pure rfl) rfl ?_)
    show wpAny _ _ _ _ _ _
    have run : (kas_sort vs.length).kasWp (kas_ask prog w A (tuples' (Value.type "int" != Value.type "tuple")) vs) (fun p s' => s' = { s with heap := ((s.heap.update a (Obj.mapSeq fun _ => (#[] : Array Value))).push (seqObj "tuple" vs.toArray 0)).push (seqObj "list" #[] 0) } ∧ PermN vs.length p ∧ Sto rowOrd (fun k => rs.getD k (0, ⟨#[]⟩)) p vs.length) { s with heap := ((s.heap.update a (Obj.mapSeq fun _ => (#[] : Array Value))).push (seqObj "tuple" vs.toArray 0)).push (seqObj "list" #[] 0) } := by
      refine Tr.wp (O := rowOrd) (f := fun k => rs.getD k (0, ⟨#[]⟩)) (N := vs.length) (Inv := fun s' => s' = { s with heap := ((s.heap.update a (Obj.mapSeq fun _ => (#[] : Array Value))).push (seqObj "tuple" vs.toArray 0)).push (seqObj "list" #[] 0) }) ?_ (fun p s' h e => ⟨e, h⟩) (tr_sort (by lia)) rfl
      rintro i j C s' hi hj rfl hC
      exact rows_lt R3 hi hj (hC _ rfl)
    refine wpAny_bind (wpAny_mono (kat_run (Q := fun st' s' => ∃ p : Array Nat, arrOf st' = p.map (kas_item (vs.toArray.zip vs.toArray)) ∧ failedOf st' = none ∧ s' = { s with heap := ((s.heap.update a (Obj.mapSeq fun _ => (#[] : Array Value))).push (seqObj "tuple" vs.toArray 0)).push (seqObj "list" #[] 0) } ∧ PermN vs.length p ∧ Sto rowOrd (fun k => rs.getD k (0, ⟨#[]⟩)) p vs.length)
      rfl h2' h64 (fun p' st' s' _ a2 a3 a4 => ⟨p', a2, a3, a4⟩) run) ?_ fun _ _ e => e)
    rintro ⟨⟨⟩, st'⟩ s' ⟨p, har, hf, rfl, hp, hs⟩
    dsimp only
    have hout := kat_snds rfl har
    rw [hout]
    have hpl : p.toList.length = vs.length := by rw [Array.length_toList, hp.size]
    have hall : ∀ k ∈ p.toList, k < vs.length := fun k hk => List.mem_range.mp ((List.Perm.mem_iff hp).mp hk)
    refine wpAny_bind (seqEpoch_at ho3 rfl ?_)
    refine wpAny_bind (listUpdate_at ho3 rfl ?_ (Nat.zero_le _) (by rw [List.size_toArray, List.length_map, hpl, sizeLine_eq]; lia))
    rw [hf]
    simp only [bne_self_eq_false, Bool.false_eq_true, if_false]
    refine wpAny_pure (fin _ _ (p.toList.map fun k => rs.getD k (0, ⟨#[]⟩)) rfl (R.pick _ hall) ?_ ?_ ?_)
    · have q := List.Perm.map (fun k => rs.getD k ((0 : Int), (⟨#[]⟩ : Str))) hp
      rwa [R.length, map_getD_range] at q
    · have q := List.Perm.map (fun k => vs.getD k Value.none) hp
      rwa [map_getD_range] at q
    · rw [List.pairwise_iff_getElem]
      intro i j hi hj hij
      have q := hs i j (Nat.le_of_lt hij) (by rw [List.length_map, hpl] at hj; exact hj)
      simp only [List.getElem_map]
      have g : ∀ (k : Nat) (hk : k < p.toList.length), p.getD k 0 = p.toList[k] := fun k hk => by
        have hk' : k < p.size := by simpa using hk
        simp [Array.getD, hk']
      rw [g i (by simpa using hi), g j (by simpa using hj)] at q
      exact q
end

/-! a key that is an int or a text; a row as a tuple key -/
section
noncomputable abbrev MK : Type := Sum Int Str
noncomputable def mixIs : MK → Value → Bool
  | .inl i, v => Value.isInt i v
  | .inr x, v => Value.isStrOf x v
theorem eqBool_int_str {prog : Program} {w : World} {A : Around} {E : Value → Shared → Prop} {s : Shared} {a : Str} {t : Tok} {b : Int} {u : Tok} {Q : Bool → Shared → Prop} (h : Q false s) : wpAny (model prog w) A (eqBool (.int b u) (.str a t)) Q E s := by
  unfold eqBool
  try with_reducible refine wpAny_holding ?_
  refine wpAny_ite_split (fun hab => absurd hab (by simp)) (fun _ => ?_)
  refine wpAny_bind ?_
  exact EqMixed.eq_int_str (wpAny_truthy_bool h)
theorem eqBool_str_int {prog : Program} {w : World} {A : Around} {E : Value → Shared → Prop} {s : Shared} {a : Str} {t : Tok} {b : Int} {u : Tok} {Q : Bool → Shared → Prop} (h : Q false s) : wpAny (model prog w) A (eqBool (.str a t) (.int b u)) Q E s := by
  unfold eqBool
  try with_reducible refine wpAny_holding ?_
  refine wpAny_ite_split (fun hab => absurd hab (by simp)) (fun _ => ?_)
  refine wpAny_bind ?_
  exact EqMixed.eq_str_int (wpAny_truthy_bool h)
noncomputable def mixKind (prog : Program) (w : World) : PySem.KeyKind prog w MK where
  is := mixIs
  hash k := match k with | .inl i => hashInt i | .inr x => hashStr w x
  inj v a b ha hb := by
    cases a <;> cases b <;> cases v <;> simp [mixIs, Value.isInt, Value.isStrOf] at ha hb <;> simp_all
  byValue k v h := by
    cases k with
    | inl i => obtain ⟨t, rfl⟩ := Value.isInt_shape h; rfl
    | inr x => obtain ⟨t, rfl⟩ := Value.isStrOf_shape h; rfl
  pyHash {A E s k v Q} hv h := by
    cases k with
    | inl i => obtain ⟨t, rfl⟩ := Value.isInt_shape hv; exact wpAny_pyHash_int h
    | inr x => obtain ⟨t, rfl⟩ := Value.isStrOf_shape hv; exact wpAny_pyHash_str h
  eqBool {A E s a b u v Q} hu hv h := by
    cases a with
    | inl i =>
      obtain ⟨t, rfl⟩ := Value.isInt_shape hu
      cases b with
      | inl j =>
        obtain ⟨t', rfl⟩ := Value.isInt_shape hv
        refine wpAny_eqBool_int ?_
        have e : decide ((Sum.inl i : MK) = Sum.inl j) = (i == j) := by
          by_cases e : i = j
          · subst e; simp
          · simp [e]
        rwa [e] at h
      | inr y =>
        obtain ⟨t', rfl⟩ := Value.isStrOf_shape hv
        exact eqBool_int_str (by simpa using h)
    | inr x =>
      obtain ⟨t, rfl⟩ := Value.isStrOf_shape hu
      cases b with
      | inl j =>
        obtain ⟨t', rfl⟩ := Value.isInt_shape hv
        exact eqBool_str_int (by simpa using h)
      | inr y =>
        obtain ⟨t', rfl⟩ := Value.isStrOf_shape hv
        refine wpAny_eqBool_str ?_
        have e : decide ((Sum.inr x : MK) = Sum.inr y) = decide (x = y) := by
          by_cases e : x = y
          · subst e; simp
          · simp [e]
        (rwa [e] at h)
  «strs» k x t v h := by
    cases k with
    | inl i => simp [mixIs, Value.isInt] at h
    | inr y =>
      have h' : Value.isStrOf y (.str x t) = true := h
      obtain ⟨u, hu⟩ := Value.isStrOf_shape h'
      injection hu with hx
      subst hx
      cases v <;> rfl
noncomputable abbrev rowKey (r : Row) : List MK := [.inl r.1, .inr r.2]
theorem row_key {prog : Program} {w : World} {h : Heap} {a : Addr} {i : Int} {x : Str} {t u : Tok} (e : h.get? a = some (rowObj i x t u)) : IsTupleKey (mixKind prog w) h (rowKey (i, x)) a :=
  ⟨_, _, 0, e, rfl, rfl, .cons (show Value.isInt i (.int i t) = true by simp [Value.isInt]) (.cons (show Value.isStrOf x (.str x u) = true by simp [Value.isStrOf]) .nil)⟩
theorem rowKey_inj {a b : Row} (h : rowKey a = rowKey b) : a = b := by
  injection h with h1 h2
  injection h2 with h2 _
  injection h1 with h1
  injection h2 with h2
  exact Prod.ext h1 h2
end

/-! the probing of a set's table: a free slot is met -/
section
open PySem.SetTable
noncomputable def itr (f : Nat → Nat) : Nat → Nat → Nat
  | 0, x => x
  | n + 1, x => itr f n (f x)
theorem itr_add (f : Nat → Nat) : ∀ (a b x : Nat), itr f (a + b) x = itr f b (itr f a x)
  | 0, b, x => by rw [Nat.zero_add]; rfl
  | a + 1, b, x => by rw [show a + 1 + b = (a + b) + 1 by lia]; exact itr_add f a b (f x)
noncomputable def fx (M i : Nat) : Nat := (i * 5 + 1) % M
noncomputable def orb (f : Nat → Nat) : Nat → Nat → List Nat
  | 0, _ => []
  | n + 1, x => x :: orb f n (f x)
theorem orb_mem {f : Nat → Nat} {j : Nat} : ∀ {n x : Nat}, j ∈ orb f n x → ∃ k, k < n ∧ itr f k x = j
  | 0, _, h => nomatch h
  | n + 1, x, h => by
    rcases List.mem_cons.mp h with rfl | h
    · exact ⟨0, Nat.succ_pos _, rfl⟩
    · obtain ⟨k, h1, h2⟩ := orb_mem h
      exact ⟨k + 1, Nat.succ_lt_succ h1, h2⟩
noncomputable def Ok3 (m : Nat) : Prop := m = 7 ∨ m = 31 ∨ m = 127
theorem orb8 : (List.range 8).all (fun i => (orb (fx 8) 8 0).contains i) = true ∧ itr (fx 8) 8 0 = 0 := by decide +kernel
theorem orb32 : (List.range 32).all (fun i => (orb (fx 32) 32 0).contains i) = true ∧ itr (fx 32) 32 0 = 0 := by decide +kernel
theorem orb128 : (List.range 128).all (fun i => (orb (fx 128) 128 0).contains i) = true ∧ itr (fx 128) 128 0 = 0 := by decide +kernel
theorem cyc {m : Nat} (hm : Ok3 m) {i j : Nat} (hi : i ≤ m) (hj : j ≤ m) : ∃ k, k ≤ m ∧ itr (fx (m + 1)) k i = j := by
  have go : ∀ M, (List.range M).all (fun i => (orb (fx M) M 0).contains i) = true ∧ itr (fx M) M 0 = 0 → i < M → j < M → ∃ k, k < M ∧ itr (fx M) k i = j := by
    intro M ⟨h1, h2⟩ hi hj
    have get : ∀ x, x < M → ∃ k, k < M ∧ itr (fx M) k 0 = x := fun x hx => by
      rw [List.all_eq_true] at h1
      have q := h1 x (List.mem_range.mpr hx)
      rw [List.contains_iff_mem] at q
      exact orb_mem q
    obtain ⟨a, ha, ea⟩ := get i hi
    obtain ⟨b, hb, eb⟩ := get j hj
    by_cases hab : a ≤ b
    · refine ⟨b - a, by lia, ?_⟩
      rw [← ea, ← itr_add, show a + (b - a) = b by lia, eb]
    · refine ⟨b + M - a, by lia, ?_⟩
      rw [← ea, ← itr_add, show a + (b + M - a) = M + b by lia, itr_add, h2, eb]
  obtain ⟨k, h1, h2⟩ := go (m + 1) (by rcases hm with rfl | rfl | rfl; exact orb8; exact orb32; exact orb128) (by lia) (by lia)
  exact ⟨k, by lia, h2⟩

noncomputable def tn (m : Nat) : Nat → Nat × Nat → Nat × Nat
  | 0, x => x
  | n + 1, x => tn m n (leap m x.1 x.2)
theorem tn_add (m : Nat) : ∀ (a b : Nat) (x : Nat × Nat), tn m (a + b) x = tn m b (tn m a x)
  | 0, b, x => by rw [Nat.zero_add]; rfl
  | a + 1, b, x => by rw [show a + 1 + b = (a + b) + 1 by lia]; exact tn_add m a b _
theorem tn_snd (m : Nat) : ∀ (n : Nat) (x : Nat × Nat), (tn m n x).2 = x.2 / 32 ^ n
  | 0, x => by simp [tn]
  | n + 1, x => by
    show (tn m n (leap m x.1 x.2)).2 = _
    rw [tn_snd m n]
    show x.2 / 32 / 32 ^ n = _
    rw [Nat.div_div_eq_div_mul, show 32 ^ (n + 1) = 32 * 32 ^ n by rw [Nat.pow_succ, Nat.mul_comm]]
theorem tn_fst_le (m : Nat) (n : Nat) (x : Nat × Nat) : (tn m (n + 1) x).1 ≤ m := by
  rw [tn_add m n 1]
  show ((tn m n x).1 * 5 + 1 + (tn m n x).2 / 32) % (m + 1) ≤ m
  have := Nat.mod_lt ((tn m n x).1 * 5 + 1 + (tn m n x).2 / 32) (show 0 < m + 1 by lia)
  lia
theorem tn_itr (m : Nat) : ∀ (n : Nat) (x : Nat × Nat), x.2 < 32 → (tn m n x).1 = itr (fx (m + 1)) n x.1
  | 0, _, _ => rfl
  | n + 1, x, h => by
    have e : x.2 / 32 = 0 := by lia
    show (tn m n (leap m x.1 x.2)).1 = itr _ n (fx (m + 1) x.1)
    rw [tn_itr m n _ (by show x.2 / 32 < 32; lia)]
    show itr _ n ((x.1 * 5 + 1 + x.2 / 32) % (m + 1)) = _
    rw [e]; rfl
theorem bits_lt (h : Int) : bits h < 2 ^ 64 := by
  unfold bits
  have h1 := Int.emod_lt_of_pos h (show (0 : Int) < 2 ^ 64 by decide)
  have h2 := Int.emod_nonneg h (show (2 ^ 64 : Int) ≠ 0 by decide)
  lia
theorem tn_meets {m : Nat} (hm : Ok3 m) (h : Int) {e : Nat} (he : e ≤ m) : ∃ T, T ≤ m + 12 ∧ (tn m T (bits h % (m + 1), bits h)).1 = e := by
  have hs : (tn m 12 (bits h % (m + 1), bits h)).2 < 32 := by
    rw [tn_snd]
    have := bits_lt h
    show bits h / 32 ^ 12 < 32
    lia
  obtain ⟨k, h1, h2⟩ := cyc hm (tn_fst_le m 11 (bits h % (m + 1), bits h)) he
  refine ⟨12 + k, by lia, ?_⟩
  rw [tn_add, tn_itr m k _ hs]
  exact h2

/-- steps of the probe -/
noncomputable def adv (t : SetTable) : Nat → Probe → Probe
  | 0, p => p
  | n + 1, p => adv t n (t.advance p)
theorem adv_add (t : SetTable) : ∀ (a b : Nat) (p : Probe), adv t (a + b) p = adv t b (adv t a p)
  | 0, b, x => by rw [Nat.zero_add]; rfl
  | a + 1, b, x => by rw [show a + 1 + b = (a + b) + 1 by lia]; exact adv_add t a b _
noncomputable def turnAt (t : SetTable) (x : Nat × Nat) : Probe := { j := x.1, more := runEnd t.mask x.1 - x.1, i := x.1, perturb := x.2, dummy := none }
theorem adv_turn (t : SetTable) : ∀ (k : Nat) (p : Probe), p.more = k → p.dummy = none → adv t (k + 1) p = turnAt t (leap t.mask p.i p.perturb)
  | 0, p, h, hd => by
    show t.advance p = _
    unfold advance
    rw [if_neg (by lia)]
    unfold turnAt
    rw [hd]
  | k + 1, p, h, hd => by
    show adv t (k + 1) (t.advance p) = _
    have e : t.advance p = { p with j := p.j + 1, more := p.more - 1 } := by unfold advance; rw [if_pos (by lia)]
    rw [e]
    exact adv_turn t k _ (by show p.more - 1 = k; lia) hd
theorem turn_more (t : SetTable) (x : Nat × Nat) : (turnAt t x).more ≤ 9 := by
  show runEnd t.mask x.1 - x.1 ≤ 9
  unfold runEnd
  split <;> lia
theorem adv_turns (t : SetTable) : ∀ (T : Nat) (x : Nat × Nat), ∃ n, n ≤ 10 * T ∧ adv t n (turnAt t x) = turnAt t (tn t.mask T x)
  | 0, x => ⟨0, Nat.le_refl _, rfl⟩
  | T + 1, x => by
    obtain ⟨n, h1, h2⟩ := adv_turns t T (leap t.mask x.1 x.2)
    have h9 := turn_more t x
    refine ⟨(turnAt t x).more + 1 + n, by lia, ?_⟩
    rw [adv_add, adv_turn t _ _ rfl rfl]
    exact h2
theorem start_turn (t : SetTable) (h : Int) : t.probeStart h = turnAt t (bits h % (t.mask + 1), bits h) := rfl
theorem meets {t : SetTable} (hm : Ok3 t.mask) (h : Int) {e : Nat} (he : e ≤ t.mask) : ∃ n, n < 10 * turns t.mask ∧ (adv t n (t.probeStart h)).j = e := by
  obtain ⟨T, h1, h2⟩ := tn_meets hm h he
  obtain ⟨n, h3, h4⟩ := adv_turns t T (bits h % (t.mask + 1), bits h)
  refine ⟨n, by show n < 10 * (t.mask + 15); lia, ?_⟩
  rw [start_turn, h4]
  exact h2
theorem adv_dummy (t : SetTable) : ∀ (n : Nat) (p : Probe), p.dummy = none → (adv t n p).dummy = none
  | 0, _, h => h
  | n + 1, p, h => adv_dummy t n _ (by unfold advance; split <;> exact h)
theorem slot_free {t : SetTable} (hd : t.dummies = #[]) {j : Nat} (hj : j ∉ t.place.toList) : t.slot j = .empty := by
  unfold slot
  have h1 : ¬ (t.place[below t.place j]? == some j) = true := fun q => by
    have q := eq_of_beq q
    exact hj (by rw [← Array.getElem?_toList] at q; exact List.mem_of_getElem? q)
  have h2 : has t.dummies j = false := by rw [hd]; unfold has; rfl
  show (if (t.place[below t.place j]? == some j) = true then _ else if has t.dummies j = true then _ else _) = _
  rw [if_neg h1, h2, if_neg Bool.false_ne_true]
theorem slot_live {t : SetTable} {j i : Nat} (h : t.slot j = .live i) : i < t.place.size := by
  unfold slot at h
  by_cases h1 : (t.place[below t.place j]? == some j) = true
  · have h' : (if (t.place[below t.place j]? == some j) = true then Slot.live (below t.place j) else if has t.dummies j = true then Slot.dummy else Slot.empty) = .live i := h
    rw [if_pos h1] at h'
    injection h' with h'
    have q := eq_of_beq h1
    rw [← h']
    exact (Array.getElem?_eq_some_iff.mp q).1
  · have h' : (if (t.place[below t.place j]? == some j) = true then Slot.live (below t.place j) else if has t.dummies j = true then Slot.dummy else Slot.empty) = .live i := h
    rw [if_neg h1] at h'
    split at h' <;> cases h'
theorem slot_dummy {t : SetTable} (hd : t.dummies = #[]) {j : Nat} : t.slot j ≠ .dummy := fun h => by
  unfold slot at h
  have h2 : has t.dummies j = false := by rw [hd]; unfold has; rfl
  have h' : (if (t.place[below t.place j]? == some j) = true then Slot.live (below t.place j) else if has t.dummies j = true then Slot.dummy else Slot.empty) = .dummy := h
  rw [h2, if_neg Bool.false_ne_true] at h'
  split at h' <;> cases h'
theorem nodup_len : ∀ {l l' : List Nat}, l.Nodup → (∀ x ∈ l, x ∈ l') → l.length ≤ l'.length
  | [], _, _, _ => Nat.zero_le _
  | a :: l, l', h, hs => by
    have h' := List.nodup_cons.mp h
    have ha := hs a List.mem_cons_self
    have q := nodup_len (l' := l'.erase a) h'.2 fun x hx => (List.mem_erase_of_ne (fun (e : x = a) => h'.1 (e ▸ hx))).mpr (hs x (List.mem_cons_of_mem _ hx))
    have e := List.length_erase_of_mem ha
    have p := List.length_pos_of_mem ha
    rw [List.length_cons]
    lia
theorem free_slot {t : SetTable} (hz : t.place.size ≤ t.mask) : ∃ e, e ≤ t.mask ∧ e ∉ t.place.toList := by
  refine Classical.byContradiction fun hn => ?_
  have sub : ∀ x ∈ List.range (t.mask + 1), x ∈ t.place.toList := fun x hx => Classical.byContradiction fun q => hn ⟨x, by have := List.mem_range.mp hx; lia, q⟩
  have := nodup_len List.nodup_range sub
  rw [List.length_range, Array.length_toList] at this
  lia
/-- what a search from p meets -/
theorem probe_go {t : SetTable} (hd : t.dummies = #[]) {hashAt : Nat → Int} {h : Int} : ∀ (n fuel : Nat) (p : Probe), n < fuel → p.dummy = none → t.slot (adv t n p).j = .empty →
    (∃ j, probe.go t hashAt h fuel p = some (.empty j none) ∧ t.slot j = .empty) ∨
    (∃ j i k, probe.go t hashAt h fuel p = some (.candidate j i (adv t (k + 1) p)) ∧ k < n ∧ t.slot j = .live i ∧ hashAt i = h)
  | n, 0, p, hf, _, _ => absurd hf (Nat.not_lt_zero _)
  | 0, fuel + 1, p, _, hp, he => by
    refine .inl ⟨p.j, ?_, he⟩
    have he' : t.slot p.j = .empty := he
    unfold probe.go
    rw [he', hp]
  | n + 1, fuel + 1, p, hf, hp, he => by
    unfold probe.go
    cases hs : t.slot p.j with
    | empty => exact .inl ⟨p.j, by rw [hp], hs⟩
    | dummy => exact absurd hs (slot_dummy hd)
    | live i =>
      have ih := probe_go hd (hashAt := hashAt) (h := h) n fuel (t.advance p) (by lia) (adv_dummy t 1 p hp) he
      by_cases hh : (hashAt i == h) = true
      · refine .inr ⟨p.j, i, 0, ?_, Nat.succ_pos _, hs, eq_of_beq hh⟩
        show (if (hashAt i == h) = true then _ else _) = _
        rw [if_pos hh]; rfl
      · show (∃ j, (if (hashAt i == h) = true then _ else _) = _ ∧ _) ∨ (∃ j i' k, (if (hashAt i == h) = true then _ else _) = _ ∧ _)
        rw [if_neg hh]
        rcases ih with ⟨j, h1, h2⟩ | ⟨j, i', k, h1, h2, h3⟩
        · exact .inl ⟨j, h1, h2⟩
        · exact .inr ⟨j, i', k + 1, h1, by lia, h3⟩

/-! the table laid anew -/
theorem tn_front (m n : Nat) (x : Nat × Nat) : tn m (n + 1) x = tn m n (leap m x.1 x.2) := rfl
theorem free_some {m : Nat} {owner : Array (Option Nat)} (hz : owner.size = m + 1) {e : Nat} (he : owner.getD e (some 0) = none) : ∀ (T fuel : Nat) (x : Nat × Nat), T < fuel → (tn m T x).1 = e →
    ∃ j, layClean.free m owner fuel x.1 x.2 = some j ∧ owner.getD j (some 0) = none
  | T, 0, _, h, _ => absurd h (Nat.not_lt_zero _)
  | T, fuel + 1, x, hf, hT => by
    unfold layClean.free
    cases hq : (List.range (runEnd m x.1 + 1 - x.1)).find? fun k => (owner.getD (x.1 + k) (some 0)).isNone with
    | some k =>
      have q := List.find?_some hq
      exact ⟨x.1 + k, rfl, by simpa using q⟩
    | none =>
      match T, hT with
      | 0, hT =>
        exfalso
        have hx : x.1 = e := hT
        have q := List.find?_eq_none.mp hq 0 (List.mem_range.mpr (by unfold runEnd; split <;> lia))
        rw [Nat.add_zero, hx, he] at q
        exact q rfl
      | T + 1, hT => exact free_some hz he T fuel (leap m x.1 x.2) (by lia) hT
theorem filterMap_put {owner : Array (Option Nat)} {j k : Nat} (hj : j < owner.size) (hn : owner.getD j (some 0) = none) : ((owner.setIfInBounds j (some k)).toList.filterMap id).Perm (k :: owner.toList.filterMap id) := by
  have e : owner[j] = none := by
    have : owner.getD j (some 0) = owner[j] := by simp [Array.getD, hj]
    rw [← this]; exact hn
  have el : owner.toList = owner.toList.take j ++ none :: owner.toList.drop (j + 1) := by
    have h1 : owner.toList.drop j = owner.toList[j]'(by simpa using hj) :: owner.toList.drop (j + 1) := List.drop_eq_getElem_cons (by simpa using hj)
    have h2 : owner.toList[j]'(by simpa using hj) = none := by simpa using e
    rw [h2] at h1
    rw [← h1]
    exact (List.take_append_drop j owner.toList).symm
  have es : (owner.setIfInBounds j (some k)).toList = owner.toList.take j ++ some k :: owner.toList.drop (j + 1) := by
    rw [Array.toList_setIfInBounds, List.set_eq_take_append_cons_drop, if_pos (by simpa using hj)]
  rw [es, List.filterMap_append, List.filterMap_cons_some (show id (some k) = some k from rfl)]
  conv => rhs; rw [el, List.filterMap_append, List.filterMap_cons_none (show id (none : Option Nat) = none from rfl)]
  exact List.perm_middle
noncomputable def Owned (m k : Nat) (owner : Array (Option Nat)) : Prop := owner.size = m + 1 ∧ (owner.toList.filterMap id).Perm (List.range k)
theorem owned_free {m k : Nat} {owner : Array (Option Nat)} (h : Owned m k owner) (hk : k ≤ m) : ∃ e, e ≤ m ∧ owner.getD e (some 0) = none := by
  refine Classical.byContradiction fun hn => ?_
  have all : ∀ x ∈ owner.toList, x.isSome = true := fun x hx => by
    obtain ⟨i, hi, rfl⟩ := List.getElem_of_mem hx
    cases hc : owner.toList[i] with
    | some _ => rfl
    | none =>
      have hi' : i < owner.size := by simpa using hi
      have hz := h.1
      refine absurd ⟨i, by lia, ?_⟩ hn
      have : owner.getD i (some 0) = owner[i] := by simp [Array.getD, hi']
      rw [this, ← Array.getElem_toList, hc]
  have len : ∀ l : List (Option Nat), (∀ x ∈ l, x.isSome = true) → (l.filterMap id).length = l.length := fun l => by
    induction l with
    | nil => intro _; rfl
    | cons a l ih =>
      intro hl
      cases a with
      | none => exact absurd (hl none List.mem_cons_self) Bool.false_ne_true
      | some a =>
        rw [List.filterMap_cons_some (show id (some a) = some a from rfl), List.length_cons, List.length_cons, ih fun x hx => hl x (List.mem_cons_of_mem _ hx)]
  have q := h.2.length_eq
  rw [len _ all, List.length_range, Array.length_toList, h.1] at q
  lia
theorem layClean_some {m : Nat} (hm : Ok3 m) (hs : Array Int) (hz : hs.size ≤ m) : ∃ owner, layClean m hs = some owner ∧ Owned m hs.size owner := by
  have go : ∀ (l : List Int) (owner : Array (Option Nat)) (k : Nat), Owned m k owner → k + l.length ≤ m + 1 → ∃ owner', (l.foldl (fun (acc : Option (Array (Option Nat) × Nat)) h => do
      let (owner, k) ← acc
      let j ← layClean.free m owner (turns m) (bits h % (m + 1)) (bits h)
      pure (owner.setIfInBounds j (some k), k + 1)) (some (owner, k))) = some (owner', k + l.length) ∧ Owned m (k + l.length) owner' := by
    intro l
    induction l with
    | nil => intro owner k ho _; exact ⟨owner, rfl, ho⟩
    | cons h l ih =>
      intro owner k ho hk
      rw [List.length_cons] at hk
      obtain ⟨e, he, hf⟩ := owned_free ho (by lia)
      obtain ⟨T, hT, hTe⟩ := tn_meets hm h he
      obtain ⟨j, hj, hn⟩ := free_some ho.1 hf T (turns m) (bits h % (m + 1), bits h) (by show T < m + 15; lia) hTe
      have hj' : j < owner.size := Classical.byContradiction fun q => by
        have : owner.getD j (some 0) = some 0 := by simp [Array.getD, q]
        rw [this] at hn; cases hn
      have ho' : Owned m (k + 1) (owner.setIfInBounds j (some k)) := by
        refine ⟨by rw [Array.size_setIfInBounds]; exact ho.1, (filterMap_put hj' hn).trans ?_⟩
        rw [List.range_succ]
        exact ((List.Perm.cons k ho.2)).trans (List.perm_append_singleton k _).symm
      obtain ⟨owner', h1, h2⟩ := ih _ (k + 1) ho' (by lia)
      refine ⟨owner', ?_, by rw [List.length_cons, show k + (l.length + 1) = k + 1 + l.length by lia]; exact h2⟩
      rw [List.foldl_cons, List.length_cons, show k + (l.length + 1) = k + 1 + l.length by lia, ← h1]
      congr 1
      show (layClean.free m owner (turns m) (bits h % (m + 1)) (bits h)).bind (fun j => some (owner.setIfInBounds j (some k), k + 1)) = _
      rw [hj]; rfl
  have h0 : Owned m 0 (Array.replicate (m + 1) none) := by
    refine ⟨Array.size_replicate, ?_⟩
    rw [Array.toList_replicate]
    have : (List.replicate (m + 1) (none : Option Nat)).filterMap id = [] := by
      rw [List.filterMap_eq_nil_iff]
      intro x hx
      exact List.eq_of_mem_replicate hx
    rw [this]
    exact .refl _
  obtain ⟨owner, h1, h2⟩ := go hs.toList (Array.replicate (m + 1) none) 0 h0 (by rw [Array.length_toList]; lia)
  rw [Nat.zero_add, Array.length_toList] at h1 h2
  refine ⟨owner, ?_, h2⟩
  unfold layClean
  rw [← Array.foldl_toList, h1]
  rfl
theorem live_snds {m : Nat} {owner : Array (Option Nat)} (hz : owner.size = m + 1) : ((List.range (m + 1)).filterMap fun j => (owner.getD j none).map (j, ·)).map (·.2) = owner.toList.filterMap id := by
  rw [List.map_filterMap]
  have e : owner.toList = (List.range (m + 1)).map fun j => owner.getD j none := by
    refine List.ext_getElem (by simp [hz]) fun i h1 h2 => ?_
    have h3 : i < owner.size := by simpa using h1
    simp [Array.getD, h3]
  rw [e, List.filterMap_map]
  congr 1
  funext j
  show Option.map _ (Option.map _ _) = _
  rw [Option.map_map]
  show Option.map (fun x => x) _ = _
  rw [Option.map_id']
  rfl
theorem relaid_some {t : SetTable} {hs : Array Int} {wanted : Nat} (hm : Ok3 (sizeAbove wanted - 1)) (hz : hs.size ≤ sizeAbove wanted - 1) :
    ∃ t' order, t.relaid hs wanted = some (t', order) ∧ order.toList.Perm (List.range hs.size) ∧ t'.place.size = hs.size ∧ t'.dummies = #[] ∧ t'.mask = sizeAbove wanted - 1 ∧ t'.led = t.led ∧ t'.plain = t.plain := by
  obtain ⟨owner, h1, h2⟩ := layClean_some hm hs hz
  have e : t.relaid hs wanted = some ({ mask := sizeAbove wanted - 1, place := (((List.range (sizeAbove wanted - 1 + 1)).filterMap fun j => (owner.getD j none).map (j, ·)).map (·.1)).toArray, dummies := #[], finger := t.finger, led := t.led, moves := t.movedTo (sizeAbove wanted - 1), plain := t.plain },
      (((List.range (sizeAbove wanted - 1 + 1)).filterMap fun j => (owner.getD j none).map (j, ·)).map (·.2)).toArray) := by
    show (layClean (sizeAbove wanted - 1) hs).bind _ = _
    rw [h1]; rfl
  have p := h2.2
  rw [← live_snds h2.1] at p
  refine ⟨_, _, e, p, ?_, rfl, rfl, rfl, rfl⟩
  have q := p.length_eq
  rw [List.length_map, List.length_range] at q
  show (List.toArray _).size = _
  rw [List.size_toArray, List.length_map, q]
theorem reorder_perm {es : Array (Int × Value)} {order : Array Nat} (hp : order.toList.Perm (List.range es.size)) : (order.filterMap (es[·]?)).toList.Perm es.toList := by
  rw [Array.toList_filterMap]
  exact (List.Perm.filterMap _ hp).trans (by rw [PySem.filterMap_getElem?_range])
end

/-! a set that is filled with rows -/
section
open PySem.SetTable
variable {prog : Program} {w : World} {A : Around} {E : Value → Shared → Prop} {s : Shared}
noncomputable abbrev setObj (es : Array (Int × Value)) (ep : Nat) (t : SetTable) : Obj := { cls := .type "set", dict := none, data := .set es ep t, slots := #[] }
/-- what a table of n has -/
structure TabOk (w : World) (t : SetTable) (n : Nat) : Prop where
  place : t.place.size = n
  dummies : t.dummies = #[]
  few : t.mask = 7 ∧ n ≤ 4 ∨ t.mask = 31 ∧ n ≤ 18 ∨ t.mask = 127 ∧ n ≤ 63
  led : w.params.followText "set-order" = false → t.led = true
  plain : t.plain = true → n = 0
theorem TabOk.mask {t : SetTable} {n : Nat} (h : TabOk w t n) : Ok3 t.mask := by
  rcases h.few with h | h | h
  · exact .inl h.1
  · exact .inr (.inl h.1)
  · exact .inr (.inr h.1)
theorem TabOk.lt {t : SetTable} {n : Nat} (h : TabOk w t n) : n ≤ t.mask := by rcases h.few with h | h | h <;> omega
theorem TabOk.fits {t : SetTable} {es : Array (Int × Value)} (h : TabOk w t es.size) : t.fits es.size = true := by
  unfold SetTable.fits SetTable.fill
  rw [h.place, h.dummies]
  have := h.lt
  simpa using this
theorem TabOk.gave {t : SetTable} {n : Nat} (h : TabOk w t n) : t.gaveWay = false := by
  unfold SetTable.gaveWay
  rcases h.few with h | h | h <;> rw [h.1] <;> rfl
/-- its elements are rows of the heap -/
noncomputable def ElemsIn (h : Heap) (es : Array (Int × Value)) : Prop := ∀ e ∈ es.toList, ∃ a i x t u, e.2 = .ref a ∧ h.get? a = some (rowObj i x t u)
theorem class_never {a : Addr} {i : Int} {x : Str} {t u : Tok} {n : Nat} {Q : Bool → Shared → Prop} (ha : s.heap.get? a = some (rowObj i x t u)) (h : Q false s) : wpAny (model prog w) A (ofAClassStatement (n + 2) (.ref a)) Q E s := by
  unfold ofAClassStatement
  refine wpAny_bind (wpAny_typeOf ⟨_, ha, rfl⟩ ?_)
  dsimp only
  refine wpAny_bind ?_
  refine wpAny_pure ?_
  simp only [Bool.not_true, Bool.false_eq_true, if_false]
  refine wpAny_bind (wpAny_seqItems ha rfl ?_)
  dsimp only
  refine wpAny_bind ?_
  show wpAny _ _ (forIn #[Value.int i t, Value.str x u] _ _) _ _ s
  rw [← Array.forIn_toList]
  show wpAny _ _ (forIn [Value.int i t, Value.str x u] _ _) _ _ s
  rw [List.forIn_cons]
  refine wpAny_bind ?_
  unfold ofAClassStatement
  refine wpAny_bind (wpAny_pure ?_)
  simp only [Bool.false_eq_true, if_false]
  refine wpAny_pure ?_
  dsimp only
  rw [List.forIn_cons]
  refine wpAny_bind ?_
  refine wpAny_bind (wpAny_pure ?_)
  simp only [Bool.false_eq_true, if_false]
  refine wpAny_pure ?_
  dsimp only
  rw [List.forIn_nil]
  exact wpAny_pure (wpAny_pure h)
theorem quiet_row {a : Addr} {i : Int} {x : Str} {t u : Tok} {Q : Bool → Shared → Prop} (ha : s.heap.get? a = some (rowObj i x t u)) (h : Q true s) : wpAny (model prog w) A (eqIsQuiet 8 (.ref a)) Q E s :=
  wpAny_eqIsQuiet_tuple (row_key (prog := prog) (w := w) ha) h
theorem seen_never {a : Addr} {i : Int} {x : Str} {t u : Tok} {l : List Value} {Q : Bool → Shared → Prop} (ha : s.heap.get? a = some (rowObj i x t u)) (hl : ∀ v ∈ l, ∃ b j y t' u', v = Value.ref b ∧ s.heap.get? b = some (rowObj j y t' u')) (h : Q false s) :
    wpAny (model prog w) A (searchCouldBeSeen (.ref a) l) Q E s := by
  unfold searchCouldBeSeen
  refine wpAny_bind ?_
  refine wpAny_forIn_list _ (fun rest r s' => r.1 = none ∧ s' = s ∧ ∀ v ∈ rest, ∃ b j y t' u', v = Value.ref b ∧ s.heap.get? b = some (rowObj j y t' u')) _ ?_ ?_ _ _ ⟨rfl, rfl, hl⟩
  · rintro v rest r s' ⟨hr, rfl, hall⟩
    obtain ⟨b, j, y, t', u', rfl, hb⟩ := hall v List.mem_cons_self
    have keep : ∀ v ∈ rest, ∃ b j y t' u', v = Value.ref b ∧ s'.heap.get? b = some (rowObj j y t' u') := fun v hv => hall v (List.mem_cons_of_mem _ hv)
    dsimp only
    by_cases hab : (a == b || carriedByValue (.ref a) && carriedByValue (.ref b)) = true
    · rw [if_pos hab]
      exact wpAny_pure ⟨rfl, rfl, keep⟩
    · rw [if_neg hab]
      refine wpAny_bind (quiet_row ha ?_)
      simp only [Bool.not_true, Bool.false_eq_true, if_false]
      refine wpAny_bind (quiet_row hb ?_)
      simp only [Bool.not_true, Bool.false_eq_true, if_false]
      refine wpAny_bind (class_never (n := 6) ha ?_)
      simp only [Bool.false_eq_true, if_false]
      refine wpAny_bind (class_never (n := 6) hb ?_)
      simp only [Bool.false_eq_true, if_false]
      exact wpAny_pure ⟨rfl, rfl, keep⟩
  · rintro ⟨r1, r2⟩ s' ⟨hr, rfl, _⟩
    simp only at hr
    subst hr
    exact wpAny_pure h
theorem value_hash {a : Addr} {i : Int} {x : Str} {t u : Tok} {Q : Bool → Shared → Prop} (ha : s.heap.get? a = some (rowObj i x t u)) (h : Q false s) : wpAny (model prog w) A (hashByValue 8 (.ref a)) Q E s := by
  unfold hashByValue
  refine wpAny_bind (wpAny_specialOf ⟨_, ha, rfl⟩ F.slot_tuple_hash.lookup ?_)
  dsimp only
  refine wpAny_bind (wpAny_seqItems ha rfl ?_)
  refine wpAny_bind ?_
  show wpAny _ _ (forIn #[Value.int i t, Value.str x u] _ _) _ _ s
  rw [← Array.forIn_toList]
  show wpAny _ _ (forIn [Value.int i t, Value.str x u] _ _) _ _ s
  rw [List.forIn_cons]
  refine wpAny_bind ?_
  unfold hashByValue
  refine wpAny_bind (wpAny_pure ?_)
  simp only [Bool.not_true, Bool.false_eq_true, if_false]
  refine wpAny_pure ?_
  dsimp only
  rw [List.forIn_cons]
  refine wpAny_bind ?_
  refine wpAny_bind (wpAny_pure ?_)
  simp only [Bool.not_false, if_true]
  refine wpAny_pure ?_
  exact wpAny_pure (wpAny_pure h)

/-- the search for a row: a free slot, or a row alike -/
theorem search_rows {S a : Addr} {i : Int} {x : Str} {t u : Tok} {es : Array (Int × Value)} {ep : Nat} {tb : SetTable} {hv : Int} (hS : s.heap.get? S = some (setObj es ep tb)) (T : TabOk w tb es.size) (R : ElemsIn s.heap es)
    (ha : s.heap.get? a = some (rowObj i x t u)) (hu : A.units < cLine) {Q : SetFound → Shared → Prop}
    (h1 : ∀ j, tb.slot j = .empty → Q (.free j false) s) (h2 : (∃ e ∈ es.toList, ∃ b t' u', e.2 = .ref b ∧ s.heap.get? b = some (rowObj i x t' u')) → Q (.there none) s) :
    ∀ (n fuel : Nat) (stand : Option Probe), n < fuel → n < 10 * turns tb.mask → (stand.getD (tb.probeStart hv)).dummy = none → tb.slot (adv tb n (stand.getD (tb.probeStart hv))).j = .empty →
      wpAny (model prog w) A (setSearchFrom S (.ref a) hv true fuel stand) Q E s := by
  intro n
  induction n using Nat.strongRecOn with
  | _ n ih =>
    intro fuel stand hf hn hd he
    cases fuel with
    | zero => omega
    | succ fuel =>
      unfold setSearchFrom
      refine wpAny_bind (wpAny_setState_of hS rfl T.fits ?_)
      dsimp only
      rw [T.gave]
      simp only [Bool.false_eq_true, if_false]
      have hp := fun H => probe_go T.dummies (hashAt := H) (h := hv) n (10 * turns tb.mask) (stand.getD (tb.probeStart hv)) hn hd he
      split
      · rename_i met heq
        obtain ⟨H, hH⟩ : ∃ H, tb.probe H hv (stand.getD (tb.probeStart hv)) = some met := ⟨_, heq⟩
        rcases hp H with ⟨j, e1, e2⟩ | ⟨j, k, m, e1, e2, e3, e4⟩
        · rw [show tb.probe H hv (stand.getD (tb.probeStart hv)) = _ from e1] at hH
          cases hH
          dsimp only
          exact wpAny_pure (h1 j e2)
        · rw [show tb.probe H hv (stand.getD (tb.probeStart hv)) = _ from e1] at hH
          cases hH
          dsimp only
          have hk : k < es.size := by rw [← T.place]; exact slot_live e3
          have hget : es[k]? = some es[k] := by simp [hk]
          have hmem : es[k] ∈ es.toList := by simp
          obtain ⟨b, j', y, t', u', hb, hbo⟩ := R _ hmem
          have go : wpAny (model prog w) A (do
              let some (_, y) := es[k]? | unsupported "internal:set-entry"
              let equal ← holding [y] (eqBool y (.ref a))
              let (es', _, t') ← setState S
              if true && equal then return .there none
              let some same := t'.sameMemory tb.moves tb.mask | unsupported "set.changed-during-lookup:is-the-new-block-at-the-old-address"
              let still ← match (if same then t'.slot j else .empty) with
                | .live i' => match es'[i']? with
                  | some (_, y') => do pure (if ← isSame y' y then some i' else none)
                  | none => pure none
                | _ => pure none
              match still with
              | none => rule "set.search.anew"; setSearchFrom S (.ref a) hv true fuel none
              | some i' => if equal then return .there (some i') else setSearchFrom S (.ref a) hv true fuel (some (adv tb (m + 1) (stand.getD (tb.probeStart hv))))) Q E s := by
            rw [hget]
            dsimp only
            rw [hb]
            refine wpAny_bind (wpAny_holding (wpAny_eqBool_tuple hu (row_key (prog := prog) (w := w) hbo) (row_key (prog := prog) (w := w) ha) ?_))
            refine wpAny_bind (wpAny_setState_of hS rfl T.fits ?_)
            dsimp only
            by_cases hr : rowKey (j', y) = rowKey (i, x)
            · rw [decide_eq_true hr]
              simp only [Bool.and_self, if_true]
              have e := rowKey_inj hr
              injection e with e5 e6
              subst e5; subst e6
              exact wpAny_pure (h2 ⟨_, hmem, b, t', u', hb, hbo⟩)
            · rw [decide_eq_false hr]
              simp only [Bool.and_false, Bool.false_eq_true, if_false]
              have hsm : tb.sameMemory tb.moves tb.mask = some true := by unfold SetTable.sameMemory; simp
              rw [hsm]
              dsimp only
              rw [if_pos rfl, e3]
              dsimp only
              rw [hget]
              dsimp only
              rw [hb]
              refine wpAny_bind (wpAny_isSame_ref_self (wpAny_bind (wpAny_pure ?_)))
              simp only [if_true]
              refine ih (n - (m + 1)) (by omega) fuel (some (adv tb (m + 1) (stand.getD (tb.probeStart hv)))) (by omega) (by omega) (adv_dummy _ _ _ hd) ?_
              show tb.slot (adv tb (n - (m + 1)) (adv tb (m + 1) _)).j = _
              rw [← adv_add, show m + 1 + (n - (m + 1)) = n by omega]
              exact he
          by_cases hl : (!tb.led) = true
          · rw [if_pos hl]
            refine wpAny_bind (seen_never ha ?_ ?_)
            · intro v hv'
              rw [List.mem_map] at hv'
              obtain ⟨e, he', rfl⟩ := hv'
              have : e ∈ es.toList := by
                rw [Array.toList_filter] at he'
                exact (List.mem_filter.mp he').1
              obtain ⟨b, j', y, t', u', hb, hbo⟩ := R _ this
              exact ⟨b, j', y, t', u', hb, hbo⟩
            · simp only [Bool.false_eq_true, if_false]
              exact go
          · rw [if_neg hl]
            exact go
      · rename_i hnone
        exfalso
        obtain ⟨H, hH⟩ : ∃ H, ∀ met, tb.probe H hv (stand.getD (tb.probeStart hv)) = some met → False := ⟨_, hnone⟩
        rcases hp H with ⟨j, e1, e2⟩ | ⟨j, k, m, e1, e2, e3, e4⟩
        · exact hH _ e1
        · exact hH _ e1
end

/-! a row is put into a set -/
section
open PySem.SetTable
variable {prog : Program} {w : World} {A : Around} {E : Value → Shared → Prop} {s : Shared}
theorem setRelay_eq (a : Addr) (wanted : Nat) : setRelay a wanted = (do
    let (es, _, t) ← setState a
    if SetTable.sizeAbove wanted > sizeLine then unsupported "set:memory"
    let (es, t) ← (do
      let some (t, order) := t.relaid (es.map (·.1)) wanted | unsupported "internal:set-table-without-room"
      let es' := order.filterMap (es[·]?)
      if es'.size != es.size then unsupported "internal:set-table-lost-an-element"
      pure (es', t))
    storeSet a es t) := rfl
theorem put_get {h : Heap} {S : Addr} {es es' : Array (Int × Value)} {ep : Nat} {tb tb' : SetTable} (hS : h.get? S = some (setObj es ep tb)) : (h.update S (Obj.putSet es' tb')).get? S = some (setObj es' (ep + 1) tb') := by
  have := Heap.get?_update_self (Obj.putSet es' tb') hS (by rw [putSet_of es' tb' (o := setObj es ep tb) rfl]; rfl)
  rw [putSet_of es' tb' (o := setObj es ep tb) rfl] at this
  exact this
theorem put_keep {h : Heap} {S : Addr} {f : Obj → Obj} : KeepBut [S] h (h.update S f) := fun b o hb e => (Heap.get?_update_ne _ _ _ _ (by simpa using hb)).trans e
theorem relay_ok {S : Addr} {es : Array (Int × Value)} {ep : Nat} {tb : SetTable} {wanted : Nat} {Q : Unit → Shared → Prop} (hS : s.heap.get? S = some (setObj es ep tb)) (hf : tb.fits es.size = true) (hm : Ok3 (sizeAbove wanted - 1)) (hz : es.size ≤ sizeAbove wanted - 1) (hl : sizeAbove wanted ≤ 128)
    (h : ∀ es' t', es'.toList.Perm es.toList → t'.place.size = es.size → t'.dummies = #[] → t'.mask = sizeAbove wanted - 1 → t'.led = tb.led → t'.plain = tb.plain → Q () { s with heap := s.heap.update S (Obj.putSet es' t') }) :
    wpAny (model prog w) A (setRelay S wanted) Q E s := by
  rw [setRelay_eq]
  refine wpAny_bind (wpAny_setState_of hS rfl hf ?_)
  dsimp only
  rw [if_neg (by rw [sizeLine_eq]; lia)]
  obtain ⟨t', order, e1, e2, e3, e4, e5, e6, e7⟩ := relaid_some (t := tb) (hs := es.map (·.1)) hm (by rw [Array.size_map]; exact hz)
  rw [Array.size_map] at e2 e3
  refine wpAny_bind ?_
  rw [e1]
  dsimp only
  have hp := reorder_perm e2
  have hzz : (order.filterMap (es[·]?)).size = es.size := by
    have q := hp.length_eq
    rwa [Array.length_toList, Array.length_toList] at q
  rw [hzz]
  simp only [bne_self_eq_false, Bool.false_eq_true, if_false]
  refine wpAny_pure ?_
  dsimp only
  refine wpAny_storeSet_of hS rfl (h _ _ hp e3 e4 e5 e6 e7) ?_
  rw [hzz, sizeLine_eq]
  lia
theorem tab_grow {tb : SetTable} {n j : Nat} (T : TabOk w tb n) (h63 : n < 63) (hfree : tb.slot j = .empty) :
    ∃ t1, t1 = { (tb.put j).1 with plain := false } ∧ t1.place.size = n + 1 ∧ t1.dummies = #[] ∧ t1.mask = tb.mask ∧ t1.led = tb.led ∧ t1.plain = false ∧ (tb.plain = false → (tb.put j).1 = t1) := by
  refine ⟨_, rfl, ?_, ?_, rfl, rfl, rfl, fun h => ?_⟩
  · show (insertAt tb.place _ j).size = n + 1
    rw [← Array.length_toList, SetTable.toList_insertAt]
    have := T.place
    rw [List.length_append, List.length_cons, List.length_take, List.length_drop, Array.length_toList]
    lia
  · show (if has tb.dummies j = true then _ else tb.dummies) = #[]
    rw [T.dummies]
    rfl
  · show _ = { (tb.put j).1 with plain := false }
    have : (tb.put j).1.plain = false := h
    rw [← this]
theorem set_add {S a : Addr} {i : Int} {x : Str} {t u : Tok} {es : Array (Int × Value)} {ep : Nat} {tb : SetTable} (hS : s.heap.get? S = some (setObj es ep tb)) (T : TabOk w tb es.size) (R : ElemsIn s.heap es)
    (ha : s.heap.get? a = some (rowObj i x t u)) (hu : A.units < cLine) (h63 : es.size < 63) {Q : Bool → Shared → Prop}
    (h1 : ∀ b h' tk es' ep' tb', KeepBut [S] s.heap h' → h'.get? S = some (setObj es' ep' tb') → TabOk w tb' es'.size → (es'.toList.map (·.2)).Perm (.ref a :: es.toList.map (·.2)) → s.heap.objs.size ≤ h'.objs.size → s.toks ≤ tk → Q b { s with heap := h', toks := tk })
    (h2 : ∀ b tk, (∃ e ∈ es.toList, ∃ b t' u', e.2 = .ref b ∧ s.heap.get? b = some (rowObj i x t' u')) → s.toks ≤ tk → Q b { s with toks := tk }) :
    wpAny (model prog w) A (setAdd S (.ref a)) Q E s := by
  unfold setAdd
  refine wpAny_holding (wpAny_bind (wpAny_pyHash_tuple hu (row_key (prog := prog) (w := w) ha) ?_))
  generalize tupleKeyHash (mixKind prog w) (rowKey (i, x)) = hv
  unfold setAddHashed
  refine wpAny_holding ?_
  unfold setAddHashedIn
  refine wpAny_bind (wpAny_setState_of (s := { s with toks := s.toks + ((rowKey (i, x)).length + 1) }) hS rfl T.fits ?_)
  dsimp only
  have hb : byScan (.ref a) es = false := rfl
  rw [hb]
  simp only [Bool.false_eq_true, if_false]
  obtain ⟨e, he1, he2⟩ := free_slot (t := tb) (by rw [T.place]; exact T.lt)
  obtain ⟨n, hn1, hn2⟩ := meets T.mask hv he1
  have hempty : tb.slot (adv tb n (tb.probeStart hv)).j = .empty := by rw [hn2]; exact slot_free T.dummies he2
  unfold setSearch
  have hturn : 10 * turns tb.mask < 100000 := by
    show 10 * (tb.mask + 15) < 100000
    rcases T.mask with q | q | q <;> lia
  refine wpAny_bind (search_rows (s := { s with toks := s.toks + ((rowKey (i, x)).length + 1) }) hS T R ha hu (fun j hj => ?_) (fun hex => ?_) n 100000 none (by lia) hn1 rfl hempty)
  · dsimp only
    refine wpAny_bind (wpAny_setState_of (s := { s with toks := s.toks + ((rowKey (i, x)).length + 1) }) hS rfl T.fits ?_)
    dsimp only
    obtain ⟨t1, ht1, p1, p2, p3, p4, p5, p6⟩ := tab_grow T h63 hj
    have fin : wpAny (model prog w) A (do
        storeSet S (insertAt es (tb.put j).2 (hv, .ref a)) t1
        if !false && t1.tooFull then setRelay S (grown (es.size + 1))
        return true) Q E { s with toks := s.toks + ((rowKey (i, x)).length + 1) } := by
      have hz1 : (insertAt es (tb.put j).2 (hv, Value.ref a)).size = es.size + 1 := by
        rw [← Array.length_toList, (SetTable.insertAt_perm _ _ _).length_eq, Array.length_toList, Array.size_push]
      refine wpAny_bind (wpAny_storeSet_of (s := { s with toks := s.toks + ((rowKey (i, x)).length + 1) }) hS rfl ?_ (by rw [hz1, sizeLine_eq]; lia))
      have hS1 := put_get (es' := insertAt es (tb.put j).2 (hv, Value.ref a)) (tb' := t1) hS
      have hp1 : ((insertAt es (tb.put j).2 (hv, Value.ref a)).toList.map (·.2)).Perm (.ref a :: es.toList.map (·.2)) := by
        have q := List.Perm.map (·.2) (SetTable.insertAt_perm es (tb.put j).2 (hv, Value.ref a))
        rw [Array.toList_push, List.map_append] at q
        exact q.trans (List.perm_append_singleton _ _)
      have few := T.few
      have hfill : t1.fill = es.size + 1 := by unfold SetTable.fill; rw [p1, p2]; rfl
      by_cases hfull : t1.tooFull = true
      · rw [if_pos (by simpa using hfull)]
        have hf5 : (es.size + 1) * 5 ≥ tb.mask * 3 := by
          unfold SetTable.tooFull at hfull
          rw [hfill, p3] at hfull
          simpa using hfull
        have hcase : tb.mask = 7 ∧ es.size = 4 ∨ tb.mask = 31 ∧ es.size = 18 := by lia
        have hfit : t1.fits (insertAt es (tb.put j).2 (hv, Value.ref a)).size = true := by
          unfold SetTable.fits
          rw [hz1, hfill, p1, p3]
          have : es.size + 1 ≤ tb.mask := by lia
          simpa using this
        have done : ∀ (m' : Nat), sizeAbove (grown (es.size + 1)) = m' + 1 → Ok3 m' → es.size + 1 ≤ m' → m' ≤ 127 → (m' = 7 ∧ es.size + 1 ≤ 4 ∨ m' = 31 ∧ es.size + 1 ≤ 18 ∨ m' = 127 ∧ es.size + 1 ≤ 63) →
            wpAny (model prog w) A (setRelay S (grown (es.size + 1)) >>= fun _ => pure true) Q E { s with heap := s.heap.update S (Obj.putSet (insertAt es (tb.put j).2 (hv, .ref a)) t1), toks := s.toks + ((rowKey (i, x)).length + 1) } := by
          intro m' q1 q2 q3 q5 q4
          refine wpAny_bind (relay_ok (s := { s with heap := s.heap.update S (Obj.putSet (insertAt es (tb.put j).2 (hv, .ref a)) t1), toks := s.toks + ((rowKey (i, x)).length + 1) }) hS1 hfit (by rw [q1]; exact q2) (by rw [hz1, q1]; exact q3) (by rw [q1]; lia) fun es' t' r1 r2 r3 r4 r5 r6 => ?_)
          have hz' : es'.size = es.size + 1 := by
            have q := r1.length_eq
            rw [Array.length_toList, Array.length_toList, hz1] at q
            exact q
          rw [hz1] at r2
          refine wpAny_pure (h1 _ _ _ es' (ep + 1 + 1) t' (fun b o hb e => put_keep b o hb (put_keep b o hb e)) (put_get hS1) ?_ ((r1.map _).trans hp1) (by simp) (by simp))
          rw [hz']
          exact ⟨r2, r3, by rw [r4, q1]; exact q4, fun q => by rw [r5, p4]; exact T.led q, fun q => by rw [r6, p5] at q; cases q⟩
        rcases hcase with ⟨c1, c2⟩ | ⟨c1, c2⟩
        · exact done 31 (by rw [c2]; rfl) (.inr (.inl rfl)) (by lia) (by lia) (by lia)
        · exact done 127 (by rw [c2]; rfl) (.inr (.inr rfl)) (by lia) (by lia) (by lia)
      · rw [if_neg (by simpa using hfull)]
        have hf5 : ¬ (es.size + 1) * 5 ≥ tb.mask * 3 := by
          unfold SetTable.tooFull at hfull
          rw [hfill, p3] at hfull
          simpa using hfull
        refine wpAny_pure (h1 _ _ _ _ (ep + 1) t1 put_keep hS1 ?_ hp1 (by simp) (by simp))
        rw [hz1]
        exact ⟨p1, p2, by rw [p3]; lia, fun q => by rw [p4]; exact T.led q, fun q => by rw [p5] at q; cases q⟩
    show wpAny _ _ (do
        let byValue ← if tb.plain then hashByValue 8 (.ref a) else pure true
        let t := if byValue then (tb.put j).1 else { (tb.put j).1 with plain := false }
        storeSet S (insertAt es (tb.put j).2 (hv, .ref a)) t
        if !false && t.tooFull then setRelay S (grown (es.size + 1))
        return true) _ _ _
    by_cases hpl : tb.plain = true
    · dsimp only
      rw [if_pos hpl]
      refine wpAny_bind ?_
      refine value_hash (s := { s with toks := s.toks + ((rowKey (i, x)).length + 1) }) ha ?_
      simp only [Bool.false_eq_true, if_false]
      rw [← ht1]
      exact fin
    · dsimp only
      rw [if_neg hpl]
      refine wpAny_bind ?_
      refine wpAny_pure ?_
      simp only [if_true]
      rw [p6 (by simpa using hpl)]
      exact fin
  · dsimp only
    exact wpAny_pure (h2 _ _ hex (Nat.le_add_right _ _))
end

/-! a set made of a list of rows -/
section
open PySem.SetTable
variable {prog : Program} {w : World} {A : Around} {E : Value → Shared → Prop} {s : Shared}
theorem RowsAre.keepCls {h h' : Heap} {W : List Addr} (hW : ∀ b ∈ W, ∀ o, h.get? b = some o → o.cls ≠ .type "tuple") (K : KeepBut W h h') {vs : List Value} {rs : List Row} (R : RowsAre (fun b o => h.get? b = some o) vs rs) : RowsAre (fun b o => h'.get? b = some o) vs rs :=
  R.mono' fun b i x t u e => K b _ (fun q => hW b q _ e rfl) e
noncomputable def SetRows (V : List Value) (h : Heap) (es : Array (Int × Value)) (rd : List Row) : Prop := ∃ ws ks, (es.toList.map (·.2)).Perm ws ∧ RowsAre (fun b o => h.get? b = some o) ws ks ∧ (∀ k ∈ ks, k ∈ rd) ∧ (rd.Nodup → ks.Perm rd) ∧ ∀ v ∈ ws, v ∈ V
theorem SetRows.elems {V : List Value} {h : Heap} {es : Array (Int × Value)} {rd : List Row} (x : SetRows V h es rd) : ElemsIn h es := fun e he => by
  obtain ⟨ws, ks, p, R, _, _, _⟩ := x
  obtain ⟨a, i, x, t, u, e1, e2, _⟩ := R.mem e.2 (p.mem_iff.mp (List.mem_map_of_mem he))
  exact ⟨a, i, x, t, u, e1, e2⟩
theorem SetRows.keep {V : List Value} {h h' : Heap} {W : List Addr} (hW : ∀ b ∈ W, ∀ o, h.get? b = some o → o.cls ≠ .type "tuple") (K : KeepBut W h h') {es : Array (Int × Value)} {rd : List Row} (x : SetRows V h es rd) : SetRows V h' es rd := by
  obtain ⟨ws, ks, p, R, a, b, c⟩ := x
  exact ⟨ws, ks, p, R.keepCls hW K, a, b, c⟩
theorem SetRows.more {V : List Value} {h : Heap} {a : Addr} {i : Int} {x : Str} {t u : Tok} {es es' : Array (Int × Value)} {rd : List Row} (hV : Value.ref a ∈ V) (y : SetRows V h es rd) (ha : h.get? a = some (rowObj i x t u)) (p' : (es'.toList.map (·.2)).Perm (.ref a :: es.toList.map (·.2))) : SetRows V h es' (rd ++ [(i, x)]) := by
  obtain ⟨ws, ks, p, R, k1, k2, k3⟩ := y
  refine ⟨.ref a :: ws, (i, x) :: ks, p'.trans (p.cons _), .cons ha R, fun k hk => ?_, fun hn => ?_, fun v hv => ?_⟩
  · rcases List.mem_cons.mp hk with rfl | hk
    · exact List.mem_append_right _ (.head _)
    · exact List.mem_append_left _ (k1 k hk)
  · exact ((k2 (List.nodup_append.mp hn).1).cons _).trans (List.perm_append_singleton _ _).symm
  · rcases List.mem_cons.mp hv with rfl | hv
    · exact hV
    · exact k3 v hv
theorem SetRows.same {V : List Value} {h : Heap} {i : Int} {x : Str} {es : Array (Int × Value)} {rd : List Row} (y : SetRows V h es rd) (hex : ∃ e ∈ es.toList, ∃ b t' u', e.2 = Value.ref b ∧ h.get? b = some (rowObj i x t' u')) : SetRows V h es (rd ++ [(i, x)]) := by
  obtain ⟨ws, ks, p, R, k1, k2, k3⟩ := y
  obtain ⟨e, he, b, t', u', e1, e2⟩ := hex
  obtain ⟨a, j, z, t2, u2, f1, f2, f3⟩ := R.mem e.2 (p.mem_iff.mp (List.mem_map_of_mem he))
  have hab : b = a := by rw [e1] at f1; injection f1
  subst hab
  rw [e2] at f2
  have hij : i = j ∧ x = z := by
    have q := Option.some.inj f2
    injection q with _ _ q _
    injection q with q _
    have q := congrArg Array.toList q
    simp only [List.cons.injEq, Value.int.injEq, Value.str.injEq] at q
    exact ⟨q.1.1, q.2.1.1⟩
  obtain ⟨rfl, rfl⟩ := hij
  refine ⟨ws, ks, p, R, fun k hk => List.mem_append_left _ (k1 k hk), fun hn => ?_, k3⟩
  exact absurd rfl ((List.nodup_append.mp hn).2.2 _ (k1 _ f3) _ (.head _))

theorem update_rows {I ax S : Addr} {items : Array Value} {rs : List Row} {R : Result → Shared → Prop} (hh : A.in1.handled = none) (hne : ax ≠ I) (hSI : S ≠ I) (hSx : S ≠ ax) (hu : A.in1.units < cLine) (hz : items.size ≤ 63) :
    ∀ (k i : Nat) (s : Shared) (es : Array (Int × Value)) (ep : Nat) (tb : SetTable), items.size - i = k → i ≤ items.size → s.heap.IsListIter I ax i → s.heap.IsList ax items → s.heap.get? S = some (setObj es ep tb) → TabOk w tb es.size → es.size ≤ i → SetRows items.toList s.heap es (rs.take i) → RowsAre (fun b o => s.heap.get? b = some o) items.toList rs →
      (∀ h' tk es' ep' tb', KeepBut [S, I] s.heap h' → h'.get? S = some (setObj es' ep' tb') → TabOk w tb' es'.size → es'.size ≤ items.size → SetRows items.toList h' es' rs → R (.ok (.ret .none)) { s with heap := h', toks := tk }) →
      codeAny (model prog w) A (.builtin "set.update.loop" ⟨[.ref S, .ref I], []⟩) R s := by
  have W := Walks.list (prog := prog) (w := w) (A := A.in1) hh I ax hne items
  intro k
  induction k with
  | zero =>
    intro i s es ep tb hk hi hit hls hS T hle SR RR hR
    have hin : i = items.size := by omega
    subst hin
    refine codeAny_builtin F.entry_set_update_loop ?_
    rw [Around.under_plainId F.plain_set_update_loop _]
    show wpAny _ A.in1 (pyNext (.ref I) >>= _) _ _ s
    refine wpAny_bind (W.done s _ _ ⟨hit, hls⟩ fun h' tk hk => ?_)
    show wpAny _ A.in1 (ret Value.none) _ _ _
    have hrs : rs.take items.size = rs := by
      have := RR.length
      rw [Array.length_toList] at this
      rw [this, List.take_length]
    rw [hrs] at SR
    have hIc : ∀ b ∈ [I], ∀ o, s.heap.get? b = some o → o.cls ≠ .type "tuple" := fun b hb o e => by
      rw [List.mem_singleton.mp hb] at e
      obtain ⟨o', q1, q2, _⟩ := hit
      rw [q1] at e
      cases e
      rw [q2]
      decide
    refine wpAny_pure (hR h' tk es ep tb (fun b o hb e => hk b o (fun q => hb (List.mem_cons_of_mem _ q)) e) (hk S _ (by simpa using hSI) hS) T hle (SR.keep hIc fun b o hb e => hk b o hb e))
  | succ k ih =>
    intro i s es ep tb hk hi hit hls hS T hle SR RR hR
    have hlt : i < items.size := by omega
    refine codeAny_builtin F.entry_set_update_loop ?_
    rw [Around.under_plainId F.plain_set_update_loop _]
    show wpAny _ A.in1 (pyNext (.ref I) >>= _) _ _ s
    have hIc : ∀ b ∈ [I], ∀ o, s.heap.get? b = some o → o.cls ≠ .type "tuple" := fun b hb o e => by
      rw [List.mem_singleton.mp hb] at e
      obtain ⟨o', q1, q2, _⟩ := hit
      rw [q1] at e
      cases e
      rw [q2]
      decide
    refine wpAny_bind (W.item i s _ _ hlt ⟨hit, hls⟩ fun v h₁ tk₁ hv hst₁ hk₁ => ?_)
    have K₁ : KeepBut [I] s.heap h₁ := fun b o hb e => hk₁ b o hb e
    have RR₁ := RR.keepCls hIc K₁
    have SR₁ := SR.keep hIc K₁
    have hS₁ : h₁.get? S = some (setObj es ep tb) := hk₁ S _ (by simpa using hSI) hS
    obtain ⟨a, t, u, g1, g2⟩ := RR₁.get (k := i) (by rw [Array.length_toList]; exact hlt)
    have hva : v = .ref a := by
      rw [← g1]
      have hv' : items[i]? = some v := hv
      rw [← Array.getElem?_toList] at hv'
      rw [List.getD_eq_getElem?_getD, hv']
      rfl
    subst hva
    have hVa : Value.ref a ∈ items.toList := by
      rw [← g1, List.getD_eq_getElem?_getD]
      have hl : i < items.toList.length := by rw [Array.length_toList]; exact hlt
      rw [List.getElem?_eq_getElem hl]
      exact List.getElem_mem hl
    have htake : rs.take (i + 1) = rs.take i ++ [((rs.getD i (0, ⟨#[]⟩)).1, (rs.getD i (0, ⟨#[]⟩)).2)] := by
      have hil : i < rs.length := by have := RR.length; rw [Array.length_toList] at this; omega
      have e : rs.getD i (0, ⟨#[]⟩) = rs[i] := by simp [hil]
      rw [e]
      simp only [List.take_succ, List.getElem?_eq_getElem hil, Option.toList_some]
    show wpAny _ A.in1 (holding [Value.ref a] (setAdd S (.ref a)) >>= _) _ _ _
    refine wpAny_bind (wpAny_holding (set_add (s := { s with heap := h₁, toks := tk₁ }) hS₁ T SR₁.elems g2 hu (by omega) (fun b h₂ tk₂ es' ep' tb' K₂ hS₂ T₂ p₂ _ _ => ?_) (fun b tk₂ hex _ => ?_)))
    · have hSc : ∀ b ∈ [S], ∀ o, h₁.get? b = some o → o.cls ≠ .type "tuple" := fun b hb o e => by
        rw [List.mem_singleton.mp hb, hS₁] at e
        cases e
        show (Value.type "set") ≠ _
        decide
      have hz' : es'.size = es.size + 1 := by
        have q := p₂.length_eq
        simp only [List.length_map, List.length_cons, Array.length_toList] at q
        exact q
      refine wpAny_pure ⟨plainId_quiet F.plain_set_update_loop _, ih (i + 1) { s with heap := h₂, toks := tk₂ } es' ep' tb' (by omega) hlt (hst₁.1.at fun o e => K₂ I o (by simpa using hSI.symm) e) (hst₁.2.at fun o e => K₂ ax o (by simpa using hSx.symm) e) hS₂ T₂ (by omega) ?_ (RR₁.keepCls hSc K₂) fun h' tk es'' ep'' tb'' K' a1 a2 a3 a4 => ?_⟩
      · rw [htake]
        exact ((SR₁.more hVa g2 p₂).keep hSc K₂)
      · exact hR h' tk es'' ep'' tb'' (fun b o hb e => K' b o hb (K₂ b o (fun q => hb (by rw [List.mem_singleton.mp q]; exact .head _)) (K₁ b o (fun q => hb (List.mem_cons_of_mem _ q)) e))) a1 a2 a3 a4
    · refine wpAny_pure ⟨plainId_quiet F.plain_set_update_loop _, ih (i + 1) { s with heap := h₁, toks := tk₂ } es ep tb (by omega) hlt hst₁.1 hst₁.2 hS₁ T (by omega) ?_ RR₁ fun h' tk es'' ep'' tb'' K' a1 a2 a3 a4 => ?_⟩
      · rw [htake]
        exact SR₁.same hex
      · exact hR h' tk es'' ep'' tb'' (fun b o hb e => K' b o hb (K₁ b o (fun q => hb (List.mem_cons_of_mem _ q)) e)) a1 a2 a3 a4

theorem set_new_rows (a : Value) {Q₁ : Value → Shared → Prop} (h : Q₁ (.ref s.heap.objs.size) { s with heap := s.heap.push (setObj #[] 0 (.fresh 0 0 (!w.params.followText "set-order"))) }) :
    codeAny (model prog w) A (.call (.builtin "set.__new__") ⟨[.type "set", a], []⟩) (wants Q₁ E) s := by
  refine codeAny_of_tree ?_
  show wpAny _ A.in1 (do checkBuiltinCall "set.__new__" ⟨[.type "set", a], []⟩; again (.builtin "set.__new__" ⟨[.type "set", a], []⟩)) _ _ s
  refine wpAny_bind (wpAny_of_eq (F.newCall_set_1 a) (wpAny_pure ⟨plainId_quiet F.plain_set_new _, codeAny_builtin F.entry_set_new ?_⟩))
  rw [Around.under_plainId F.plain_set_new _]
  unfold Builtin.«set.__new__» Builtin.Frozenset.newClass
  have hsub := sub_set_self
  obtain ⟨hp, g, d, tk, os⟩ := s
  dsimp only
  wp_walk
  refine wpAny_askSetting (wpAny_pure ?_)
  dsimp only
  simp only [newObj]
  refine wpAny_bind (wpAny_alloc (wpAny_pure ?_))
  exact wpAny_pure h
theorem tab_fresh : TabOk w (.fresh 0 0 (!w.params.followText "set-order")) 0 :=
  ⟨rfl, rfl, .inl ⟨rfl, Nat.zero_le _⟩, fun h => by show (!w.params.followText "set-order") = true; rw [h]; rfl, fun _ => rfl⟩
/-- set(list of rows) -/
theorem set_of_rows {l : Addr} {items : Array Value} {rs : List Row} {Q : Value → Shared → Prop} (hh : A.handled = none) (hu : A.units + 60 < cLine) (hl : s.heap.IsList l items) (RR : RowsAre (fun b o => s.heap.get? b = some o) items.toList rs) (hz : items.size ≤ 63)
    (h : ∀ h' tk es ep tb, KeepBut [] s.heap h' → h'.get? s.heap.objs.size = some (setObj es ep tb) → TabOk w tb es.size → es.size ≤ items.size → SetRows items.toList h' es rs → Q (.ref s.heap.objs.size) { s with heap := h', toks := tk }) :
    wpAny (model prog w) A (call (.type "set") [.ref l]) Q E s := by
  obtain ⟨c, tl, hmro⟩ := F.called_set.mro
  have hmade := F.called_set.made
  have hsub := F.called_set.sub
  refine wpAny_call (codeAny_of_tree ?_)
  show wpAny _ _ (callAny (.type "set") _) _ _ _
  refine wpAny_pure ⟨Code.quiet_builtin _ (by decide +kernel), codeAny_builtin F.entry_type_call ?_⟩
  rw [Around.under_plain (weight_type_call_type "set" [.ref l] []) rfl]
  have h1 := F.called_set.notType
  have h2 := F.called_set.canCreate
  have hct := F.typeCall_set_1 (.ref l)
  repeat (any_goals (first | assumption | wp_step))
  refine codeAny_mono (set_new_rows (.ref l) (E := E) (Q₁ := fun obj s₁ => obj = .ref s.heap.objs.size ∧ s₁ = { s with heap := s.heap.push (setObj #[] 0 (.fresh 0 0 (!w.params.followText "set-order"))) }) ⟨rfl, rfl⟩) fun r s₁ hr => ?_
  cases r with
  | error e => exact hr
  | ok fl =>
    cases fl with
    | ret obj =>
      obtain ⟨rfl, rfl⟩ := hr
      have hS : (s.heap.push (setObj #[] 0 (.fresh 0 0 (!w.params.followText "set-order")))).get? s.heap.objs.size = some (setObj #[] 0 (.fresh 0 0 (!w.params.followText "set-order"))) := Heap.get?_push_size _ rfl
      have hT : Shared.TypeIs { s with heap := s.heap.push (setObj #[] 0 (.fresh 0 0 (!w.params.followText "set-order"))) } (.ref s.heap.objs.size) "set" := ⟨_, hS, rfl⟩
      have hli := F.called_set.init.lookup
      have hbi := F.called_set.init.bind (.ref s.heap.objs.size)
      repeat (any_goals (first | assumption | wp_step))
      refine codeAny_mono (codeAny_call_builtin (R := wants (fun r s₂ => r = .none ∧ ∃ h' tk es ep tb, s₂ = { s with heap := h', toks := tk } ∧ KeepBut [] s.heap h' ∧ h'.get? s.heap.objs.size = some (setObj es ep tb) ∧ TabOk w tb es.size ∧ es.size ≤ items.size ∧ SetRows items.toList h' es rs) E) F.called_set.init.plain F.entry_set_init (check_set_init_1 hT ?_)) fun r₂ s₂ hr₂ => ?_
      · obtain ⟨ol, hol, hcl, nl, hdl⟩ := id hl
        obtain ⟨ocls, odict, odata, oslots⟩ := ol
        simp only at hcl hdl
        subst hcl; subst hdl
        have hol' : (s.heap.push (setObj #[] 0 (.fresh 0 0 (!w.params.followText "set-order")))).get? l = some { cls := .type "list", dict := odict, data := .seq items nl, slots := oslots } := Heap.get?_push_of_some _ hol
        have hsls := F.sub_list_set
        have hslf := F.sub_list_frozenset
        have hne : (Value.type "list" == Value.type "dict") = false := by decide
        have hl1 : (s.heap.push (setObj #[] 0 (.fresh 0 0 (!w.params.followText "set-order")))).IsList l items := ⟨_, hol', rfl, nl, rfl⟩
        unfold Builtin.«set.__init__» noKeywords Builtin.Frozenset.updateFrom
        generalize hPI : pyIter = PI
        wp_walk
        subst hPI
        refine wpAny_pyIter_list hl1 ?_
        refine wpAny_bind (wpAny_runValue ?_)
        have hlS : l < s.heap.objs.size := Heap.lt_size hol
        have hh3 : A.in1.in1.in1.handled = none := by simp [hh]
        have hneI : l ≠ (s.heap.push (setObj #[] 0 (.fresh 0 0 (!w.params.followText "set-order")))).objs.size := by
          rw [Heap.size_push]; exact Nat.ne_of_lt (Nat.lt_succ_of_lt hlS)
        have up : ∀ (b : Addr) (o : Obj), s.heap.get? b = some o → ((s.heap.push (setObj #[] 0 (.fresh 0 0 (!w.params.followText "set-order")))).push { cls := .type "list_iterator", data := .fields #[.ref l, .int 0 0] }).get? b = some o := fun b o e => Heap.get?_push_of_some _ (Heap.get?_push_of_some _ e)
        refine update_rows (rs := rs) hh3 hneI (by rw [Heap.size_push]; exact Nat.ne_of_lt (Nat.lt_succ_self _)) (Nat.ne_of_gt hlS) (Nat.lt_of_le_of_lt (by simp only [units_in1]; omega) hu) hz (items.size - 0) 0 _ #[] 0 (.fresh 0 0 (!w.params.followText "set-order")) rfl (Nat.zero_le _)
          ⟨_, Heap.get?_push_size _ rfl, rfl, rfl⟩ (hl1.push _) (Heap.get?_push_of_some _ hS) tab_fresh (Nat.le_refl _) ⟨[], [], .refl _, .nil, (fun _ hk => nomatch hk), (fun _ => .refl _), fun _ hk => nomatch hk⟩ (RR.mono fun b o e => up b o e) fun h' tk es ep tb K a1 a2 a3 a4 => ?_
        show wpAny _ _ _ _ _ _
        refine wpAny_pure ?_
        show wpAny _ _ (ret Value.none) _ _ _
        refine wpAny_pure ⟨rfl, h', tk, es, ep, tb, rfl, fun b o _ e => K b o (fun q => ?_) (up b o e), a1, a2, a3, a4⟩
        have hb := Heap.lt_size e
        rcases List.mem_cons.mp q with q | q
        · exact absurd q (Nat.ne_of_lt hb)
        · rw [List.mem_singleton.mp q, Heap.size_push] at hb
          exact absurd hb (Nat.not_lt.mpr (Nat.le_succ _))
      · cases r₂ with
        | error e => exact hr₂
        | ok fl₂ =>
          cases fl₂ with
          | ret r =>
            obtain ⟨rfl, h', tk, es, ep, tb, rfl, K, a1, a2, a3, a4⟩ := hr₂
            repeat (any_goals (first | assumption | wp_step))
            exact h _ _ _ _ _ K a1 a2 a3 a4
          | _ => exact hr₂.elim
    | _ => exact hr.elim
end

/-! a set is gone through -/
section
open PySem.SetTable
theorem slot_setiter_next : Slot "set_iterator" "__next__" "set_iterator.__next__" :=
  .of (owner := "set_iterator") (n := "__next__") (by rw [typeLookup_type, builtinLookup_eq_fast]; kernel_rfl) (by decide +kernel) (by decide +kernel) (by decide +kernel)
    (by first | exact .inl (by decide +kernel) | exact .inr (by decide +kernel)) (by rw [isSubtype_type]; kernel_rfl)
theorem slot_setiter_iter : Slot "set_iterator" "__iter__" "set_iterator.__iter__" :=
  .of (owner := "set_iterator") (n := "__iter__") (by rw [typeLookup_type, builtinLookup_eq_fast]; kernel_rfl) (by decide +kernel) (by decide +kernel) (by decide +kernel)
    (by first | exact .inl (by decide +kernel) | exact .inr (by decide +kernel)) (by rw [isSubtype_type]; kernel_rfl)
theorem entry_setiter_next : entryFor table "set_iterator.__next__" = some Builtin.«set_iterator.__next__» := entryFor_of_tree (by kernel_rfl)
theorem entry_setiter_iter : entryFor table "set_iterator.__iter__" = some Builtin.«dict_keyiterator.__iter__» :=
  entryFor_alias (id' := "dict_keyiterator.__iter__") (by kernel_rfl) rfl (by decide +kernel) (by kernel_rfl)
theorem entry_set_iter' : entryFor table "set.__iter__" = some Builtin.«frozenset.__iter__» :=
  entryFor_alias (id' := "frozenset.__iter__") (by kernel_rfl) rfl (by decide +kernel) (by kernel_rfl)
theorem args_setiter_next (a : Value) : argsOk "set_iterator.__next__" ⟨[a], []⟩ := by unfold argsOk; kernel_rfl
theorem args_setiter_iter (a : Value) : argsOk "set_iterator.__iter__" ⟨[a], []⟩ := by unfold argsOk; kernel_rfl
variable {prog : Program} {w : World} {A : Around} {E : Value → Shared → Prop} {s : Shared}
noncomputable abbrev iterObj (f sv : Value) (i n ep : Nat) : Obj := { cls := .type "set_iterator", data := .fields #[f, .int i 0, sv, .int n 0, .int ep 0] }
theorem setiter_next {I S : Addr} {es : Array (Int × Value)} {ep : Nat} {tb : SetTable} {i sl : Nat} {r : Option (Value × Nat)} {Q : Option Value → Shared → Prop} (hh : A.handled = none) (hI : s.heap.get? I = some (iterObj (.int sl 0) (.ref S) i es.size ep)) (hS : s.heap.get? S = some (setObj es ep tb)) (hf : tb.fits es.size = true)
    (hN : ∀ (A' : Around) (E' : Value → Shared → Prop) (Q' : Option (Value × Nat) → Shared → Prop), Q' r s → wpAny (model prog w) A' (setNext S sl i ep) Q' E' s)
    (h1 : ∀ x sl' h', r = some (x, sl') → KeepBut [I] s.heap h' → h'.get? I = some (iterObj (.int sl' 0) (.ref S) (i + 1) es.size ep) → Q (some x) { s with heap := h' })
    (h2 : ∀ h', r = none → KeepBut [I] s.heap h' → Q none { s with heap := h' }) :
    wpAny (model prog w) A (pyNext (.ref I)) Q E s := by
  have hT : s.TypeIs (.ref I) "set_iterator" := ⟨_, hI, rfl⟩
  unfold pyNext
  refine wpAny_bind (wpAny_attempt (wpAny_callSpecial?_slot (name := Str.ofString "__next__") hT slot_setiter_next
    (wpAny_call_entry slot_setiter_next hT entry_setiter_next ?_ (args_setiter_next _))))
  unfold Builtin.«set_iterator.__next__»
  show wpAny _ _ (fieldsOf (.ref I) >>= _) _ _ s
  refine wpAny_bind (wpAny_fieldsOf hI rfl ?_)
  show wpAny _ _ (setEntries S >>= _) _ _ s
  unfold setEntries
  refine wpAny_bind (wpAny_bind (wpAny_setState_of hS rfl hf (wpAny_pure ?_)))
  dsimp only
  simp only [bne_self_eq_false, Bool.false_eq_true, if_false, Int.toNat_natCast]
  have hk : ∀ (k : Nat) (v : Value), KeepBut [I] s.heap (s.heap.update I (Obj.mapFields (·.setIfInBounds k v))) := fun k v b o hb e => (Heap.get?_update_ne _ _ _ _ (by simpa using hb)).trans e
  refine wpAny_bind (hN _ _ _ ?_)
  cases r with
  | some y =>
    obtain ⟨x, sl'⟩ := y
    dsimp only
    refine wpAny_bind (wpAny_setField hI rfl (by simp) ?_)
    have g1 := Heap.get?_update_self (Obj.mapFields (·.setIfInBounds 0 (rawInt sl'))) hI rfl
    refine wpAny_bind (wpAny_setField (s := { s with heap := s.heap.update I (Obj.mapFields (·.setIfInBounds 0 (rawInt sl'))) }) g1 rfl (by simp) ?_)
    have g2 := Heap.get?_update_self (Obj.mapFields (·.setIfInBounds 1 (rawInt ((i : Int) + 1)))) g1 rfl
    refine wpAny_pure ⟨_, rfl, wpAny_pure (h1 x sl' _ rfl (fun b o hb e => ?_) g2)⟩
    exact (Heap.get?_update_ne _ _ _ _ (by simpa using hb)).trans (hk _ _ b o hb e)
  | none =>
    dsimp only
    refine wpAny_bind (wpAny_setField hI rfl (by simp) ?_)
    show wpAny _ _ (newExc (.type "StopIteration") [] >>= _) _ _ _
    refine wpAny_bind ?_
    simp only [newExc, newTuple]
    refine wpAny_bind (wpAny_newObj_type ?_ (by size_fits))
    refine wpAny_bind (m := firstArgMember _ _) (wpAny_of_eq (a := Value.none) (by first | rfl | (simp only [firstArgMember]; rfl)) ?_)
    refine wpAny_newObj_type ?_ (by size_fits)
    simp only [raiseNew]
    refine wpAny_bind (wpAny_handled ?_)
    rw [show A.in1.handled = none from hh]
    refine wpAny_bind (wpAny_pure (wpAny_throw ?_))
    refine wpAny_bind (wpAny_isInstance (T := "StopIteration") (b := true) ⟨_, Heap.get?_push_size _ rfl, rfl⟩ isSubtype_stop ?_)
    exact wpAny_pure (h2 _ rfl fun b o hb e => Heap.get?_push_of_some _ (Heap.get?_push_of_some _ (hk _ _ b o hb e)))
end

section
open PySem.SetTable
variable {prog : Program} {w : World} {A : Around} {E : Value → Shared → Prop} {s : Shared}
theorem setiter_nextB {I S tp : Addr} {es : Array (Int × Value)} {ep : Nat} {tb : SetTable} {i : Nat} {places : List Nat} {Q : Option Value → Shared → Prop} (hh : A.handled = none) (hI : s.heap.get? I = some (iterObj (.ref tp) (.ref S) i es.size ep)) (hS : s.heap.get? S = some (setObj es ep tb)) (hf : tb.fits es.size = true)
    (hT : s.heap.get? tp = some (tupOf (places.map fun (k : Nat) => Value.int k 0)))
    (h1 : ∀ k y x h', places[i]? = some k → es[k]? = some (y, x) → KeepBut [I] s.heap h' → h'.get? I = some (iterObj (.ref tp) (.ref S) (i + 1) es.size ep) → Q (some x) { s with heap := h' })
    (hin : ∀ k ∈ places, k < es.size)
    (h2 : ∀ h', places[i]? = none → KeepBut [I] s.heap h' → Q none { s with heap := h' }) :
    wpAny (model prog w) A (pyNext (.ref I)) Q E s := by
  have hTy : s.TypeIs (.ref I) "set_iterator" := ⟨_, hI, rfl⟩
  unfold pyNext
  refine wpAny_bind (wpAny_attempt (wpAny_callSpecial?_slot (name := Str.ofString "__next__") hTy slot_setiter_next
    (wpAny_call_entry slot_setiter_next hTy entry_setiter_next ?_ (args_setiter_next _))))
  unfold Builtin.«set_iterator.__next__»
  show wpAny _ _ (fieldsOf (.ref I) >>= _) _ _ s
  refine wpAny_bind (wpAny_fieldsOf hI rfl ?_)
  show wpAny _ _ (setEntries S >>= _) _ _ s
  unfold setEntries
  refine wpAny_bind (wpAny_bind (wpAny_setState_of hS rfl hf (wpAny_pure ?_)))
  dsimp only
  simp only [bne_self_eq_false, Bool.false_eq_true, if_false, Int.toNat_natCast]
  have hk : ∀ (k : Nat) (v : Value), KeepBut [I] s.heap (s.heap.update I (Obj.mapFields (·.setIfInBounds k v))) := fun k v b o hb e => (Heap.get?_update_ne _ _ _ _ (by simpa using hb)).trans e
  refine wpAny_bind (wpAny_seqItems hT rfl ?_)
  dsimp only
  have hpi : (places.map fun (k : Nat) => Value.int k 0).toArray[i]? = places[i]?.map fun (k : Nat) => Value.int k 0 := by simp
  rw [hpi]
  cases hp : places[i]? with
  | some k =>
    show wpAny _ _ (setNextDrawn S (k : Int).toNat ep >>= _) _ _ s
    rw [Int.toNat_natCast]
    have hlt := hin k (List.mem_of_getElem? hp)
    have hget : es[k]? = some (es[k].1, es[k].2) := by simp [hlt]
    unfold setNextDrawn
    refine wpAny_bind (wpAny_bind (wpAny_setState_of hS rfl hf ?_))
    dsimp only
    simp only [bne_self_eq_false, Bool.false_eq_true, if_false]
    rw [hget]
    refine wpAny_pure ?_
    refine wpAny_bind (wpAny_setField hI rfl (by simp) ?_)
    have g1 := Heap.get?_update_self (Obj.mapFields (·.setIfInBounds 1 (rawInt ((i : Int) + 1)))) hI rfl
    exact wpAny_pure ⟨_, rfl, wpAny_pure (h1 k _ _ _ (by first | exact hp | rfl) hget (hk _ _) g1)⟩
  | none =>
    show wpAny _ _ (setField (.ref I) 0 (rawInt 0) >>= _) _ _ s
    refine wpAny_bind (wpAny_setField hI rfl (by simp) ?_)
    have g1 := Heap.get?_update_self (Obj.mapFields (·.setIfInBounds 0 (rawInt 0))) hI rfl
    refine wpAny_bind (wpAny_setField (s := { s with heap := s.heap.update I (Obj.mapFields (·.setIfInBounds 0 (rawInt 0))) }) g1 rfl (by simp) ?_)
    show wpAny _ _ (newExc (.type "StopIteration") [] >>= _) _ _ _
    refine wpAny_bind ?_
    simp only [newExc, newTuple]
    refine wpAny_bind (wpAny_newObj_type ?_ (by size_fits))
    refine wpAny_bind (m := firstArgMember _ _) (wpAny_of_eq (a := Value.none) (by first | rfl | (simp only [firstArgMember]; rfl)) ?_)
    refine wpAny_newObj_type ?_ (by size_fits)
    simp only [raiseNew]
    refine wpAny_bind (wpAny_handled ?_)
    rw [show A.in1.handled = none from hh]
    refine wpAny_bind (wpAny_pure (wpAny_throw ?_))
    refine wpAny_bind (wpAny_isInstance (T := "StopIteration") (b := true) ⟨_, Heap.get?_push_size _ rfl, rfl⟩ isSubtype_stop ?_)
    exact wpAny_pure (h2 _ (by first | exact hp | rfl) fun b o hb e => Heap.get?_push_of_some _ (Heap.get?_push_of_some _ ((Heap.get?_update_ne _ _ _ _ (by simpa using hb)).trans (hk _ _ b o hb e))))

/-! what comes next -/
theorem erase_perm {α : Type} {l : List α} {k : Nat} (hk : k < l.length) : (l[k] :: l.eraseIdx k).Perm l := by
  rw [List.eraseIdx_eq_take_drop_succ]
  have e : l = l.take k ++ l[k] :: l.drop (k + 1) := by rw [← List.drop_eq_getElem_cons hk]; exact (List.take_append_drop k l).symm
  exact (List.perm_middle).symm.trans (by rw [← e])
theorem pick_perm {α : Type} (next : Nat → Nat) : ∀ (fuel k : Nat) (left : List α) (out : Array α), left.length = fuel → (pickOrder.go next fuel k left out).toList.Perm (out.toList ++ left)
  | 0, k, left, out, h => by
    have : left = [] := List.eq_nil_of_length_eq_zero h
    subst this
    rw [List.append_nil]
    unfold pickOrder.go
    exact .refl _
  | fuel + 1, k, left, out, h => by
    unfold pickOrder.go
    have hj : next k % left.length < left.length := Nat.mod_lt _ (by omega)
    have hget : left[next k % left.length]? = some left[next k % left.length] := List.getElem?_eq_getElem hj
    rw [hget]
    dsimp only
    refine (pick_perm next fuel (k + 1) _ _ (by rw [List.length_eraseIdx]; simp [hj]; omega)).trans ?_
    rw [Array.toList_push, List.append_assoc]
    refine List.Perm.append_left _ ?_
    exact erase_perm hj
theorem pickOrder_perm {α : Type} (next : Nat → Nat) (xs : Array α) : (pickOrder next xs).toList.Perm xs.toList := by
  have := pick_perm next xs.size 0 xs.toList #[] (by simp)
  simpa [pickOrder] using this
theorem wpAny_choose' {M : Model} {src : Source} {n : Nat} {Q : Nat → Shared → Prop} (hn : n ≠ 0) (h : ∀ k d, k < n → Q k { s with drawn := d }) : wpAny M A (choose src n) Q E s := fun _ _ _ => ⟨hn, h _ _ (Nat.mod_lt _ (Nat.pos_of_ne_zero hn))⟩
theorem draw_order {M : Model} {α : Type} : ∀ (n : Nat) (xs : List α) (s : Shared) (Q : List α → Shared → Prop), xs.length = n → (∀ ys d, ys.Perm xs → Q ys { s with drawn := d }) → wpAny M A (drawOrder n xs) Q E s
  | 0, xs, s, Q, hl, h => by
    have : xs = [] := List.eq_nil_of_length_eq_zero hl
    subst this
    unfold drawOrder
    exact wpAny_pure (h [] s.drawn (.refl _))
  | n + 1, xs, s, Q, hl, h => by
    match xs, hl with
    | x :: xs, hl =>
      unfold drawOrder
      refine wpAny_bind (wpAny_choose' (by simp) fun k d hk => ?_)
      have hget : (x :: xs)[k]? = some (x :: xs)[k] := List.getElem?_eq_getElem hk
      rw [hget]
      dsimp only
      refine wpAny_bind (draw_order n ((x :: xs).eraseIdx k) { s with drawn := d } _ (by rw [List.length_eraseIdx, if_pos hk]; simp at hl ⊢; omega) fun ys d' hp => wpAny_pure ?_)
      exact h _ d' ((hp.cons _).trans (erase_perm hk))
end

section
open PySem.SetTable
variable {prog : Program} {w : World} {A : Around} {E : Value → Shared → Prop} {s : Shared}
theorem setNext_eq (a : Addr) (slot given epochThen : Nat) : setNext a slot given epochThen = (do
    let (es, epoch, t) ← setState a
    if ← setsByText then
      if epoch != epochThen then unsupported "set_iterator.__next__:elements-changed"
      return ((← setWalk a)[given]?).map fun e => (e.2, slot)
    if (!t.plain && es.size > 1) then unsupported "set_iterator.__next__:the-table-is-plain-no-more"
    (do if !t.led && !es.isEmpty then unsupported "set:maker-not-led")
    let i := SetTable.below t.place slot
    return match es[i]?, t.place[i]? with
      | some (_, x), some j => some (x, j + 1)
      | _, _ => none) := rfl
theorem setDrawn_eq (a : Addr) : setDrawn a = (do
    let (es, _, t) ← setState a
    let byText ← setsByText
    return !byText && (!t.plain && es.size > 1)) := rfl
theorem by_text {Q : Bool → Shared → Prop} (h : Q (w.params.followText "set-order") s) : wpAny (model prog w) A setsByText Q E s := by
  unfold setsByText
  exact wpAny_bind (wpAny_askSetting (wpAny_pure h))
theorem walk_text {S : Addr} {es : Array (Int × Value)} {ep : Nat} {tb : SetTable} {Q : Array (Int × Value) → Shared → Prop} (hS : s.heap.get? S = some (setObj es ep tb)) (hf : tb.fits es.size = true) (hb : w.params.followText "set-order" = true) (h : Q (pickOrder (w.params.setOrder S ep) es) s) :
    wpAny (model prog w) A (setWalk S) Q E s := by
  unfold setWalk
  refine wpAny_bind (wpAny_setState_of hS rfl hf (wpAny_bind (by_text ?_)))
  rw [hb, if_pos rfl]
  exact wpAny_bind (wpAny_askSetting (wpAny_pure h))
theorem iterself {I : Addr} {f sv : Value} {i n ep : Nat} {Q : Value → Shared → Prop} (hI : s.heap.get? I = some (iterObj f sv i n ep)) (h : Q (.ref I) s) : wpAny (model prog w) A (pyIter (.ref I)) Q E s := by
  have hT : s.TypeIs (.ref I) "set_iterator" := ⟨_, hI, rfl⟩
  refine wpAny_pyIter_slot hT slot_setiter_iter (wpAny_call_entry slot_setiter_iter hT entry_setiter_iter ?_ (args_setiter_iter _))
  show wpAny _ _ (ret (.ref I)) _ _ s
  exact wpAny_pure ⟨_, rfl, "set_iterator", _, hT, slot_setiter_next.lookup, h⟩
theorem moved_of {I : Addr} {h' : Heap} (K : KeepBut [I] s.heap h') : Moved [I] (fun a b => b = a) s { s with heap := h' } := ⟨fun b o hb e => K b o hb e, rfl, rfl, rfl, Nat.le_refl _⟩
/-- what a walk over a set leaves where it is -/
noncomputable def SetSt (S I : Addr) (es : Array (Int × Value)) (ep : Nat) (tb : SetTable) (f : Nat → Value → Heap → Prop) (i : Nat) (s : Shared) : Prop := ∃ v, s.heap.get? S = some (setObj es ep tb) ∧ s.heap.get? I = some (iterObj v (.ref S) i es.size ep) ∧ f i v s.heap
theorem walksA {S I : Addr} {es : Array (Int × Value)} {ep : Nat} {tb : SetTable} (hh : A.handled = none) (hSI : S ≠ I) (hf : tb.fits es.size = true) (hb : w.params.followText "set-order" = true) :
    WalksS prog w A I [I, S] [I] (fun a b => b = a) es.size (fun i v => ((pickOrder (w.params.setOrder S ep) es).toList.map (·.2))[i]? = some v) (SetSt S I es ep tb fun _ v _ => v = .int 0 0) where
  sub := fun b hb => by simp at hb; simp [hb]
  grefl := fun _ => rfl
  gtrans := fun _ _ _ h1 h2 => h2.trans h1
  frame := fun i s h' tk ⟨v, a, b, c⟩ _ hk => ⟨v, hk S (by simp) _ a, hk I (by simp) _ b, c⟩
  self := fun i s Q E ⟨v, a, b, c⟩ h => iterself b h
  item := fun i s Q E hi ⟨v, a, b, c⟩ hQ => by
    subst c
    have hz : (pickOrder (w.params.setOrder S ep) es).size = es.size := by
      have := (pickOrder_perm (w.params.setOrder S ep) es).length_eq
      simpa using this
    refine setiter_next (r := ((pickOrder (w.params.setOrder S ep) es)[i]?).map fun e => (e.2, 0)) hh b a hf (fun A' E' Q' h => ?_) (fun x sl' h' hr K hI' => ?_) fun h' hr K => ?_
    · rw [setNext_eq]
      refine wpAny_bind (wpAny_setState_of a rfl hf (wpAny_bind (by_text ?_)))
      rw [hb, if_pos rfl]
      dsimp only
      simp only [bne_self_eq_false, Bool.false_eq_true, if_false]
      exact wpAny_bind (walk_text a hf hb (wpAny_pure h))
    · have hlt : i < (pickOrder (w.params.setOrder S ep) es).size := by rw [hz]; exact hi
      rw [Array.getElem?_eq_getElem hlt] at hr
      simp only [Option.map_some, Option.some.injEq, Prod.mk.injEq] at hr
      obtain ⟨rfl, rfl⟩ := hr
      refine hQ _ _ ?_ ⟨_, K S _ (by simpa using hSI) a, hI', rfl⟩ (moved_of K)
      simp [hlt]
    · have hlt : i < (pickOrder (w.params.setOrder S ep) es).size := by rw [hz]; exact hi
      rw [Array.getElem?_eq_getElem hlt] at hr
      cases hr
  done := fun s Q E ⟨v, a, b, c⟩ hQ => by
    subst c
    have hz : (pickOrder (w.params.setOrder S ep) es).size = es.size := by
      have := (pickOrder_perm (w.params.setOrder S ep) es).length_eq
      simpa using this
    refine setiter_next (r := none) hh b a hf (fun A' E' Q' h => ?_) (fun x sl' h' hr K hI' => by cases hr) fun h' hr K => hQ _ (moved_of K)
    rw [setNext_eq]
    refine wpAny_bind (wpAny_setState_of a rfl hf (wpAny_bind (by_text ?_)))
    rw [hb, if_pos rfl]
    dsimp only
    simp only [bne_self_eq_false, Bool.false_eq_true, if_false]
    refine wpAny_bind (walk_text a hf hb (wpAny_pure ?_))
    have : (pickOrder (w.params.setOrder S ep) es)[es.size]? = none := by rw [← hz]; simp
    rw [this]
    exact h
theorem walksB {S I tp : Addr} {es : Array (Int × Value)} {ep : Nat} {tb : SetTable} {places : List Nat} (hh : A.handled = none) (hSI : S ≠ I) (hTI : tp ≠ I) (hf : tb.fits es.size = true) (hp : places.Perm (List.range es.size)) :
    WalksS prog w A I [I, S, tp] [I] (fun a b => b = a) es.size (fun i v => (places.map fun k => (es.getD k (0, .none)).2)[i]? = some v) (SetSt S I es ep tb fun _ v h => v = .ref tp ∧ h.get? tp = some (tupOf (places.map fun (k : Nat) => Value.int k 0))) where
  sub := fun b hb => by simp at hb; simp [hb]
  grefl := fun _ => rfl
  gtrans := fun _ _ _ h1 h2 => h2.trans h1
  frame := fun i s h' tk ⟨v, a, b, c, d⟩ _ hk => ⟨v, hk S (by simp) _ a, hk I (by simp) _ b, c, hk tp (by simp) _ d⟩
  self := fun i s Q E ⟨v, a, b, c⟩ h => iterself b h
  item := fun i s Q E hi ⟨v, a, b, c, d⟩ hQ => by
    subst c
    have hz : places.length = es.size := by rw [hp.length_eq, List.length_range]
    refine setiter_nextB hh b a hf d (fun k y x h' hk hx K hI' => ?_) (fun k hk => List.mem_range.mp (hp.mem_iff.mp hk)) fun h' hn K => ?_
    · refine hQ _ _ ?_ ⟨_, K S _ (by simpa using hSI) a, hI', rfl, K tp _ (by simpa using hTI) d⟩ (moved_of K)
      rw [List.getElem?_map, hk]
      have hlt := (Array.getElem?_eq_some_iff.mp hx).1
      have hxx := (Array.getElem?_eq_some_iff.mp hx).2
      simp [Array.getD, hlt, hxx]
    · rw [List.getElem?_eq_none_iff] at hn
      lia
  done := fun s Q E ⟨v, a, b, c, d⟩ hQ => by
    subst c
    have hz : places.length = es.size := by rw [hp.length_eq, List.length_range]
    refine setiter_nextB hh b a hf d (fun k y x h' hk hx K hI' => ?_) (fun k hk => List.mem_range.mp (hp.mem_iff.mp hk)) fun h' hn K => hQ _ (moved_of K)
    have := (List.getElem?_eq_some_iff.mp hk).1
    lia
theorem below_one {j k : Nat} : below #[j] k = if j < k then 1 else 0 := by
  unfold below
  show below.go #[j] k 1 0 1 = _
  unfold below.go
  simp only [Nat.zero_lt_one, if_true]
  show (if (#[j] : Array Nat).getD 0 k < k then below.go #[j] k 0 (0 + 1) 1 else below.go #[j] k 0 0 0) = _
  rfl
theorem walksC {S I : Addr} {es : Array (Int × Value)} {ep : Nat} {tb : SetTable} (hh : A.handled = none) (hSI : S ≠ I) (T : TabOk w tb es.size) (h1 : es.size ≤ 1) (hb : w.params.followText "set-order" = false) :
    WalksS prog w A I [I, S] [I] (fun a b => b = a) es.size (fun i v => (es.toList.map (·.2))[i]? = some v) (SetSt S I es ep tb fun i v _ => ∃ sl : Nat, v = .int sl 0 ∧ (i = 0 → sl = 0) ∧ (i = 1 → ∃ j, tb.place = #[j] ∧ sl = j + 1)) where
  sub := fun b hb => by simp at hb; simp [hb]
  grefl := fun _ => rfl
  gtrans := fun _ _ _ h1 h2 => h2.trans h1
  frame := fun i s h' tk ⟨v, a, b, c⟩ _ hk => ⟨v, hk S (by simp) _ a, hk I (by simp) _ b, c⟩
  self := fun i s Q E ⟨v, a, b, c⟩ h => iterself b h
  item := fun i s Q E hi ⟨v, a, b, sl, c, d, e⟩ hQ => by
    subst c
    have hi0 : i = 0 := by lia
    subst hi0
    have hs := d rfl
    subst hs
    have hz : es.size = 1 := by lia
    obtain ⟨j, hj⟩ : ∃ j, tb.place = #[j] := by
      have := T.place
      rw [hz] at this
      obtain ⟨j, hj⟩ := List.length_eq_one_iff.mp (by simpa using this : tb.place.toList.length = 1)
      exact ⟨j, Array.toList_inj.mp hj⟩
    refine setiter_next (r := some (es[0].2, j + 1)) hh b a T.fits (fun A' E' Q' h => ?_) (fun x sl' h' hr K hI' => ?_) fun h' hr K => by cases hr
    · rw [setNext_eq]
      refine wpAny_bind (wpAny_setState_of a rfl T.fits (wpAny_bind (by_text ?_)))
      rw [hb, if_neg Bool.false_ne_true]
      dsimp only
      have hd : ¬ (!tb.plain && decide (es.size > 1)) = true := by simp [hz]
      rw [if_neg hd, T.led hb]
      simp only [Bool.not_true, Bool.false_and, Bool.false_eq_true, if_false]
      refine wpAny_bind (wpAny_pure ?_)
      rw [hj, below_one, if_neg (by lia)]
      have : es[0]? = some (es[0].1, es[0].2) := by simp [hz]
      rw [this]
      exact wpAny_pure h
    · simp only [Option.some.injEq, Prod.mk.injEq] at hr
      obtain ⟨rfl, rfl⟩ := hr
      refine hQ _ _ ?_ ⟨_, K S _ (by simpa using hSI) a, hI', _, rfl, (fun q => by lia), fun _ => ⟨j, hj, rfl⟩⟩ (moved_of K)
      simp [hz]
  done := fun s Q E ⟨v, a, b, sl, c, d, e⟩ hQ => by
    subst c
    refine setiter_next (r := none) hh b a T.fits (fun A' E' Q' h => ?_) (fun x sl' h' hr K hI' => by cases hr) fun h' hr K => hQ _ (moved_of K)
    rw [setNext_eq]
    refine wpAny_bind (wpAny_setState_of a rfl T.fits (wpAny_bind (by_text ?_)))
    rw [hb, if_neg Bool.false_ne_true]
    dsimp only
    have hd : ¬ (!tb.plain && decide (es.size > 1)) = true := by
      have : ¬ es.size > 1 := by lia
      simp [this]
    rw [if_neg hd, T.led hb]
    simp only [Bool.not_true, Bool.false_and, Bool.false_eq_true, if_false]
    refine wpAny_bind (wpAny_pure ?_)
    have : es[below tb.place sl]? = none := by
      by_cases hz : es.size = 0
      · simp [hz]
      · obtain ⟨j, hj, hsl⟩ := e (by lia)
        rw [hj, hsl, below_one, if_pos (by lia)]
        simp
        lia
    rw [this]
    exact wpAny_pure h

theorem drawn_cases {S : Addr} {es : Array (Int × Value)} {ep : Nat} {tb : SetTable} {Q : Bool → Shared → Prop} (hS : s.heap.get? S = some (setObj es ep tb)) (T : TabOk w tb es.size) (h : Q (!w.params.followText "set-order" && decide (es.size > 1)) s) : wpAny (model prog w) A (setDrawn S) Q E s := by
  rw [setDrawn_eq]
  refine wpAny_bind (wpAny_setState_of hS rfl T.fits (wpAny_bind (by_text (wpAny_pure ?_))))
  have : (!w.params.followText "set-order" && (!tb.plain && decide (es.size > 1))) = (!w.params.followText "set-order" && decide (es.size > 1)) := by
    cases hpl : tb.plain with
    | false => simp
    | true =>
      have := T.plain hpl
      simp [this]
  rw [this]
  exact h
/-- a walk over the set has begun: in what order its elements come -/
theorem iter_set {S : Addr} {es : Array (Int × Value)} {ep : Nat} {tb : SetTable} {Q : Value → Shared → Prop} (hS : s.heap.get? S = some (setObj es ep tb)) (T : TabOk w tb es.size)
    (h : ∀ (I : Addr) (h' : Heap) d (ord : List Value) (fp : List Addr) (St : Nat → Shared → Prop), (∀ b o, s.heap.get? b = some o → h'.get? b = some o) → s.heap.objs.size ≤ I → (∀ b ∈ fp, b = S ∨ s.heap.objs.size ≤ b) → (∀ b ∈ fp, b < h'.objs.size) → ord.Perm (es.toList.map (·.2)) →
      (∀ A' : Around, A'.handled = none → WalksS prog w A' I fp [I] (fun a b => b = a) es.size (fun i v => ord[i]? = some v) St) → St 0 { s with heap := h', drawn := d } → Q (.ref I) { s with heap := h', drawn := d }) :
    wpAny (model prog w) A (pyIter (.ref S)) Q E s := by
  have hT : s.TypeIs (.ref S) "set" := ⟨_, hS, rfl⟩
  have hlt : S < s.heap.objs.size := Heap.lt_size hS
  refine wpAny_pyIter_slot hT F.slot_set_iter (wpAny_call_entry F.slot_set_iter hT entry_set_iter' ?_ (F.args_set_iter_1 _))
  show wpAny _ _ (do
    let n ← Builtin.Frozenset.sizeOf S
    let first ← if ← setDrawn S then newTuple ((← drawOrder n (List.range n)).map fun (i : Nat) => rawInt i) else pure (rawInt 0)
    ret (← newFields "set_iterator" [first, rawInt 0, .ref S, rawInt n, rawInt (← setEpoch S)])) _ _ s
  unfold Builtin.Frozenset.sizeOf setEntries
  refine wpAny_bind (wpAny_bind (wpAny_bind (wpAny_setState_of hS rfl T.fits (wpAny_pure (wpAny_pure ?_)))))
  dsimp only
  refine wpAny_bind (drawn_cases hS T ?_)
  have plainRoad : ∀ (St : Nat → Shared → Prop) (ord : List Value), ord.Perm (es.toList.map (·.2)) → (∀ A' : Around, A'.handled = none → WalksS prog w A' s.heap.objs.size [s.heap.objs.size, S] [s.heap.objs.size] (fun a b => b = a) es.size (fun i v => ord[i]? = some v) St) →
      St 0 { s with heap := s.heap.push (iterObj (.int 0 0) (.ref S) 0 es.size ep) } → wpAny (model prog w) A.in1 (do
        let first ← (pure (rawInt 0) : Sem Value)
        ret (← newFields "set_iterator" [first, rawInt 0, .ref S, rawInt es.size, rawInt (← setEpoch S)])) (fun fin s' => ∃ r, fin = .done (.ret r) ∧ ∃ T' r', s'.TypeIs r T' ∧ typeLookup (.type T') "__next__" = pure (some r') ∧ Q r s') E s := by
    intro St ord hp W hst
    refine wpAny_bind (wpAny_pure ?_)
    refine wpAny_bind (wpAny_setEpoch_of hS rfl T.fits ?_)
    refine wpAny_bind (wpAny_newObj_type (wpAny_pure ⟨_, rfl, "set_iterator", _, ⟨_, Heap.get?_push_size _ rfl, rfl⟩, slot_setiter_next.lookup, ?_⟩))
    refine h s.heap.objs.size _ s.drawn ord [s.heap.objs.size, S] St (fun b o e => Heap.get?_push_of_some _ e) (Nat.le_refl _) (fun b hb => ?_) (fun b hb => ?_) hp W hst
    · rcases List.mem_cons.mp hb with rfl | hb
      · exact .inr (Nat.le_refl _)
      · exact .inl (List.mem_singleton.mp hb)
    · rw [Heap.size_push]
      rcases List.mem_cons.mp hb with rfl | hb
      · exact Nat.lt_succ_self _
      · rw [List.mem_singleton.mp hb]; exact Nat.lt_succ_of_lt hlt
  have hne : S ≠ s.heap.objs.size := Nat.ne_of_lt hlt
  cases hb : w.params.followText "set-order" with
  | true =>
    simp only [Bool.not_true, Bool.false_and, Bool.false_eq_true, if_false]
    refine plainRoad _ _ ((pickOrder_perm (w.params.setOrder S ep) es).map _) (fun A' hA => walksA hA hne T.fits hb) ⟨_, Heap.get?_push_of_some _ hS, Heap.get?_push_size _ rfl, rfl⟩
  | false =>
    by_cases h1 : es.size > 1
    · simp only [Bool.not_false, Bool.true_and, decide_eq_true h1, if_true]
      refine wpAny_bind (draw_order _ _ _ _ List.length_range fun ys d hp => ?_)
      refine wpAny_bind (wpAny_newTuple ?_ (by rw [List.length_map, hp.length_eq, List.length_range, sizeLine_eq]; have := T.lt; rcases T.mask with q | q | q <;> lia))
      refine wpAny_bind (wpAny_setEpoch_of (s := { s with drawn := d, heap := s.heap.push (seqObj "tuple" (ys.map fun (i : Nat) => rawInt i).toArray 0) }) (Heap.get?_push_of_some _ hS) rfl T.fits ?_)
      refine wpAny_bind (wpAny_newObj_type (wpAny_pure ⟨_, rfl, "set_iterator", _, ⟨_, Heap.get?_push_size _ rfl, rfl⟩, slot_setiter_next.lookup, ?_⟩))
      have hsz : (s.heap.push (seqObj "tuple" (ys.map fun (i : Nat) => rawInt i).toArray 0)).objs.size = s.heap.objs.size + 1 := Heap.size_push _ _
      have hordp : (ys.map fun k => (es.getD k (0, .none)).2).Perm (es.toList.map (·.2)) := by
        have q := hp.map fun k => (es.getD k ((0 : Int), Value.none)).2
        refine q.trans ?_
        have e : (List.range es.size).map (fun k => (es.getD k ((0 : Int), Value.none)).2) = es.toList.map (·.2) := by
          refine List.ext_getElem (by simp) fun i h1 h2 => ?_
          have h3 : i < es.size := by simpa using h2
          simp [Array.getD, h3]
        rw [e]
      refine h (s.heap.push (seqObj "tuple" (ys.map fun (i : Nat) => rawInt i).toArray 0)).objs.size _ d _ [(s.heap.push (seqObj "tuple" (ys.map fun (i : Nat) => rawInt i).toArray 0)).objs.size, S, s.heap.objs.size] _ (fun b o e => Heap.get?_push_of_some _ (Heap.get?_push_of_some _ e)) (by rw [hsz]; exact Nat.le_succ _) (fun b hb => ?_) (fun b hb => ?_) hordp
        (fun A' hA => walksB hA (by rw [hsz]; exact Nat.ne_of_lt (Nat.lt_succ_of_lt hlt)) (by rw [hsz]; exact Nat.ne_of_lt (Nat.lt_succ_self s.heap.objs.size)) T.fits hp) ⟨_, Heap.get?_push_of_some _ (Heap.get?_push_of_some _ hS), Heap.get?_push_size _ rfl, rfl, ?_⟩
      · rw [hsz] at hb
        simp only [List.mem_cons, List.not_mem_nil, or_false] at hb
        rcases hb with rfl | rfl | rfl
        · exact .inr (Nat.le_succ _)
        · exact .inl rfl
        · exact .inr (Nat.le_refl _)
      · rw [hsz] at hb
        rw [Heap.size_push, hsz]
        simp only [List.mem_cons, List.not_mem_nil, or_false] at hb
        rcases hb with rfl | rfl | rfl
        · exact Nat.lt_succ_self _
        · exact Nat.lt_succ_of_lt (Nat.lt_succ_of_lt hlt)
        · exact Nat.lt_succ_of_lt (Nat.lt_succ_self _)
      · exact Heap.get?_push_of_some _ (Heap.get?_push_size _ rfl)
    · simp only [Bool.not_false, Bool.true_and, decide_eq_false h1, Bool.false_eq_true, if_false]
      refine plainRoad _ _ (.refl _) (fun A' hA => walksC hA hne T (by lia) hb) ⟨_, Heap.get?_push_of_some _ hS, Heap.get?_push_size _ rfl, 0, rfl, fun _ => rfl, fun q => by cases q⟩
end

/-! sorted, of a set of rows and of a list of rows -/
section
open PySem.SetTable
variable {prog : Program} {w : World} {A : Around} {E : Value → Shared → Prop} {s : Shared}
theorem setSub : isSubtype (.type "set") (.type "set") = pure true := sub_set_self
theorem hint_set {S : Addr} {Q : Bool → Shared → Prop} (hT : s.TypeIs (.ref S) "set") (h : Q false s) : wpAny (model prog w) A (Builtin.List.listLengthHint (.ref S)) Q E s := by
  unfold Builtin.List.listLengthHint
  refine wpAny_bind (wpAny_specialOf hT F.slot_set_len.lookup ?_)
  dsimp only
  have hsp : splitId "set.__len__" = some ("set", "__len__") := by decide +kernel
  rw [hsp]
  dsimp only
  refine wpAny_bind (wpAny_isInstance hT setSub ?_)
  simp only [Bool.not_true, Bool.false_eq_true, if_false]
  rw [if_pos (by decide +kernel)]
  exact wpAny_bind (wpAny_typeOf hT (wpAny_pure h))
/-- a set is collected into a list -/
theorem collect_set {S : Addr} {es : Array (Int × Value)} {ep : Nat} {tb : SetTable} {Q : List Value → Shared → Prop} (hh : A.handled = none) (hS : s.heap.get? S = some (setObj es ep tb)) (T : TabOk w tb es.size)
    (h : ∀ ord h' tk d, ord.Perm (es.toList.map (·.2)) → KeepBut [] s.heap h' → Q ord { s with heap := h', toks := tk, drawn := d }) : wpAny (model prog w) A (collect (.ref S)) Q E s := by
  have hlt : S < s.heap.objs.size := Heap.lt_size hS
  unfold collect
  refine wpAny_bind (wpAny_runValue (codeAny_builtin F.entry_proto_collect ?_))
  rw [Around.under_plainId F.plain_proto_collect _]
  show wpAny _ A.in1 (newList [] >>= fun l => again (.builtin "list.__iadd__" ⟨[l, .ref S], []⟩)) _ _ s
  refine wpAny_bind (wpAny_newObj_type ?_)
  refine wpAny_pure ⟨plainId_quiet F.plain_list_iadd _, codeAny_builtin F.entry_list_iadd ?_⟩
  rw [Around.under_plainId F.plain_list_iadd _]
  have hS₁ : (s.heap.push { cls := .type "list", data := .seq ([] : List Value).toArray }).get? S = some (setObj es ep tb) := Heap.get?_push_of_some _ hS
  show wpAny _ A.in1 (Builtin.List.listExtendWith (.ref s.heap.objs.size) (.ref S) (.ref s.heap.objs.size)) _ _ _
  unfold Builtin.List.listExtendWith
  refine wpAny_bind (wpAny_typeOf ⟨_, hS₁, rfl⟩ ?_)
  have h1 : Builtin.List.listSameRef (.ref s.heap.objs.size) (.ref S) = false := by simp [Builtin.List.listSameRef]; exact Nat.ne_of_gt hlt
  have h2 : (Value.type "set" == Value.type "list") = false := by decide
  have h3 : (Value.type "set" == Value.type "tuple") = false := by decide
  simp only [h1, h2, h3, Bool.or_false, Bool.false_eq_true, if_false]
  refine wpAny_bind (iter_set (s := { s with heap := s.heap.push { cls := .type "list", data := .seq ([] : List Value).toArray } }) hS₁ T fun I h' d ord fp St up hI hfp hfp2 hp W hst => ?_)
  have hD : h'.get? s.heap.objs.size = some { cls := .type "list", data := .seq ([] : List Value).toArray } := up _ _ (Heap.get?_push_size _ rfl)
  have hsz : (s.heap.push { cls := .type "list", data := .seq ([] : List Value).toArray }).objs.size = s.heap.objs.size + 1 := Heap.size_push _ _
  have hI' : s.heap.objs.size + 1 ≤ I := by rw [← hsz]; exact hI
  have hDf : s.heap.objs.size ∉ fp := fun hm => by
    rcases hfp _ hm with q | q
    · exact absurd q (Nat.ne_of_gt hlt)
    · have q' : s.heap.objs.size + 1 ≤ s.heap.objs.size := by rw [← hsz]; exact q
      lia
  refine wpAny_bind (wpAny_holding (hint_set (s := { s with heap := h', drawn := d }) ⟨_, up _ _ hS₁, rfl⟩ ?_))
  rw [if_pos (by decide +kernel)]
  refine wpAny_bind (wpAny_rule ?_)
  refine wpAny_bind ?_
  show wpAny _ A.in1 (updateSeq s.heap.objs.size (·.push .none) >>= fun _ => updateSeq s.heap.objs.size (·.pop)) _ _ _
  refine wpAny_bind (wpAny_updateSeq hD rfl ?_)
  have hD₂ := Heap.get?_update_self (Obj.mapSeq (·.push Value.none)) hD rfl
  refine wpAny_updateSeq hD₂ rfl ?_
  have hD₃ := Heap.get?_update_self (Obj.mapSeq (·.pop)) hD₂ rfl
  have oth : ∀ b o, b ≠ s.heap.objs.size → h'.get? b = some o → ((h'.update s.heap.objs.size (Obj.mapSeq (·.push Value.none))).update s.heap.objs.size (Obj.mapSeq (·.pop))).get? b = some o :=
    fun b o hb e => (Heap.get?_update_other _ _ (Ne.symm hb)).trans ((Heap.get?_update_other _ _ (Ne.symm hb)).trans e)
  have hes : es.size ≤ sizeLine := by
    rw [sizeLine_eq]
    have := T.lt
    rcases T.mask with q | q | q <;> lia
  have hW := W A.in1 (show A.in1.handled = none from hh)
  have hlen : ord.length = es.size := by have := hp.length_eq; simpa using this
  refine wpAny_pure ⟨plainId_quiet F.plain_extend_loop _, codeAny_extend_loopS hW hes _ hDf _ es.size 0 _ _ _ rfl (Nat.zero_le _)
    (hW.frame 0 { s with heap := h', drawn := d } _ s.toks hst (Nat.le_refl _) fun b hb o e => oth b o (fun q => hDf (q ▸ hb)) e) hD₃ (ItemsOf.nil _) fun s' acc' c' hm hS' hacc => ?_⟩
  show wpAny _ A (load s.heap.objs.size >>= _) _ _ s'
  refine wpAny_bind (wpAny_load hS' ?_)
  have hacc' : acc'.toList = ord := by
    refine List.ext_getElem? fun i => ?_
    rw [Array.getElem?_toList]
    by_cases hi : i < es.size
    · have hi' : i < acc'.size := by rw [hacc.1]; exact hi
      have q := hacc.2 i acc'[i] (Array.getElem?_eq_getElem hi')
      rw [Array.getElem?_eq_getElem hi', q]
    · rw [Array.getElem?_eq_none (by rw [hacc.1]; lia), List.getElem?_eq_none (by lia)]
  obtain ⟨hp9, g9, d9, tk9, os9⟩ := s'
  have eg : g9 = s.gens := hm.gens
  have ed : d9 = d := hm.drawn
  have eo : os9 = s.os := hm.os
  subst eg; subst ed; subst eo
  refine wpAny_pure ?_
  rw [hacc']
  refine h ord _ _ _ hp fun b o _ e => ?_
  have hb := Heap.lt_size e
  refine hm.heap b o (fun q => ?_) (oth b o (Nat.ne_of_lt hb) (up b o (Heap.get?_push_of_some _ e)))
  rcases List.mem_cons.mp q with q | q
  · exact absurd q (Nat.ne_of_lt hb)
  · rw [List.mem_singleton.mp q] at hb
    exact absurd (Nat.lt_of_lt_of_le hb (Nat.le_of_succ_le hI')) (Nat.lt_irrefl _)
noncomputable abbrev seqL (vs : List Value) (c : Nat) : Obj := seqObj "list" vs.toArray c
/-- sorted, of whatever is collected into rows -/
theorem sorted_any {l : Addr} {rs₀ : List Row} {n₀ : Nat} {Pp : List Value → List Row → Prop} {Q : Value → Shared → Prop}
    (hcol : ∀ (A' : Around) (E' : Value → Shared → Prop) (Q' : List Value → Shared → Prop), A'.handled = A.handled → (∀ vs rs h' tk d, KeepBut [] s.heap h' → RowsAre (fun b o => h'.get? b = some o) vs rs → vs.length < 64 → Pp vs rs → Q' vs { s with heap := h', toks := tk, drawn := d }) → wpAny (model prog w) A' (collect (.ref l)) Q' E' s)
    (h : ∀ vs rs h' tk d D c vs' rs', Pp vs rs → KeepBut [] s.heap h' → h'.get? D = some (seqL vs' c) → (∀ b o, s.heap.get? b = some o → b < D) → RowsAre (fun b o => h'.get? b = some o) vs' rs' → rs'.Perm rs → vs'.Perm vs → rs'.Pairwise rowLe → Q (.ref D) { s with heap := h', toks := tk, drawn := d }) :
    wpAny (model prog w) A (call (.builtin "sorted") [.ref l]) Q E s := by
  refine Calls.call_function_entry kind_sorted plain_sorted entry_sorted (args_sorted1 _) ?_
  unfold Builtin.«sorted»
  refine wpAny_bind (m := checkCount "sorted" 1 1 _) (wpAny_pure ?_)
  refine wpAny_bind (hcol _ _ _ rfl fun vs rs h' tk d K R h64 hp => ?_)
  refine wpAny_bind (wpAny_newList ?_ (by rw [sizeLine_eq]; lia))
  have hoL : (h'.push (seqObj "list" vs.toArray 0)).get? h'.objs.size = some (seqObj "list" vs.toArray 0) := Heap.get?_push_size _ rfl
  have R' : RowsAre (fun b o => (h'.push (seqObj "list" vs.toArray 0)).get? b = some o) vs rs := R.mono fun b o e => Heap.get?_push_of_some _ e
  refine wpAny_bind (wpAny_holding (wpAny_call_entry slot_list_sort ⟨_, hoL, rfl⟩ entry_list_sort ?_ (args_list_sort _)))
  refine rows_list_sort (s := { s with heap := h'.push (seqObj "list" vs.toArray 0), toks := tk, drawn := d }) hoL R' h64 fun h'' c vs' rs' K' e R'' p1 p2 hs => ⟨_, rfl, wpAny_pure ⟨_, rfl, ?_⟩⟩
  have hne : ∀ b o, s.heap.get? b = some o → b < h'.objs.size := fun b o e => Heap.lt_size (K b o (by simp) e)
  refine h vs rs h'' tk d h'.objs.size c vs' rs' hp (fun b o _ e => K' b o (by simpa using Nat.ne_of_lt (hne b o e)) (Heap.get?_push_of_some _ (K b o (by simp) e))) e hne ?_ p1 p2 hs
  exact R''.keepList hoL K'

noncomputable abbrev hasRows (h : Heap) (vs : List Value) (rs : List Row) : Prop := RowsAre (fun b o => h.get? b = some o) vs rs
theorem RowsAre.perm {P : Addr → Obj → Prop} {ws ord : List Value} (p : ws.Perm ord) : ∀ {ks : List Row}, RowsAre P ws ks → ∃ ks', RowsAre P ord ks' ∧ ks'.Perm ks := by
  induction p with
  | nil => intro ks R; exact ⟨ks, R, .refl _⟩
  | cons x _ ih =>
    intro ks R
    cases R with
    | cons e R =>
      obtain ⟨ks', R', pk⟩ := ih R
      exact ⟨_, .cons e R', pk.cons _⟩
  | swap x y l =>
    intro ks R
    cases R with
    | cons e R =>
      cases R with
      | cons e' R => exact ⟨_, .cons e' (.cons e R), .swap _ _ _⟩
  | trans _ _ ih1 ih2 =>
    intro ks R
    obtain ⟨k1, R1, p1⟩ := ih1 R
    obtain ⟨k2, R2, p2⟩ := ih2 R1
    exact ⟨k2, R2, p2.trans p1⟩
/-- sorted(list of rows) -/
theorem sorted_rows {l : Addr} {vs : List Value} {rs : List Row} {Q : Value → Shared → Prop} (hl : s.heap.IsList l vs.toArray) (R : hasRows s.heap vs rs) (h64 : vs.length < 64)
    (h : ∀ h' tk d D c vs' rs', KeepBut [] s.heap h' → h'.get? D = some (seqL vs' c) → (∀ b o, s.heap.get? b = some o → b < D) → hasRows h' vs' rs' → rs'.Perm rs → rs'.Pairwise rowLe → Q (.ref D) { s with heap := h', toks := tk, drawn := d }) :
    wpAny (model prog w) A (call (.builtin "sorted") [.ref l]) Q E s := by
  refine sorted_any (Pp := fun _ rs' => rs' = rs) (rs₀ := rs) (n₀ := 0) (fun A' E' Q' _ k => ?_) fun vs₁ rs₁ h' tk d D c vs' rs' hp K e hD R' p1 p2 hs => ?_
  · refine collect_list hl (k vs rs _ s.toks s.drawn (fun b o _ e => ?_) (R.mono fun b o e => ?_) h64 rfl) (by rw [sizeLine_eq]; lia)
    · exact (Heap.get?_update_ne _ _ _ _ (Nat.ne_of_lt (Heap.lt_size e))).trans (Heap.get?_push_of_some _ e)
    · exact (Heap.get?_update_ne _ _ _ _ (Nat.ne_of_lt (Heap.lt_size e))).trans (Heap.get?_push_of_some _ e)
  · subst hp
    exact h h' tk d D c vs' rs' K e hD R' p1 hs
/-- sorted(set of rows) -/
theorem sorted_set {S : Addr} {es : Array (Int × Value)} {ep : Nat} {tb : SetTable} {rs : List Row} {Q : Value → Shared → Prop} (hh : A.handled = none) (hS : s.heap.get? S = some (setObj es ep tb)) (T : TabOk w tb es.size) (hz : es.size ≤ 63) {V : List Value} (SR : SetRows V s.heap es rs)
    (h : ∀ h' tk d D c vs' rs', KeepBut [] s.heap h' → h'.get? D = some (seqL vs' c) → (∀ b o, s.heap.get? b = some o → b < D) → hasRows h' vs' rs' → (∀ k ∈ rs', k ∈ rs) → (rs.Nodup → rs'.Perm rs) → rs'.Pairwise rowLe → (∀ v ∈ vs', v ∈ V) → vs'.length = es.size → Q (.ref D) { s with heap := h', toks := tk, drawn := d }) :
    wpAny (model prog w) A (call (.builtin "sorted") [.ref S]) Q E s := by
  refine sorted_any (Pp := fun vs₁ rs' => (∀ k ∈ rs', k ∈ rs) ∧ (rs.Nodup → rs'.Perm rs) ∧ (∀ v ∈ vs₁, v ∈ V) ∧ vs₁.length = es.size) (rs₀ := rs) (n₀ := 0) (fun A' E' Q' hA k => ?_) fun vs₁ rs₁ h' tk d D c vs' rs' hp K e hD R' p1 p2 hs => ?_
  · refine collect_set (hA.trans hh) hS T fun ord h' tk d hp K => ?_
    obtain ⟨ws, ks, q1, R, q2, q3, q4⟩ := SR
    have p := hp.trans q1
    obtain ⟨ks', R', pk⟩ := R.perm p.symm
    refine k ord ks' h' tk d K (R'.mono fun b o e => K b o (by simp) e) (by have := hp.length_eq; simp at this; lia) ⟨fun x hx => q2 x (pk.mem_iff.mp hx), fun hn => pk.trans (q3 hn), fun v hv => q4 v (p.mem_iff.mp hv), by have := hp.length_eq; simp at this; lia⟩
  · exact h h' tk d D c vs' rs' K e hD R' (fun x hx => hp.1 x (p1.mem_iff.mp hx)) (fun hn => p1.trans (hp.2.1 hn)) hs (fun v hv => hp.2.2.1 v (p2.mem_iff.mp hv)) (p2.length_eq.trans hp.2.2.2)
end

noncomputable abbrev partsL (t0 t1 t2 t3 t4 t5 t6 t7 t8 t9 t10 t11 t12 u0 u1 u2 u3 u4 u5 u6 u7 u8 u9 u10 u11 u12 : Tok) : List (Value × Value) := [(.str (Str.ofString "push") t0, .int 2 u0), (.str (Str.ofString "calc") t1, .int 2 u1), (.str (Str.ofString "put") t2, .int 2 u2), (.str (Str.ofString "do") t3, .int 1 u3), (.str (Str.ofString "key") t4, .int 2 u4), (.str (Str.ofString "test") t5, .int 2 u5), (.str (Str.ofString "jump") t6, .int 1 u6), (.str (Str.ofString "choose") t7, .int 1 u7), (.str (Str.ofString "perform") t8, .int 2 u8), (.str (Str.ofString "leave") t9, .int 1 u9), (.str (Str.ofString "count") t10, .int 1 u10), (.str (Str.ofString "less") t11, .int 2 u11), (.str (Str.ofString "stop") t12, .int 1 u12)]
theorem look_cons {n k : Str} {v : PyData} {r : List (PyData × PyData)} : PySem.Spec.lookup (.str n) ((.str k, v) :: r) = if n = k then some v else PySem.Spec.lookup (.str n) r := by
  show (if PySem.Spec.same (.str k) (.str n) then _ else _) = _
  by_cases e : n = k
  · subst e; rw [if_pos (PySem.Spec.same_self _), if_pos rfl]
  · rw [if_neg e, if_neg]
    intro q
    rw [show PySem.Spec.same (.str k) (.str n) = (k == n) from by simp [PySem.Spec.same]] at q
    exact e (eq_of_beq q).symm
theorem parts_look {n : Str} {t0 t1 t2 t3 t4 t5 t6 t7 t8 t9 t10 t11 t12 u0 u1 u2 u3 u4 u5 u6 u7 u8 u9 u10 u11 u12 : Tok} : PySem.Spec.lookup (PyData.str n) (strData [(.str (Str.ofString "push") t0, .int 2 u0), (.str (Str.ofString "calc") t1, .int 2 u1), (.str (Str.ofString "put") t2, .int 2 u2), (.str (Str.ofString "do") t3, .int 1 u3), (.str (Str.ofString "key") t4, .int 2 u4), (.str (Str.ofString "test") t5, .int 2 u5), (.str (Str.ofString "jump") t6, .int 1 u6), (.str (Str.ofString "choose") t7, .int 1 u7), (.str (Str.ofString "perform") t8, .int 2 u8), (.str (Str.ofString "leave") t9, .int 1 u9), (.str (Str.ofString "count") t10, .int 1 u10), (.str (Str.ofString "less") t11, .int 2 u11), (.str (Str.ofString "stop") t12, .int 1 u12)]) = (argc n).map PyData.int := by
  simp only [strData, datumOf, Option.getD_some, look_cons, argc, apply_ite (Option.map PyData.int), Option.map_some, Option.map_none]
  rfl
theorem parts_get {n : Str} {t0 t1 t2 t3 t4 t5 t6 t7 t8 t9 t10 t11 t12 u0 u1 u2 u3 u4 u5 u6 u7 u8 u9 u10 u11 u12 : Tok} {v : Value} (h : PyProof.V.Flat v ((PySem.Spec.lookup (PyData.str n) (strData [(.str (Str.ofString "push") t0, .int 2 u0), (.str (Str.ofString "calc") t1, .int 2 u1), (.str (Str.ofString "put") t2, .int 2 u2), (.str (Str.ofString "do") t3, .int 1 u3), (.str (Str.ofString "key") t4, .int 2 u4), (.str (Str.ofString "test") t5, .int 2 u5), (.str (Str.ofString "jump") t6, .int 1 u6), (.str (Str.ofString "choose") t7, .int 1 u7), (.str (Str.ofString "perform") t8, .int 2 u8), (.str (Str.ofString "leave") t9, .int 1 u9), (.str (Str.ofString "count") t10, .int 1 u10), (.str (Str.ofString "less") t11, .int 2 u11), (.str (Str.ofString "stop") t12, .int 1 u12)])).getD (.int (-1)))) : ∃ i t, v = .int i t ∧ (argc n = some i ∨ argc n = none ∧ i = -1) := by
  rw [parts_look] at h
  cases e : argc n with
  | none =>
    rw [e] at h
    obtain ⟨t, ht⟩ := h.int_inv
    exact ⟨-1, t, ht, .inr ⟨rfl, rfl⟩⟩
  | some i =>
    rw [e] at h
    obtain ⟨t, ht⟩ := h.int_inv
    exact ⟨i, t, ht, .inl rfl⟩
theorem keep_nil_fr {h₀ h h' : Heap} {L : Addr} {m : Str → Option Value} (F : Fr h₀ L h m) (K : KeepBut [] h h') : Fr h₀ L h' m := fr_keep F K (by simp) (by simp)
theorem keep_nil_news {h₀ h h' : Heap} {L : Addr} {news : List (Addr × Obj)} (N : News h₀ L h news) (K : KeepBut [] h h') : News h₀ L h' news := fun p hp => ⟨K _ _ (by simp) (N p hp).1, (N p hp).2⟩
theorem fresh_new {h₀ h : Heap} {L D : Addr} {m : Str → Option Value} (F : Fr h₀ L h m) (hD : h.get? D = none) : D ≠ L ∧ h₀.get? D = none := by
  refine ⟨?_, ?_⟩
  · rintro rfl
    obtain ⟨o, _, _, hL, _⟩ := F.ns
    rw [hL] at hD; cases hD
  · cases e : h₀.get? D with
    | none => rfl
    | some o => rw [F.keep _ _ e] at hD; cases hD
theorem parts_ok {w : World} {mean : ExcName → Option Value} {mg mb : Str → Option Value} {dp un : Nat} {gd : Option (List Code)} {cn : Str} {cs : Scope} {a : Addr} {ccd : Value} {cl : List (Str × Addr)} {outer : List Env} {A₀ : Around} {base h₀ : Heap} {L : Addr} {m : Str → Option Value} {s : Shared} {Q E : Value → Shared → Prop}
  (B : Below A₀ base outer h₀) (F : Fr h₀ L s.heap m) (X : (Mine.hd.heap_1 w.params).In h₀) (T : Top Mine.hd.view_1 lo mean mg mb h₀) (hk : cs.kind = .function) (hd : dp + 1 < recursionLimit)
  (hret : ∀ h' tk D o t0 t1 t2 t3 t4 t5 t6 t7 t8 t9 t10 t11 t12 u0 u1 u2 u3 u4 u5 u6 u7 u8 u9 u10 u11 u12, KeepBut [] s.heap h' → h'.get? D = some o → D ≠ L ∧ h₀.get? D = none → (D == sysModules) = false → Obj.IsDictOf (PySem.strKind PySem.Challenge.rw_pq0627_01.row.prog w) o (strPairs (partsL t0 t1 t2 t3 t4 t5 t6 t7 t8 t9 t10 t11 t12 u0 u1 u2 u3 u4 u5 u6 u7 u8 u9 u10 u11 u12)) → PyProof.V.FlatPairs PyData.str (strPairs (partsL t0 t1 t2 t3 t4 t5 t6 t7 t8 t9 t10 t11 t12 u0 u1 u2 u3 u4 u5 u6 u7 u8 u9 u10 u11 u12)) (strData (partsL t0 t1 t2 t3 t4 t5 t6 t7 t8 t9 t10 t11 t12 u0 u1 u2 u3 u4 u5 u6 u7 u8 u9 u10 u11 u12)) → Q (.ref D) { s with heap := h', toks := tk }) :
  wpAny (model PySem.Challenge.rw_pq0627_01.row.prog w) (ktrTop dp un gd cn cs L a ccd cl outer) (call (.ref 93) []) Q E s := by
  revert X; k_fill; intro X
  have N : News h₀ L s.heap [] := News.nil
  refine wpAny_call ?_
  k_dflt (k_extra "M enter")
  have kG0 := kG'
  k_steps
  rename News h₀ L _ _ => kN
  exact hret _ _ _ _ _ _ _ _ _ _ _ _ _ _ _ _ _ _ _ _ _ _ _ _ _ _ _ _ _ _ (keep_led kG0 (by assumption) N kN (by k_extra "M sub")) (kN (_, _) (List.Mem.head _)).1 (kN (_, _) (List.Mem.head _)).2 (by assumption) (by assumption) (by assumption)
theorem parts_use {w : World} {mean : ExcName → Option Value} {mg mb : Str → Option Value} {dp un : Nat} {gd : Option (List Code)} {cn : Str} {cs : Scope} {a : Addr} {ccd : Value} {cl : List (Str × Addr)} {outer : List Env} {A₀ : Around} {base h₀ : Heap} {L : Addr} {m : Str → Option Value} {s : Shared} {Q E : Value → Shared → Prop} {news : List (Addr × Obj)}
  (B : Below A₀ base outer h₀) (F : Fr h₀ L s.heap m) (X : (Mine.hd.heap_1 w.params).In h₀) (T : Top Mine.hd.view_1 lo mean mg mb h₀) (hk : cs.kind = .function) (hd : dp + 1 < recursionLimit) (N : News h₀ L s.heap news)
  (hret : ∀ h' tk D o t0 t1 t2 t3 t4 t5 t6 t7 t8 t9 t10 t11 t12 u0 u1 u2 u3 u4 u5 u6 u7 u8 u9 u10 u11 u12, KeepBut [] s.heap h' → Fr h₀ L h' m → News h₀ L h' ((D, o) :: news) → (D == sysModules) = false → Obj.IsDictOf (PySem.strKind PySem.Challenge.rw_pq0627_01.row.prog w) o (strPairs (partsL t0 t1 t2 t3 t4 t5 t6 t7 t8 t9 t10 t11 t12 u0 u1 u2 u3 u4 u5 u6 u7 u8 u9 u10 u11 u12)) → PyProof.V.FlatPairs PyData.str (strPairs (partsL t0 t1 t2 t3 t4 t5 t6 t7 t8 t9 t10 t11 t12 u0 u1 u2 u3 u4 u5 u6 u7 u8 u9 u10 u11 u12)) (strData (partsL t0 t1 t2 t3 t4 t5 t6 t7 t8 t9 t10 t11 t12 u0 u1 u2 u3 u4 u5 u6 u7 u8 u9 u10 u11 u12)) → Q (.ref D) { s with heap := h', toks := tk }) :
  wpAny (model PySem.Challenge.rw_pq0627_01.row.prog w) (ktrTop dp un gd cn cs L a ccd cl outer) (call (.ref 93) []) Q E s :=
  parts_ok B F X T hk hd fun h' tk D o t0 t1 t2 t3 t4 t5 t6 t7 t8 t9 t10 t11 t12 u0 u1 u2 u3 u4 u5 u6 u7 u8 u9 u10 u11 u12 K e q lo hd hf => hret h' tk D o t0 t1 t2 t3 t4 t5 t6 t7 t8 t9 t10 t11 t12 u0 u1 u2 u3 u4 u5 u6 u7 u8 u9 u10 u11 u12 K (keep_nil_fr F K) (fun p hp => by
    rcases List.mem_cons.mp hp with rfl | hp
    · exact ⟨e, q⟩
    · exact keep_nil_news N K p hp) lo hd hf


theorem kreg17 : True := by
  w_top off
  k_with "call ref" => ((k_here; (with_reducible show wpAny _ _ (call (Value.ref 93) _) _ _ _); k_dflt (refine' parts_use ?k1 ?k2 ?k3 ?k4 ?k5 ?k6 ?k7 ?_; (case k1 => k_asm); (case k2 => k_asm); (case k3 => k_asm); (case k4 => k_asm); (case k5 => first | exact rfl | assumption); (case k6 => ktr_room); (case k7 => k_asm)); (iterate 4 intro _); (iterate 26 intro _); intro KP F' N' lo' hd' hf'; (try k_sweep); (try k_fold)))
  exact True.intro
/-! comprehensions over a list of ints, each element by an invariant over the ledger -/
section
open LCg
variable {prog : Program} {w : World} {A : Around} {E : Value → Shared → Prop} {s : Shared} {h₀ : Heap} {L : Addr} {m : Str → Option Value} {env : Env}
theorem CompEnd.mono {s₁ : Shared} {I C D : Addr} {oI oC oD : Obj} {S : List (Addr × Obj) → Prop} {rest rest' : Value → List (Addr × Obj) → Prop} {y : Value} {s₂ : Shared} (h : CompEnd h₀ L m s₁ I oI C oC D oD S rest y s₂) (hr : ∀ y n, rest y n → rest' y n) : CompEnd h₀ L m s₁ I oI C oC D oD S rest' y s₂ := by
  obtain ⟨h', tk, news', e, F, N, o, hS, r⟩ := h
  exact ⟨h', tk, news', e, F, N, o, hS, hr _ _ r⟩
theorem comp_ind {elt : Expr} {x : Str} {scope : Scope} {cl : List (Str × Addr)} {S : List (Addr × Obj) → Prop} {P : Nat → Value → Prop} {Fin : List Value → List (Addr × Obj) → Prop} (n : Nat) (J : Nat → List Value → List (Addr × Obj) → Prop)
    (step : ∀ i v ys news I oI C oC D m₂ h tk (E' : Value → Shared → Prop), i < n → P i v → J i ys news → NsObj oC m₂ → m₂ x = some v → Fr h₀ L h m → News h₀ L h ((I, oI) :: (C, oC) :: (D, lst ys) :: news) → Off3 I C D news → ((@Ne Nat I C) ∧ (@Ne Nat I D) ∧ (@Ne Nat C D)) →
      wpAny (model prog w) A (eval elt (compEnvC scope cl C env)) (CompEnd h₀ L m { s with heap := h, toks := tk } I oI C oC D (lst ys) S (fun y news' => J (i + 1) (ys ++ [y]) news')) E' { s with heap := h, toks := tk })
    (fin : ∀ ys news, J n ys news → Fin ys news) : ∀ k i ys news, i + k = n → J i ys news → CompRest prog w A h₀ L m env elt x scope cl s S P Fin k i ys news
  | 0, i, ys, news, hk, j => by
    have e : i = n := by lia
    subst e
    exact CompRest.zero (fin ys news j)
  | k + 1, i, ys, news, hk, j => CompRest.succ fun v I oI C oC D m₂ h tk E' hP hC hx F N off ne =>
    wpAny_mono (step i v ys news I oI C oC D m₂ h tk E' (by lia) hP j hC hx F N off ne) (fun _ _ q => CompEnd.mono q fun y n' j' => comp_ind n J step fin k (i + 1) (ys ++ [y]) n' (by lia) j') fun _ _ e => e
end
theorem allLt_mem {d : Nat} : ∀ {l : List (Addr × Obj)}, AllLt d l → ∀ p ∈ l, @Ne Nat p.1 d
  | [], _, _, hp => nomatch hp
  | _ :: _, h, p, hp => by
    rcases List.mem_cons.mp hp with rfl | hp
    · exact Nat.ne_of_lt h.1
    · exact allLt_mem h.2 p hp
theorem off1_mem {d : Addr} : ∀ {l : List (Addr × Obj)}, LCg.Off1 d l → ∀ p ∈ l, p.1 ≠ d
  | [], _, _, hp => nomatch hp
  | _ :: _, h, p, hp => by
    rcases List.mem_cons.mp hp with rfl | hp
    · exact h.1
    · exact off1_mem h.2 p hp
/-- pairs of ints, the first of them good -/
noncomputable def PairsAre (P : Addr → Obj → Prop) (good : Int → Prop) (vs : List Value) : Prop := ∀ v ∈ vs, ∃ a k t hv u, v = Value.ref a ∧ P a (tupOf [.int k t, .int hv u]) ∧ good k
theorem PairsAre.nil {P : Addr → Obj → Prop} {good : Int → Prop} : PairsAre P good [] := fun _ h => nomatch h
theorem PairsAre.snoc {P P' : Addr → Obj → Prop} {good : Int → Prop} {vs : List Value} {a : Addr} {k hv : Int} {t u : Tok} (h : PairsAre P good vs) (K : ∀ a o, P a o → P' a o) (ha : P' a (tupOf [.int k t, .int hv u])) (g : good k) : PairsAre P' good (vs ++ [.ref a]) := fun v hm => by
  rcases List.mem_append.mp hm with hm | hm
  · obtain ⟨b, k, t, hv, u, e1, e2, e3⟩ := h v hm
    exact ⟨b, k, t, hv, u, e1, K _ _ e2, e3⟩
  · rw [List.mem_singleton.mp hm]
    exact ⟨a, k, t, hv, u, rfl, ha, g⟩
section
open LCg
variable {prog : Program} {w : World} {A : Around} {E : Value → Shared → Prop} {s : Shared} {h₀ : Heap} {L : Addr} {m : Str → Option Value} {env : Env}
/-- the end of an element: a new pair -/
noncomputable def PairEnd (h₀ : Heap) (L : Addr) (m : Str → Option Value) (news : List (Addr × Obj)) (I C D : Addr) (k : Int) (s : Shared) (y : Value) (s' : Shared) : Prop :=
  ∃ h' tk' a t hv u, y = .ref a ∧ s' = { s with heap := h', toks := tk' } ∧ Fr h₀ L h' m ∧ News h₀ L h' ((a, tupOf [.int k t, .int hv u]) :: news) ∧ a ≠ I ∧ a ≠ C ∧ a ≠ D
theorem comp_pairs {elt : Expr} {x : Str} {scope : Scope} {cl : List (Str × Addr)} {Fin : Shared → List Value → List (Addr × Obj) → Prop} {ax : Addr} {kk : Nat} {base : List (Addr × Obj)} {s₁ : Shared} {us : List Value} {is : List Int} (good : Int → Prop)
    (hh : A.handled = none) (F : Fr h₀ L s₁.heap m) (N : News h₀ L s₁.heap base) (hm : (ax, listOf us.toArray kk) ∈ base) (hI : IntsAre us is) (hg : ∀ k ∈ is, good k) (hz : us.length < 100)
    (step : ∀ k t I oI C oC D ys R m₂ h tk (E' : Value → Shared → Prop), k ∈ is → NsObj oC m₂ → m₂ x = some (.int k t) → Fr h₀ L h m → News h₀ L h ((I, oI) :: (C, oC) :: (D, lst ys) :: (base ++ R)) →
      wpAny (model prog w) A (eval elt (compEnvC scope cl C env)) (PairEnd h₀ L m ((I, oI) :: (C, oC) :: (D, lst ys) :: (base ++ R)) I C D k { s₁ with heap := h, toks := tk }) E' { s₁ with heap := h, toks := tk })
    (fin : ∀ g ys R, PairsAre (fun a o => (a, o) ∈ R) good ys → ys.length = us.length → (∀ p ∈ R, p.2.cls = .type "tuple") → Fin { s₁ with heap := g } ys (base ++ R)) :
    CompSrc prog w A h₀ L m env elt x scope cl Fin (.ref ax) s₁ := by
  refine CompSrc.ledger hh F N hm (by rw [List.size_toArray, sizeLine_eq]; lia) fun g => ?_
  rw [List.size_toArray]
  refine comp_ind us.length (fun i ys news => ∃ R, news = base ++ R ∧ PairsAre (fun a o => (a, o) ∈ R) good ys ∧ ys.length = i ∧ ∀ p ∈ R, p.2.cls = .type "tuple") ?_ (fun ys news ⟨R, e, hp, hl, hc⟩ => e ▸ fin g ys R hp hl hc) us.length 0 [] base (by lia) ⟨[], by simp, .nil, rfl, fun _ h => nomatch h⟩
  rintro i v ys news I oI C oC D m₂ h tk E' hi hv ⟨R, rfl, hp, hl, hc⟩ hC hx F' N' off ne
  obtain ⟨k, t, hk, rfl⟩ : ∃ k t, k ∈ is ∧ v = Value.int k t := by
    have hv' : us.toArray[i]? = some v := hv
    rw [List.getElem?_toArray] at hv'
    have go : ∀ {us : List Value} {is : List Int}, IntsAre us is → ∀ {i : Nat} {v : Value}, us[i]? = some v → ∃ k t, k ∈ is ∧ v = Value.int k t := by
      intro us is hI
      induction hI with
      | nil => intro i v h; simp at h
      | cons k t _ ih =>
        intro i v h
        cases i with
        | zero => simp at h; exact ⟨k, t, List.mem_cons_self, h.symm⟩
        | succ i =>
          obtain ⟨k', t', q, e⟩ := ih (i := i) (by simpa using h)
          exact ⟨k', t', List.mem_cons_of_mem _ q, e⟩
    exact go hI hv'
  refine wpAny_mono (step k t I oI C oC D ys R m₂ h tk E' hk hC hx F' N') (fun y s' q => ?_) fun _ _ e => e
  obtain ⟨h', tk', a, t', hv', u', rfl, rfl, F2, N2, n1, n2, n3⟩ := q
  refine ⟨h', tk', base ++ (R ++ [(a, tupOf [.int k t', .int hv' u'])]), rfl, F2, fun p hp => ?_, Off3.of fun p hp => ?_, .inr ⟨_, List.mem_append_left _ hm, rfl, _, rfl⟩, R ++ [(a, tupOf [.int k t', .int hv' u'])], rfl, hp.snoc (fun _ _ h => List.mem_append_left _ h) (List.mem_append_right _ (.head _)) (hg k hk), by simp [hl], fun p hp => ?_⟩
  · rcases List.mem_cons.mp hp with rfl | hp
    · exact N2 _ (.tail _ (.head _))
    rcases List.mem_cons.mp hp with rfl | hp
    · exact N2 _ (.tail _ (.tail _ (.head _)))
    rcases List.mem_cons.mp hp with rfl | hp
    · exact N2 _ (.tail _ (.tail _ (.tail _ (.head _))))
    rw [← List.append_assoc] at hp
    rcases List.mem_append.mp hp with hp | hp
    · exact N2 _ (.tail _ (.tail _ (.tail _ (.tail _ hp))))
    · rw [List.mem_singleton.mp hp]; exact N2 _ (.head _)
  · rw [← List.append_assoc] at hp
    rcases List.mem_append.mp hp with hp | hp
    · exact off.mem p hp
    · rw [List.mem_singleton.mp hp]; exact ⟨n1, n2, n3⟩
  · rcases List.mem_append.mp hp with hp | hp
    · exact hc p hp
    · rw [List.mem_singleton.mp hp]
end
theorem News.neCls {h₀ h : Heap} {L : Addr} {news : List (Addr × Obj)} {a b : Addr} {o o' : Obj} (N : News h₀ L h news) (h1 : (a, o) ∈ news) (h2 : (b, o') ∈ news) (hc : o.cls ≠ o'.cls) : a ≠ b := by
  rintro rfl
  have e := (N _ h1).1
  rw [(N _ h2).1] at e
  cases e
  exact hc rfl
theorem News.put {h₀ h : Heap} {L : Addr} {news : List (Addr × Obj)} {a : Addr} {o : Obj} (N : News h₀ L h news) (e : NewAt h₀ L h a o) : News h₀ L h ((a, o) :: news) := fun p hp => by
  rcases List.mem_cons.mp hp with rfl | hp
  · exact e
  · exact N p hp
theorem News.sub9 {h₀ h : Heap} {L : Addr} {l l' : List (Addr × Obj)} (N : News h₀ L h l') (s : ∀ p ∈ l, p ∈ l') : News h₀ L h l := fun p hp => N p (s p hp)
theorem PairEnd.intro {h₀ : Heap} {L : Addr} {m : Str → Option Value} {news l' : List (Addr × Obj)} {I C D a : Addr} {k hv : Int} {t u : Tok} {s : Shared} {h' : Heap} {tk' : Nat} (F : Fr h₀ L h' m) (N : News h₀ L h' l') (hm : (a, tupOf [.int k t, .int hv u]) ∈ l') (hs : ∀ p ∈ news, p ∈ l') (h1 : @Ne Nat a I) (h2 : @Ne Nat a C) (h3 : @Ne Nat a D) :
    PairEnd h₀ L m news I C D k s (.ref a) { s with heap := h', toks := tk' } :=
  ⟨h', tk', a, t, hv, u, rfl, rfl, F, fun p hp => by
    rcases List.mem_cons.mp hp with rfl | hp
    · exact N _ hm
    · exact N _ (hs p hp), h1, h2, h3⟩
theorem size_few {ys : List Value} (h : ys.length < 1000) : ys.toArray.size ≤ sizeLine := by
  rw [List.size_toArray, sizeLine_eq]; lia
theorem fresh_by {H g : Heap} {W : List Addr} {D : Addr} (G : GSub H g W) (hg : g.get? D = none) (hD : ∀ a ∈ W, a ≠ D) : H.get? D = none := by
  cases e : H.get? D with
  | none => rfl
  | some o =>
    have q := G D o e (fun hm => hD D hm rfl)
    rw [hg] at q
    cases q
theorem PairsAre.mono {P P' : Addr → Obj → Prop} {good good' : Int → Prop} {vs : List Value} (h : PairsAre P good vs) (K : ∀ a o, P a o → P' a o) (G : ∀ k, good k → good' k) : PairsAre P' good' vs := fun v hv => by
  obtain ⟨a, k, t, hv, u, e1, e2, e3⟩ := h v hv
  exact ⟨a, k, t, hv, u, e1, K _ _ e2, G _ e3⟩
theorem PairsAre.snoc' {P P' : Addr → Obj → Prop} {good good' : Int → Prop} {vs : List Value} {a : Addr} {k hv : Int} {t u : Tok} (h : PairsAre P good vs) (K : ∀ a o, P a o → P' a o) (ha : P' a (tupOf [.int k t, .int hv u])) (g : good' k) (G : ∀ k, good k → good' k) : PairsAre P' good' (vs ++ [.ref a]) :=
  PairsAre.snoc (h.mono (fun _ _ e => e) G) K ha g

theorem kreg18 : True := by
  w_top off
  k_with "M memt" => (first | (with_reducible assumption) | ((with_reducible refine List.mem_cons_of_mem _ ?_); k_extra "M memt"))
  k_with "M subv" => (first | exact List.forall_mem_nil _ | ((with_reducible refine List.forall_mem_cons.mpr ⟨?kms1, ?kms2⟩); (case kms1 => k_mem); (case kms2 => k_extra "M subv")) | (intro p8 hp8; k_extra "M memt"))
  k_with "M sub" => ((first | exact List.forall_mem_nil _ | (refine List.forall_mem_cons.mpr ⟨?kms1, ?kms2⟩; (case kms1 => (intro hW; first | k_mem | (refine (hW ?_).elim; k_mem))); (case kms2 => k_extra "M sub")) | (intro p8 hp8 hW8; k_extra "M memt")))
  k_with "M size" => (first | exact size_few (by first | omega | (simp only [List.length_append, List.length_cons, List.length_nil]; omega)) | size_fits)
  k_with "call builtin:list.append" => ((k_here; (with_reducible show wpAny _ _ (call (Value.builtin _) [Value.ref _, _]) _ _ _); k_dflt (refine' append_K ?k1 ?k2 ?k3 ?_ ?z; (case k1 => k_asm); (case k2 => k_asm); (case k3 => k_upd); (case z => k_extra "M size")); intro h' F' N'; (try k_sweep)))
  exact True.intro
/-! labels_in and _law_labels, symbolic in the name of the op -/
theorem in_strs {prog : Program} {w : World} {A : Around} {E : Value → Shared → Prop} {s : Shared} {h₀ : Heap} {L : Addr} {news : List (Addr × Obj)} {a : Addr} {its : Array Value} {k : Nat} {x : Str} {t : Tok} {b : Bool} {Q : Value → Shared → Prop}
    (N : News h₀ L s.heap news) (hm : (a, ({ cls := .type "tuple", data := .seq its k } : Obj)) ∈ news) (hs : ∀ v ∈ its.toList, ∃ n t, v = Value.str n t) (hb : (its.toList.any fun v => match v with | .str n _ => n == x | _ => false) = b) (h : Q (.bool b) s) :
    wpAny (model prog w) A (compareOp .In (.str x t) (.ref a)) Q E s := by
  refine PySem.SeqAt.in_tupleAt (fun v => match v with | .str n _ => n == x | _ => false) ⟨_, (N _ hm).1, rfl, _, rfl⟩ (fun y hy => ?_) ?_
  · obtain ⟨n, t', rfl⟩ := hs y (by simpa using hy)
    exact PySem.SeqAt.EqAt.str_str n t' x t
  · rw [← Array.any_toList, hb]
    exact h
noncomputable abbrev in4 (n : Str) : Bool := S "put" == n || (S "key" == n || (S "test" == n || (S "less" == n || false)))
noncomputable abbrev in2 (n : Str) : Bool := S "push" == n || (S "calc" == n || false)
/-! one walk for every op: an op as a tuple with a name ahead, symbolic in the name and the parts -/
theorem News.put9 {h₀ h : Heap} {L : Addr} {news : List (Addr × Obj)} {p : Addr × Obj} (N : News h₀ L h news) (e : p ∈ news) : News h₀ L h (p :: news) := fun q hq => by
  rcases List.mem_cons.mp hq with rfl | hq
  · exact N _ e
  · exact N _ hq
structure Cut (b : Bool) (h₀ : Heap) (L : Addr) (m : Str → Option Value) (news : List (Addr × Obj)) (s : Shared) (k : Bool) (s' : Shared) : Prop where
  out : k = b
  here : ∃ (h : Heap) (tk : Nat), s' = { s with heap := h, toks := tk } ∧ Fr h₀ L h m ∧ News h₀ L h news
theorem testCut {M : Model} {A : Around} {s : Shared} {E : Value → Shared → Prop} {h₀ : Heap} {L : Addr} {m : Str → Option Value} {news : List (Addr × Obj)} {t : Sem Bool} {Q : Bool → Shared → Prop} {b : Bool} (_F : Fr h₀ L s.heap m) (_N : News h₀ L s.heap news)
    (w : wpAny M A t (Cut b h₀ L m news s) E s) (c1 : b = true → ∀ h' tk, Fr h₀ L h' m → News h₀ L h' news → Q true { s with heap := h', toks := tk }) (c0 : b = false → ∀ h' tk, Fr h₀ L h' m → News h₀ L h' news → Q false { s with heap := h', toks := tk }) : wpAny M A t Q E s :=
  wpAny_mono w (fun k s' ⟨e, h', tk, e', F', N'⟩ => by
    subst e e'
    cases k with
    | true => exact c1 rfl h' tk F' N'
    | false => exact c0 rfl h' tk F' N') fun _ _ h => h
theorem eq_split {prog : Program} {w : World} {A : Around} {E : Value → Shared → Prop} {s : Shared} {a b : Str} {t u : Tok} {Q : Value → Shared → Prop} (h1 : (a == b) = true → Q (.bool true) s) (h0 : (a == b) = false → Q (.bool false) s) :
    wpAny (model prog w) A (compareOp .Eq (.str a t) (.str b u)) Q E s :=
  PyProof.Rows.eq_str (by
    cases e : (a == b) with
    | true => exact h1 e
    | false => exact h0 e)
section
variable {prog : Program} {w : World} {A : Around} {E : Value → Shared → Prop} {s : Shared} {h₀ : Heap} {L : Addr} {news : List (Addr × Obj)} {a : Addr} {x : Str} {t : Tok} {Q : Value → Shared → Prop}
theorem in_split {its : Array Value} {k : Nat} (b : Bool)
    (N : News h₀ L s.heap news) (hm : (a, ({ cls := .type "tuple", data := .seq its k } : Obj)) ∈ news) (hs : ∀ v ∈ its.toList, ∃ n t, v = Value.str n t) (hb : (its.toList.any fun v => match v with | .str n _ => n == x | _ => false) = b)
    (h1 : b = true → Q (.bool true) s) (h0 : b = false → Q (.bool false) s) :
    wpAny (model prog w) A (compareOp .In (.str x t) (.ref a)) Q E s :=
  in_strs N hm hs hb (by
    cases b with
    | true => exact h1 rfl
    | false => exact h0 rfl)
theorem in_split2 {k1 k2 : Str} {p1 p2 : Tok} (N : News h₀ L s.heap news) (hm : (a, tupOf [.str k1 p1, .str k2 p2]) ∈ news)
    (h1 : (k1 == x || (k2 == x || false)) = true → Q (.bool true) s) (h0 : (k1 == x || (k2 == x || false)) = false → Q (.bool false) s) : wpAny (model prog w) A (compareOp .In (.str x t) (.ref a)) Q E s :=
  in_split _ N hm (by simp) rfl h1 h0
theorem in_split3 {k1 k2 k3 : Str} {p1 p2 p3 : Tok} (N : News h₀ L s.heap news) (hm : (a, tupOf [.str k1 p1, .str k2 p2, .str k3 p3]) ∈ news)
    (h1 : (k1 == x || (k2 == x || (k3 == x || false))) = true → Q (.bool true) s) (h0 : (k1 == x || (k2 == x || (k3 == x || false))) = false → Q (.bool false) s) : wpAny (model prog w) A (compareOp .In (.str x t) (.ref a)) Q E s :=
  in_split _ N hm (by simp) rfl h1 h0
theorem in_split4 {k1 k2 k3 k4 : Str} {p1 p2 p3 p4 : Tok} (N : News h₀ L s.heap news) (hm : (a, tupOf [.str k1 p1, .str k2 p2, .str k3 p3, .str k4 p4]) ∈ news)
    (h1 : (k1 == x || (k2 == x || (k3 == x || (k4 == x || false)))) = true → Q (.bool true) s) (h0 : (k1 == x || (k2 == x || (k3 == x || (k4 == x || false)))) = false → Q (.bool false) s) : wpAny (model prog w) A (compareOp .In (.str x t) (.ref a)) Q E s :=
  in_split _ N hm (by simp) rfl h1 h0
end
section
variable {prog : Program} {w : World} {A : Around} {E : Value → Shared → Prop} {s : Shared} {h₀ : Heap} {L : Addr} {news : List (Addr × Obj)} {value slice : Expr} {a : Addr} {v v1 v2 : Value} {vs rest : List Value} {u : Tok} {Q : Value → Shared → Prop}
theorem tup_head0 (N : News h₀ L s.heap news) (hm : (a, tupOf (v :: rest)) ∈ news) (h : Q v s)
    (hs : subscripted slice false (.ref a) (.int 0 u) = operate [.ref a, .int 0 u] (getItem (.ref a) (.int 0 u)) := by with_unfolding_all rfl) (hg : ∀ r, letTemporaryGo value (.ref a) r = pure () := by intro _; with_unfolding_all rfl) :
    wpAny (model prog w) A (subscriptTail value slice (.ref a) (.int 0 u)) Q E s :=
  tup_item_any N hm (Int.le_refl 0) (by simp) (by decide) (fun x hx _ => by
    have : v = x := by simpa using hx
    exact this ▸ h) hs hg
theorem tup_at1 (N : News h₀ L s.heap news) (hm : (a, tupOf (v :: vs)) ∈ news) (e : vs = v1 :: rest) (h : Q v1 s)
    (hs : subscripted slice false (.ref a) (.int 1 u) = operate [.ref a, .int 1 u] (getItem (.ref a) (.int 1 u)) := by with_unfolding_all rfl) (hg : ∀ r, letTemporaryGo value (.ref a) r = pure () := by intro _; with_unfolding_all rfl) :
    wpAny (model prog w) A (subscriptTail value slice (.ref a) (.int 1 u)) Q E s := by
  subst e
  refine tup_item_any N hm (by decide) ?_ (by decide) (fun x hx _ => ?_) hs hg
  · simp only [List.length_cons]; omega
  · have : v1 = x := by simpa using hx
    exact this ▸ h
theorem tup_at2 (N : News h₀ L s.heap news) (hm : (a, tupOf (v :: vs)) ∈ news) (e : vs = v1 :: v2 :: rest) (h : Q v2 s)
    (hs : subscripted slice false (.ref a) (.int 2 u) = operate [.ref a, .int 2 u] (getItem (.ref a) (.int 2 u)) := by with_unfolding_all rfl) (hg : ∀ r, letTemporaryGo value (.ref a) r = pure () := by intro _; with_unfolding_all rfl) :
    wpAny (model prog w) A (subscriptTail value slice (.ref a) (.int 2 u)) Q E s := by
  subst e
  refine tup_item_any N hm (by decide) ?_ (by decide) (fun x hx _ => ?_) hs hg
  · simp only [List.length_cons]; omega
  · have : v2 = x := by simpa using hx
    exact this ▸ h
theorem tup_at2E {C : Int → Prop} (N : News h₀ L s.heap news) (hm : (a, tupOf (v :: vs)) ∈ news) (e : ∃ v i u, vs = [v, .int i u] ∧ C i) (h : ∀ v i u, vs = [v, .int i u] → C i → Q (.int i u) s)
    (hs : subscripted slice false (.ref a) (.int 2 u) = operate [.ref a, .int 2 u] (getItem (.ref a) (.int 2 u)) := by with_unfolding_all rfl) (hg : ∀ r, letTemporaryGo value (.ref a) r = pure () := by intro _; with_unfolding_all rfl) :
    wpAny (model prog w) A (subscriptTail value slice (.ref a) (.int 2 u)) Q E s :=
  e.elim fun _ e => e.elim fun _ e => e.elim fun _ e => tup_at2 N hm e.1 (h _ _ _ e.1 e.2) hs hg
theorem tup_at1E {C : Value → Prop} (N : News h₀ L s.heap news) (hm : (a, tupOf (v :: vs)) ∈ news) (e : ∃ v r, vs = v :: r ∧ C v) (h : ∀ v r, vs = v :: r → C v → Q v s)
    (hs : subscripted slice false (.ref a) (.int 1 u) = operate [.ref a, .int 1 u] (getItem (.ref a) (.int 1 u)) := by with_unfolding_all rfl) (hg : ∀ r, letTemporaryGo value (.ref a) r = pure () := by intro _; with_unfolding_all rfl) :
    wpAny (model prog w) A (subscriptTail value slice (.ref a) (.int 1 u)) Q E s :=
  e.elim fun _ e => e.elim fun _ e => tup_at1 N hm e.1 (h _ _ e.1 e.2) hs hg
end
noncomputable abbrev inP (n : Str) : Bool := S "perform" == n || (S "leave" == n || false)
noncomputable def strIn (l : List Str) : List Value → Bool
  | .str q _ :: _ => l.any fun x => x == q
  | _ => false
noncomputable def intR (b : Int) : Value → Bool
  | .int i _ => inR b i
  | _ => false
noncomputable def intsIn (b : Int) (vs : List Value) : Bool := vs.all (intR b)
noncomputable def farV (n : Str) (vs : List Value) : Bool := !decide (argc n = some (vs.length : Int))
noncomputable def calV (n : Str) (vs : List Value) : Bool := (n == S "calc") && !strIn signs vs
noncomputable def parV (b : Int) (n : Str) (vs : List Value) : Bool := inP n && !intsIn b vs
noncomputable def endV (n : Str) (vs : List Value) : Bool := (n == S "stop") && !strIn ends vs
noncomputable def faultV (m b : Int) (n : Str) (vs : List Value) (l : List Int) : Str :=
  if farV n vs then noOp else if !(l.all (inR m)) then labFar else if calV n vs then noSign else if parV b n vs then noPar else if endV n vs then noEnd else S ""
structure OpSh (P : Addr → Obj → Prop) (n : Str) (vs : List Value) (l : List Int) : Prop where
  len : l.length ≤ 3
  ch : n = S "choose" → ∃ la us, vs = [.ref la] ∧ P la (tupOf us) ∧ IntsAre us l
  l4 : in4 n = true → ∃ v i u, vs = [v, .int i u] ∧ l = [i]
  l2 : in2 n = true → ∃ v i u, vs = [v, .int i u] ∧ l = if i = -1 then [] else [i]
  ju : (n == S "jump") = true → ∃ v r, vs = v :: r ∧ IntsAre [v] l
  no : in4 n = false → in2 n = false → (n == S "jump") = false → (n == S "choose") = false → l = []
  ca : (n == S "calc") = true → ∃ v r, vs = v :: r ∧ ((∃ q t, v = .str q t) ∨ ∃ i t, v = .int i t)
  pa : inP n = true → ∃ ls, IntsAre vs ls ∧ ls.length ≤ 2
  st : (n == S "stop") = true → ∃ v r, vs = v :: r ∧ ((∃ q t, v = .str q t) ∨ ∃ i t, v = .int i t)
section

theorem kreg19 : True := by
  w_top off
  k_with "M laend" => ((
    rename News h₀ L _ _ => kN
    exact hret _ _ _ _ _ (keep_led kG0 (by assumption) N kN (by k_extra "M sub")) (kN (_, _) (List.Mem.head _)) hI))
  exact True.intro

theorem la_ch {w : World} {mean : ExcName → Option Value} {mg mb : Str → Option Value} {dp un : Nat} {gd : Option (List Code)} {cn : Str} {cs : Scope} {a : Addr} {ccd : Value} {cl : List (Str × Addr)} {outer : List Env} {A₀ : Around} {base h₀ : Heap} {L : Addr} {m : Str → Option Value} {s : Shared} {Q E : Value → Shared → Prop}
  {x la : Addr} {t1 : Tok} {us : List Value} {l : List Int}
  (B : Below A₀ base outer h₀) (F : Fr h₀ L s.heap m) (X : (Mine.hd.heap_1 w.params).In h₀) (T : Top Mine.hd.view_1 lo mean mg mb h₀) (hk : cs.kind = .function) (hd : dp + 1 < recursionLimit)
  (N : News h₀ L s.heap [(x, tupOf [.str (S "choose") t1, .ref la]), (la, tupOf us)]) (hI : IntsAre us l) (hl : l.length ≤ 3)
  (hret : ∀ h' tk D us' k, KeepBut [] s.heap h' → NewAt h₀ L h' D (listOf us'.toArray k) → IntsAre us' l → Q (.ref D) { s with heap := h', toks := tk }) :
  wpAny (model PySem.Challenge.rw_pq0627_01.row.prog w) (ktrTop dp un gd cn cs L a ccd cl outer) (call (.ref 22) [.ref x]) Q E s := by
  revert X; k_fill; intro X
  refine wpAny_call ?_
  k_dflt (k_extra "M enter")
  have kG0 := kG'
  k_steps
  all_goals k_extra "M laend"
theorem lb_ch {w : World} {mean : ExcName → Option Value} {mg mb : Str → Option Value} {dp un : Nat} {gd : Option (List Code)} {cn : Str} {cs : Scope} {a : Addr} {ccd : Value} {cl : List (Str × Addr)} {outer : List Env} {A₀ : Around} {base h₀ : Heap} {L : Addr} {m : Str → Option Value} {s : Shared} {Q E : Value → Shared → Prop}
  {x la : Addr} {t1 : Tok} {us : List Value} {l : List Int}
  (B : Below A₀ base outer h₀) (F : Fr h₀ L s.heap m) (X : (Mine.hd.heap_1 w.params).In h₀) (T : Top Mine.hd.view_1 lo mean mg mb h₀) (hk : cs.kind = .function) (hd : dp + 1 < recursionLimit)
  (N : News h₀ L s.heap [(x, tupOf [.str (S "choose") t1, .ref la]), (la, tupOf us)]) (hI : IntsAre us l) (hl : l.length ≤ 3)
  (hret : ∀ h' tk D us' k, KeepBut [] s.heap h' → NewAt h₀ L h' D (listOf us'.toArray k) → IntsAre us' l → Q (.ref D) { s with heap := h', toks := tk }) :
  wpAny (model PySem.Challenge.rw_pq0627_01.row.prog w) (ktrTop dp un gd cn cs L a ccd cl outer) (call (.ref 126) [.ref x]) Q E s := by
  revert X; k_fill; intro X
  refine wpAny_call ?_
  k_dflt (k_extra "M enter")
  have kG0 := kG'
  k_steps
  all_goals k_extra "M laend"
end
theorem kreg20 : True := by
  w_top off
  k_with_none
  k_with "M ne" => (first | (with_reducible assumption) | (with_reducible exact Ne.symm (by assumption)) | (with_reducible exact Nat.ne_of_lt (by assumption)) | (with_reducible exact Nat.ne_of_gt (by assumption)) | (k_extra "M nec"))
  k_with "M nec" => (first | ((rename (_ < _) ∧ _ => hc9); first | (with_reducible exact Nat.ne_of_lt hc9.1) | (with_reducible exact Nat.ne_of_gt hc9.1) | (with_reducible exact Nat.ne_of_lt hc9) | (with_reducible exact Nat.ne_of_gt hc9) | (with_reducible exact Nat.ne_of_lt hc9.2.1) | (with_reducible exact Nat.ne_of_gt hc9.2.1) | (with_reducible exact Nat.ne_of_lt hc9.2) | (with_reducible exact Nat.ne_of_gt hc9.2) | (with_reducible exact Nat.ne_of_lt hc9.2.2.1) | (with_reducible exact Nat.ne_of_gt hc9.2.2.1) | (with_reducible exact Nat.ne_of_lt hc9.2.2) | (with_reducible exact Nat.ne_of_gt hc9.2.2) | (with_reducible exact Nat.ne_of_lt hc9.2.2.2.1) | (with_reducible exact Nat.ne_of_gt hc9.2.2.2.1) | (with_reducible exact Nat.ne_of_lt hc9.2.2.2) | (with_reducible exact Nat.ne_of_gt hc9.2.2.2) | (with_reducible exact Nat.ne_of_lt hc9.2.2.2.2.1) | (with_reducible exact Nat.ne_of_gt hc9.2.2.2.2.1) | (with_reducible exact Nat.ne_of_lt hc9.2.2.2.2) | (with_reducible exact Nat.ne_of_gt hc9.2.2.2.2) | (with_reducible exact Nat.ne_of_lt hc9.2.2.2.2.2.1) | (with_reducible exact Nat.ne_of_gt hc9.2.2.2.2.2.1) | (with_reducible exact Nat.ne_of_lt hc9.2.2.2.2.2) | (with_reducible exact Nat.ne_of_gt hc9.2.2.2.2.2) | (with_reducible exact Nat.ne_of_lt hc9.2.2.2.2.2.2.1) | (with_reducible exact Nat.ne_of_gt hc9.2.2.2.2.2.2.1) | (with_reducible exact Nat.ne_of_lt hc9.2.2.2.2.2.2) | (with_reducible exact Nat.ne_of_gt hc9.2.2.2.2.2.2) | (with_reducible exact Nat.ne_of_lt hc9.2.2.2.2.2.2.2.1) | (with_reducible exact Nat.ne_of_gt hc9.2.2.2.2.2.2.2.1) | (with_reducible exact Nat.ne_of_lt hc9.2.2.2.2.2.2.2) | (with_reducible exact Nat.ne_of_gt hc9.2.2.2.2.2.2.2) | (with_reducible exact Nat.ne_of_lt hc9.2.2.2.2.2.2.2.2.1) | (with_reducible exact Nat.ne_of_gt hc9.2.2.2.2.2.2.2.2.1) | (with_reducible exact Nat.ne_of_lt hc9.2.2.2.2.2.2.2.2) | (with_reducible exact Nat.ne_of_gt hc9.2.2.2.2.2.2.2.2) | (with_reducible exact Nat.ne_of_lt hc9.2.2.2.2.2.2.2.2.2.1) | (with_reducible exact Nat.ne_of_gt hc9.2.2.2.2.2.2.2.2.2.1) | (with_reducible exact Nat.ne_of_lt hc9.2.2.2.2.2.2.2.2.2) | (with_reducible exact Nat.ne_of_gt hc9.2.2.2.2.2.2.2.2.2) | (with_reducible exact Nat.ne_of_lt hc9.2.2.2.2.2.2.2.2.2.2.1) | (with_reducible exact Nat.ne_of_gt hc9.2.2.2.2.2.2.2.2.2.2.1) | (with_reducible exact Nat.ne_of_lt hc9.2.2.2.2.2.2.2.2.2.2) | (with_reducible exact Nat.ne_of_gt hc9.2.2.2.2.2.2.2.2.2.2) | (with_reducible exact Nat.ne_of_lt hc9.2.2.2.2.2.2.2.2.2.2.2.1) | (with_reducible exact Nat.ne_of_gt hc9.2.2.2.2.2.2.2.2.2.2.2.1) | (with_reducible exact Nat.ne_of_lt hc9.2.2.2.2.2.2.2.2.2.2.2) | (with_reducible exact Nat.ne_of_gt hc9.2.2.2.2.2.2.2.2.2.2.2) | (with_reducible exact Nat.ne_of_lt hc9.2.2.2.2.2.2.2.2.2.2.2.2.1) | (with_reducible exact Nat.ne_of_gt hc9.2.2.2.2.2.2.2.2.2.2.2.2.1) | (with_reducible exact Nat.ne_of_lt hc9.2.2.2.2.2.2.2.2.2.2.2.2) | (with_reducible exact Nat.ne_of_gt hc9.2.2.2.2.2.2.2.2.2.2.2.2) | (with_reducible exact Nat.ne_of_lt hc9.2.2.2.2.2.2.2.2.2.2.2.2.2.1) | (with_reducible exact Nat.ne_of_gt hc9.2.2.2.2.2.2.2.2.2.2.2.2.2.1) | (with_reducible exact Nat.ne_of_lt hc9.2.2.2.2.2.2.2.2.2.2.2.2.2) | (with_reducible exact Nat.ne_of_gt hc9.2.2.2.2.2.2.2.2.2.2.2.2.2) | (clear hc9; k_extra "M nec")) | ((rename (_ ≠ _) ∧ _ => hc9); first | (with_reducible exact hc9.1) | (with_reducible exact Ne.symm hc9.1) | (with_reducible exact hc9) | (with_reducible exact Ne.symm hc9) | (with_reducible exact hc9.2.1) | (with_reducible exact Ne.symm hc9.2.1) | (with_reducible exact hc9.2) | (with_reducible exact Ne.symm hc9.2) | (with_reducible exact hc9.2.2.1) | (with_reducible exact Ne.symm hc9.2.2.1) | (with_reducible exact hc9.2.2) | (with_reducible exact Ne.symm hc9.2.2) | (with_reducible exact hc9.2.2.2.1) | (with_reducible exact Ne.symm hc9.2.2.2.1) | (with_reducible exact hc9.2.2.2) | (with_reducible exact Ne.symm hc9.2.2.2) | (with_reducible exact hc9.2.2.2.2.1) | (with_reducible exact Ne.symm hc9.2.2.2.2.1) | (with_reducible exact hc9.2.2.2.2) | (with_reducible exact Ne.symm hc9.2.2.2.2) | (with_reducible exact hc9.2.2.2.2.2.1) | (with_reducible exact Ne.symm hc9.2.2.2.2.2.1) | (with_reducible exact hc9.2.2.2.2.2) | (with_reducible exact Ne.symm hc9.2.2.2.2.2) | (with_reducible exact hc9.2.2.2.2.2.2.1) | (with_reducible exact Ne.symm hc9.2.2.2.2.2.2.1) | (with_reducible exact hc9.2.2.2.2.2.2) | (with_reducible exact Ne.symm hc9.2.2.2.2.2.2) | (with_reducible exact hc9.2.2.2.2.2.2.2.1) | (with_reducible exact Ne.symm hc9.2.2.2.2.2.2.2.1) | (with_reducible exact hc9.2.2.2.2.2.2.2) | (with_reducible exact Ne.symm hc9.2.2.2.2.2.2.2) | (with_reducible exact hc9.2.2.2.2.2.2.2.2.1) | (with_reducible exact Ne.symm hc9.2.2.2.2.2.2.2.2.1) | (with_reducible exact hc9.2.2.2.2.2.2.2.2) | (with_reducible exact Ne.symm hc9.2.2.2.2.2.2.2.2) | (with_reducible exact hc9.2.2.2.2.2.2.2.2.2.1) | (with_reducible exact Ne.symm hc9.2.2.2.2.2.2.2.2.2.1) | (with_reducible exact hc9.2.2.2.2.2.2.2.2.2) | (with_reducible exact Ne.symm hc9.2.2.2.2.2.2.2.2.2) | (with_reducible exact hc9.2.2.2.2.2.2.2.2.2.2.1) | (with_reducible exact Ne.symm hc9.2.2.2.2.2.2.2.2.2.2.1) | (with_reducible exact hc9.2.2.2.2.2.2.2.2.2.2) | (with_reducible exact Ne.symm hc9.2.2.2.2.2.2.2.2.2.2) | (with_reducible exact hc9.2.2.2.2.2.2.2.2.2.2.2.1) | (with_reducible exact Ne.symm hc9.2.2.2.2.2.2.2.2.2.2.2.1) | (with_reducible exact hc9.2.2.2.2.2.2.2.2.2.2.2) | (with_reducible exact Ne.symm hc9.2.2.2.2.2.2.2.2.2.2.2) | (with_reducible exact hc9.2.2.2.2.2.2.2.2.2.2.2.2.1) | (with_reducible exact Ne.symm hc9.2.2.2.2.2.2.2.2.2.2.2.2.1) | (with_reducible exact hc9.2.2.2.2.2.2.2.2.2.2.2.2) | (with_reducible exact Ne.symm hc9.2.2.2.2.2.2.2.2.2.2.2.2) | (with_reducible exact hc9.2.2.2.2.2.2.2.2.2.2.2.2.2.1) | (with_reducible exact Ne.symm hc9.2.2.2.2.2.2.2.2.2.2.2.2.2.1) | (with_reducible exact hc9.2.2.2.2.2.2.2.2.2.2.2.2.2) | (with_reducible exact Ne.symm hc9.2.2.2.2.2.2.2.2.2.2.2.2.2) | (clear hc9; k_extra "M nec")) | ((rename ((_ ≠ _) ∧ _) ∧ _ => hc9); first | (with_reducible exact hc9.1.1) | (with_reducible exact Ne.symm hc9.1.1) | (with_reducible exact hc9.1.2.1) | (with_reducible exact Ne.symm hc9.1.2.1) | (with_reducible exact hc9.1.2.2) | (with_reducible exact Ne.symm hc9.1.2.2) | (with_reducible exact hc9.1) | (with_reducible exact Ne.symm hc9.1) | (with_reducible exact hc9.2.1) | (with_reducible exact Ne.symm hc9.2.1) | (with_reducible exact hc9.2.2) | (with_reducible exact Ne.symm hc9.2.2) | (with_reducible exact hc9.2.1.1) | (with_reducible exact Ne.symm hc9.2.1.1) | (with_reducible exact hc9.2.1.2.1) | (with_reducible exact Ne.symm hc9.2.1.2.1) | (with_reducible exact hc9.2.1.2.2) | (with_reducible exact Ne.symm hc9.2.1.2.2) | (with_reducible exact hc9.2.2.1) | (with_reducible exact Ne.symm hc9.2.2.1) | (with_reducible exact hc9.2.2.2) | (with_reducible exact Ne.symm hc9.2.2.2) | (with_reducible exact hc9.2.2.1.1) | (with_reducible exact Ne.symm hc9.2.2.1.1) | (with_reducible exact hc9.2.2.1.2.1) | (with_reducible exact Ne.symm hc9.2.2.1.2.1) | (with_reducible exact hc9.2.2.1.2.2) | (with_reducible exact Ne.symm hc9.2.2.1.2.2) | (with_reducible exact hc9.2.2.2.1) | (with_reducible exact Ne.symm hc9.2.2.2.1) | (with_reducible exact hc9.2.2.2.2) | (with_reducible exact Ne.symm hc9.2.2.2.2) | (with_reducible exact hc9.2.2.2.1.1) | (with_reducible exact Ne.symm hc9.2.2.2.1.1) | (with_reducible exact hc9.2.2.2.1.2.1) | (with_reducible exact Ne.symm hc9.2.2.2.1.2.1) | (with_reducible exact hc9.2.2.2.1.2.2) | (with_reducible exact Ne.symm hc9.2.2.2.1.2.2) | (with_reducible exact hc9.2.2.2.2.1) | (with_reducible exact Ne.symm hc9.2.2.2.2.1) | (with_reducible exact hc9.2.2.2.2.2) | (with_reducible exact Ne.symm hc9.2.2.2.2.2) | (with_reducible exact hc9.2.2.2.2.1.1) | (with_reducible exact Ne.symm hc9.2.2.2.2.1.1) | (with_reducible exact hc9.2.2.2.2.1.2.1) | (with_reducible exact Ne.symm hc9.2.2.2.2.1.2.1) | (with_reducible exact hc9.2.2.2.2.1.2.2) | (with_reducible exact Ne.symm hc9.2.2.2.2.1.2.2) | (with_reducible exact hc9.2.2.2.2.2.1) | (with_reducible exact Ne.symm hc9.2.2.2.2.2.1) | (with_reducible exact hc9.2.2.2.2.2.2) | (with_reducible exact Ne.symm hc9.2.2.2.2.2.2) | (with_reducible exact hc9.2.2.2.2.2.1.1) | (with_reducible exact Ne.symm hc9.2.2.2.2.2.1.1) | (with_reducible exact hc9.2.2.2.2.2.1.2.1) | (with_reducible exact Ne.symm hc9.2.2.2.2.2.1.2.1) | (with_reducible exact hc9.2.2.2.2.2.1.2.2) | (with_reducible exact Ne.symm hc9.2.2.2.2.2.1.2.2) | (with_reducible exact hc9.2.2.2.2.2.2.1) | (with_reducible exact Ne.symm hc9.2.2.2.2.2.2.1) | (with_reducible exact hc9.2.2.2.2.2.2.2) | (with_reducible exact Ne.symm hc9.2.2.2.2.2.2.2) | (with_reducible exact hc9.2.2.2.2.2.2.1.1) | (with_reducible exact Ne.symm hc9.2.2.2.2.2.2.1.1) | (with_reducible exact hc9.2.2.2.2.2.2.1.2.1) | (with_reducible exact Ne.symm hc9.2.2.2.2.2.2.1.2.1) | (with_reducible exact hc9.2.2.2.2.2.2.1.2.2) | (with_reducible exact Ne.symm hc9.2.2.2.2.2.2.1.2.2) | (with_reducible exact hc9.2.2.2.2.2.2.2.1) | (with_reducible exact Ne.symm hc9.2.2.2.2.2.2.2.1) | (with_reducible exact hc9.2.2.2.2.2.2.2.2) | (with_reducible exact Ne.symm hc9.2.2.2.2.2.2.2.2) | (with_reducible exact hc9.2.2.2.2.2.2.2.1.1) | (with_reducible exact Ne.symm hc9.2.2.2.2.2.2.2.1.1) | (with_reducible exact hc9.2.2.2.2.2.2.2.1.2.1) | (with_reducible exact Ne.symm hc9.2.2.2.2.2.2.2.1.2.1) | (with_reducible exact hc9.2.2.2.2.2.2.2.1.2.2) | (with_reducible exact Ne.symm hc9.2.2.2.2.2.2.2.1.2.2) | (with_reducible exact hc9.2.2.2.2.2.2.2.2.1) | (with_reducible exact Ne.symm hc9.2.2.2.2.2.2.2.2.1) | (with_reducible exact hc9.2.2.2.2.2.2.2.2.2) | (with_reducible exact Ne.symm hc9.2.2.2.2.2.2.2.2.2) | (with_reducible exact hc9.2.2.2.2.2.2.2.2.1.1) | (with_reducible exact Ne.symm hc9.2.2.2.2.2.2.2.2.1.1) | (with_reducible exact hc9.2.2.2.2.2.2.2.2.1.2.1) | (with_reducible exact Ne.symm hc9.2.2.2.2.2.2.2.2.1.2.1) | (with_reducible exact hc9.2.2.2.2.2.2.2.2.1.2.2) | (with_reducible exact Ne.symm hc9.2.2.2.2.2.2.2.2.1.2.2) | (with_reducible exact hc9.2.2.2.2.2.2.2.2.2.1) | (with_reducible exact Ne.symm hc9.2.2.2.2.2.2.2.2.2.1) | (with_reducible exact hc9.2.2.2.2.2.2.2.2.2.2) | (with_reducible exact Ne.symm hc9.2.2.2.2.2.2.2.2.2.2) | (with_reducible exact hc9.2.2.2.2.2.2.2.2.2.1.1) | (with_reducible exact Ne.symm hc9.2.2.2.2.2.2.2.2.2.1.1) | (with_reducible exact hc9.2.2.2.2.2.2.2.2.2.1.2.1) | (with_reducible exact Ne.symm hc9.2.2.2.2.2.2.2.2.2.1.2.1) | (with_reducible exact hc9.2.2.2.2.2.2.2.2.2.1.2.2) | (with_reducible exact Ne.symm hc9.2.2.2.2.2.2.2.2.2.1.2.2) | (with_reducible exact hc9.2.2.2.2.2.2.2.2.2.2.1) | (with_reducible exact Ne.symm hc9.2.2.2.2.2.2.2.2.2.2.1) | (with_reducible exact hc9.2.2.2.2.2.2.2.2.2.2.2) | (with_reducible exact Ne.symm hc9.2.2.2.2.2.2.2.2.2.2.2) | (with_reducible exact hc9.2.2.2.2.2.2.2.2.2.2.1.1) | (with_reducible exact Ne.symm hc9.2.2.2.2.2.2.2.2.2.2.1.1) | (with_reducible exact hc9.2.2.2.2.2.2.2.2.2.2.1.2.1) | (with_reducible exact Ne.symm hc9.2.2.2.2.2.2.2.2.2.2.1.2.1) | (with_reducible exact hc9.2.2.2.2.2.2.2.2.2.2.1.2.2) | (with_reducible exact Ne.symm hc9.2.2.2.2.2.2.2.2.2.2.1.2.2) | (with_reducible exact hc9.2.2.2.2.2.2.2.2.2.2.2.1) | (with_reducible exact Ne.symm hc9.2.2.2.2.2.2.2.2.2.2.2.1) | (with_reducible exact hc9.2.2.2.2.2.2.2.2.2.2.2.2) | (with_reducible exact Ne.symm hc9.2.2.2.2.2.2.2.2.2.2.2.2) | (clear hc9; k_extra "M nec")))
  k_with "M enter" => ((refine' code_defG ?k1 ?k2 ?k3 ?k4 ?k5 ?kA ?kF ?kK ?k6 ?k7 ?k8 ?k9 ?kB ?_ ?c2 ?c3 ?c4 ?c5; (case kA => exact rfl); (case kF => exact rfl); (case kK => first | assumption | exact rfl); (case k1 => k_asm); (case k2 => k_asm); (case k3 => k_asm); (case k4 => k_asm); (case k5 => k_asm); (case k6 => k_is); (case k7 => k_is); (case k8 => ktr_room); (case k9 => exact BindsTo.of_eq rfl); (case c5 => decide); (case kB => exact locs rfl); (case c2 => exact rfl); (case c3 => exact rfl); (case c4 => exact rfl); k_whole; intro g' L' h' FG' F' N' B' X' T' kG'; (try dsimp only at F' N' kG' ⊢); (try k_fold)))
  k_with "M enterC" => ((refine' enterCells ?k1 ?k2 ?k3 ?k4 ?k5 ?kA ?kF ?kK ?k6 ?k7 ?k8 ?k9 ?kB ?kD ?_ ?c2 ?c3 ?c4; (case kA => exact rfl); (case kF => exact rfl); (case kK => first | assumption | exact rfl); (case k1 => k_asm); (case k2 => k_asm); (case k3 => k_asm); (case k4 => k_asm); (case k5 => k_asm); (case k6 => k_is); (case k7 => k_is); (case k8 => ktr_room); (case k9 => exact BindsTo.of_eq rfl); (case kB => exact rfl); (case kD => decide +kernel); (case c2 => exact rfl); (case c3 => exact rfl); (case c4 => exact rfl); k_whole; intro g' L' h' tk' cells' FG' F' N' Y' B' X' T' kG' l1 l2; (try k_lt l1); k_cells Y'; (try simp only [List.cons_append, List.nil_append] at N'); (try dsimp only at F' N' kG' ⊢); (try k_fold)))
  k_with "M sub" => ((first | exact List.forall_mem_nil _ | (refine List.forall_mem_cons.mpr ⟨?kms1, ?kms2⟩; (case kms1 => (intro hW; first | k_mem | (refine (hW ?_).elim; k_mem))); (case kms2 => k_extra "M sub"))))
  k_with "subscriptTail Name Constant ref int" => ((k_here; (with_reducible show wpAny _ _ (subscriptTail _ _ (Value.ref _) (Value.int _ _)) _ _ _); kim_at))
  k_with "call builtin:divmod" => ((k_here; (with_reducible show wpAny _ _ (call (Value.builtin _) [Value.int _ _, Value.int _ _]) _ _ _); k_dflt (refine' divmod_K ?k1 ?k2 ?k3 ?k4 ?_; (case k1 => k_asm); (case k2 => k_asm); (case k3 => omega); (case k4 => exact PyProof.noPylong_small (by omega)); k_whole); intro D' h' t1 t2 F' N' l1; (try k_lt l1); (try k_sweep)))
  k_with "call ref" => ((k_here; (with_reducible show wpAny _ _ (call (Value.ref 107) _ _) _ _ _); k_dflt (refine' draw_use ?k1 ?k2 ?k3 ?k4 ?k5 ?k6 ?k7 ?k8 ?b1 ?b2 ?b3 ?b4 ?b5 ?_; (case k1 => k_asm); (case k2 => k_asm); (case k3 => k_asm); (case k4 => k_asm); (case k5 => first | exact rfl | assumption); (case k6 => ktr_room); (case k7 => k_asm); (case k8 => k_updF); (case b1 => omega); (case b2 => omega); (case b3 => omega); (case b4 => omega); (case b5 => omega)); intro h' tk' n' c' t' u' k' d' td' K' F' N' b1 b2 b3 b4 b5; (try dsimp only at N'); (try k_sweep); (try k_fold)))
  k_with "call builtin:len" => ((k_here; (with_reducible show wpAny _ _ (call (Value.builtin "len") [Value.ref _]) _ _ _); k_dflt (first | (refine' len_tupA ?k1 ?k2 ?k3 ?_; (case k1 => k_asm); (case k2 => k_mem); (case k3 => omega)) | (refine' len_lstA ?k1 ?k2 ?k3 ?_; (case k1 => k_asm); (case k2 => k_mem); (case k3 => omega))); intro t' tk'; (try simp only [List.length_cons, List.length_nil])))
  k_with "subscriptTail Name Call ref int" => ((k_here; (with_reducible show wpAny _ _ (subscriptTail _ _ (Value.ref _) (Value.int _ _)) _ _ _); k_dflt (refine' tup_item_any ?k1 ?k2 ?k3 ?k4 ?k5 ?_ ?k6 ?k7; (case k1 => k_asm); (case k2 => k_mem); (case k3 => omega); (case k4 => omega); (case k5 => omega); (case k6 => with_unfolding_all rfl); (case k7 => (intro _; with_unfolding_all rfl))); intro x' hx' hxm'; (try k_fold)))
  k_with "call ref" => ((k_here; (with_reducible show wpAny _ _ (call (Value.ref 114) _ _) _ _ _); k_dflt (refine' pick_use ?k1 ?k2 ?k3 ?k4 ?k5 ?k6 ?k7 ?k8 ?k9 ?kA ?b1 ?b2 ?b3 ?b4 ?b5 ?_; (case k1 => k_asm); (case k2 => k_asm); (case k3 => k_asm); (case k4 => k_asm); (case k5 => first | exact rfl | assumption); (case k6 => ktr_room); (case k7 => k_asm); (case k8 => k_updF); (case k9 => k_mem); (case kA => (refine neN ?_; omega)); (case b1 => omega); (case b2 => omega); (case b3 => omega); (case b4 => (simp only [List.length_cons, List.length_nil]; omega)); (case b5 => (simp only [List.length_cons, List.length_nil]; omega))); intro h' tk' n' c' t' u' k' x' K' F' N' b1 b2 b3 b4; (try dsimp only at N'); (try k_sweep); (try k_fold)))
  k_with "binaryOp Mult ref int" => ((k_here; (with_reducible show wpAny _ _ (binaryOp Operator.Mult (Value.ref _) (Value.int _ _)) _ _ _); k_dflt (refine' tup_mul ?k1 ?k2 ?k3 ?k4 ?k5 ?_ ?_ ?_; (case k1 => k_asm); (case k2 => k_asm); (case k3 => k_mem); (case k4 => omega); (case k5 => omega)); (all_goals (intro hx9; (try (exfalso; omega; done)))); (all_goals (try (intro D' h' F' N' l1; (try k_lt l1); (try k_sweep)))); (all_goals (try k_unmd)); (all_goals (try k_fold))))
  k_with "subscriptTail Name Slice ref ref" => ((k_here; (with_reducible show wpAny _ _ (subscriptTail _ _ (Value.ref _) (Value.ref _)) _ _ _); k_dflt (refine' cut_tail ?k1 ?k2 ?k3 ?k4 ?_ ?_ ?k5 ?k6; (case k1 => k_asm); (case k2 => k_asm); (case k3 => k_mem); (case k4 => omega); (case k5 => with_unfolding_all rfl); (case k6 => (intro _; with_unfolding_all rfl))); (all_goals intro hx9); (all_goals (first | (intro D' h' F' N' l1; (try k_lt l1); (try k_sweep)) | (intro h' F' N'; (try k_sweep)))); (all_goals (try k_unmd)); (all_goals (try k_fold))))
  k_with "CompSrc" => ((k_here; k_dflt (refine LCg.CompSrc.range (by rfl) (by k_asm) (by k_asm) (by assumption) (by first | decide | rfl) (by first | rfl | decide) (by first | size_fits | exact Nat.le_of_ble_eq_true rfl) ?_; intro gc'; lcg_lit)))
  k_with "execs nil" => ((k_here; (with_reducible refine wpAny_execs_nil ?_)))
  k_with "eval ListComp" => ((k_here; lct_look; k_dflt (refine LCt.ListComp_T (F₀ := by k_asm) (by with_unfolding_all rfl) (by decide) (by rfl) (by decide) (by rfl) ?_)))
  k_with "M ints" => (first | exact IntsAre.nil | exact IntsAre.cons _ _ .nil | exact IntsAre.cons _ _ (.cons _ _ .nil) | exact IntsAre.cons _ _ (.cons _ _ (.cons _ _ .nil)) | assumption)
  k_with "call ref" => ((k_here; (with_reducible show wpAny _ _ (call (Value.ref 22) _ _) _ _ _); refine wpAny_call ?_; k_dflt (k_extra "M enter")))
  k_with "M test" => ((unfold TestEnd; refine ⟨?t1, _, _, rfl, ?t2, ?t3⟩; (case t1 => first | exact rfl | exact inR_lt (by omega) | exact inR_neg (by omega)); (case t2 => k_asm); (case t3 => k_asm)))
  k_with "compareOp Eq ref ref" => ((k_here; k_dflt (refine' eq_tup_nil ?k1 ?k2 ?k3 ?k4 ?_; (case k1 => k_asm); (case k2 => k_mem); (case k3 => k_mem); (case k4 => first | units_room | exact Nat.le_of_ble_eq_true rfl)); (try simp only [List.size_toArray, List.length_cons, List.length_nil])))
  k_with "call ref" => ((k_here; (with_reducible show wpAny _ _ (call (Value.ref 93) _ _) _ _ _); (try simp only [List.nil_append]); refine wpAny_call ?_; k_dflt (k_extra "M enter")))
  k_with "call ref" => ((k_here; (with_reducible show wpAny _ _ (call (Value.ref 126) _ _) _ _ _); refine wpAny_call ?_; k_dflt (k_extra "M enter")))
  k_with "compareOp NotIn int ref" => ((k_here; (with_reducible show wpAny _ _ (compareOp CmpOp.NotIn (Value.int _ _) (Value.ref _)) _ _ _); k_dflt (refine notin_range (by assumption) ?_)))
  k_with "eval ListComp" => ((k_here; lct_look; k_dflt (first | refine ListComp_Tup (iter := Expr.Subscript _ _ _) (_F := by k_asm) (by with_unfolding_all rfl) (by decide) (by rfl) (by decide) (by rfl) ?_ | refine LCt.ListComp_T (F₀ := by k_asm) (by with_unfolding_all rfl) (by decide) (by rfl) (by decide) (by rfl) ?_)))
  k_with "CompSrcU" => ((k_here; refine sealUOf ?_))
  k_with "subscriptTail Name Slice ref ref" => ((k_here; (with_reducible show wpAny _ _ (subscriptTail _ _ (Value.ref _) (Value.ref _)) _ _ _); k_dflt (refine' tail_from ?k1 ?k2 ?k3 ?k4 ?_ ?k5 ?k6; (case k1 => k_asm); (case k2 => k_asm); (case k3 => k_mem); (case k4 => (simp only [List.length_cons, List.length_nil]; omega)); (case k5 => with_unfolding_all rfl); (case k6 => (intro _; with_unfolding_all rfl))); intro D' h' F' N' l1; (try k_lt l1); (try k_sweep)))
  k_with "M strs6" => (first | exact List.forall_mem_nil _ | (refine List.forall_mem_cons.mpr ⟨⟨_, _, rfl⟩, ?_⟩; k_extra "M strs6"))
  k_with "compareOp NotIn int ref" => ((k_here; (with_reducible show wpAny _ _ (compareOp CmpOp.NotIn (Value.int _ _) (Value.ref _)) _ _ _); k_dflt (first | refine notin_range (by assumption) ?_ | (refine' notin_strs ?k1 ?k2 ?k3 ?_; (case k1 => k_asm); (case k2 => k_mem); (case k3 => k_extra "M strs6")))))
  k_with "call ref" => ((k_here; (with_reducible show wpAny _ _ (call (Value.ref 93) _) _ _ _); k_dflt (refine' parts_use ?k1 ?k2 ?k3 ?k4 ?k5 ?k6 ?k7 ?_; (case k1 => k_asm); (case k2 => k_asm); (case k3 => k_asm); (case k4 => k_asm); (case k5 => first | exact rfl | assumption); (case k6 => ktr_room); (case k7 => k_asm)); (iterate 4 intro _); (iterate 26 intro _); intro KP F' N' lo' hd' hf'; (try k_sweep); (try k_fold)))
  k_with "M memt" => (first | (with_reducible assumption) | ((with_reducible refine List.mem_cons_of_mem _ ?_); k_extra "M memt"))
  k_with "M subv" => (first | exact List.forall_mem_nil _ | ((with_reducible refine List.forall_mem_cons.mpr ⟨?kms1, ?kms2⟩); (case kms1 => k_mem); (case kms2 => k_extra "M subv")) | (intro p8 hp8; k_extra "M memt"))
  k_with "M sub" => ((first | exact List.forall_mem_nil _ | (refine List.forall_mem_cons.mpr ⟨?kms1, ?kms2⟩; (case kms1 => (intro hW; first | k_mem | (refine (hW ?_).elim; k_mem))); (case kms2 => k_extra "M sub")) | (intro p8 hp8 hW8; k_extra "M memt")))
  k_with "M size" => (first | exact size_few (by first | omega | (simp only [List.length_append, List.length_cons, List.length_nil]; omega)) | size_fits)
  k_with "call builtin:list.append" => ((k_here; (with_reducible show wpAny _ _ (call (Value.builtin _) [Value.ref _, _]) _ _ _); k_dflt (refine' append_K ?k1 ?k2 ?k3 ?_ ?z; (case k1 => k_asm); (case k2 => k_asm); (case k3 => k_upd); (case z => k_extra "M size")); intro h' F' N'; (try k_sweep)))
  exact True.intro
/-! labels_in and _law_labels, one walk each for every op but 'choose' -/
theorem las_no {P : Addr → Obj → Prop} {n : Str} {vs : List Value} {l : List Int} (hs : OpSh P n vs l) (hch : (n == S "choose") = false) (h4 : in4 n = false) (h2 : in2 n = false) (hj : (n == S "jump") = false) : IntsAre [] l := by
  rw [hs.no h4 h2 hj hch]; exact .nil
theorem las_one {l : List Int} {i : Int} {u : Tok} (e : l = [i]) : IntsAre [.int i u] l := by subst e; exact .cons _ _ .nil
theorem las_l2n {l : List Int} {i : Int} (e : l = if i = -1 then [] else [i]) (h : i = -1) : IntsAre [] l := by rw [e, if_pos h]; exact .nil
theorem las_l2y {l : List Int} {i : Int} {u : Tok} (e : l = if i = -1 then [] else [i]) (h : i ≠ -1) : IntsAre [.int i u] l := by rw [e, if_neg h]; exact .cons _ _ .nil
section





















theorem kreg21 : True := by
  w_top off
  k_with "compareOp Eq str str" => ((k_here; k_dflt (first | (refine PyProof.Rows.eq_str ?_; rw [hch]) | (refine' eq_split ?_ ?_ <;> intro h9))))
  k_with "M in" => (((case k1 => k_asm); (case k2 => k_mem); (all_goals intro h9)))
  k_with "compareOp In str ref" => ((k_here; k_dflt (first | (refine' in_split2 ?k1 ?k2 ?_ ?_; k_extra "M in") | (refine' in_split4 ?k1 ?k2 ?_ ?_; k_extra "M in"))))
  k_with "M sub" => ((intro p8 hp8 hW8; (with_reducible exact hp8)))
  k_with "M laend" => ((
    rename News h₀ L _ _ => kN
    refine hret _ _ _ _ _ (keep_led kG0 (by with_reducible assumption) N kN (by k_extra "M lasub")) (kN (_, _) (List.Mem.head _)) ?_
    k_extra "M las"))
  k_with "M lasub" => (first | (k_extra "M sub"))
  k_with "M las" => (first
  | with_reducible assumption
  | exact las_one (by with_reducible assumption)
  | exact las_l2n (by with_reducible assumption) (by first | assumption | omega)
  | exact las_l2y (by with_reducible assumption) (by first | assumption | omega)
  | exact las_no hs hch (by with_reducible assumption) (by with_reducible assumption) (by with_reducible assumption)
  | exact hI)
  k_with "M at2" => ((refine' tup_at2 ?k1 ?k2 (by with_reducible assumption) ?_; (case k1 => k_asm); (case k2 => k_mem)))
  k_with "subscriptTail Name Constant ref int" => ((k_here; (with_reducible show wpAny _ _ (subscriptTail _ _ (Value.ref _) (Value.int 0 _)) _ _ _); k_dflt (refine' tup_head0 ?k1 ?k2 ?_; (case k1 => k_asm); (case k2 => k_mem))))
  k_with "subscriptTail Name Constant ref int" => ((k_here; (with_reducible show wpAny _ _ (subscriptTail _ _ (Value.ref _) (Value.int 2 _)) _ _ _); k_dflt (first
  | k_extra "M at2"
  | (refine' tup_at2E ?k1 ?k2 (hs.l4 (by with_reducible assumption)) ?_; (case k1 => k_asm); (case k2 => k_mem); intro v9 i9 u9 e9 el9)
  | (refine' tup_at2E ?k1 ?k2 (hs.l2 (by with_reducible assumption)) ?_; (case k1 => k_asm); (case k2 => k_mem); intro v9 i9 u9 e9 el9))))
  k_with "subscriptTail Name Constant ref int" => ((k_here; (with_reducible show wpAny _ _ (subscriptTail _ _ (Value.ref _) (Value.int 1 _)) _ _ _); k_dflt (
  refine' tup_at1E ?k1 ?k2 (hs.ju (by with_reducible assumption)) ?_; (case k1 => k_asm); (case k2 => k_mem); intro v9 r9 e9 el9)))
  exact True.intro

theorem la_r {w : World} {mean : ExcName → Option Value} {mg mb : Str → Option Value} {dp un : Nat} {gd : Option (List Code)} {cn : Str} {cs : Scope} {a : Addr} {ccd : Value} {cl : List (Str × Addr)} {outer : List Env} {A₀ : Around} {base h₀ : Heap} {L : Addr} {m : Str → Option Value} {s : Shared} {Q E : Value → Shared → Prop}
  {x : Addr} {t1 : Tok} {n : Str} {vs : List Value} {l : List Int} {R : List (Addr × Obj)} {P : Addr → Obj → Prop}
  (B : Below A₀ base outer h₀) (F : Fr h₀ L s.heap m) (X : (Mine.hd.heap_1 w.params).In h₀) (T : Top Mine.hd.view_1 lo mean mg mb h₀) (hk : cs.kind = .function) (hd : dp + 1 < recursionLimit)
  (N : News h₀ L s.heap ((x, tupOf (.str n t1 :: vs)) :: R)) (hs : OpSh P n vs l) (hch : (n == S "choose") = false)
  (hret : ∀ h' tk D us k, KeepBut [] s.heap h' → NewAt h₀ L h' D (listOf us.toArray k) → IntsAre us l → Q (.ref D) { s with heap := h', toks := tk }) :
  wpAny (model PySem.Challenge.rw_pq0627_01.row.prog w) (ktrTop dp un gd cn cs L a ccd cl outer) (call (.ref 22) [.ref x]) Q E s := by
  revert X; k_fill; intro X
  refine wpAny_call ?_
  k_dflt (k_extra "M enter")
  have kG0 := kG'
  k_steps
  all_goals k_extra "M laend"
theorem lb_r {w : World} {mean : ExcName → Option Value} {mg mb : Str → Option Value} {dp un : Nat} {gd : Option (List Code)} {cn : Str} {cs : Scope} {a : Addr} {ccd : Value} {cl : List (Str × Addr)} {outer : List Env} {A₀ : Around} {base h₀ : Heap} {L : Addr} {m : Str → Option Value} {s : Shared} {Q E : Value → Shared → Prop}
  {x : Addr} {t1 : Tok} {n : Str} {vs : List Value} {l : List Int} {R : List (Addr × Obj)} {P : Addr → Obj → Prop}
  (B : Below A₀ base outer h₀) (F : Fr h₀ L s.heap m) (X : (Mine.hd.heap_1 w.params).In h₀) (T : Top Mine.hd.view_1 lo mean mg mb h₀) (hk : cs.kind = .function) (hd : dp + 1 < recursionLimit)
  (N : News h₀ L s.heap ((x, tupOf (.str n t1 :: vs)) :: R)) (hs : OpSh P n vs l) (hch : (n == S "choose") = false)
  (hret : ∀ h' tk D us k, KeepBut [] s.heap h' → NewAt h₀ L h' D (listOf us.toArray k) → IntsAre us l → Q (.ref D) { s with heap := h', toks := tk }) :
  wpAny (model PySem.Challenge.rw_pq0627_01.row.prog w) (ktrTop dp un gd cn cs L a ccd cl outer) (call (.ref 126) [.ref x]) Q E s := by
  revert X; k_fill; intro X
  refine wpAny_call ?_
  k_dflt (k_extra "M enter")
  have kG0 := kG'
  k_steps
  all_goals k_extra "M laend"
end
theorem kreg22 : True := by
  w_top off
  k_with_none
  k_with "M ne" => (first | (with_reducible assumption) | (with_reducible exact Ne.symm (by assumption)) | (with_reducible exact Nat.ne_of_lt (by assumption)) | (with_reducible exact Nat.ne_of_gt (by assumption)) | (k_extra "M nec"))
  k_with "M nec" => (first | ((rename (_ < _) ∧ _ => hc9); first | (with_reducible exact Nat.ne_of_lt hc9.1) | (with_reducible exact Nat.ne_of_gt hc9.1) | (with_reducible exact Nat.ne_of_lt hc9) | (with_reducible exact Nat.ne_of_gt hc9) | (with_reducible exact Nat.ne_of_lt hc9.2.1) | (with_reducible exact Nat.ne_of_gt hc9.2.1) | (with_reducible exact Nat.ne_of_lt hc9.2) | (with_reducible exact Nat.ne_of_gt hc9.2) | (with_reducible exact Nat.ne_of_lt hc9.2.2.1) | (with_reducible exact Nat.ne_of_gt hc9.2.2.1) | (with_reducible exact Nat.ne_of_lt hc9.2.2) | (with_reducible exact Nat.ne_of_gt hc9.2.2) | (with_reducible exact Nat.ne_of_lt hc9.2.2.2.1) | (with_reducible exact Nat.ne_of_gt hc9.2.2.2.1) | (with_reducible exact Nat.ne_of_lt hc9.2.2.2) | (with_reducible exact Nat.ne_of_gt hc9.2.2.2) | (with_reducible exact Nat.ne_of_lt hc9.2.2.2.2.1) | (with_reducible exact Nat.ne_of_gt hc9.2.2.2.2.1) | (with_reducible exact Nat.ne_of_lt hc9.2.2.2.2) | (with_reducible exact Nat.ne_of_gt hc9.2.2.2.2) | (with_reducible exact Nat.ne_of_lt hc9.2.2.2.2.2.1) | (with_reducible exact Nat.ne_of_gt hc9.2.2.2.2.2.1) | (with_reducible exact Nat.ne_of_lt hc9.2.2.2.2.2) | (with_reducible exact Nat.ne_of_gt hc9.2.2.2.2.2) | (with_reducible exact Nat.ne_of_lt hc9.2.2.2.2.2.2.1) | (with_reducible exact Nat.ne_of_gt hc9.2.2.2.2.2.2.1) | (with_reducible exact Nat.ne_of_lt hc9.2.2.2.2.2.2) | (with_reducible exact Nat.ne_of_gt hc9.2.2.2.2.2.2) | (with_reducible exact Nat.ne_of_lt hc9.2.2.2.2.2.2.2.1) | (with_reducible exact Nat.ne_of_gt hc9.2.2.2.2.2.2.2.1) | (with_reducible exact Nat.ne_of_lt hc9.2.2.2.2.2.2.2) | (with_reducible exact Nat.ne_of_gt hc9.2.2.2.2.2.2.2) | (with_reducible exact Nat.ne_of_lt hc9.2.2.2.2.2.2.2.2.1) | (with_reducible exact Nat.ne_of_gt hc9.2.2.2.2.2.2.2.2.1) | (with_reducible exact Nat.ne_of_lt hc9.2.2.2.2.2.2.2.2) | (with_reducible exact Nat.ne_of_gt hc9.2.2.2.2.2.2.2.2) | (with_reducible exact Nat.ne_of_lt hc9.2.2.2.2.2.2.2.2.2.1) | (with_reducible exact Nat.ne_of_gt hc9.2.2.2.2.2.2.2.2.2.1) | (with_reducible exact Nat.ne_of_lt hc9.2.2.2.2.2.2.2.2.2) | (with_reducible exact Nat.ne_of_gt hc9.2.2.2.2.2.2.2.2.2) | (with_reducible exact Nat.ne_of_lt hc9.2.2.2.2.2.2.2.2.2.2.1) | (with_reducible exact Nat.ne_of_gt hc9.2.2.2.2.2.2.2.2.2.2.1) | (with_reducible exact Nat.ne_of_lt hc9.2.2.2.2.2.2.2.2.2.2) | (with_reducible exact Nat.ne_of_gt hc9.2.2.2.2.2.2.2.2.2.2) | (with_reducible exact Nat.ne_of_lt hc9.2.2.2.2.2.2.2.2.2.2.2.1) | (with_reducible exact Nat.ne_of_gt hc9.2.2.2.2.2.2.2.2.2.2.2.1) | (with_reducible exact Nat.ne_of_lt hc9.2.2.2.2.2.2.2.2.2.2.2) | (with_reducible exact Nat.ne_of_gt hc9.2.2.2.2.2.2.2.2.2.2.2) | (with_reducible exact Nat.ne_of_lt hc9.2.2.2.2.2.2.2.2.2.2.2.2.1) | (with_reducible exact Nat.ne_of_gt hc9.2.2.2.2.2.2.2.2.2.2.2.2.1) | (with_reducible exact Nat.ne_of_lt hc9.2.2.2.2.2.2.2.2.2.2.2.2) | (with_reducible exact Nat.ne_of_gt hc9.2.2.2.2.2.2.2.2.2.2.2.2) | (with_reducible exact Nat.ne_of_lt hc9.2.2.2.2.2.2.2.2.2.2.2.2.2.1) | (with_reducible exact Nat.ne_of_gt hc9.2.2.2.2.2.2.2.2.2.2.2.2.2.1) | (with_reducible exact Nat.ne_of_lt hc9.2.2.2.2.2.2.2.2.2.2.2.2.2) | (with_reducible exact Nat.ne_of_gt hc9.2.2.2.2.2.2.2.2.2.2.2.2.2) | (clear hc9; k_extra "M nec")) | ((rename (_ ≠ _) ∧ _ => hc9); first | (with_reducible exact hc9.1) | (with_reducible exact Ne.symm hc9.1) | (with_reducible exact hc9) | (with_reducible exact Ne.symm hc9) | (with_reducible exact hc9.2.1) | (with_reducible exact Ne.symm hc9.2.1) | (with_reducible exact hc9.2) | (with_reducible exact Ne.symm hc9.2) | (with_reducible exact hc9.2.2.1) | (with_reducible exact Ne.symm hc9.2.2.1) | (with_reducible exact hc9.2.2) | (with_reducible exact Ne.symm hc9.2.2) | (with_reducible exact hc9.2.2.2.1) | (with_reducible exact Ne.symm hc9.2.2.2.1) | (with_reducible exact hc9.2.2.2) | (with_reducible exact Ne.symm hc9.2.2.2) | (with_reducible exact hc9.2.2.2.2.1) | (with_reducible exact Ne.symm hc9.2.2.2.2.1) | (with_reducible exact hc9.2.2.2.2) | (with_reducible exact Ne.symm hc9.2.2.2.2) | (with_reducible exact hc9.2.2.2.2.2.1) | (with_reducible exact Ne.symm hc9.2.2.2.2.2.1) | (with_reducible exact hc9.2.2.2.2.2) | (with_reducible exact Ne.symm hc9.2.2.2.2.2) | (with_reducible exact hc9.2.2.2.2.2.2.1) | (with_reducible exact Ne.symm hc9.2.2.2.2.2.2.1) | (with_reducible exact hc9.2.2.2.2.2.2) | (with_reducible exact Ne.symm hc9.2.2.2.2.2.2) | (with_reducible exact hc9.2.2.2.2.2.2.2.1) | (with_reducible exact Ne.symm hc9.2.2.2.2.2.2.2.1) | (with_reducible exact hc9.2.2.2.2.2.2.2) | (with_reducible exact Ne.symm hc9.2.2.2.2.2.2.2) | (with_reducible exact hc9.2.2.2.2.2.2.2.2.1) | (with_reducible exact Ne.symm hc9.2.2.2.2.2.2.2.2.1) | (with_reducible exact hc9.2.2.2.2.2.2.2.2) | (with_reducible exact Ne.symm hc9.2.2.2.2.2.2.2.2) | (with_reducible exact hc9.2.2.2.2.2.2.2.2.2.1) | (with_reducible exact Ne.symm hc9.2.2.2.2.2.2.2.2.2.1) | (with_reducible exact hc9.2.2.2.2.2.2.2.2.2) | (with_reducible exact Ne.symm hc9.2.2.2.2.2.2.2.2.2) | (with_reducible exact hc9.2.2.2.2.2.2.2.2.2.2.1) | (with_reducible exact Ne.symm hc9.2.2.2.2.2.2.2.2.2.2.1) | (with_reducible exact hc9.2.2.2.2.2.2.2.2.2.2) | (with_reducible exact Ne.symm hc9.2.2.2.2.2.2.2.2.2.2) | (with_reducible exact hc9.2.2.2.2.2.2.2.2.2.2.2.1) | (with_reducible exact Ne.symm hc9.2.2.2.2.2.2.2.2.2.2.2.1) | (with_reducible exact hc9.2.2.2.2.2.2.2.2.2.2.2) | (with_reducible exact Ne.symm hc9.2.2.2.2.2.2.2.2.2.2.2) | (with_reducible exact hc9.2.2.2.2.2.2.2.2.2.2.2.2.1) | (with_reducible exact Ne.symm hc9.2.2.2.2.2.2.2.2.2.2.2.2.1) | (with_reducible exact hc9.2.2.2.2.2.2.2.2.2.2.2.2) | (with_reducible exact Ne.symm hc9.2.2.2.2.2.2.2.2.2.2.2.2) | (with_reducible exact hc9.2.2.2.2.2.2.2.2.2.2.2.2.2.1) | (with_reducible exact Ne.symm hc9.2.2.2.2.2.2.2.2.2.2.2.2.2.1) | (with_reducible exact hc9.2.2.2.2.2.2.2.2.2.2.2.2.2) | (with_reducible exact Ne.symm hc9.2.2.2.2.2.2.2.2.2.2.2.2.2) | (clear hc9; k_extra "M nec")) | ((rename ((_ ≠ _) ∧ _) ∧ _ => hc9); first | (with_reducible exact hc9.1.1) | (with_reducible exact Ne.symm hc9.1.1) | (with_reducible exact hc9.1.2.1) | (with_reducible exact Ne.symm hc9.1.2.1) | (with_reducible exact hc9.1.2.2) | (with_reducible exact Ne.symm hc9.1.2.2) | (with_reducible exact hc9.1) | (with_reducible exact Ne.symm hc9.1) | (with_reducible exact hc9.2.1) | (with_reducible exact Ne.symm hc9.2.1) | (with_reducible exact hc9.2.2) | (with_reducible exact Ne.symm hc9.2.2) | (with_reducible exact hc9.2.1.1) | (with_reducible exact Ne.symm hc9.2.1.1) | (with_reducible exact hc9.2.1.2.1) | (with_reducible exact Ne.symm hc9.2.1.2.1) | (with_reducible exact hc9.2.1.2.2) | (with_reducible exact Ne.symm hc9.2.1.2.2) | (with_reducible exact hc9.2.2.1) | (with_reducible exact Ne.symm hc9.2.2.1) | (with_reducible exact hc9.2.2.2) | (with_reducible exact Ne.symm hc9.2.2.2) | (with_reducible exact hc9.2.2.1.1) | (with_reducible exact Ne.symm hc9.2.2.1.1) | (with_reducible exact hc9.2.2.1.2.1) | (with_reducible exact Ne.symm hc9.2.2.1.2.1) | (with_reducible exact hc9.2.2.1.2.2) | (with_reducible exact Ne.symm hc9.2.2.1.2.2) | (with_reducible exact hc9.2.2.2.1) | (with_reducible exact Ne.symm hc9.2.2.2.1) | (with_reducible exact hc9.2.2.2.2) | (with_reducible exact Ne.symm hc9.2.2.2.2) | (with_reducible exact hc9.2.2.2.1.1) | (with_reducible exact Ne.symm hc9.2.2.2.1.1) | (with_reducible exact hc9.2.2.2.1.2.1) | (with_reducible exact Ne.symm hc9.2.2.2.1.2.1) | (with_reducible exact hc9.2.2.2.1.2.2) | (with_reducible exact Ne.symm hc9.2.2.2.1.2.2) | (with_reducible exact hc9.2.2.2.2.1) | (with_reducible exact Ne.symm hc9.2.2.2.2.1) | (with_reducible exact hc9.2.2.2.2.2) | (with_reducible exact Ne.symm hc9.2.2.2.2.2) | (with_reducible exact hc9.2.2.2.2.1.1) | (with_reducible exact Ne.symm hc9.2.2.2.2.1.1) | (with_reducible exact hc9.2.2.2.2.1.2.1) | (with_reducible exact Ne.symm hc9.2.2.2.2.1.2.1) | (with_reducible exact hc9.2.2.2.2.1.2.2) | (with_reducible exact Ne.symm hc9.2.2.2.2.1.2.2) | (with_reducible exact hc9.2.2.2.2.2.1) | (with_reducible exact Ne.symm hc9.2.2.2.2.2.1) | (with_reducible exact hc9.2.2.2.2.2.2) | (with_reducible exact Ne.symm hc9.2.2.2.2.2.2) | (with_reducible exact hc9.2.2.2.2.2.1.1) | (with_reducible exact Ne.symm hc9.2.2.2.2.2.1.1) | (with_reducible exact hc9.2.2.2.2.2.1.2.1) | (with_reducible exact Ne.symm hc9.2.2.2.2.2.1.2.1) | (with_reducible exact hc9.2.2.2.2.2.1.2.2) | (with_reducible exact Ne.symm hc9.2.2.2.2.2.1.2.2) | (with_reducible exact hc9.2.2.2.2.2.2.1) | (with_reducible exact Ne.symm hc9.2.2.2.2.2.2.1) | (with_reducible exact hc9.2.2.2.2.2.2.2) | (with_reducible exact Ne.symm hc9.2.2.2.2.2.2.2) | (with_reducible exact hc9.2.2.2.2.2.2.1.1) | (with_reducible exact Ne.symm hc9.2.2.2.2.2.2.1.1) | (with_reducible exact hc9.2.2.2.2.2.2.1.2.1) | (with_reducible exact Ne.symm hc9.2.2.2.2.2.2.1.2.1) | (with_reducible exact hc9.2.2.2.2.2.2.1.2.2) | (with_reducible exact Ne.symm hc9.2.2.2.2.2.2.1.2.2) | (with_reducible exact hc9.2.2.2.2.2.2.2.1) | (with_reducible exact Ne.symm hc9.2.2.2.2.2.2.2.1) | (with_reducible exact hc9.2.2.2.2.2.2.2.2) | (with_reducible exact Ne.symm hc9.2.2.2.2.2.2.2.2) | (with_reducible exact hc9.2.2.2.2.2.2.2.1.1) | (with_reducible exact Ne.symm hc9.2.2.2.2.2.2.2.1.1) | (with_reducible exact hc9.2.2.2.2.2.2.2.1.2.1) | (with_reducible exact Ne.symm hc9.2.2.2.2.2.2.2.1.2.1) | (with_reducible exact hc9.2.2.2.2.2.2.2.1.2.2) | (with_reducible exact Ne.symm hc9.2.2.2.2.2.2.2.1.2.2) | (with_reducible exact hc9.2.2.2.2.2.2.2.2.1) | (with_reducible exact Ne.symm hc9.2.2.2.2.2.2.2.2.1) | (with_reducible exact hc9.2.2.2.2.2.2.2.2.2) | (with_reducible exact Ne.symm hc9.2.2.2.2.2.2.2.2.2) | (with_reducible exact hc9.2.2.2.2.2.2.2.2.1.1) | (with_reducible exact Ne.symm hc9.2.2.2.2.2.2.2.2.1.1) | (with_reducible exact hc9.2.2.2.2.2.2.2.2.1.2.1) | (with_reducible exact Ne.symm hc9.2.2.2.2.2.2.2.2.1.2.1) | (with_reducible exact hc9.2.2.2.2.2.2.2.2.1.2.2) | (with_reducible exact Ne.symm hc9.2.2.2.2.2.2.2.2.1.2.2) | (with_reducible exact hc9.2.2.2.2.2.2.2.2.2.1) | (with_reducible exact Ne.symm hc9.2.2.2.2.2.2.2.2.2.1) | (with_reducible exact hc9.2.2.2.2.2.2.2.2.2.2) | (with_reducible exact Ne.symm hc9.2.2.2.2.2.2.2.2.2.2) | (with_reducible exact hc9.2.2.2.2.2.2.2.2.2.1.1) | (with_reducible exact Ne.symm hc9.2.2.2.2.2.2.2.2.2.1.1) | (with_reducible exact hc9.2.2.2.2.2.2.2.2.2.1.2.1) | (with_reducible exact Ne.symm hc9.2.2.2.2.2.2.2.2.2.1.2.1) | (with_reducible exact hc9.2.2.2.2.2.2.2.2.2.1.2.2) | (with_reducible exact Ne.symm hc9.2.2.2.2.2.2.2.2.2.1.2.2) | (with_reducible exact hc9.2.2.2.2.2.2.2.2.2.2.1) | (with_reducible exact Ne.symm hc9.2.2.2.2.2.2.2.2.2.2.1) | (with_reducible exact hc9.2.2.2.2.2.2.2.2.2.2.2) | (with_reducible exact Ne.symm hc9.2.2.2.2.2.2.2.2.2.2.2) | (with_reducible exact hc9.2.2.2.2.2.2.2.2.2.2.1.1) | (with_reducible exact Ne.symm hc9.2.2.2.2.2.2.2.2.2.2.1.1) | (with_reducible exact hc9.2.2.2.2.2.2.2.2.2.2.1.2.1) | (with_reducible exact Ne.symm hc9.2.2.2.2.2.2.2.2.2.2.1.2.1) | (with_reducible exact hc9.2.2.2.2.2.2.2.2.2.2.1.2.2) | (with_reducible exact Ne.symm hc9.2.2.2.2.2.2.2.2.2.2.1.2.2) | (with_reducible exact hc9.2.2.2.2.2.2.2.2.2.2.2.1) | (with_reducible exact Ne.symm hc9.2.2.2.2.2.2.2.2.2.2.2.1) | (with_reducible exact hc9.2.2.2.2.2.2.2.2.2.2.2.2) | (with_reducible exact Ne.symm hc9.2.2.2.2.2.2.2.2.2.2.2.2) | (clear hc9; k_extra "M nec")))
  k_with "M enter" => ((refine' code_defG ?k1 ?k2 ?k3 ?k4 ?k5 ?kA ?kF ?kK ?k6 ?k7 ?k8 ?k9 ?kB ?_ ?c2 ?c3 ?c4 ?c5; (case kA => exact rfl); (case kF => exact rfl); (case kK => first | assumption | exact rfl); (case k1 => k_asm); (case k2 => k_asm); (case k3 => k_asm); (case k4 => k_asm); (case k5 => k_asm); (case k6 => k_is); (case k7 => k_is); (case k8 => ktr_room); (case k9 => exact BindsTo.of_eq rfl); (case c5 => decide); (case kB => exact locs rfl); (case c2 => exact rfl); (case c3 => exact rfl); (case c4 => exact rfl); k_whole; intro g' L' h' FG' F' N' B' X' T' kG'; (try dsimp only at F' N' kG' ⊢); (try k_fold)))
  k_with "M enterC" => ((refine' enterCells ?k1 ?k2 ?k3 ?k4 ?k5 ?kA ?kF ?kK ?k6 ?k7 ?k8 ?k9 ?kB ?kD ?_ ?c2 ?c3 ?c4; (case kA => exact rfl); (case kF => exact rfl); (case kK => first | assumption | exact rfl); (case k1 => k_asm); (case k2 => k_asm); (case k3 => k_asm); (case k4 => k_asm); (case k5 => k_asm); (case k6 => k_is); (case k7 => k_is); (case k8 => ktr_room); (case k9 => exact BindsTo.of_eq rfl); (case kB => exact rfl); (case kD => decide +kernel); (case c2 => exact rfl); (case c3 => exact rfl); (case c4 => exact rfl); k_whole; intro g' L' h' tk' cells' FG' F' N' Y' B' X' T' kG' l1 l2; (try k_lt l1); k_cells Y'; (try simp only [List.cons_append, List.nil_append] at N'); (try dsimp only at F' N' kG' ⊢); (try k_fold)))
  k_with "M sub" => ((first | exact List.forall_mem_nil _ | (refine List.forall_mem_cons.mpr ⟨?kms1, ?kms2⟩; (case kms1 => (intro hW; first | k_mem | (refine (hW ?_).elim; k_mem))); (case kms2 => k_extra "M sub"))))
  k_with "subscriptTail Name Constant ref int" => ((k_here; (with_reducible show wpAny _ _ (subscriptTail _ _ (Value.ref _) (Value.int _ _)) _ _ _); kim_at))
  k_with "call builtin:divmod" => ((k_here; (with_reducible show wpAny _ _ (call (Value.builtin _) [Value.int _ _, Value.int _ _]) _ _ _); k_dflt (refine' divmod_K ?k1 ?k2 ?k3 ?k4 ?_; (case k1 => k_asm); (case k2 => k_asm); (case k3 => omega); (case k4 => exact PyProof.noPylong_small (by omega)); k_whole); intro D' h' t1 t2 F' N' l1; (try k_lt l1); (try k_sweep)))
  k_with "call ref" => ((k_here; (with_reducible show wpAny _ _ (call (Value.ref 107) _ _) _ _ _); k_dflt (refine' draw_use ?k1 ?k2 ?k3 ?k4 ?k5 ?k6 ?k7 ?k8 ?b1 ?b2 ?b3 ?b4 ?b5 ?_; (case k1 => k_asm); (case k2 => k_asm); (case k3 => k_asm); (case k4 => k_asm); (case k5 => first | exact rfl | assumption); (case k6 => ktr_room); (case k7 => k_asm); (case k8 => k_updF); (case b1 => omega); (case b2 => omega); (case b3 => omega); (case b4 => omega); (case b5 => omega)); intro h' tk' n' c' t' u' k' d' td' K' F' N' b1 b2 b3 b4 b5; (try dsimp only at N'); (try k_sweep); (try k_fold)))
  k_with "call builtin:len" => ((k_here; (with_reducible show wpAny _ _ (call (Value.builtin "len") [Value.ref _]) _ _ _); k_dflt (first | (refine' len_tupA ?k1 ?k2 ?k3 ?_; (case k1 => k_asm); (case k2 => k_mem); (case k3 => omega)) | (refine' len_lstA ?k1 ?k2 ?k3 ?_; (case k1 => k_asm); (case k2 => k_mem); (case k3 => omega))); intro t' tk'; (try simp only [List.length_cons, List.length_nil])))
  k_with "subscriptTail Name Call ref int" => ((k_here; (with_reducible show wpAny _ _ (subscriptTail _ _ (Value.ref _) (Value.int _ _)) _ _ _); k_dflt (refine' tup_item_any ?k1 ?k2 ?k3 ?k4 ?k5 ?_ ?k6 ?k7; (case k1 => k_asm); (case k2 => k_mem); (case k3 => omega); (case k4 => omega); (case k5 => omega); (case k6 => with_unfolding_all rfl); (case k7 => (intro _; with_unfolding_all rfl))); intro x' hx' hxm'; (try k_fold)))
  k_with "call ref" => ((k_here; (with_reducible show wpAny _ _ (call (Value.ref 114) _ _) _ _ _); k_dflt (refine' pick_use ?k1 ?k2 ?k3 ?k4 ?k5 ?k6 ?k7 ?k8 ?k9 ?kA ?b1 ?b2 ?b3 ?b4 ?b5 ?_; (case k1 => k_asm); (case k2 => k_asm); (case k3 => k_asm); (case k4 => k_asm); (case k5 => first | exact rfl | assumption); (case k6 => ktr_room); (case k7 => k_asm); (case k8 => k_updF); (case k9 => k_mem); (case kA => (refine neN ?_; omega)); (case b1 => omega); (case b2 => omega); (case b3 => omega); (case b4 => (simp only [List.length_cons, List.length_nil]; omega)); (case b5 => (simp only [List.length_cons, List.length_nil]; omega))); intro h' tk' n' c' t' u' k' x' K' F' N' b1 b2 b3 b4; (try dsimp only at N'); (try k_sweep); (try k_fold)))
  k_with "binaryOp Mult ref int" => ((k_here; (with_reducible show wpAny _ _ (binaryOp Operator.Mult (Value.ref _) (Value.int _ _)) _ _ _); k_dflt (refine' tup_mul ?k1 ?k2 ?k3 ?k4 ?k5 ?_ ?_ ?_; (case k1 => k_asm); (case k2 => k_asm); (case k3 => k_mem); (case k4 => omega); (case k5 => omega)); (all_goals (intro hx9; (try (exfalso; omega; done)))); (all_goals (try (intro D' h' F' N' l1; (try k_lt l1); (try k_sweep)))); (all_goals (try k_unmd)); (all_goals (try k_fold))))
  k_with "subscriptTail Name Slice ref ref" => ((k_here; (with_reducible show wpAny _ _ (subscriptTail _ _ (Value.ref _) (Value.ref _)) _ _ _); k_dflt (refine' cut_tail ?k1 ?k2 ?k3 ?k4 ?_ ?_ ?k5 ?k6; (case k1 => k_asm); (case k2 => k_asm); (case k3 => k_mem); (case k4 => omega); (case k5 => with_unfolding_all rfl); (case k6 => (intro _; with_unfolding_all rfl))); (all_goals intro hx9); (all_goals (first | (intro D' h' F' N' l1; (try k_lt l1); (try k_sweep)) | (intro h' F' N'; (try k_sweep)))); (all_goals (try k_unmd)); (all_goals (try k_fold))))
  k_with "CompSrc" => ((k_here; k_dflt (refine LCg.CompSrc.range (by rfl) (by k_asm) (by k_asm) (by assumption) (by first | decide | rfl) (by first | rfl | decide) (by first | size_fits | exact Nat.le_of_ble_eq_true rfl) ?_; intro gc'; lcg_lit)))
  k_with "execs nil" => ((k_here; (with_reducible refine wpAny_execs_nil ?_)))
  k_with "eval ListComp" => ((k_here; lct_look; k_dflt (refine LCt.ListComp_T (F₀ := by k_asm) (by with_unfolding_all rfl) (by decide) (by rfl) (by decide) (by rfl) ?_)))
  k_with "M ints" => (first | exact IntsAre.nil | exact IntsAre.cons _ _ .nil | exact IntsAre.cons _ _ (.cons _ _ .nil) | exact IntsAre.cons _ _ (.cons _ _ (.cons _ _ .nil)) | assumption)
  k_with "call ref" => ((k_here; (with_reducible show wpAny _ _ (call (Value.ref 22) _ _) _ _ _); refine wpAny_call ?_; k_dflt (k_extra "M enter")))
  k_with "M test" => ((unfold TestEnd; refine ⟨?t1, _, _, rfl, ?t2, ?t3⟩; (case t1 => first | exact rfl | exact inR_lt (by omega) | exact inR_neg (by omega)); (case t2 => k_asm); (case t3 => k_asm)))
  k_with "compareOp Eq ref ref" => ((k_here; k_dflt (refine' eq_tup_nil ?k1 ?k2 ?k3 ?k4 ?_; (case k1 => k_asm); (case k2 => k_mem); (case k3 => k_mem); (case k4 => first | units_room | exact Nat.le_of_ble_eq_true rfl)); (try simp only [List.size_toArray, List.length_cons, List.length_nil])))
  k_with "call ref" => ((k_here; (with_reducible show wpAny _ _ (call (Value.ref 93) _ _) _ _ _); (try simp only [List.nil_append]); refine wpAny_call ?_; k_dflt (k_extra "M enter")))
  k_with "call ref" => ((k_here; (with_reducible show wpAny _ _ (call (Value.ref 126) _ _) _ _ _); refine wpAny_call ?_; k_dflt (k_extra "M enter")))
  k_with "compareOp NotIn int ref" => ((k_here; (with_reducible show wpAny _ _ (compareOp CmpOp.NotIn (Value.int _ _) (Value.ref _)) _ _ _); k_dflt (refine notin_range (by assumption) ?_)))
  k_with "eval ListComp" => ((k_here; lct_look; k_dflt (first | refine ListComp_Tup (iter := Expr.Subscript _ _ _) (_F := by k_asm) (by with_unfolding_all rfl) (by decide) (by rfl) (by decide) (by rfl) ?_ | refine LCt.ListComp_T (F₀ := by k_asm) (by with_unfolding_all rfl) (by decide) (by rfl) (by decide) (by rfl) ?_)))
  k_with "CompSrcU" => ((k_here; refine sealUOf ?_))
  k_with "subscriptTail Name Slice ref ref" => ((k_here; (with_reducible show wpAny _ _ (subscriptTail _ _ (Value.ref _) (Value.ref _)) _ _ _); k_dflt (refine' tail_from ?k1 ?k2 ?k3 ?k4 ?_ ?k5 ?k6; (case k1 => k_asm); (case k2 => k_asm); (case k3 => k_mem); (case k4 => (simp only [List.length_cons, List.length_nil]; omega)); (case k5 => with_unfolding_all rfl); (case k6 => (intro _; with_unfolding_all rfl))); intro D' h' F' N' l1; (try k_lt l1); (try k_sweep)))
  k_with "M strs6" => (first | exact List.forall_mem_nil _ | (refine List.forall_mem_cons.mpr ⟨⟨_, _, rfl⟩, ?_⟩; k_extra "M strs6"))
  k_with "compareOp NotIn int ref" => ((k_here; (with_reducible show wpAny _ _ (compareOp CmpOp.NotIn (Value.int _ _) (Value.ref _)) _ _ _); k_dflt (first | refine notin_range (by assumption) ?_ | (refine' notin_strs ?k1 ?k2 ?k3 ?_; (case k1 => k_asm); (case k2 => k_mem); (case k3 => k_extra "M strs6")))))
  k_with "call ref" => ((k_here; (with_reducible show wpAny _ _ (call (Value.ref 93) _) _ _ _); k_dflt (refine' parts_use ?k1 ?k2 ?k3 ?k4 ?k5 ?k6 ?k7 ?_; (case k1 => k_asm); (case k2 => k_asm); (case k3 => k_asm); (case k4 => k_asm); (case k5 => first | exact rfl | assumption); (case k6 => ktr_room); (case k7 => k_asm)); (iterate 4 intro _); (iterate 26 intro _); intro KP F' N' lo' hd' hf'; (try k_sweep); (try k_fold)))
  k_with "M memt" => (first | (with_reducible assumption) | ((with_reducible refine List.mem_cons_of_mem _ ?_); k_extra "M memt"))
  k_with "M subv" => (first | exact List.forall_mem_nil _ | ((with_reducible refine List.forall_mem_cons.mpr ⟨?kms1, ?kms2⟩); (case kms1 => k_mem); (case kms2 => k_extra "M subv")) | (intro p8 hp8; k_extra "M memt"))
  k_with "M sub" => ((first | exact List.forall_mem_nil _ | (refine List.forall_mem_cons.mpr ⟨?kms1, ?kms2⟩; (case kms1 => (intro hW; first | k_mem | (refine (hW ?_).elim; k_mem))); (case kms2 => k_extra "M sub")) | (intro p8 hp8 hW8; k_extra "M memt")))
  k_with "M size" => (first | exact size_few (by first | omega | (simp only [List.length_append, List.length_cons, List.length_nil]; omega)) | size_fits)
  k_with "call builtin:list.append" => ((k_here; (with_reducible show wpAny _ _ (call (Value.builtin _) [Value.ref _, _]) _ _ _); k_dflt (refine' append_K ?k1 ?k2 ?k3 ?_ ?z; (case k1 => k_asm); (case k2 => k_asm); (case k3 => k_upd); (case z => k_extra "M size")); intro h' F' N'; (try k_sweep)))
  exact True.intro
theorem la_all {w : World} {mean : ExcName → Option Value} {mg mb : Str → Option Value} {dp un : Nat} {gd : Option (List Code)} {cn : Str} {cs : Scope} {a : Addr} {ccd : Value} {cl : List (Str × Addr)} {outer : List Env} {A₀ : Around} {base h₀ : Heap} {L : Addr} {m : Str → Option Value} {s : Shared} {Q E : Value → Shared → Prop}
  {x : Addr} {t1 : Tok} {n : Str} {vs : List Value} {l : List Int} {R : List (Addr × Obj)}
  (B : Below A₀ base outer h₀) (F : Fr h₀ L s.heap m) (X : (Mine.hd.heap_1 w.params).In h₀) (T : Top Mine.hd.view_1 lo mean mg mb h₀) (hk : cs.kind = .function) (hd : dp + 1 < recursionLimit)
  (N : News h₀ L s.heap ((x, tupOf (.str n t1 :: vs)) :: R)) (hs : OpSh (fun a o => (a, o) ∈ R) n vs l)
  (hret : ∀ h' tk D us k, KeepBut [] s.heap h' → NewAt h₀ L h' D (listOf us.toArray k) → IntsAre us l → Q (.ref D) { s with heap := h', toks := tk }) :
  wpAny (model PySem.Challenge.rw_pq0627_01.row.prog w) (ktrTop dp un gd cn cs L a ccd cl outer) (call (.ref 22) [.ref x]) Q E s := by
  cases hch : (n == S "choose") with
  | false => exact la_r B F X T hk hd N hs hch hret
  | true =>
    have e := eq_of_beq hch
    subst e
    obtain ⟨la, us, rfl, e2, e3⟩ := hs.ch rfl
    exact la_ch B F X T hk hd (News.sub9 N (List.forall_mem_cons.mpr ⟨.head _, List.forall_mem_cons.mpr ⟨.tail _ e2, List.forall_mem_nil _⟩⟩)) e3 hs.len hret
theorem lb_all {w : World} {mean : ExcName → Option Value} {mg mb : Str → Option Value} {dp un : Nat} {gd : Option (List Code)} {cn : Str} {cs : Scope} {a : Addr} {ccd : Value} {cl : List (Str × Addr)} {outer : List Env} {A₀ : Around} {base h₀ : Heap} {L : Addr} {m : Str → Option Value} {s : Shared} {Q E : Value → Shared → Prop}
  {x : Addr} {t1 : Tok} {n : Str} {vs : List Value} {l : List Int} {R : List (Addr × Obj)}
  (B : Below A₀ base outer h₀) (F : Fr h₀ L s.heap m) (X : (Mine.hd.heap_1 w.params).In h₀) (T : Top Mine.hd.view_1 lo mean mg mb h₀) (hk : cs.kind = .function) (hd : dp + 1 < recursionLimit)
  (N : News h₀ L s.heap ((x, tupOf (.str n t1 :: vs)) :: R)) (hs : OpSh (fun a o => (a, o) ∈ R) n vs l)
  (hret : ∀ h' tk D us k, KeepBut [] s.heap h' → NewAt h₀ L h' D (listOf us.toArray k) → IntsAre us l → Q (.ref D) { s with heap := h', toks := tk }) :
  wpAny (model PySem.Challenge.rw_pq0627_01.row.prog w) (ktrTop dp un gd cn cs L a ccd cl outer) (call (.ref 126) [.ref x]) Q E s := by
  cases hch : (n == S "choose") with
  | false => exact lb_r B F X T hk hd N hs hch hret
  | true =>
    have e := eq_of_beq hch
    subst e
    obtain ⟨la, us, rfl, e2, e3⟩ := hs.ch rfl
    exact lb_ch B F X T hk hd (News.sub9 N (List.forall_mem_cons.mpr ⟨.head _, List.forall_mem_cons.mpr ⟨.tail _ e2, List.forall_mem_nil _⟩⟩)) e3 hs.len hret

/-! form_fault, one walk for every op but () -/
theorem tab_no' {n : Str} {k : Int} (ha : argc n = some k) (h : (decide (n = S "push") || (decide (n = S "calc") || (decide (n = S "put") || (decide (n = S "do") || (decide (n = S "key") || (decide (n = S "test") || (decide (n = S "jump") || (decide (n = S "choose") || (decide (n = S "perform") || (decide (n = S "leave") || (decide (n = S "count") || (decide (n = S "less") || (decide (n = S "stop") || false))))))))))))) = false) : False := by
  simp only [Bool.or_eq_false_iff, decide_eq_false_iff_not] at h
  unfold argc at ha
  simp [h] at ha
theorem cut_cs {n q : Str} {t : Tok} {r vs : List Value} {b : Bool} (h : (n == S "calc") = true) (e : vs = .str q t :: r) (ha : (signs.any fun x => x == q) = b) : (!b) = calV n vs := by
  subst e; subst ha; unfold calV; rw [h]; rfl
theorem cut_cs_t {n q : Str} {t : Tok} {r vs : List Value} (h : (n == S "calc") = true) (e : vs = .str q t :: r) (ha : (signs.any fun x => x == q) = true) : false = calV n vs := cut_cs h e ha
theorem cut_cs_f {n q : Str} {t : Tok} {r vs : List Value} (h : (n == S "calc") = true) (e : vs = .str q t :: r) (ha : (signs.any fun x => x == q) = false) : true = calV n vs := cut_cs h e ha
theorem cut_ci {n : Str} {i : Int} {t : Tok} {r vs : List Value} (h : (n == S "calc") = true) (e : vs = .int i t :: r) : true = calV n vs := by
  subst e; unfold calV; rw [h]; rfl
theorem cut_c0 {n : Str} {vs : List Value} (h : (n == S "calc") = false) : false = calV n vs := by
  unfold calV; rw [h]; rfl
theorem cut_es {n q : Str} {t : Tok} {r vs : List Value} {b : Bool} (h : (n == S "stop") = true) (e : vs = .str q t :: r) (ha : (ends.any fun x => x == q) = b) : (!b) = endV n vs := by
  subst e; subst ha; unfold endV; rw [h]; rfl
theorem cut_es_t {n q : Str} {t : Tok} {r vs : List Value} (h : (n == S "stop") = true) (e : vs = .str q t :: r) (ha : (ends.any fun x => x == q) = true) : false = endV n vs := cut_es h e ha
theorem cut_es_f {n q : Str} {t : Tok} {r vs : List Value} (h : (n == S "stop") = true) (e : vs = .str q t :: r) (ha : (ends.any fun x => x == q) = false) : true = endV n vs := cut_es h e ha
theorem cut_ei {n : Str} {i : Int} {t : Tok} {r vs : List Value} (h : (n == S "stop") = true) (e : vs = .int i t :: r) : true = endV n vs := by
  subst e; unfold endV; rw [h]; rfl
theorem cut_e0 {n : Str} {vs : List Value} (h : (n == S "stop") = false) : false = endV n vs := by
  unfold endV; rw [h]; rfl
theorem cut_p0 {n : Str} {b : Int} {vs : List Value} (h : inP n = false) : false = parV b n vs := by
  unfold parV; rw [h]; rfl
theorem ints_all {b : Int} {vs : List Value} {ls : List Int} (h : IntsAre vs ls) : intsIn b vs = ls.all (inR b) := by
  unfold intsIn
  induction h with
  | nil => rfl
  | cons _ _ _ ih => rw [List.all_cons, List.all_cons, ih]; rfl
theorem cut_p1 {n : Str} {b : Int} {vs : List Value} {ls : List Int} {k : Bool} (h : inP n = true) (hI : IntsAre vs ls) (hf : decide (List.filter (fun k => !inR b k) ls = []) = k) : (!k) = parV b n vs := by
  rw [filt_all] at hf
  unfold parV; rw [h, ints_all hI, hf]; rfl
theorem cut_p1_t {n : Str} {b : Int} {vs : List Value} {ls : List Int} (h : inP n = true) (hI : IntsAre vs ls) (hf : decide (List.filter (fun k => !inR b k) ls = []) = true) : false = parV b n vs := cut_p1 h hI hf
theorem cut_p1_f {n : Str} {b : Int} {vs : List Value} {ls : List Int} (h : inP n = true) (hI : IntsAre vs ls) (hf : decide (List.filter (fun k => !inR b k) ls = []) = false) : true = parV b n vs := cut_p1 h hI hf
theorem cut_zero {n : Str} {vs : List Value} {k : Bool} (h : ((vs.length + 1 : Nat) : Int) = 0) : k = farV n vs := by omega
theorem cut_ne {n : Str} {vs : List Value} {i : Int} (ha : argc n = some i) (h : ((vs.length + 1 : Nat) : Int) ≠ i + 1) : true = farV n vs := by
  unfold farV; rw [ha, decide_eq_false (fun e => h (by rw [Option.some.inj e]; omega))]; rfl
theorem cut_eq {n : Str} {vs : List Value} {i : Int} (ha : argc n = some i) (h : ((vs.length + 1 : Nat) : Int) = i + 1) : false = farV n vs := by
  unfold farV; rw [ha, decide_eq_true (congrArg some (by omega))]; rfl
theorem cut_tab {n : Str} {vs : List Value} (h : ∀ {k : Int}, argc n = some k → False) : true = farV n vs := by
  unfold farV; rw [decide_eq_false (fun e => h e)]; rfl
theorem cut_l {m : Int} {l : List Int} {k : Bool} (hf : decide (List.filter (fun k => !inR m k) l = []) = k) : (!k) = !(l.all (inR m)) := by
  rw [filt_all] at hf
  rw [hf]
theorem cut_l_t {m : Int} {l : List Int} (hf : decide (List.filter (fun k => !inR m k) l = []) = true) : false = !(l.all (inR m)) := cut_l hf
theorem cut_l_f {m : Int} {l : List Int} (hf : decide (List.filter (fun k => !inR m k) l = []) = false) : true = !(l.all (inR m)) := cut_l hf
theorem fv1 {m b : Int} {n : Str} {vs : List Value} {l : List Int} (h1 : farV n vs = true) : noOp = faultV m b n vs l := by unfold faultV; rw [if_pos h1]
theorem fv2 {m b : Int} {n : Str} {vs : List Value} {l : List Int} (h1 : farV n vs = false) (h2 : (!(l.all (inR m))) = true) : labFar = faultV m b n vs l := by unfold faultV; rw [if_neg (by rw [h1]; decide), if_pos h2]
theorem fv3 {m b : Int} {n : Str} {vs : List Value} {l : List Int} (h1 : farV n vs = false) (h2 : (!(l.all (inR m))) = false) (h3 : calV n vs = true) : noSign = faultV m b n vs l := by unfold faultV; rw [if_neg (by rw [h1]; decide), if_neg (by rw [h2]; decide), if_pos h3]
theorem fv4 {m b : Int} {n : Str} {vs : List Value} {l : List Int} (h1 : farV n vs = false) (h2 : (!(l.all (inR m))) = false) (h3 : calV n vs = false) (h4 : parV b n vs = true) : noPar = faultV m b n vs l := by unfold faultV; rw [if_neg (by rw [h1]; decide), if_neg (by rw [h2]; decide), if_neg (by rw [h3]; decide), if_pos h4]
theorem fv5 {m b : Int} {n : Str} {vs : List Value} {l : List Int} (h1 : farV n vs = false) (h2 : (!(l.all (inR m))) = false) (h3 : calV n vs = false) (h4 : parV b n vs = false) (h5 : endV n vs = true) : noEnd = faultV m b n vs l := by unfold faultV; rw [if_neg (by rw [h1]; decide), if_neg (by rw [h2]; decide), if_neg (by rw [h3]; decide), if_neg (by rw [h4]; decide), if_pos h5]
theorem fv6 {m b : Int} {n : Str} {vs : List Value} {l : List Int} (h1 : farV n vs = false) (h2 : (!(l.all (inR m))) = false) (h3 : calV n vs = false) (h4 : parV b n vs = false) (h5 : endV n vs = false) : S "" = faultV m b n vs l := by unfold faultV; rw [if_neg (by rw [h1]; decide), if_neg (by rw [h2]; decide), if_neg (by rw [h3]; decide), if_neg (by rw [h4]; decide), if_neg (by rw [h5]; decide)]
section









































theorem kreg23 : True := by
  w_top off
  k_with "M fv" => (first
  | exact fv1 (by with_reducible assumption)
  | exact fv2 (by with_reducible assumption) (by with_reducible assumption)
  | exact fv3 (by with_reducible assumption) (by with_reducible assumption) (by with_reducible assumption)
  | exact fv4 (by with_reducible assumption) (by with_reducible assumption) (by with_reducible assumption) (by with_reducible assumption)
  | exact fv5 (by with_reducible assumption) (by with_reducible assumption) (by with_reducible assumption) (by with_reducible assumption) (by with_reducible assumption)
  | exact fv6 (by with_reducible assumption) (by with_reducible assumption) (by with_reducible assumption) (by with_reducible assumption) (by with_reducible assumption))
  k_with "M ffend" => ((
    rename News h₀ L _ _ => kN
    refine hret _ _ _ _ (keep_led kG0 (by assumption) N kN (by k_extra "M sub")) ?_
    k_extra "M fv"))
  k_with "M cutw" => (((case kF => k_asm); (case kN => k_asm); (case w => (k_steps; all_goals k_extra "M cutend")); (all_goals (intro hb9 h' tk' F' N'; (try k_sweep)))))
  k_with "exec If" => ((k_here; (with_reducible show wpAny _ _ (exec (Stmt.If _ [Stmt.Return (some (Expr.Constant (Const.str (Str.ofString "no op")) _ _)) _] _ _) _) _ _ _); refine wpAny_If ?_; (try dsimp only); k_dflt (refine' testCut (b := farV n vs) ?kF ?kN ?w ?_ ?_; k_extra "M cutw"); (all_goals (try ((have hs := hs0 (by with_reducible assumption)); (have hsl := hs.len))))))
  k_with "exec If" => ((k_here; (with_reducible show wpAny _ _ (exec (Stmt.If _ [Stmt.Return (some (Expr.Constant (Const.str (Str.ofString "a label beyond the code")) _ _)) _] _ _) _) _ _ _); refine wpAny_If ?_; (try dsimp only); k_dflt (refine' testCut (b := !(l.all (inR os.length))) ?kF ?kN ?w ?_ ?_; k_extra "M cutw")))
  k_with "exec If" => ((k_here; (with_reducible show wpAny _ _ (exec (Stmt.If _ [Stmt.Return (some (Expr.Constant (Const.str (Str.ofString "no sign of reckoning")) _ _)) _] _ _) _) _ _ _); refine wpAny_If ?_; (try dsimp only); k_dflt (refine' testCut (b := calV n vs) ?kF ?kN ?w ?_ ?_; k_extra "M cutw")))
  k_with "exec If" => ((k_here; (with_reducible show wpAny _ _ (exec (Stmt.If _ [Stmt.Return (some (Expr.Constant (Const.str (Str.ofString "no such paragraph")) _ _)) _] _ _) _) _ _ _); refine wpAny_If ?_; (try dsimp only); k_dflt (refine' testCut (b := parV bs.length n vs) ?kF ?kN ?w ?_ ?_; k_extra "M cutw")))
  k_with "exec If" => ((k_here; (with_reducible show wpAny _ _ (exec (Stmt.If _ [Stmt.Return (some (Expr.Constant (Const.str (Str.ofString "no word of an end")) _ _)) _] _ _) _) _ _ _); refine wpAny_If ?_; (try dsimp only); k_dflt (refine' testCut (b := endV n vs) ?kF ?kN ?w ?_ ?_; k_extra "M cutw")))
  k_with "M cutend" => (((rename News _ _ _ _ => kN); (refine Cut.mk ?_ ⟨_, _, rfl, by assumption, News.sub9 kN ?_⟩); (focus k_extra "M cutb"); (intro p8 hp8); k_extra "M memt"))
  k_with "M cutb" => (first
  | exact cut_ne h9 (by with_reducible assumption)
  | exact cut_eq h9 (by with_reducible assumption)
  | exact cut_zero (by with_reducible assumption)
  | (rename (_ || _) = false => a9; exact cut_tab fun ha => tab_no' ha a9)
  | exact cut_cs_t (by with_reducible assumption) (by with_reducible assumption) (by with_reducible assumption)
  | exact cut_cs_f (by with_reducible assumption) (by with_reducible assumption) (by with_reducible assumption)
  | exact cut_ci (by with_reducible assumption) (by with_reducible assumption)
  | exact cut_c0 (by with_reducible assumption)
  | exact cut_es_t (by with_reducible assumption) (by with_reducible assumption) (by with_reducible assumption)
  | exact cut_es_f (by with_reducible assumption) (by with_reducible assumption) (by with_reducible assumption)
  | exact cut_ei (by with_reducible assumption) (by with_reducible assumption)
  | exact cut_e0 (by with_reducible assumption)
  | exact cut_p0 (by with_reducible assumption)
  | exact cut_p1_t (by with_reducible assumption) (by with_reducible assumption) (by with_reducible assumption)
  | exact cut_p1_f (by with_reducible assumption) (by with_reducible assumption) (by with_reducible assumption)
  | exact cut_l_t (by with_reducible assumption)
  | exact cut_l rfl
  | exact cut_l_f (by with_reducible assumption))
  k_with "CompSrcT" => ((k_here; refine sealOf ?_))
  k_with "Sealed" => ((refine toSeal ?_; k_dflt (refine' filtSrc (x := Str.ofString "label") (fun k => !inR os.length k) ?k1 ?k2 ?k3 ?k4 ?k5 ?hI9 ?helt9 ?test9 ?_); (case k1 => exact rfl); (case k2 => k_asm); (case k3 => k_asm); (case k4 => k_mem); (case k5 => exact size_few (by omega)); (case hI9 => exact hI9); (case helt9 => (intro k9 t9 I9 oI9 C9 oC9 D9 ys9 m9 s9 Q9 E9 hC9 hx9 N9 q9; exact LCgL.ld_own N9 (List.mem_cons_of_mem _ List.mem_cons_self) hC9 hx9 q9)); (case test9 => (intro k9 t9 I9 oI9 C9 oC9 D9 ys9 m9 h9 tk9 E9 hk9 hC9 hx9 F9 N9; k_steps; all_goals k_extra "M test")); intro g9 ys9 hys9))
  k_with "SealedU" => ((refine toSealU ?_; k_dflt (refine' filtSrcU (x := Str.ofString "index") (fun k => !inR bs.length k) ?k1 ?k2 ?k3 ?k4 ?k5 ?hI9 ?helt9 ?test9 ?_); (case k1 => exact rfl); (case k2 => k_asm); (case k3 => k_asm); (case k4 => k_mem); (case k5 => exact size_few (by omega)); (case hI9 => exact hI9); (case helt9 => (intro k9 t9 I9 oI9 C9 oC9 D9 ys9 m9 s9 Q9 E9 hC9 hx9 N9 q9; exact LCgL.ld_own N9 (List.mem_cons_of_mem _ List.mem_cons_self) hC9 hx9 q9)); (case test9 => (intro k9 t9 I9 oI9 C9 oC9 D9 ys9 m9 h9 tk9 E9 hk9 hC9 hx9 F9 N9; k_steps; all_goals k_extra "M test")); intro g9 ys9 hys9))
  k_with "call ref" => ((k_here; (with_reducible show wpAny _ _ (call (Value.ref 22) _ _) _ _ _); k_dflt (refine' la_all ?k1 ?k2 ?k3 ?k4 ?k5 ?k6 ?k7 hs ?_; (case k1 => k_asm); (case k2 => k_asm); (case k3 => k_asm); (case k4 => k_asm); (case k5 => first | exact rfl | assumption); (case k6 => ktr_room); (case k7 => exact News.sub9 (by assumption) (by k_extra "M subv"))); intro h' tk' D9 us9 k9 K' nD9 hI9; (have hl9 := PyProof.Rows.IntsAre.length hI9); (have F' := keep_nil_fr (by assumption) K'); (have N8 := keep_nil_news (by assumption) K'); (have N' := News.put N8 nD9); clear N8; (try k_sweep); (try k_fold)))
  k_with "compareOp Eq str str" => ((k_here; k_dflt (refine' eq_split ?_ ?_ <;> intro h9)))
  k_with "compareOp In str ref" => ((k_here; k_dflt (refine' in_split2 ?k1 ?k2 ?_ ?_; (case k1 => k_asm); (case k2 => k_mem); (all_goals intro h9))))
  k_with "subscriptTail Name Constant ref int" => ((k_here; (with_reducible show wpAny _ _ (subscriptTail _ _ (Value.ref _) (Value.int 0 _)) _ _ _); k_dflt (refine' tup_head0 ?k1 ?k2 ?_; (case k1 => k_asm); (case k2 => k_mem))))
  k_with "subscriptTail Name Constant ref int" => ((k_here; (with_reducible show wpAny _ _ (subscriptTail _ _ (Value.ref _) (Value.int 1 _)) _ _ _); k_dflt (refine' tup_at1E ?k1 ?k2 ?k3 ?_; (case k1 => k_asm); (case k2 => k_mem); (case k3 => first | exact hs.ca (by with_reducible assumption) | exact hs.st (by with_reducible assumption)); intro v9 r9 e9 hv9; rcases hv9 with ⟨q9, t9, hv9⟩ | ⟨i9, t9, hv9⟩ <;> subst hv9)))
  k_with "call builtin:len" => ((k_here; (with_reducible show wpAny _ _ (call (Value.builtin "len") [Value.ref _]) _ _ _); k_dflt (refine' len_tupA ?k1 ?k2 ?k3 ?_; (case k1 => k_asm); (case k2 => k_mem); (case k3 => (try rw [List.length_cons]); omega)); intro t' tk'; (try simp only [List.length_cons])))
  k_with "subscriptTail Name Slice ref ref" => ((k_here; (with_reducible show wpAny _ _ (subscriptTail _ _ (Value.ref _) (Value.ref _)) _ _ _); (refine Exists.elim (hs.pa (by with_reducible assumption)) ?_); intro ls9 hp9; (have hI9 := hp9.1); (have hl9 := PyProof.Rows.IntsAre.length hI9); (have hl8 := hp9.2); k_dflt (refine' tail_from ?k1 ?k2 ?k3 ?k4 ?_ ?k5 ?k6; (case k1 => k_asm); (case k2 => k_asm); (case k3 => k_mem); (case k4 => omega); (case k5 => with_unfolding_all rfl); (case k6 => (intro _; with_unfolding_all rfl))); intro D' h' F' N' l1; (try k_lt l1); (try k_sweep)))
  k_with "EachL" => ((k_here; k_dflt (refine eachL_argc ?_); intro i9 t9 h9; (try dsimp only)))
  exact True.intro

theorem ff_all {w : World} {mean : ExcName → Option Value} {mg mb : Str → Option Value} {dp un : Nat} {gd : Option (List Code)} {cn : Str} {cs : Scope} {a : Addr} {ccd : Value} {cl : List (Str × Addr)} {outer : List Env} {A₀ : Around} {base h₀ : Heap} {L : Addr} {m : Str → Option Value} {s : Shared} {Q E : Value → Shared → Prop}
  {C D O G x : Addr} {os bs vs : List Value} {t u t1 : Tok} {nd : Nat} {n : Str} {l : List Int} {R : List (Addr × Obj)}
  (B : Below A₀ base outer h₀) (F : Fr h₀ L s.heap m) (X : (Mine.hd.heap_1 w.params).In h₀) (T : Top Mine.hd.view_1 lo mean mg mb h₀) (hk : cs.kind = .function) (hd : dp + 2 < recursionLimit) (hu : un + 400 < cLine)
  (N : News h₀ L s.heap ((x, tupOf (.str n t1 :: vs)) :: (C, instObj 82 D) :: (D, codeDict w O G t u nd) :: (O, tupOf os) :: (G, tupOf bs) :: R))
  (hs0 : farV n vs = false → OpSh (fun a o => (a, o) ∈ R) n vs l) (hv : vs.length ≤ 3)
  (hos : os.length < 100) (hbs : bs.length < 100)
  (hret : ∀ h' tk t z, KeepBut [] s.heap h' → z = faultV os.length bs.length n vs l → Q (.str z t) { s with heap := h', toks := tk }) :
  wpAny (model PySem.Challenge.rw_pq0627_01.row.prog w) (ktrTop dp un gd cn cs L a ccd cl outer) (call (.ref 27) [.ref C, .ref x]) Q E s := by
  revert X; k_fill; intro X
  refine wpAny_call ?_
  k_dflt (k_extra "M enterC")
  have kG0 := kG'
  k_steps
  all_goals k_extra "M ffend"
end
theorem kreg24 : True := by
  w_top off
  k_with_none
  k_with "M ne" => (first | (with_reducible assumption) | (with_reducible exact Ne.symm (by assumption)) | (with_reducible exact Nat.ne_of_lt (by assumption)) | (with_reducible exact Nat.ne_of_gt (by assumption)) | (k_extra "M nec"))
  k_with "M nec" => (first | ((rename (_ < _) ∧ _ => hc9); first | (with_reducible exact Nat.ne_of_lt hc9.1) | (with_reducible exact Nat.ne_of_gt hc9.1) | (with_reducible exact Nat.ne_of_lt hc9) | (with_reducible exact Nat.ne_of_gt hc9) | (with_reducible exact Nat.ne_of_lt hc9.2.1) | (with_reducible exact Nat.ne_of_gt hc9.2.1) | (with_reducible exact Nat.ne_of_lt hc9.2) | (with_reducible exact Nat.ne_of_gt hc9.2) | (with_reducible exact Nat.ne_of_lt hc9.2.2.1) | (with_reducible exact Nat.ne_of_gt hc9.2.2.1) | (with_reducible exact Nat.ne_of_lt hc9.2.2) | (with_reducible exact Nat.ne_of_gt hc9.2.2) | (with_reducible exact Nat.ne_of_lt hc9.2.2.2.1) | (with_reducible exact Nat.ne_of_gt hc9.2.2.2.1) | (with_reducible exact Nat.ne_of_lt hc9.2.2.2) | (with_reducible exact Nat.ne_of_gt hc9.2.2.2) | (with_reducible exact Nat.ne_of_lt hc9.2.2.2.2.1) | (with_reducible exact Nat.ne_of_gt hc9.2.2.2.2.1) | (with_reducible exact Nat.ne_of_lt hc9.2.2.2.2) | (with_reducible exact Nat.ne_of_gt hc9.2.2.2.2) | (with_reducible exact Nat.ne_of_lt hc9.2.2.2.2.2.1) | (with_reducible exact Nat.ne_of_gt hc9.2.2.2.2.2.1) | (with_reducible exact Nat.ne_of_lt hc9.2.2.2.2.2) | (with_reducible exact Nat.ne_of_gt hc9.2.2.2.2.2) | (with_reducible exact Nat.ne_of_lt hc9.2.2.2.2.2.2.1) | (with_reducible exact Nat.ne_of_gt hc9.2.2.2.2.2.2.1) | (with_reducible exact Nat.ne_of_lt hc9.2.2.2.2.2.2) | (with_reducible exact Nat.ne_of_gt hc9.2.2.2.2.2.2) | (with_reducible exact Nat.ne_of_lt hc9.2.2.2.2.2.2.2.1) | (with_reducible exact Nat.ne_of_gt hc9.2.2.2.2.2.2.2.1) | (with_reducible exact Nat.ne_of_lt hc9.2.2.2.2.2.2.2) | (with_reducible exact Nat.ne_of_gt hc9.2.2.2.2.2.2.2) | (with_reducible exact Nat.ne_of_lt hc9.2.2.2.2.2.2.2.2.1) | (with_reducible exact Nat.ne_of_gt hc9.2.2.2.2.2.2.2.2.1) | (with_reducible exact Nat.ne_of_lt hc9.2.2.2.2.2.2.2.2) | (with_reducible exact Nat.ne_of_gt hc9.2.2.2.2.2.2.2.2) | (with_reducible exact Nat.ne_of_lt hc9.2.2.2.2.2.2.2.2.2.1) | (with_reducible exact Nat.ne_of_gt hc9.2.2.2.2.2.2.2.2.2.1) | (with_reducible exact Nat.ne_of_lt hc9.2.2.2.2.2.2.2.2.2) | (with_reducible exact Nat.ne_of_gt hc9.2.2.2.2.2.2.2.2.2) | (with_reducible exact Nat.ne_of_lt hc9.2.2.2.2.2.2.2.2.2.2.1) | (with_reducible exact Nat.ne_of_gt hc9.2.2.2.2.2.2.2.2.2.2.1) | (with_reducible exact Nat.ne_of_lt hc9.2.2.2.2.2.2.2.2.2.2) | (with_reducible exact Nat.ne_of_gt hc9.2.2.2.2.2.2.2.2.2.2) | (with_reducible exact Nat.ne_of_lt hc9.2.2.2.2.2.2.2.2.2.2.2.1) | (with_reducible exact Nat.ne_of_gt hc9.2.2.2.2.2.2.2.2.2.2.2.1) | (with_reducible exact Nat.ne_of_lt hc9.2.2.2.2.2.2.2.2.2.2.2) | (with_reducible exact Nat.ne_of_gt hc9.2.2.2.2.2.2.2.2.2.2.2) | (with_reducible exact Nat.ne_of_lt hc9.2.2.2.2.2.2.2.2.2.2.2.2.1) | (with_reducible exact Nat.ne_of_gt hc9.2.2.2.2.2.2.2.2.2.2.2.2.1) | (with_reducible exact Nat.ne_of_lt hc9.2.2.2.2.2.2.2.2.2.2.2.2) | (with_reducible exact Nat.ne_of_gt hc9.2.2.2.2.2.2.2.2.2.2.2.2) | (with_reducible exact Nat.ne_of_lt hc9.2.2.2.2.2.2.2.2.2.2.2.2.2.1) | (with_reducible exact Nat.ne_of_gt hc9.2.2.2.2.2.2.2.2.2.2.2.2.2.1) | (with_reducible exact Nat.ne_of_lt hc9.2.2.2.2.2.2.2.2.2.2.2.2.2) | (with_reducible exact Nat.ne_of_gt hc9.2.2.2.2.2.2.2.2.2.2.2.2.2) | (clear hc9; k_extra "M nec")) | ((rename (_ ≠ _) ∧ _ => hc9); first | (with_reducible exact hc9.1) | (with_reducible exact Ne.symm hc9.1) | (with_reducible exact hc9) | (with_reducible exact Ne.symm hc9) | (with_reducible exact hc9.2.1) | (with_reducible exact Ne.symm hc9.2.1) | (with_reducible exact hc9.2) | (with_reducible exact Ne.symm hc9.2) | (with_reducible exact hc9.2.2.1) | (with_reducible exact Ne.symm hc9.2.2.1) | (with_reducible exact hc9.2.2) | (with_reducible exact Ne.symm hc9.2.2) | (with_reducible exact hc9.2.2.2.1) | (with_reducible exact Ne.symm hc9.2.2.2.1) | (with_reducible exact hc9.2.2.2) | (with_reducible exact Ne.symm hc9.2.2.2) | (with_reducible exact hc9.2.2.2.2.1) | (with_reducible exact Ne.symm hc9.2.2.2.2.1) | (with_reducible exact hc9.2.2.2.2) | (with_reducible exact Ne.symm hc9.2.2.2.2) | (with_reducible exact hc9.2.2.2.2.2.1) | (with_reducible exact Ne.symm hc9.2.2.2.2.2.1) | (with_reducible exact hc9.2.2.2.2.2) | (with_reducible exact Ne.symm hc9.2.2.2.2.2) | (with_reducible exact hc9.2.2.2.2.2.2.1) | (with_reducible exact Ne.symm hc9.2.2.2.2.2.2.1) | (with_reducible exact hc9.2.2.2.2.2.2) | (with_reducible exact Ne.symm hc9.2.2.2.2.2.2) | (with_reducible exact hc9.2.2.2.2.2.2.2.1) | (with_reducible exact Ne.symm hc9.2.2.2.2.2.2.2.1) | (with_reducible exact hc9.2.2.2.2.2.2.2) | (with_reducible exact Ne.symm hc9.2.2.2.2.2.2.2) | (with_reducible exact hc9.2.2.2.2.2.2.2.2.1) | (with_reducible exact Ne.symm hc9.2.2.2.2.2.2.2.2.1) | (with_reducible exact hc9.2.2.2.2.2.2.2.2) | (with_reducible exact Ne.symm hc9.2.2.2.2.2.2.2.2) | (with_reducible exact hc9.2.2.2.2.2.2.2.2.2.1) | (with_reducible exact Ne.symm hc9.2.2.2.2.2.2.2.2.2.1) | (with_reducible exact hc9.2.2.2.2.2.2.2.2.2) | (with_reducible exact Ne.symm hc9.2.2.2.2.2.2.2.2.2) | (with_reducible exact hc9.2.2.2.2.2.2.2.2.2.2.1) | (with_reducible exact Ne.symm hc9.2.2.2.2.2.2.2.2.2.2.1) | (with_reducible exact hc9.2.2.2.2.2.2.2.2.2.2) | (with_reducible exact Ne.symm hc9.2.2.2.2.2.2.2.2.2.2) | (with_reducible exact hc9.2.2.2.2.2.2.2.2.2.2.2.1) | (with_reducible exact Ne.symm hc9.2.2.2.2.2.2.2.2.2.2.2.1) | (with_reducible exact hc9.2.2.2.2.2.2.2.2.2.2.2) | (with_reducible exact Ne.symm hc9.2.2.2.2.2.2.2.2.2.2.2) | (with_reducible exact hc9.2.2.2.2.2.2.2.2.2.2.2.2.1) | (with_reducible exact Ne.symm hc9.2.2.2.2.2.2.2.2.2.2.2.2.1) | (with_reducible exact hc9.2.2.2.2.2.2.2.2.2.2.2.2) | (with_reducible exact Ne.symm hc9.2.2.2.2.2.2.2.2.2.2.2.2) | (with_reducible exact hc9.2.2.2.2.2.2.2.2.2.2.2.2.2.1) | (with_reducible exact Ne.symm hc9.2.2.2.2.2.2.2.2.2.2.2.2.2.1) | (with_reducible exact hc9.2.2.2.2.2.2.2.2.2.2.2.2.2) | (with_reducible exact Ne.symm hc9.2.2.2.2.2.2.2.2.2.2.2.2.2) | (clear hc9; k_extra "M nec")) | ((rename ((_ ≠ _) ∧ _) ∧ _ => hc9); first | (with_reducible exact hc9.1.1) | (with_reducible exact Ne.symm hc9.1.1) | (with_reducible exact hc9.1.2.1) | (with_reducible exact Ne.symm hc9.1.2.1) | (with_reducible exact hc9.1.2.2) | (with_reducible exact Ne.symm hc9.1.2.2) | (with_reducible exact hc9.1) | (with_reducible exact Ne.symm hc9.1) | (with_reducible exact hc9.2.1) | (with_reducible exact Ne.symm hc9.2.1) | (with_reducible exact hc9.2.2) | (with_reducible exact Ne.symm hc9.2.2) | (with_reducible exact hc9.2.1.1) | (with_reducible exact Ne.symm hc9.2.1.1) | (with_reducible exact hc9.2.1.2.1) | (with_reducible exact Ne.symm hc9.2.1.2.1) | (with_reducible exact hc9.2.1.2.2) | (with_reducible exact Ne.symm hc9.2.1.2.2) | (with_reducible exact hc9.2.2.1) | (with_reducible exact Ne.symm hc9.2.2.1) | (with_reducible exact hc9.2.2.2) | (with_reducible exact Ne.symm hc9.2.2.2) | (with_reducible exact hc9.2.2.1.1) | (with_reducible exact Ne.symm hc9.2.2.1.1) | (with_reducible exact hc9.2.2.1.2.1) | (with_reducible exact Ne.symm hc9.2.2.1.2.1) | (with_reducible exact hc9.2.2.1.2.2) | (with_reducible exact Ne.symm hc9.2.2.1.2.2) | (with_reducible exact hc9.2.2.2.1) | (with_reducible exact Ne.symm hc9.2.2.2.1) | (with_reducible exact hc9.2.2.2.2) | (with_reducible exact Ne.symm hc9.2.2.2.2) | (with_reducible exact hc9.2.2.2.1.1) | (with_reducible exact Ne.symm hc9.2.2.2.1.1) | (with_reducible exact hc9.2.2.2.1.2.1) | (with_reducible exact Ne.symm hc9.2.2.2.1.2.1) | (with_reducible exact hc9.2.2.2.1.2.2) | (with_reducible exact Ne.symm hc9.2.2.2.1.2.2) | (with_reducible exact hc9.2.2.2.2.1) | (with_reducible exact Ne.symm hc9.2.2.2.2.1) | (with_reducible exact hc9.2.2.2.2.2) | (with_reducible exact Ne.symm hc9.2.2.2.2.2) | (with_reducible exact hc9.2.2.2.2.1.1) | (with_reducible exact Ne.symm hc9.2.2.2.2.1.1) | (with_reducible exact hc9.2.2.2.2.1.2.1) | (with_reducible exact Ne.symm hc9.2.2.2.2.1.2.1) | (with_reducible exact hc9.2.2.2.2.1.2.2) | (with_reducible exact Ne.symm hc9.2.2.2.2.1.2.2) | (with_reducible exact hc9.2.2.2.2.2.1) | (with_reducible exact Ne.symm hc9.2.2.2.2.2.1) | (with_reducible exact hc9.2.2.2.2.2.2) | (with_reducible exact Ne.symm hc9.2.2.2.2.2.2) | (with_reducible exact hc9.2.2.2.2.2.1.1) | (with_reducible exact Ne.symm hc9.2.2.2.2.2.1.1) | (with_reducible exact hc9.2.2.2.2.2.1.2.1) | (with_reducible exact Ne.symm hc9.2.2.2.2.2.1.2.1) | (with_reducible exact hc9.2.2.2.2.2.1.2.2) | (with_reducible exact Ne.symm hc9.2.2.2.2.2.1.2.2) | (with_reducible exact hc9.2.2.2.2.2.2.1) | (with_reducible exact Ne.symm hc9.2.2.2.2.2.2.1) | (with_reducible exact hc9.2.2.2.2.2.2.2) | (with_reducible exact Ne.symm hc9.2.2.2.2.2.2.2) | (with_reducible exact hc9.2.2.2.2.2.2.1.1) | (with_reducible exact Ne.symm hc9.2.2.2.2.2.2.1.1) | (with_reducible exact hc9.2.2.2.2.2.2.1.2.1) | (with_reducible exact Ne.symm hc9.2.2.2.2.2.2.1.2.1) | (with_reducible exact hc9.2.2.2.2.2.2.1.2.2) | (with_reducible exact Ne.symm hc9.2.2.2.2.2.2.1.2.2) | (with_reducible exact hc9.2.2.2.2.2.2.2.1) | (with_reducible exact Ne.symm hc9.2.2.2.2.2.2.2.1) | (with_reducible exact hc9.2.2.2.2.2.2.2.2) | (with_reducible exact Ne.symm hc9.2.2.2.2.2.2.2.2) | (with_reducible exact hc9.2.2.2.2.2.2.2.1.1) | (with_reducible exact Ne.symm hc9.2.2.2.2.2.2.2.1.1) | (with_reducible exact hc9.2.2.2.2.2.2.2.1.2.1) | (with_reducible exact Ne.symm hc9.2.2.2.2.2.2.2.1.2.1) | (with_reducible exact hc9.2.2.2.2.2.2.2.1.2.2) | (with_reducible exact Ne.symm hc9.2.2.2.2.2.2.2.1.2.2) | (with_reducible exact hc9.2.2.2.2.2.2.2.2.1) | (with_reducible exact Ne.symm hc9.2.2.2.2.2.2.2.2.1) | (with_reducible exact hc9.2.2.2.2.2.2.2.2.2) | (with_reducible exact Ne.symm hc9.2.2.2.2.2.2.2.2.2) | (with_reducible exact hc9.2.2.2.2.2.2.2.2.1.1) | (with_reducible exact Ne.symm hc9.2.2.2.2.2.2.2.2.1.1) | (with_reducible exact hc9.2.2.2.2.2.2.2.2.1.2.1) | (with_reducible exact Ne.symm hc9.2.2.2.2.2.2.2.2.1.2.1) | (with_reducible exact hc9.2.2.2.2.2.2.2.2.1.2.2) | (with_reducible exact Ne.symm hc9.2.2.2.2.2.2.2.2.1.2.2) | (with_reducible exact hc9.2.2.2.2.2.2.2.2.2.1) | (with_reducible exact Ne.symm hc9.2.2.2.2.2.2.2.2.2.1) | (with_reducible exact hc9.2.2.2.2.2.2.2.2.2.2) | (with_reducible exact Ne.symm hc9.2.2.2.2.2.2.2.2.2.2) | (with_reducible exact hc9.2.2.2.2.2.2.2.2.2.1.1) | (with_reducible exact Ne.symm hc9.2.2.2.2.2.2.2.2.2.1.1) | (with_reducible exact hc9.2.2.2.2.2.2.2.2.2.1.2.1) | (with_reducible exact Ne.symm hc9.2.2.2.2.2.2.2.2.2.1.2.1) | (with_reducible exact hc9.2.2.2.2.2.2.2.2.2.1.2.2) | (with_reducible exact Ne.symm hc9.2.2.2.2.2.2.2.2.2.1.2.2) | (with_reducible exact hc9.2.2.2.2.2.2.2.2.2.2.1) | (with_reducible exact Ne.symm hc9.2.2.2.2.2.2.2.2.2.2.1) | (with_reducible exact hc9.2.2.2.2.2.2.2.2.2.2.2) | (with_reducible exact Ne.symm hc9.2.2.2.2.2.2.2.2.2.2.2) | (with_reducible exact hc9.2.2.2.2.2.2.2.2.2.2.1.1) | (with_reducible exact Ne.symm hc9.2.2.2.2.2.2.2.2.2.2.1.1) | (with_reducible exact hc9.2.2.2.2.2.2.2.2.2.2.1.2.1) | (with_reducible exact Ne.symm hc9.2.2.2.2.2.2.2.2.2.2.1.2.1) | (with_reducible exact hc9.2.2.2.2.2.2.2.2.2.2.1.2.2) | (with_reducible exact Ne.symm hc9.2.2.2.2.2.2.2.2.2.2.1.2.2) | (with_reducible exact hc9.2.2.2.2.2.2.2.2.2.2.2.1) | (with_reducible exact Ne.symm hc9.2.2.2.2.2.2.2.2.2.2.2.1) | (with_reducible exact hc9.2.2.2.2.2.2.2.2.2.2.2.2) | (with_reducible exact Ne.symm hc9.2.2.2.2.2.2.2.2.2.2.2.2) | (clear hc9; k_extra "M nec")))
  k_with "M enter" => ((refine' code_defG ?k1 ?k2 ?k3 ?k4 ?k5 ?kA ?kF ?kK ?k6 ?k7 ?k8 ?k9 ?kB ?_ ?c2 ?c3 ?c4 ?c5; (case kA => exact rfl); (case kF => exact rfl); (case kK => first | assumption | exact rfl); (case k1 => k_asm); (case k2 => k_asm); (case k3 => k_asm); (case k4 => k_asm); (case k5 => k_asm); (case k6 => k_is); (case k7 => k_is); (case k8 => ktr_room); (case k9 => exact BindsTo.of_eq rfl); (case c5 => decide); (case kB => exact locs rfl); (case c2 => exact rfl); (case c3 => exact rfl); (case c4 => exact rfl); k_whole; intro g' L' h' FG' F' N' B' X' T' kG'; (try dsimp only at F' N' kG' ⊢); (try k_fold)))
  k_with "M enterC" => ((refine' enterCells ?k1 ?k2 ?k3 ?k4 ?k5 ?kA ?kF ?kK ?k6 ?k7 ?k8 ?k9 ?kB ?kD ?_ ?c2 ?c3 ?c4; (case kA => exact rfl); (case kF => exact rfl); (case kK => first | assumption | exact rfl); (case k1 => k_asm); (case k2 => k_asm); (case k3 => k_asm); (case k4 => k_asm); (case k5 => k_asm); (case k6 => k_is); (case k7 => k_is); (case k8 => ktr_room); (case k9 => exact BindsTo.of_eq rfl); (case kB => exact rfl); (case kD => decide +kernel); (case c2 => exact rfl); (case c3 => exact rfl); (case c4 => exact rfl); k_whole; intro g' L' h' tk' cells' FG' F' N' Y' B' X' T' kG' l1 l2; (try k_lt l1); k_cells Y'; (try simp only [List.cons_append, List.nil_append] at N'); (try dsimp only at F' N' kG' ⊢); (try k_fold)))
  k_with "M sub" => ((first | exact List.forall_mem_nil _ | (refine List.forall_mem_cons.mpr ⟨?kms1, ?kms2⟩; (case kms1 => (intro hW; first | k_mem | (refine (hW ?_).elim; k_mem))); (case kms2 => k_extra "M sub"))))
  k_with "subscriptTail Name Constant ref int" => ((k_here; (with_reducible show wpAny _ _ (subscriptTail _ _ (Value.ref _) (Value.int _ _)) _ _ _); kim_at))
  k_with "call builtin:divmod" => ((k_here; (with_reducible show wpAny _ _ (call (Value.builtin _) [Value.int _ _, Value.int _ _]) _ _ _); k_dflt (refine' divmod_K ?k1 ?k2 ?k3 ?k4 ?_; (case k1 => k_asm); (case k2 => k_asm); (case k3 => omega); (case k4 => exact PyProof.noPylong_small (by omega)); k_whole); intro D' h' t1 t2 F' N' l1; (try k_lt l1); (try k_sweep)))
  k_with "call ref" => ((k_here; (with_reducible show wpAny _ _ (call (Value.ref 107) _ _) _ _ _); k_dflt (refine' draw_use ?k1 ?k2 ?k3 ?k4 ?k5 ?k6 ?k7 ?k8 ?b1 ?b2 ?b3 ?b4 ?b5 ?_; (case k1 => k_asm); (case k2 => k_asm); (case k3 => k_asm); (case k4 => k_asm); (case k5 => first | exact rfl | assumption); (case k6 => ktr_room); (case k7 => k_asm); (case k8 => k_updF); (case b1 => omega); (case b2 => omega); (case b3 => omega); (case b4 => omega); (case b5 => omega)); intro h' tk' n' c' t' u' k' d' td' K' F' N' b1 b2 b3 b4 b5; (try dsimp only at N'); (try k_sweep); (try k_fold)))
  k_with "call builtin:len" => ((k_here; (with_reducible show wpAny _ _ (call (Value.builtin "len") [Value.ref _]) _ _ _); k_dflt (first | (refine' len_tupA ?k1 ?k2 ?k3 ?_; (case k1 => k_asm); (case k2 => k_mem); (case k3 => omega)) | (refine' len_lstA ?k1 ?k2 ?k3 ?_; (case k1 => k_asm); (case k2 => k_mem); (case k3 => omega))); intro t' tk'; (try simp only [List.length_cons, List.length_nil])))
  k_with "subscriptTail Name Call ref int" => ((k_here; (with_reducible show wpAny _ _ (subscriptTail _ _ (Value.ref _) (Value.int _ _)) _ _ _); k_dflt (refine' tup_item_any ?k1 ?k2 ?k3 ?k4 ?k5 ?_ ?k6 ?k7; (case k1 => k_asm); (case k2 => k_mem); (case k3 => omega); (case k4 => omega); (case k5 => omega); (case k6 => with_unfolding_all rfl); (case k7 => (intro _; with_unfolding_all rfl))); intro x' hx' hxm'; (try k_fold)))
  k_with "call ref" => ((k_here; (with_reducible show wpAny _ _ (call (Value.ref 114) _ _) _ _ _); k_dflt (refine' pick_use ?k1 ?k2 ?k3 ?k4 ?k5 ?k6 ?k7 ?k8 ?k9 ?kA ?b1 ?b2 ?b3 ?b4 ?b5 ?_; (case k1 => k_asm); (case k2 => k_asm); (case k3 => k_asm); (case k4 => k_asm); (case k5 => first | exact rfl | assumption); (case k6 => ktr_room); (case k7 => k_asm); (case k8 => k_updF); (case k9 => k_mem); (case kA => (refine neN ?_; omega)); (case b1 => omega); (case b2 => omega); (case b3 => omega); (case b4 => (simp only [List.length_cons, List.length_nil]; omega)); (case b5 => (simp only [List.length_cons, List.length_nil]; omega))); intro h' tk' n' c' t' u' k' x' K' F' N' b1 b2 b3 b4; (try dsimp only at N'); (try k_sweep); (try k_fold)))
  k_with "binaryOp Mult ref int" => ((k_here; (with_reducible show wpAny _ _ (binaryOp Operator.Mult (Value.ref _) (Value.int _ _)) _ _ _); k_dflt (refine' tup_mul ?k1 ?k2 ?k3 ?k4 ?k5 ?_ ?_ ?_; (case k1 => k_asm); (case k2 => k_asm); (case k3 => k_mem); (case k4 => omega); (case k5 => omega)); (all_goals (intro hx9; (try (exfalso; omega; done)))); (all_goals (try (intro D' h' F' N' l1; (try k_lt l1); (try k_sweep)))); (all_goals (try k_unmd)); (all_goals (try k_fold))))
  k_with "subscriptTail Name Slice ref ref" => ((k_here; (with_reducible show wpAny _ _ (subscriptTail _ _ (Value.ref _) (Value.ref _)) _ _ _); k_dflt (refine' cut_tail ?k1 ?k2 ?k3 ?k4 ?_ ?_ ?k5 ?k6; (case k1 => k_asm); (case k2 => k_asm); (case k3 => k_mem); (case k4 => omega); (case k5 => with_unfolding_all rfl); (case k6 => (intro _; with_unfolding_all rfl))); (all_goals intro hx9); (all_goals (first | (intro D' h' F' N' l1; (try k_lt l1); (try k_sweep)) | (intro h' F' N'; (try k_sweep)))); (all_goals (try k_unmd)); (all_goals (try k_fold))))
  k_with "CompSrc" => ((k_here; k_dflt (refine LCg.CompSrc.range (by rfl) (by k_asm) (by k_asm) (by assumption) (by first | decide | rfl) (by first | rfl | decide) (by first | size_fits | exact Nat.le_of_ble_eq_true rfl) ?_; intro gc'; lcg_lit)))
  k_with "execs nil" => ((k_here; (with_reducible refine wpAny_execs_nil ?_)))
  k_with "eval ListComp" => ((k_here; lct_look; k_dflt (refine LCt.ListComp_T (F₀ := by k_asm) (by with_unfolding_all rfl) (by decide) (by rfl) (by decide) (by rfl) ?_)))
  k_with "M ints" => (first | exact IntsAre.nil | exact IntsAre.cons _ _ .nil | exact IntsAre.cons _ _ (.cons _ _ .nil) | exact IntsAre.cons _ _ (.cons _ _ (.cons _ _ .nil)) | assumption)
  k_with "call ref" => ((k_here; (with_reducible show wpAny _ _ (call (Value.ref 22) _ _) _ _ _); refine wpAny_call ?_; k_dflt (k_extra "M enter")))
  k_with "M test" => ((unfold TestEnd; refine ⟨?t1, _, _, rfl, ?t2, ?t3⟩; (case t1 => first | exact rfl | exact inR_lt (by omega) | exact inR_neg (by omega)); (case t2 => k_asm); (case t3 => k_asm)))
  k_with "compareOp Eq ref ref" => ((k_here; k_dflt (refine' eq_tup_nil ?k1 ?k2 ?k3 ?k4 ?_; (case k1 => k_asm); (case k2 => k_mem); (case k3 => k_mem); (case k4 => first | units_room | exact Nat.le_of_ble_eq_true rfl)); (try simp only [List.size_toArray, List.length_cons, List.length_nil])))
  k_with "call ref" => ((k_here; (with_reducible show wpAny _ _ (call (Value.ref 93) _ _) _ _ _); (try simp only [List.nil_append]); refine wpAny_call ?_; k_dflt (k_extra "M enter")))
  k_with "call ref" => ((k_here; (with_reducible show wpAny _ _ (call (Value.ref 126) _ _) _ _ _); refine wpAny_call ?_; k_dflt (k_extra "M enter")))
  k_with "compareOp NotIn int ref" => ((k_here; (with_reducible show wpAny _ _ (compareOp CmpOp.NotIn (Value.int _ _) (Value.ref _)) _ _ _); k_dflt (refine notin_range (by assumption) ?_)))
  k_with "eval ListComp" => ((k_here; lct_look; k_dflt (first | refine ListComp_Tup (iter := Expr.Subscript _ _ _) (_F := by k_asm) (by with_unfolding_all rfl) (by decide) (by rfl) (by decide) (by rfl) ?_ | refine LCt.ListComp_T (F₀ := by k_asm) (by with_unfolding_all rfl) (by decide) (by rfl) (by decide) (by rfl) ?_)))
  k_with "CompSrcU" => ((k_here; refine sealUOf ?_))
  k_with "subscriptTail Name Slice ref ref" => ((k_here; (with_reducible show wpAny _ _ (subscriptTail _ _ (Value.ref _) (Value.ref _)) _ _ _); k_dflt (refine' tail_from ?k1 ?k2 ?k3 ?k4 ?_ ?k5 ?k6; (case k1 => k_asm); (case k2 => k_asm); (case k3 => k_mem); (case k4 => (simp only [List.length_cons, List.length_nil]; omega)); (case k5 => with_unfolding_all rfl); (case k6 => (intro _; with_unfolding_all rfl))); intro D' h' F' N' l1; (try k_lt l1); (try k_sweep)))
  k_with "M strs6" => (first | exact List.forall_mem_nil _ | (refine List.forall_mem_cons.mpr ⟨⟨_, _, rfl⟩, ?_⟩; k_extra "M strs6"))
  k_with "compareOp NotIn int ref" => ((k_here; (with_reducible show wpAny _ _ (compareOp CmpOp.NotIn (Value.int _ _) (Value.ref _)) _ _ _); k_dflt (first | refine notin_range (by assumption) ?_ | (refine' notin_strs ?k1 ?k2 ?k3 ?_; (case k1 => k_asm); (case k2 => k_mem); (case k3 => k_extra "M strs6")))))
  k_with "call ref" => ((k_here; (with_reducible show wpAny _ _ (call (Value.ref 93) _) _ _ _); k_dflt (refine' parts_use ?k1 ?k2 ?k3 ?k4 ?k5 ?k6 ?k7 ?_; (case k1 => k_asm); (case k2 => k_asm); (case k3 => k_asm); (case k4 => k_asm); (case k5 => first | exact rfl | assumption); (case k6 => ktr_room); (case k7 => k_asm)); (iterate 4 intro _); (iterate 26 intro _); intro KP F' N' lo' hd' hf'; (try k_sweep); (try k_fold)))
  k_with "M memt" => (first | (with_reducible assumption) | ((with_reducible refine List.mem_cons_of_mem _ ?_); k_extra "M memt"))
  k_with "M subv" => (first | exact List.forall_mem_nil _ | ((with_reducible refine List.forall_mem_cons.mpr ⟨?kms1, ?kms2⟩); (case kms1 => k_mem); (case kms2 => k_extra "M subv")) | (intro p8 hp8; k_extra "M memt"))
  k_with "M sub" => ((first | exact List.forall_mem_nil _ | (refine List.forall_mem_cons.mpr ⟨?kms1, ?kms2⟩; (case kms1 => (intro hW; first | k_mem | (refine (hW ?_).elim; k_mem))); (case kms2 => k_extra "M sub")) | (intro p8 hp8 hW8; k_extra "M memt")))
  k_with "M size" => (first | exact size_few (by first | omega | (simp only [List.length_append, List.length_cons, List.length_nil]; omega)) | size_fits)
  k_with "call builtin:list.append" => ((k_here; (with_reducible show wpAny _ _ (call (Value.builtin _) [Value.ref _, _]) _ _ _); k_dflt (refine' append_K ?k1 ?k2 ?k3 ?_ ?z; (case k1 => k_asm); (case k2 => k_asm); (case k3 => k_upd); (case z => k_extra "M size")); intro h' F' N'; (try k_sweep)))
  exact True.intro

/-! _law_wrong, one walk for every op but () -/
theorem cut_z2 {n : Str} {vs : List Value} {k : Bool} (h : (vs.length + 1 == 0) = true) : k = farV n vs := by simp at h
theorem cut_gne {n : Str} {vs : List Value} {i : Int} (ha : argc n = some i ∨ argc n = none ∧ i = -1) (h : i ≠ ((vs.length + 1 : Nat) : Int) - 1) : true = farV n vs := by
  unfold farV
  rcases ha with ha | ha
  · rw [ha, decide_eq_false (fun e => h (by rw [Option.some.inj e]; omega))]; rfl
  · rw [ha.1]; rfl
theorem cut_geq {n : Str} {vs : List Value} {i : Int} (ha : argc n = some i ∨ argc n = none ∧ i = -1) (h : i = ((vs.length + 1 : Nat) : Int) - 1) : false = farV n vs := by
  unfold farV
  rcases ha with ha | ha
  · rw [ha, decide_eq_true (congrArg some (by omega))]; rfl
  · have := ha.2
    omega
section







































theorem kreg25 : True := by
  w_top off
  k_with "M fv" => (first
  | exact fv1 (by with_reducible assumption)
  | exact fv2 (by with_reducible assumption) (by with_reducible assumption)
  | exact fv3 (by with_reducible assumption) (by with_reducible assumption) (by with_reducible assumption)
  | exact fv4 (by with_reducible assumption) (by with_reducible assumption) (by with_reducible assumption) (by with_reducible assumption)
  | exact fv5 (by with_reducible assumption) (by with_reducible assumption) (by with_reducible assumption) (by with_reducible assumption) (by with_reducible assumption)
  | exact fv5 (by with_reducible assumption) (by with_reducible assumption) (by with_reducible assumption) (by with_reducible assumption) (cut_es_f (by with_reducible assumption) (by with_reducible assumption) (by with_reducible assumption)).symm
  | exact fv5 (by with_reducible assumption) (by with_reducible assumption) (by with_reducible assumption) (by with_reducible assumption) (cut_ei (by with_reducible assumption) (by with_reducible assumption)).symm
  | exact fv6 (by with_reducible assumption) (by with_reducible assumption) (by with_reducible assumption) (by with_reducible assumption) (cut_es_t (by with_reducible assumption) (by with_reducible assumption) (by with_reducible assumption)).symm
  | exact fv6 (by with_reducible assumption) (by with_reducible assumption) (by with_reducible assumption) (by with_reducible assumption) (cut_e0 (by with_reducible assumption)).symm)
  k_with "M ffend" => ((
    rename News h₀ L _ _ => kN
    refine hret _ _ _ _ (keep_led kG0 (by assumption) N kN (by k_extra "M sub")) ?_
    k_extra "M fv"))
  k_with "M cutw" => (((case kF => k_asm); (case kN => k_asm); (case w => (k_steps; all_goals k_extra "M cutend")); (all_goals (intro hb9 h' tk' F' N'; (try k_sweep)))))
  k_with "exec If" => ((k_here; (with_reducible show wpAny _ _ (exec (Stmt.If _ [Stmt.Return (some (Expr.Constant (Const.str (Str.ofString "no op")) _ _)) _] _ _) _) _ _ _); refine wpAny_If ?_; (try dsimp only); k_dflt (refine' testCut (b := farV n vs) ?kF ?kN ?w ?_ ?_; k_extra "M cutw"); (all_goals (try ((have hs := hs0 (by with_reducible assumption)); (have hsl := hs.len))))))
  k_with "exec If" => ((k_here; (with_reducible show wpAny _ _ (exec (Stmt.If _ [Stmt.Return (some (Expr.Constant (Const.str (Str.ofString "a label beyond the code")) _ _)) _] _ _) _) _ _ _); refine wpAny_If ?_; (try dsimp only); k_dflt (refine' testCut (b := !(l.all (inR many))) ?kF ?kN ?w ?_ ?_; k_extra "M cutw")))
  k_with "exec If" => ((k_here; (with_reducible show wpAny _ _ (exec (Stmt.If _ [Stmt.Return (some (Expr.Constant (Const.str (Str.ofString "no sign of reckoning")) _ _)) _] _ _) _) _ _ _); refine wpAny_If ?_; (try dsimp only); k_dflt (refine' testCut (b := calV n vs) ?kF ?kN ?w ?_ ?_; k_extra "M cutw")))
  k_with "exec If" => ((k_here; (with_reducible show wpAny _ _ (exec (Stmt.If _ [Stmt.Return (some (Expr.Constant (Const.str (Str.ofString "no such paragraph")) _ _)) _] _ _) _) _ _ _); refine wpAny_If ?_; (try dsimp only); k_dflt (refine' testCut (b := parV begun n vs) ?kF ?kN ?w ?_ ?_; k_extra "M cutw")))
  k_with "M cutend" => (((rename News _ _ _ _ => kN); (refine Cut.mk ?_ ⟨_, _, rfl, by assumption, News.sub9 kN ?_⟩); (focus k_extra "M cutb"); (intro p8 hp8); k_extra "M memt"))
  k_with "M cutb" => (first
  | exact cut_ne h9 (by with_reducible assumption)
  | exact cut_eq h9 (by with_reducible assumption)
  | exact cut_z2 (by with_reducible assumption)
  | exact cut_gne h9 (by with_reducible assumption)
  | exact cut_geq h9 (by with_reducible assumption)
  | exact cut_zero (by with_reducible assumption)
  | (rename (_ || _) = false => a9; exact cut_tab fun ha => tab_no' ha a9)
  | exact cut_cs_t (by with_reducible assumption) (by with_reducible assumption) (by with_reducible assumption)
  | exact cut_cs_f (by with_reducible assumption) (by with_reducible assumption) (by with_reducible assumption)
  | exact cut_ci (by with_reducible assumption) (by with_reducible assumption)
  | exact cut_c0 (by with_reducible assumption)
  | exact cut_es_t (by with_reducible assumption) (by with_reducible assumption) (by with_reducible assumption)
  | exact cut_es_f (by with_reducible assumption) (by with_reducible assumption) (by with_reducible assumption)
  | exact cut_ei (by with_reducible assumption) (by with_reducible assumption)
  | exact cut_e0 (by with_reducible assumption)
  | exact cut_p0 (by with_reducible assumption)
  | exact cut_p1_t (by with_reducible assumption) (by with_reducible assumption) (by with_reducible assumption)
  | exact cut_p1_f (by with_reducible assumption) (by with_reducible assumption) (by with_reducible assumption)
  | exact cut_l_t (by with_reducible assumption)
  | exact cut_l rfl
  | exact cut_l_f (by with_reducible assumption))
  k_with "CompSrcT" => ((k_here; refine sealOf ?_))
  k_with "Sealed" => ((refine toSeal ?_; k_dflt (refine' filtSrc (x := Str.ofString "label") (fun k => !inR many k) ?k1 ?k2 ?k3 ?k4 ?k5 ?hI9 ?helt9 ?test9 ?_); (case k1 => exact rfl); (case k2 => k_asm); (case k3 => k_asm); (case k4 => k_mem); (case k5 => exact size_few (by omega)); (case hI9 => exact hI9); (case helt9 => (intro k9 t9 I9 oI9 C9 oC9 D9 ys9 m9 s9 Q9 E9 hC9 hx9 N9 q9; exact LCgL.ld_own N9 (List.mem_cons_of_mem _ List.mem_cons_self) hC9 hx9 q9)); (case test9 => (intro k9 t9 I9 oI9 C9 oC9 D9 ys9 m9 h9 tk9 E9 hk9 hC9 hx9 F9 N9; k_steps; all_goals k_extra "M test")); intro g9 ys9 hys9))
  k_with "SealedU" => ((refine toSealU ?_; k_dflt (refine' filtSrcU (x := Str.ofString "spot") (fun k => !inR begun k) ?k1 ?k2 ?k3 ?k4 ?k5 ?hI9 ?helt9 ?test9 ?_); (case k1 => exact rfl); (case k2 => k_asm); (case k3 => k_asm); (case k4 => k_mem); (case k5 => exact size_few (by omega)); (case hI9 => exact hI9); (case helt9 => (intro k9 t9 I9 oI9 C9 oC9 D9 ys9 m9 s9 Q9 E9 hC9 hx9 N9 q9; exact LCgL.ld_own N9 (List.mem_cons_of_mem _ List.mem_cons_self) hC9 hx9 q9)); (case test9 => (intro k9 t9 I9 oI9 C9 oC9 D9 ys9 m9 h9 tk9 E9 hk9 hC9 hx9 F9 N9; k_steps; all_goals k_extra "M test")); intro g9 ys9 hys9))
  k_with "call ref" => ((k_here; (with_reducible show wpAny _ _ (call (Value.ref 126) _ _) _ _ _); k_dflt (refine' lb_all ?k1 ?k2 ?k3 ?k4 ?k5 ?k6 ?k7 hs ?_; (case k1 => k_asm); (case k2 => k_asm); (case k3 => k_asm); (case k4 => k_asm); (case k5 => first | exact rfl | assumption); (case k6 => ktr_room); (case k7 => exact News.sub9 (by assumption) (by k_extra "M subv"))); intro h' tk' D9 us9 k9 K' nD9 hI9; (have hl9 := PyProof.Rows.IntsAre.length hI9); (have F' := keep_nil_fr (by assumption) K'); (have N8 := keep_nil_news (by assumption) K'); (have N' := News.put N8 nD9); clear N8; (try k_sweep); (try k_fold)))
  k_with "compareOp Eq str str" => ((k_here; k_dflt (refine' eq_split ?_ ?_ <;> intro h9)))
  k_with "compareOp In str ref" => ((k_here; k_dflt (refine' in_split2 ?k1 ?k2 ?_ ?_; (case k1 => k_asm); (case k2 => k_mem); (all_goals intro h9))))
  k_with "subscriptTail Name Constant ref int" => ((k_here; (with_reducible show wpAny _ _ (subscriptTail _ _ (Value.ref _) (Value.int 0 _)) _ _ _); k_dflt (refine' tup_head0 ?k1 ?k2 ?_; (case k1 => k_asm); (case k2 => k_mem))))
  k_with "subscriptTail Name Constant ref int" => ((k_here; (with_reducible show wpAny _ _ (subscriptTail _ _ (Value.ref _) (Value.int 1 _)) _ _ _); k_dflt (refine' tup_at1E ?k1 ?k2 ?k3 ?_; (case k1 => k_asm); (case k2 => k_mem); (case k3 => first | exact hs.ca (by with_reducible assumption) | exact hs.st (by with_reducible assumption)); intro v9 r9 e9 hv9; rcases hv9 with ⟨q9, t9, hv9⟩ | ⟨i9, t9, hv9⟩ <;> subst hv9)))
  k_with "call builtin:len" => ((k_here; (with_reducible show wpAny _ _ (call (Value.builtin "len") [Value.ref _]) _ _ _); k_dflt (refine' len_tupA ?k1 ?k2 ?k3 ?_; (case k1 => k_asm); (case k2 => k_mem); (case k3 => (try rw [List.length_cons]); omega)); intro t' tk'; (try simp only [List.length_cons])))
  k_with "subscriptTail Name Slice ref ref" => ((k_here; (with_reducible show wpAny _ _ (subscriptTail _ _ (Value.ref _) (Value.ref _)) _ _ _); (refine Exists.elim (hs.pa (by with_reducible assumption)) ?_); intro ls9 hp9; (have hI9 := hp9.1); (have hl9 := PyProof.Rows.IntsAre.length hI9); (have hl8 := hp9.2); k_dflt (refine' tail_from ?k1 ?k2 ?k3 ?k4 ?_ ?k5 ?k6; (case k1 => k_asm); (case k2 => k_asm); (case k3 => k_mem); (case k4 => omega); (case k5 => with_unfolding_all rfl); (case k6 => (intro _; with_unfolding_all rfl))); intro D' h' F' N' l1; (try k_lt l1); (try k_sweep)))
  k_with "call builtin:dict.get" => ((k_here; k_dflt (refine' call_get2_strTab ?k1 ?k2 ?_; (case k1 => k_tabat); (case k2 => k_flat)); intro v9 hv'; rcases parts_get hv' with ⟨i9, t9, e9, h9⟩; clear hv'; subst e9; (try dsimp only)))
  exact True.intro

theorem lw_all {w : World} {mean : ExcName → Option Value} {mg mb : Str → Option Value} {dp un : Nat} {gd : Option (List Code)} {cn : Str} {cs : Scope} {a : Addr} {ccd : Value} {cl : List (Str × Addr)} {outer : List Env} {A₀ : Around} {base h₀ : Heap} {L : Addr} {m : Str → Option Value} {s : Shared} {Q E : Value → Shared → Prop}
  {x : Addr} {vs : List Value} {many begun : Int} {t u t1 : Tok} {n : Str} {l : List Int} {R : List (Addr × Obj)}
  (B : Below A₀ base outer h₀) (F : Fr h₀ L s.heap m) (X : (Mine.hd.heap_1 w.params).In h₀) (T : Top Mine.hd.view_1 lo mean mg mb h₀) (hk : cs.kind = .function) (hd : dp + 2 < recursionLimit) (hu : un + 400 < cLine)
  (N : News h₀ L s.heap ((x, tupOf (.str n t1 :: vs)) :: R))
  (hs0 : farV n vs = false → OpSh (fun a o => (a, o) ∈ R) n vs l) (hv : vs.length ≤ 3)
  (hm : 0 ≤ many) (hm2 : many < 100) (hb : 0 ≤ begun) (hb2 : begun < 100)
  (hret : ∀ h' tk t z, KeepBut [] s.heap h' → z = faultV many begun n vs l → Q (.str z t) { s with heap := h', toks := tk }) :
  wpAny (model PySem.Challenge.rw_pq0627_01.row.prog w) (ktrTop dp un gd cn cs L a ccd cl outer) (call (.ref 131) [.ref x, .int many t, .int begun u]) Q E s := by
  revert X; k_fill; intro X
  refine wpAny_call ?_
  k_dflt (k_extra "M enterC")
  have kG0 := kG'
  k_steps
  all_goals k_extra "M ffend"
end
theorem kreg26 : True := by
  w_top off
  k_with_none
  k_with "M ne" => (first | (with_reducible assumption) | (with_reducible exact Ne.symm (by assumption)) | (with_reducible exact Nat.ne_of_lt (by assumption)) | (with_reducible exact Nat.ne_of_gt (by assumption)) | (k_extra "M nec"))
  k_with "M nec" => (first | ((rename (_ < _) ∧ _ => hc9); first | (with_reducible exact Nat.ne_of_lt hc9.1) | (with_reducible exact Nat.ne_of_gt hc9.1) | (with_reducible exact Nat.ne_of_lt hc9) | (with_reducible exact Nat.ne_of_gt hc9) | (with_reducible exact Nat.ne_of_lt hc9.2.1) | (with_reducible exact Nat.ne_of_gt hc9.2.1) | (with_reducible exact Nat.ne_of_lt hc9.2) | (with_reducible exact Nat.ne_of_gt hc9.2) | (with_reducible exact Nat.ne_of_lt hc9.2.2.1) | (with_reducible exact Nat.ne_of_gt hc9.2.2.1) | (with_reducible exact Nat.ne_of_lt hc9.2.2) | (with_reducible exact Nat.ne_of_gt hc9.2.2) | (with_reducible exact Nat.ne_of_lt hc9.2.2.2.1) | (with_reducible exact Nat.ne_of_gt hc9.2.2.2.1) | (with_reducible exact Nat.ne_of_lt hc9.2.2.2) | (with_reducible exact Nat.ne_of_gt hc9.2.2.2) | (with_reducible exact Nat.ne_of_lt hc9.2.2.2.2.1) | (with_reducible exact Nat.ne_of_gt hc9.2.2.2.2.1) | (with_reducible exact Nat.ne_of_lt hc9.2.2.2.2) | (with_reducible exact Nat.ne_of_gt hc9.2.2.2.2) | (with_reducible exact Nat.ne_of_lt hc9.2.2.2.2.2.1) | (with_reducible exact Nat.ne_of_gt hc9.2.2.2.2.2.1) | (with_reducible exact Nat.ne_of_lt hc9.2.2.2.2.2) | (with_reducible exact Nat.ne_of_gt hc9.2.2.2.2.2) | (with_reducible exact Nat.ne_of_lt hc9.2.2.2.2.2.2.1) | (with_reducible exact Nat.ne_of_gt hc9.2.2.2.2.2.2.1) | (with_reducible exact Nat.ne_of_lt hc9.2.2.2.2.2.2) | (with_reducible exact Nat.ne_of_gt hc9.2.2.2.2.2.2) | (with_reducible exact Nat.ne_of_lt hc9.2.2.2.2.2.2.2.1) | (with_reducible exact Nat.ne_of_gt hc9.2.2.2.2.2.2.2.1) | (with_reducible exact Nat.ne_of_lt hc9.2.2.2.2.2.2.2) | (with_reducible exact Nat.ne_of_gt hc9.2.2.2.2.2.2.2) | (with_reducible exact Nat.ne_of_lt hc9.2.2.2.2.2.2.2.2.1) | (with_reducible exact Nat.ne_of_gt hc9.2.2.2.2.2.2.2.2.1) | (with_reducible exact Nat.ne_of_lt hc9.2.2.2.2.2.2.2.2) | (with_reducible exact Nat.ne_of_gt hc9.2.2.2.2.2.2.2.2) | (with_reducible exact Nat.ne_of_lt hc9.2.2.2.2.2.2.2.2.2.1) | (with_reducible exact Nat.ne_of_gt hc9.2.2.2.2.2.2.2.2.2.1) | (with_reducible exact Nat.ne_of_lt hc9.2.2.2.2.2.2.2.2.2) | (with_reducible exact Nat.ne_of_gt hc9.2.2.2.2.2.2.2.2.2) | (with_reducible exact Nat.ne_of_lt hc9.2.2.2.2.2.2.2.2.2.2.1) | (with_reducible exact Nat.ne_of_gt hc9.2.2.2.2.2.2.2.2.2.2.1) | (with_reducible exact Nat.ne_of_lt hc9.2.2.2.2.2.2.2.2.2.2) | (with_reducible exact Nat.ne_of_gt hc9.2.2.2.2.2.2.2.2.2.2) | (with_reducible exact Nat.ne_of_lt hc9.2.2.2.2.2.2.2.2.2.2.2.1) | (with_reducible exact Nat.ne_of_gt hc9.2.2.2.2.2.2.2.2.2.2.2.1) | (with_reducible exact Nat.ne_of_lt hc9.2.2.2.2.2.2.2.2.2.2.2) | (with_reducible exact Nat.ne_of_gt hc9.2.2.2.2.2.2.2.2.2.2.2) | (with_reducible exact Nat.ne_of_lt hc9.2.2.2.2.2.2.2.2.2.2.2.2.1) | (with_reducible exact Nat.ne_of_gt hc9.2.2.2.2.2.2.2.2.2.2.2.2.1) | (with_reducible exact Nat.ne_of_lt hc9.2.2.2.2.2.2.2.2.2.2.2.2) | (with_reducible exact Nat.ne_of_gt hc9.2.2.2.2.2.2.2.2.2.2.2.2) | (with_reducible exact Nat.ne_of_lt hc9.2.2.2.2.2.2.2.2.2.2.2.2.2.1) | (with_reducible exact Nat.ne_of_gt hc9.2.2.2.2.2.2.2.2.2.2.2.2.2.1) | (with_reducible exact Nat.ne_of_lt hc9.2.2.2.2.2.2.2.2.2.2.2.2.2) | (with_reducible exact Nat.ne_of_gt hc9.2.2.2.2.2.2.2.2.2.2.2.2.2) | (clear hc9; k_extra "M nec")) | ((rename (_ ≠ _) ∧ _ => hc9); first | (with_reducible exact hc9.1) | (with_reducible exact Ne.symm hc9.1) | (with_reducible exact hc9) | (with_reducible exact Ne.symm hc9) | (with_reducible exact hc9.2.1) | (with_reducible exact Ne.symm hc9.2.1) | (with_reducible exact hc9.2) | (with_reducible exact Ne.symm hc9.2) | (with_reducible exact hc9.2.2.1) | (with_reducible exact Ne.symm hc9.2.2.1) | (with_reducible exact hc9.2.2) | (with_reducible exact Ne.symm hc9.2.2) | (with_reducible exact hc9.2.2.2.1) | (with_reducible exact Ne.symm hc9.2.2.2.1) | (with_reducible exact hc9.2.2.2) | (with_reducible exact Ne.symm hc9.2.2.2) | (with_reducible exact hc9.2.2.2.2.1) | (with_reducible exact Ne.symm hc9.2.2.2.2.1) | (with_reducible exact hc9.2.2.2.2) | (with_reducible exact Ne.symm hc9.2.2.2.2) | (with_reducible exact hc9.2.2.2.2.2.1) | (with_reducible exact Ne.symm hc9.2.2.2.2.2.1) | (with_reducible exact hc9.2.2.2.2.2) | (with_reducible exact Ne.symm hc9.2.2.2.2.2) | (with_reducible exact hc9.2.2.2.2.2.2.1) | (with_reducible exact Ne.symm hc9.2.2.2.2.2.2.1) | (with_reducible exact hc9.2.2.2.2.2.2) | (with_reducible exact Ne.symm hc9.2.2.2.2.2.2) | (with_reducible exact hc9.2.2.2.2.2.2.2.1) | (with_reducible exact Ne.symm hc9.2.2.2.2.2.2.2.1) | (with_reducible exact hc9.2.2.2.2.2.2.2) | (with_reducible exact Ne.symm hc9.2.2.2.2.2.2.2) | (with_reducible exact hc9.2.2.2.2.2.2.2.2.1) | (with_reducible exact Ne.symm hc9.2.2.2.2.2.2.2.2.1) | (with_reducible exact hc9.2.2.2.2.2.2.2.2) | (with_reducible exact Ne.symm hc9.2.2.2.2.2.2.2.2) | (with_reducible exact hc9.2.2.2.2.2.2.2.2.2.1) | (with_reducible exact Ne.symm hc9.2.2.2.2.2.2.2.2.2.1) | (with_reducible exact hc9.2.2.2.2.2.2.2.2.2) | (with_reducible exact Ne.symm hc9.2.2.2.2.2.2.2.2.2) | (with_reducible exact hc9.2.2.2.2.2.2.2.2.2.2.1) | (with_reducible exact Ne.symm hc9.2.2.2.2.2.2.2.2.2.2.1) | (with_reducible exact hc9.2.2.2.2.2.2.2.2.2.2) | (with_reducible exact Ne.symm hc9.2.2.2.2.2.2.2.2.2.2) | (with_reducible exact hc9.2.2.2.2.2.2.2.2.2.2.2.1) | (with_reducible exact Ne.symm hc9.2.2.2.2.2.2.2.2.2.2.2.1) | (with_reducible exact hc9.2.2.2.2.2.2.2.2.2.2.2) | (with_reducible exact Ne.symm hc9.2.2.2.2.2.2.2.2.2.2.2) | (with_reducible exact hc9.2.2.2.2.2.2.2.2.2.2.2.2.1) | (with_reducible exact Ne.symm hc9.2.2.2.2.2.2.2.2.2.2.2.2.1) | (with_reducible exact hc9.2.2.2.2.2.2.2.2.2.2.2.2) | (with_reducible exact Ne.symm hc9.2.2.2.2.2.2.2.2.2.2.2.2) | (with_reducible exact hc9.2.2.2.2.2.2.2.2.2.2.2.2.2.1) | (with_reducible exact Ne.symm hc9.2.2.2.2.2.2.2.2.2.2.2.2.2.1) | (with_reducible exact hc9.2.2.2.2.2.2.2.2.2.2.2.2.2) | (with_reducible exact Ne.symm hc9.2.2.2.2.2.2.2.2.2.2.2.2.2) | (clear hc9; k_extra "M nec")) | ((rename ((_ ≠ _) ∧ _) ∧ _ => hc9); first | (with_reducible exact hc9.1.1) | (with_reducible exact Ne.symm hc9.1.1) | (with_reducible exact hc9.1.2.1) | (with_reducible exact Ne.symm hc9.1.2.1) | (with_reducible exact hc9.1.2.2) | (with_reducible exact Ne.symm hc9.1.2.2) | (with_reducible exact hc9.1) | (with_reducible exact Ne.symm hc9.1) | (with_reducible exact hc9.2.1) | (with_reducible exact Ne.symm hc9.2.1) | (with_reducible exact hc9.2.2) | (with_reducible exact Ne.symm hc9.2.2) | (with_reducible exact hc9.2.1.1) | (with_reducible exact Ne.symm hc9.2.1.1) | (with_reducible exact hc9.2.1.2.1) | (with_reducible exact Ne.symm hc9.2.1.2.1) | (with_reducible exact hc9.2.1.2.2) | (with_reducible exact Ne.symm hc9.2.1.2.2) | (with_reducible exact hc9.2.2.1) | (with_reducible exact Ne.symm hc9.2.2.1) | (with_reducible exact hc9.2.2.2) | (with_reducible exact Ne.symm hc9.2.2.2) | (with_reducible exact hc9.2.2.1.1) | (with_reducible exact Ne.symm hc9.2.2.1.1) | (with_reducible exact hc9.2.2.1.2.1) | (with_reducible exact Ne.symm hc9.2.2.1.2.1) | (with_reducible exact hc9.2.2.1.2.2) | (with_reducible exact Ne.symm hc9.2.2.1.2.2) | (with_reducible exact hc9.2.2.2.1) | (with_reducible exact Ne.symm hc9.2.2.2.1) | (with_reducible exact hc9.2.2.2.2) | (with_reducible exact Ne.symm hc9.2.2.2.2) | (with_reducible exact hc9.2.2.2.1.1) | (with_reducible exact Ne.symm hc9.2.2.2.1.1) | (with_reducible exact hc9.2.2.2.1.2.1) | (with_reducible exact Ne.symm hc9.2.2.2.1.2.1) | (with_reducible exact hc9.2.2.2.1.2.2) | (with_reducible exact Ne.symm hc9.2.2.2.1.2.2) | (with_reducible exact hc9.2.2.2.2.1) | (with_reducible exact Ne.symm hc9.2.2.2.2.1) | (with_reducible exact hc9.2.2.2.2.2) | (with_reducible exact Ne.symm hc9.2.2.2.2.2) | (with_reducible exact hc9.2.2.2.2.1.1) | (with_reducible exact Ne.symm hc9.2.2.2.2.1.1) | (with_reducible exact hc9.2.2.2.2.1.2.1) | (with_reducible exact Ne.symm hc9.2.2.2.2.1.2.1) | (with_reducible exact hc9.2.2.2.2.1.2.2) | (with_reducible exact Ne.symm hc9.2.2.2.2.1.2.2) | (with_reducible exact hc9.2.2.2.2.2.1) | (with_reducible exact Ne.symm hc9.2.2.2.2.2.1) | (with_reducible exact hc9.2.2.2.2.2.2) | (with_reducible exact Ne.symm hc9.2.2.2.2.2.2) | (with_reducible exact hc9.2.2.2.2.2.1.1) | (with_reducible exact Ne.symm hc9.2.2.2.2.2.1.1) | (with_reducible exact hc9.2.2.2.2.2.1.2.1) | (with_reducible exact Ne.symm hc9.2.2.2.2.2.1.2.1) | (with_reducible exact hc9.2.2.2.2.2.1.2.2) | (with_reducible exact Ne.symm hc9.2.2.2.2.2.1.2.2) | (with_reducible exact hc9.2.2.2.2.2.2.1) | (with_reducible exact Ne.symm hc9.2.2.2.2.2.2.1) | (with_reducible exact hc9.2.2.2.2.2.2.2) | (with_reducible exact Ne.symm hc9.2.2.2.2.2.2.2) | (with_reducible exact hc9.2.2.2.2.2.2.1.1) | (with_reducible exact Ne.symm hc9.2.2.2.2.2.2.1.1) | (with_reducible exact hc9.2.2.2.2.2.2.1.2.1) | (with_reducible exact Ne.symm hc9.2.2.2.2.2.2.1.2.1) | (with_reducible exact hc9.2.2.2.2.2.2.1.2.2) | (with_reducible exact Ne.symm hc9.2.2.2.2.2.2.1.2.2) | (with_reducible exact hc9.2.2.2.2.2.2.2.1) | (with_reducible exact Ne.symm hc9.2.2.2.2.2.2.2.1) | (with_reducible exact hc9.2.2.2.2.2.2.2.2) | (with_reducible exact Ne.symm hc9.2.2.2.2.2.2.2.2) | (with_reducible exact hc9.2.2.2.2.2.2.2.1.1) | (with_reducible exact Ne.symm hc9.2.2.2.2.2.2.2.1.1) | (with_reducible exact hc9.2.2.2.2.2.2.2.1.2.1) | (with_reducible exact Ne.symm hc9.2.2.2.2.2.2.2.1.2.1) | (with_reducible exact hc9.2.2.2.2.2.2.2.1.2.2) | (with_reducible exact Ne.symm hc9.2.2.2.2.2.2.2.1.2.2) | (with_reducible exact hc9.2.2.2.2.2.2.2.2.1) | (with_reducible exact Ne.symm hc9.2.2.2.2.2.2.2.2.1) | (with_reducible exact hc9.2.2.2.2.2.2.2.2.2) | (with_reducible exact Ne.symm hc9.2.2.2.2.2.2.2.2.2) | (with_reducible exact hc9.2.2.2.2.2.2.2.2.1.1) | (with_reducible exact Ne.symm hc9.2.2.2.2.2.2.2.2.1.1) | (with_reducible exact hc9.2.2.2.2.2.2.2.2.1.2.1) | (with_reducible exact Ne.symm hc9.2.2.2.2.2.2.2.2.1.2.1) | (with_reducible exact hc9.2.2.2.2.2.2.2.2.1.2.2) | (with_reducible exact Ne.symm hc9.2.2.2.2.2.2.2.2.1.2.2) | (with_reducible exact hc9.2.2.2.2.2.2.2.2.2.1) | (with_reducible exact Ne.symm hc9.2.2.2.2.2.2.2.2.2.1) | (with_reducible exact hc9.2.2.2.2.2.2.2.2.2.2) | (with_reducible exact Ne.symm hc9.2.2.2.2.2.2.2.2.2.2) | (with_reducible exact hc9.2.2.2.2.2.2.2.2.2.1.1) | (with_reducible exact Ne.symm hc9.2.2.2.2.2.2.2.2.2.1.1) | (with_reducible exact hc9.2.2.2.2.2.2.2.2.2.1.2.1) | (with_reducible exact Ne.symm hc9.2.2.2.2.2.2.2.2.2.1.2.1) | (with_reducible exact hc9.2.2.2.2.2.2.2.2.2.1.2.2) | (with_reducible exact Ne.symm hc9.2.2.2.2.2.2.2.2.2.1.2.2) | (with_reducible exact hc9.2.2.2.2.2.2.2.2.2.2.1) | (with_reducible exact Ne.symm hc9.2.2.2.2.2.2.2.2.2.2.1) | (with_reducible exact hc9.2.2.2.2.2.2.2.2.2.2.2) | (with_reducible exact Ne.symm hc9.2.2.2.2.2.2.2.2.2.2.2) | (with_reducible exact hc9.2.2.2.2.2.2.2.2.2.2.1.1) | (with_reducible exact Ne.symm hc9.2.2.2.2.2.2.2.2.2.2.1.1) | (with_reducible exact hc9.2.2.2.2.2.2.2.2.2.2.1.2.1) | (with_reducible exact Ne.symm hc9.2.2.2.2.2.2.2.2.2.2.1.2.1) | (with_reducible exact hc9.2.2.2.2.2.2.2.2.2.2.1.2.2) | (with_reducible exact Ne.symm hc9.2.2.2.2.2.2.2.2.2.2.1.2.2) | (with_reducible exact hc9.2.2.2.2.2.2.2.2.2.2.2.1) | (with_reducible exact Ne.symm hc9.2.2.2.2.2.2.2.2.2.2.2.1) | (with_reducible exact hc9.2.2.2.2.2.2.2.2.2.2.2.2) | (with_reducible exact Ne.symm hc9.2.2.2.2.2.2.2.2.2.2.2.2) | (clear hc9; k_extra "M nec")))
  k_with "M enter" => ((refine' code_defG ?k1 ?k2 ?k3 ?k4 ?k5 ?kA ?kF ?kK ?k6 ?k7 ?k8 ?k9 ?kB ?_ ?c2 ?c3 ?c4 ?c5; (case kA => exact rfl); (case kF => exact rfl); (case kK => first | assumption | exact rfl); (case k1 => k_asm); (case k2 => k_asm); (case k3 => k_asm); (case k4 => k_asm); (case k5 => k_asm); (case k6 => k_is); (case k7 => k_is); (case k8 => ktr_room); (case k9 => exact BindsTo.of_eq rfl); (case c5 => decide); (case kB => exact locs rfl); (case c2 => exact rfl); (case c3 => exact rfl); (case c4 => exact rfl); k_whole; intro g' L' h' FG' F' N' B' X' T' kG'; (try dsimp only at F' N' kG' ⊢); (try k_fold)))
  k_with "M enterC" => ((refine' enterCells ?k1 ?k2 ?k3 ?k4 ?k5 ?kA ?kF ?kK ?k6 ?k7 ?k8 ?k9 ?kB ?kD ?_ ?c2 ?c3 ?c4; (case kA => exact rfl); (case kF => exact rfl); (case kK => first | assumption | exact rfl); (case k1 => k_asm); (case k2 => k_asm); (case k3 => k_asm); (case k4 => k_asm); (case k5 => k_asm); (case k6 => k_is); (case k7 => k_is); (case k8 => ktr_room); (case k9 => exact BindsTo.of_eq rfl); (case kB => exact rfl); (case kD => decide +kernel); (case c2 => exact rfl); (case c3 => exact rfl); (case c4 => exact rfl); k_whole; intro g' L' h' tk' cells' FG' F' N' Y' B' X' T' kG' l1 l2; (try k_lt l1); k_cells Y'; (try simp only [List.cons_append, List.nil_append] at N'); (try dsimp only at F' N' kG' ⊢); (try k_fold)))
  k_with "M sub" => ((first | exact List.forall_mem_nil _ | (refine List.forall_mem_cons.mpr ⟨?kms1, ?kms2⟩; (case kms1 => (intro hW; first | k_mem | (refine (hW ?_).elim; k_mem))); (case kms2 => k_extra "M sub"))))
  k_with "subscriptTail Name Constant ref int" => ((k_here; (with_reducible show wpAny _ _ (subscriptTail _ _ (Value.ref _) (Value.int _ _)) _ _ _); kim_at))
  k_with "call builtin:divmod" => ((k_here; (with_reducible show wpAny _ _ (call (Value.builtin _) [Value.int _ _, Value.int _ _]) _ _ _); k_dflt (refine' divmod_K ?k1 ?k2 ?k3 ?k4 ?_; (case k1 => k_asm); (case k2 => k_asm); (case k3 => omega); (case k4 => exact PyProof.noPylong_small (by omega)); k_whole); intro D' h' t1 t2 F' N' l1; (try k_lt l1); (try k_sweep)))
  k_with "call ref" => ((k_here; (with_reducible show wpAny _ _ (call (Value.ref 107) _ _) _ _ _); k_dflt (refine' draw_use ?k1 ?k2 ?k3 ?k4 ?k5 ?k6 ?k7 ?k8 ?b1 ?b2 ?b3 ?b4 ?b5 ?_; (case k1 => k_asm); (case k2 => k_asm); (case k3 => k_asm); (case k4 => k_asm); (case k5 => first | exact rfl | assumption); (case k6 => ktr_room); (case k7 => k_asm); (case k8 => k_updF); (case b1 => omega); (case b2 => omega); (case b3 => omega); (case b4 => omega); (case b5 => omega)); intro h' tk' n' c' t' u' k' d' td' K' F' N' b1 b2 b3 b4 b5; (try dsimp only at N'); (try k_sweep); (try k_fold)))
  k_with "call builtin:len" => ((k_here; (with_reducible show wpAny _ _ (call (Value.builtin "len") [Value.ref _]) _ _ _); k_dflt (first | (refine' len_tupA ?k1 ?k2 ?k3 ?_; (case k1 => k_asm); (case k2 => k_mem); (case k3 => omega)) | (refine' len_lstA ?k1 ?k2 ?k3 ?_; (case k1 => k_asm); (case k2 => k_mem); (case k3 => omega))); intro t' tk'; (try simp only [List.length_cons, List.length_nil])))
  k_with "subscriptTail Name Call ref int" => ((k_here; (with_reducible show wpAny _ _ (subscriptTail _ _ (Value.ref _) (Value.int _ _)) _ _ _); k_dflt (refine' tup_item_any ?k1 ?k2 ?k3 ?k4 ?k5 ?_ ?k6 ?k7; (case k1 => k_asm); (case k2 => k_mem); (case k3 => omega); (case k4 => omega); (case k5 => omega); (case k6 => with_unfolding_all rfl); (case k7 => (intro _; with_unfolding_all rfl))); intro x' hx' hxm'; (try k_fold)))
  k_with "call ref" => ((k_here; (with_reducible show wpAny _ _ (call (Value.ref 114) _ _) _ _ _); k_dflt (refine' pick_use ?k1 ?k2 ?k3 ?k4 ?k5 ?k6 ?k7 ?k8 ?k9 ?kA ?b1 ?b2 ?b3 ?b4 ?b5 ?_; (case k1 => k_asm); (case k2 => k_asm); (case k3 => k_asm); (case k4 => k_asm); (case k5 => first | exact rfl | assumption); (case k6 => ktr_room); (case k7 => k_asm); (case k8 => k_updF); (case k9 => k_mem); (case kA => (refine neN ?_; omega)); (case b1 => omega); (case b2 => omega); (case b3 => omega); (case b4 => (simp only [List.length_cons, List.length_nil]; omega)); (case b5 => (simp only [List.length_cons, List.length_nil]; omega))); intro h' tk' n' c' t' u' k' x' K' F' N' b1 b2 b3 b4; (try dsimp only at N'); (try k_sweep); (try k_fold)))
  k_with "binaryOp Mult ref int" => ((k_here; (with_reducible show wpAny _ _ (binaryOp Operator.Mult (Value.ref _) (Value.int _ _)) _ _ _); k_dflt (refine' tup_mul ?k1 ?k2 ?k3 ?k4 ?k5 ?_ ?_ ?_; (case k1 => k_asm); (case k2 => k_asm); (case k3 => k_mem); (case k4 => omega); (case k5 => omega)); (all_goals (intro hx9; (try (exfalso; omega; done)))); (all_goals (try (intro D' h' F' N' l1; (try k_lt l1); (try k_sweep)))); (all_goals (try k_unmd)); (all_goals (try k_fold))))
  k_with "subscriptTail Name Slice ref ref" => ((k_here; (with_reducible show wpAny _ _ (subscriptTail _ _ (Value.ref _) (Value.ref _)) _ _ _); k_dflt (refine' cut_tail ?k1 ?k2 ?k3 ?k4 ?_ ?_ ?k5 ?k6; (case k1 => k_asm); (case k2 => k_asm); (case k3 => k_mem); (case k4 => omega); (case k5 => with_unfolding_all rfl); (case k6 => (intro _; with_unfolding_all rfl))); (all_goals intro hx9); (all_goals (first | (intro D' h' F' N' l1; (try k_lt l1); (try k_sweep)) | (intro h' F' N'; (try k_sweep)))); (all_goals (try k_unmd)); (all_goals (try k_fold))))
  k_with "CompSrc" => ((k_here; k_dflt (refine LCg.CompSrc.range (by rfl) (by k_asm) (by k_asm) (by assumption) (by first | decide | rfl) (by first | rfl | decide) (by first | size_fits | exact Nat.le_of_ble_eq_true rfl) ?_; intro gc'; lcg_lit)))
  k_with "execs nil" => ((k_here; (with_reducible refine wpAny_execs_nil ?_)))
  k_with "eval ListComp" => ((k_here; lct_look; k_dflt (refine LCt.ListComp_T (F₀ := by k_asm) (by with_unfolding_all rfl) (by decide) (by rfl) (by decide) (by rfl) ?_)))
  k_with "M ints" => (first | exact IntsAre.nil | exact IntsAre.cons _ _ .nil | exact IntsAre.cons _ _ (.cons _ _ .nil) | exact IntsAre.cons _ _ (.cons _ _ (.cons _ _ .nil)) | assumption)
  k_with "call ref" => ((k_here; (with_reducible show wpAny _ _ (call (Value.ref 22) _ _) _ _ _); refine wpAny_call ?_; k_dflt (k_extra "M enter")))
  k_with "M test" => ((unfold TestEnd; refine ⟨?t1, _, _, rfl, ?t2, ?t3⟩; (case t1 => first | exact rfl | exact inR_lt (by omega) | exact inR_neg (by omega)); (case t2 => k_asm); (case t3 => k_asm)))
  k_with "compareOp Eq ref ref" => ((k_here; k_dflt (refine' eq_tup_nil ?k1 ?k2 ?k3 ?k4 ?_; (case k1 => k_asm); (case k2 => k_mem); (case k3 => k_mem); (case k4 => first | units_room | exact Nat.le_of_ble_eq_true rfl)); (try simp only [List.size_toArray, List.length_cons, List.length_nil])))
  k_with "call ref" => ((k_here; (with_reducible show wpAny _ _ (call (Value.ref 93) _ _) _ _ _); (try simp only [List.nil_append]); refine wpAny_call ?_; k_dflt (k_extra "M enter")))
  k_with "call ref" => ((k_here; (with_reducible show wpAny _ _ (call (Value.ref 126) _ _) _ _ _); refine wpAny_call ?_; k_dflt (k_extra "M enter")))
  k_with "compareOp NotIn int ref" => ((k_here; (with_reducible show wpAny _ _ (compareOp CmpOp.NotIn (Value.int _ _) (Value.ref _)) _ _ _); k_dflt (refine notin_range (by assumption) ?_)))
  k_with "eval ListComp" => ((k_here; lct_look; k_dflt (first | refine ListComp_Tup (iter := Expr.Subscript _ _ _) (_F := by k_asm) (by with_unfolding_all rfl) (by decide) (by rfl) (by decide) (by rfl) ?_ | refine LCt.ListComp_T (F₀ := by k_asm) (by with_unfolding_all rfl) (by decide) (by rfl) (by decide) (by rfl) ?_)))
  k_with "CompSrcU" => ((k_here; refine sealUOf ?_))
  k_with "subscriptTail Name Slice ref ref" => ((k_here; (with_reducible show wpAny _ _ (subscriptTail _ _ (Value.ref _) (Value.ref _)) _ _ _); k_dflt (refine' tail_from ?k1 ?k2 ?k3 ?k4 ?_ ?k5 ?k6; (case k1 => k_asm); (case k2 => k_asm); (case k3 => k_mem); (case k4 => (simp only [List.length_cons, List.length_nil]; omega)); (case k5 => with_unfolding_all rfl); (case k6 => (intro _; with_unfolding_all rfl))); intro D' h' F' N' l1; (try k_lt l1); (try k_sweep)))
  k_with "M strs6" => (first | exact List.forall_mem_nil _ | (refine List.forall_mem_cons.mpr ⟨⟨_, _, rfl⟩, ?_⟩; k_extra "M strs6"))
  k_with "compareOp NotIn int ref" => ((k_here; (with_reducible show wpAny _ _ (compareOp CmpOp.NotIn (Value.int _ _) (Value.ref _)) _ _ _); k_dflt (first | refine notin_range (by assumption) ?_ | (refine' notin_strs ?k1 ?k2 ?k3 ?_; (case k1 => k_asm); (case k2 => k_mem); (case k3 => k_extra "M strs6")))))
  k_with "call ref" => ((k_here; (with_reducible show wpAny _ _ (call (Value.ref 93) _) _ _ _); k_dflt (refine' parts_use ?k1 ?k2 ?k3 ?k4 ?k5 ?k6 ?k7 ?_; (case k1 => k_asm); (case k2 => k_asm); (case k3 => k_asm); (case k4 => k_asm); (case k5 => first | exact rfl | assumption); (case k6 => ktr_room); (case k7 => k_asm)); (iterate 4 intro _); (iterate 26 intro _); intro KP F' N' lo' hd' hf'; (try k_sweep); (try k_fold)))
  k_with "M memt" => (first | (with_reducible assumption) | ((with_reducible refine List.mem_cons_of_mem _ ?_); k_extra "M memt"))
  k_with "M subv" => (first | exact List.forall_mem_nil _ | ((with_reducible refine List.forall_mem_cons.mpr ⟨?kms1, ?kms2⟩); (case kms1 => k_mem); (case kms2 => k_extra "M subv")) | (intro p8 hp8; k_extra "M memt"))
  k_with "M sub" => ((first | exact List.forall_mem_nil _ | (refine List.forall_mem_cons.mpr ⟨?kms1, ?kms2⟩; (case kms1 => (intro hW; first | k_mem | (refine (hW ?_).elim; k_mem))); (case kms2 => k_extra "M sub")) | (intro p8 hp8 hW8; k_extra "M memt")))
  k_with "M size" => (first | exact size_few (by first | omega | (simp only [List.length_append, List.length_cons, List.length_nil]; omega)) | size_fits)
  k_with "call builtin:list.append" => ((k_here; (with_reducible show wpAny _ _ (call (Value.builtin _) [Value.ref _, _]) _ _ _); k_dflt (refine' append_K ?k1 ?k2 ?k3 ?_ ?z; (case k1 => k_asm); (case k2 => k_asm); (case k3 => k_upd); (case z => k_extra "M size")); intro h' F' N'; (try k_sweep)))
  exact True.intro

theorem beqF {a b : Str} (h : (a == b) = false) : a ≠ b := fun e => by rw [e] at h; simp at h
theorem lp_len9 {n : Str} {x : Arg} (hch : (n == S "choose") = false) : (labelsP (.e2 n x)).length ≤ 3 := by
  cases x with
  | labs l => simp only [labelsP, if_neg (beqF hch)]; exact Nat.zero_le _
  | int i => simp only [labelsP]; split <;> simp
  | str w => simp [labelsP]
  | any => simp [labelsP]
theorem lp_len3 {n : Str} {x : Arg} {i : Int} : (labelsP (.e3 n x (.int i))).length ≤ 3 := by
  simp only [labelsP]; split; simp; split <;> simp
/-! every op of the law is such a tuple -/
theorem in4_two {n : Str} (h : in4 n = true) : argc n = some 2 ∧ (n = S "put" ∨ n = S "key" ∨ n = S "test" ∨ n = S "less") := by
  simp only [in4, Bool.or_eq_true, beq_iff_eq, Bool.false_eq_true, or_false] at h
  rcases h with h | h | h | h <;> subst h
  · exact ⟨by decide +kernel, .inl rfl⟩
  · exact ⟨by decide +kernel, .inr (.inl rfl)⟩
  · exact ⟨by decide +kernel, .inr (.inr (.inl rfl))⟩
  · exact ⟨by decide +kernel, .inr (.inr (.inr rfl))⟩
theorem in2_two {n : Str} (h : in2 n = true) : argc n = some 2 ∧ (n = S "push" ∨ n = S "calc") := by
  simp only [in2, Bool.or_eq_true, beq_iff_eq, Bool.false_eq_true, or_false] at h
  rcases h with h | h <;> subst h
  · exact ⟨by decide +kernel, .inl rfl⟩
  · exact ⟨by decide +kernel, .inr rfl⟩
theorem inP_or {n : Str} (h : inP n = true) : (argc n = some 2 ∧ n = S "perform") ∨ (argc n = some 1 ∧ n = S "leave") := by
  simp only [inP, Bool.or_eq_true, beq_iff_eq, Bool.false_eq_true, or_false] at h
  rcases h with h | h <;> subst h
  · exact .inl ⟨by decide +kernel, rfl⟩
  · exact .inr ⟨by decide +kernel, rfl⟩
theorem one_two {n : Str} {C : Prop} (ha : argc n = some 1) (h : argc n = some 2) : C := by rw [ha] at h; cases h
theorem named {n k : Str} {i : Int} (hk : argc k = some i) (h : (n == k) = true) : argc n = some i := by rw [eq_of_beq h]; exact hk
theorem far_no {n : Str} {vs : List Value} (ha : argc n = some (vs.length : Int)) : farV n vs = false := by unfold farV; rw [decide_eq_true ha]; rfl
theorem far_yes {n : Str} {vs : List Value} (ha : argc n ≠ some (vs.length : Int)) : farV n vs = true := by unfold farV; rw [decide_eq_false ha]; rfl
theorem ite_cond {α : Type} {p : Prop} [Decidable p] {b : Bool} {x y : α} (h : b = true ↔ p) : (if p then x else y) = if b then x else y := by
  by_cases hp : p
  · rw [if_pos hp, if_pos (h.mpr hp)]
  · rw [if_neg hp, if_neg (fun q => hp (h.mp q))]
theorem str_in {P : Addr → Obj → Prop} {v : Value} {x : Arg} {l : List Str} {r : List Value} (h : ArgIs P v x) (hx : (∃ w, x = .str w) ∨ ∃ i, x = .int i) : strIn l (v :: r) = argIn l x := by
  rcases hx with ⟨w, rfl⟩ | ⟨i, rfl⟩
  · cases h; exact any_has
  · cases h; rfl
theorem int_in {P : Addr → Obj → Prop} {v : Value} {x : Arg} {b : Int} (h : ArgIs P v x) (hx : ∃ i, x = .int i) : intR b v = argR b x := by
  obtain ⟨i, rfl⟩ := hx
  cases h; rfl
theorem sh2_fault {P : Addr → Obj → Prop} {n : Str} {v : Value} {x : Arg} {m b : Int} (hA : ArgIs P v x) (hw : (Op.e2 n x).WF) (ha : argc n = some 1) : faultP m b (.e2 n x) = faultV m b n [v] (labelsP (.e2 n x)) := by
  have hc : calV n [v] = false := by
    unfold calV
    cases e : (n == S "calc") with
    | false => rfl
    | true => exact one_two ha (named (by decide +kernel) e)
  have hp : parV b n [v] = true ↔ n = S "leave" ∧ argR b x = false := by
    unfold parV
    constructor
    · intro h
      have h1 := Bool.and_eq_true_iff.mp h
      rcases inP_or h1.1 with q | q
      · exact one_two ha q.1
      · refine ⟨q.2, ?_⟩
        have h2 := h1.2
        rw [← int_in (b := b) hA (hw.2.2.1 q.2)]
        unfold intsIn at h2
        rw [List.all_cons, List.all_nil, Bool.and_true] at h2
        exact Bool.not_eq_true' _ |>.mp h2
    · rintro ⟨h1, h2⟩
      rw [← int_in (b := b) hA (hw.2.2.1 h1)] at h2
      unfold intsIn
      rw [List.all_cons, List.all_nil, Bool.and_true, h2, h1]
      decide +kernel
  have he : endV n [v] = true ↔ n = S "stop" ∧ argIn ends x = false := by
    unfold endV
    constructor
    · intro h
      have h1 := Bool.and_eq_true_iff.mp h
      have q := eq_of_beq h1.1
      refine ⟨q, ?_⟩
      rw [← str_in (l := ends) (r := []) hA (.inl (hw.2.2.2 q))]
      exact Bool.not_eq_true' _ |>.mp h1.2
    · rintro ⟨h1, h2⟩
      rw [str_in (l := ends) (r := []) hA (.inl (hw.2.2.2 h1)), h2, h1]
      decide +kernel
  unfold faultV
  rw [far_no (vs := [v]) ha, hc, if_neg Bool.false_ne_true, if_neg (Bool.false_ne_true)]
  show (if argc n ≠ some 1 then _ else _) = _
  rw [if_neg (fun q => q ha)]
  rw [ite_cond (p := (labelsP (.e2 n x)).all (inR m) = false) (b := !((labelsP (.e2 n x)).all (inR m))) (by rw [Bool.not_eq_true']), ite_cond hp, ite_cond he]
theorem sh3_fault {P : Addr → Obj → Prop} {n : Str} {v v' : Value} {x y : Arg} {m b : Int} (hA : ArgIs P v x) (hB : ArgIs P v' y) (hw : (Op.e3 n x y).WF) (ha : argc n = some 2) : faultP m b (.e3 n x y) = faultV m b n [v, v'] (labelsP (.e3 n x y)) := by
  have hc : calV n [v, v'] = true ↔ n = S "calc" ∧ argIn signs x = false := by
    unfold calV
    constructor
    · intro h
      have h1 := Bool.and_eq_true_iff.mp h
      have q := eq_of_beq h1.1
      refine ⟨q, ?_⟩
      rw [← str_in (l := signs) (r := [v']) hA (hw.2.1 q)]
      exact Bool.not_eq_true' _ |>.mp h1.2
    · rintro ⟨h1, h2⟩
      rw [str_in (l := signs) (r := [v']) hA (hw.2.1 h1), h2, h1]
      decide +kernel
  have hp : parV b n [v, v'] = true ↔ n = S "perform" ∧ (argR b x && argR b y) = false := by
    unfold parV
    constructor
    · intro h
      have h1 := Bool.and_eq_true_iff.mp h
      rcases inP_or h1.1 with q | q
      · refine ⟨q.2, ?_⟩
        have h2 := h1.2
        rw [← int_in (b := b) hA (hw.2.2 q.2).1, ← int_in (b := b) hB (hw.2.2 q.2).2]
        unfold intsIn at h2
        rw [List.all_cons, List.all_cons, List.all_nil, Bool.and_true] at h2
        exact Bool.not_eq_true' _ |>.mp h2
      · exact one_two q.1 ha
    · rintro ⟨h1, h2⟩
      rw [← int_in (b := b) hA (hw.2.2 h1).1, ← int_in (b := b) hB (hw.2.2 h1).2] at h2
      unfold intsIn
      rw [List.all_cons, List.all_cons, List.all_nil, Bool.and_true, h2, h1]
      decide +kernel
  have he : endV n [v, v'] = false := by
    unfold endV
    cases e : (n == S "stop") with
    | false => rfl
    | true => exact one_two (named (by decide +kernel) e) ha
  unfold faultV
  rw [far_no (vs := [v, v']) ha, he, if_neg Bool.false_ne_true]
  show (if argc n ≠ some 2 then _ else _) = _
  rw [if_neg (fun q => q ha)]
  rw [ite_cond (p := (labelsP (.e3 n x y)).all (inR m) = false) (b := !((labelsP (.e3 n x y)).all (inR m))) (by rw [Bool.not_eq_true']), ite_cond hc, ite_cond hp, if_neg Bool.false_ne_true]
theorem sh2 {P : Addr → Obj → Prop} {n : Str} {v : Value} {x : Arg} (hA : ArgIs P v x) (hw : (Op.e2 n x).WF) (ha : argc n = some 1) : ∃ R : List (Addr × Obj), (∀ p ∈ R, P p.1 p.2) ∧ OpSh (fun a o => (a, o) ∈ R) n [v] (labelsP (.e2 n x)) := by
  have h4 : ∀ {C : Prop}, in4 n = true → C := fun h => one_two ha (in4_two h).1
  have h2 : ∀ {C : Prop}, in2 n = true → C := fun h => one_two ha (in2_two h).1
  have hca : ∀ {C : Prop}, (n == S "calc") = true → C := fun h => one_two ha (named (by decide +kernel) h)
  have hju : (n == S "jump") = true → ∃ w r, [v] = w :: r ∧ IntsAre [w] (labelsP (.e2 n x)) := fun h => by
    obtain ⟨i, rfl⟩ := hw.2.1 (eq_of_beq h)
    cases hA
    refine ⟨_, _, rfl, ?_⟩
    simp only [labelsP, eq_of_beq h, if_true]
    exact .cons _ _ .nil
  have hpa : inP n = true → ∃ ls, IntsAre [v] ls ∧ ls.length ≤ 2 := fun h => by
    rcases inP_or h with q | q
    · exact one_two ha q.1
    · obtain ⟨i, rfl⟩ := hw.2.2.1 q.2
      cases hA
      exact ⟨_, .cons _ _ .nil, Nat.le_succ 1⟩
  have hst : (n == S "stop") = true → ∃ w r, [v] = w :: r ∧ ((∃ q t, w = .str q t) ∨ ∃ i t, w = .int i t) := fun h => by
    obtain ⟨q, rfl⟩ := hw.2.2.2 (eq_of_beq h)
    cases hA
    exact ⟨_, _, rfl, .inl ⟨_, _, rfl⟩⟩
  have hno : (n == S "jump") = false → (n == S "choose") = false → labelsP (.e2 n x) = [] := fun hj hc => by
    cases x with
    | labs l => exact if_neg (beqF hc)
    | int i => exact if_neg (beqF hj)
    | str w => rfl
    | any => rfl
  by_cases hc : n = S "choose"
  · obtain ⟨l, rfl, hl⟩ := hw.1 hc
    have e : labelsP (.e2 n (.labs l)) = l := if_pos hc
    cases hA with
    | @labs la us _ hP hI =>
      refine ⟨[(la, tupOf us)], fun p hp => by rw [List.mem_singleton.mp hp]; exact hP, ?_⟩
      exact ⟨by rw [e]; exact hl, fun _ => ⟨la, us, rfl, .head _, by rw [e]; exact hI⟩, h4, h2, hju, fun _ _ => hno, hca, hpa, hst⟩
  · refine ⟨[], fun p hp => (List.not_mem_nil hp).elim, ?_⟩
    exact ⟨lp_len9 (beq_eq_false_iff_ne.mpr hc), fun h => absurd h hc, h4, h2, hju, fun _ _ => hno, hca, hpa, hst⟩
theorem sh3 {P : Addr → Obj → Prop} {n : Str} {v v' : Value} {x y : Arg} (hA : ArgIs P v x) (hB : ArgIs P v' y) (hw : (Op.e3 n x y).WF) (ha : argc n = some 2) : OpSh (fun a o => (a, o) ∈ ([] : List (Addr × Obj))) n [v, v'] (labelsP (.e3 n x y)) := by
  have one : ∀ {k : Str} {C : Prop}, argc k = some 1 → (n == k) = true → C := fun hk h => one_two (named hk h) ha
  refine ⟨?_, fun h => one (k := S "choose") (by decide +kernel) (beq_iff_eq.mpr h), fun h => ?_, fun h => ?_, one (by decide +kernel), fun g4 g2 _ _ => ?_, fun h => ?_, fun h => ?_, one (by decide +kernel)⟩
  · cases y with
    | int i => exact lp_len3
    | labs l => exact Nat.zero_le _
    | str w => exact Nat.zero_le _
    | any => exact Nat.zero_le _
  · have q := (in4_two h).2
    obtain ⟨i, rfl⟩ := hw.1 (by rcases q with q | q | q | q <;> simp [q])
    cases hB
    exact ⟨_, _, _, rfl, if_pos q⟩
  · have q := (in2_two h).2
    obtain ⟨i, rfl⟩ := hw.1 (by rcases q with q | q <;> simp [q])
    cases hB
    refine ⟨_, _, _, rfl, ?_⟩
    have g4 : ¬ (n = S "put" ∨ n = S "key" ∨ n = S "test" ∨ n = S "less") := by rcases q with q | q <;> subst q <;> decide +kernel
    show (if _ then _ else _) = _
    rw [if_neg g4]
    by_cases hi : i = -1
    · rw [if_pos hi, if_neg (fun z => z.2 hi)]
    · rw [if_neg hi, if_pos ⟨q, hi⟩]
  · cases y with
    | int i =>
      show (if _ then _ else _) = _
      rw [if_neg (fun z => by rcases z with z | z | z | z <;> subst z <;> exact absurd g4 (by decide +kernel)), if_neg (fun z => by rcases z.1 with z | z <;> subst z <;> exact absurd g2 (by decide +kernel))]
    | labs l => rfl
    | str w => rfl
    | any => rfl
  · rcases hw.2.1 (eq_of_beq h) with ⟨q, rfl⟩ | ⟨q, rfl⟩
    · cases hA; exact ⟨_, _, rfl, .inl ⟨_, _, rfl⟩⟩
    · cases hA; exact ⟨_, _, rfl, .inr ⟨_, _, rfl⟩⟩
  · rcases inP_or h with q | q
    · obtain ⟨⟨i, rfl⟩, ⟨j, rfl⟩⟩ := hw.2.2 q.2
      cases hA; cases hB
      exact ⟨_, .cons _ _ (.cons _ _ .nil), Nat.le_refl 2⟩
    · exact one_two q.1 ha
noncomputable def opArgs : Op → Prop
  | .e2 n _ => argc n = some 1
  | .e3 n _ _ => argc n = some 2
  | _ => False
theorem argsOk {m b : Int} {o : Op} (h : faultP m b o = S "") : opArgs o := by
  have bad : noOp ≠ S "" := by decide +kernel
  cases o with
  | e2 n x =>
    by_cases ha : argc n = some 1
    · exact ha
    · exact absurd ((if_pos ha).symm.trans h) bad
  | e3 n x y =>
    by_cases ha : argc n = some 2
    · exact ha
    · exact absurd ((if_pos ha).symm.trans h) bad
  | _ => exact absurd h bad
theorem op_sh {P : Addr → Obj → Prop} {v : Value} {o : Op} (hO : OpIs P v o) (hw : o.WF) : (∃ a, v = .ref a ∧ P a (tupOf []) ∧ o = .e0) ∨ ∃ (a : Addr) (n : Str) (t : Tok) (vs : List Value) (R : List (Addr × Obj)) (l : List Int), v = .ref a ∧ P a (tupOf (.str n t :: vs)) ∧ vs.length ≤ 3 ∧ (∀ p ∈ R, P p.1 p.2) ∧ (farV n vs = false → OpSh (fun a o => (a, o) ∈ R) n vs l) ∧ (∀ m b, faultP m b o = faultV m b n vs l) ∧ (opArgs o → farV n vs = false ∧ l = labelsP o) := by
  have far : ∀ {n : Str} {vs : List Value} {C : Prop}, argc n ≠ some (vs.length : Int) → farV n vs = false → C := fun h e => by rw [far_yes h] at e; cases e
  have nil : ∀ p ∈ ([] : List (Addr × Obj)), P p.1 p.2 := fun p hp => (List.not_mem_nil hp).elim
  cases hO with
  | e0 e => exact .inl ⟨_, rfl, e, rfl⟩
  | @e1 a n t e =>
    have h : argc n ≠ some (([] : List Value).length : Int) := fun q => by rcases argc_or q with q | q <;> cases q
    exact .inr ⟨_, _, _, _, [], [], rfl, e, by decide, nil, far h, fun m b => fv1 (far_yes h), fun h => h.elim⟩
  | @e4 a n t v v' v'' e =>
    have h : argc n ≠ some (([v, v', v''] : List Value).length : Int) := fun q => by rcases argc_or q with q | q <;> cases q
    exact .inr ⟨_, _, _, _, [], [], rfl, e, Nat.le_refl 3, nil, far h, fun m b => fv1 (far_yes h), fun h => h.elim⟩
  | @e2 a n t v x e i =>
    by_cases ha : argc n = some 1
    · obtain ⟨R, hR, hs⟩ := sh2 i hw ha
      exact .inr ⟨_, _, _, _, R, _, rfl, e, Nat.le_add_left 1 2, hR, fun _ => hs, fun m b => sh2_fault i hw ha, fun _ => ⟨far_no ha, rfl⟩⟩
    · exact .inr ⟨_, _, _, _, [], [], rfl, e, Nat.le_add_left 1 2, nil, far ha, fun m b => (if_pos ha).trans (fv1 (far_yes ha)), fun h => absurd h ha⟩
  | @e3 a n t v v' x y e i j =>
    by_cases ha : argc n = some 2
    · exact .inr ⟨_, _, _, _, [], _, rfl, e, Nat.le_add_left 2 1, nil, fun _ => sh3 i j hw ha, fun m b => sh3_fault i j hw ha, fun _ => ⟨far_no ha, rfl⟩⟩
    · exact .inr ⟨_, _, _, _, [], [], rfl, e, Nat.le_add_left 2 1, nil, far ha, fun m b => (if_pos ha).trans (fv1 (far_yes ha)), fun h => absurd h ha⟩

section

theorem kreg27 : True := by
  w_top off
  k_with "M nend" => ((rename News h₀ L _ _ => kN; exact hret _ _ _ (keep_led kG0 (by assumption) N kN (by k_extra "M sub"))))
  exact True.intro

theorem fn_0 {w : World} {mean : ExcName → Option Value} {mg mb : Str → Option Value} {dp un : Nat} {gd : Option (List Code)} {cn : Str} {cs : Scope} {a : Addr} {ccd : Value} {cl : List (Str × Addr)} {outer : List Env} {A₀ : Around} {base h₀ : Heap} {L : Addr} {m : Str → Option Value} {s : Shared} {Q E : Value → Shared → Prop}
  {C D O G x : Addr} {os bs : List Value} {t u : Tok} {nd : Nat} 
  (B : Below A₀ base outer h₀) (F : Fr h₀ L s.heap m) (X : (Mine.hd.heap_1 w.params).In h₀) (T : Top Mine.hd.view_1 lo mean mg mb h₀) (hk : cs.kind = .function) (hd : dp + 2 < recursionLimit) (hu : un + 400 < cLine)
  (N : News h₀ L s.heap [(x, tupOf []), (C, instObj 82 D), (D, codeDict w O G t u nd), (O, tupOf os), (G, tupOf bs)])
  
  (hret : ∀ h' tk t, KeepBut [] s.heap h' → Q (.str noOp t) { s with heap := h', toks := tk }) :
  wpAny (model PySem.Challenge.rw_pq0627_01.row.prog w) (ktrTop dp un gd cn cs L a ccd cl outer) (call (.ref 27) [.ref C, .ref x]) Q E s := by
  revert X; k_fill; intro X
  refine wpAny_call ?_
  k_dflt (k_extra "M enterC")
  have kG0 := kG'
  k_steps
  all_goals k_extra "M nend"
theorem ln_0 {w : World} {mean : ExcName → Option Value} {mg mb : Str → Option Value} {dp un : Nat} {gd : Option (List Code)} {cn : Str} {cs : Scope} {a : Addr} {ccd : Value} {cl : List (Str × Addr)} {outer : List Env} {A₀ : Around} {base h₀ : Heap} {L : Addr} {m : Str → Option Value} {s : Shared} {Q E : Value → Shared → Prop}
  {x : Addr} {many begun : Int} {t u : Tok} 
  (B : Below A₀ base outer h₀) (F : Fr h₀ L s.heap m) (X : (Mine.hd.heap_1 w.params).In h₀) (T : Top Mine.hd.view_1 lo mean mg mb h₀) (hk : cs.kind = .function) (hd : dp + 2 < recursionLimit) (hu : un + 400 < cLine)
  (N : News h₀ L s.heap [(x, tupOf [])])
  
  (hret : ∀ h' tk t, KeepBut [] s.heap h' → Q (.str noOp t) { s with heap := h', toks := tk }) :
  wpAny (model PySem.Challenge.rw_pq0627_01.row.prog w) (ktrTop dp un gd cn cs L a ccd cl outer) (call (.ref 131) [.ref x, .int many t, .int begun u]) Q E s := by
  revert X; k_fill; intro X
  refine wpAny_call ?_
  k_dflt (k_extra "M enterC")
  have kG0 := kG'
  k_steps
  all_goals k_extra "M nend"
end
theorem kreg28 : True := by
  w_top off
  k_with_none
  k_with "M ne" => (first | (with_reducible assumption) | (with_reducible exact Ne.symm (by assumption)) | (with_reducible exact Nat.ne_of_lt (by assumption)) | (with_reducible exact Nat.ne_of_gt (by assumption)) | (k_extra "M nec"))
  k_with "M nec" => (first | ((rename (_ < _) ∧ _ => hc9); first | (with_reducible exact Nat.ne_of_lt hc9.1) | (with_reducible exact Nat.ne_of_gt hc9.1) | (with_reducible exact Nat.ne_of_lt hc9) | (with_reducible exact Nat.ne_of_gt hc9) | (with_reducible exact Nat.ne_of_lt hc9.2.1) | (with_reducible exact Nat.ne_of_gt hc9.2.1) | (with_reducible exact Nat.ne_of_lt hc9.2) | (with_reducible exact Nat.ne_of_gt hc9.2) | (with_reducible exact Nat.ne_of_lt hc9.2.2.1) | (with_reducible exact Nat.ne_of_gt hc9.2.2.1) | (with_reducible exact Nat.ne_of_lt hc9.2.2) | (with_reducible exact Nat.ne_of_gt hc9.2.2) | (with_reducible exact Nat.ne_of_lt hc9.2.2.2.1) | (with_reducible exact Nat.ne_of_gt hc9.2.2.2.1) | (with_reducible exact Nat.ne_of_lt hc9.2.2.2) | (with_reducible exact Nat.ne_of_gt hc9.2.2.2) | (with_reducible exact Nat.ne_of_lt hc9.2.2.2.2.1) | (with_reducible exact Nat.ne_of_gt hc9.2.2.2.2.1) | (with_reducible exact Nat.ne_of_lt hc9.2.2.2.2) | (with_reducible exact Nat.ne_of_gt hc9.2.2.2.2) | (with_reducible exact Nat.ne_of_lt hc9.2.2.2.2.2.1) | (with_reducible exact Nat.ne_of_gt hc9.2.2.2.2.2.1) | (with_reducible exact Nat.ne_of_lt hc9.2.2.2.2.2) | (with_reducible exact Nat.ne_of_gt hc9.2.2.2.2.2) | (with_reducible exact Nat.ne_of_lt hc9.2.2.2.2.2.2.1) | (with_reducible exact Nat.ne_of_gt hc9.2.2.2.2.2.2.1) | (with_reducible exact Nat.ne_of_lt hc9.2.2.2.2.2.2) | (with_reducible exact Nat.ne_of_gt hc9.2.2.2.2.2.2) | (with_reducible exact Nat.ne_of_lt hc9.2.2.2.2.2.2.2.1) | (with_reducible exact Nat.ne_of_gt hc9.2.2.2.2.2.2.2.1) | (with_reducible exact Nat.ne_of_lt hc9.2.2.2.2.2.2.2) | (with_reducible exact Nat.ne_of_gt hc9.2.2.2.2.2.2.2) | (with_reducible exact Nat.ne_of_lt hc9.2.2.2.2.2.2.2.2.1) | (with_reducible exact Nat.ne_of_gt hc9.2.2.2.2.2.2.2.2.1) | (with_reducible exact Nat.ne_of_lt hc9.2.2.2.2.2.2.2.2) | (with_reducible exact Nat.ne_of_gt hc9.2.2.2.2.2.2.2.2) | (with_reducible exact Nat.ne_of_lt hc9.2.2.2.2.2.2.2.2.2.1) | (with_reducible exact Nat.ne_of_gt hc9.2.2.2.2.2.2.2.2.2.1) | (with_reducible exact Nat.ne_of_lt hc9.2.2.2.2.2.2.2.2.2) | (with_reducible exact Nat.ne_of_gt hc9.2.2.2.2.2.2.2.2.2) | (with_reducible exact Nat.ne_of_lt hc9.2.2.2.2.2.2.2.2.2.2.1) | (with_reducible exact Nat.ne_of_gt hc9.2.2.2.2.2.2.2.2.2.2.1) | (with_reducible exact Nat.ne_of_lt hc9.2.2.2.2.2.2.2.2.2.2) | (with_reducible exact Nat.ne_of_gt hc9.2.2.2.2.2.2.2.2.2.2) | (with_reducible exact Nat.ne_of_lt hc9.2.2.2.2.2.2.2.2.2.2.2.1) | (with_reducible exact Nat.ne_of_gt hc9.2.2.2.2.2.2.2.2.2.2.2.1) | (with_reducible exact Nat.ne_of_lt hc9.2.2.2.2.2.2.2.2.2.2.2) | (with_reducible exact Nat.ne_of_gt hc9.2.2.2.2.2.2.2.2.2.2.2) | (with_reducible exact Nat.ne_of_lt hc9.2.2.2.2.2.2.2.2.2.2.2.2.1) | (with_reducible exact Nat.ne_of_gt hc9.2.2.2.2.2.2.2.2.2.2.2.2.1) | (with_reducible exact Nat.ne_of_lt hc9.2.2.2.2.2.2.2.2.2.2.2.2) | (with_reducible exact Nat.ne_of_gt hc9.2.2.2.2.2.2.2.2.2.2.2.2) | (with_reducible exact Nat.ne_of_lt hc9.2.2.2.2.2.2.2.2.2.2.2.2.2.1) | (with_reducible exact Nat.ne_of_gt hc9.2.2.2.2.2.2.2.2.2.2.2.2.2.1) | (with_reducible exact Nat.ne_of_lt hc9.2.2.2.2.2.2.2.2.2.2.2.2.2) | (with_reducible exact Nat.ne_of_gt hc9.2.2.2.2.2.2.2.2.2.2.2.2.2) | (clear hc9; k_extra "M nec")) | ((rename (_ ≠ _) ∧ _ => hc9); first | (with_reducible exact hc9.1) | (with_reducible exact Ne.symm hc9.1) | (with_reducible exact hc9) | (with_reducible exact Ne.symm hc9) | (with_reducible exact hc9.2.1) | (with_reducible exact Ne.symm hc9.2.1) | (with_reducible exact hc9.2) | (with_reducible exact Ne.symm hc9.2) | (with_reducible exact hc9.2.2.1) | (with_reducible exact Ne.symm hc9.2.2.1) | (with_reducible exact hc9.2.2) | (with_reducible exact Ne.symm hc9.2.2) | (with_reducible exact hc9.2.2.2.1) | (with_reducible exact Ne.symm hc9.2.2.2.1) | (with_reducible exact hc9.2.2.2) | (with_reducible exact Ne.symm hc9.2.2.2) | (with_reducible exact hc9.2.2.2.2.1) | (with_reducible exact Ne.symm hc9.2.2.2.2.1) | (with_reducible exact hc9.2.2.2.2) | (with_reducible exact Ne.symm hc9.2.2.2.2) | (with_reducible exact hc9.2.2.2.2.2.1) | (with_reducible exact Ne.symm hc9.2.2.2.2.2.1) | (with_reducible exact hc9.2.2.2.2.2) | (with_reducible exact Ne.symm hc9.2.2.2.2.2) | (with_reducible exact hc9.2.2.2.2.2.2.1) | (with_reducible exact Ne.symm hc9.2.2.2.2.2.2.1) | (with_reducible exact hc9.2.2.2.2.2.2) | (with_reducible exact Ne.symm hc9.2.2.2.2.2.2) | (with_reducible exact hc9.2.2.2.2.2.2.2.1) | (with_reducible exact Ne.symm hc9.2.2.2.2.2.2.2.1) | (with_reducible exact hc9.2.2.2.2.2.2.2) | (with_reducible exact Ne.symm hc9.2.2.2.2.2.2.2) | (with_reducible exact hc9.2.2.2.2.2.2.2.2.1) | (with_reducible exact Ne.symm hc9.2.2.2.2.2.2.2.2.1) | (with_reducible exact hc9.2.2.2.2.2.2.2.2) | (with_reducible exact Ne.symm hc9.2.2.2.2.2.2.2.2) | (with_reducible exact hc9.2.2.2.2.2.2.2.2.2.1) | (with_reducible exact Ne.symm hc9.2.2.2.2.2.2.2.2.2.1) | (with_reducible exact hc9.2.2.2.2.2.2.2.2.2) | (with_reducible exact Ne.symm hc9.2.2.2.2.2.2.2.2.2) | (with_reducible exact hc9.2.2.2.2.2.2.2.2.2.2.1) | (with_reducible exact Ne.symm hc9.2.2.2.2.2.2.2.2.2.2.1) | (with_reducible exact hc9.2.2.2.2.2.2.2.2.2.2) | (with_reducible exact Ne.symm hc9.2.2.2.2.2.2.2.2.2.2) | (with_reducible exact hc9.2.2.2.2.2.2.2.2.2.2.2.1) | (with_reducible exact Ne.symm hc9.2.2.2.2.2.2.2.2.2.2.2.1) | (with_reducible exact hc9.2.2.2.2.2.2.2.2.2.2.2) | (with_reducible exact Ne.symm hc9.2.2.2.2.2.2.2.2.2.2.2) | (with_reducible exact hc9.2.2.2.2.2.2.2.2.2.2.2.2.1) | (with_reducible exact Ne.symm hc9.2.2.2.2.2.2.2.2.2.2.2.2.1) | (with_reducible exact hc9.2.2.2.2.2.2.2.2.2.2.2.2) | (with_reducible exact Ne.symm hc9.2.2.2.2.2.2.2.2.2.2.2.2) | (with_reducible exact hc9.2.2.2.2.2.2.2.2.2.2.2.2.2.1) | (with_reducible exact Ne.symm hc9.2.2.2.2.2.2.2.2.2.2.2.2.2.1) | (with_reducible exact hc9.2.2.2.2.2.2.2.2.2.2.2.2.2) | (with_reducible exact Ne.symm hc9.2.2.2.2.2.2.2.2.2.2.2.2.2) | (clear hc9; k_extra "M nec")) | ((rename ((_ ≠ _) ∧ _) ∧ _ => hc9); first | (with_reducible exact hc9.1.1) | (with_reducible exact Ne.symm hc9.1.1) | (with_reducible exact hc9.1.2.1) | (with_reducible exact Ne.symm hc9.1.2.1) | (with_reducible exact hc9.1.2.2) | (with_reducible exact Ne.symm hc9.1.2.2) | (with_reducible exact hc9.1) | (with_reducible exact Ne.symm hc9.1) | (with_reducible exact hc9.2.1) | (with_reducible exact Ne.symm hc9.2.1) | (with_reducible exact hc9.2.2) | (with_reducible exact Ne.symm hc9.2.2) | (with_reducible exact hc9.2.1.1) | (with_reducible exact Ne.symm hc9.2.1.1) | (with_reducible exact hc9.2.1.2.1) | (with_reducible exact Ne.symm hc9.2.1.2.1) | (with_reducible exact hc9.2.1.2.2) | (with_reducible exact Ne.symm hc9.2.1.2.2) | (with_reducible exact hc9.2.2.1) | (with_reducible exact Ne.symm hc9.2.2.1) | (with_reducible exact hc9.2.2.2) | (with_reducible exact Ne.symm hc9.2.2.2) | (with_reducible exact hc9.2.2.1.1) | (with_reducible exact Ne.symm hc9.2.2.1.1) | (with_reducible exact hc9.2.2.1.2.1) | (with_reducible exact Ne.symm hc9.2.2.1.2.1) | (with_reducible exact hc9.2.2.1.2.2) | (with_reducible exact Ne.symm hc9.2.2.1.2.2) | (with_reducible exact hc9.2.2.2.1) | (with_reducible exact Ne.symm hc9.2.2.2.1) | (with_reducible exact hc9.2.2.2.2) | (with_reducible exact Ne.symm hc9.2.2.2.2) | (with_reducible exact hc9.2.2.2.1.1) | (with_reducible exact Ne.symm hc9.2.2.2.1.1) | (with_reducible exact hc9.2.2.2.1.2.1) | (with_reducible exact Ne.symm hc9.2.2.2.1.2.1) | (with_reducible exact hc9.2.2.2.1.2.2) | (with_reducible exact Ne.symm hc9.2.2.2.1.2.2) | (with_reducible exact hc9.2.2.2.2.1) | (with_reducible exact Ne.symm hc9.2.2.2.2.1) | (with_reducible exact hc9.2.2.2.2.2) | (with_reducible exact Ne.symm hc9.2.2.2.2.2) | (with_reducible exact hc9.2.2.2.2.1.1) | (with_reducible exact Ne.symm hc9.2.2.2.2.1.1) | (with_reducible exact hc9.2.2.2.2.1.2.1) | (with_reducible exact Ne.symm hc9.2.2.2.2.1.2.1) | (with_reducible exact hc9.2.2.2.2.1.2.2) | (with_reducible exact Ne.symm hc9.2.2.2.2.1.2.2) | (with_reducible exact hc9.2.2.2.2.2.1) | (with_reducible exact Ne.symm hc9.2.2.2.2.2.1) | (with_reducible exact hc9.2.2.2.2.2.2) | (with_reducible exact Ne.symm hc9.2.2.2.2.2.2) | (with_reducible exact hc9.2.2.2.2.2.1.1) | (with_reducible exact Ne.symm hc9.2.2.2.2.2.1.1) | (with_reducible exact hc9.2.2.2.2.2.1.2.1) | (with_reducible exact Ne.symm hc9.2.2.2.2.2.1.2.1) | (with_reducible exact hc9.2.2.2.2.2.1.2.2) | (with_reducible exact Ne.symm hc9.2.2.2.2.2.1.2.2) | (with_reducible exact hc9.2.2.2.2.2.2.1) | (with_reducible exact Ne.symm hc9.2.2.2.2.2.2.1) | (with_reducible exact hc9.2.2.2.2.2.2.2) | (with_reducible exact Ne.symm hc9.2.2.2.2.2.2.2) | (with_reducible exact hc9.2.2.2.2.2.2.1.1) | (with_reducible exact Ne.symm hc9.2.2.2.2.2.2.1.1) | (with_reducible exact hc9.2.2.2.2.2.2.1.2.1) | (with_reducible exact Ne.symm hc9.2.2.2.2.2.2.1.2.1) | (with_reducible exact hc9.2.2.2.2.2.2.1.2.2) | (with_reducible exact Ne.symm hc9.2.2.2.2.2.2.1.2.2) | (with_reducible exact hc9.2.2.2.2.2.2.2.1) | (with_reducible exact Ne.symm hc9.2.2.2.2.2.2.2.1) | (with_reducible exact hc9.2.2.2.2.2.2.2.2) | (with_reducible exact Ne.symm hc9.2.2.2.2.2.2.2.2) | (with_reducible exact hc9.2.2.2.2.2.2.2.1.1) | (with_reducible exact Ne.symm hc9.2.2.2.2.2.2.2.1.1) | (with_reducible exact hc9.2.2.2.2.2.2.2.1.2.1) | (with_reducible exact Ne.symm hc9.2.2.2.2.2.2.2.1.2.1) | (with_reducible exact hc9.2.2.2.2.2.2.2.1.2.2) | (with_reducible exact Ne.symm hc9.2.2.2.2.2.2.2.1.2.2) | (with_reducible exact hc9.2.2.2.2.2.2.2.2.1) | (with_reducible exact Ne.symm hc9.2.2.2.2.2.2.2.2.1) | (with_reducible exact hc9.2.2.2.2.2.2.2.2.2) | (with_reducible exact Ne.symm hc9.2.2.2.2.2.2.2.2.2) | (with_reducible exact hc9.2.2.2.2.2.2.2.2.1.1) | (with_reducible exact Ne.symm hc9.2.2.2.2.2.2.2.2.1.1) | (with_reducible exact hc9.2.2.2.2.2.2.2.2.1.2.1) | (with_reducible exact Ne.symm hc9.2.2.2.2.2.2.2.2.1.2.1) | (with_reducible exact hc9.2.2.2.2.2.2.2.2.1.2.2) | (with_reducible exact Ne.symm hc9.2.2.2.2.2.2.2.2.1.2.2) | (with_reducible exact hc9.2.2.2.2.2.2.2.2.2.1) | (with_reducible exact Ne.symm hc9.2.2.2.2.2.2.2.2.2.1) | (with_reducible exact hc9.2.2.2.2.2.2.2.2.2.2) | (with_reducible exact Ne.symm hc9.2.2.2.2.2.2.2.2.2.2) | (with_reducible exact hc9.2.2.2.2.2.2.2.2.2.1.1) | (with_reducible exact Ne.symm hc9.2.2.2.2.2.2.2.2.2.1.1) | (with_reducible exact hc9.2.2.2.2.2.2.2.2.2.1.2.1) | (with_reducible exact Ne.symm hc9.2.2.2.2.2.2.2.2.2.1.2.1) | (with_reducible exact hc9.2.2.2.2.2.2.2.2.2.1.2.2) | (with_reducible exact Ne.symm hc9.2.2.2.2.2.2.2.2.2.1.2.2) | (with_reducible exact hc9.2.2.2.2.2.2.2.2.2.2.1) | (with_reducible exact Ne.symm hc9.2.2.2.2.2.2.2.2.2.2.1) | (with_reducible exact hc9.2.2.2.2.2.2.2.2.2.2.2) | (with_reducible exact Ne.symm hc9.2.2.2.2.2.2.2.2.2.2.2) | (with_reducible exact hc9.2.2.2.2.2.2.2.2.2.2.1.1) | (with_reducible exact Ne.symm hc9.2.2.2.2.2.2.2.2.2.2.1.1) | (with_reducible exact hc9.2.2.2.2.2.2.2.2.2.2.1.2.1) | (with_reducible exact Ne.symm hc9.2.2.2.2.2.2.2.2.2.2.1.2.1) | (with_reducible exact hc9.2.2.2.2.2.2.2.2.2.2.1.2.2) | (with_reducible exact Ne.symm hc9.2.2.2.2.2.2.2.2.2.2.1.2.2) | (with_reducible exact hc9.2.2.2.2.2.2.2.2.2.2.2.1) | (with_reducible exact Ne.symm hc9.2.2.2.2.2.2.2.2.2.2.2.1) | (with_reducible exact hc9.2.2.2.2.2.2.2.2.2.2.2.2) | (with_reducible exact Ne.symm hc9.2.2.2.2.2.2.2.2.2.2.2.2) | (clear hc9; k_extra "M nec")))
  k_with "M enter" => ((refine' code_defG ?k1 ?k2 ?k3 ?k4 ?k5 ?kA ?kF ?kK ?k6 ?k7 ?k8 ?k9 ?kB ?_ ?c2 ?c3 ?c4 ?c5; (case kA => exact rfl); (case kF => exact rfl); (case kK => first | assumption | exact rfl); (case k1 => k_asm); (case k2 => k_asm); (case k3 => k_asm); (case k4 => k_asm); (case k5 => k_asm); (case k6 => k_is); (case k7 => k_is); (case k8 => ktr_room); (case k9 => exact BindsTo.of_eq rfl); (case c5 => decide); (case kB => exact locs rfl); (case c2 => exact rfl); (case c3 => exact rfl); (case c4 => exact rfl); k_whole; intro g' L' h' FG' F' N' B' X' T' kG'; (try dsimp only at F' N' kG' ⊢); (try k_fold)))
  k_with "M enterC" => ((refine' enterCells ?k1 ?k2 ?k3 ?k4 ?k5 ?kA ?kF ?kK ?k6 ?k7 ?k8 ?k9 ?kB ?kD ?_ ?c2 ?c3 ?c4; (case kA => exact rfl); (case kF => exact rfl); (case kK => first | assumption | exact rfl); (case k1 => k_asm); (case k2 => k_asm); (case k3 => k_asm); (case k4 => k_asm); (case k5 => k_asm); (case k6 => k_is); (case k7 => k_is); (case k8 => ktr_room); (case k9 => exact BindsTo.of_eq rfl); (case kB => exact rfl); (case kD => decide +kernel); (case c2 => exact rfl); (case c3 => exact rfl); (case c4 => exact rfl); k_whole; intro g' L' h' tk' cells' FG' F' N' Y' B' X' T' kG' l1 l2; (try k_lt l1); k_cells Y'; (try simp only [List.cons_append, List.nil_append] at N'); (try dsimp only at F' N' kG' ⊢); (try k_fold)))
  k_with "M sub" => ((first | exact List.forall_mem_nil _ | (refine List.forall_mem_cons.mpr ⟨?kms1, ?kms2⟩; (case kms1 => (intro hW; first | k_mem | (refine (hW ?_).elim; k_mem))); (case kms2 => k_extra "M sub"))))
  k_with "subscriptTail Name Constant ref int" => ((k_here; (with_reducible show wpAny _ _ (subscriptTail _ _ (Value.ref _) (Value.int _ _)) _ _ _); kim_at))
  k_with "call builtin:divmod" => ((k_here; (with_reducible show wpAny _ _ (call (Value.builtin _) [Value.int _ _, Value.int _ _]) _ _ _); k_dflt (refine' divmod_K ?k1 ?k2 ?k3 ?k4 ?_; (case k1 => k_asm); (case k2 => k_asm); (case k3 => omega); (case k4 => exact PyProof.noPylong_small (by omega)); k_whole); intro D' h' t1 t2 F' N' l1; (try k_lt l1); (try k_sweep)))
  k_with "call ref" => ((k_here; (with_reducible show wpAny _ _ (call (Value.ref 107) _ _) _ _ _); k_dflt (refine' draw_use ?k1 ?k2 ?k3 ?k4 ?k5 ?k6 ?k7 ?k8 ?b1 ?b2 ?b3 ?b4 ?b5 ?_; (case k1 => k_asm); (case k2 => k_asm); (case k3 => k_asm); (case k4 => k_asm); (case k5 => first | exact rfl | assumption); (case k6 => ktr_room); (case k7 => k_asm); (case k8 => k_updF); (case b1 => omega); (case b2 => omega); (case b3 => omega); (case b4 => omega); (case b5 => omega)); intro h' tk' n' c' t' u' k' d' td' K' F' N' b1 b2 b3 b4 b5; (try dsimp only at N'); (try k_sweep); (try k_fold)))
  k_with "call builtin:len" => ((k_here; (with_reducible show wpAny _ _ (call (Value.builtin "len") [Value.ref _]) _ _ _); k_dflt (first | (refine' len_tupA ?k1 ?k2 ?k3 ?_; (case k1 => k_asm); (case k2 => k_mem); (case k3 => omega)) | (refine' len_lstA ?k1 ?k2 ?k3 ?_; (case k1 => k_asm); (case k2 => k_mem); (case k3 => omega))); intro t' tk'; (try simp only [List.length_cons, List.length_nil])))
  k_with "subscriptTail Name Call ref int" => ((k_here; (with_reducible show wpAny _ _ (subscriptTail _ _ (Value.ref _) (Value.int _ _)) _ _ _); k_dflt (refine' tup_item_any ?k1 ?k2 ?k3 ?k4 ?k5 ?_ ?k6 ?k7; (case k1 => k_asm); (case k2 => k_mem); (case k3 => omega); (case k4 => omega); (case k5 => omega); (case k6 => with_unfolding_all rfl); (case k7 => (intro _; with_unfolding_all rfl))); intro x' hx' hxm'; (try k_fold)))
  k_with "call ref" => ((k_here; (with_reducible show wpAny _ _ (call (Value.ref 114) _ _) _ _ _); k_dflt (refine' pick_use ?k1 ?k2 ?k3 ?k4 ?k5 ?k6 ?k7 ?k8 ?k9 ?kA ?b1 ?b2 ?b3 ?b4 ?b5 ?_; (case k1 => k_asm); (case k2 => k_asm); (case k3 => k_asm); (case k4 => k_asm); (case k5 => first | exact rfl | assumption); (case k6 => ktr_room); (case k7 => k_asm); (case k8 => k_updF); (case k9 => k_mem); (case kA => (refine neN ?_; omega)); (case b1 => omega); (case b2 => omega); (case b3 => omega); (case b4 => (simp only [List.length_cons, List.length_nil]; omega)); (case b5 => (simp only [List.length_cons, List.length_nil]; omega))); intro h' tk' n' c' t' u' k' x' K' F' N' b1 b2 b3 b4; (try dsimp only at N'); (try k_sweep); (try k_fold)))
  k_with "binaryOp Mult ref int" => ((k_here; (with_reducible show wpAny _ _ (binaryOp Operator.Mult (Value.ref _) (Value.int _ _)) _ _ _); k_dflt (refine' tup_mul ?k1 ?k2 ?k3 ?k4 ?k5 ?_ ?_ ?_; (case k1 => k_asm); (case k2 => k_asm); (case k3 => k_mem); (case k4 => omega); (case k5 => omega)); (all_goals (intro hx9; (try (exfalso; omega; done)))); (all_goals (try (intro D' h' F' N' l1; (try k_lt l1); (try k_sweep)))); (all_goals (try k_unmd)); (all_goals (try k_fold))))
  k_with "subscriptTail Name Slice ref ref" => ((k_here; (with_reducible show wpAny _ _ (subscriptTail _ _ (Value.ref _) (Value.ref _)) _ _ _); k_dflt (refine' cut_tail ?k1 ?k2 ?k3 ?k4 ?_ ?_ ?k5 ?k6; (case k1 => k_asm); (case k2 => k_asm); (case k3 => k_mem); (case k4 => omega); (case k5 => with_unfolding_all rfl); (case k6 => (intro _; with_unfolding_all rfl))); (all_goals intro hx9); (all_goals (first | (intro D' h' F' N' l1; (try k_lt l1); (try k_sweep)) | (intro h' F' N'; (try k_sweep)))); (all_goals (try k_unmd)); (all_goals (try k_fold))))
  k_with "CompSrc" => ((k_here; k_dflt (refine LCg.CompSrc.range (by rfl) (by k_asm) (by k_asm) (by assumption) (by first | decide | rfl) (by first | rfl | decide) (by first | size_fits | exact Nat.le_of_ble_eq_true rfl) ?_; intro gc'; lcg_lit)))
  k_with "execs nil" => ((k_here; (with_reducible refine wpAny_execs_nil ?_)))
  k_with "eval ListComp" => ((k_here; lct_look; k_dflt (refine LCt.ListComp_T (F₀ := by k_asm) (by with_unfolding_all rfl) (by decide) (by rfl) (by decide) (by rfl) ?_)))
  k_with "M ints" => (first | exact IntsAre.nil | exact IntsAre.cons _ _ .nil | exact IntsAre.cons _ _ (.cons _ _ .nil) | exact IntsAre.cons _ _ (.cons _ _ (.cons _ _ .nil)) | assumption)
  k_with "call ref" => ((k_here; (with_reducible show wpAny _ _ (call (Value.ref 22) _ _) _ _ _); refine wpAny_call ?_; k_dflt (k_extra "M enter")))
  k_with "M test" => ((unfold TestEnd; refine ⟨?t1, _, _, rfl, ?t2, ?t3⟩; (case t1 => first | exact rfl | exact inR_lt (by omega) | exact inR_neg (by omega)); (case t2 => k_asm); (case t3 => k_asm)))
  k_with "compareOp Eq ref ref" => ((k_here; k_dflt (refine' eq_tup_nil ?k1 ?k2 ?k3 ?k4 ?_; (case k1 => k_asm); (case k2 => k_mem); (case k3 => k_mem); (case k4 => first | units_room | exact Nat.le_of_ble_eq_true rfl)); (try simp only [List.size_toArray, List.length_cons, List.length_nil])))
  k_with "call ref" => ((k_here; (with_reducible show wpAny _ _ (call (Value.ref 93) _ _) _ _ _); (try simp only [List.nil_append]); refine wpAny_call ?_; k_dflt (k_extra "M enter")))
  k_with "call ref" => ((k_here; (with_reducible show wpAny _ _ (call (Value.ref 126) _ _) _ _ _); refine wpAny_call ?_; k_dflt (k_extra "M enter")))
  k_with "compareOp NotIn int ref" => ((k_here; (with_reducible show wpAny _ _ (compareOp CmpOp.NotIn (Value.int _ _) (Value.ref _)) _ _ _); k_dflt (refine notin_range (by assumption) ?_)))
  k_with "eval ListComp" => ((k_here; lct_look; k_dflt (first | refine ListComp_Tup (iter := Expr.Subscript _ _ _) (_F := by k_asm) (by with_unfolding_all rfl) (by decide) (by rfl) (by decide) (by rfl) ?_ | refine LCt.ListComp_T (F₀ := by k_asm) (by with_unfolding_all rfl) (by decide) (by rfl) (by decide) (by rfl) ?_)))
  k_with "CompSrcU" => ((k_here; refine sealUOf ?_))
  k_with "subscriptTail Name Slice ref ref" => ((k_here; (with_reducible show wpAny _ _ (subscriptTail _ _ (Value.ref _) (Value.ref _)) _ _ _); k_dflt (refine' tail_from ?k1 ?k2 ?k3 ?k4 ?_ ?k5 ?k6; (case k1 => k_asm); (case k2 => k_asm); (case k3 => k_mem); (case k4 => (simp only [List.length_cons, List.length_nil]; omega)); (case k5 => with_unfolding_all rfl); (case k6 => (intro _; with_unfolding_all rfl))); intro D' h' F' N' l1; (try k_lt l1); (try k_sweep)))
  k_with "M strs6" => (first | exact List.forall_mem_nil _ | (refine List.forall_mem_cons.mpr ⟨⟨_, _, rfl⟩, ?_⟩; k_extra "M strs6"))
  k_with "compareOp NotIn int ref" => ((k_here; (with_reducible show wpAny _ _ (compareOp CmpOp.NotIn (Value.int _ _) (Value.ref _)) _ _ _); k_dflt (first | refine notin_range (by assumption) ?_ | (refine' notin_strs ?k1 ?k2 ?k3 ?_; (case k1 => k_asm); (case k2 => k_mem); (case k3 => k_extra "M strs6")))))
  k_with "call ref" => ((k_here; (with_reducible show wpAny _ _ (call (Value.ref 93) _) _ _ _); k_dflt (refine' parts_use ?k1 ?k2 ?k3 ?k4 ?k5 ?k6 ?k7 ?_; (case k1 => k_asm); (case k2 => k_asm); (case k3 => k_asm); (case k4 => k_asm); (case k5 => first | exact rfl | assumption); (case k6 => ktr_room); (case k7 => k_asm)); (iterate 4 intro _); (iterate 26 intro _); intro KP F' N' lo' hd' hf'; (try k_sweep); (try k_fold)))
  k_with "M memt" => (first | (with_reducible assumption) | ((with_reducible refine List.mem_cons_of_mem _ ?_); k_extra "M memt"))
  k_with "M subv" => (first | exact List.forall_mem_nil _ | ((with_reducible refine List.forall_mem_cons.mpr ⟨?kms1, ?kms2⟩); (case kms1 => k_mem); (case kms2 => k_extra "M subv")) | (intro p8 hp8; k_extra "M memt"))
  k_with "M sub" => ((first | exact List.forall_mem_nil _ | (refine List.forall_mem_cons.mpr ⟨?kms1, ?kms2⟩; (case kms1 => (intro hW; first | k_mem | (refine (hW ?_).elim; k_mem))); (case kms2 => k_extra "M sub")) | (intro p8 hp8 hW8; k_extra "M memt")))
  k_with "M size" => (first | exact size_few (by first | omega | (simp only [List.length_append, List.length_cons, List.length_nil]; omega)) | size_fits)
  k_with "call builtin:list.append" => ((k_here; (with_reducible show wpAny _ _ (call (Value.builtin _) [Value.ref _, _]) _ _ _); k_dflt (refine' append_K ?k1 ?k2 ?k3 ?_ ?z; (case k1 => k_asm); (case k2 => k_asm); (case k3 => k_upd); (case z => k_extra "M size")); intro h' F' N'; (try k_sweep)))
  exact True.intro

theorem led_cons {h₀ h : Heap} {L : Addr} {l R : List (Addr × Obj)} (N : News h₀ L h l) (hR : ∀ p ∈ R, NewAt h₀ L h p.1 p.2) : News h₀ L h (l ++ R) := fun p hp => (List.mem_append.mp hp).elim (N p) (hR p)
theorem fault_ok {w : World} {mean : ExcName → Option Value} {mg mb : Str → Option Value} {dp un : Nat} {gd : Option (List Code)} {cn : Str} {cs : Scope} {a : Addr} {ccd : Value} {cl : List (Str × Addr)} {outer : List Env} {A₀ : Around} {base h₀ : Heap} {L : Addr} {m : Str → Option Value} {s : Shared} {Q E : Value → Shared → Prop}
  {C D O G : Addr} {os bs : List Value} {t u : Tok} {nd : Nat} {v : Value} {o : Op}
  (B : Below A₀ base outer h₀) (F : Fr h₀ L s.heap m) (X : (Mine.hd.heap_1 w.params).In h₀) (T : Top Mine.hd.view_1 lo mean mg mb h₀) (hk : cs.kind = .function) (hd : dp + 2 < recursionLimit) (hu : un + 400 < cLine)
  (N : News h₀ L s.heap [(C, instObj 82 D), (D, codeDict w O G t u nd), (O, tupOf os), (G, tupOf bs)]) (hO : OpIs (NewAt h₀ L s.heap) v o) (hw : o.WF)
  (hos : os.length < 100) (hbs : bs.length < 100)
  (hret : ∀ h' tk t z, KeepBut [] s.heap h' → z = faultP os.length bs.length o → Q (.str z t) { s with heap := h', toks := tk }) :
  wpAny (model PySem.Challenge.rw_pq0627_01.row.prog w) (ktrTop dp un gd cn cs L a ccd cl outer) (call (.ref 27) [.ref C, v]) Q E s := by
  rcases op_sh hO hw with ⟨a, rfl, e, rfl⟩ | ⟨a, n, t1, vs, R, l, rfl, e, hv, hR, hs, hf, _⟩
  · exact fn_0 B F X T hk hd hu (News.put N e) fun h' tk t K => hret h' tk t _ K rfl
  · exact ff_all B F X T hk hd hu (led_cons (News.put N e) hR) hs hv hos hbs fun h' tk t z K hz => hret h' tk t z K (hz.trans (hf _ _).symm)
theorem wrong_ok {w : World} {mean : ExcName → Option Value} {mg mb : Str → Option Value} {dp un : Nat} {gd : Option (List Code)} {cn : Str} {cs : Scope} {a : Addr} {ccd : Value} {cl : List (Str × Addr)} {outer : List Env} {A₀ : Around} {base h₀ : Heap} {L : Addr} {m : Str → Option Value} {s : Shared} {Q E : Value → Shared → Prop}
  {v : Value} {o : Op} {many begun : Int} {t u : Tok}
  (B : Below A₀ base outer h₀) (F : Fr h₀ L s.heap m) (X : (Mine.hd.heap_1 w.params).In h₀) (T : Top Mine.hd.view_1 lo mean mg mb h₀) (hk : cs.kind = .function) (hd : dp + 2 < recursionLimit) (hu : un + 400 < cLine)
  (hO : OpIs (NewAt h₀ L s.heap) v o) (hw : o.WF)
  (hm : 0 ≤ many) (hm2 : many < 100) (hb : 0 ≤ begun) (hb2 : begun < 100)
  (hret : ∀ h' tk t z, KeepBut [] s.heap h' → z = faultP many begun o → Q (.str z t) { s with heap := h', toks := tk }) :
  wpAny (model PySem.Challenge.rw_pq0627_01.row.prog w) (ktrTop dp un gd cn cs L a ccd cl outer) (call (.ref 131) [v, .int many t, .int begun u]) Q E s := by
  rcases op_sh hO hw with ⟨a, rfl, e, rfl⟩ | ⟨a, n, t1, vs, R, l, rfl, e, hv, hR, hs, hf, _⟩
  · exact ln_0 B F X T hk hd hu (News.put News.nil e) fun h' tk t K => hret h' tk t _ K rfl
  · exact lw_all B F X T hk hd hu (led_cons (News.put News.nil e) hR) hs hv hm hm2 hb hb2 fun h' tk t z K hz => hret h' tk t z K (hz.trans (hf _ _).symm)

theorem News.get3 {h₀ h : Heap} {L : Addr} {news : List (Addr × Obj)} {p : Addr × Obj} (N : News h₀ L h news) (hp : p ∈ news) : h.get? p.1 = some p.2 ∧ p.1 ≠ L ∧ h₀.get? p.1 = none := N p hp
section











theorem kreg29 : True := by
  w_top off
  k_with "compareOp Eq str str" => ((k_here; k_dflt (refine' eq_split ?_ ?_ <;> intro h9)))
  k_with "compareOp In str ref" => ((k_here; k_dflt (first | (refine' in_split2 ?k1 ?k2 ?_ ?_; (case k1 => k_asm); (case k2 => k_mem); (all_goals intro h9)) | (refine' in_split3 ?k1 ?k2 ?_ ?_; (case k1 => k_asm); (case k2 => k_mem); (all_goals intro h9)))))
  k_with "subscriptTail Name Constant ref int" => ((k_here; (with_reducible show wpAny _ _ (subscriptTail _ _ (Value.ref _) (Value.int 0 _)) _ _ _); k_dflt (refine' tup_head0 ?k1 ?k2 ?_; (case k1 => k_asm); (case k2 => k_mem))))
  k_with "subscriptTail Name Constant ref int" => ((k_here; (with_reducible show wpAny _ _ (subscriptTail _ _ (Value.ref _) (Value.int 1 _)) _ _ _); k_dflt (refine' tup_at1E ?k1 ?k2 ?k3 ?_; (case k1 => k_asm); (case k2 => k_mem); (case k3 => exact hs.ca (by with_reducible assumption)); intro v9 r9 e9 hv9; rcases hv9 with ⟨q9, t9, hv9⟩ | ⟨i9, t9, hv9⟩ <;> subst hv9)))
  k_with "M tkend" => ((
    rename News h₀ L _ _ => kN
    refine hret _ _ _ _ (keep_led kG0 (by assumption) N kN (by k_extra "M sub")) (by first | decide | omega) (by first | decide | omega)))
  k_with "M hbend" => ((
    rename News h₀ L _ _ => kN
    exact hret _ _ _ _ (keep_led kG0 (by assumption) N kN (by k_extra "M sub"))))
  exact True.intro

theorem tk_all {w : World} {mean : ExcName → Option Value} {mg mb : Str → Option Value} {dp un : Nat} {gd : Option (List Code)} {cn : Str} {cs : Scope} {a : Addr} {ccd : Value} {cl : List (Str × Addr)} {outer : List Env} {A₀ : Around} {base h₀ : Heap} {L : Addr} {m : Str → Option Value} {s : Shared} {Q E : Value → Shared → Prop}
  {x : Addr} {t1 : Tok} {n : Str} {vs : List Value} {l : List Int} {P : Addr → Obj → Prop}
  (B : Below A₀ base outer h₀) (F : Fr h₀ L s.heap m) (X : (Mine.hd.heap_1 w.params).In h₀) (T : Top Mine.hd.view_1 lo mean mg mb h₀) (hk : cs.kind = .function) (hd : dp + 1 < recursionLimit) (hs : OpSh P n vs l)
  (N : News h₀ L s.heap [(x, tupOf (.str n t1 :: vs))])
  (hret : ∀ h' tk i t, KeepBut [] s.heap h' → 0 ≤ i → i ≤ 2 → Q (.int i t) { s with heap := h', toks := tk }) :
  wpAny (model PySem.Challenge.rw_pq0627_01.row.prog w) (ktrTop dp un gd cn cs L a ccd cl outer) (call (.ref 34) [.ref x]) Q E s := by
  revert X; k_fill; intro X
  refine wpAny_call ?_
  k_dflt (k_extra "M enter")
  have kG0 := kG'
  k_steps
  all_goals k_extra "M tkend"

theorem kreg30 : True := by
  w_top off
  k_with "call ref" => ((k_here; (with_reducible show wpAny _ _ (call (Value.ref 34) _ _) _ _ _); k_dflt (refine' tk_all ?k1 ?k2 ?k3 ?k4 ?k5 ?k6 hs ?k7 ?_; (case k1 => k_asm); (case k2 => k_asm); (case k3 => k_asm); (case k4 => k_asm); (case k5 => first | exact rfl | assumption); (case k6 => ktr_room); (case k7 => (intro p hp; rw [List.mem_singleton.mp hp]; exact News.get3 (by assumption) (by k_mem)))); intro h' tk' i' t' K' b1 b2; (have F' := keep_nil_fr (by assumption) K'); (have N' := keep_nil_news (by assumption) K'); (try k_sweep); (try k_fold)))
  exact True.intro

theorem hb_all {w : World} {mean : ExcName → Option Value} {mg mb : Str → Option Value} {dp un : Nat} {gd : Option (List Code)} {cn : Str} {cs : Scope} {a : Addr} {ccd : Value} {cl : List (Str × Addr)} {outer : List Env} {A₀ : Around} {base h₀ : Heap} {L : Addr} {m : Str → Option Value} {s : Shared} {Q E : Value → Shared → Prop}
  {x : Addr} {t1 : Tok} {n : Str} {vs : List Value} {l : List Int} {P : Addr → Obj → Prop} {hv : Int} {u : Tok}
  (B : Below A₀ base outer h₀) (F : Fr h₀ L s.heap m) (X : (Mine.hd.heap_1 w.params).In h₀) (T : Top Mine.hd.view_1 lo mean mg mb h₀) (hk : cs.kind = .function) (hd : dp + 2 < recursionLimit) (hs : OpSh P n vs l)
  (N : News h₀ L s.heap [(x, tupOf (.str n t1 :: vs))])
  (hret : ∀ h' tk i t, KeepBut [] s.heap h' → Q (.int i t) { s with heap := h', toks := tk }) :
  wpAny (model PySem.Challenge.rw_pq0627_01.row.prog w) (ktrTop dp un gd cn cs L a ccd cl outer) (call (.ref 41) [.ref x, .int hv u]) Q E s := by
  revert X; k_fill; intro X
  refine wpAny_call ?_
  k_dflt (k_extra "M enter")
  have kG0 := kG'
  k_steps
  all_goals k_extra "M hbend"
end
theorem kreg31 : True := by
  w_top off
  k_with_none
  k_with "M ne" => (first | (with_reducible assumption) | (with_reducible exact Ne.symm (by assumption)) | (with_reducible exact Nat.ne_of_lt (by assumption)) | (with_reducible exact Nat.ne_of_gt (by assumption)) | (k_extra "M nec"))
  k_with "M nec" => (first | ((rename (_ < _) ∧ _ => hc9); first | (with_reducible exact Nat.ne_of_lt hc9.1) | (with_reducible exact Nat.ne_of_gt hc9.1) | (with_reducible exact Nat.ne_of_lt hc9) | (with_reducible exact Nat.ne_of_gt hc9) | (with_reducible exact Nat.ne_of_lt hc9.2.1) | (with_reducible exact Nat.ne_of_gt hc9.2.1) | (with_reducible exact Nat.ne_of_lt hc9.2) | (with_reducible exact Nat.ne_of_gt hc9.2) | (with_reducible exact Nat.ne_of_lt hc9.2.2.1) | (with_reducible exact Nat.ne_of_gt hc9.2.2.1) | (with_reducible exact Nat.ne_of_lt hc9.2.2) | (with_reducible exact Nat.ne_of_gt hc9.2.2) | (with_reducible exact Nat.ne_of_lt hc9.2.2.2.1) | (with_reducible exact Nat.ne_of_gt hc9.2.2.2.1) | (with_reducible exact Nat.ne_of_lt hc9.2.2.2) | (with_reducible exact Nat.ne_of_gt hc9.2.2.2) | (with_reducible exact Nat.ne_of_lt hc9.2.2.2.2.1) | (with_reducible exact Nat.ne_of_gt hc9.2.2.2.2.1) | (with_reducible exact Nat.ne_of_lt hc9.2.2.2.2) | (with_reducible exact Nat.ne_of_gt hc9.2.2.2.2) | (with_reducible exact Nat.ne_of_lt hc9.2.2.2.2.2.1) | (with_reducible exact Nat.ne_of_gt hc9.2.2.2.2.2.1) | (with_reducible exact Nat.ne_of_lt hc9.2.2.2.2.2) | (with_reducible exact Nat.ne_of_gt hc9.2.2.2.2.2) | (with_reducible exact Nat.ne_of_lt hc9.2.2.2.2.2.2.1) | (with_reducible exact Nat.ne_of_gt hc9.2.2.2.2.2.2.1) | (with_reducible exact Nat.ne_of_lt hc9.2.2.2.2.2.2) | (with_reducible exact Nat.ne_of_gt hc9.2.2.2.2.2.2) | (with_reducible exact Nat.ne_of_lt hc9.2.2.2.2.2.2.2.1) | (with_reducible exact Nat.ne_of_gt hc9.2.2.2.2.2.2.2.1) | (with_reducible exact Nat.ne_of_lt hc9.2.2.2.2.2.2.2) | (with_reducible exact Nat.ne_of_gt hc9.2.2.2.2.2.2.2) | (with_reducible exact Nat.ne_of_lt hc9.2.2.2.2.2.2.2.2.1) | (with_reducible exact Nat.ne_of_gt hc9.2.2.2.2.2.2.2.2.1) | (with_reducible exact Nat.ne_of_lt hc9.2.2.2.2.2.2.2.2) | (with_reducible exact Nat.ne_of_gt hc9.2.2.2.2.2.2.2.2) | (with_reducible exact Nat.ne_of_lt hc9.2.2.2.2.2.2.2.2.2.1) | (with_reducible exact Nat.ne_of_gt hc9.2.2.2.2.2.2.2.2.2.1) | (with_reducible exact Nat.ne_of_lt hc9.2.2.2.2.2.2.2.2.2) | (with_reducible exact Nat.ne_of_gt hc9.2.2.2.2.2.2.2.2.2) | (with_reducible exact Nat.ne_of_lt hc9.2.2.2.2.2.2.2.2.2.2.1) | (with_reducible exact Nat.ne_of_gt hc9.2.2.2.2.2.2.2.2.2.2.1) | (with_reducible exact Nat.ne_of_lt hc9.2.2.2.2.2.2.2.2.2.2) | (with_reducible exact Nat.ne_of_gt hc9.2.2.2.2.2.2.2.2.2.2) | (with_reducible exact Nat.ne_of_lt hc9.2.2.2.2.2.2.2.2.2.2.2.1) | (with_reducible exact Nat.ne_of_gt hc9.2.2.2.2.2.2.2.2.2.2.2.1) | (with_reducible exact Nat.ne_of_lt hc9.2.2.2.2.2.2.2.2.2.2.2) | (with_reducible exact Nat.ne_of_gt hc9.2.2.2.2.2.2.2.2.2.2.2) | (with_reducible exact Nat.ne_of_lt hc9.2.2.2.2.2.2.2.2.2.2.2.2.1) | (with_reducible exact Nat.ne_of_gt hc9.2.2.2.2.2.2.2.2.2.2.2.2.1) | (with_reducible exact Nat.ne_of_lt hc9.2.2.2.2.2.2.2.2.2.2.2.2) | (with_reducible exact Nat.ne_of_gt hc9.2.2.2.2.2.2.2.2.2.2.2.2) | (with_reducible exact Nat.ne_of_lt hc9.2.2.2.2.2.2.2.2.2.2.2.2.2.1) | (with_reducible exact Nat.ne_of_gt hc9.2.2.2.2.2.2.2.2.2.2.2.2.2.1) | (with_reducible exact Nat.ne_of_lt hc9.2.2.2.2.2.2.2.2.2.2.2.2.2) | (with_reducible exact Nat.ne_of_gt hc9.2.2.2.2.2.2.2.2.2.2.2.2.2) | (clear hc9; k_extra "M nec")) | ((rename (_ ≠ _) ∧ _ => hc9); first | (with_reducible exact hc9.1) | (with_reducible exact Ne.symm hc9.1) | (with_reducible exact hc9) | (with_reducible exact Ne.symm hc9) | (with_reducible exact hc9.2.1) | (with_reducible exact Ne.symm hc9.2.1) | (with_reducible exact hc9.2) | (with_reducible exact Ne.symm hc9.2) | (with_reducible exact hc9.2.2.1) | (with_reducible exact Ne.symm hc9.2.2.1) | (with_reducible exact hc9.2.2) | (with_reducible exact Ne.symm hc9.2.2) | (with_reducible exact hc9.2.2.2.1) | (with_reducible exact Ne.symm hc9.2.2.2.1) | (with_reducible exact hc9.2.2.2) | (with_reducible exact Ne.symm hc9.2.2.2) | (with_reducible exact hc9.2.2.2.2.1) | (with_reducible exact Ne.symm hc9.2.2.2.2.1) | (with_reducible exact hc9.2.2.2.2) | (with_reducible exact Ne.symm hc9.2.2.2.2) | (with_reducible exact hc9.2.2.2.2.2.1) | (with_reducible exact Ne.symm hc9.2.2.2.2.2.1) | (with_reducible exact hc9.2.2.2.2.2) | (with_reducible exact Ne.symm hc9.2.2.2.2.2) | (with_reducible exact hc9.2.2.2.2.2.2.1) | (with_reducible exact Ne.symm hc9.2.2.2.2.2.2.1) | (with_reducible exact hc9.2.2.2.2.2.2) | (with_reducible exact Ne.symm hc9.2.2.2.2.2.2) | (with_reducible exact hc9.2.2.2.2.2.2.2.1) | (with_reducible exact Ne.symm hc9.2.2.2.2.2.2.2.1) | (with_reducible exact hc9.2.2.2.2.2.2.2) | (with_reducible exact Ne.symm hc9.2.2.2.2.2.2.2) | (with_reducible exact hc9.2.2.2.2.2.2.2.2.1) | (with_reducible exact Ne.symm hc9.2.2.2.2.2.2.2.2.1) | (with_reducible exact hc9.2.2.2.2.2.2.2.2) | (with_reducible exact Ne.symm hc9.2.2.2.2.2.2.2.2) | (with_reducible exact hc9.2.2.2.2.2.2.2.2.2.1) | (with_reducible exact Ne.symm hc9.2.2.2.2.2.2.2.2.2.1) | (with_reducible exact hc9.2.2.2.2.2.2.2.2.2) | (with_reducible exact Ne.symm hc9.2.2.2.2.2.2.2.2.2) | (with_reducible exact hc9.2.2.2.2.2.2.2.2.2.2.1) | (with_reducible exact Ne.symm hc9.2.2.2.2.2.2.2.2.2.2.1) | (with_reducible exact hc9.2.2.2.2.2.2.2.2.2.2) | (with_reducible exact Ne.symm hc9.2.2.2.2.2.2.2.2.2.2) | (with_reducible exact hc9.2.2.2.2.2.2.2.2.2.2.2.1) | (with_reducible exact Ne.symm hc9.2.2.2.2.2.2.2.2.2.2.2.1) | (with_reducible exact hc9.2.2.2.2.2.2.2.2.2.2.2) | (with_reducible exact Ne.symm hc9.2.2.2.2.2.2.2.2.2.2.2) | (with_reducible exact hc9.2.2.2.2.2.2.2.2.2.2.2.2.1) | (with_reducible exact Ne.symm hc9.2.2.2.2.2.2.2.2.2.2.2.2.1) | (with_reducible exact hc9.2.2.2.2.2.2.2.2.2.2.2.2) | (with_reducible exact Ne.symm hc9.2.2.2.2.2.2.2.2.2.2.2.2) | (with_reducible exact hc9.2.2.2.2.2.2.2.2.2.2.2.2.2.1) | (with_reducible exact Ne.symm hc9.2.2.2.2.2.2.2.2.2.2.2.2.2.1) | (with_reducible exact hc9.2.2.2.2.2.2.2.2.2.2.2.2.2) | (with_reducible exact Ne.symm hc9.2.2.2.2.2.2.2.2.2.2.2.2.2) | (clear hc9; k_extra "M nec")) | ((rename ((_ ≠ _) ∧ _) ∧ _ => hc9); first | (with_reducible exact hc9.1.1) | (with_reducible exact Ne.symm hc9.1.1) | (with_reducible exact hc9.1.2.1) | (with_reducible exact Ne.symm hc9.1.2.1) | (with_reducible exact hc9.1.2.2) | (with_reducible exact Ne.symm hc9.1.2.2) | (with_reducible exact hc9.1) | (with_reducible exact Ne.symm hc9.1) | (with_reducible exact hc9.2.1) | (with_reducible exact Ne.symm hc9.2.1) | (with_reducible exact hc9.2.2) | (with_reducible exact Ne.symm hc9.2.2) | (with_reducible exact hc9.2.1.1) | (with_reducible exact Ne.symm hc9.2.1.1) | (with_reducible exact hc9.2.1.2.1) | (with_reducible exact Ne.symm hc9.2.1.2.1) | (with_reducible exact hc9.2.1.2.2) | (with_reducible exact Ne.symm hc9.2.1.2.2) | (with_reducible exact hc9.2.2.1) | (with_reducible exact Ne.symm hc9.2.2.1) | (with_reducible exact hc9.2.2.2) | (with_reducible exact Ne.symm hc9.2.2.2) | (with_reducible exact hc9.2.2.1.1) | (with_reducible exact Ne.symm hc9.2.2.1.1) | (with_reducible exact hc9.2.2.1.2.1) | (with_reducible exact Ne.symm hc9.2.2.1.2.1) | (with_reducible exact hc9.2.2.1.2.2) | (with_reducible exact Ne.symm hc9.2.2.1.2.2) | (with_reducible exact hc9.2.2.2.1) | (with_reducible exact Ne.symm hc9.2.2.2.1) | (with_reducible exact hc9.2.2.2.2) | (with_reducible exact Ne.symm hc9.2.2.2.2) | (with_reducible exact hc9.2.2.2.1.1) | (with_reducible exact Ne.symm hc9.2.2.2.1.1) | (with_reducible exact hc9.2.2.2.1.2.1) | (with_reducible exact Ne.symm hc9.2.2.2.1.2.1) | (with_reducible exact hc9.2.2.2.1.2.2) | (with_reducible exact Ne.symm hc9.2.2.2.1.2.2) | (with_reducible exact hc9.2.2.2.2.1) | (with_reducible exact Ne.symm hc9.2.2.2.2.1) | (with_reducible exact hc9.2.2.2.2.2) | (with_reducible exact Ne.symm hc9.2.2.2.2.2) | (with_reducible exact hc9.2.2.2.2.1.1) | (with_reducible exact Ne.symm hc9.2.2.2.2.1.1) | (with_reducible exact hc9.2.2.2.2.1.2.1) | (with_reducible exact Ne.symm hc9.2.2.2.2.1.2.1) | (with_reducible exact hc9.2.2.2.2.1.2.2) | (with_reducible exact Ne.symm hc9.2.2.2.2.1.2.2) | (with_reducible exact hc9.2.2.2.2.2.1) | (with_reducible exact Ne.symm hc9.2.2.2.2.2.1) | (with_reducible exact hc9.2.2.2.2.2.2) | (with_reducible exact Ne.symm hc9.2.2.2.2.2.2) | (with_reducible exact hc9.2.2.2.2.2.1.1) | (with_reducible exact Ne.symm hc9.2.2.2.2.2.1.1) | (with_reducible exact hc9.2.2.2.2.2.1.2.1) | (with_reducible exact Ne.symm hc9.2.2.2.2.2.1.2.1) | (with_reducible exact hc9.2.2.2.2.2.1.2.2) | (with_reducible exact Ne.symm hc9.2.2.2.2.2.1.2.2) | (with_reducible exact hc9.2.2.2.2.2.2.1) | (with_reducible exact Ne.symm hc9.2.2.2.2.2.2.1) | (with_reducible exact hc9.2.2.2.2.2.2.2) | (with_reducible exact Ne.symm hc9.2.2.2.2.2.2.2) | (with_reducible exact hc9.2.2.2.2.2.2.1.1) | (with_reducible exact Ne.symm hc9.2.2.2.2.2.2.1.1) | (with_reducible exact hc9.2.2.2.2.2.2.1.2.1) | (with_reducible exact Ne.symm hc9.2.2.2.2.2.2.1.2.1) | (with_reducible exact hc9.2.2.2.2.2.2.1.2.2) | (with_reducible exact Ne.symm hc9.2.2.2.2.2.2.1.2.2) | (with_reducible exact hc9.2.2.2.2.2.2.2.1) | (with_reducible exact Ne.symm hc9.2.2.2.2.2.2.2.1) | (with_reducible exact hc9.2.2.2.2.2.2.2.2) | (with_reducible exact Ne.symm hc9.2.2.2.2.2.2.2.2) | (with_reducible exact hc9.2.2.2.2.2.2.2.1.1) | (with_reducible exact Ne.symm hc9.2.2.2.2.2.2.2.1.1) | (with_reducible exact hc9.2.2.2.2.2.2.2.1.2.1) | (with_reducible exact Ne.symm hc9.2.2.2.2.2.2.2.1.2.1) | (with_reducible exact hc9.2.2.2.2.2.2.2.1.2.2) | (with_reducible exact Ne.symm hc9.2.2.2.2.2.2.2.1.2.2) | (with_reducible exact hc9.2.2.2.2.2.2.2.2.1) | (with_reducible exact Ne.symm hc9.2.2.2.2.2.2.2.2.1) | (with_reducible exact hc9.2.2.2.2.2.2.2.2.2) | (with_reducible exact Ne.symm hc9.2.2.2.2.2.2.2.2.2) | (with_reducible exact hc9.2.2.2.2.2.2.2.2.1.1) | (with_reducible exact Ne.symm hc9.2.2.2.2.2.2.2.2.1.1) | (with_reducible exact hc9.2.2.2.2.2.2.2.2.1.2.1) | (with_reducible exact Ne.symm hc9.2.2.2.2.2.2.2.2.1.2.1) | (with_reducible exact hc9.2.2.2.2.2.2.2.2.1.2.2) | (with_reducible exact Ne.symm hc9.2.2.2.2.2.2.2.2.1.2.2) | (with_reducible exact hc9.2.2.2.2.2.2.2.2.2.1) | (with_reducible exact Ne.symm hc9.2.2.2.2.2.2.2.2.2.1) | (with_reducible exact hc9.2.2.2.2.2.2.2.2.2.2) | (with_reducible exact Ne.symm hc9.2.2.2.2.2.2.2.2.2.2) | (with_reducible exact hc9.2.2.2.2.2.2.2.2.2.1.1) | (with_reducible exact Ne.symm hc9.2.2.2.2.2.2.2.2.2.1.1) | (with_reducible exact hc9.2.2.2.2.2.2.2.2.2.1.2.1) | (with_reducible exact Ne.symm hc9.2.2.2.2.2.2.2.2.2.1.2.1) | (with_reducible exact hc9.2.2.2.2.2.2.2.2.2.1.2.2) | (with_reducible exact Ne.symm hc9.2.2.2.2.2.2.2.2.2.1.2.2) | (with_reducible exact hc9.2.2.2.2.2.2.2.2.2.2.1) | (with_reducible exact Ne.symm hc9.2.2.2.2.2.2.2.2.2.2.1) | (with_reducible exact hc9.2.2.2.2.2.2.2.2.2.2.2) | (with_reducible exact Ne.symm hc9.2.2.2.2.2.2.2.2.2.2.2) | (with_reducible exact hc9.2.2.2.2.2.2.2.2.2.2.1.1) | (with_reducible exact Ne.symm hc9.2.2.2.2.2.2.2.2.2.2.1.1) | (with_reducible exact hc9.2.2.2.2.2.2.2.2.2.2.1.2.1) | (with_reducible exact Ne.symm hc9.2.2.2.2.2.2.2.2.2.2.1.2.1) | (with_reducible exact hc9.2.2.2.2.2.2.2.2.2.2.1.2.2) | (with_reducible exact Ne.symm hc9.2.2.2.2.2.2.2.2.2.2.1.2.2) | (with_reducible exact hc9.2.2.2.2.2.2.2.2.2.2.2.1) | (with_reducible exact Ne.symm hc9.2.2.2.2.2.2.2.2.2.2.2.1) | (with_reducible exact hc9.2.2.2.2.2.2.2.2.2.2.2.2) | (with_reducible exact Ne.symm hc9.2.2.2.2.2.2.2.2.2.2.2.2) | (clear hc9; k_extra "M nec")))
  k_with "M enter" => ((refine' code_defG ?k1 ?k2 ?k3 ?k4 ?k5 ?kA ?kF ?kK ?k6 ?k7 ?k8 ?k9 ?kB ?_ ?c2 ?c3 ?c4 ?c5; (case kA => exact rfl); (case kF => exact rfl); (case kK => first | assumption | exact rfl); (case k1 => k_asm); (case k2 => k_asm); (case k3 => k_asm); (case k4 => k_asm); (case k5 => k_asm); (case k6 => k_is); (case k7 => k_is); (case k8 => ktr_room); (case k9 => exact BindsTo.of_eq rfl); (case c5 => decide); (case kB => exact locs rfl); (case c2 => exact rfl); (case c3 => exact rfl); (case c4 => exact rfl); k_whole; intro g' L' h' FG' F' N' B' X' T' kG'; (try dsimp only at F' N' kG' ⊢); (try k_fold)))
  k_with "M enterC" => ((refine' enterCells ?k1 ?k2 ?k3 ?k4 ?k5 ?kA ?kF ?kK ?k6 ?k7 ?k8 ?k9 ?kB ?kD ?_ ?c2 ?c3 ?c4; (case kA => exact rfl); (case kF => exact rfl); (case kK => first | assumption | exact rfl); (case k1 => k_asm); (case k2 => k_asm); (case k3 => k_asm); (case k4 => k_asm); (case k5 => k_asm); (case k6 => k_is); (case k7 => k_is); (case k8 => ktr_room); (case k9 => exact BindsTo.of_eq rfl); (case kB => exact rfl); (case kD => decide +kernel); (case c2 => exact rfl); (case c3 => exact rfl); (case c4 => exact rfl); k_whole; intro g' L' h' tk' cells' FG' F' N' Y' B' X' T' kG' l1 l2; (try k_lt l1); k_cells Y'; (try simp only [List.cons_append, List.nil_append] at N'); (try dsimp only at F' N' kG' ⊢); (try k_fold)))
  k_with "M sub" => ((first | exact List.forall_mem_nil _ | (refine List.forall_mem_cons.mpr ⟨?kms1, ?kms2⟩; (case kms1 => (intro hW; first | k_mem | (refine (hW ?_).elim; k_mem))); (case kms2 => k_extra "M sub"))))
  k_with "subscriptTail Name Constant ref int" => ((k_here; (with_reducible show wpAny _ _ (subscriptTail _ _ (Value.ref _) (Value.int _ _)) _ _ _); kim_at))
  k_with "call builtin:divmod" => ((k_here; (with_reducible show wpAny _ _ (call (Value.builtin _) [Value.int _ _, Value.int _ _]) _ _ _); k_dflt (refine' divmod_K ?k1 ?k2 ?k3 ?k4 ?_; (case k1 => k_asm); (case k2 => k_asm); (case k3 => omega); (case k4 => exact PyProof.noPylong_small (by omega)); k_whole); intro D' h' t1 t2 F' N' l1; (try k_lt l1); (try k_sweep)))
  k_with "call ref" => ((k_here; (with_reducible show wpAny _ _ (call (Value.ref 107) _ _) _ _ _); k_dflt (refine' draw_use ?k1 ?k2 ?k3 ?k4 ?k5 ?k6 ?k7 ?k8 ?b1 ?b2 ?b3 ?b4 ?b5 ?_; (case k1 => k_asm); (case k2 => k_asm); (case k3 => k_asm); (case k4 => k_asm); (case k5 => first | exact rfl | assumption); (case k6 => ktr_room); (case k7 => k_asm); (case k8 => k_updF); (case b1 => omega); (case b2 => omega); (case b3 => omega); (case b4 => omega); (case b5 => omega)); intro h' tk' n' c' t' u' k' d' td' K' F' N' b1 b2 b3 b4 b5; (try dsimp only at N'); (try k_sweep); (try k_fold)))
  k_with "call builtin:len" => ((k_here; (with_reducible show wpAny _ _ (call (Value.builtin "len") [Value.ref _]) _ _ _); k_dflt (first | (refine' len_tupA ?k1 ?k2 ?k3 ?_; (case k1 => k_asm); (case k2 => k_mem); (case k3 => omega)) | (refine' len_lstA ?k1 ?k2 ?k3 ?_; (case k1 => k_asm); (case k2 => k_mem); (case k3 => omega))); intro t' tk'; (try simp only [List.length_cons, List.length_nil])))
  k_with "subscriptTail Name Call ref int" => ((k_here; (with_reducible show wpAny _ _ (subscriptTail _ _ (Value.ref _) (Value.int _ _)) _ _ _); k_dflt (refine' tup_item_any ?k1 ?k2 ?k3 ?k4 ?k5 ?_ ?k6 ?k7; (case k1 => k_asm); (case k2 => k_mem); (case k3 => omega); (case k4 => omega); (case k5 => omega); (case k6 => with_unfolding_all rfl); (case k7 => (intro _; with_unfolding_all rfl))); intro x' hx' hxm'; (try k_fold)))
  k_with "call ref" => ((k_here; (with_reducible show wpAny _ _ (call (Value.ref 114) _ _) _ _ _); k_dflt (refine' pick_use ?k1 ?k2 ?k3 ?k4 ?k5 ?k6 ?k7 ?k8 ?k9 ?kA ?b1 ?b2 ?b3 ?b4 ?b5 ?_; (case k1 => k_asm); (case k2 => k_asm); (case k3 => k_asm); (case k4 => k_asm); (case k5 => first | exact rfl | assumption); (case k6 => ktr_room); (case k7 => k_asm); (case k8 => k_updF); (case k9 => k_mem); (case kA => (refine neN ?_; omega)); (case b1 => omega); (case b2 => omega); (case b3 => omega); (case b4 => (simp only [List.length_cons, List.length_nil]; omega)); (case b5 => (simp only [List.length_cons, List.length_nil]; omega))); intro h' tk' n' c' t' u' k' x' K' F' N' b1 b2 b3 b4; (try dsimp only at N'); (try k_sweep); (try k_fold)))
  k_with "binaryOp Mult ref int" => ((k_here; (with_reducible show wpAny _ _ (binaryOp Operator.Mult (Value.ref _) (Value.int _ _)) _ _ _); k_dflt (refine' tup_mul ?k1 ?k2 ?k3 ?k4 ?k5 ?_ ?_ ?_; (case k1 => k_asm); (case k2 => k_asm); (case k3 => k_mem); (case k4 => omega); (case k5 => omega)); (all_goals (intro hx9; (try (exfalso; omega; done)))); (all_goals (try (intro D' h' F' N' l1; (try k_lt l1); (try k_sweep)))); (all_goals (try k_unmd)); (all_goals (try k_fold))))
  k_with "subscriptTail Name Slice ref ref" => ((k_here; (with_reducible show wpAny _ _ (subscriptTail _ _ (Value.ref _) (Value.ref _)) _ _ _); k_dflt (refine' cut_tail ?k1 ?k2 ?k3 ?k4 ?_ ?_ ?k5 ?k6; (case k1 => k_asm); (case k2 => k_asm); (case k3 => k_mem); (case k4 => omega); (case k5 => with_unfolding_all rfl); (case k6 => (intro _; with_unfolding_all rfl))); (all_goals intro hx9); (all_goals (first | (intro D' h' F' N' l1; (try k_lt l1); (try k_sweep)) | (intro h' F' N'; (try k_sweep)))); (all_goals (try k_unmd)); (all_goals (try k_fold))))
  k_with "CompSrc" => ((k_here; k_dflt (refine LCg.CompSrc.range (by rfl) (by k_asm) (by k_asm) (by assumption) (by first | decide | rfl) (by first | rfl | decide) (by first | size_fits | exact Nat.le_of_ble_eq_true rfl) ?_; intro gc'; lcg_lit)))
  k_with "execs nil" => ((k_here; (with_reducible refine wpAny_execs_nil ?_)))
  k_with "eval ListComp" => ((k_here; lct_look; k_dflt (refine LCt.ListComp_T (F₀ := by k_asm) (by with_unfolding_all rfl) (by decide) (by rfl) (by decide) (by rfl) ?_)))
  k_with "M ints" => (first | exact IntsAre.nil | exact IntsAre.cons _ _ .nil | exact IntsAre.cons _ _ (.cons _ _ .nil) | exact IntsAre.cons _ _ (.cons _ _ (.cons _ _ .nil)) | assumption)
  k_with "call ref" => ((k_here; (with_reducible show wpAny _ _ (call (Value.ref 22) _ _) _ _ _); refine wpAny_call ?_; k_dflt (k_extra "M enter")))
  k_with "M test" => ((unfold TestEnd; refine ⟨?t1, _, _, rfl, ?t2, ?t3⟩; (case t1 => first | exact rfl | exact inR_lt (by omega) | exact inR_neg (by omega)); (case t2 => k_asm); (case t3 => k_asm)))
  k_with "compareOp Eq ref ref" => ((k_here; k_dflt (refine' eq_tup_nil ?k1 ?k2 ?k3 ?k4 ?_; (case k1 => k_asm); (case k2 => k_mem); (case k3 => k_mem); (case k4 => first | units_room | exact Nat.le_of_ble_eq_true rfl)); (try simp only [List.size_toArray, List.length_cons, List.length_nil])))
  k_with "call ref" => ((k_here; (with_reducible show wpAny _ _ (call (Value.ref 93) _ _) _ _ _); (try simp only [List.nil_append]); refine wpAny_call ?_; k_dflt (k_extra "M enter")))
  k_with "call ref" => ((k_here; (with_reducible show wpAny _ _ (call (Value.ref 126) _ _) _ _ _); refine wpAny_call ?_; k_dflt (k_extra "M enter")))
  k_with "compareOp NotIn int ref" => ((k_here; (with_reducible show wpAny _ _ (compareOp CmpOp.NotIn (Value.int _ _) (Value.ref _)) _ _ _); k_dflt (refine notin_range (by assumption) ?_)))
  k_with "eval ListComp" => ((k_here; lct_look; k_dflt (first | refine ListComp_Tup (iter := Expr.Subscript _ _ _) (_F := by k_asm) (by with_unfolding_all rfl) (by decide) (by rfl) (by decide) (by rfl) ?_ | refine LCt.ListComp_T (F₀ := by k_asm) (by with_unfolding_all rfl) (by decide) (by rfl) (by decide) (by rfl) ?_)))
  k_with "CompSrcU" => ((k_here; refine sealUOf ?_))
  k_with "subscriptTail Name Slice ref ref" => ((k_here; (with_reducible show wpAny _ _ (subscriptTail _ _ (Value.ref _) (Value.ref _)) _ _ _); k_dflt (refine' tail_from ?k1 ?k2 ?k3 ?k4 ?_ ?k5 ?k6; (case k1 => k_asm); (case k2 => k_asm); (case k3 => k_mem); (case k4 => (simp only [List.length_cons, List.length_nil]; omega)); (case k5 => with_unfolding_all rfl); (case k6 => (intro _; with_unfolding_all rfl))); intro D' h' F' N' l1; (try k_lt l1); (try k_sweep)))
  k_with "M strs6" => (first | exact List.forall_mem_nil _ | (refine List.forall_mem_cons.mpr ⟨⟨_, _, rfl⟩, ?_⟩; k_extra "M strs6"))
  k_with "compareOp NotIn int ref" => ((k_here; (with_reducible show wpAny _ _ (compareOp CmpOp.NotIn (Value.int _ _) (Value.ref _)) _ _ _); k_dflt (first | refine notin_range (by assumption) ?_ | (refine' notin_strs ?k1 ?k2 ?k3 ?_; (case k1 => k_asm); (case k2 => k_mem); (case k3 => k_extra "M strs6")))))
  k_with "call ref" => ((k_here; (with_reducible show wpAny _ _ (call (Value.ref 93) _) _ _ _); k_dflt (refine' parts_use ?k1 ?k2 ?k3 ?k4 ?k5 ?k6 ?k7 ?_; (case k1 => k_asm); (case k2 => k_asm); (case k3 => k_asm); (case k4 => k_asm); (case k5 => first | exact rfl | assumption); (case k6 => ktr_room); (case k7 => k_asm)); (iterate 4 intro _); (iterate 26 intro _); intro KP F' N' lo' hd' hf'; (try k_sweep); (try k_fold)))
  k_with "M memt" => (first | (with_reducible assumption) | ((with_reducible refine List.mem_cons_of_mem _ ?_); k_extra "M memt"))
  k_with "M subv" => (first | exact List.forall_mem_nil _ | ((with_reducible refine List.forall_mem_cons.mpr ⟨?kms1, ?kms2⟩); (case kms1 => k_mem); (case kms2 => k_extra "M subv")) | (intro p8 hp8; k_extra "M memt"))
  k_with "M sub" => ((first | exact List.forall_mem_nil _ | (refine List.forall_mem_cons.mpr ⟨?kms1, ?kms2⟩; (case kms1 => (intro hW; first | k_mem | (refine (hW ?_).elim; k_mem))); (case kms2 => k_extra "M sub")) | (intro p8 hp8 hW8; k_extra "M memt")))
  k_with "M size" => (first | exact size_few (by first | omega | (simp only [List.length_append, List.length_cons, List.length_nil]; omega)) | size_fits)
  k_with "call builtin:list.append" => ((k_here; (with_reducible show wpAny _ _ (call (Value.builtin _) [Value.ref _, _]) _ _ _); k_dflt (refine' append_K ?k1 ?k2 ?k3 ?_ ?z; (case k1 => k_asm); (case k2 => k_asm); (case k3 => k_upd); (case z => k_extra "M size")); intro h' F' N'; (try k_sweep)))
  exact True.intro

theorem good_labels {m b : Int} {o : Op} (h : faultP m b o = S "") : ∀ k ∈ labelsP o, 0 ≤ k ∧ k < m := by
  have bad : labFar ≠ S "" := by decide +kernel
  have go : (labelsP o).all (inR m) = true → ∀ k ∈ labelsP o, 0 ≤ k ∧ k < m := fun q k hk => of_decide_eq_true (List.all_eq_true.mp q k hk)
  refine go ?_
  have ha := argsOk h
  cases o with
  | e0 => rfl
  | e1 n => rfl
  | e4 n => rfl
  | e2 n x =>
    cases hl : (labelsP (.e2 n x)).all (inR m) with
    | true => rfl
    | false => exact absurd (((if_neg (fun q => q ha)).trans (if_pos hl)).symm.trans h) bad
  | e3 n x y =>
    cases hl : (labelsP (.e3 n x y)).all (inR m) with
    | true => rfl
    | false => exact absurd (((if_neg (fun q => q ha)).trans (if_pos hl)).symm.trans h) bad
theorem fresh_map {l : List (Addr × Obj)} {D : Addr} (h : ∀ p ∈ l, p.1 ≠ D) : ∀ a ∈ l.map (·.1), a ≠ D := fun a ha => by
  obtain ⟨p, hp, rfl⟩ := List.mem_map.mp ha
  exact h p hp
section













theorem kreg32 : True := by
  w_top off
  k_with "M memt" => (first | (with_reducible assumption) | ((with_reducible refine List.mem_cons_of_mem _ ?_); k_extra "M memt") | (with_reducible exact List.mem_append_left _ (by assumption)) | (with_reducible exact List.mem_append_right _ (by assumption)))
  k_with "call ref" => ((k_here; (with_reducible show wpAny _ _ (call (Value.ref 22) _ _) _ _ _); k_dflt (refine' la_all ?k1 ?k2 ?k3 ?k4 ?k5 ?k6 ?k7 hs ?_; (case k1 => k_asm); (case k2 => k_asm); (case k3 => k_asm); (case k4 => k_asm); (case k5 => first | exact rfl | assumption); (case k6 => ktr_room); (case k7 => exact News.sub9 (by assumption) (by k_extra "M subv"))); intro h' tk' D' us' k' K' nD hI'; (have F' := keep_nil_fr (by assumption) K'); (have N8 := keep_nil_news (by assumption) K'); (have N' := News.put N8 nD); clear N8; (try k_sweep); (try k_fold)))
  k_with "compareOp In str ref" => ((k_here; k_dflt (refine' in_split2 ?k1 ?k2 ?_ ?_; (case k1 => k_asm); (case k2 => k_mem); (all_goals intro h9))))
  k_with "subscriptTail Name Constant ref int" => ((k_here; (with_reducible show wpAny _ _ (subscriptTail _ _ (Value.ref _) (Value.int 0 _)) _ _ _); k_dflt (refine' tup_head0 ?k1 ?k2 ?_; (case k1 => k_asm); (case k2 => k_mem))))
  k_with "CompSrc" => ((k_here; refine sealOf ?_))
  k_with "exec Assign cons ListComp" => ((k_here; k_dflt (refine LCg.Assign_ListComp_U (F₀ := by k_asm) (by rfl) (by with_unfolding_all rfl) (by with_unfolding_all rfl) (by decide) (by rfl) (by decide) (by rfl) (by rfl) (by rfl) ?_)))
  k_with "M pairend" => (((rename News g' L' _ _ => kM); (rename Fr g' L' _ _ => kF); exact PairEnd.intro kF kM (by k_mem) (by k_extra "M subv") (by omega) (by omega) (by omega)))
  exact True.intro

theorem wb_all {w : World} {mean : ExcName → Option Value} {mg mb : Str → Option Value} {dp un : Nat} {gd : Option (List Code)} {cn : Str} {cs : Scope} {a : Addr} {ccd : Value} {cl : List (Str × Addr)} {outer : List Env} {A₀ : Around} {base h₀ : Heap} {L : Addr} {m : Str → Option Value} {s : Shared} {Q E : Value → Shared → Prop}
  {x : Addr} {t1 : Tok} {n : Str} {vs : List Value} {l : List Int} {R : List (Addr × Obj)} {m9 p9 h9 : Int} {u1 u2 : Tok}
  (B : Below A₀ base outer h₀) (F : Fr h₀ L s.heap m) (X : (Mine.hd.heap_1 w.params).In h₀) (T : Top Mine.hd.view_1 lo mean mg mb h₀) (hk : cs.kind = .function) (hd : dp + 2 < recursionLimit) (hs : OpSh (fun a o => (a, o) ∈ R) n vs l) (hgl : ∀ k ∈ l, 0 ≤ k ∧ k < m9)
  (N : News h₀ L s.heap ((x, tupOf (.str n t1 :: vs)) :: R))
  (hret : ∀ h' tk D vs k, KeepBut [] s.heap h' → NewAt h₀ L h' D (listOf (List.toArray vs) k) → s.heap.get? D = none → PairsAre (NewAt h₀ L h') (fun k => (0 ≤ k ∧ k < m9) ∨ k = p9 + 1) vs → vs.length ≤ 4 → Q (.ref D) { s with heap := h', toks := tk }) :
  wpAny (model PySem.Challenge.rw_pq0627_01.row.prog w) (ktrTop dp un gd cn cs L a ccd cl outer) (call (.ref 46) [.ref x, .int p9 u1, .int h9 u2]) Q E s := by
  revert X; k_fill; intro X
  refine wpAny_call ?_
  k_dflt (k_extra "M enterC")
  have kG0 := kG'
  k_steps
  refine toSeal ?_
  k_dflt (refine comp_pairs (fun k => 0 ≤ k ∧ k < m9) (by rfl) (by k_asm) (by k_asm) (by k_mem) hI' ?g1 ?g2 ?g3 ?g4)
  case g1 => exact hgl
  case g2 => rw [PyProof.Rows.IntsAre.length hI']; exact Nat.lt_of_le_of_lt hs.len (by decide)
  case g3 =>
    intro k9 t9 I9 oI9 C9 oC9 D9 ys9 R9 m9' h9' tk9 E9 hk9 hC9 hx9 F9 N9
    (try simp only [List.cons_append, List.nil_append] at N9)
    k_steps
    all_goals k_extra "M pairend"
  case g4 =>
    intro g9 ys9 R9 hp9 hl9 hc9
    unfold LCg.FinA
    intro D9 h9' tk9 F9 N9 o9
    have hR8 : ∀ p ∈ R, p.1 ≠ D9 := fun p hp => off1_mem o9 p (List.mem_append_left _ (by k_extra "M memt"))
    have hR9 : ∀ p ∈ R ++ R9, p.1 ≠ D9 := fun p hp => (List.mem_append.mp hp).elim (hR8 p) fun hp => off1_mem o9 p (List.mem_append_right _ hp)
    (try simp only [List.nil_append, List.cons_append, LCg.Off1] at N9 o9)
    (try dsimp only)
    have hz9 : ys9.length ≤ 3 := by rw [hl9, PyProof.Rows.IntsAre.length hI']; exact hs.len
    k_steps
    all_goals (rename News g' L' _ _ => kM)
    all_goals (rename News h₀ L _ _ => kN)
    · refine hret _ _ _ _ _ (keep_led kG0 (by assumption) N kN (by k_extra "M sub")) (kN (_, _) (by k_mem)) (fresh_by kG0 (kM (_, _) (by k_mem)).2.2 ?q1) (PairsAre.mono hp9 (fun a8 o8 h8 => kN (a8, o8) (by k_extra "M memt")) (fun _ => .inl)) (by omega)
      exact fresh_map (List.forall_mem_cons.mpr ⟨by k_ne, hR8⟩)
    · rw [List.push_toArray] at kN kM
      refine hret _ _ _ _ _ (keep_led kG0 (by assumption) N kN (by k_extra "M sub")) (kN (_, _) (by k_mem)) (fresh_by kG0 (kM (_, _) (by k_mem)).2.2 ?q2) (PairsAre.snoc' hp9 (fun a8 o8 h8 => kN (a8, o8) (by k_extra "M memt")) (kN (_, _) (by k_mem)) (.inr rfl) (fun _ => .inl)) (by simp only [List.length_append, List.length_cons, List.length_nil]; omega)
      exact fresh_map (List.forall_mem_cons.mpr ⟨by k_ne, hR8⟩)
end
theorem kreg33 : True := by
  w_top off
  k_with_none
  k_with "M ne" => (first | (with_reducible assumption) | (with_reducible exact Ne.symm (by assumption)) | (with_reducible exact Nat.ne_of_lt (by assumption)) | (with_reducible exact Nat.ne_of_gt (by assumption)) | (k_extra "M nec"))
  k_with "M nec" => (first | ((rename (_ < _) ∧ _ => hc9); first | (with_reducible exact Nat.ne_of_lt hc9.1) | (with_reducible exact Nat.ne_of_gt hc9.1) | (with_reducible exact Nat.ne_of_lt hc9) | (with_reducible exact Nat.ne_of_gt hc9) | (with_reducible exact Nat.ne_of_lt hc9.2.1) | (with_reducible exact Nat.ne_of_gt hc9.2.1) | (with_reducible exact Nat.ne_of_lt hc9.2) | (with_reducible exact Nat.ne_of_gt hc9.2) | (with_reducible exact Nat.ne_of_lt hc9.2.2.1) | (with_reducible exact Nat.ne_of_gt hc9.2.2.1) | (with_reducible exact Nat.ne_of_lt hc9.2.2) | (with_reducible exact Nat.ne_of_gt hc9.2.2) | (with_reducible exact Nat.ne_of_lt hc9.2.2.2.1) | (with_reducible exact Nat.ne_of_gt hc9.2.2.2.1) | (with_reducible exact Nat.ne_of_lt hc9.2.2.2) | (with_reducible exact Nat.ne_of_gt hc9.2.2.2) | (with_reducible exact Nat.ne_of_lt hc9.2.2.2.2.1) | (with_reducible exact Nat.ne_of_gt hc9.2.2.2.2.1) | (with_reducible exact Nat.ne_of_lt hc9.2.2.2.2) | (with_reducible exact Nat.ne_of_gt hc9.2.2.2.2) | (with_reducible exact Nat.ne_of_lt hc9.2.2.2.2.2.1) | (with_reducible exact Nat.ne_of_gt hc9.2.2.2.2.2.1) | (with_reducible exact Nat.ne_of_lt hc9.2.2.2.2.2) | (with_reducible exact Nat.ne_of_gt hc9.2.2.2.2.2) | (with_reducible exact Nat.ne_of_lt hc9.2.2.2.2.2.2.1) | (with_reducible exact Nat.ne_of_gt hc9.2.2.2.2.2.2.1) | (with_reducible exact Nat.ne_of_lt hc9.2.2.2.2.2.2) | (with_reducible exact Nat.ne_of_gt hc9.2.2.2.2.2.2) | (with_reducible exact Nat.ne_of_lt hc9.2.2.2.2.2.2.2.1) | (with_reducible exact Nat.ne_of_gt hc9.2.2.2.2.2.2.2.1) | (with_reducible exact Nat.ne_of_lt hc9.2.2.2.2.2.2.2) | (with_reducible exact Nat.ne_of_gt hc9.2.2.2.2.2.2.2) | (with_reducible exact Nat.ne_of_lt hc9.2.2.2.2.2.2.2.2.1) | (with_reducible exact Nat.ne_of_gt hc9.2.2.2.2.2.2.2.2.1) | (with_reducible exact Nat.ne_of_lt hc9.2.2.2.2.2.2.2.2) | (with_reducible exact Nat.ne_of_gt hc9.2.2.2.2.2.2.2.2) | (with_reducible exact Nat.ne_of_lt hc9.2.2.2.2.2.2.2.2.2.1) | (with_reducible exact Nat.ne_of_gt hc9.2.2.2.2.2.2.2.2.2.1) | (with_reducible exact Nat.ne_of_lt hc9.2.2.2.2.2.2.2.2.2) | (with_reducible exact Nat.ne_of_gt hc9.2.2.2.2.2.2.2.2.2) | (with_reducible exact Nat.ne_of_lt hc9.2.2.2.2.2.2.2.2.2.2.1) | (with_reducible exact Nat.ne_of_gt hc9.2.2.2.2.2.2.2.2.2.2.1) | (with_reducible exact Nat.ne_of_lt hc9.2.2.2.2.2.2.2.2.2.2) | (with_reducible exact Nat.ne_of_gt hc9.2.2.2.2.2.2.2.2.2.2) | (with_reducible exact Nat.ne_of_lt hc9.2.2.2.2.2.2.2.2.2.2.2.1) | (with_reducible exact Nat.ne_of_gt hc9.2.2.2.2.2.2.2.2.2.2.2.1) | (with_reducible exact Nat.ne_of_lt hc9.2.2.2.2.2.2.2.2.2.2.2) | (with_reducible exact Nat.ne_of_gt hc9.2.2.2.2.2.2.2.2.2.2.2) | (with_reducible exact Nat.ne_of_lt hc9.2.2.2.2.2.2.2.2.2.2.2.2.1) | (with_reducible exact Nat.ne_of_gt hc9.2.2.2.2.2.2.2.2.2.2.2.2.1) | (with_reducible exact Nat.ne_of_lt hc9.2.2.2.2.2.2.2.2.2.2.2.2) | (with_reducible exact Nat.ne_of_gt hc9.2.2.2.2.2.2.2.2.2.2.2.2) | (with_reducible exact Nat.ne_of_lt hc9.2.2.2.2.2.2.2.2.2.2.2.2.2.1) | (with_reducible exact Nat.ne_of_gt hc9.2.2.2.2.2.2.2.2.2.2.2.2.2.1) | (with_reducible exact Nat.ne_of_lt hc9.2.2.2.2.2.2.2.2.2.2.2.2.2) | (with_reducible exact Nat.ne_of_gt hc9.2.2.2.2.2.2.2.2.2.2.2.2.2) | (clear hc9; k_extra "M nec")) | ((rename (_ ≠ _) ∧ _ => hc9); first | (with_reducible exact hc9.1) | (with_reducible exact Ne.symm hc9.1) | (with_reducible exact hc9) | (with_reducible exact Ne.symm hc9) | (with_reducible exact hc9.2.1) | (with_reducible exact Ne.symm hc9.2.1) | (with_reducible exact hc9.2) | (with_reducible exact Ne.symm hc9.2) | (with_reducible exact hc9.2.2.1) | (with_reducible exact Ne.symm hc9.2.2.1) | (with_reducible exact hc9.2.2) | (with_reducible exact Ne.symm hc9.2.2) | (with_reducible exact hc9.2.2.2.1) | (with_reducible exact Ne.symm hc9.2.2.2.1) | (with_reducible exact hc9.2.2.2) | (with_reducible exact Ne.symm hc9.2.2.2) | (with_reducible exact hc9.2.2.2.2.1) | (with_reducible exact Ne.symm hc9.2.2.2.2.1) | (with_reducible exact hc9.2.2.2.2) | (with_reducible exact Ne.symm hc9.2.2.2.2) | (with_reducible exact hc9.2.2.2.2.2.1) | (with_reducible exact Ne.symm hc9.2.2.2.2.2.1) | (with_reducible exact hc9.2.2.2.2.2) | (with_reducible exact Ne.symm hc9.2.2.2.2.2) | (with_reducible exact hc9.2.2.2.2.2.2.1) | (with_reducible exact Ne.symm hc9.2.2.2.2.2.2.1) | (with_reducible exact hc9.2.2.2.2.2.2) | (with_reducible exact Ne.symm hc9.2.2.2.2.2.2) | (with_reducible exact hc9.2.2.2.2.2.2.2.1) | (with_reducible exact Ne.symm hc9.2.2.2.2.2.2.2.1) | (with_reducible exact hc9.2.2.2.2.2.2.2) | (with_reducible exact Ne.symm hc9.2.2.2.2.2.2.2) | (with_reducible exact hc9.2.2.2.2.2.2.2.2.1) | (with_reducible exact Ne.symm hc9.2.2.2.2.2.2.2.2.1) | (with_reducible exact hc9.2.2.2.2.2.2.2.2) | (with_reducible exact Ne.symm hc9.2.2.2.2.2.2.2.2) | (with_reducible exact hc9.2.2.2.2.2.2.2.2.2.1) | (with_reducible exact Ne.symm hc9.2.2.2.2.2.2.2.2.2.1) | (with_reducible exact hc9.2.2.2.2.2.2.2.2.2) | (with_reducible exact Ne.symm hc9.2.2.2.2.2.2.2.2.2) | (with_reducible exact hc9.2.2.2.2.2.2.2.2.2.2.1) | (with_reducible exact Ne.symm hc9.2.2.2.2.2.2.2.2.2.2.1) | (with_reducible exact hc9.2.2.2.2.2.2.2.2.2.2) | (with_reducible exact Ne.symm hc9.2.2.2.2.2.2.2.2.2.2) | (with_reducible exact hc9.2.2.2.2.2.2.2.2.2.2.2.1) | (with_reducible exact Ne.symm hc9.2.2.2.2.2.2.2.2.2.2.2.1) | (with_reducible exact hc9.2.2.2.2.2.2.2.2.2.2.2) | (with_reducible exact Ne.symm hc9.2.2.2.2.2.2.2.2.2.2.2) | (with_reducible exact hc9.2.2.2.2.2.2.2.2.2.2.2.2.1) | (with_reducible exact Ne.symm hc9.2.2.2.2.2.2.2.2.2.2.2.2.1) | (with_reducible exact hc9.2.2.2.2.2.2.2.2.2.2.2.2) | (with_reducible exact Ne.symm hc9.2.2.2.2.2.2.2.2.2.2.2.2) | (with_reducible exact hc9.2.2.2.2.2.2.2.2.2.2.2.2.2.1) | (with_reducible exact Ne.symm hc9.2.2.2.2.2.2.2.2.2.2.2.2.2.1) | (with_reducible exact hc9.2.2.2.2.2.2.2.2.2.2.2.2.2) | (with_reducible exact Ne.symm hc9.2.2.2.2.2.2.2.2.2.2.2.2.2) | (clear hc9; k_extra "M nec")) | ((rename ((_ ≠ _) ∧ _) ∧ _ => hc9); first | (with_reducible exact hc9.1.1) | (with_reducible exact Ne.symm hc9.1.1) | (with_reducible exact hc9.1.2.1) | (with_reducible exact Ne.symm hc9.1.2.1) | (with_reducible exact hc9.1.2.2) | (with_reducible exact Ne.symm hc9.1.2.2) | (with_reducible exact hc9.1) | (with_reducible exact Ne.symm hc9.1) | (with_reducible exact hc9.2.1) | (with_reducible exact Ne.symm hc9.2.1) | (with_reducible exact hc9.2.2) | (with_reducible exact Ne.symm hc9.2.2) | (with_reducible exact hc9.2.1.1) | (with_reducible exact Ne.symm hc9.2.1.1) | (with_reducible exact hc9.2.1.2.1) | (with_reducible exact Ne.symm hc9.2.1.2.1) | (with_reducible exact hc9.2.1.2.2) | (with_reducible exact Ne.symm hc9.2.1.2.2) | (with_reducible exact hc9.2.2.1) | (with_reducible exact Ne.symm hc9.2.2.1) | (with_reducible exact hc9.2.2.2) | (with_reducible exact Ne.symm hc9.2.2.2) | (with_reducible exact hc9.2.2.1.1) | (with_reducible exact Ne.symm hc9.2.2.1.1) | (with_reducible exact hc9.2.2.1.2.1) | (with_reducible exact Ne.symm hc9.2.2.1.2.1) | (with_reducible exact hc9.2.2.1.2.2) | (with_reducible exact Ne.symm hc9.2.2.1.2.2) | (with_reducible exact hc9.2.2.2.1) | (with_reducible exact Ne.symm hc9.2.2.2.1) | (with_reducible exact hc9.2.2.2.2) | (with_reducible exact Ne.symm hc9.2.2.2.2) | (with_reducible exact hc9.2.2.2.1.1) | (with_reducible exact Ne.symm hc9.2.2.2.1.1) | (with_reducible exact hc9.2.2.2.1.2.1) | (with_reducible exact Ne.symm hc9.2.2.2.1.2.1) | (with_reducible exact hc9.2.2.2.1.2.2) | (with_reducible exact Ne.symm hc9.2.2.2.1.2.2) | (with_reducible exact hc9.2.2.2.2.1) | (with_reducible exact Ne.symm hc9.2.2.2.2.1) | (with_reducible exact hc9.2.2.2.2.2) | (with_reducible exact Ne.symm hc9.2.2.2.2.2) | (with_reducible exact hc9.2.2.2.2.1.1) | (with_reducible exact Ne.symm hc9.2.2.2.2.1.1) | (with_reducible exact hc9.2.2.2.2.1.2.1) | (with_reducible exact Ne.symm hc9.2.2.2.2.1.2.1) | (with_reducible exact hc9.2.2.2.2.1.2.2) | (with_reducible exact Ne.symm hc9.2.2.2.2.1.2.2) | (with_reducible exact hc9.2.2.2.2.2.1) | (with_reducible exact Ne.symm hc9.2.2.2.2.2.1) | (with_reducible exact hc9.2.2.2.2.2.2) | (with_reducible exact Ne.symm hc9.2.2.2.2.2.2) | (with_reducible exact hc9.2.2.2.2.2.1.1) | (with_reducible exact Ne.symm hc9.2.2.2.2.2.1.1) | (with_reducible exact hc9.2.2.2.2.2.1.2.1) | (with_reducible exact Ne.symm hc9.2.2.2.2.2.1.2.1) | (with_reducible exact hc9.2.2.2.2.2.1.2.2) | (with_reducible exact Ne.symm hc9.2.2.2.2.2.1.2.2) | (with_reducible exact hc9.2.2.2.2.2.2.1) | (with_reducible exact Ne.symm hc9.2.2.2.2.2.2.1) | (with_reducible exact hc9.2.2.2.2.2.2.2) | (with_reducible exact Ne.symm hc9.2.2.2.2.2.2.2) | (with_reducible exact hc9.2.2.2.2.2.2.1.1) | (with_reducible exact Ne.symm hc9.2.2.2.2.2.2.1.1) | (with_reducible exact hc9.2.2.2.2.2.2.1.2.1) | (with_reducible exact Ne.symm hc9.2.2.2.2.2.2.1.2.1) | (with_reducible exact hc9.2.2.2.2.2.2.1.2.2) | (with_reducible exact Ne.symm hc9.2.2.2.2.2.2.1.2.2) | (with_reducible exact hc9.2.2.2.2.2.2.2.1) | (with_reducible exact Ne.symm hc9.2.2.2.2.2.2.2.1) | (with_reducible exact hc9.2.2.2.2.2.2.2.2) | (with_reducible exact Ne.symm hc9.2.2.2.2.2.2.2.2) | (with_reducible exact hc9.2.2.2.2.2.2.2.1.1) | (with_reducible exact Ne.symm hc9.2.2.2.2.2.2.2.1.1) | (with_reducible exact hc9.2.2.2.2.2.2.2.1.2.1) | (with_reducible exact Ne.symm hc9.2.2.2.2.2.2.2.1.2.1) | (with_reducible exact hc9.2.2.2.2.2.2.2.1.2.2) | (with_reducible exact Ne.symm hc9.2.2.2.2.2.2.2.1.2.2) | (with_reducible exact hc9.2.2.2.2.2.2.2.2.1) | (with_reducible exact Ne.symm hc9.2.2.2.2.2.2.2.2.1) | (with_reducible exact hc9.2.2.2.2.2.2.2.2.2) | (with_reducible exact Ne.symm hc9.2.2.2.2.2.2.2.2.2) | (with_reducible exact hc9.2.2.2.2.2.2.2.2.1.1) | (with_reducible exact Ne.symm hc9.2.2.2.2.2.2.2.2.1.1) | (with_reducible exact hc9.2.2.2.2.2.2.2.2.1.2.1) | (with_reducible exact Ne.symm hc9.2.2.2.2.2.2.2.2.1.2.1) | (with_reducible exact hc9.2.2.2.2.2.2.2.2.1.2.2) | (with_reducible exact Ne.symm hc9.2.2.2.2.2.2.2.2.1.2.2) | (with_reducible exact hc9.2.2.2.2.2.2.2.2.2.1) | (with_reducible exact Ne.symm hc9.2.2.2.2.2.2.2.2.2.1) | (with_reducible exact hc9.2.2.2.2.2.2.2.2.2.2) | (with_reducible exact Ne.symm hc9.2.2.2.2.2.2.2.2.2.2) | (with_reducible exact hc9.2.2.2.2.2.2.2.2.2.1.1) | (with_reducible exact Ne.symm hc9.2.2.2.2.2.2.2.2.2.1.1) | (with_reducible exact hc9.2.2.2.2.2.2.2.2.2.1.2.1) | (with_reducible exact Ne.symm hc9.2.2.2.2.2.2.2.2.2.1.2.1) | (with_reducible exact hc9.2.2.2.2.2.2.2.2.2.1.2.2) | (with_reducible exact Ne.symm hc9.2.2.2.2.2.2.2.2.2.1.2.2) | (with_reducible exact hc9.2.2.2.2.2.2.2.2.2.2.1) | (with_reducible exact Ne.symm hc9.2.2.2.2.2.2.2.2.2.2.1) | (with_reducible exact hc9.2.2.2.2.2.2.2.2.2.2.2) | (with_reducible exact Ne.symm hc9.2.2.2.2.2.2.2.2.2.2.2) | (with_reducible exact hc9.2.2.2.2.2.2.2.2.2.2.1.1) | (with_reducible exact Ne.symm hc9.2.2.2.2.2.2.2.2.2.2.1.1) | (with_reducible exact hc9.2.2.2.2.2.2.2.2.2.2.1.2.1) | (with_reducible exact Ne.symm hc9.2.2.2.2.2.2.2.2.2.2.1.2.1) | (with_reducible exact hc9.2.2.2.2.2.2.2.2.2.2.1.2.2) | (with_reducible exact Ne.symm hc9.2.2.2.2.2.2.2.2.2.2.1.2.2) | (with_reducible exact hc9.2.2.2.2.2.2.2.2.2.2.2.1) | (with_reducible exact Ne.symm hc9.2.2.2.2.2.2.2.2.2.2.2.1) | (with_reducible exact hc9.2.2.2.2.2.2.2.2.2.2.2.2) | (with_reducible exact Ne.symm hc9.2.2.2.2.2.2.2.2.2.2.2.2) | (clear hc9; k_extra "M nec")))
  k_with "M enter" => ((refine' code_defG ?k1 ?k2 ?k3 ?k4 ?k5 ?kA ?kF ?kK ?k6 ?k7 ?k8 ?k9 ?kB ?_ ?c2 ?c3 ?c4 ?c5; (case kA => exact rfl); (case kF => exact rfl); (case kK => first | assumption | exact rfl); (case k1 => k_asm); (case k2 => k_asm); (case k3 => k_asm); (case k4 => k_asm); (case k5 => k_asm); (case k6 => k_is); (case k7 => k_is); (case k8 => ktr_room); (case k9 => exact BindsTo.of_eq rfl); (case c5 => decide); (case kB => exact locs rfl); (case c2 => exact rfl); (case c3 => exact rfl); (case c4 => exact rfl); k_whole; intro g' L' h' FG' F' N' B' X' T' kG'; (try dsimp only at F' N' kG' ⊢); (try k_fold)))
  k_with "M enterC" => ((refine' enterCells ?k1 ?k2 ?k3 ?k4 ?k5 ?kA ?kF ?kK ?k6 ?k7 ?k8 ?k9 ?kB ?kD ?_ ?c2 ?c3 ?c4; (case kA => exact rfl); (case kF => exact rfl); (case kK => first | assumption | exact rfl); (case k1 => k_asm); (case k2 => k_asm); (case k3 => k_asm); (case k4 => k_asm); (case k5 => k_asm); (case k6 => k_is); (case k7 => k_is); (case k8 => ktr_room); (case k9 => exact BindsTo.of_eq rfl); (case kB => exact rfl); (case kD => decide +kernel); (case c2 => exact rfl); (case c3 => exact rfl); (case c4 => exact rfl); k_whole; intro g' L' h' tk' cells' FG' F' N' Y' B' X' T' kG' l1 l2; (try k_lt l1); k_cells Y'; (try simp only [List.cons_append, List.nil_append] at N'); (try dsimp only at F' N' kG' ⊢); (try k_fold)))
  k_with "M sub" => ((first | exact List.forall_mem_nil _ | (refine List.forall_mem_cons.mpr ⟨?kms1, ?kms2⟩; (case kms1 => (intro hW; first | k_mem | (refine (hW ?_).elim; k_mem))); (case kms2 => k_extra "M sub"))))
  k_with "subscriptTail Name Constant ref int" => ((k_here; (with_reducible show wpAny _ _ (subscriptTail _ _ (Value.ref _) (Value.int _ _)) _ _ _); kim_at))
  k_with "call builtin:divmod" => ((k_here; (with_reducible show wpAny _ _ (call (Value.builtin _) [Value.int _ _, Value.int _ _]) _ _ _); k_dflt (refine' divmod_K ?k1 ?k2 ?k3 ?k4 ?_; (case k1 => k_asm); (case k2 => k_asm); (case k3 => omega); (case k4 => exact PyProof.noPylong_small (by omega)); k_whole); intro D' h' t1 t2 F' N' l1; (try k_lt l1); (try k_sweep)))
  k_with "call ref" => ((k_here; (with_reducible show wpAny _ _ (call (Value.ref 107) _ _) _ _ _); k_dflt (refine' draw_use ?k1 ?k2 ?k3 ?k4 ?k5 ?k6 ?k7 ?k8 ?b1 ?b2 ?b3 ?b4 ?b5 ?_; (case k1 => k_asm); (case k2 => k_asm); (case k3 => k_asm); (case k4 => k_asm); (case k5 => first | exact rfl | assumption); (case k6 => ktr_room); (case k7 => k_asm); (case k8 => k_updF); (case b1 => omega); (case b2 => omega); (case b3 => omega); (case b4 => omega); (case b5 => omega)); intro h' tk' n' c' t' u' k' d' td' K' F' N' b1 b2 b3 b4 b5; (try dsimp only at N'); (try k_sweep); (try k_fold)))
  k_with "call builtin:len" => ((k_here; (with_reducible show wpAny _ _ (call (Value.builtin "len") [Value.ref _]) _ _ _); k_dflt (first | (refine' len_tupA ?k1 ?k2 ?k3 ?_; (case k1 => k_asm); (case k2 => k_mem); (case k3 => omega)) | (refine' len_lstA ?k1 ?k2 ?k3 ?_; (case k1 => k_asm); (case k2 => k_mem); (case k3 => omega))); intro t' tk'; (try simp only [List.length_cons, List.length_nil])))
  k_with "subscriptTail Name Call ref int" => ((k_here; (with_reducible show wpAny _ _ (subscriptTail _ _ (Value.ref _) (Value.int _ _)) _ _ _); k_dflt (refine' tup_item_any ?k1 ?k2 ?k3 ?k4 ?k5 ?_ ?k6 ?k7; (case k1 => k_asm); (case k2 => k_mem); (case k3 => omega); (case k4 => omega); (case k5 => omega); (case k6 => with_unfolding_all rfl); (case k7 => (intro _; with_unfolding_all rfl))); intro x' hx' hxm'; (try k_fold)))
  k_with "call ref" => ((k_here; (with_reducible show wpAny _ _ (call (Value.ref 114) _ _) _ _ _); k_dflt (refine' pick_use ?k1 ?k2 ?k3 ?k4 ?k5 ?k6 ?k7 ?k8 ?k9 ?kA ?b1 ?b2 ?b3 ?b4 ?b5 ?_; (case k1 => k_asm); (case k2 => k_asm); (case k3 => k_asm); (case k4 => k_asm); (case k5 => first | exact rfl | assumption); (case k6 => ktr_room); (case k7 => k_asm); (case k8 => k_updF); (case k9 => k_mem); (case kA => (refine neN ?_; omega)); (case b1 => omega); (case b2 => omega); (case b3 => omega); (case b4 => (simp only [List.length_cons, List.length_nil]; omega)); (case b5 => (simp only [List.length_cons, List.length_nil]; omega))); intro h' tk' n' c' t' u' k' x' K' F' N' b1 b2 b3 b4; (try dsimp only at N'); (try k_sweep); (try k_fold)))
  k_with "binaryOp Mult ref int" => ((k_here; (with_reducible show wpAny _ _ (binaryOp Operator.Mult (Value.ref _) (Value.int _ _)) _ _ _); k_dflt (refine' tup_mul ?k1 ?k2 ?k3 ?k4 ?k5 ?_ ?_ ?_; (case k1 => k_asm); (case k2 => k_asm); (case k3 => k_mem); (case k4 => omega); (case k5 => omega)); (all_goals (intro hx9; (try (exfalso; omega; done)))); (all_goals (try (intro D' h' F' N' l1; (try k_lt l1); (try k_sweep)))); (all_goals (try k_unmd)); (all_goals (try k_fold))))
  k_with "subscriptTail Name Slice ref ref" => ((k_here; (with_reducible show wpAny _ _ (subscriptTail _ _ (Value.ref _) (Value.ref _)) _ _ _); k_dflt (refine' cut_tail ?k1 ?k2 ?k3 ?k4 ?_ ?_ ?k5 ?k6; (case k1 => k_asm); (case k2 => k_asm); (case k3 => k_mem); (case k4 => omega); (case k5 => with_unfolding_all rfl); (case k6 => (intro _; with_unfolding_all rfl))); (all_goals intro hx9); (all_goals (first | (intro D' h' F' N' l1; (try k_lt l1); (try k_sweep)) | (intro h' F' N'; (try k_sweep)))); (all_goals (try k_unmd)); (all_goals (try k_fold))))
  k_with "CompSrc" => ((k_here; k_dflt (refine LCg.CompSrc.range (by rfl) (by k_asm) (by k_asm) (by assumption) (by first | decide | rfl) (by first | rfl | decide) (by first | size_fits | exact Nat.le_of_ble_eq_true rfl) ?_; intro gc'; lcg_lit)))
  k_with "execs nil" => ((k_here; (with_reducible refine wpAny_execs_nil ?_)))
  k_with "eval ListComp" => ((k_here; lct_look; k_dflt (refine LCt.ListComp_T (F₀ := by k_asm) (by with_unfolding_all rfl) (by decide) (by rfl) (by decide) (by rfl) ?_)))
  k_with "M ints" => (first | exact IntsAre.nil | exact IntsAre.cons _ _ .nil | exact IntsAre.cons _ _ (.cons _ _ .nil) | exact IntsAre.cons _ _ (.cons _ _ (.cons _ _ .nil)) | assumption)
  k_with "call ref" => ((k_here; (with_reducible show wpAny _ _ (call (Value.ref 22) _ _) _ _ _); refine wpAny_call ?_; k_dflt (k_extra "M enter")))
  k_with "M test" => ((unfold TestEnd; refine ⟨?t1, _, _, rfl, ?t2, ?t3⟩; (case t1 => first | exact rfl | exact inR_lt (by omega) | exact inR_neg (by omega)); (case t2 => k_asm); (case t3 => k_asm)))
  k_with "compareOp Eq ref ref" => ((k_here; k_dflt (refine' eq_tup_nil ?k1 ?k2 ?k3 ?k4 ?_; (case k1 => k_asm); (case k2 => k_mem); (case k3 => k_mem); (case k4 => first | units_room | exact Nat.le_of_ble_eq_true rfl)); (try simp only [List.size_toArray, List.length_cons, List.length_nil])))
  k_with "call ref" => ((k_here; (with_reducible show wpAny _ _ (call (Value.ref 93) _ _) _ _ _); (try simp only [List.nil_append]); refine wpAny_call ?_; k_dflt (k_extra "M enter")))
  k_with "call ref" => ((k_here; (with_reducible show wpAny _ _ (call (Value.ref 126) _ _) _ _ _); refine wpAny_call ?_; k_dflt (k_extra "M enter")))
  k_with "compareOp NotIn int ref" => ((k_here; (with_reducible show wpAny _ _ (compareOp CmpOp.NotIn (Value.int _ _) (Value.ref _)) _ _ _); k_dflt (refine notin_range (by assumption) ?_)))
  k_with "eval ListComp" => ((k_here; lct_look; k_dflt (first | refine ListComp_Tup (iter := Expr.Subscript _ _ _) (_F := by k_asm) (by with_unfolding_all rfl) (by decide) (by rfl) (by decide) (by rfl) ?_ | refine LCt.ListComp_T (F₀ := by k_asm) (by with_unfolding_all rfl) (by decide) (by rfl) (by decide) (by rfl) ?_)))
  k_with "CompSrcU" => ((k_here; refine sealUOf ?_))
  k_with "subscriptTail Name Slice ref ref" => ((k_here; (with_reducible show wpAny _ _ (subscriptTail _ _ (Value.ref _) (Value.ref _)) _ _ _); k_dflt (refine' tail_from ?k1 ?k2 ?k3 ?k4 ?_ ?k5 ?k6; (case k1 => k_asm); (case k2 => k_asm); (case k3 => k_mem); (case k4 => (simp only [List.length_cons, List.length_nil]; omega)); (case k5 => with_unfolding_all rfl); (case k6 => (intro _; with_unfolding_all rfl))); intro D' h' F' N' l1; (try k_lt l1); (try k_sweep)))
  k_with "M strs6" => (first | exact List.forall_mem_nil _ | (refine List.forall_mem_cons.mpr ⟨⟨_, _, rfl⟩, ?_⟩; k_extra "M strs6"))
  k_with "compareOp NotIn int ref" => ((k_here; (with_reducible show wpAny _ _ (compareOp CmpOp.NotIn (Value.int _ _) (Value.ref _)) _ _ _); k_dflt (first | refine notin_range (by assumption) ?_ | (refine' notin_strs ?k1 ?k2 ?k3 ?_; (case k1 => k_asm); (case k2 => k_mem); (case k3 => k_extra "M strs6")))))
  k_with "call ref" => ((k_here; (with_reducible show wpAny _ _ (call (Value.ref 93) _) _ _ _); k_dflt (refine' parts_use ?k1 ?k2 ?k3 ?k4 ?k5 ?k6 ?k7 ?_; (case k1 => k_asm); (case k2 => k_asm); (case k3 => k_asm); (case k4 => k_asm); (case k5 => first | exact rfl | assumption); (case k6 => ktr_room); (case k7 => k_asm)); (iterate 4 intro _); (iterate 26 intro _); intro KP F' N' lo' hd' hf'; (try k_sweep); (try k_fold)))
  k_with "M memt" => (first | (with_reducible assumption) | ((with_reducible refine List.mem_cons_of_mem _ ?_); k_extra "M memt"))
  k_with "M subv" => (first | exact List.forall_mem_nil _ | ((with_reducible refine List.forall_mem_cons.mpr ⟨?kms1, ?kms2⟩); (case kms1 => k_mem); (case kms2 => k_extra "M subv")) | (intro p8 hp8; k_extra "M memt"))
  k_with "M sub" => ((first | exact List.forall_mem_nil _ | (refine List.forall_mem_cons.mpr ⟨?kms1, ?kms2⟩; (case kms1 => (intro hW; first | k_mem | (refine (hW ?_).elim; k_mem))); (case kms2 => k_extra "M sub")) | (intro p8 hp8 hW8; k_extra "M memt")))
  k_with "M size" => (first | exact size_few (by first | omega | (simp only [List.length_append, List.length_cons, List.length_nil]; omega)) | size_fits)
  k_with "call builtin:list.append" => ((k_here; (with_reducible show wpAny _ _ (call (Value.builtin _) [Value.ref _, _]) _ _ _); k_dflt (refine' append_K ?k1 ?k2 ?k3 ?_ ?z; (case k1 => k_asm); (case k2 => k_asm); (case k3 => k_upd); (case z => k_extra "M size")); intro h' F' N'; (try k_sweep)))
  exact True.intro
theorem ways_ok {w : World} {mean : ExcName → Option Value} {mg mb : Str → Option Value} {dp un : Nat} {gd : Option (List Code)} {cn : Str} {cs : Scope} {a : Addr} {ccd : Value} {cl : List (Str × Addr)} {outer : List Env} {A₀ : Around} {base h₀ : Heap} {L : Addr} {m : Str → Option Value} {s : Shared} {Q E : Value → Shared → Prop}
  {v : Value} {o : Op} {m9 b9 p9 h9 : Int} {u1 u2 : Tok}
  (B : Below A₀ base outer h₀) (F : Fr h₀ L s.heap m) (X : (Mine.hd.heap_1 w.params).In h₀) (T : Top Mine.hd.view_1 lo mean mg mb h₀) (hk : cs.kind = .function) (hd : dp + 2 < recursionLimit) (hO : OpIs (NewAt h₀ L s.heap) v o) (hw : o.WF) (hgood : faultP m9 b9 o = S "")
  (hret : ∀ h' tk D vs k, KeepBut [] s.heap h' → NewAt h₀ L h' D (listOf (List.toArray vs) k) → s.heap.get? D = none → PairsAre (NewAt h₀ L h') (fun k => (0 ≤ k ∧ k < m9) ∨ k = p9 + 1) vs → vs.length ≤ 4 → Q (.ref D) { s with heap := h', toks := tk }) :
  wpAny (model PySem.Challenge.rw_pq0627_01.row.prog w) (ktrTop dp un gd cn cs L a ccd cl outer) (call (.ref 46) [v, .int p9 u1, .int h9 u2]) Q E s := by
  rcases op_sh hO hw with ⟨a, rfl, e, rfl⟩ | ⟨a, n, t1, vs, R, l, rfl, e, hv, hR, hs, hf, hl⟩
  · exact (argsOk hgood).elim
  · obtain ⟨h1, rfl⟩ := hl (argsOk hgood)
    exact wb_all B F X T hk hd (hs h1) (good_labels hgood) (led_cons (News.put News.nil e) hR) hret

/-! rows and pairs as data -/
section
open PyProof.Rows PySem.SeqAt
noncomputable abbrev rowD (r : Row) : PyData := .tuple [.int r.1, .str r.2]
noncomputable abbrev rowsD (rs : List Row) : PyData := .list (rs.map rowD)
theorem reads_rowsAll {h : Heap} {vs : List Value} {rs : List Row} (R : hasRows h vs rs) : ReadsAll h vs (rs.map rowD) [] := by
  induction R with
  | nil => exact .nil
  | @cons a i x t u vs rs e _ ih =>
    exact readsAll_cons_val (reads_tuple_at e rfl rfl (readsAll_cons_val (.int _ _) (readsAll_cons_val (.str _ _) .nil))) ih
theorem reads_rows {h : Heap} {D : Addr} {vs : List Value} {rs : List Row} {k : Nat} (e : h.get? D = some (listOf vs.toArray k)) (R : hasRows h vs rs) : Reads h (.ref D) (rowsD rs) [D] :=
  reads_list_at e rfl rfl (reads_rowsAll R)
theorem shaped_rows {rs : List Row} (h : ∀ r ∈ rs, PyData.strOk r.2 = true) : shaped (rowsD rs) = true := by
  have h1 : PyData.canLayAll0 (rs.map rowD) = true := by
    induction rs with
    | nil => rfl
    | cons r rs ih =>
      have e : PyData.canLay0 (rowD r) = true := by
        simp only [PyData.canLay0, PyData.canLayAll0, h r List.mem_cons_self, Bool.and_self]
      simp only [List.map_cons, PyData.canLayAll0, e, ih fun r hr => h r (List.mem_cons_of_mem _ hr), Bool.and_self]
  have h2 : ∀ rs : List Row, PyData.depthAll (rs.map rowD) ≤ 1 := fun rs => by
    induction rs with
    | nil => exact Nat.zero_le _
    | cons r rs ih =>
      simp only [List.map_cons, PyData.depthAll, PyData.depth]
      lia
  have h3 := h2 rs
  unfold shaped
  rw [Bool.and_eq_true]
  refine ⟨by simp only [PyData.canLay0]; exact h1, decide_eq_true ?_⟩
  simp only [PyData.depth]
  lia
theorem eqv_rowsAll : ∀ rs : List Row, PyData.eqvAll (rs.map rowD) (rs.map rowD) = true
  | [] => by simp only [List.map_nil, PyData.eqvAll]
  | r :: rs => by simp only [List.map_cons, PyData.eqvAll, PyData.eqv, beq_self_eq_true, eqv_rowsAll rs, Bool.and_self]
theorem eqv_rows {rs : List Row} : PyData.eqv (rowsD rs) (rowsD rs) = true := by simp only [PyData.eqv]; exact eqv_rowsAll rs
theorem eqv_rows_nil {rs : List Row} : PyData.eqv (rowsD rs) (.list []) = rs.isEmpty := by
  cases rs with
  | nil => simp only [List.map_nil, PyData.eqv, PyData.eqvAll, List.isEmpty_nil]
  | cons r rs => simp only [List.map_cons, PyData.eqv, PyData.eqvAll, List.isEmpty_cons]
theorem reads_pairs {h : Heap} {good : Int → Prop} : ∀ {vs : List Value}, PairsAre (fun a o => h.get? a = some o) good vs → ∃ ds, ReadsAll h vs ds [] ∧ ds.length = vs.length ∧ PyData.canLayAll0 ds = true ∧ PyData.depthAll ds ≤ 1
  | [], _ => ⟨[], .nil, rfl, by simp only [PyData.canLayAll0], by simp only [PyData.depthAll]; lia⟩
  | v :: vs, hp => by
    obtain ⟨a, k, t, hv, u, rfl, e, _⟩ := hp v List.mem_cons_self
    obtain ⟨ds, h1, h2, h3, h4⟩ := reads_pairs (vs := vs) fun v hv => hp v (List.mem_cons_of_mem _ hv)
    refine ⟨.tuple [.int k, .int hv] :: ds, readsAll_cons_val (reads_tuple_at e rfl rfl (readsAll_cons_val (.int _ _) (readsAll_cons_val (.int _ _) .nil))) h1, by simp [h2], ?_, ?_⟩
    · simp only [PyData.canLayAll0, PyData.canLay0, h3, Bool.and_self]
    · simp only [PyData.depthAll, PyData.depth]; lia
variable {prog : Program} {w : World} {A : Around} {E : Value → Shared → Prop} {s : Shared} {h₀ : Heap} {L : Addr} {m : Str → Option Value} {news : List (Addr × Obj)}
theorem nil_reads {h : Heap} {b : Addr} {k : Nat} (e : h.get? b = some (listOf #[] k)) : Reads h (.ref b) (.list []) [b] := reads_list_at e rfl rfl .nil
theorem shaped_nil : shaped (.list []) = true := by rfl
theorem ne_nil_pairs {l b : Addr} {vs : List Value} {good : Int → Prop} {k k' : Nat} {R : List (Addr × Obj)} {Q : Value → Shared → Prop} (N : News h₀ L s.heap news) (h1 : (l, listOf vs.toArray k) ∈ news) (h2 : (b, listOf #[] k') ∈ news) (hp : PairsAre (fun a o => (a, o) ∈ R) good vs) (hR : ∀ p ∈ R, p ∈ news) (hu : A.units + 64 < cLine)
    (h : Q (.bool (!vs.isEmpty)) s) : wpAny (model prog w) A (compareOp .NotEq (.ref l) (.ref b)) Q E s := by
  obtain ⟨ds, d1, d2, d3, d4⟩ := reads_pairs (h := s.heap) (hp.mono (fun a o e => (N _ (hR _ e)).1) fun _ g => g)
  have sh : shaped (.list ds) = true := by
    unfold shaped
    rw [Bool.and_eq_true]
    refine ⟨by simp only [PyData.canLay0]; exact d3, decide_eq_true ?_⟩
    simp only [PyData.depth]
    lia
  refine ne_dataH (reads_list_at (N _ h1).1 rfl rfl d1) (nil_reads (N _ h2).1) sh shaped_nil hu ?_
  have e : PyData.eqv (.list ds) (.list []) = vs.isEmpty := by
    cases ds with
    | nil =>
      have : vs = [] := List.eq_nil_of_length_eq_zero d2.symm
      subst this
      simp only [PyData.eqv, PyData.eqvAll, List.isEmpty_nil]
    | cons d ds =>
      cases vs with
      | nil => simp at d2
      | cons v vs => simp only [PyData.eqv, PyData.eqvAll, List.isEmpty_cons]
  rw [e]
  exact h
theorem rows_eq_nil {l b : Addr} {vs : List Value} {rs : List Row} {k k' : Nat} {Q : Value → Shared → Prop} (N : News h₀ L s.heap news) (h1 : (l, listOf vs.toArray k) ∈ news) (h2 : (b, listOf #[] k') ∈ news) (hr : RowsAre (fun a o => (a, o) ∈ news) vs rs) (hok : ∀ r ∈ rs, PyData.strOk r.2 = true) (hu : A.units + 64 < cLine)
    (h : Q (.bool rs.isEmpty) s) : wpAny (model prog w) A (compareOp .Eq (.ref l) (.ref b)) Q E s :=
  eq_dataH (reads_rows (N _ h1).1 (hr.mono fun a o e => (N _ e).1)) (nil_reads (N _ h2).1) (shaped_rows hok) shaped_nil hu (by rw [eqv_rows_nil]; exact h)
theorem rows_ne_nil {l b : Addr} {vs : List Value} {rs : List Row} {k k' : Nat} {Q : Value → Shared → Prop} (N : News h₀ L s.heap news) (h1 : (l, listOf vs.toArray k) ∈ news) (h2 : (b, listOf #[] k') ∈ news) (hr : RowsAre (fun a o => (a, o) ∈ news) vs rs) (hok : ∀ r ∈ rs, PyData.strOk r.2 = true) (hu : A.units + 64 < cLine)
    (h : Q (.bool (!rs.isEmpty)) s) : wpAny (model prog w) A (compareOp .NotEq (.ref l) (.ref b)) Q E s :=
  ne_dataH (reads_rows (N _ h1).1 (hr.mono fun a o e => (N _ e).1)) (nil_reads (N _ h2).1) (shaped_rows hok) shaped_nil hu (by rw [eqv_rows_nil]; exact h)
/-- the last item is taken off -/
theorem pop_last {D : Addr} {p : List Value} {y : Value} {n : Nat} {news' : List (Addr × Obj)} {Q : Value → Shared → Prop} (F : Fr h₀ L s.heap m) (N : News h₀ L s.heap news) (U : Upd D (listOf (p ++ [y]).toArray n) (listOf p.toArray (n + 1)) news news') (hz : p.length < 1000)
    (h : ∀ h', Fr h₀ L h' m → News h₀ L h' news' → Q y { s with heap := h' }) : wpAny (model prog w) A (call (.builtin "list.pop") [.ref D]) Q E s :=
  kl_pop F N (p := p) (y := y) (kpa_last y p) U (by show (p ++ [y]).length ≤ _; rw [List.length_append, sizeLine_eq]; show p.length + 1 ≤ _; lia) h
theorem upd_of {d : Addr} {o : Obj} {l : List (Addr × Obj)} {g : Obj → List (Addr × Obj)} (U : UpdF d o l g) : ∀ o', Upd d o o' l (g o') := by
  induction U with
  | head h => exact fun o' => .head h
  | tail hp _ ih => exact fun o' => .tail hp (ih o')
/-- a list extended by a list, whatever its length -/
theorem ext_list {D b : Addr} {xs ys : List Value} {n k : Nat} {g : Obj → List (Addr × Obj)} {Q : Value → Shared → Prop} (F : Fr h₀ L s.heap m) (N : News h₀ L s.heap news) (hb : (b, listOf ys.toArray k) ∈ news) (U : UpdF D (listOf xs.toArray n) news g) (hx : xs.length < 1000) (hy : ys.length < 1000)
    (h : ∀ h' n', Fr h₀ L h' m → News h₀ L h' (g (listOf (xs ++ ys).toArray n')) → Q .none { s with heap := h' }) : wpAny (model prog w) A (call (.builtin "list.extend") [.ref D, .ref b]) Q E s := by
  have small : ∀ {n : Nat}, n < 3000 → n ≤ sizeLine := fun h => by rw [sizeLine_eq]; lia
  have hd : ¬ (!xs.toArray.isEmpty && Builtin.List.listTooLong (xs.toArray.size + ys.toArray.size)) = true := by
    have : Builtin.List.listTooLong (xs.toArray.size + ys.toArray.size) = false := by
      unfold Builtin.List.listTooLong
      refine decide_eq_false (Nat.not_lt.mpr (small ?_))
      rw [List.size_toArray, List.size_toArray]; lia
    rw [this, Bool.and_false]
    exact Bool.false_ne_true
  by_cases hy0 : ys = []
  · subst hy0
    refine kxn_extend F N hb rfl (upd_of U _) hd (small (by show xs.length < _; lia)) (Nat.le_succ_of_le (small (by rw [List.size_toArray, List.size_toArray]; lia))) fun h' F' N' => h h' n F' ?_
    rw [List.append_nil]
    exact N'
  · have hy1 : ys.length ≠ 0 := fun q => hy0 (List.eq_nil_of_length_eq_zero q)
    exact kl_extend F N hb rfl hy1 (upd_of U _) hd (small (by show xs.length < _; lia)) (Nat.le_succ_of_le (small (by rw [List.size_toArray, List.size_toArray]; lia))) fun h' F' N' => h h' _ F' N'
end

theorem height_ok {w : World} {mean : ExcName → Option Value} {mg mb : Str → Option Value} {dp un : Nat} {gd : Option (List Code)} {cn : Str} {cs : Scope} {a : Addr} {ccd : Value} {cl : List (Str × Addr)} {outer : List Env} {A₀ : Around} {base h₀ : Heap} {L : Addr} {m : Str → Option Value} {s : Shared} {Q E : Value → Shared → Prop}
  {v : Value} {o : Op} {m9 b9 h9 : Int} {u1 : Tok}
  (B : Below A₀ base outer h₀) (F : Fr h₀ L s.heap m) (X : (Mine.hd.heap_1 w.params).In h₀) (T : Top Mine.hd.view_1 lo mean mg mb h₀) (hk : cs.kind = .function) (hd : dp + 2 < recursionLimit) (hO : OpIs (NewAt h₀ L s.heap) v o) (hw : o.WF) (hgood : faultP m9 b9 o = S "")
  (hret : ∀ h' tk i t, KeepBut [] s.heap h' → Q (.int i t) { s with heap := h', toks := tk }) :
  wpAny (model PySem.Challenge.rw_pq0627_01.row.prog w) (ktrTop dp un gd cn cs L a ccd cl outer) (call (.ref 41) [v, .int h9 u1]) Q E s := by
  rcases op_sh hO hw with ⟨a, rfl, e, rfl⟩ | ⟨a, n, t1, vs, R, l, rfl, e, hv, hR, hs, hf, hl⟩
  · exact (argsOk hgood).elim
  · exact hb_all B F X T hk hd (hs (hl (argsOk hgood)).1) (fun p hp => by rw [List.mem_singleton.mp hp]; exact e) hret

/-! what the loop of height_faults needs -/
theorem at_name4 {m : Str → Option Value} {x1 x2 x3 x4 : Str} {v1 v2 v3 v4 : Value} (h1 : m x1 = some v1) (h2 : m x2 = some v2) (h3 : m x3 = some v3) (h4 : m x4 = some v4) : m = fun z => if z = x1 then some v1 else if z = x2 then some v2 else if z = x3 then some v3 else if z = x4 then some v4 else m z := by
  funext z
  by_cases e1 : z = x1
  · rw [if_pos e1, e1]; exact h1
  rw [if_neg e1]
  by_cases e2 : z = x2
  · rw [if_pos e2, e2]; exact h2
  rw [if_neg e2]
  by_cases e3 : z = x3
  · rw [if_pos e3, e3]; exact h3
  rw [if_neg e3]
  by_cases e4 : z = x4
  · rw [if_pos e4, e4]; exact h4
  rw [if_neg e4]
theorem News.tailNe {h₀ h : Heap} {L : Addr} {news R : List (Addr × Obj)} {a : Addr} {o : Obj} (N : News h₀ L h news) (hm : (a, o) ∈ news) (hc : o.cls ≠ .type "tuple") (hR : ∀ p ∈ R, p.2.cls = .type "tuple") (hs : ∀ p ∈ R, p ∈ news) : ∀ p ∈ R, p.1 ≠ a := fun p hp => by
  rintro rfl
  have e := (N _ hm).1
  rw [(N _ (hs p hp)).1] at e
  cases e
  exact hc (hR p hp)
inductive Retail (R R2 : List (Addr × Obj)) : List (Addr × Obj) → List (Addr × Obj) → Prop
  | here : Retail R R2 R R2
  | cons {p : Addr × Obj} {l l' : List (Addr × Obj)} : Retail R R2 l l' → Retail R R2 (p :: l) (p :: l')
theorem News.retail {h₀ h : Heap} {L : Addr} {R R2 l l' : List (Addr × Obj)} (N : News h₀ L h l) (r : Retail R R2 l l') (h2 : ∀ p ∈ R2, NewAt h₀ L h p.1 p.2) : News h₀ L h l' := by
  induction r with
  | here => exact h2
  | cons _ ih =>
    intro p hp
    rcases List.mem_cons.mp hp with rfl | hp
    · exact N _ (.head _)
    · exact ih (fun q hq => N q (.tail _ hq)) p hp
theorem Retail.mem {R R2 l l' : List (Addr × Obj)} (r : Retail R R2 l l') : ∀ p ∈ R, p ∈ l := by
  induction r with
  | here => exact fun _ h => h
  | cons _ ih => exact fun p hp => .tail _ (ih p hp)
theorem op_head {P : Addr → Obj → Prop} {v : Value} {o : Op} {m b : Int} (h : OpIs P v o) (hg : faultP m b o = S "") : ∃ a n t rest, v = .ref a ∧ P a (tupOf (.str n t :: rest)) := by
  have bad : noOp ≠ S "" := by decide +kernel
  cases h with
  | e0 e => exact absurd hg bad
  | e1 e => exact ⟨_, _, _, _, rfl, e⟩
  | e2 e _ => exact ⟨_, _, _, _, rfl, e⟩
  | e3 e _ _ => exact ⟨_, _, _, _, rfl, e⟩
  | e4 e => exact ⟨_, _, _, _, rfl, e⟩
theorem pairs_led {h₀ h : Heap} {L : Addr} {good : Int → Prop} : ∀ {vs : List Value}, PairsAre (NewAt h₀ L h) good vs → ∃ E : List (Addr × Obj), PairsAre (fun a o => (a, o) ∈ E) good vs ∧ (∀ p ∈ E, NewAt h₀ L h p.1 p.2) ∧ ∀ p ∈ E, p.2.cls = .type "tuple"
  | [], _ => ⟨[], .nil, (fun _ h => nomatch h), fun _ h => nomatch h⟩
  | v :: vs, hp => by
    obtain ⟨a, k, t, hv, u, rfl, e, g⟩ := hp v List.mem_cons_self
    obtain ⟨E, h1, h2, h3⟩ := pairs_led (vs := vs) fun v hv => hp v (List.mem_cons_of_mem _ hv)
    refine ⟨(a, tupOf [.int k t, .int hv u]) :: E, fun x hx => ?_, fun p hp => ?_, fun p hp => ?_⟩
    · rcases List.mem_cons.mp hx with rfl | hx
      · exact ⟨a, k, t, hv, u, rfl, .head _, g⟩
      · obtain ⟨a, k, t, hv, u, e1, e2, e3⟩ := h1 x hx
        exact ⟨a, k, t, hv, u, e1, .tail _ e2, e3⟩
    · rcases List.mem_cons.mp hp with rfl | hp
      · exact e
      · exact h2 p hp
    · rcases List.mem_cons.mp hp with rfl | hp
      · rfl
      · exact h3 p hp
noncomputable abbrev hTexts : List Str := [S "nothing stands behind the last op", S "unlike heights of the stack", S "too few worths", S "worths are left"]
noncomputable def GoodOps (R : List (Addr × Obj)) (m b : Int) (os : List Value) : Prop := ∀ v ∈ os, ∃ o, OpIs (fun a ob => (a, ob) ∈ R) v o ∧ o.WF ∧ faultP m b o = S ""
/-- the dict of heights -/
structure KvsOk (many : Int) (kvs : List (Int × Value)) : Prop where
  vi : ∀ p ∈ kvs, ∃ i t, p.2 = Value.int i t
  kd : (kvs.map (·.1)).Nodup
  kr : ∀ k ∈ kvs.map (·.1), 0 ≤ k ∧ k < many
theorem KvsOk.nil {many : Int} : KvsOk many [] := ⟨(fun _ h => nomatch h), List.nodup_nil, fun _ h => nomatch h⟩
theorem KvsOk.get {many : Int} {kvs : List (Int × Value)} (h : KvsOk many kvs) {k : Int} (hk : (valueAt kvs k).isSome = true) : ∃ i t, valueAt kvs k = some (Value.int i t) := by
  unfold valueAt at hk ⊢
  cases hf : kvs.find? fun kv => kv.1 = k with
  | none => rw [hf] at hk; cases hk
  | some p =>
    obtain ⟨i, t, e⟩ := h.vi p (List.mem_of_find?_eq_some hf)
    exact ⟨i, t, by rw [Option.map_some, e]⟩
theorem absent {kvs : List (Int × Value)} {k : Int} (hk : (valueAt kvs k).isSome = false) : ∀ p ∈ kvs, p.1 ≠ k := fun p hp e => by
  unfold valueAt at hk
  cases hf : kvs.find? fun kv => kv.1 = k with
  | none => exact absurd (decide_eq_true e) (List.find?_eq_none.mp hf p hp)
  | some q => rw [hf] at hk; cases hk
theorem stored_absent {kvs : List (Int × Value)} {k : Int} {v : Value} (hk : (valueAt kvs k).isSome = false) : stored kvs k v = kvs ++ [(k, v)] := by
  unfold stored
  rw [if_neg]
  intro q
  obtain ⟨p, hp, e⟩ := List.any_eq_true.mp q
  exact absent hk p hp (of_decide_eq_true e)
theorem KvsOk.put {many : Int} {kvs : List (Int × Value)} (h : KvsOk many kvs) {k i : Int} {t : Tok} (hk : (valueAt kvs k).isSome = false) (h0 : 0 ≤ k) (h1 : k < many) : KvsOk many (stored kvs k (.int i t)) := by
  rw [stored_absent hk]
  refine ⟨fun p hp => ?_, ?_, fun x hx => ?_⟩
  · rcases List.mem_append.mp hp with hp | hp
    · exact h.vi p hp
    · rw [List.mem_singleton.mp hp]; exact ⟨i, t, rfl⟩
  · rw [List.map_append, List.nodup_append]
    refine ⟨h.kd, List.nodup_cons.mpr ⟨(fun h => nomatch h), List.nodup_nil⟩, fun a ha b hb e => ?_⟩
    obtain ⟨p, hp, rfl⟩ := List.mem_map.mp ha
    have : b = k := by simpa using hb
    exact absent hk p hp (e.trans this)
  · rw [List.map_append] at hx
    rcases List.mem_append.mp hx with hx | hx
    · exact h.kr x hx
    · have : x = k := by simpa using hx
      rw [this]; exact ⟨h0, h1⟩
theorem KvsOk.few {many : Int} {kvs : List (Int × Value)} (h : KvsOk many kvs) : kvs.length ≤ many.toNat := by
  have q := nodup_len (l := kvs.map fun p => p.1.toNat) (l' := List.range many.toNat) ?_ fun x hx => ?_
  · simpa using q
  · have : (kvs.map fun p => p.1.toNat) = (kvs.map (·.1)).map Int.toNat := by simp
    rw [this]
    refine List.Pairwise.map _ ?_ (List.Pairwise.and_mem.mp h.kd)
    intro a b ⟨ha, hb, hab⟩ e
    have := h.kr a ha
    have := h.kr b hb
    exact hab (by omega)
  · obtain ⟨p, hp, rfl⟩ := List.mem_map.mp hx
    have := h.kr p.1 (List.mem_map_of_mem hp)
    rw [List.mem_range]
    omega
theorem stored_length {kvs : List (Int × Value)} {k : Int} {v : Value} (hk : (valueAt kvs k).isSome = false) : (stored kvs k v).length = kvs.length + 1 := by rw [stored_absent hk]; simp
/-- what the loop keeps -/
noncomputable def HJ (prog : Program) (w : World) (C D O G : Addr) (co cd oo go : Obj) (many : Int) (Kn Fa Ln : Addr) (R0 : List (Addr × Obj)) (n : Nat) (mm : Str → Option Value) (news : List (Addr × Obj)) : Prop :=
  ∃ (ko : Obj) (kvs : List (Int × Value)) (fs : List Value) (rs : List Row) (ls : List Value) (R : List (Addr × Obj)) (kf kl : Nat),
    news = (Kn, ko) :: (Fa, listOf (List.toArray fs) kf) :: (Ln, listOf (List.toArray ls) kl) :: (C, co) :: (D, cd) :: (O, oo) :: (G, go) :: R ∧
    mm (S "code") = some (.ref C) ∧ mm (S "known") = some (.ref Kn) ∧ mm (S "faults") = some (.ref Fa) ∧ mm (S "line") = some (.ref Ln) ∧
    (∀ p ∈ R0, p ∈ R) ∧ (∀ p ∈ R, p.2.cls = .type "tuple") ∧ ko.IsDictOf (PySem.intKind prog w) kvs ∧ KvsOk many kvs ∧
    RowsAre (fun a o => (a, o) ∈ R) fs rs ∧ (∀ r ∈ rs, r.2 ∈ hTexts) ∧ PairsAre (fun a o => (a, o) ∈ R) (fun k => 0 ≤ k ∧ k ≤ many) ls ∧
    n = 5 * (many.toNat - kvs.length) + ls.length ∧ rs.length + n ≤ 60
theorem hj_step {prog : Program} {w : World} {C D O G Kn Fa Ln : Addr} {co cd oo go ko : Obj} {many : Int} {R0 R l' : List (Addr × Obj)} {n n' kf kl tk' : Nat} {f : Flow} {h₀ h' : Heap} {L : Addr} {mm : Str → Option Value} {kvs : List (Int × Value)} {fs ls : List Value} {rs : List Row} {s : Shared} {Q : Flow → Shared → Prop}
    (hf : f = .next ∨ f = .cont) (F : Fr h₀ L h' mm) (N : News h₀ L h' l') (hs : ∀ p ∈ (Kn, ko) :: (Fa, listOf (List.toArray fs) kf) :: (Ln, listOf (List.toArray ls) kl) :: (C, co) :: (D, cd) :: (O, oo) :: (G, go) :: R, p ∈ l')
    (e1 : mm (S "code") = some (.ref C)) (e2 : mm (S "known") = some (.ref Kn)) (e3 : mm (S "faults") = some (.ref Fa)) (e4 : mm (S "line") = some (.ref Ln))
    (h0 : ∀ p ∈ R0, p ∈ R) (h1 : ∀ p ∈ R, p.2.cls = .type "tuple") (hk : ko.IsDictOf (PySem.intKind prog w) kvs) (hv : KvsOk many kvs) (hr : RowsAre (fun a o => (a, o) ∈ R) fs rs) (ht : ∀ r ∈ rs, r.2 ∈ hTexts) (hp : PairsAre (fun a o => (a, o) ∈ R) (fun k => 0 ≤ k ∧ k ≤ many) ls)
    (hn : n' = 5 * (many.toNat - kvs.length) + ls.length) (hlt : n' < n) (hb : rs.length + n' ≤ 60) :
    WhileStep2 h₀ L s (HJ prog w C D O G co cd oo go many Kn Fa Ln R0) Q n f { s with heap := h', toks := tk' } := by
  have go : ∃ h₁ tk m₂ news₂ n₁, ({ s with heap := h', toks := tk' } : Shared) = { s with heap := h₁, toks := tk } ∧ Fr h₀ L h₁ m₂ ∧ News h₀ L h₁ news₂ ∧ n₁ < n ∧ HJ prog w C D O G co cd oo go many Kn Fa Ln R0 n₁ m₂ news₂ :=
    ⟨h', tk', mm, _, n', rfl, F, News.sub9 N hs, hlt, ko, kvs, fs, rs, ls, R, kf, kl, rfl, e1, e2, e3, e4, h0, h1, hk, hv, hr, ht, hp, hn, hb⟩
  rcases hf with rfl | rfl
  · exact go
  · exact go
theorem tup_head {prog : Program} {w : World} {A : Around} {E : Value → Shared → Prop} {s : Shared} {h₀ : Heap} {L : Addr} {news : List (Addr × Obj)} {value slice : Expr} {a : Addr} {v : Value} {rest : List Value} {n : Nat} {u : Tok} {Q : Value → Shared → Prop}
    (N : News h₀ L s.heap news) (hm : (a, ({ cls := .type "tuple", data := .seq (v :: rest).toArray n } : Obj)) ∈ news) (h : Q v s)
    (hs : subscripted slice false (.ref a) (.int 0 u) = operate [.ref a, .int 0 u] (getItem (.ref a) (.int 0 u)) := by with_unfolding_all rfl) (hg : ∀ r, letTemporaryGo value (.ref a) r = pure () := by intro _; with_unfolding_all rfl) :
    wpAny (model prog w) A (subscriptTail value slice (.ref a) (.int 0 u)) Q E s :=
  tup_item_any N hm (Int.le_refl 0) (by simp) (by decide) (fun x hx _ => by
    have : v = x := by simpa using hx
    exact this ▸ h) hs hg
theorem rows_snoc {R : List (Addr × Obj)} {fs : List Value} {rs : List Row} {a₁ : Addr} {k : Int} {x : Str} {t u : Tok} (h : RowsAre (fun a o => (a, o) ∈ R) fs rs) : RowsAre (fun a o => (a, o) ∈ R ++ [(a₁, rowObj k x t u)]) (fs ++ [.ref a₁]) (rs ++ [(k, x)]) :=
  RowsAre.append (h.mono fun _ _ e => List.mem_append_left _ e) (.cons (List.mem_append_right _ (.head _)) .nil)

/-! height_faults -/
section

theorem kreg34 : True := by
  w_top off
  k_with "CompSrc" => ((k_here; refine sealOf ?_))
  exact True.intro

@[irreducible] def Halt (P : Prop) : Prop := P
theorem haltOf {P : Prop} (h : Halt P) : P := by unfold Halt at h; exact h
theorem toHalt {P : Prop} (h : P) : Halt P := by unfold Halt; exact h

































theorem kreg35 : True := by
  w_top off
  k_with "exec Assign cons ListComp" => ((k_here; k_dflt (refine LCg.Assign_ListComp_U (F₀ := by k_asm) (by rfl) (by with_unfolding_all rfl) (by with_unfolding_all rfl) (by decide) (by rfl) (by decide) (by rfl) (by rfl) (by rfl) ?_)))
  k_with "M pairend" => (((rename News g' L' _ _ => kM); (rename Fr g' L' _ _ => kF); exact PairEnd.intro kF kM (by k_mem) (by k_extra "M subv") (by omega) (by omega) (by omega)))
  k_with "exec While Compare cons nil" => ((k_here; refine haltOf ?_))
  k_with "compareOp NotEq ref ref" => ((k_here; k_dflt (refine' ne_nil_pairs ?k1 ?k2 ?k3 hpL ?k4 ?k5 ?_; (case k1 => k_asm); (case k2 => k_mem); (case k3 => k_mem); (case k4 => k_extra "M subv"); (case k5 => first | units_room | ktr_units)); (try simp only [List.isEmpty_nil, Bool.not_true, hpE])))
  k_with "call builtin:list.pop" => ((k_here; k_dflt (refine' pop_last ?k1 ?k2 ?k3 ?k4 ?_; (case k1 => k_asm); (case k2 => k_asm); (case k3 => k_upd); (case k4 => omega)); intro h' F' N'; (try k_sweep)))
  k_with "compareOp In int ref" => ((k_here; k_dflt (refine' kda_in (knd := PySem.intKind _ _) ?k1 ?k2 hKd loK (intKind_is _ _ _ _) _ rfl ?_; (case k1 => k_asm); (case k2 => k_mem))))
  k_with "subscriptTail Name Name ref int" => ((k_here; rcases hKv.get (by assumption) with ⟨i8, t8, e8⟩; k_dflt (refine' kda_item (knd := PySem.intKind _ _) ?k1 ?k2 hKd (intKind_is _ _ _ _) e8 ?_; (case k1 => k_asm); (case k2 => k_mem))))
  k_with "setItem ref int" => ((k_here; k_dflt (refine' kda_set (knd := PySem.intKind _ _) ?F ?N ?U hKd (intKind_is _ _ _ _) ?z ?_; (case F => k_asm); (case N => k_asm); (case U => k_updF); (case z => exact size_kvs hKv h10)); intro h' o' F' N' hKd'; (try dsimp only at N'); (try k_sweep)))
  k_with "subscriptTail Name Name ref int" => ((k_here; (with_reducible show wpAny _ _ (subscriptTail _ _ (Value.ref _) (Value.int _ _)) _ _ _); k_dflt (refine' tup_item_any ?k1 ?k2 ?k3 ?k4 ?k5 ?_ ?k6 ?k7; (case k1 => k_asm); (case k2 => k_mem); (case k3 => omega); (case k4 => omega); (case k5 => omega); (case k6 => with_unfolding_all rfl); (case k7 => (intro _; with_unfolding_all rfl))); intro x' hx' hxm'; rcases hops x' hxm' with ⟨o8, hO8, hw8, hg8⟩; rcases op_head hO8 hg8 with ⟨a8, n8, t8, r8, e8, ha8⟩; subst e8; have hA8 := hR0 _ ha8; (have n8a : @Ne Nat a8 Kn := hRK _ hA8); (have n8b : @Ne Nat a8 Fa := hRF _ hA8); (have n8c : @Ne Nat a8 D9 := hRL _ hA8); have N' := News.put9 (p := (a8, tupOf (.str n8 t8 :: r8))) (by assumption) (by k_extra "M memt"); (try k_fold)))
  k_with "M opled" => (exact hO8.mono (fun a9 o9 e9 => News.get3 (p := (a9, o9)) (by assumption) (by (have e7 := hR0 _ e9); k_extra "M memt")))
  k_with "call ref" => ((k_here; (with_reducible show wpAny _ _ (call (Value.ref 41) _ _) _ _ _); k_dflt (refine' height_ok (m9 := (os.length : Int)) (b9 := b9) ?k1 ?k2 ?k3 ?k4 ?k5 ?k6 ?k7 hw8 hg8 ?_; (case k1 => k_asm); (case k2 => k_asm); (case k3 => k_asm); (case k4 => k_asm); (case k5 => first | exact rfl | assumption); (case k6 => ktr_room); (case k7 => k_extra "M opled")); intro h' tk' i' t' K'; (have F' := keep_nil_fr (by assumption) K'); (have N' := keep_nil_news (by assumption) K'); (try k_sweep); (try k_fold)))
  k_with "call ref" => ((k_here; (with_reducible show wpAny _ _ (call (Value.ref 46) _ _) _ _ _); k_dflt (refine' ways_ok (m9 := (os.length : Int)) (b9 := b9) ?k1 ?k2 ?k3 ?k4 ?k5 ?k6 ?k7 hw8 hg8 ?_; (case k1 => k_asm); (case k2 => k_asm); (case k3 => k_asm); (case k4 => k_asm); (case k5 => first | exact rfl | assumption); (case k6 => ktr_room); (case k7 => k_extra "M opled")); intro h' tk' Dw ws kw K' nDw fDw pW lW; (have F' := keep_nil_fr (by assumption) K'); (have N8 := keep_nil_news (by assumption) K'); (have n1 : @Ne Nat D9 Dw := News.neFresh fDw (by assumption) (by k_mem)); (have n2 : @Ne Nat Fa Dw := News.neFresh fDw (by assumption) (by k_mem)); (have n3 : @Ne Nat Kn Dw := News.neFresh fDw (by assumption) (by k_mem)); rcases pairs_led pW with ⟨E8, hE8, hE9, hE7⟩; (have N' := News.retail (R := R1) (R2 := R1 ++ E8) (News.put N8 nDw) (by repeat (first | exact Retail.here | apply Retail.cons)) (fun p8 hp8 => (List.mem_append.mp hp8).elim (fun q8 => News.get3 N8 (by k_extra "M memt")) (fun q8 => hE9 p8 q8))); (have hRL8 := News.tailNe (a := D9) (R := R1 ++ E8) N' (by k_mem) (show (Value.type "list") ≠ Value.type "tuple" by decide) (fun p hp => (List.mem_append.mp hp).elim (hR1 p) (hE7 p)) (by k_extra "M subv")); (try k_sweep); (try k_fold)))
  k_with "call builtin:list.extend" => ((k_here; k_dflt (refine' ext_list ?k1 ?k2 ?k3 ?k4 ?k5 ?k6 ?_; (case k1 => k_asm); (case k2 => k_asm); (case k3 => k_mem); (case k4 => k_updF); (case k5 => omega); (case k6 => omega)); intro h' n9 F' N'; (try dsimp only at N'); (try k_sweep)))
  k_with "subscriptTail Name Constant ref int" => ((k_here; (with_reducible show wpAny _ _ (subscriptTail _ _ (Value.ref _) (Value.int 0 _)) _ _ _); k_dflt (refine' tup_head ?k1 ?k2 ?_; (case k1 => k_asm); (case k2 => exact List.Mem.head _))))
  k_with "M hfrow" => ((intro r9 hr9; rcases List.mem_append.mp hr9 with hr9 | hr9; exact hTx r9 hr9; rw [List.mem_singleton.mp hr9]; (first | exact .head _ | exact .tail _ (.head _) | exact .tail _ (.tail _ (.head _)) | exact .tail _ (.tail _ (.tail _ (.head _))))))
  k_with "M hftup" => ((intro p9 hp9; rcases List.mem_append.mp hp9 with hp9 | hp9; exact hR1 p9 hp9; rw [List.mem_singleton.mp hp9]))
  k_with "M hfsub" => ((refine List.forall_mem_cons.mpr ⟨by k_mem, List.forall_mem_cons.mpr ⟨by k_mem, List.forall_mem_cons.mpr ⟨by k_mem, List.forall_mem_cons.mpr ⟨by k_mem, List.forall_mem_cons.mpr ⟨by k_mem, List.forall_mem_cons.mpr ⟨by k_mem, List.forall_mem_cons.mpr ⟨by k_mem, ?_⟩⟩⟩⟩⟩⟩⟩; intro p8 hp8; first | k_extra "M memt" | (rcases List.mem_append.mp hp8 with hp8 | hp8; k_extra "M memt"; rw [List.mem_singleton.mp hp8]; k_mem)))
  exact True.intro

theorem pairs_app {P : Addr → Obj → Prop} {good : Int → Prop} {xs ys : List Value} (h : PairsAre P good xs) (h' : PairsAre P good ys) : PairsAre P good (xs ++ ys) := fun v hv => (List.mem_append.mp hv).elim (h v) (h' v)
theorem News.neFresh {h₀ h : Heap} {L : Addr} {news : List (Addr × Obj)} {a b : Addr} {o : Obj} (hf : h.get? b = none) (N : News h₀ L h news) (hm : (a, o) ∈ news) : a ≠ b := by
  rintro rfl
  rw [(N _ hm).1] at hf
  cases hf
theorem size_kvs {n : Nat} {kvs : List (Int × Value)} (h : KvsOk (n : Int) kvs) (hn : n < 8) : kvs.length ≤ sizeLine := by
  have := h.few
  rw [sizeLine_eq]
  omega
theorem ar1 {n1 x p : Nat} (h : n1 = 5 * x + (p + (0 + 1))) : 5 * x + p < n1 := by lia
theorem ar2 {r n1 x p : Nat} (h : n1 = 5 * x + (p + (0 + 1))) (hb : r + n1 ≤ 60) : r + (0 + 1) + (5 * x + p) ≤ 60 := by lia
theorem ar3 {r n1 x p : Nat} (h : n1 = 5 * x + (p + (0 + 1))) (hb : r + n1 ≤ 60) : r + (5 * x + p) ≤ 60 := by lia
theorem ar4 {n1 o k p st : Nat} (h : n1 = 5 * (o - k) + (p + (0 + 1))) (hs : st = k + 1) : 5 * (o - st) + p < n1 := by lia
theorem ar5 {r n1 o k p st : Nat} (h : n1 = 5 * (o - k) + (p + (0 + 1))) (hs : st = k + 1) (hb : r + n1 ≤ 60) : r + (0 + 1) + (5 * (o - st) + p) ≤ 60 := by lia
theorem ar6 {n1 o k p st w : Nat} (h : n1 = 5 * (o - k) + (p + (0 + 1))) (hs : st = k + 1) (hf : st ≤ o) (hw : w ≤ 4) : 5 * (o - st) + (p + w) < n1 := by lia
theorem ar7 {r n1 o k p st w : Nat} (h : n1 = 5 * (o - k) + (p + (0 + 1))) (hs : st = k + 1) (hf : st ≤ o) (hw : w ≤ 4) (hb : r + n1 ≤ 60) : r + (5 * (o - st) + (p + w)) ≤ 60 := by lia



theorem kreg36 : True := by
  w_top off
  k_with "M arA" => (first | exact ar1 hn1 | exact ar4 hn1 hl2 | (rw [List.length_append]; exact ar6 hn1 hl2 hf2 (by assumption)) | (simp; omega))
  k_with "M arB" => (first | (rw [List.length_append]; exact ar2 hn1 hb1) | exact ar3 hn1 hb1 | (rw [List.length_append]; exact ar5 hn1 hl2 hb1) | (rw [List.length_append]; exact ar7 hn1 hl2 hf2 (by assumption) hb1) | (simp; omega))
  exact True.intro

theorem hf_ok {w : World} {mean : ExcName → Option Value} {mg mb : Str → Option Value} {dp un : Nat} {gd : Option (List Code)} {cn : Str} {cs : Scope} {a : Addr} {ccd : Value} {cl : List (Str × Addr)} {outer : List Env} {A₀ : Around} {base h₀ : Heap} {L : Addr} {m : Str → Option Value} {s : Shared} {Q E : Value → Shared → Prop}
  {C D O G : Addr} {os bs : List Value} {begins : List Int} {t u : Tok} {nd : Nat} {R : List (Addr × Obj)} {b9 : Int}
  (B : Below A₀ base outer h₀) (F : Fr h₀ L s.heap m) (X : (Mine.hd.heap_1 w.params).In h₀) (T : Top Mine.hd.view_1 lo mean mg mb h₀) (hk : cs.kind = .function) (hd : dp + 3 < recursionLimit) (hu : un + 400 < cLine)
  (N : News h₀ L s.heap ((C, instObj 82 D) :: (D, codeDict w O G t u nd) :: (O, tupOf os) :: (G, tupOf bs) :: R))
  (hops : GoodOps R os.length b9 os) (hR : ∀ p ∈ R, p.2.cls = .type "tuple") (h1 : 0 < os.length) (h10 : os.length < 8)
  (hbs : IntsAre bs begins) (hbg : ∀ k ∈ begins, 0 ≤ k ∧ k < os.length) (hbl : begins.length < 5)
  (hret : ∀ h' tk H k hs rs, KeepBut [] s.heap h' → NewAt h₀ L h' H (listOf (List.toArray hs) k) → RowsAre (NewAt h₀ L h') hs rs → (∀ r ∈ rs, r.2 ∈ hTexts) → rs.length ≤ 60 → Q (.ref H) { s with heap := h', toks := tk }) :
  wpAny (model PySem.Challenge.rw_pq0627_01.row.prog w) (ktrTop dp un gd cn cs L a ccd cl outer) (call (.ref 51) [.ref C]) Q E s := by
  revert X; k_fill; intro X
  refine wpAny_call ?_
  k_dflt (k_extra "M enter")
  have kG0 := kG'
  k_steps
  rename_i Kn h8 Ko loK hs5 fs6 hiK fi8 l9 Fa h11 l12 Dt h14 l15 h16 h17 h18 Dg cg h21 l22 l0 h24 l25 Dl wl hN FN NN hI' lN
  refine toSeal ?_
  k_dflt (refine comp_pairs (fun k => 0 ≤ k ∧ k ≤ (os.length : Int)) (by rfl) (by k_asm) (by k_asm) (by k_mem) hI' ?g1 ?g2 ?g3 ?g4)
  case g1 =>
    intro k hk
    rcases List.mem_append.mp hk with hk | hk
    · have := hbg k hk; omega
    · have : k = 0 := by simpa using hk
      omega
  case g2 =>
    have := PyProof.Rows.IntsAre.length hI'
    rw [List.length_append] at this
    simp at this
    omega
  case g3 =>
    intro k9 t9 I9 oI9 C9 oC9 D9 ys9 R9 m9' h9' tk9 E9 hk9 hC9 hx9 F9 N9
    (try simp only [List.cons_append, List.nil_append] at N9)
    k_steps
    all_goals k_extra "M pairend"
  case g4 =>
    intro g9 ys9 R9 hp9 hl9 hc9
    unfold LCg.FinA
    intro D9 h9' tk9 F9 N9 o9
    have hR9 : ∀ p ∈ R9, p.1 ≠ D9 := fun p hp => off1_mem o9 p (List.mem_append_right _ hp)
    (try simp only [List.nil_append, List.cons_append, LCg.Off1] at N9 o9)
    (try dsimp only)
    have hz9 : ys9.length < 10 := by
      have := PyProof.Rows.IntsAre.length hI'
      rw [List.length_append] at this
      simp at this
      omega
    k_steps
    refine toHalt ?_
    have hcK : Ko.cls ≠ .type "tuple" := by
      obtain ⟨_, _, q, _⟩ := hiK
      rw [q.1]; decide
    k_dflt (refine While_inv2 (n₀ := 5 * os.length + ys9.length) (HJ PySem.Challenge.rw_pq0627_01.row.prog w C D O G (instObj 82 D) (codeDict w O G t u nd) (tupOf os) (tupOf bs) os.length Kn Fa D9 R) F9 (News.sub9 (l := (Kn, Ko) :: (Fa, listOf (List.toArray []) 0) :: (D9, listOf (List.toArray ys9) ys9.length) :: (C, instObj 82 D) :: (D, codeDict w O G t u nd) :: (O, tupOf os) :: (G, tupOf bs) :: (R ++ R9)) N9 ?j0) ?j1 ?j2)
    case j0 =>
      refine List.forall_mem_cons.mpr ⟨by k_mem, ?_⟩
      refine List.forall_mem_cons.mpr ⟨by k_mem, ?_⟩
      refine List.forall_mem_cons.mpr ⟨by k_mem, ?_⟩
      refine List.forall_mem_cons.mpr ⟨by k_mem, ?_⟩
      refine List.forall_mem_cons.mpr ⟨by k_mem, ?_⟩
      refine List.forall_mem_cons.mpr ⟨by k_mem, ?_⟩
      refine List.forall_mem_cons.mpr ⟨by k_mem, ?_⟩
      intro p8 hp8
      k_extra "M memt"
    case j1 =>
      refine ⟨Ko, [], [], [], ys9, R ++ R9, 0, ys9.length, rfl, rfl, rfl, rfl, rfl, fun p hp => List.mem_append_left _ hp, fun p hp => ?_, hiK, .nil, .nil, (fun _ h => nomatch h), hp9.mono (fun _ _ h => List.mem_append_right _ h) (fun _ h => h), ?_, ?_⟩
      · rcases List.mem_append.mp hp with hp | hp
        · exact hR p hp
        · exact hc9 p hp
      · simp
      · simp; omega
    case j2 =>
      clear FN NN F9 N9 hN hiK
      rintro n1 m1 news1 h1' tk1 F1 N1 ⟨ko, kvs, fs, rs, ls, R1, kf, kl, rfl, e1, e2, e3, e4, hR0, hR1, hKd, hKv, hRw, hTx, hpL, hn1, hb1⟩
      rw [at_name4 e1 e2 e3 e4] at F1
      have hcK : ko.cls ≠ .type "tuple" := by
        obtain ⟨_, _, q, _⟩ := hKd
        rw [q.1]; decide
      have sR : ∀ p ∈ R1, p ∈ (Kn, ko) :: (Fa, listOf (List.toArray fs) kf) :: (D9, listOf (List.toArray ls) kl) :: (C, instObj 82 D) :: (D, codeDict w O G t u nd) :: (O, tupOf os) :: (G, tupOf bs) :: R1 := by k_extra "M subv"
      have hRK := News.tailNe N1 (.head _) hcK hR1 sR
      have hRF := News.tailNe N1 (.tail _ (.head _)) (show (Value.type "list") ≠ Value.type "tuple" by decide) hR1 sR
      have hRL := News.tailNe N1 (.tail _ (.tail _ (.head _))) (show (Value.type "list") ≠ Value.type "tuple" by decide) hR1 sR
      have lrs := hRw.length
      have m1 : @Ne Nat C Kn := Nat.ne_of_lt l9.1
      have m2 : @Ne Nat D Kn := Nat.ne_of_lt l9.2.1
      have m3 : @Ne Nat O Kn := Nat.ne_of_lt l9.2.2.1
      have m4 : @Ne Nat G Kn := Nat.ne_of_lt l9.2.2.2.1
      have m5 : @Ne Nat Kn Fa := Nat.ne_of_lt l12.1
      have m6 : @Ne Nat C Fa := Nat.ne_of_lt l12.2.1
      have m7 : @Ne Nat D Fa := Nat.ne_of_lt l12.2.2.1
      have m8 : @Ne Nat O Fa := Nat.ne_of_lt l12.2.2.2.1
      have m9 : @Ne Nat G Fa := Nat.ne_of_lt l12.2.2.2.2.1
      have m10 : @Ne Nat Fa D9 := o9.2.2.2.2.1
      have m11 : @Ne Nat Kn D9 := o9.2.2.2.2.2.1
      have m12 : @Ne Nat C D9 := o9.2.2.2.2.2.2.1
      have m13 : @Ne Nat D D9 := o9.2.2.2.2.2.2.2.1
      have m14 : @Ne Nat O D9 := o9.2.2.2.2.2.2.2.2.1
      have m15 : @Ne Nat G D9 := o9.2.2.2.2.2.2.2.2.2.1
      clear o9 l9 l12
      rcases List.eq_nil_or_concat ls with rfl | ⟨p, y, rfl⟩
      · k_steps
        rename News h₀ L _ _ => kN
        refine hret _ _ _ _ fs rs (keep_led kG0 (by assumption) N kN ?z1) (kN (_, _) (by k_mem)) (hRw.mono (fun a9 o9 e9 => kN (a9, o9) (by k_extra "M memt"))) hTx (by omega)
        refine List.forall_mem_cons.mpr ⟨fun _ => by k_mem, List.forall_mem_cons.mpr ⟨fun _ => by k_mem, List.forall_mem_cons.mpr ⟨fun _ => by k_mem, List.forall_mem_cons.mpr ⟨fun _ => by k_mem, ?_⟩⟩⟩⟩
        intro p8 hp8 _
        have hp7 := hR0 p8 hp8
        k_extra "M memt"
      · rw [List.concat_eq_append] at *
        have hpE : (p ++ [y]).isEmpty = false := by simp
        have hlp : p.length < 100 := by simp at hn1; omega
        obtain ⟨a5, k5, t5, hv5, u5, rfl, hm5, hg5, hg6⟩ := hpL y (by simp)
        have N2 := News.put9 N1 (.tail _ (.tail _ (.tail _ (.tail _ (.tail _ (.tail _ (.tail _ hm5)))))))
        clear N1
        have hpL9 : PairsAre (fun a o => (a, o) ∈ R1) (fun k => 0 ≤ k ∧ k ≤ (os.length : Int)) p := fun v hv => hpL v (List.mem_append_left _ hv)
        have n5a : @Ne Nat a5 Kn := hRK _ hm5
        have n5b : @Ne Nat a5 Fa := hRF _ hm5
        have n5c : @Ne Nat a5 D9 := hRL _ hm5
        k_steps
        all_goals (try dsimp only)
        all_goals (have hnn : (os.length : Int).toNat = os.length := Int.toNat_natCast _)
        all_goals (try simp only [List.length_append, List.length_cons, List.length_nil] at hn1)
        all_goals (rename Fr g' L' _ _ => kF)
        all_goals (rename News g' L' _ _ => kM)
        · rw [List.push_toArray] at kM
          exact hj_step (.inr rfl) kF kM (R := R1 ++ [(_, rowObj k5 _ _ _)]) (by k_extra "M hfsub") rfl rfl rfl rfl (fun p hp => List.mem_append_left _ (hR0 p hp)) (by k_extra "M hftup") hKd hKv (rows_snoc hRw) (by k_extra "M hfrow") (hpL9.mono (fun _ _ h => List.mem_append_left _ h) fun _ h => h) rfl (by k_extra "M arA") (by k_extra "M arB")
        · rw [List.push_toArray] at kM
          exact hj_step (.inr rfl) kF kM (R := R1 ++ [(_, rowObj k5 _ _ _)]) (by k_extra "M hfsub") rfl rfl rfl rfl (fun p hp => List.mem_append_left _ (hR0 p hp)) (by k_extra "M hftup") hKd hKv (rows_snoc hRw) (by k_extra "M hfrow") (hpL9.mono (fun _ _ h => List.mem_append_left _ h) fun _ h => h) rfl (by k_extra "M arA") (by k_extra "M arB")
        · exact hj_step (.inr rfl) kF kM (R := R1) (by k_extra "M hfsub") rfl rfl rfl rfl hR0 hR1 hKd hKv hRw hTx hpL9 rfl (by k_extra "M arA") (by k_extra "M arB")
        · have hab : (valueAt kvs k5).isSome = false := by assumption
          have hK2 := hKv.put (i := hv5) (t := u5) hab (by omega) (by omega)
          have hl2 := stored_length (v := Value.int hv5 u5) hab
          have hf2 := hK2.few
          rw [List.push_toArray] at kM
          exact hj_step (.inl rfl) kF kM (R := R1 ++ [(_, rowObj k5 _ _ _)]) (by k_extra "M hfsub") rfl rfl rfl rfl (fun p hp => List.mem_append_left _ (hR0 p hp)) (by k_extra "M hftup") hKd' hK2 (rows_snoc hRw) (by k_extra "M hfrow") (hpL9.mono (fun _ _ h => List.mem_append_left _ h) fun _ h => h) rfl (by k_extra "M arA") (by k_extra "M arB")
        · have hab : (valueAt kvs k5).isSome = false := by assumption
          have hK2 := hKv.put (i := hv5) (t := u5) hab (by omega) (by omega)
          have hl2 := stored_length (v := Value.int hv5 u5) hab
          have hf2 := hK2.few
          rw [List.push_toArray] at kM
          exact hj_step (.inl rfl) kF kM (R := R1 ++ [(_, rowObj k5 _ _ _)]) (by k_extra "M hfsub") rfl rfl rfl rfl (fun p hp => List.mem_append_left _ (hR0 p hp)) (by k_extra "M hftup") hKd' hK2 (rows_snoc hRw) (by k_extra "M hfrow") (hpL9.mono (fun _ _ h => List.mem_append_left _ h) fun _ h => h) rfl (by k_extra "M arA") (by k_extra "M arB")
        all_goals have hab : (valueAt kvs k5).isSome = false := by assumption
        all_goals have hK2 := hKv.put (i := hv5) (t := u5) hab (by omega) (by omega)
        all_goals have hl2 := stored_length (v := Value.int hv5 u5) hab
        all_goals have hf2 := hK2.few
        all_goals exact hj_step (.inl rfl) kF kM (R := R1 ++ E8) (by k_extra "M hfsub") rfl rfl rfl rfl (fun p hp => List.mem_append_left _ (hR0 p hp)) (fun p hp => (List.mem_append.mp hp).elim (hR1 p) (hE7 p)) hKd' hK2 (hRw.mono fun _ _ h => List.mem_append_left _ h) hTx (pairs_app (hpL9.mono (fun _ _ h => List.mem_append_left _ h) fun _ h => h) (hE8.mono (fun _ _ h => List.mem_append_right _ h) (fun k h => by omega))) rfl (by k_extra "M arA") (by k_extra "M arB")
end
theorem kreg37 : True := by
  w_top off
  k_with_none
  k_with "M ne" => (first | (with_reducible assumption) | (with_reducible exact Ne.symm (by assumption)) | (with_reducible exact Nat.ne_of_lt (by assumption)) | (with_reducible exact Nat.ne_of_gt (by assumption)) | (k_extra "M nec"))
  k_with "M nec" => (first | ((rename (_ < _) ∧ _ => hc9); first | (with_reducible exact Nat.ne_of_lt hc9.1) | (with_reducible exact Nat.ne_of_gt hc9.1) | (with_reducible exact Nat.ne_of_lt hc9) | (with_reducible exact Nat.ne_of_gt hc9) | (with_reducible exact Nat.ne_of_lt hc9.2.1) | (with_reducible exact Nat.ne_of_gt hc9.2.1) | (with_reducible exact Nat.ne_of_lt hc9.2) | (with_reducible exact Nat.ne_of_gt hc9.2) | (with_reducible exact Nat.ne_of_lt hc9.2.2.1) | (with_reducible exact Nat.ne_of_gt hc9.2.2.1) | (with_reducible exact Nat.ne_of_lt hc9.2.2) | (with_reducible exact Nat.ne_of_gt hc9.2.2) | (with_reducible exact Nat.ne_of_lt hc9.2.2.2.1) | (with_reducible exact Nat.ne_of_gt hc9.2.2.2.1) | (with_reducible exact Nat.ne_of_lt hc9.2.2.2) | (with_reducible exact Nat.ne_of_gt hc9.2.2.2) | (with_reducible exact Nat.ne_of_lt hc9.2.2.2.2.1) | (with_reducible exact Nat.ne_of_gt hc9.2.2.2.2.1) | (with_reducible exact Nat.ne_of_lt hc9.2.2.2.2) | (with_reducible exact Nat.ne_of_gt hc9.2.2.2.2) | (with_reducible exact Nat.ne_of_lt hc9.2.2.2.2.2.1) | (with_reducible exact Nat.ne_of_gt hc9.2.2.2.2.2.1) | (with_reducible exact Nat.ne_of_lt hc9.2.2.2.2.2) | (with_reducible exact Nat.ne_of_gt hc9.2.2.2.2.2) | (with_reducible exact Nat.ne_of_lt hc9.2.2.2.2.2.2.1) | (with_reducible exact Nat.ne_of_gt hc9.2.2.2.2.2.2.1) | (with_reducible exact Nat.ne_of_lt hc9.2.2.2.2.2.2) | (with_reducible exact Nat.ne_of_gt hc9.2.2.2.2.2.2) | (with_reducible exact Nat.ne_of_lt hc9.2.2.2.2.2.2.2.1) | (with_reducible exact Nat.ne_of_gt hc9.2.2.2.2.2.2.2.1) | (with_reducible exact Nat.ne_of_lt hc9.2.2.2.2.2.2.2) | (with_reducible exact Nat.ne_of_gt hc9.2.2.2.2.2.2.2) | (with_reducible exact Nat.ne_of_lt hc9.2.2.2.2.2.2.2.2.1) | (with_reducible exact Nat.ne_of_gt hc9.2.2.2.2.2.2.2.2.1) | (with_reducible exact Nat.ne_of_lt hc9.2.2.2.2.2.2.2.2) | (with_reducible exact Nat.ne_of_gt hc9.2.2.2.2.2.2.2.2) | (with_reducible exact Nat.ne_of_lt hc9.2.2.2.2.2.2.2.2.2.1) | (with_reducible exact Nat.ne_of_gt hc9.2.2.2.2.2.2.2.2.2.1) | (with_reducible exact Nat.ne_of_lt hc9.2.2.2.2.2.2.2.2.2) | (with_reducible exact Nat.ne_of_gt hc9.2.2.2.2.2.2.2.2.2) | (with_reducible exact Nat.ne_of_lt hc9.2.2.2.2.2.2.2.2.2.2.1) | (with_reducible exact Nat.ne_of_gt hc9.2.2.2.2.2.2.2.2.2.2.1) | (with_reducible exact Nat.ne_of_lt hc9.2.2.2.2.2.2.2.2.2.2) | (with_reducible exact Nat.ne_of_gt hc9.2.2.2.2.2.2.2.2.2.2) | (with_reducible exact Nat.ne_of_lt hc9.2.2.2.2.2.2.2.2.2.2.2.1) | (with_reducible exact Nat.ne_of_gt hc9.2.2.2.2.2.2.2.2.2.2.2.1) | (with_reducible exact Nat.ne_of_lt hc9.2.2.2.2.2.2.2.2.2.2.2) | (with_reducible exact Nat.ne_of_gt hc9.2.2.2.2.2.2.2.2.2.2.2) | (with_reducible exact Nat.ne_of_lt hc9.2.2.2.2.2.2.2.2.2.2.2.2.1) | (with_reducible exact Nat.ne_of_gt hc9.2.2.2.2.2.2.2.2.2.2.2.2.1) | (with_reducible exact Nat.ne_of_lt hc9.2.2.2.2.2.2.2.2.2.2.2.2) | (with_reducible exact Nat.ne_of_gt hc9.2.2.2.2.2.2.2.2.2.2.2.2) | (with_reducible exact Nat.ne_of_lt hc9.2.2.2.2.2.2.2.2.2.2.2.2.2.1) | (with_reducible exact Nat.ne_of_gt hc9.2.2.2.2.2.2.2.2.2.2.2.2.2.1) | (with_reducible exact Nat.ne_of_lt hc9.2.2.2.2.2.2.2.2.2.2.2.2.2) | (with_reducible exact Nat.ne_of_gt hc9.2.2.2.2.2.2.2.2.2.2.2.2.2) | (clear hc9; k_extra "M nec")) | ((rename (_ ≠ _) ∧ _ => hc9); first | (with_reducible exact hc9.1) | (with_reducible exact Ne.symm hc9.1) | (with_reducible exact hc9) | (with_reducible exact Ne.symm hc9) | (with_reducible exact hc9.2.1) | (with_reducible exact Ne.symm hc9.2.1) | (with_reducible exact hc9.2) | (with_reducible exact Ne.symm hc9.2) | (with_reducible exact hc9.2.2.1) | (with_reducible exact Ne.symm hc9.2.2.1) | (with_reducible exact hc9.2.2) | (with_reducible exact Ne.symm hc9.2.2) | (with_reducible exact hc9.2.2.2.1) | (with_reducible exact Ne.symm hc9.2.2.2.1) | (with_reducible exact hc9.2.2.2) | (with_reducible exact Ne.symm hc9.2.2.2) | (with_reducible exact hc9.2.2.2.2.1) | (with_reducible exact Ne.symm hc9.2.2.2.2.1) | (with_reducible exact hc9.2.2.2.2) | (with_reducible exact Ne.symm hc9.2.2.2.2) | (with_reducible exact hc9.2.2.2.2.2.1) | (with_reducible exact Ne.symm hc9.2.2.2.2.2.1) | (with_reducible exact hc9.2.2.2.2.2) | (with_reducible exact Ne.symm hc9.2.2.2.2.2) | (with_reducible exact hc9.2.2.2.2.2.2.1) | (with_reducible exact Ne.symm hc9.2.2.2.2.2.2.1) | (with_reducible exact hc9.2.2.2.2.2.2) | (with_reducible exact Ne.symm hc9.2.2.2.2.2.2) | (with_reducible exact hc9.2.2.2.2.2.2.2.1) | (with_reducible exact Ne.symm hc9.2.2.2.2.2.2.2.1) | (with_reducible exact hc9.2.2.2.2.2.2.2) | (with_reducible exact Ne.symm hc9.2.2.2.2.2.2.2) | (with_reducible exact hc9.2.2.2.2.2.2.2.2.1) | (with_reducible exact Ne.symm hc9.2.2.2.2.2.2.2.2.1) | (with_reducible exact hc9.2.2.2.2.2.2.2.2) | (with_reducible exact Ne.symm hc9.2.2.2.2.2.2.2.2) | (with_reducible exact hc9.2.2.2.2.2.2.2.2.2.1) | (with_reducible exact Ne.symm hc9.2.2.2.2.2.2.2.2.2.1) | (with_reducible exact hc9.2.2.2.2.2.2.2.2.2) | (with_reducible exact Ne.symm hc9.2.2.2.2.2.2.2.2.2) | (with_reducible exact hc9.2.2.2.2.2.2.2.2.2.2.1) | (with_reducible exact Ne.symm hc9.2.2.2.2.2.2.2.2.2.2.1) | (with_reducible exact hc9.2.2.2.2.2.2.2.2.2.2) | (with_reducible exact Ne.symm hc9.2.2.2.2.2.2.2.2.2.2) | (with_reducible exact hc9.2.2.2.2.2.2.2.2.2.2.2.1) | (with_reducible exact Ne.symm hc9.2.2.2.2.2.2.2.2.2.2.2.1) | (with_reducible exact hc9.2.2.2.2.2.2.2.2.2.2.2) | (with_reducible exact Ne.symm hc9.2.2.2.2.2.2.2.2.2.2.2) | (with_reducible exact hc9.2.2.2.2.2.2.2.2.2.2.2.2.1) | (with_reducible exact Ne.symm hc9.2.2.2.2.2.2.2.2.2.2.2.2.1) | (with_reducible exact hc9.2.2.2.2.2.2.2.2.2.2.2.2) | (with_reducible exact Ne.symm hc9.2.2.2.2.2.2.2.2.2.2.2.2) | (with_reducible exact hc9.2.2.2.2.2.2.2.2.2.2.2.2.2.1) | (with_reducible exact Ne.symm hc9.2.2.2.2.2.2.2.2.2.2.2.2.2.1) | (with_reducible exact hc9.2.2.2.2.2.2.2.2.2.2.2.2.2) | (with_reducible exact Ne.symm hc9.2.2.2.2.2.2.2.2.2.2.2.2.2) | (clear hc9; k_extra "M nec")) | ((rename ((_ ≠ _) ∧ _) ∧ _ => hc9); first | (with_reducible exact hc9.1.1) | (with_reducible exact Ne.symm hc9.1.1) | (with_reducible exact hc9.1.2.1) | (with_reducible exact Ne.symm hc9.1.2.1) | (with_reducible exact hc9.1.2.2) | (with_reducible exact Ne.symm hc9.1.2.2) | (with_reducible exact hc9.1) | (with_reducible exact Ne.symm hc9.1) | (with_reducible exact hc9.2.1) | (with_reducible exact Ne.symm hc9.2.1) | (with_reducible exact hc9.2.2) | (with_reducible exact Ne.symm hc9.2.2) | (with_reducible exact hc9.2.1.1) | (with_reducible exact Ne.symm hc9.2.1.1) | (with_reducible exact hc9.2.1.2.1) | (with_reducible exact Ne.symm hc9.2.1.2.1) | (with_reducible exact hc9.2.1.2.2) | (with_reducible exact Ne.symm hc9.2.1.2.2) | (with_reducible exact hc9.2.2.1) | (with_reducible exact Ne.symm hc9.2.2.1) | (with_reducible exact hc9.2.2.2) | (with_reducible exact Ne.symm hc9.2.2.2) | (with_reducible exact hc9.2.2.1.1) | (with_reducible exact Ne.symm hc9.2.2.1.1) | (with_reducible exact hc9.2.2.1.2.1) | (with_reducible exact Ne.symm hc9.2.2.1.2.1) | (with_reducible exact hc9.2.2.1.2.2) | (with_reducible exact Ne.symm hc9.2.2.1.2.2) | (with_reducible exact hc9.2.2.2.1) | (with_reducible exact Ne.symm hc9.2.2.2.1) | (with_reducible exact hc9.2.2.2.2) | (with_reducible exact Ne.symm hc9.2.2.2.2) | (with_reducible exact hc9.2.2.2.1.1) | (with_reducible exact Ne.symm hc9.2.2.2.1.1) | (with_reducible exact hc9.2.2.2.1.2.1) | (with_reducible exact Ne.symm hc9.2.2.2.1.2.1) | (with_reducible exact hc9.2.2.2.1.2.2) | (with_reducible exact Ne.symm hc9.2.2.2.1.2.2) | (with_reducible exact hc9.2.2.2.2.1) | (with_reducible exact Ne.symm hc9.2.2.2.2.1) | (with_reducible exact hc9.2.2.2.2.2) | (with_reducible exact Ne.symm hc9.2.2.2.2.2) | (with_reducible exact hc9.2.2.2.2.1.1) | (with_reducible exact Ne.symm hc9.2.2.2.2.1.1) | (with_reducible exact hc9.2.2.2.2.1.2.1) | (with_reducible exact Ne.symm hc9.2.2.2.2.1.2.1) | (with_reducible exact hc9.2.2.2.2.1.2.2) | (with_reducible exact Ne.symm hc9.2.2.2.2.1.2.2) | (with_reducible exact hc9.2.2.2.2.2.1) | (with_reducible exact Ne.symm hc9.2.2.2.2.2.1) | (with_reducible exact hc9.2.2.2.2.2.2) | (with_reducible exact Ne.symm hc9.2.2.2.2.2.2) | (with_reducible exact hc9.2.2.2.2.2.1.1) | (with_reducible exact Ne.symm hc9.2.2.2.2.2.1.1) | (with_reducible exact hc9.2.2.2.2.2.1.2.1) | (with_reducible exact Ne.symm hc9.2.2.2.2.2.1.2.1) | (with_reducible exact hc9.2.2.2.2.2.1.2.2) | (with_reducible exact Ne.symm hc9.2.2.2.2.2.1.2.2) | (with_reducible exact hc9.2.2.2.2.2.2.1) | (with_reducible exact Ne.symm hc9.2.2.2.2.2.2.1) | (with_reducible exact hc9.2.2.2.2.2.2.2) | (with_reducible exact Ne.symm hc9.2.2.2.2.2.2.2) | (with_reducible exact hc9.2.2.2.2.2.2.1.1) | (with_reducible exact Ne.symm hc9.2.2.2.2.2.2.1.1) | (with_reducible exact hc9.2.2.2.2.2.2.1.2.1) | (with_reducible exact Ne.symm hc9.2.2.2.2.2.2.1.2.1) | (with_reducible exact hc9.2.2.2.2.2.2.1.2.2) | (with_reducible exact Ne.symm hc9.2.2.2.2.2.2.1.2.2) | (with_reducible exact hc9.2.2.2.2.2.2.2.1) | (with_reducible exact Ne.symm hc9.2.2.2.2.2.2.2.1) | (with_reducible exact hc9.2.2.2.2.2.2.2.2) | (with_reducible exact Ne.symm hc9.2.2.2.2.2.2.2.2) | (with_reducible exact hc9.2.2.2.2.2.2.2.1.1) | (with_reducible exact Ne.symm hc9.2.2.2.2.2.2.2.1.1) | (with_reducible exact hc9.2.2.2.2.2.2.2.1.2.1) | (with_reducible exact Ne.symm hc9.2.2.2.2.2.2.2.1.2.1) | (with_reducible exact hc9.2.2.2.2.2.2.2.1.2.2) | (with_reducible exact Ne.symm hc9.2.2.2.2.2.2.2.1.2.2) | (with_reducible exact hc9.2.2.2.2.2.2.2.2.1) | (with_reducible exact Ne.symm hc9.2.2.2.2.2.2.2.2.1) | (with_reducible exact hc9.2.2.2.2.2.2.2.2.2) | (with_reducible exact Ne.symm hc9.2.2.2.2.2.2.2.2.2) | (with_reducible exact hc9.2.2.2.2.2.2.2.2.1.1) | (with_reducible exact Ne.symm hc9.2.2.2.2.2.2.2.2.1.1) | (with_reducible exact hc9.2.2.2.2.2.2.2.2.1.2.1) | (with_reducible exact Ne.symm hc9.2.2.2.2.2.2.2.2.1.2.1) | (with_reducible exact hc9.2.2.2.2.2.2.2.2.1.2.2) | (with_reducible exact Ne.symm hc9.2.2.2.2.2.2.2.2.1.2.2) | (with_reducible exact hc9.2.2.2.2.2.2.2.2.2.1) | (with_reducible exact Ne.symm hc9.2.2.2.2.2.2.2.2.2.1) | (with_reducible exact hc9.2.2.2.2.2.2.2.2.2.2) | (with_reducible exact Ne.symm hc9.2.2.2.2.2.2.2.2.2.2) | (with_reducible exact hc9.2.2.2.2.2.2.2.2.2.1.1) | (with_reducible exact Ne.symm hc9.2.2.2.2.2.2.2.2.2.1.1) | (with_reducible exact hc9.2.2.2.2.2.2.2.2.2.1.2.1) | (with_reducible exact Ne.symm hc9.2.2.2.2.2.2.2.2.2.1.2.1) | (with_reducible exact hc9.2.2.2.2.2.2.2.2.2.1.2.2) | (with_reducible exact Ne.symm hc9.2.2.2.2.2.2.2.2.2.1.2.2) | (with_reducible exact hc9.2.2.2.2.2.2.2.2.2.2.1) | (with_reducible exact Ne.symm hc9.2.2.2.2.2.2.2.2.2.2.1) | (with_reducible exact hc9.2.2.2.2.2.2.2.2.2.2.2) | (with_reducible exact Ne.symm hc9.2.2.2.2.2.2.2.2.2.2.2) | (with_reducible exact hc9.2.2.2.2.2.2.2.2.2.2.1.1) | (with_reducible exact Ne.symm hc9.2.2.2.2.2.2.2.2.2.2.1.1) | (with_reducible exact hc9.2.2.2.2.2.2.2.2.2.2.1.2.1) | (with_reducible exact Ne.symm hc9.2.2.2.2.2.2.2.2.2.2.1.2.1) | (with_reducible exact hc9.2.2.2.2.2.2.2.2.2.2.1.2.2) | (with_reducible exact Ne.symm hc9.2.2.2.2.2.2.2.2.2.2.1.2.2) | (with_reducible exact hc9.2.2.2.2.2.2.2.2.2.2.2.1) | (with_reducible exact Ne.symm hc9.2.2.2.2.2.2.2.2.2.2.2.1) | (with_reducible exact hc9.2.2.2.2.2.2.2.2.2.2.2.2) | (with_reducible exact Ne.symm hc9.2.2.2.2.2.2.2.2.2.2.2.2) | (clear hc9; k_extra "M nec")))
  k_with "M enter" => ((refine' code_defG ?k1 ?k2 ?k3 ?k4 ?k5 ?kA ?kF ?kK ?k6 ?k7 ?k8 ?k9 ?kB ?_ ?c2 ?c3 ?c4 ?c5; (case kA => exact rfl); (case kF => exact rfl); (case kK => first | assumption | exact rfl); (case k1 => k_asm); (case k2 => k_asm); (case k3 => k_asm); (case k4 => k_asm); (case k5 => k_asm); (case k6 => k_is); (case k7 => k_is); (case k8 => ktr_room); (case k9 => exact BindsTo.of_eq rfl); (case c5 => decide); (case kB => exact locs rfl); (case c2 => exact rfl); (case c3 => exact rfl); (case c4 => exact rfl); k_whole; intro g' L' h' FG' F' N' B' X' T' kG'; (try dsimp only at F' N' kG' ⊢); (try k_fold)))
  k_with "M enterC" => ((refine' enterCells ?k1 ?k2 ?k3 ?k4 ?k5 ?kA ?kF ?kK ?k6 ?k7 ?k8 ?k9 ?kB ?kD ?_ ?c2 ?c3 ?c4; (case kA => exact rfl); (case kF => exact rfl); (case kK => first | assumption | exact rfl); (case k1 => k_asm); (case k2 => k_asm); (case k3 => k_asm); (case k4 => k_asm); (case k5 => k_asm); (case k6 => k_is); (case k7 => k_is); (case k8 => ktr_room); (case k9 => exact BindsTo.of_eq rfl); (case kB => exact rfl); (case kD => decide +kernel); (case c2 => exact rfl); (case c3 => exact rfl); (case c4 => exact rfl); k_whole; intro g' L' h' tk' cells' FG' F' N' Y' B' X' T' kG' l1 l2; (try k_lt l1); k_cells Y'; (try simp only [List.cons_append, List.nil_append] at N'); (try dsimp only at F' N' kG' ⊢); (try k_fold)))
  k_with "M sub" => ((first | exact List.forall_mem_nil _ | (refine List.forall_mem_cons.mpr ⟨?kms1, ?kms2⟩; (case kms1 => (intro hW; first | k_mem | (refine (hW ?_).elim; k_mem))); (case kms2 => k_extra "M sub"))))
  k_with "subscriptTail Name Constant ref int" => ((k_here; (with_reducible show wpAny _ _ (subscriptTail _ _ (Value.ref _) (Value.int _ _)) _ _ _); kim_at))
  k_with "call builtin:divmod" => ((k_here; (with_reducible show wpAny _ _ (call (Value.builtin _) [Value.int _ _, Value.int _ _]) _ _ _); k_dflt (refine' divmod_K ?k1 ?k2 ?k3 ?k4 ?_; (case k1 => k_asm); (case k2 => k_asm); (case k3 => omega); (case k4 => exact PyProof.noPylong_small (by omega)); k_whole); intro D' h' t1 t2 F' N' l1; (try k_lt l1); (try k_sweep)))
  k_with "call ref" => ((k_here; (with_reducible show wpAny _ _ (call (Value.ref 107) _ _) _ _ _); k_dflt (refine' draw_use ?k1 ?k2 ?k3 ?k4 ?k5 ?k6 ?k7 ?k8 ?b1 ?b2 ?b3 ?b4 ?b5 ?_; (case k1 => k_asm); (case k2 => k_asm); (case k3 => k_asm); (case k4 => k_asm); (case k5 => first | exact rfl | assumption); (case k6 => ktr_room); (case k7 => k_asm); (case k8 => k_updF); (case b1 => omega); (case b2 => omega); (case b3 => omega); (case b4 => omega); (case b5 => omega)); intro h' tk' n' c' t' u' k' d' td' K' F' N' b1 b2 b3 b4 b5; (try dsimp only at N'); (try k_sweep); (try k_fold)))
  k_with "call builtin:len" => ((k_here; (with_reducible show wpAny _ _ (call (Value.builtin "len") [Value.ref _]) _ _ _); k_dflt (first | (refine' len_tupA ?k1 ?k2 ?k3 ?_; (case k1 => k_asm); (case k2 => k_mem); (case k3 => omega)) | (refine' len_lstA ?k1 ?k2 ?k3 ?_; (case k1 => k_asm); (case k2 => k_mem); (case k3 => omega))); intro t' tk'; (try simp only [List.length_cons, List.length_nil])))
  k_with "subscriptTail Name Call ref int" => ((k_here; (with_reducible show wpAny _ _ (subscriptTail _ _ (Value.ref _) (Value.int _ _)) _ _ _); k_dflt (refine' tup_item_any ?k1 ?k2 ?k3 ?k4 ?k5 ?_ ?k6 ?k7; (case k1 => k_asm); (case k2 => k_mem); (case k3 => omega); (case k4 => omega); (case k5 => omega); (case k6 => with_unfolding_all rfl); (case k7 => (intro _; with_unfolding_all rfl))); intro x' hx' hxm'; (try k_fold)))
  k_with "call ref" => ((k_here; (with_reducible show wpAny _ _ (call (Value.ref 114) _ _) _ _ _); k_dflt (refine' pick_use ?k1 ?k2 ?k3 ?k4 ?k5 ?k6 ?k7 ?k8 ?k9 ?kA ?b1 ?b2 ?b3 ?b4 ?b5 ?_; (case k1 => k_asm); (case k2 => k_asm); (case k3 => k_asm); (case k4 => k_asm); (case k5 => first | exact rfl | assumption); (case k6 => ktr_room); (case k7 => k_asm); (case k8 => k_updF); (case k9 => k_mem); (case kA => (refine neN ?_; omega)); (case b1 => omega); (case b2 => omega); (case b3 => omega); (case b4 => (simp only [List.length_cons, List.length_nil]; omega)); (case b5 => (simp only [List.length_cons, List.length_nil]; omega))); intro h' tk' n' c' t' u' k' x' K' F' N' b1 b2 b3 b4; (try dsimp only at N'); (try k_sweep); (try k_fold)))
  k_with "binaryOp Mult ref int" => ((k_here; (with_reducible show wpAny _ _ (binaryOp Operator.Mult (Value.ref _) (Value.int _ _)) _ _ _); k_dflt (refine' tup_mul ?k1 ?k2 ?k3 ?k4 ?k5 ?_ ?_ ?_; (case k1 => k_asm); (case k2 => k_asm); (case k3 => k_mem); (case k4 => omega); (case k5 => omega)); (all_goals (intro hx9; (try (exfalso; omega; done)))); (all_goals (try (intro D' h' F' N' l1; (try k_lt l1); (try k_sweep)))); (all_goals (try k_unmd)); (all_goals (try k_fold))))
  k_with "subscriptTail Name Slice ref ref" => ((k_here; (with_reducible show wpAny _ _ (subscriptTail _ _ (Value.ref _) (Value.ref _)) _ _ _); k_dflt (refine' cut_tail ?k1 ?k2 ?k3 ?k4 ?_ ?_ ?k5 ?k6; (case k1 => k_asm); (case k2 => k_asm); (case k3 => k_mem); (case k4 => omega); (case k5 => with_unfolding_all rfl); (case k6 => (intro _; with_unfolding_all rfl))); (all_goals intro hx9); (all_goals (first | (intro D' h' F' N' l1; (try k_lt l1); (try k_sweep)) | (intro h' F' N'; (try k_sweep)))); (all_goals (try k_unmd)); (all_goals (try k_fold))))
  k_with "CompSrc" => ((k_here; k_dflt (refine LCg.CompSrc.range (by rfl) (by k_asm) (by k_asm) (by assumption) (by first | decide | rfl) (by first | rfl | decide) (by first | size_fits | exact Nat.le_of_ble_eq_true rfl) ?_; intro gc'; lcg_lit)))
  k_with "execs nil" => ((k_here; (with_reducible refine wpAny_execs_nil ?_)))
  k_with "eval ListComp" => ((k_here; lct_look; k_dflt (refine LCt.ListComp_T (F₀ := by k_asm) (by with_unfolding_all rfl) (by decide) (by rfl) (by decide) (by rfl) ?_)))
  k_with "M ints" => (first | exact IntsAre.nil | exact IntsAre.cons _ _ .nil | exact IntsAre.cons _ _ (.cons _ _ .nil) | exact IntsAre.cons _ _ (.cons _ _ (.cons _ _ .nil)) | assumption)
  k_with "call ref" => ((k_here; (with_reducible show wpAny _ _ (call (Value.ref 22) _ _) _ _ _); refine wpAny_call ?_; k_dflt (k_extra "M enter")))
  k_with "M test" => ((unfold TestEnd; refine ⟨?t1, _, _, rfl, ?t2, ?t3⟩; (case t1 => first | exact rfl | exact inR_lt (by omega) | exact inR_neg (by omega)); (case t2 => k_asm); (case t3 => k_asm)))
  k_with "compareOp Eq ref ref" => ((k_here; k_dflt (refine' eq_tup_nil ?k1 ?k2 ?k3 ?k4 ?_; (case k1 => k_asm); (case k2 => k_mem); (case k3 => k_mem); (case k4 => first | units_room | exact Nat.le_of_ble_eq_true rfl)); (try simp only [List.size_toArray, List.length_cons, List.length_nil])))
  k_with "call ref" => ((k_here; (with_reducible show wpAny _ _ (call (Value.ref 93) _ _) _ _ _); (try simp only [List.nil_append]); refine wpAny_call ?_; k_dflt (k_extra "M enter")))
  k_with "call ref" => ((k_here; (with_reducible show wpAny _ _ (call (Value.ref 126) _ _) _ _ _); refine wpAny_call ?_; k_dflt (k_extra "M enter")))
  k_with "compareOp NotIn int ref" => ((k_here; (with_reducible show wpAny _ _ (compareOp CmpOp.NotIn (Value.int _ _) (Value.ref _)) _ _ _); k_dflt (refine notin_range (by assumption) ?_)))
  k_with "eval ListComp" => ((k_here; lct_look; k_dflt (first | refine ListComp_Tup (iter := Expr.Subscript _ _ _) (_F := by k_asm) (by with_unfolding_all rfl) (by decide) (by rfl) (by decide) (by rfl) ?_ | refine LCt.ListComp_T (F₀ := by k_asm) (by with_unfolding_all rfl) (by decide) (by rfl) (by decide) (by rfl) ?_)))
  k_with "CompSrcU" => ((k_here; refine sealUOf ?_))
  k_with "subscriptTail Name Slice ref ref" => ((k_here; (with_reducible show wpAny _ _ (subscriptTail _ _ (Value.ref _) (Value.ref _)) _ _ _); k_dflt (refine' tail_from ?k1 ?k2 ?k3 ?k4 ?_ ?k5 ?k6; (case k1 => k_asm); (case k2 => k_asm); (case k3 => k_mem); (case k4 => (simp only [List.length_cons, List.length_nil]; omega)); (case k5 => with_unfolding_all rfl); (case k6 => (intro _; with_unfolding_all rfl))); intro D' h' F' N' l1; (try k_lt l1); (try k_sweep)))
  k_with "M strs6" => (first | exact List.forall_mem_nil _ | (refine List.forall_mem_cons.mpr ⟨⟨_, _, rfl⟩, ?_⟩; k_extra "M strs6"))
  k_with "compareOp NotIn int ref" => ((k_here; (with_reducible show wpAny _ _ (compareOp CmpOp.NotIn (Value.int _ _) (Value.ref _)) _ _ _); k_dflt (first | refine notin_range (by assumption) ?_ | (refine' notin_strs ?k1 ?k2 ?k3 ?_; (case k1 => k_asm); (case k2 => k_mem); (case k3 => k_extra "M strs6")))))
  k_with "call ref" => ((k_here; (with_reducible show wpAny _ _ (call (Value.ref 93) _) _ _ _); k_dflt (refine' parts_use ?k1 ?k2 ?k3 ?k4 ?k5 ?k6 ?k7 ?_; (case k1 => k_asm); (case k2 => k_asm); (case k3 => k_asm); (case k4 => k_asm); (case k5 => first | exact rfl | assumption); (case k6 => ktr_room); (case k7 => k_asm)); (iterate 4 intro _); (iterate 26 intro _); intro KP F' N' lo' hd' hf'; (try k_sweep); (try k_fold)))
  k_with "M memt" => (first | (with_reducible assumption) | ((with_reducible refine List.mem_cons_of_mem _ ?_); k_extra "M memt"))
  k_with "M subv" => (first | exact List.forall_mem_nil _ | ((with_reducible refine List.forall_mem_cons.mpr ⟨?kms1, ?kms2⟩); (case kms1 => k_mem); (case kms2 => k_extra "M subv")) | (intro p8 hp8; k_extra "M memt"))
  k_with "M sub" => ((first | exact List.forall_mem_nil _ | (refine List.forall_mem_cons.mpr ⟨?kms1, ?kms2⟩; (case kms1 => (intro hW; first | k_mem | (refine (hW ?_).elim; k_mem))); (case kms2 => k_extra "M sub")) | (intro p8 hp8 hW8; k_extra "M memt")))
  k_with "M size" => (first | exact size_few (by first | omega | (simp only [List.length_append, List.length_cons, List.length_nil]; omega)) | size_fits)
  k_with "call builtin:list.append" => ((k_here; (with_reducible show wpAny _ _ (call (Value.builtin _) [Value.ref _, _]) _ _ _); k_dflt (refine' append_K ?k1 ?k2 ?k3 ?_ ?z; (case k1 => k_asm); (case k2 => k_asm); (case k3 => k_upd); (case z => k_extra "M size")); intro h' F' N'; (try k_sweep)))
  exact True.intro

/-! well_formed -/
noncomputable abbrev beyond : Str := S "a paragraph beyond the code"
noncomputable def beginRows (many : Int) : List Int → Nat → List Row
  | [], _ => []
  | b :: bs, i => (if inR many b then [] else [((i : Int), beyond)]) ++ beginRows many bs (i + 1)
noncomputable def opRows (many begun : Int) : List Op → Nat → List Row
  | [], _ => []
  | o :: os, i => (if faultP many begun o = S "" then [] else [((i : Int), faultP many begun o)]) ++ opRows many begun os (i + 1)
inductive OpsAre (P : Addr → Obj → Prop) : List Value → List Op → Prop
  | nil : OpsAre P [] []
  | cons {v : Value} {o : Op} {vs : List Value} {os : List Op} : OpIs P v o → o.WF → OpsAre P vs os → OpsAre P (v :: vs) (o :: os)
theorem OpsAre.length {P : Addr → Obj → Prop} {vs : List Value} {os : List Op} (h : OpsAre P vs os) : vs.length = os.length := by
  induction h with
  | nil => rfl
  | cons _ _ _ ih => simp [ih]
theorem OpsAre.mono {P P' : Addr → Obj → Prop} (K : ∀ a o, P a o → P' a o) {vs : List Value} {os : List Op} (h : OpsAre P vs os) : OpsAre P' vs os := by
  induction h with
  | nil => exact .nil
  | cons e w _ ih => exact .cons (e.mono K) w ih
theorem OpsAre.get {P : Addr → Obj → Prop} {vs : List Value} {os : List Op} (h : OpsAre P vs os) : ∀ {i : Nat} {v : Value}, vs[i]? = some v → ∃ o, os[i]? = some o ∧ OpIs P v o ∧ o.WF := by
  induction h with
  | nil => intro i v hv; simp at hv
  | cons e w _ ih =>
    intro i v hv
    cases i with
    | zero => simp at hv; subst hv; exact ⟨_, rfl, e, w⟩
    | succ i => exact ih (i := i) (by simpa using hv)
theorem beginRows_snoc (many : Int) : ∀ (bs : List Int) (b : Int) (i : Nat), beginRows many (bs ++ [b]) i = beginRows many bs i ++ (if inR many b then [] else [(((i + bs.length : Nat) : Int), beyond)])
  | [], b, i => by simp [beginRows]
  | c :: bs, b, i => by
    show _ ++ beginRows many (bs ++ [b]) (i + 1) = (_ ++ beginRows many bs (i + 1)) ++ _
    rw [beginRows_snoc many bs b (i + 1), List.append_assoc, List.length_cons, show i + 1 + bs.length = i + (bs.length + 1) by lia]
theorem opRows_snoc (many begun : Int) : ∀ (os : List Op) (o : Op) (i : Nat), opRows many begun (os ++ [o]) i = opRows many begun os i ++ (if faultP many begun o = S "" then [] else [(((i + os.length : Nat) : Int), faultP many begun o)])
  | [], o, i => by simp [opRows]
  | c :: os, o, i => by
    show _ ++ opRows many begun (os ++ [o]) (i + 1) = (_ ++ opRows many begun os (i + 1)) ++ _
    rw [opRows_snoc many begun os o (i + 1), List.append_assoc, List.length_cons, show i + 1 + os.length = i + (os.length + 1) by lia]
theorem beginRows_ge (many : Int) : ∀ (bs : List Int) (i : Nat), ∀ r ∈ beginRows many bs i, (i : Int) ≤ r.1 ∧ r.2 = beyond
  | [], _, r, h => nomatch h
  | b :: bs, i, r, h => by
    rcases List.mem_append.mp h with h | h
    · split at h
      · cases h
      · rw [List.mem_singleton.mp h]; exact ⟨Int.le_refl _, rfl⟩
    · have := beginRows_ge many bs (i + 1) r h
      exact ⟨by lia, this.2⟩
theorem opRows_ge (many begun : Int) : ∀ (os : List Op) (i : Nat), ∀ r ∈ opRows many begun os i, (i : Int) ≤ r.1 ∧ ∃ o, r.2 = faultP many begun o
  | [], _, r, h => nomatch h
  | o :: os, i, r, h => by
    rcases List.mem_append.mp h with h | h
    · split at h
      · cases h
      · rw [List.mem_singleton.mp h]; exact ⟨Int.le_refl _, o, rfl⟩
    · have := opRows_ge many begun os (i + 1) r h
      exact ⟨by lia, this.2⟩
theorem beginRows_nodup (many : Int) : ∀ (bs : List Int) (i : Nat), (beginRows many bs i).Nodup
  | [], _ => List.nodup_nil
  | b :: bs, i => by
    refine List.nodup_append.mpr ⟨?_, beginRows_nodup many bs (i + 1), fun x hx y hy e => ?_⟩
    · split
      · exact List.nodup_nil
      · exact List.nodup_cons.mpr ⟨(fun h => nomatch h), List.nodup_nil⟩
    · split at hx
      · cases hx
      · have h1 := beginRows_ge many bs (i + 1) y hy
        rw [← e, List.mem_singleton.mp hx] at h1
        have := h1.1
        simp at this
        lia
theorem opRows_nodup (many begun : Int) : ∀ (os : List Op) (i : Nat), (opRows many begun os i).Nodup
  | [], _ => List.nodup_nil
  | o :: os, i => by
    refine List.nodup_append.mpr ⟨?_, opRows_nodup many begun os (i + 1), fun x hx y hy e => ?_⟩
    · split
      · exact List.nodup_nil
      · exact List.nodup_cons.mpr ⟨(fun h => nomatch h), List.nodup_nil⟩
    · split at hx
      · cases hx
      · have h1 := opRows_ge many begun os (i + 1) y hy
        rw [← e, List.mem_singleton.mp hx] at h1
        have := h1.1
        simp at this
        lia
theorem faultP_ne (many begun : Int) (o : Op) : faultP many begun o ≠ beyond := by
  have h1 : noOp ≠ beyond := by decide +kernel
  have h2 : labFar ≠ beyond := by decide +kernel
  have h3 : noSign ≠ beyond := by decide +kernel
  have h4 : noPar ≠ beyond := by decide +kernel
  have h5 : noEnd ≠ beyond := by decide +kernel
  have h6 : S "" ≠ beyond := by decide +kernel
  unfold faultP
  split
  · repeat' split
    all_goals first | exact h1 | exact h2 | exact h3 | exact h4 | exact h5 | exact h6
  · repeat' split
    all_goals first | exact h1 | exact h2 | exact h3 | exact h4 | exact h5 | exact h6
  · exact h1
noncomputable abbrev dueP (many begun : Int) (begins : List Int) (ops : List Op) : List Row := beginRows many begins 0 ++ opRows many begun ops 0
theorem dueP_nodup {many begun : Int} {begins : List Int} {ops : List Op} : (dueP many begun begins ops).Nodup := by
  refine List.nodup_append.mpr ⟨beginRows_nodup _ _ _, opRows_nodup _ _ _ _, fun x hx y hy e => ?_⟩
  have h1 := (beginRows_ge many begins 0 x hx).2
  obtain ⟨o, h2⟩ := (opRows_ge many begun ops 0 y hy).2
  rw [← e, h1] at h2
  exact faultP_ne many begun o h2.symm
theorem faultP_ok (many begun : Int) (o : Op) : PyData.strOk (faultP many begun o) = true := by
  have h1 : PyData.strOk noOp = true := by decide +kernel
  have h2 : PyData.strOk labFar = true := by decide +kernel
  have h3 : PyData.strOk noSign = true := by decide +kernel
  have h4 : PyData.strOk noPar = true := by decide +kernel
  have h5 : PyData.strOk noEnd = true := by decide +kernel
  have h6 : PyData.strOk (S "") = true := by decide +kernel
  unfold faultP
  split
  · repeat' split
    all_goals first | exact h1 | exact h2 | exact h3 | exact h4 | exact h5 | exact h6
  · repeat' split
    all_goals first | exact h1 | exact h2 | exact h3 | exact h4 | exact h5 | exact h6
  · exact h1
theorem dueP_ok {many begun : Int} {begins : List Int} {ops : List Op} : ∀ r ∈ dueP many begun begins ops, PyData.strOk r.2 = true := fun r hr => by
  rcases List.mem_append.mp hr with h | h
  · rw [(beginRows_ge _ _ _ r h).2]; decide +kernel
  · obtain ⟨o, e⟩ := (opRows_ge _ _ _ _ r h).2
    rw [e]; exact faultP_ok _ _ _
theorem beginRows_nil {many : Int} : ∀ {bs : List Int} {i : Nat}, beginRows many bs i = [] → ∀ k ∈ bs, 0 ≤ k ∧ k < many
  | [], _, _, k, hk => nomatch hk
  | b :: bs, i, h, k, hk => by
    obtain ⟨h1, h2⟩ := List.append_eq_nil_iff.mp h
    rcases List.mem_cons.mp hk with rfl | hk
    · cases hb : inR many k with
      | true => simpa [inR] using hb
      | false => rw [hb] at h1; cases h1
    · exact beginRows_nil h2 k hk
theorem opRows_nil {many begun : Int} : ∀ {os : List Op} {i : Nat}, opRows many begun os i = [] → ∀ o ∈ os, faultP many begun o = S ""
  | [], _, _, k, hk => nomatch hk
  | b :: bs, i, h, k, hk => by
    obtain ⟨h1, h2⟩ := List.append_eq_nil_iff.mp h
    rcases List.mem_cons.mp hk with rfl | hk
    · refine Classical.byContradiction fun q => ?_
      rw [if_neg q] at h1
      cases h1
    · exact opRows_nil h2 k hk
theorem beginRows_len (many : Int) : ∀ (bs : List Int) (i : Nat), (beginRows many bs i).length ≤ bs.length
  | [], _ => Nat.le_refl _
  | b :: bs, i => by
    have := beginRows_len many bs (i + 1)
    unfold beginRows
    rw [List.length_append, List.length_cons]
    split <;> simp <;> lia
theorem opRows_len (many begun : Int) : ∀ (os : List Op) (i : Nat), (opRows many begun os i).length ≤ os.length
  | [], _ => Nat.le_refl _
  | b :: bs, i => by
    have := opRows_len many begun bs (i + 1)
    unfold opRows
    rw [List.length_append, List.length_cons]
    split <;> simp <;> lia

/-! the loops of well_formed -/
section
variable {prog : Program} {w : World} {A : Around} {E : Value → Shared → Prop} {s : Shared} {env : Env} {h₀ : Heap} {x : Str} {body : List Stmt} {Q : Flow → Shared → Prop}
theorem rest_ind {I : Addr} {n : Nat} (J : Nat → (Str → Option Value) → List (Addr × Obj) → Prop)
    (h0 : ∀ m news, J n m news → ∀ h tk, Fr h₀ env.locals h m → News h₀ env.locals h news → Q .next { s with heap := h, toks := tk })
    (h1 : ∀ i m news, i < n → J i m news → ∀ t h tk it, it.cls = .type "range_iterator" → Fr h₀ env.locals h (fun y => if y = x then some (.int (i : Int) t) else m y) → News h₀ env.locals h ((I, it) :: news) →
      wpAny (model prog w) A (execs body env) (UnrPost h₀ env.locals { s with heap := h, toks := tk } I it (J (i + 1)) Q) E { s with heap := h, toks := tk }) :
    ∀ (k i : Nat) {m : Str → Option Value} {news : List (Addr × Obj)}, i + k = n → J i m news → RangeRest prog w A E h₀ env x body Q s I 0 n k i m news
  | 0, i, m, news, e, j => by
    have : i = n := by omega
    subst this
    exact h0 m news j
  | k + 1, i, m, news, e, j => by
    intro t h tk F N
    rw [Int.zero_add] at F
    refine wpAny_mono (h1 i m news (by omega) j t h tk _ rfl F N) (fun fl s₃ y => ?_) fun _ _ e => e
    have up : ∀ {it}, UnrEnd h₀ env.locals { s with heap := h, toks := tk } I it (J (i + 1)) s₃ → UnrEnd h₀ env.locals { s with heap := h, toks := tk } I it (RangeRest prog w A E h₀ env x body Q s I 0 n k (i + 1)) s₃ :=
      fun ⟨h', tk', m', n', e', F', N', o, j'⟩ => ⟨h', tk', m', n', e', F', N', o, rest_ind J h0 h1 k (i + 1) (by omega) j'⟩
    cases fl with
    | ret v => exact y
    | brk => exact y
    | next => exact up y
    | cont => exact up y
end
theorem size_range (n : Nat) : Builtin.Range.rangeSize 0 (n : Int) 1 = (n : Int) := by
  unfold Builtin.Range.rangeSize
  simp
  omega
theorem small_few {n : Nat} (h : n < 100) : Builtin.Range.small 0 (n : Int) 1 = true := by
  have e := size_range n
  unfold Builtin.Range.small
  simp [Builtin.Range.rangeFitsLong, e]
  omega
/-- what the loops of well_formed keep -/
noncomputable def WJ (C D O G : Addr) (co cd oo go : Obj) (Fa : Addr) (R0 : List (Addr × Obj)) (f : Nat → List Row) (i : Nat) (mm : Str → Option Value) (news : List (Addr × Obj)) : Prop :=
  ∃ (fs : List Value) (R : List (Addr × Obj)) (kf : Nat),
    news = (Fa, listOf (List.toArray fs) kf) :: (C, co) :: (D, cd) :: (O, oo) :: (G, go) :: R ∧
    mm (S "code") = some (.ref C) ∧ mm (S "faults") = some (.ref Fa) ∧
    (∀ p ∈ R0, p ∈ R) ∧ (∀ p ∈ R, p.2.cls = .type "tuple") ∧ RowsAre (fun a o => (a, o) ∈ R) fs (f i)
theorem wj_step {C D O G Fa I : Addr} {co cd oo go it : Obj} {R0 R l' : List (Addr × Obj)} {i kf tk' : Nat} {h₀ h' : Heap} {L : Addr} {f : Nat → List Row} {mm : Str → Option Value} {fs : List Value} {s : Shared}
    (F : Fr h₀ L h' mm) (N : News h₀ L h' l') (hs : ∀ p ∈ (I, it) :: (Fa, listOf (List.toArray fs) kf) :: (C, co) :: (D, cd) :: (O, oo) :: (G, go) :: R, p ∈ l')
    (hI : it.cls = .type "range_iterator") (hc : co.cls ≠ .type "range_iterator") (hd : cd.cls ≠ .type "range_iterator") (ho : oo.cls ≠ .type "range_iterator") (hg : go.cls ≠ .type "range_iterator")
    (e1 : mm (S "code") = some (.ref C)) (e2 : mm (S "faults") = some (.ref Fa))
    (h0 : ∀ p ∈ R0, p ∈ R) (h1 : ∀ p ∈ R, p.2.cls = .type "tuple") (hr : RowsAre (fun a o => (a, o) ∈ R) fs (f (i + 1))) :
    UnrEnd h₀ L s I it (WJ C D O G co cd oo go Fa R0 f (i + 1)) { s with heap := h', toks := tk' } := by
  have off : ∀ p ∈ (Fa, listOf (List.toArray fs) kf) :: (C, co) :: (D, cd) :: (O, oo) :: (G, go) :: R, p.1 ≠ I := by
    intro p hp
    refine News.neCls (o' := it) N (hs p (.tail _ hp)) (hs _ (.head _)) ?_
    rw [hI]
    rcases List.mem_cons.mp hp with rfl | hp
    · exact show (Value.type "list") ≠ Value.type "range_iterator" by decide
    rcases List.mem_cons.mp hp with rfl | hp
    · exact hc
    rcases List.mem_cons.mp hp with rfl | hp
    · exact hd
    rcases List.mem_cons.mp hp with rfl | hp
    · exact ho
    rcases List.mem_cons.mp hp with rfl | hp
    · exact hg
    rw [h1 p hp]; decide
  exact UnrEnd.intro F N _ hs off ⟨fs, R, kf, rfl, e1, e2, h0, h1, hr⟩
theorem at_name2 {m : Str → Option Value} {x1 x2 : Str} {v1 v2 : Value} (h1 : m x1 = some v1) (h2 : m x2 = some v2) : m = fun z => if z = x1 then some v1 else if z = x2 then some v2 else m z := by
  funext z
  by_cases e1 : z = x1
  · rw [if_pos e1, e1]; exact h1
  rw [if_neg e1]
  by_cases e2 : z = x2
  · rw [if_pos e2, e2]; exact h2
  rw [if_neg e2]
theorem ints_get {P : Addr → Obj → Prop} {vs : List Value} {ns : List Int} (h : IntsAre vs ns) {i : Nat} {v : Value} (hv : vs[i]? = some v) : ∃ k t, ns[i]? = some k ∧ v = .int k t := by
  have hi : i < vs.length := by
    rcases Nat.lt_or_ge i vs.length with q | q
    · exact q
    · rw [List.getElem?_eq_none q] at hv; cases hv
  have hj : i < ns.length := by rw [← PyProof.Rows.IntsAre.length h]; exact hi
  obtain ⟨t, e⟩ := h.get i ns[i] (by simp [hj])
  rw [hv] at e
  cases e
  exact ⟨_, t, by simp [hj], rfl⟩
theorem take_snoc {α : Type} {l : List α} {i : Nat} {x : α} (h : l[i]? = some x) : l.take (i + 1) = l.take i ++ [x] := by
  rw [List.take_add_one, h]; rfl
theorem rows_newat {h₀ h : Heap} {L : Addr} {vs : List Value} {rs : List Row} (R : hasRows h vs rs) : (∀ v ∈ vs, ∃ a, v = .ref a ∧ a ≠ L ∧ h₀.get? a = none) → RowsAre (NewAt h₀ L h) vs rs := by
  induction R with
  | nil => exact fun _ => .nil
  | cons e _ ih =>
    intro hv
    obtain ⟨a, e1, e2, e3⟩ := hv _ List.mem_cons_self
    cases e1
    exact .cons ⟨e, e2, e3⟩ (ih fun v hm => hv v (List.mem_cons_of_mem _ hm))
section
variable {prog : Program} {w : World} {A : Around} {E : Value → Shared → Prop} {s : Shared} {h₀ : Heap} {L : Addr} {m : Str → Option Value} {news : List (Addr × Obj)}
theorem set_led {l : Addr} {vs : List Value} {rs : List Row} {k : Nat} {Q : Value → Shared → Prop} (F : Fr h₀ L s.heap m) (N : News h₀ L s.heap news) (hh : A.handled = none) (hu : A.units + 60 < cLine) (hm : NewAt h₀ L s.heap l (listOf (List.toArray vs) k)) (RR : RowsAre (NewAt h₀ L s.heap) vs rs) (hz : vs.length ≤ 63)
    (h : ∀ h' tk S es ep tb, Fr h₀ L h' m → News h₀ L h' news → h'.get? S = some (setObj es ep tb) → TabOk w tb es.size → es.size ≤ 63 → SetRows vs h' es rs → RowsAre (NewAt h₀ L h') vs rs → Q (.ref S) { s with heap := h', toks := tk }) :
    wpAny (model prog w) A (call (.type "set") [.ref l]) Q E s :=
  set_of_rows (items := vs.toArray) hh hu ⟨_, hm.1, rfl, _, rfl⟩ (RR.mono fun a o e => e.1) (by simpa using hz) fun h' tk es ep tb K e1 e2 e3 e4 =>
    h h' tk _ es ep tb (keep_nil_fr F K) (keep_nil_news N K) e1 e2 (Nat.le_trans e3 (by simpa using hz)) e4 (RR.mono fun a o e => ⟨K _ _ (by simp) e.1, e.2⟩)
theorem sorted_led {S : Addr} {es : Array (Int × Value)} {ep : Nat} {tb : SetTable} {vs : List Value} {rs : List Row} {Q : Value → Shared → Prop} (F : Fr h₀ L s.heap m) (N : News h₀ L s.heap news) (hh : A.handled = none) (hS : s.heap.get? S = some (setObj es ep tb)) (T : TabOk w tb es.size) (hz : es.size ≤ 63) (SR : SetRows vs s.heap es rs) (RV : RowsAre (NewAt h₀ L s.heap) vs rs)
    (h : ∀ h' tk d D c vs' rs', Fr h₀ L h' m → News h₀ L h' ((D, listOf (List.toArray vs') c) :: news) → RowsAre (NewAt h₀ L h') vs' rs' → (∀ k ∈ rs', k ∈ rs) → (rs.Nodup → rs'.Perm rs) → rs'.Pairwise rowLe → rs'.length ≤ 63 → Q (.ref D) { s with heap := h', toks := tk, drawn := d }) :
    wpAny (model prog w) A (call (.builtin "sorted") [.ref S]) Q E s :=
  sorted_set hh hS T hz SR fun h' tk d D c vs' rs' K hD hlt R' p1 p2 p3 p4 p5 => by
    have hn : s.heap.get? D = none := by
      cases q : s.heap.get? D with
      | none => rfl
      | some o => exact absurd (hlt _ _ q) (Nat.lt_irrefl _)
    have hf := fresh_new F hn
    refine h h' tk d D c vs' rs' (keep_nil_fr F K) (News.put (keep_nil_news N K) ⟨hD, hf.1, hf.2⟩) (rows_newat R' fun v hv => ?_) p1 p2 p3 (by rw [← R'.length, p5]; exact hz)
    obtain ⟨a, _, _, _, _, e1, e2, _⟩ := RV.mem v (p4 v hv)
    exact ⟨a, e1, e2.2⟩
end
theorem begins_take {many : Int} {bs : List Int} {i : Nat} (h : i < bs.length) : beginRows many (bs.take (i + 1)) 0 = beginRows many (bs.take i) 0 ++ (if inR many (bs.getD i 0) then [] else [((i : Int), beyond)]) := by
  have e : bs[i]? = some (bs.getD i 0) := by simp [List.getD, h]
  rw [take_snoc e, beginRows_snoc]
  have : 0 + (bs.take i).length = i := by rw [List.length_take]; omega
  rw [this]
theorem ops_take {many begun : Int} {os : List Op} {i : Nat} {o : Op} (h : os[i]? = some o) : opRows many begun (os.take (i + 1)) 0 = opRows many begun (os.take i) 0 ++ (if faultP many begun o = S "" then [] else [((i : Int), faultP many begun o)]) := by
  have hi : i < os.length := by
    rcases Nat.lt_or_ge i os.length with q | q
    · exact q
    · rw [List.getElem?_eq_none q] at h; cases h
  rw [take_snoc h, opRows_snoc]
  have : 0 + (os.take i).length = i := by rw [List.length_take]; omega
  rw [this]
theorem inR_t {m k : Int} (h0 : 0 ≤ k) (h1 : k < m) : inR m k = true := by unfold inR; simp [h0, h1]
theorem inR_f {m k : Int} (h : ¬ (0 ≤ k ∧ k < m)) : inR m k = false := by
  unfold inR
  rw [Bool.eq_false_iff]
  intro q
  exact h (by simpa using q)

theorem neI {h₀ h : Heap} {L I Fa : Addr} {it : Obj} {xs : Array Value} {k : Nat} {r : List (Addr × Obj)} (N : News h₀ L h ((I, it) :: (Fa, listOf xs k) :: r)) (hit : it.cls = .type "range_iterator") : @Ne Nat Fa I :=
  News.neCls (o := listOf xs k) (o' := it) N (.tail _ (.head _)) (.head _) (by rw [hit]; exact show (Value.type "list") ≠ Value.type "range_iterator" by decide)
theorem OpsAre.good {P : Addr → Obj → Prop} {m b : Int} {vs : List Value} {os : List Op} (h : OpsAre P vs os) : (∀ o ∈ os, faultP m b o = S "") → ∀ v ∈ vs, ∃ o, OpIs P v o ∧ o.WF ∧ faultP m b o = S "" := by
  induction h with
  | nil => exact fun _ _ h => nomatch h
  | cons e w _ ih =>
    intro q v hv
    rcases List.mem_cons.mp hv with rfl | hv
    · exact ⟨_, e, w, q _ (.head _)⟩
    · exact ih (fun o ho => q o (.tail _ ho)) v hv
theorem rows_led {h₀ h : Heap} {L : Addr} {vs : List Value} {rs : List Row} (R : RowsAre (NewAt h₀ L h) vs rs) : ∃ E : List (Addr × Obj), RowsAre (fun a o => (a, o) ∈ E) vs rs ∧ (∀ p ∈ E, NewAt h₀ L h p.1 p.2) ∧ ∀ p ∈ E, p.2.cls = .type "tuple" := by
  induction R with
  | nil => exact ⟨[], .nil, (fun _ h => nomatch h), fun _ h => nomatch h⟩
  | @cons a i x t u vs rs e _ ih =>
    obtain ⟨E, h1, h2, h3⟩ := ih
    refine ⟨(a, rowObj i x t u) :: E, .cons (.head _) (h1.mono fun _ _ h => .tail _ h), fun p hp => ?_, fun p hp => ?_⟩
    · rcases List.mem_cons.mp hp with rfl | hp
      · exact e
      · exact h2 p hp
    · rcases List.mem_cons.mp hp with rfl | hp
      · rfl
      · exact h3 p hp
section





















theorem kreg38 : True := by
  w_top off
  k_with "call type:range" => ((k_here; k_dflt (refine' PyProof.Rows.range1_rows ?k1 ?k2 ?_; (case k1 => k_asm); (case k2 => k_asm)); intro h' tk' t1' u1' v1' rg' F' N' kk'; (try k_fold)))
  k_with "pyIter ref" => ((k_here; (rename Fr _ _ _ _ => F9'); (rename News _ _ _ _ => N9'); (rename IsRange _ _ _ _ _ _ _ _ => rg9); k_dflt (refine iter_rangeUnr (by rfl) rg9 (small_few (by omega)) (size_range _) F9' N9' ?_); clear F9' N9'; intro I9 lo9; refine sealOf ?_))
  k_with "subscriptTail" => ((k_here; (with_reducible show wpAny _ _ (subscriptTail _ _ (Value.ref _) (Value.int _ _)) _ _ _); k_dflt (refine' tup_item_any ?k1 ?k2 ?k3 ?k4 ?k5 ?_ ?k6 ?k7; (case k1 => k_asm); (case k2 => k_mem); (case k3 => omega); (case k4 => omega); (case k5 => omega); (case k6 => with_unfolding_all rfl); (case k7 => (intro _; with_unfolding_all rfl))); intro x8 hx8 hxm8; (try rw [Int.toNat_natCast] at hx8); first | (rcases ints_get (P := fun _ _ => True) hbs hx8 with ⟨k8, t8, hk8, e8⟩; subst e8) | (rcases hops.get hx8 with ⟨o8, ho8, hO8, hw8⟩)))
  k_with "call ref" => ((k_here; (with_reducible show wpAny _ _ (call (Value.ref 27) _ _) _ _ _); k_dflt (refine' fault_ok ?k1 ?k2 ?k3 ?k4 ?k5 ?k6 ?k65 ?k7 ?k8 hw8 ?k9 ?k10 ?_; (case k1 => k_asm); (case k2 => k_asm); (case k3 => k_asm); (case k4 => k_asm); (case k5 => first | exact rfl | assumption); (case k6 => ktr_room); (case k65 => ktr_room); (case k7 => exact News.sub9 (by assumption) (by k_extra "M subv")); (case k8 => exact hO8.mono (fun a9 o9 e9 => News.get3 (p := (a9, o9)) (by assumption) (by (have e7 := hR0 _ e9); k_extra "M memt"))); (case k9 => omega); (case k10 => omega)); intro h' tk' t' z' K' hz'; (have F' := keep_nil_fr (by assumption) K'); (have N' := keep_nil_news (by assumption) K'); (try k_sweep); (try k_fold)))
  k_with "M wfsub" => ((refine List.forall_mem_cons.mpr ⟨by k_mem, List.forall_mem_cons.mpr ⟨by k_mem, List.forall_mem_cons.mpr ⟨by k_mem, List.forall_mem_cons.mpr ⟨by k_mem, List.forall_mem_cons.mpr ⟨by k_mem, List.forall_mem_cons.mpr ⟨by k_mem, ?_⟩⟩⟩⟩⟩⟩; intro p8 hp8; first | k_extra "M memt" | (rcases List.mem_append.mp hp8 with hp8 | hp8; k_extra "M memt"; rw [List.mem_singleton.mp hp8]; k_mem)))
  k_with "M wftup" => ((intro p9 hp9; rcases List.mem_append.mp hp9 with hp9 | hp9; exact hR1 p9 hp9; rw [List.mem_singleton.mp hp9]))
  k_with "compareOp Eq ref ref" => ((k_here; k_dflt (refine' rows_eq_nil ?k1 ?k2 ?k3 ?k4 hok ?k5 ?_; (case k1 => k_asm); (case k2 => k_mem); (case k3 => k_mem); (case k4 => exact hRv.mono (fun a9 o9 e9 => by k_extra "M memt")); (case k5 => first | units_room | ktr_units)); rw [hE]))
  k_with "call ref" => ((k_here; (with_reducible show wpAny _ _ (call (Value.ref 51) _) _ _ _); k_dflt (refine' hf_ok (R := R) (b9 := (bs.length : Int)) ?k1 ?k2 ?k3 ?k4 ?k5 ?k6 ?k65 ?k7 hgood hR h1 h10 hbs hB hbl ?_; (case k1 => k_asm); (case k2 => k_asm); (case k3 => k_asm); (case k4 => k_asm); (case k5 => first | exact rfl | assumption); (case k6 => ktr_room); (case k65 => ktr_room); (case k7 => exact News.sub9 (by assumption) (by k_extra "M wfsub4"))); intro h' tk' H9 k9 hs9 rs9 K' nH hRh hTx hLn; (have F' := keep_nil_fr (by assumption) K'); (have N8 := keep_nil_news (by assumption) K'); rcases rows_led hRh with ⟨E8, hE8, hE9, hE7⟩; (have N' := News.retail (R := R1) (R2 := R1 ++ E8) (News.put N8 nH) (by repeat (first | exact Retail.here | apply Retail.cons)) (fun p8 hp8 => (List.mem_append.mp hp8).elim (fun q8 => News.get3 N8 (by k_extra "M memt")) (fun q8 => hE9 p8 q8))); (try k_sweep); (try k_fold)))
  k_with "M wfsub4" => ((refine List.forall_mem_cons.mpr ⟨by k_mem, List.forall_mem_cons.mpr ⟨by k_mem, List.forall_mem_cons.mpr ⟨by k_mem, List.forall_mem_cons.mpr ⟨by k_mem, ?_⟩⟩⟩⟩; intro p8 hp8; (have hp7 := hR0 p8 hp8); k_extra "M memt"))
  k_with "call type:set" => ((k_here; (rename News g' L' _ _ => kM); k_dflt (refine' set_led ?k1 kM (by rfl) ?k4 (kM (_, _) (by k_mem)) (by first | exact hE8.mono (fun a9 o9 e9 => kM (a9, o9) (by (have e7 := List.mem_append_right R1 e9); k_extra "M memt")) | exact hRv.mono (fun a9 o9 e9 => kM (a9, o9) (by k_extra "M memt"))) (by first | omega | (rw [hRh.length]; omega)) ?_; (case k1 => k_asm); (case k4 => first | units_room | ktr_units)); intro h' tk' S9 es9 ep9 tb9 F' N' hS9 hT9 hz9 hSR hRV; clear kM; (try k_sweep)))
  k_with "call builtin:sorted" => ((k_here; k_dflt (refine' sorted_led ?k1 ?k2 (by rfl) hS9 hT9 hz9 hSR hRV ?_; (case k1 => k_asm); (case k2 => k_asm)); intro h' tk' d9 D9 c9 ws9 ks9 F' N8 hRs p1 p2 p3 p4; rcases rows_led hRs with ⟨E9, hF8, hF9, hF7⟩; first | (have N' := News.retail (R := R1 ++ E8) (R2 := (R1 ++ E8) ++ E9) N8 (by repeat (first | exact Retail.here | apply Retail.cons)) (fun p8 hp8 => (List.mem_append.mp hp8).elim (fun q8 => News.get3 N8 (by k_extra "M memt")) (fun q8 => hF9 p8 q8))) | (have N' := News.retail (R := R1) (R2 := R1 ++ E9) N8 (by repeat (first | exact Retail.here | apply Retail.cons)) (fun p8 hp8 => (List.mem_append.mp hp8).elim (fun q8 => News.get3 N8 (by k_extra "M memt")) (fun q8 => hF9 p8 q8))); (try k_sweep)))
  exact True.intro

theorem wf_ok {w : World} {mean : ExcName → Option Value} {mg mb : Str → Option Value} {dp un : Nat} {gd : Option (List Code)} {cn : Str} {cs : Scope} {a : Addr} {ccd : Value} {cl : List (Str × Addr)} {outer : List Env} {A₀ : Around} {base h₀ : Heap} {L : Addr} {m : Str → Option Value} {s : Shared} {Q E : Value → Shared → Prop}
  {C D O G : Addr} {os bs : List Value} {ops : List Op} {begins : List Int} {t u : Tok} {nd : Nat} {R : List (Addr × Obj)}
  (B : Below A₀ base outer h₀) (F : Fr h₀ L s.heap m) (X : (Mine.hd.heap_1 w.params).In h₀) (T : Top Mine.hd.view_1 lo mean mg mb h₀) (hk : cs.kind = .function) (hd : dp + 4 < recursionLimit) (hu : un + 500 < cLine)
  (N : News h₀ L s.heap ((C, instObj 82 D) :: (D, codeDict w O G t u nd) :: (O, tupOf os) :: (G, tupOf bs) :: R))
  (hops : OpsAre (fun a o => (a, o) ∈ R) os ops) (hR : ∀ p ∈ R, p.2.cls = .type "tuple") (h1 : 0 < os.length) (h10 : os.length < 8)
  (hbs : IntsAre bs begins) (hbl : begins.length < 5)
  (hret : ∀ h' tk d H k hs rs, KeepBut [] s.heap h' → NewAt h₀ L h' H (listOf (List.toArray hs) k) → RowsAre (NewAt h₀ L h') hs rs → rs.length ≤ 63 → rs.Pairwise rowLe → (dueP os.length begins.length begins ops ≠ [] → rs.Perm (dueP os.length begins.length begins ops)) → (dueP os.length begins.length begins ops = [] → ∀ r ∈ rs, r.2 ∈ hTexts) → Q (.ref H) { s with heap := h', toks := tk, drawn := d }) :
  wpAny (model PySem.Challenge.rw_pq0627_01.row.prog w) (ktrTop dp un gd cn cs L a ccd cl outer) (call (.ref 58) [.ref C]) Q E s := by
  have hbb := PyProof.Rows.IntsAre.length hbs
  rw [← hbb] at hret
  revert X; k_fill; intro X
  refine wpAny_call ?_
  k_dflt (k_extra "M enter")
  have kG0 := kG'
  have hbl' : bs.length < 5 := by rw [PyProof.Rows.IntsAre.length hbs]; exact hbl
  k_steps
  refine toSeal ?_
  k_dflt (refine rest_ind (WJ C D O G (instObj 82 D) (codeDict w O G t u nd) (tupOf os) (tupOf bs) _ R (fun i => beginRows os.length (begins.take i) 0)) ?j0 ?j1 _ 0 (by omega) ⟨[], R, 0, rfl, rfl, rfl, (fun _ h => h), hR, .nil⟩)
  case j1 =>
    rintro i9 m1 news1 hi9 ⟨fs, R1, kf, rfl, e1, e2, hR0, hR1, hRw⟩ t9 h9 tk9 it9 hit9 F1 N1
    rw [at_name2 e1 e2] at F1
    have hib : i9 < begins.length := by rw [← hbb]; exact hi9
    have hbt := begins_take (many := os.length) hib
    have lfs : fs.length < 20 := by
      have q1 := hRw.length
      have q2 := beginRows_len os.length (begins.take i9) 0
      rw [List.length_take] at q2
      simp only [] at q1
      omega
    have nI9 := neI N1 hit9
    have hRF := News.tailNe N1 (.tail _ (.head _)) (show (Value.type "list") ≠ Value.type "tuple" by decide) hR1 (by k_extra "M subv")
    k_steps
    all_goals (rename Fr g' L' _ _ => kF)
    all_goals (rename News g' L' _ _ => kM)
    all_goals simp only [Int.toNat_natCast] at *
    · rw [inR_t (by assumption) (by assumption), if_pos rfl, List.append_nil] at hbt
      exact wj_step kF kM (R := R1) (by k_extra "M wfsub") hit9 (show (Value.ref 82) ≠ Value.type "range_iterator" by decide) (show (Value.type "dict") ≠ Value.type "range_iterator" by decide) (show (Value.type "tuple") ≠ Value.type "range_iterator" by decide) (show (Value.type "tuple") ≠ Value.type "range_iterator" by decide) rfl rfl hR0 hR1 (by show RowsAre _ _ (beginRows _ _ _); rw [hbt]; exact hRw)
    all_goals rw [inR_f (by omega), if_neg (by decide)] at hbt
    all_goals rw [List.push_toArray] at kM
    all_goals exact wj_step kF kM (R := R1 ++ [(_, rowObj _ _ _ _)]) (by k_extra "M wfsub") hit9 (show (Value.ref 82) ≠ Value.type "range_iterator" by decide) (show (Value.type "dict") ≠ Value.type "range_iterator" by decide) (show (Value.type "tuple") ≠ Value.type "range_iterator" by decide) (show (Value.type "tuple") ≠ Value.type "range_iterator" by decide) rfl rfl (fun p hp => List.mem_append_left _ (hR0 p hp)) (by k_extra "M wftup") (by show RowsAre _ _ (beginRows _ _ _); rw [hbt]; exact rows_snoc hRw)
  case j0 =>
    rintro m1 news1 ⟨fs, R1, kf, rfl, e1, e2, hR0, hR1, hRw⟩ h9 tk9 F1 N1
    rw [at_name2 e1 e2] at F1
    rw [hbb] at hRw; simp only [List.take_length] at hRw
    k_steps
    refine toSeal ?_
    k_dflt (refine rest_ind (WJ C D O G (instObj 82 D) (codeDict w O G t u nd) (tupOf os) (tupOf bs) _ R (fun i => beginRows os.length begins 0 ++ opRows os.length bs.length (ops.take i) 0)) ?j2 ?j3 _ 0 (by omega) ⟨fs, R1, kf, rfl, rfl, rfl, hR0, hR1, by simpa [opRows] using hRw⟩)
    case j3 =>
      clear hRw hR1 hR0 e1 e2
      rintro i9 m1 news1 hi9 ⟨fs, R1, kf, rfl, e1, e2, hR0, hR1, hRw⟩ t9 h9 tk9 it9 hit9 F1 N1
      rw [at_name2 e1 e2] at F1
      have nI9 := neI N1 hit9
      have hRF := News.tailNe N1 (.tail _ (.head _)) (show (Value.type "list") ≠ Value.type "tuple" by decide) hR1 (by k_extra "M subv")
      have lfs : fs.length < 20 := by
        have q1 := hRw.length
        have q2 := beginRows_len os.length begins 0
        have q3 := opRows_len os.length bs.length (ops.take i9) 0
        rw [List.length_take] at q3
        simp only [List.length_append] at q1
        omega
      k_steps
      all_goals (have hot := ops_take (many := os.length) (begun := bs.length) ho8)
      all_goals subst hz'
      all_goals (rename Fr g' L' _ _ => kF)
      all_goals (rename News g' L' _ _ => kM)
      · rw [if_neg (by intro q; rename (_ != _) = true => a9; rw [q] at a9; exact absurd a9 (by decide))] at hot
        rw [List.push_toArray] at kM
        exact wj_step kF kM (R := R1 ++ [(_, rowObj _ _ _ _)]) (by k_extra "M wfsub") hit9 (show (Value.ref 82) ≠ Value.type "range_iterator" by decide) (show (Value.type "dict") ≠ Value.type "range_iterator" by decide) (show (Value.type "tuple") ≠ Value.type "range_iterator" by decide) (show (Value.type "tuple") ≠ Value.type "range_iterator" by decide) rfl rfl (fun p hp => List.mem_append_left _ (hR0 p hp)) (by k_extra "M wftup") (by show RowsAre _ _ (_ ++ opRows _ _ _ _); rw [hot, ← List.append_assoc]; exact rows_snoc hRw)
      · rw [if_pos (by rename (_ != _) = false => a9; simpa using a9), List.append_nil] at hot
        exact wj_step kF kM (R := R1) (by k_extra "M wfsub") hit9 (show (Value.ref 82) ≠ Value.type "range_iterator" by decide) (show (Value.type "dict") ≠ Value.type "range_iterator" by decide) (show (Value.type "tuple") ≠ Value.type "range_iterator" by decide) (show (Value.type "tuple") ≠ Value.type "range_iterator" by decide) rfl rfl hR0 hR1 (by show RowsAre _ _ (_ ++ opRows _ _ _ _); rw [hot]; exact hRw)
    case j2 =>
      clear hRw hR1 hR0 e1 e2
      rintro m1 news1 ⟨fs, R1, kf, rfl, e1, e2, hR0, hR1, hRw⟩ h9 tk9 F1 N1
      rw [at_name2 e1 e2] at F1
      have hRv : RowsAre (fun a o => (a, o) ∈ R1) fs (dueP os.length bs.length begins ops) := by
        have q : ops.take os.length = ops := by rw [hops.length, List.take_length]
        have r := hRw
        simp only [q] at r
        exact r
      clear hRw
      have hlr := hRv.length
      have hlb := beginRows_len os.length begins 0
      have hlo := opRows_len os.length bs.length ops 0
      have hld : (dueP os.length bs.length begins ops).length ≤ 20 := by
        have := hops.length
        unfold dueP
        rw [List.length_append]
        omega
      cases hdue : dueP os.length bs.length begins ops with
      | nil =>
        rw [hdue] at hRv hlr hld
        have hE : (([] : List Row)).isEmpty = true := rfl
        have hB := beginRows_nil (List.append_eq_nil_iff.mp hdue).1
        have hO := opRows_nil (List.append_eq_nil_iff.mp hdue).2
        have hgood := hops.good hO
        have hok : ∀ r ∈ ([] : List Row), PyData.strOk r.2 = true := fun _ h => nomatch h
        k_steps
        all_goals (rename News h₀ L _ _ => kN)
        refine hret _ _ _ _ _ ws9 ks9 (keep_led kG0 (by assumption) N kN ?z1) (kN (_, _) (by k_mem)) (hF8.mono (fun a9 o9 e9 => kN (a9, o9) (by (have e7 := List.mem_append_right (R1 ++ E8) e9); k_extra "M memt"))) p4 p3 (fun q => absurd hdue q) (fun _ r hr => hTx r (p1 r hr))
        refine List.forall_mem_cons.mpr ⟨fun _ => by k_mem, List.forall_mem_cons.mpr ⟨fun _ => by k_mem, List.forall_mem_cons.mpr ⟨fun _ => by k_mem, List.forall_mem_cons.mpr ⟨fun _ => by k_mem, ?_⟩⟩⟩⟩
        intro p8 hp8 _
        have hp7 := List.mem_append_left E9 (List.mem_append_left E8 (hR0 p8 hp8))
        k_extra "M memt"
      | cons r0 rs0 =>
        have hok := dueP_ok (many := os.length) (begun := bs.length) (begins := begins) (ops := ops)
        have hnd := dueP_nodup (many := os.length) (begun := bs.length) (begins := begins) (ops := ops)
        rw [hdue] at hRv hlr hld hok hnd
        have hE : (r0 :: rs0).isEmpty = false := rfl
        k_steps
        all_goals (rename News h₀ L _ _ => kN)
        refine hret _ _ _ _ _ ws9 ks9 (keep_led kG0 (by assumption) N kN ?z2) (kN (_, _) (by k_mem)) (hF8.mono (fun a9 o9 e9 => kN (a9, o9) (by (have e7 := List.mem_append_right R1 e9); k_extra "M memt"))) p4 p3 (fun _ => by rw [hdue]; exact p2 hnd) (fun q => by rw [hdue] at q; cases q)
        refine List.forall_mem_cons.mpr ⟨fun _ => by k_mem, List.forall_mem_cons.mpr ⟨fun _ => by k_mem, List.forall_mem_cons.mpr ⟨fun _ => by k_mem, List.forall_mem_cons.mpr ⟨fun _ => by k_mem, ?_⟩⟩⟩⟩
        intro p8 hp8 _
        have hp7 := List.mem_append_left E9 (hR0 p8 hp8)
        k_extra "M memt"
end
theorem kreg39 : True := by
  w_top off
  k_with_none
  k_with "M ne" => (first | (with_reducible assumption) | (with_reducible exact Ne.symm (by assumption)) | (with_reducible exact Nat.ne_of_lt (by assumption)) | (with_reducible exact Nat.ne_of_gt (by assumption)) | (k_extra "M nec"))
  k_with "M nec" => (first | ((rename (_ < _) ∧ _ => hc9); first | (with_reducible exact Nat.ne_of_lt hc9.1) | (with_reducible exact Nat.ne_of_gt hc9.1) | (with_reducible exact Nat.ne_of_lt hc9) | (with_reducible exact Nat.ne_of_gt hc9) | (with_reducible exact Nat.ne_of_lt hc9.2.1) | (with_reducible exact Nat.ne_of_gt hc9.2.1) | (with_reducible exact Nat.ne_of_lt hc9.2) | (with_reducible exact Nat.ne_of_gt hc9.2) | (with_reducible exact Nat.ne_of_lt hc9.2.2.1) | (with_reducible exact Nat.ne_of_gt hc9.2.2.1) | (with_reducible exact Nat.ne_of_lt hc9.2.2) | (with_reducible exact Nat.ne_of_gt hc9.2.2) | (with_reducible exact Nat.ne_of_lt hc9.2.2.2.1) | (with_reducible exact Nat.ne_of_gt hc9.2.2.2.1) | (with_reducible exact Nat.ne_of_lt hc9.2.2.2) | (with_reducible exact Nat.ne_of_gt hc9.2.2.2) | (with_reducible exact Nat.ne_of_lt hc9.2.2.2.2.1) | (with_reducible exact Nat.ne_of_gt hc9.2.2.2.2.1) | (with_reducible exact Nat.ne_of_lt hc9.2.2.2.2) | (with_reducible exact Nat.ne_of_gt hc9.2.2.2.2) | (with_reducible exact Nat.ne_of_lt hc9.2.2.2.2.2.1) | (with_reducible exact Nat.ne_of_gt hc9.2.2.2.2.2.1) | (with_reducible exact Nat.ne_of_lt hc9.2.2.2.2.2) | (with_reducible exact Nat.ne_of_gt hc9.2.2.2.2.2) | (with_reducible exact Nat.ne_of_lt hc9.2.2.2.2.2.2.1) | (with_reducible exact Nat.ne_of_gt hc9.2.2.2.2.2.2.1) | (with_reducible exact Nat.ne_of_lt hc9.2.2.2.2.2.2) | (with_reducible exact Nat.ne_of_gt hc9.2.2.2.2.2.2) | (with_reducible exact Nat.ne_of_lt hc9.2.2.2.2.2.2.2.1) | (with_reducible exact Nat.ne_of_gt hc9.2.2.2.2.2.2.2.1) | (with_reducible exact Nat.ne_of_lt hc9.2.2.2.2.2.2.2) | (with_reducible exact Nat.ne_of_gt hc9.2.2.2.2.2.2.2) | (with_reducible exact Nat.ne_of_lt hc9.2.2.2.2.2.2.2.2.1) | (with_reducible exact Nat.ne_of_gt hc9.2.2.2.2.2.2.2.2.1) | (with_reducible exact Nat.ne_of_lt hc9.2.2.2.2.2.2.2.2) | (with_reducible exact Nat.ne_of_gt hc9.2.2.2.2.2.2.2.2) | (with_reducible exact Nat.ne_of_lt hc9.2.2.2.2.2.2.2.2.2.1) | (with_reducible exact Nat.ne_of_gt hc9.2.2.2.2.2.2.2.2.2.1) | (with_reducible exact Nat.ne_of_lt hc9.2.2.2.2.2.2.2.2.2) | (with_reducible exact Nat.ne_of_gt hc9.2.2.2.2.2.2.2.2.2) | (with_reducible exact Nat.ne_of_lt hc9.2.2.2.2.2.2.2.2.2.2.1) | (with_reducible exact Nat.ne_of_gt hc9.2.2.2.2.2.2.2.2.2.2.1) | (with_reducible exact Nat.ne_of_lt hc9.2.2.2.2.2.2.2.2.2.2) | (with_reducible exact Nat.ne_of_gt hc9.2.2.2.2.2.2.2.2.2.2) | (with_reducible exact Nat.ne_of_lt hc9.2.2.2.2.2.2.2.2.2.2.2.1) | (with_reducible exact Nat.ne_of_gt hc9.2.2.2.2.2.2.2.2.2.2.2.1) | (with_reducible exact Nat.ne_of_lt hc9.2.2.2.2.2.2.2.2.2.2.2) | (with_reducible exact Nat.ne_of_gt hc9.2.2.2.2.2.2.2.2.2.2.2) | (with_reducible exact Nat.ne_of_lt hc9.2.2.2.2.2.2.2.2.2.2.2.2.1) | (with_reducible exact Nat.ne_of_gt hc9.2.2.2.2.2.2.2.2.2.2.2.2.1) | (with_reducible exact Nat.ne_of_lt hc9.2.2.2.2.2.2.2.2.2.2.2.2) | (with_reducible exact Nat.ne_of_gt hc9.2.2.2.2.2.2.2.2.2.2.2.2) | (with_reducible exact Nat.ne_of_lt hc9.2.2.2.2.2.2.2.2.2.2.2.2.2.1) | (with_reducible exact Nat.ne_of_gt hc9.2.2.2.2.2.2.2.2.2.2.2.2.2.1) | (with_reducible exact Nat.ne_of_lt hc9.2.2.2.2.2.2.2.2.2.2.2.2.2) | (with_reducible exact Nat.ne_of_gt hc9.2.2.2.2.2.2.2.2.2.2.2.2.2) | (clear hc9; k_extra "M nec")) | ((rename (_ ≠ _) ∧ _ => hc9); first | (with_reducible exact hc9.1) | (with_reducible exact Ne.symm hc9.1) | (with_reducible exact hc9) | (with_reducible exact Ne.symm hc9) | (with_reducible exact hc9.2.1) | (with_reducible exact Ne.symm hc9.2.1) | (with_reducible exact hc9.2) | (with_reducible exact Ne.symm hc9.2) | (with_reducible exact hc9.2.2.1) | (with_reducible exact Ne.symm hc9.2.2.1) | (with_reducible exact hc9.2.2) | (with_reducible exact Ne.symm hc9.2.2) | (with_reducible exact hc9.2.2.2.1) | (with_reducible exact Ne.symm hc9.2.2.2.1) | (with_reducible exact hc9.2.2.2) | (with_reducible exact Ne.symm hc9.2.2.2) | (with_reducible exact hc9.2.2.2.2.1) | (with_reducible exact Ne.symm hc9.2.2.2.2.1) | (with_reducible exact hc9.2.2.2.2) | (with_reducible exact Ne.symm hc9.2.2.2.2) | (with_reducible exact hc9.2.2.2.2.2.1) | (with_reducible exact Ne.symm hc9.2.2.2.2.2.1) | (with_reducible exact hc9.2.2.2.2.2) | (with_reducible exact Ne.symm hc9.2.2.2.2.2) | (with_reducible exact hc9.2.2.2.2.2.2.1) | (with_reducible exact Ne.symm hc9.2.2.2.2.2.2.1) | (with_reducible exact hc9.2.2.2.2.2.2) | (with_reducible exact Ne.symm hc9.2.2.2.2.2.2) | (with_reducible exact hc9.2.2.2.2.2.2.2.1) | (with_reducible exact Ne.symm hc9.2.2.2.2.2.2.2.1) | (with_reducible exact hc9.2.2.2.2.2.2.2) | (with_reducible exact Ne.symm hc9.2.2.2.2.2.2.2) | (with_reducible exact hc9.2.2.2.2.2.2.2.2.1) | (with_reducible exact Ne.symm hc9.2.2.2.2.2.2.2.2.1) | (with_reducible exact hc9.2.2.2.2.2.2.2.2) | (with_reducible exact Ne.symm hc9.2.2.2.2.2.2.2.2) | (with_reducible exact hc9.2.2.2.2.2.2.2.2.2.1) | (with_reducible exact Ne.symm hc9.2.2.2.2.2.2.2.2.2.1) | (with_reducible exact hc9.2.2.2.2.2.2.2.2.2) | (with_reducible exact Ne.symm hc9.2.2.2.2.2.2.2.2.2) | (with_reducible exact hc9.2.2.2.2.2.2.2.2.2.2.1) | (with_reducible exact Ne.symm hc9.2.2.2.2.2.2.2.2.2.2.1) | (with_reducible exact hc9.2.2.2.2.2.2.2.2.2.2) | (with_reducible exact Ne.symm hc9.2.2.2.2.2.2.2.2.2.2) | (with_reducible exact hc9.2.2.2.2.2.2.2.2.2.2.2.1) | (with_reducible exact Ne.symm hc9.2.2.2.2.2.2.2.2.2.2.2.1) | (with_reducible exact hc9.2.2.2.2.2.2.2.2.2.2.2) | (with_reducible exact Ne.symm hc9.2.2.2.2.2.2.2.2.2.2.2) | (with_reducible exact hc9.2.2.2.2.2.2.2.2.2.2.2.2.1) | (with_reducible exact Ne.symm hc9.2.2.2.2.2.2.2.2.2.2.2.2.1) | (with_reducible exact hc9.2.2.2.2.2.2.2.2.2.2.2.2) | (with_reducible exact Ne.symm hc9.2.2.2.2.2.2.2.2.2.2.2.2) | (with_reducible exact hc9.2.2.2.2.2.2.2.2.2.2.2.2.2.1) | (with_reducible exact Ne.symm hc9.2.2.2.2.2.2.2.2.2.2.2.2.2.1) | (with_reducible exact hc9.2.2.2.2.2.2.2.2.2.2.2.2.2) | (with_reducible exact Ne.symm hc9.2.2.2.2.2.2.2.2.2.2.2.2.2) | (clear hc9; k_extra "M nec")) | ((rename ((_ ≠ _) ∧ _) ∧ _ => hc9); first | (with_reducible exact hc9.1.1) | (with_reducible exact Ne.symm hc9.1.1) | (with_reducible exact hc9.1.2.1) | (with_reducible exact Ne.symm hc9.1.2.1) | (with_reducible exact hc9.1.2.2) | (with_reducible exact Ne.symm hc9.1.2.2) | (with_reducible exact hc9.1) | (with_reducible exact Ne.symm hc9.1) | (with_reducible exact hc9.2.1) | (with_reducible exact Ne.symm hc9.2.1) | (with_reducible exact hc9.2.2) | (with_reducible exact Ne.symm hc9.2.2) | (with_reducible exact hc9.2.1.1) | (with_reducible exact Ne.symm hc9.2.1.1) | (with_reducible exact hc9.2.1.2.1) | (with_reducible exact Ne.symm hc9.2.1.2.1) | (with_reducible exact hc9.2.1.2.2) | (with_reducible exact Ne.symm hc9.2.1.2.2) | (with_reducible exact hc9.2.2.1) | (with_reducible exact Ne.symm hc9.2.2.1) | (with_reducible exact hc9.2.2.2) | (with_reducible exact Ne.symm hc9.2.2.2) | (with_reducible exact hc9.2.2.1.1) | (with_reducible exact Ne.symm hc9.2.2.1.1) | (with_reducible exact hc9.2.2.1.2.1) | (with_reducible exact Ne.symm hc9.2.2.1.2.1) | (with_reducible exact hc9.2.2.1.2.2) | (with_reducible exact Ne.symm hc9.2.2.1.2.2) | (with_reducible exact hc9.2.2.2.1) | (with_reducible exact Ne.symm hc9.2.2.2.1) | (with_reducible exact hc9.2.2.2.2) | (with_reducible exact Ne.symm hc9.2.2.2.2) | (with_reducible exact hc9.2.2.2.1.1) | (with_reducible exact Ne.symm hc9.2.2.2.1.1) | (with_reducible exact hc9.2.2.2.1.2.1) | (with_reducible exact Ne.symm hc9.2.2.2.1.2.1) | (with_reducible exact hc9.2.2.2.1.2.2) | (with_reducible exact Ne.symm hc9.2.2.2.1.2.2) | (with_reducible exact hc9.2.2.2.2.1) | (with_reducible exact Ne.symm hc9.2.2.2.2.1) | (with_reducible exact hc9.2.2.2.2.2) | (with_reducible exact Ne.symm hc9.2.2.2.2.2) | (with_reducible exact hc9.2.2.2.2.1.1) | (with_reducible exact Ne.symm hc9.2.2.2.2.1.1) | (with_reducible exact hc9.2.2.2.2.1.2.1) | (with_reducible exact Ne.symm hc9.2.2.2.2.1.2.1) | (with_reducible exact hc9.2.2.2.2.1.2.2) | (with_reducible exact Ne.symm hc9.2.2.2.2.1.2.2) | (with_reducible exact hc9.2.2.2.2.2.1) | (with_reducible exact Ne.symm hc9.2.2.2.2.2.1) | (with_reducible exact hc9.2.2.2.2.2.2) | (with_reducible exact Ne.symm hc9.2.2.2.2.2.2) | (with_reducible exact hc9.2.2.2.2.2.1.1) | (with_reducible exact Ne.symm hc9.2.2.2.2.2.1.1) | (with_reducible exact hc9.2.2.2.2.2.1.2.1) | (with_reducible exact Ne.symm hc9.2.2.2.2.2.1.2.1) | (with_reducible exact hc9.2.2.2.2.2.1.2.2) | (with_reducible exact Ne.symm hc9.2.2.2.2.2.1.2.2) | (with_reducible exact hc9.2.2.2.2.2.2.1) | (with_reducible exact Ne.symm hc9.2.2.2.2.2.2.1) | (with_reducible exact hc9.2.2.2.2.2.2.2) | (with_reducible exact Ne.symm hc9.2.2.2.2.2.2.2) | (with_reducible exact hc9.2.2.2.2.2.2.1.1) | (with_reducible exact Ne.symm hc9.2.2.2.2.2.2.1.1) | (with_reducible exact hc9.2.2.2.2.2.2.1.2.1) | (with_reducible exact Ne.symm hc9.2.2.2.2.2.2.1.2.1) | (with_reducible exact hc9.2.2.2.2.2.2.1.2.2) | (with_reducible exact Ne.symm hc9.2.2.2.2.2.2.1.2.2) | (with_reducible exact hc9.2.2.2.2.2.2.2.1) | (with_reducible exact Ne.symm hc9.2.2.2.2.2.2.2.1) | (with_reducible exact hc9.2.2.2.2.2.2.2.2) | (with_reducible exact Ne.symm hc9.2.2.2.2.2.2.2.2) | (with_reducible exact hc9.2.2.2.2.2.2.2.1.1) | (with_reducible exact Ne.symm hc9.2.2.2.2.2.2.2.1.1) | (with_reducible exact hc9.2.2.2.2.2.2.2.1.2.1) | (with_reducible exact Ne.symm hc9.2.2.2.2.2.2.2.1.2.1) | (with_reducible exact hc9.2.2.2.2.2.2.2.1.2.2) | (with_reducible exact Ne.symm hc9.2.2.2.2.2.2.2.1.2.2) | (with_reducible exact hc9.2.2.2.2.2.2.2.2.1) | (with_reducible exact Ne.symm hc9.2.2.2.2.2.2.2.2.1) | (with_reducible exact hc9.2.2.2.2.2.2.2.2.2) | (with_reducible exact Ne.symm hc9.2.2.2.2.2.2.2.2.2) | (with_reducible exact hc9.2.2.2.2.2.2.2.2.1.1) | (with_reducible exact Ne.symm hc9.2.2.2.2.2.2.2.2.1.1) | (with_reducible exact hc9.2.2.2.2.2.2.2.2.1.2.1) | (with_reducible exact Ne.symm hc9.2.2.2.2.2.2.2.2.1.2.1) | (with_reducible exact hc9.2.2.2.2.2.2.2.2.1.2.2) | (with_reducible exact Ne.symm hc9.2.2.2.2.2.2.2.2.1.2.2) | (with_reducible exact hc9.2.2.2.2.2.2.2.2.2.1) | (with_reducible exact Ne.symm hc9.2.2.2.2.2.2.2.2.2.1) | (with_reducible exact hc9.2.2.2.2.2.2.2.2.2.2) | (with_reducible exact Ne.symm hc9.2.2.2.2.2.2.2.2.2.2) | (with_reducible exact hc9.2.2.2.2.2.2.2.2.2.1.1) | (with_reducible exact Ne.symm hc9.2.2.2.2.2.2.2.2.2.1.1) | (with_reducible exact hc9.2.2.2.2.2.2.2.2.2.1.2.1) | (with_reducible exact Ne.symm hc9.2.2.2.2.2.2.2.2.2.1.2.1) | (with_reducible exact hc9.2.2.2.2.2.2.2.2.2.1.2.2) | (with_reducible exact Ne.symm hc9.2.2.2.2.2.2.2.2.2.1.2.2) | (with_reducible exact hc9.2.2.2.2.2.2.2.2.2.2.1) | (with_reducible exact Ne.symm hc9.2.2.2.2.2.2.2.2.2.2.1) | (with_reducible exact hc9.2.2.2.2.2.2.2.2.2.2.2) | (with_reducible exact Ne.symm hc9.2.2.2.2.2.2.2.2.2.2.2) | (with_reducible exact hc9.2.2.2.2.2.2.2.2.2.2.1.1) | (with_reducible exact Ne.symm hc9.2.2.2.2.2.2.2.2.2.2.1.1) | (with_reducible exact hc9.2.2.2.2.2.2.2.2.2.2.1.2.1) | (with_reducible exact Ne.symm hc9.2.2.2.2.2.2.2.2.2.2.1.2.1) | (with_reducible exact hc9.2.2.2.2.2.2.2.2.2.2.1.2.2) | (with_reducible exact Ne.symm hc9.2.2.2.2.2.2.2.2.2.2.1.2.2) | (with_reducible exact hc9.2.2.2.2.2.2.2.2.2.2.2.1) | (with_reducible exact Ne.symm hc9.2.2.2.2.2.2.2.2.2.2.2.1) | (with_reducible exact hc9.2.2.2.2.2.2.2.2.2.2.2.2) | (with_reducible exact Ne.symm hc9.2.2.2.2.2.2.2.2.2.2.2.2) | (clear hc9; k_extra "M nec")))
  k_with "M enter" => ((refine' code_defG ?k1 ?k2 ?k3 ?k4 ?k5 ?kA ?kF ?kK ?k6 ?k7 ?k8 ?k9 ?kB ?_ ?c2 ?c3 ?c4 ?c5; (case kA => exact rfl); (case kF => exact rfl); (case kK => first | assumption | exact rfl); (case k1 => k_asm); (case k2 => k_asm); (case k3 => k_asm); (case k4 => k_asm); (case k5 => k_asm); (case k6 => k_is); (case k7 => k_is); (case k8 => ktr_room); (case k9 => exact BindsTo.of_eq rfl); (case c5 => decide); (case kB => exact locs rfl); (case c2 => exact rfl); (case c3 => exact rfl); (case c4 => exact rfl); k_whole; intro g' L' h' FG' F' N' B' X' T' kG'; (try dsimp only at F' N' kG' ⊢); (try k_fold)))
  k_with "M enterC" => ((refine' enterCells ?k1 ?k2 ?k3 ?k4 ?k5 ?kA ?kF ?kK ?k6 ?k7 ?k8 ?k9 ?kB ?kD ?_ ?c2 ?c3 ?c4; (case kA => exact rfl); (case kF => exact rfl); (case kK => first | assumption | exact rfl); (case k1 => k_asm); (case k2 => k_asm); (case k3 => k_asm); (case k4 => k_asm); (case k5 => k_asm); (case k6 => k_is); (case k7 => k_is); (case k8 => ktr_room); (case k9 => exact BindsTo.of_eq rfl); (case kB => exact rfl); (case kD => decide +kernel); (case c2 => exact rfl); (case c3 => exact rfl); (case c4 => exact rfl); k_whole; intro g' L' h' tk' cells' FG' F' N' Y' B' X' T' kG' l1 l2; (try k_lt l1); k_cells Y'; (try simp only [List.cons_append, List.nil_append] at N'); (try dsimp only at F' N' kG' ⊢); (try k_fold)))
  k_with "M sub" => ((first | exact List.forall_mem_nil _ | (refine List.forall_mem_cons.mpr ⟨?kms1, ?kms2⟩; (case kms1 => (intro hW; first | k_mem | (refine (hW ?_).elim; k_mem))); (case kms2 => k_extra "M sub"))))
  k_with "subscriptTail Name Constant ref int" => ((k_here; (with_reducible show wpAny _ _ (subscriptTail _ _ (Value.ref _) (Value.int _ _)) _ _ _); kim_at))
  k_with "call builtin:divmod" => ((k_here; (with_reducible show wpAny _ _ (call (Value.builtin _) [Value.int _ _, Value.int _ _]) _ _ _); k_dflt (refine' divmod_K ?k1 ?k2 ?k3 ?k4 ?_; (case k1 => k_asm); (case k2 => k_asm); (case k3 => omega); (case k4 => exact PyProof.noPylong_small (by omega)); k_whole); intro D' h' t1 t2 F' N' l1; (try k_lt l1); (try k_sweep)))
  k_with "call ref" => ((k_here; (with_reducible show wpAny _ _ (call (Value.ref 107) _ _) _ _ _); k_dflt (refine' draw_use ?k1 ?k2 ?k3 ?k4 ?k5 ?k6 ?k7 ?k8 ?b1 ?b2 ?b3 ?b4 ?b5 ?_; (case k1 => k_asm); (case k2 => k_asm); (case k3 => k_asm); (case k4 => k_asm); (case k5 => first | exact rfl | assumption); (case k6 => ktr_room); (case k7 => k_asm); (case k8 => k_updF); (case b1 => omega); (case b2 => omega); (case b3 => omega); (case b4 => omega); (case b5 => omega)); intro h' tk' n' c' t' u' k' d' td' K' F' N' b1 b2 b3 b4 b5; (try dsimp only at N'); (try k_sweep); (try k_fold)))
  k_with "call builtin:len" => ((k_here; (with_reducible show wpAny _ _ (call (Value.builtin "len") [Value.ref _]) _ _ _); k_dflt (first | (refine' len_tupA ?k1 ?k2 ?k3 ?_; (case k1 => k_asm); (case k2 => k_mem); (case k3 => omega)) | (refine' len_lstA ?k1 ?k2 ?k3 ?_; (case k1 => k_asm); (case k2 => k_mem); (case k3 => omega))); intro t' tk'; (try simp only [List.length_cons, List.length_nil])))
  k_with "subscriptTail Name Call ref int" => ((k_here; (with_reducible show wpAny _ _ (subscriptTail _ _ (Value.ref _) (Value.int _ _)) _ _ _); k_dflt (refine' tup_item_any ?k1 ?k2 ?k3 ?k4 ?k5 ?_ ?k6 ?k7; (case k1 => k_asm); (case k2 => k_mem); (case k3 => omega); (case k4 => omega); (case k5 => omega); (case k6 => with_unfolding_all rfl); (case k7 => (intro _; with_unfolding_all rfl))); intro x' hx' hxm'; (try k_fold)))
  k_with "call ref" => ((k_here; (with_reducible show wpAny _ _ (call (Value.ref 114) _ _) _ _ _); k_dflt (refine' pick_use ?k1 ?k2 ?k3 ?k4 ?k5 ?k6 ?k7 ?k8 ?k9 ?kA ?b1 ?b2 ?b3 ?b4 ?b5 ?_; (case k1 => k_asm); (case k2 => k_asm); (case k3 => k_asm); (case k4 => k_asm); (case k5 => first | exact rfl | assumption); (case k6 => ktr_room); (case k7 => k_asm); (case k8 => k_updF); (case k9 => k_mem); (case kA => (refine neN ?_; omega)); (case b1 => omega); (case b2 => omega); (case b3 => omega); (case b4 => (simp only [List.length_cons, List.length_nil]; omega)); (case b5 => (simp only [List.length_cons, List.length_nil]; omega))); intro h' tk' n' c' t' u' k' x' K' F' N' b1 b2 b3 b4; (try dsimp only at N'); (try k_sweep); (try k_fold)))
  k_with "binaryOp Mult ref int" => ((k_here; (with_reducible show wpAny _ _ (binaryOp Operator.Mult (Value.ref _) (Value.int _ _)) _ _ _); k_dflt (refine' tup_mul ?k1 ?k2 ?k3 ?k4 ?k5 ?_ ?_ ?_; (case k1 => k_asm); (case k2 => k_asm); (case k3 => k_mem); (case k4 => omega); (case k5 => omega)); (all_goals (intro hx9; (try (exfalso; omega; done)))); (all_goals (try (intro D' h' F' N' l1; (try k_lt l1); (try k_sweep)))); (all_goals (try k_unmd)); (all_goals (try k_fold))))
  k_with "subscriptTail Name Slice ref ref" => ((k_here; (with_reducible show wpAny _ _ (subscriptTail _ _ (Value.ref _) (Value.ref _)) _ _ _); k_dflt (refine' cut_tail ?k1 ?k2 ?k3 ?k4 ?_ ?_ ?k5 ?k6; (case k1 => k_asm); (case k2 => k_asm); (case k3 => k_mem); (case k4 => omega); (case k5 => with_unfolding_all rfl); (case k6 => (intro _; with_unfolding_all rfl))); (all_goals intro hx9); (all_goals (first | (intro D' h' F' N' l1; (try k_lt l1); (try k_sweep)) | (intro h' F' N'; (try k_sweep)))); (all_goals (try k_unmd)); (all_goals (try k_fold))))
  k_with "CompSrc" => ((k_here; k_dflt (refine LCg.CompSrc.range (by rfl) (by k_asm) (by k_asm) (by assumption) (by first | decide | rfl) (by first | rfl | decide) (by first | size_fits | exact Nat.le_of_ble_eq_true rfl) ?_; intro gc'; lcg_lit)))
  k_with "execs nil" => ((k_here; (with_reducible refine wpAny_execs_nil ?_)))
  k_with "eval ListComp" => ((k_here; lct_look; k_dflt (refine LCt.ListComp_T (F₀ := by k_asm) (by with_unfolding_all rfl) (by decide) (by rfl) (by decide) (by rfl) ?_)))
  k_with "M ints" => (first | exact IntsAre.nil | exact IntsAre.cons _ _ .nil | exact IntsAre.cons _ _ (.cons _ _ .nil) | exact IntsAre.cons _ _ (.cons _ _ (.cons _ _ .nil)) | assumption)
  k_with "call ref" => ((k_here; (with_reducible show wpAny _ _ (call (Value.ref 22) _ _) _ _ _); refine wpAny_call ?_; k_dflt (k_extra "M enter")))
  k_with "M test" => ((unfold TestEnd; refine ⟨?t1, _, _, rfl, ?t2, ?t3⟩; (case t1 => first | exact rfl | exact inR_lt (by omega) | exact inR_neg (by omega)); (case t2 => k_asm); (case t3 => k_asm)))
  k_with "compareOp Eq ref ref" => ((k_here; k_dflt (refine' eq_tup_nil ?k1 ?k2 ?k3 ?k4 ?_; (case k1 => k_asm); (case k2 => k_mem); (case k3 => k_mem); (case k4 => first | units_room | exact Nat.le_of_ble_eq_true rfl)); (try simp only [List.size_toArray, List.length_cons, List.length_nil])))
  k_with "call ref" => ((k_here; (with_reducible show wpAny _ _ (call (Value.ref 93) _ _) _ _ _); (try simp only [List.nil_append]); refine wpAny_call ?_; k_dflt (k_extra "M enter")))
  k_with "call ref" => ((k_here; (with_reducible show wpAny _ _ (call (Value.ref 126) _ _) _ _ _); refine wpAny_call ?_; k_dflt (k_extra "M enter")))
  k_with "compareOp NotIn int ref" => ((k_here; (with_reducible show wpAny _ _ (compareOp CmpOp.NotIn (Value.int _ _) (Value.ref _)) _ _ _); k_dflt (refine notin_range (by assumption) ?_)))
  k_with "eval ListComp" => ((k_here; lct_look; k_dflt (first | refine ListComp_Tup (iter := Expr.Subscript _ _ _) (_F := by k_asm) (by with_unfolding_all rfl) (by decide) (by rfl) (by decide) (by rfl) ?_ | refine LCt.ListComp_T (F₀ := by k_asm) (by with_unfolding_all rfl) (by decide) (by rfl) (by decide) (by rfl) ?_)))
  k_with "CompSrcU" => ((k_here; refine sealUOf ?_))
  k_with "subscriptTail Name Slice ref ref" => ((k_here; (with_reducible show wpAny _ _ (subscriptTail _ _ (Value.ref _) (Value.ref _)) _ _ _); k_dflt (refine' tail_from ?k1 ?k2 ?k3 ?k4 ?_ ?k5 ?k6; (case k1 => k_asm); (case k2 => k_asm); (case k3 => k_mem); (case k4 => (simp only [List.length_cons, List.length_nil]; omega)); (case k5 => with_unfolding_all rfl); (case k6 => (intro _; with_unfolding_all rfl))); intro D' h' F' N' l1; (try k_lt l1); (try k_sweep)))
  k_with "M strs6" => (first | exact List.forall_mem_nil _ | (refine List.forall_mem_cons.mpr ⟨⟨_, _, rfl⟩, ?_⟩; k_extra "M strs6"))
  k_with "compareOp NotIn int ref" => ((k_here; (with_reducible show wpAny _ _ (compareOp CmpOp.NotIn (Value.int _ _) (Value.ref _)) _ _ _); k_dflt (first | refine notin_range (by assumption) ?_ | (refine' notin_strs ?k1 ?k2 ?k3 ?_; (case k1 => k_asm); (case k2 => k_mem); (case k3 => k_extra "M strs6")))))
  k_with "call ref" => ((k_here; (with_reducible show wpAny _ _ (call (Value.ref 93) _) _ _ _); k_dflt (refine' parts_use ?k1 ?k2 ?k3 ?k4 ?k5 ?k6 ?k7 ?_; (case k1 => k_asm); (case k2 => k_asm); (case k3 => k_asm); (case k4 => k_asm); (case k5 => first | exact rfl | assumption); (case k6 => ktr_room); (case k7 => k_asm)); (iterate 4 intro _); (iterate 26 intro _); intro KP F' N' lo' hd' hf'; (try k_sweep); (try k_fold)))
  k_with "M memt" => (first | (with_reducible assumption) | ((with_reducible refine List.mem_cons_of_mem _ ?_); k_extra "M memt"))
  k_with "M subv" => (first | exact List.forall_mem_nil _ | ((with_reducible refine List.forall_mem_cons.mpr ⟨?kms1, ?kms2⟩); (case kms1 => k_mem); (case kms2 => k_extra "M subv")) | (intro p8 hp8; k_extra "M memt"))
  k_with "M sub" => ((first | exact List.forall_mem_nil _ | (refine List.forall_mem_cons.mpr ⟨?kms1, ?kms2⟩; (case kms1 => (intro hW; first | k_mem | (refine (hW ?_).elim; k_mem))); (case kms2 => k_extra "M sub")) | (intro p8 hp8 hW8; k_extra "M memt")))
  k_with "M size" => (first | exact size_few (by first | omega | (simp only [List.length_append, List.length_cons, List.length_nil]; omega)) | size_fits)
  k_with "call builtin:list.append" => ((k_here; (with_reducible show wpAny _ _ (call (Value.builtin _) [Value.ref _, _]) _ _ _); k_dflt (refine' append_K ?k1 ?k2 ?k3 ?_ ?z; (case k1 => k_asm); (case k2 => k_asm); (case k3 => k_upd); (case z => k_extra "M size")); intro h' F' N'; (try k_sweep)))
  exact True.intro

/-! _law_pen on a list of the ground -/
section







theorem kreg40 : True := by
  w_top off
  k_with "exec For Name Subscript cons nil" => ((k_here; (rename Fr _ _ _ _ => lF'); (with_unfolding_all refine' For_turns lF' ?_; k_whole)))
  k_with "binaryOp Mod int int" => ((k_here; (with_reducible refine mod_int' pow_ne ?_)))
  k_with "binaryOp Pow int int" => ((k_here; (with_reducible refine pow_int_small ?kb1 ?kb2 ?kb3 ?_); (case kb1 => decide); (case kb2 => decide); (case kb3 => decide)))
  k_with "execs nil" => ((k_here; (with_reducible refine wpAny_execs_nil ?_)))
  exact True.intro

theorem pen_okG {w : World} {mean : ExcName → Option Value} {mg mb : Str → Option Value} {dp un : Nat} {gd : Option (List Code)} {cn : Str} {cs : Scope} {a : Addr} {ccd : Value} {cl : List (Str × Addr)} {outer : List Env} {A₀ : Around} {base h₀ : Heap} {L : Addr} {m : Str → Option Value} {s : Shared} {Q E : Value → Shared → Prop}
  {D : Addr} {us : List Value} {is : List Int}
  (B : Below A₀ base outer h₀) (F : Fr h₀ L s.heap m) (X : (Mine.hd.heap_1 w.params).In h₀) (T : Top Mine.hd.view_1 lo mean mg mb h₀) (hk : cs.kind = .function) (hd : dp + 1 < recursionLimit)
  (hl0 : s.heap.IsList D us.toArray) (hi : IntsAre us is) (hl : is.length ≤ 63)
  (hret : ∀ h' tk P n t u, KeepBut [] s.heap h' → NewAt h₀ L h' P (penObj n 0 t u 0) → s.heap.get? P = none → 0 ≤ n → Q (.ref P) { s with heap := h', toks := tk }) :
  wpAny (model PySem.Challenge.rw_pq0627_01.row.prog w) (ktrTop dp un gd cn cs L a ccd cl outer) (call (.ref 100) [.ref D]) Q E s := by
  revert X; k_fill; intro X
  have N : News h₀ L s.heap [] := fun p hp => nomatch hp
  refine wpAny_call ?_
  k_dflt (k_extra "M enter")
  have kG0 := kG'
  have hl' : g'.IsList D us.toArray := by
    obtain ⟨o, e, c⟩ := hl0
    exact ⟨o, kG0 _ _ e (fun h => nomatch h), c⟩
  k_steps
  rename Fr _ _ _ _ => kF
  rename IntsAre _ (List.take _ _) => hI
  rename News g' _ _ _ => kN
  refine iter_listTurns (by rfl) kF kN (List.mem_cons_self ..) rfl rfl (fun I hlt => ?_)
  refine vals_ind0 PenJ ?h0 ?h1 _ ?hj
  case hj => exact .mk hI rfl (by decide)
  case h0 =>
    rintro m ⟨_, e, hk⟩ h tk F N9
    rw [at_name e] at F
    clear kF kN
    k_steps
    rename News h₀ L _ _ => kN
    rename News g' _ _ _ => kM
    exact hret _ _ _ _ _ _ (keep_led kG0 (by assumption) N kN (by k_extra "M sub")) (kN (_, _) (by k_mem)) (fresh_by kG0 (kM (_, _) (by k_mem)).2.2 (fun _ h => nomatch h)) hk
  case h1 =>
    rintro v r m ⟨hI', e, hk⟩ h tk F
    rw [at_name e] at F
    cases hI' with
    | cons i t' hI' => 
      clear kF kN
      ktu_objs
      k_steps
      exact .mk hI' rfl (pen_step hk (Int.pow_pos (by decide)))
end
theorem kreg41 : True := by
  w_top off
  k_with_none
  k_with "M ne" => (first | (with_reducible assumption) | (with_reducible exact Ne.symm (by assumption)) | (with_reducible exact Nat.ne_of_lt (by assumption)) | (with_reducible exact Nat.ne_of_gt (by assumption)) | (k_extra "M nec"))
  k_with "M nec" => (first | ((rename (_ < _) ∧ _ => hc9); first | (with_reducible exact Nat.ne_of_lt hc9.1) | (with_reducible exact Nat.ne_of_gt hc9.1) | (with_reducible exact Nat.ne_of_lt hc9) | (with_reducible exact Nat.ne_of_gt hc9) | (with_reducible exact Nat.ne_of_lt hc9.2.1) | (with_reducible exact Nat.ne_of_gt hc9.2.1) | (with_reducible exact Nat.ne_of_lt hc9.2) | (with_reducible exact Nat.ne_of_gt hc9.2) | (with_reducible exact Nat.ne_of_lt hc9.2.2.1) | (with_reducible exact Nat.ne_of_gt hc9.2.2.1) | (with_reducible exact Nat.ne_of_lt hc9.2.2) | (with_reducible exact Nat.ne_of_gt hc9.2.2) | (with_reducible exact Nat.ne_of_lt hc9.2.2.2.1) | (with_reducible exact Nat.ne_of_gt hc9.2.2.2.1) | (with_reducible exact Nat.ne_of_lt hc9.2.2.2) | (with_reducible exact Nat.ne_of_gt hc9.2.2.2) | (with_reducible exact Nat.ne_of_lt hc9.2.2.2.2.1) | (with_reducible exact Nat.ne_of_gt hc9.2.2.2.2.1) | (with_reducible exact Nat.ne_of_lt hc9.2.2.2.2) | (with_reducible exact Nat.ne_of_gt hc9.2.2.2.2) | (with_reducible exact Nat.ne_of_lt hc9.2.2.2.2.2.1) | (with_reducible exact Nat.ne_of_gt hc9.2.2.2.2.2.1) | (with_reducible exact Nat.ne_of_lt hc9.2.2.2.2.2) | (with_reducible exact Nat.ne_of_gt hc9.2.2.2.2.2) | (with_reducible exact Nat.ne_of_lt hc9.2.2.2.2.2.2.1) | (with_reducible exact Nat.ne_of_gt hc9.2.2.2.2.2.2.1) | (with_reducible exact Nat.ne_of_lt hc9.2.2.2.2.2.2) | (with_reducible exact Nat.ne_of_gt hc9.2.2.2.2.2.2) | (with_reducible exact Nat.ne_of_lt hc9.2.2.2.2.2.2.2.1) | (with_reducible exact Nat.ne_of_gt hc9.2.2.2.2.2.2.2.1) | (with_reducible exact Nat.ne_of_lt hc9.2.2.2.2.2.2.2) | (with_reducible exact Nat.ne_of_gt hc9.2.2.2.2.2.2.2) | (with_reducible exact Nat.ne_of_lt hc9.2.2.2.2.2.2.2.2.1) | (with_reducible exact Nat.ne_of_gt hc9.2.2.2.2.2.2.2.2.1) | (with_reducible exact Nat.ne_of_lt hc9.2.2.2.2.2.2.2.2) | (with_reducible exact Nat.ne_of_gt hc9.2.2.2.2.2.2.2.2) | (with_reducible exact Nat.ne_of_lt hc9.2.2.2.2.2.2.2.2.2.1) | (with_reducible exact Nat.ne_of_gt hc9.2.2.2.2.2.2.2.2.2.1) | (with_reducible exact Nat.ne_of_lt hc9.2.2.2.2.2.2.2.2.2) | (with_reducible exact Nat.ne_of_gt hc9.2.2.2.2.2.2.2.2.2) | (with_reducible exact Nat.ne_of_lt hc9.2.2.2.2.2.2.2.2.2.2.1) | (with_reducible exact Nat.ne_of_gt hc9.2.2.2.2.2.2.2.2.2.2.1) | (with_reducible exact Nat.ne_of_lt hc9.2.2.2.2.2.2.2.2.2.2) | (with_reducible exact Nat.ne_of_gt hc9.2.2.2.2.2.2.2.2.2.2) | (with_reducible exact Nat.ne_of_lt hc9.2.2.2.2.2.2.2.2.2.2.2.1) | (with_reducible exact Nat.ne_of_gt hc9.2.2.2.2.2.2.2.2.2.2.2.1) | (with_reducible exact Nat.ne_of_lt hc9.2.2.2.2.2.2.2.2.2.2.2) | (with_reducible exact Nat.ne_of_gt hc9.2.2.2.2.2.2.2.2.2.2.2) | (with_reducible exact Nat.ne_of_lt hc9.2.2.2.2.2.2.2.2.2.2.2.2.1) | (with_reducible exact Nat.ne_of_gt hc9.2.2.2.2.2.2.2.2.2.2.2.2.1) | (with_reducible exact Nat.ne_of_lt hc9.2.2.2.2.2.2.2.2.2.2.2.2) | (with_reducible exact Nat.ne_of_gt hc9.2.2.2.2.2.2.2.2.2.2.2.2) | (with_reducible exact Nat.ne_of_lt hc9.2.2.2.2.2.2.2.2.2.2.2.2.2.1) | (with_reducible exact Nat.ne_of_gt hc9.2.2.2.2.2.2.2.2.2.2.2.2.2.1) | (with_reducible exact Nat.ne_of_lt hc9.2.2.2.2.2.2.2.2.2.2.2.2.2) | (with_reducible exact Nat.ne_of_gt hc9.2.2.2.2.2.2.2.2.2.2.2.2.2) | (clear hc9; k_extra "M nec")) | ((rename (_ ≠ _) ∧ _ => hc9); first | (with_reducible exact hc9.1) | (with_reducible exact Ne.symm hc9.1) | (with_reducible exact hc9) | (with_reducible exact Ne.symm hc9) | (with_reducible exact hc9.2.1) | (with_reducible exact Ne.symm hc9.2.1) | (with_reducible exact hc9.2) | (with_reducible exact Ne.symm hc9.2) | (with_reducible exact hc9.2.2.1) | (with_reducible exact Ne.symm hc9.2.2.1) | (with_reducible exact hc9.2.2) | (with_reducible exact Ne.symm hc9.2.2) | (with_reducible exact hc9.2.2.2.1) | (with_reducible exact Ne.symm hc9.2.2.2.1) | (with_reducible exact hc9.2.2.2) | (with_reducible exact Ne.symm hc9.2.2.2) | (with_reducible exact hc9.2.2.2.2.1) | (with_reducible exact Ne.symm hc9.2.2.2.2.1) | (with_reducible exact hc9.2.2.2.2) | (with_reducible exact Ne.symm hc9.2.2.2.2) | (with_reducible exact hc9.2.2.2.2.2.1) | (with_reducible exact Ne.symm hc9.2.2.2.2.2.1) | (with_reducible exact hc9.2.2.2.2.2) | (with_reducible exact Ne.symm hc9.2.2.2.2.2) | (with_reducible exact hc9.2.2.2.2.2.2.1) | (with_reducible exact Ne.symm hc9.2.2.2.2.2.2.1) | (with_reducible exact hc9.2.2.2.2.2.2) | (with_reducible exact Ne.symm hc9.2.2.2.2.2.2) | (with_reducible exact hc9.2.2.2.2.2.2.2.1) | (with_reducible exact Ne.symm hc9.2.2.2.2.2.2.2.1) | (with_reducible exact hc9.2.2.2.2.2.2.2) | (with_reducible exact Ne.symm hc9.2.2.2.2.2.2.2) | (with_reducible exact hc9.2.2.2.2.2.2.2.2.1) | (with_reducible exact Ne.symm hc9.2.2.2.2.2.2.2.2.1) | (with_reducible exact hc9.2.2.2.2.2.2.2.2) | (with_reducible exact Ne.symm hc9.2.2.2.2.2.2.2.2) | (with_reducible exact hc9.2.2.2.2.2.2.2.2.2.1) | (with_reducible exact Ne.symm hc9.2.2.2.2.2.2.2.2.2.1) | (with_reducible exact hc9.2.2.2.2.2.2.2.2.2) | (with_reducible exact Ne.symm hc9.2.2.2.2.2.2.2.2.2) | (with_reducible exact hc9.2.2.2.2.2.2.2.2.2.2.1) | (with_reducible exact Ne.symm hc9.2.2.2.2.2.2.2.2.2.2.1) | (with_reducible exact hc9.2.2.2.2.2.2.2.2.2.2) | (with_reducible exact Ne.symm hc9.2.2.2.2.2.2.2.2.2.2) | (with_reducible exact hc9.2.2.2.2.2.2.2.2.2.2.2.1) | (with_reducible exact Ne.symm hc9.2.2.2.2.2.2.2.2.2.2.2.1) | (with_reducible exact hc9.2.2.2.2.2.2.2.2.2.2.2) | (with_reducible exact Ne.symm hc9.2.2.2.2.2.2.2.2.2.2.2) | (with_reducible exact hc9.2.2.2.2.2.2.2.2.2.2.2.2.1) | (with_reducible exact Ne.symm hc9.2.2.2.2.2.2.2.2.2.2.2.2.1) | (with_reducible exact hc9.2.2.2.2.2.2.2.2.2.2.2.2) | (with_reducible exact Ne.symm hc9.2.2.2.2.2.2.2.2.2.2.2.2) | (with_reducible exact hc9.2.2.2.2.2.2.2.2.2.2.2.2.2.1) | (with_reducible exact Ne.symm hc9.2.2.2.2.2.2.2.2.2.2.2.2.2.1) | (with_reducible exact hc9.2.2.2.2.2.2.2.2.2.2.2.2.2) | (with_reducible exact Ne.symm hc9.2.2.2.2.2.2.2.2.2.2.2.2.2) | (clear hc9; k_extra "M nec")) | ((rename ((_ ≠ _) ∧ _) ∧ _ => hc9); first | (with_reducible exact hc9.1.1) | (with_reducible exact Ne.symm hc9.1.1) | (with_reducible exact hc9.1.2.1) | (with_reducible exact Ne.symm hc9.1.2.1) | (with_reducible exact hc9.1.2.2) | (with_reducible exact Ne.symm hc9.1.2.2) | (with_reducible exact hc9.1) | (with_reducible exact Ne.symm hc9.1) | (with_reducible exact hc9.2.1) | (with_reducible exact Ne.symm hc9.2.1) | (with_reducible exact hc9.2.2) | (with_reducible exact Ne.symm hc9.2.2) | (with_reducible exact hc9.2.1.1) | (with_reducible exact Ne.symm hc9.2.1.1) | (with_reducible exact hc9.2.1.2.1) | (with_reducible exact Ne.symm hc9.2.1.2.1) | (with_reducible exact hc9.2.1.2.2) | (with_reducible exact Ne.symm hc9.2.1.2.2) | (with_reducible exact hc9.2.2.1) | (with_reducible exact Ne.symm hc9.2.2.1) | (with_reducible exact hc9.2.2.2) | (with_reducible exact Ne.symm hc9.2.2.2) | (with_reducible exact hc9.2.2.1.1) | (with_reducible exact Ne.symm hc9.2.2.1.1) | (with_reducible exact hc9.2.2.1.2.1) | (with_reducible exact Ne.symm hc9.2.2.1.2.1) | (with_reducible exact hc9.2.2.1.2.2) | (with_reducible exact Ne.symm hc9.2.2.1.2.2) | (with_reducible exact hc9.2.2.2.1) | (with_reducible exact Ne.symm hc9.2.2.2.1) | (with_reducible exact hc9.2.2.2.2) | (with_reducible exact Ne.symm hc9.2.2.2.2) | (with_reducible exact hc9.2.2.2.1.1) | (with_reducible exact Ne.symm hc9.2.2.2.1.1) | (with_reducible exact hc9.2.2.2.1.2.1) | (with_reducible exact Ne.symm hc9.2.2.2.1.2.1) | (with_reducible exact hc9.2.2.2.1.2.2) | (with_reducible exact Ne.symm hc9.2.2.2.1.2.2) | (with_reducible exact hc9.2.2.2.2.1) | (with_reducible exact Ne.symm hc9.2.2.2.2.1) | (with_reducible exact hc9.2.2.2.2.2) | (with_reducible exact Ne.symm hc9.2.2.2.2.2) | (with_reducible exact hc9.2.2.2.2.1.1) | (with_reducible exact Ne.symm hc9.2.2.2.2.1.1) | (with_reducible exact hc9.2.2.2.2.1.2.1) | (with_reducible exact Ne.symm hc9.2.2.2.2.1.2.1) | (with_reducible exact hc9.2.2.2.2.1.2.2) | (with_reducible exact Ne.symm hc9.2.2.2.2.1.2.2) | (with_reducible exact hc9.2.2.2.2.2.1) | (with_reducible exact Ne.symm hc9.2.2.2.2.2.1) | (with_reducible exact hc9.2.2.2.2.2.2) | (with_reducible exact Ne.symm hc9.2.2.2.2.2.2) | (with_reducible exact hc9.2.2.2.2.2.1.1) | (with_reducible exact Ne.symm hc9.2.2.2.2.2.1.1) | (with_reducible exact hc9.2.2.2.2.2.1.2.1) | (with_reducible exact Ne.symm hc9.2.2.2.2.2.1.2.1) | (with_reducible exact hc9.2.2.2.2.2.1.2.2) | (with_reducible exact Ne.symm hc9.2.2.2.2.2.1.2.2) | (with_reducible exact hc9.2.2.2.2.2.2.1) | (with_reducible exact Ne.symm hc9.2.2.2.2.2.2.1) | (with_reducible exact hc9.2.2.2.2.2.2.2) | (with_reducible exact Ne.symm hc9.2.2.2.2.2.2.2) | (with_reducible exact hc9.2.2.2.2.2.2.1.1) | (with_reducible exact Ne.symm hc9.2.2.2.2.2.2.1.1) | (with_reducible exact hc9.2.2.2.2.2.2.1.2.1) | (with_reducible exact Ne.symm hc9.2.2.2.2.2.2.1.2.1) | (with_reducible exact hc9.2.2.2.2.2.2.1.2.2) | (with_reducible exact Ne.symm hc9.2.2.2.2.2.2.1.2.2) | (with_reducible exact hc9.2.2.2.2.2.2.2.1) | (with_reducible exact Ne.symm hc9.2.2.2.2.2.2.2.1) | (with_reducible exact hc9.2.2.2.2.2.2.2.2) | (with_reducible exact Ne.symm hc9.2.2.2.2.2.2.2.2) | (with_reducible exact hc9.2.2.2.2.2.2.2.1.1) | (with_reducible exact Ne.symm hc9.2.2.2.2.2.2.2.1.1) | (with_reducible exact hc9.2.2.2.2.2.2.2.1.2.1) | (with_reducible exact Ne.symm hc9.2.2.2.2.2.2.2.1.2.1) | (with_reducible exact hc9.2.2.2.2.2.2.2.1.2.2) | (with_reducible exact Ne.symm hc9.2.2.2.2.2.2.2.1.2.2) | (with_reducible exact hc9.2.2.2.2.2.2.2.2.1) | (with_reducible exact Ne.symm hc9.2.2.2.2.2.2.2.2.1) | (with_reducible exact hc9.2.2.2.2.2.2.2.2.2) | (with_reducible exact Ne.symm hc9.2.2.2.2.2.2.2.2.2) | (with_reducible exact hc9.2.2.2.2.2.2.2.2.1.1) | (with_reducible exact Ne.symm hc9.2.2.2.2.2.2.2.2.1.1) | (with_reducible exact hc9.2.2.2.2.2.2.2.2.1.2.1) | (with_reducible exact Ne.symm hc9.2.2.2.2.2.2.2.2.1.2.1) | (with_reducible exact hc9.2.2.2.2.2.2.2.2.1.2.2) | (with_reducible exact Ne.symm hc9.2.2.2.2.2.2.2.2.1.2.2) | (with_reducible exact hc9.2.2.2.2.2.2.2.2.2.1) | (with_reducible exact Ne.symm hc9.2.2.2.2.2.2.2.2.2.1) | (with_reducible exact hc9.2.2.2.2.2.2.2.2.2.2) | (with_reducible exact Ne.symm hc9.2.2.2.2.2.2.2.2.2.2) | (with_reducible exact hc9.2.2.2.2.2.2.2.2.2.1.1) | (with_reducible exact Ne.symm hc9.2.2.2.2.2.2.2.2.2.1.1) | (with_reducible exact hc9.2.2.2.2.2.2.2.2.2.1.2.1) | (with_reducible exact Ne.symm hc9.2.2.2.2.2.2.2.2.2.1.2.1) | (with_reducible exact hc9.2.2.2.2.2.2.2.2.2.1.2.2) | (with_reducible exact Ne.symm hc9.2.2.2.2.2.2.2.2.2.1.2.2) | (with_reducible exact hc9.2.2.2.2.2.2.2.2.2.2.1) | (with_reducible exact Ne.symm hc9.2.2.2.2.2.2.2.2.2.2.1) | (with_reducible exact hc9.2.2.2.2.2.2.2.2.2.2.2) | (with_reducible exact Ne.symm hc9.2.2.2.2.2.2.2.2.2.2.2) | (with_reducible exact hc9.2.2.2.2.2.2.2.2.2.2.1.1) | (with_reducible exact Ne.symm hc9.2.2.2.2.2.2.2.2.2.2.1.1) | (with_reducible exact hc9.2.2.2.2.2.2.2.2.2.2.1.2.1) | (with_reducible exact Ne.symm hc9.2.2.2.2.2.2.2.2.2.2.1.2.1) | (with_reducible exact hc9.2.2.2.2.2.2.2.2.2.2.1.2.2) | (with_reducible exact Ne.symm hc9.2.2.2.2.2.2.2.2.2.2.1.2.2) | (with_reducible exact hc9.2.2.2.2.2.2.2.2.2.2.2.1) | (with_reducible exact Ne.symm hc9.2.2.2.2.2.2.2.2.2.2.2.1) | (with_reducible exact hc9.2.2.2.2.2.2.2.2.2.2.2.2) | (with_reducible exact Ne.symm hc9.2.2.2.2.2.2.2.2.2.2.2.2) | (clear hc9; k_extra "M nec")))
  k_with "M enter" => ((refine' code_defG ?k1 ?k2 ?k3 ?k4 ?k5 ?kA ?kF ?kK ?k6 ?k7 ?k8 ?k9 ?kB ?_ ?c2 ?c3 ?c4 ?c5; (case kA => exact rfl); (case kF => exact rfl); (case kK => first | assumption | exact rfl); (case k1 => k_asm); (case k2 => k_asm); (case k3 => k_asm); (case k4 => k_asm); (case k5 => k_asm); (case k6 => k_is); (case k7 => k_is); (case k8 => ktr_room); (case k9 => exact BindsTo.of_eq rfl); (case c5 => decide); (case kB => exact locs rfl); (case c2 => exact rfl); (case c3 => exact rfl); (case c4 => exact rfl); k_whole; intro g' L' h' FG' F' N' B' X' T' kG'; (try dsimp only at F' N' kG' ⊢); (try k_fold)))
  k_with "M enterC" => ((refine' enterCells ?k1 ?k2 ?k3 ?k4 ?k5 ?kA ?kF ?kK ?k6 ?k7 ?k8 ?k9 ?kB ?kD ?_ ?c2 ?c3 ?c4; (case kA => exact rfl); (case kF => exact rfl); (case kK => first | assumption | exact rfl); (case k1 => k_asm); (case k2 => k_asm); (case k3 => k_asm); (case k4 => k_asm); (case k5 => k_asm); (case k6 => k_is); (case k7 => k_is); (case k8 => ktr_room); (case k9 => exact BindsTo.of_eq rfl); (case kB => exact rfl); (case kD => decide +kernel); (case c2 => exact rfl); (case c3 => exact rfl); (case c4 => exact rfl); k_whole; intro g' L' h' tk' cells' FG' F' N' Y' B' X' T' kG' l1 l2; (try k_lt l1); k_cells Y'; (try simp only [List.cons_append, List.nil_append] at N'); (try dsimp only at F' N' kG' ⊢); (try k_fold)))
  k_with "M sub" => ((first | exact List.forall_mem_nil _ | (refine List.forall_mem_cons.mpr ⟨?kms1, ?kms2⟩; (case kms1 => (intro hW; first | k_mem | (refine (hW ?_).elim; k_mem))); (case kms2 => k_extra "M sub"))))
  k_with "subscriptTail Name Constant ref int" => ((k_here; (with_reducible show wpAny _ _ (subscriptTail _ _ (Value.ref _) (Value.int _ _)) _ _ _); kim_at))
  k_with "call builtin:divmod" => ((k_here; (with_reducible show wpAny _ _ (call (Value.builtin _) [Value.int _ _, Value.int _ _]) _ _ _); k_dflt (refine' divmod_K ?k1 ?k2 ?k3 ?k4 ?_; (case k1 => k_asm); (case k2 => k_asm); (case k3 => omega); (case k4 => exact PyProof.noPylong_small (by omega)); k_whole); intro D' h' t1 t2 F' N' l1; (try k_lt l1); (try k_sweep)))
  k_with "call ref" => ((k_here; (with_reducible show wpAny _ _ (call (Value.ref 107) _ _) _ _ _); k_dflt (refine' draw_use ?k1 ?k2 ?k3 ?k4 ?k5 ?k6 ?k7 ?k8 ?b1 ?b2 ?b3 ?b4 ?b5 ?_; (case k1 => k_asm); (case k2 => k_asm); (case k3 => k_asm); (case k4 => k_asm); (case k5 => first | exact rfl | assumption); (case k6 => ktr_room); (case k7 => k_asm); (case k8 => k_updF); (case b1 => omega); (case b2 => omega); (case b3 => omega); (case b4 => omega); (case b5 => omega)); intro h' tk' n' c' t' u' k' d' td' K' F' N' b1 b2 b3 b4 b5; (try dsimp only at N'); (try k_sweep); (try k_fold)))
  k_with "call builtin:len" => ((k_here; (with_reducible show wpAny _ _ (call (Value.builtin "len") [Value.ref _]) _ _ _); k_dflt (first | (refine' len_tupA ?k1 ?k2 ?k3 ?_; (case k1 => k_asm); (case k2 => k_mem); (case k3 => omega)) | (refine' len_lstA ?k1 ?k2 ?k3 ?_; (case k1 => k_asm); (case k2 => k_mem); (case k3 => omega))); intro t' tk'; (try simp only [List.length_cons, List.length_nil])))
  k_with "subscriptTail Name Call ref int" => ((k_here; (with_reducible show wpAny _ _ (subscriptTail _ _ (Value.ref _) (Value.int _ _)) _ _ _); k_dflt (refine' tup_item_any ?k1 ?k2 ?k3 ?k4 ?k5 ?_ ?k6 ?k7; (case k1 => k_asm); (case k2 => k_mem); (case k3 => omega); (case k4 => omega); (case k5 => omega); (case k6 => with_unfolding_all rfl); (case k7 => (intro _; with_unfolding_all rfl))); intro x' hx' hxm'; (try k_fold)))
  k_with "call ref" => ((k_here; (with_reducible show wpAny _ _ (call (Value.ref 114) _ _) _ _ _); k_dflt (refine' pick_use ?k1 ?k2 ?k3 ?k4 ?k5 ?k6 ?k7 ?k8 ?k9 ?kA ?b1 ?b2 ?b3 ?b4 ?b5 ?_; (case k1 => k_asm); (case k2 => k_asm); (case k3 => k_asm); (case k4 => k_asm); (case k5 => first | exact rfl | assumption); (case k6 => ktr_room); (case k7 => k_asm); (case k8 => k_updF); (case k9 => k_mem); (case kA => (refine neN ?_; omega)); (case b1 => omega); (case b2 => omega); (case b3 => omega); (case b4 => (simp only [List.length_cons, List.length_nil]; omega)); (case b5 => (simp only [List.length_cons, List.length_nil]; omega))); intro h' tk' n' c' t' u' k' x' K' F' N' b1 b2 b3 b4; (try dsimp only at N'); (try k_sweep); (try k_fold)))
  k_with "binaryOp Mult ref int" => ((k_here; (with_reducible show wpAny _ _ (binaryOp Operator.Mult (Value.ref _) (Value.int _ _)) _ _ _); k_dflt (refine' tup_mul ?k1 ?k2 ?k3 ?k4 ?k5 ?_ ?_ ?_; (case k1 => k_asm); (case k2 => k_asm); (case k3 => k_mem); (case k4 => omega); (case k5 => omega)); (all_goals (intro hx9; (try (exfalso; omega; done)))); (all_goals (try (intro D' h' F' N' l1; (try k_lt l1); (try k_sweep)))); (all_goals (try k_unmd)); (all_goals (try k_fold))))
  k_with "subscriptTail Name Slice ref ref" => ((k_here; (with_reducible show wpAny _ _ (subscriptTail _ _ (Value.ref _) (Value.ref _)) _ _ _); k_dflt (refine' cut_tail ?k1 ?k2 ?k3 ?k4 ?_ ?_ ?k5 ?k6; (case k1 => k_asm); (case k2 => k_asm); (case k3 => k_mem); (case k4 => omega); (case k5 => with_unfolding_all rfl); (case k6 => (intro _; with_unfolding_all rfl))); (all_goals intro hx9); (all_goals (first | (intro D' h' F' N' l1; (try k_lt l1); (try k_sweep)) | (intro h' F' N'; (try k_sweep)))); (all_goals (try k_unmd)); (all_goals (try k_fold))))
  k_with "CompSrc" => ((k_here; k_dflt (refine LCg.CompSrc.range (by rfl) (by k_asm) (by k_asm) (by assumption) (by first | decide | rfl) (by first | rfl | decide) (by first | size_fits | exact Nat.le_of_ble_eq_true rfl) ?_; intro gc'; lcg_lit)))
  k_with "execs nil" => ((k_here; (with_reducible refine wpAny_execs_nil ?_)))
  k_with "eval ListComp" => ((k_here; lct_look; k_dflt (refine LCt.ListComp_T (F₀ := by k_asm) (by with_unfolding_all rfl) (by decide) (by rfl) (by decide) (by rfl) ?_)))
  k_with "M ints" => (first | exact IntsAre.nil | exact IntsAre.cons _ _ .nil | exact IntsAre.cons _ _ (.cons _ _ .nil) | exact IntsAre.cons _ _ (.cons _ _ (.cons _ _ .nil)) | assumption)
  k_with "call ref" => ((k_here; (with_reducible show wpAny _ _ (call (Value.ref 22) _ _) _ _ _); refine wpAny_call ?_; k_dflt (k_extra "M enter")))
  k_with "M test" => ((unfold TestEnd; refine ⟨?t1, _, _, rfl, ?t2, ?t3⟩; (case t1 => first | exact rfl | exact inR_lt (by omega) | exact inR_neg (by omega)); (case t2 => k_asm); (case t3 => k_asm)))
  k_with "compareOp Eq ref ref" => ((k_here; k_dflt (refine' eq_tup_nil ?k1 ?k2 ?k3 ?k4 ?_; (case k1 => k_asm); (case k2 => k_mem); (case k3 => k_mem); (case k4 => first | units_room | exact Nat.le_of_ble_eq_true rfl)); (try simp only [List.size_toArray, List.length_cons, List.length_nil])))
  k_with "call ref" => ((k_here; (with_reducible show wpAny _ _ (call (Value.ref 93) _ _) _ _ _); (try simp only [List.nil_append]); refine wpAny_call ?_; k_dflt (k_extra "M enter")))
  k_with "call ref" => ((k_here; (with_reducible show wpAny _ _ (call (Value.ref 126) _ _) _ _ _); refine wpAny_call ?_; k_dflt (k_extra "M enter")))
  k_with "compareOp NotIn int ref" => ((k_here; (with_reducible show wpAny _ _ (compareOp CmpOp.NotIn (Value.int _ _) (Value.ref _)) _ _ _); k_dflt (refine notin_range (by assumption) ?_)))
  k_with "eval ListComp" => ((k_here; lct_look; k_dflt (first | refine ListComp_Tup (iter := Expr.Subscript _ _ _) (_F := by k_asm) (by with_unfolding_all rfl) (by decide) (by rfl) (by decide) (by rfl) ?_ | refine LCt.ListComp_T (F₀ := by k_asm) (by with_unfolding_all rfl) (by decide) (by rfl) (by decide) (by rfl) ?_)))
  k_with "CompSrcU" => ((k_here; refine sealUOf ?_))
  k_with "subscriptTail Name Slice ref ref" => ((k_here; (with_reducible show wpAny _ _ (subscriptTail _ _ (Value.ref _) (Value.ref _)) _ _ _); k_dflt (refine' tail_from ?k1 ?k2 ?k3 ?k4 ?_ ?k5 ?k6; (case k1 => k_asm); (case k2 => k_asm); (case k3 => k_mem); (case k4 => (simp only [List.length_cons, List.length_nil]; omega)); (case k5 => with_unfolding_all rfl); (case k6 => (intro _; with_unfolding_all rfl))); intro D' h' F' N' l1; (try k_lt l1); (try k_sweep)))
  k_with "M strs6" => (first | exact List.forall_mem_nil _ | (refine List.forall_mem_cons.mpr ⟨⟨_, _, rfl⟩, ?_⟩; k_extra "M strs6"))
  k_with "compareOp NotIn int ref" => ((k_here; (with_reducible show wpAny _ _ (compareOp CmpOp.NotIn (Value.int _ _) (Value.ref _)) _ _ _); k_dflt (first | refine notin_range (by assumption) ?_ | (refine' notin_strs ?k1 ?k2 ?k3 ?_; (case k1 => k_asm); (case k2 => k_mem); (case k3 => k_extra "M strs6")))))
  k_with "call ref" => ((k_here; (with_reducible show wpAny _ _ (call (Value.ref 93) _) _ _ _); k_dflt (refine' parts_use ?k1 ?k2 ?k3 ?k4 ?k5 ?k6 ?k7 ?_; (case k1 => k_asm); (case k2 => k_asm); (case k3 => k_asm); (case k4 => k_asm); (case k5 => first | exact rfl | assumption); (case k6 => ktr_room); (case k7 => k_asm)); (iterate 4 intro _); (iterate 26 intro _); intro KP F' N' lo' hd' hf'; (try k_sweep); (try k_fold)))
  k_with "M memt" => (first | (with_reducible assumption) | ((with_reducible refine List.mem_cons_of_mem _ ?_); k_extra "M memt"))
  k_with "M subv" => (first | exact List.forall_mem_nil _ | ((with_reducible refine List.forall_mem_cons.mpr ⟨?kms1, ?kms2⟩); (case kms1 => k_mem); (case kms2 => k_extra "M subv")) | (intro p8 hp8; k_extra "M memt"))
  k_with "M sub" => ((first | exact List.forall_mem_nil _ | (refine List.forall_mem_cons.mpr ⟨?kms1, ?kms2⟩; (case kms1 => (intro hW; first | k_mem | (refine (hW ?_).elim; k_mem))); (case kms2 => k_extra "M sub")) | (intro p8 hp8 hW8; k_extra "M memt")))
  k_with "M size" => (first | exact size_few (by first | omega | (simp only [List.length_append, List.length_cons, List.length_nil]; omega)) | size_fits)
  k_with "call builtin:list.append" => ((k_here; (with_reducible show wpAny _ _ (call (Value.builtin _) [Value.ref _, _]) _ _ _); k_dflt (refine' append_K ?k1 ?k2 ?k3 ?_ ?z; (case k1 => k_asm); (case k2 => k_asm); (case k3 => k_upd); (case z => k_extra "M size")); intro h' F' N'; (try k_sweep)))
  exact True.intro
section
variable {M : Model} {A : Around} {E : Value → Shared → Prop} {s : Shared} {h₀ : Heap} {L a : Addr} {m : Str → Option Value} {name : Str} {scope : Scope} {cd : Value}
  {x : Str} {v : Value} {news : List (Addr × Obj)} {g : Obj → List (Addr × Obj)} {c : Addr} {o : Obj} {v₀ : Option Value}
end
theorem News.neData {h₀ h : Heap} {L : Addr} {news : List (Addr × Obj)} {a b : Addr} {o o' : Obj} {v : Option Value} (N : News h₀ L h news) (h1 : (a, o) ∈ news) (h2 : (b, o') ∈ news) (hb : o'.data = .cell v) (ha : ∀ v, o.data ≠ .cell v) : a ≠ b := by
  rintro rfl
  have e := (N _ h1).1
  rw [(N _ h2).1] at e
  cases e
  exact ha _ hb

/-! the comprehension of ops -/
theorem arg_led {P : Addr → Obj → Prop} {v : Value} {x : Arg} (h : ArgIs P v x) : ∃ E : List (Addr × Obj), ArgIs (fun a o => (a, o) ∈ E) v x ∧ (∀ p ∈ E, P p.1 p.2) ∧ ∀ p ∈ E, p.2.cls = .type "tuple" := by
  cases h with
  | int => exact ⟨[], .int, (fun _ h => nomatch h), fun _ h => nomatch h⟩
  | str => exact ⟨[], .str, (fun _ h => nomatch h), fun _ h => nomatch h⟩
  | any => exact ⟨[], .any, (fun _ h => nomatch h), fun _ h => nomatch h⟩
  | labs e i => exact ⟨[(_, _)], .labs (.head _) i, (fun p hp => by rw [List.mem_singleton.mp hp]; exact e), fun p hp => by rw [List.mem_singleton.mp hp]⟩
theorem op_led {P : Addr → Obj → Prop} {v : Value} {o : Op} (h : OpIs P v o) : ∃ E : List (Addr × Obj), OpIs (fun a o => (a, o) ∈ E) v o ∧ (∀ p ∈ E, P p.1 p.2) ∧ ∀ p ∈ E, p.2.cls = .type "tuple" := by
  have one : ∀ {a : Addr} {us : List Value} {E : List (Addr × Obj)}, P a (tupOf us) → (∀ p ∈ E, P p.1 p.2) → (∀ p ∈ E, p.2.cls = .type "tuple") → (∀ p ∈ (a, tupOf us) :: E, P p.1 p.2) ∧ ∀ p ∈ (a, tupOf us) :: E, p.2.cls = .type "tuple" := fun e h1 h2 =>
    ⟨fun p hp => by
      rcases List.mem_cons.mp hp with rfl | hp
      · exact e
      · exact h1 p hp, fun p hp => by
      rcases List.mem_cons.mp hp with rfl | hp
      · rfl
      · exact h2 p hp⟩
  cases h with
  | e0 e => exact ⟨_, .e0 (.head _), one (E := []) e (fun _ h => nomatch h) fun _ h => nomatch h⟩
  | e1 e => exact ⟨_, .e1 (.head _), one (E := []) e (fun _ h => nomatch h) fun _ h => nomatch h⟩
  | e4 e => exact ⟨_, .e4 (.head _), one (E := []) e (fun _ h => nomatch h) fun _ h => nomatch h⟩
  | e2 e i =>
    obtain ⟨E, h1, h2, h3⟩ := arg_led i
    exact ⟨_, .e2 (.head _) (h1.mono fun _ _ h => .tail _ h), one e h2 h3⟩
  | e3 e i j =>
    obtain ⟨E, h1, h2, h3⟩ := arg_led i
    obtain ⟨E', h1', h2', h3'⟩ := arg_led j
    refine ⟨_, .e3 (.head _) (h1.mono fun _ _ h => .tail _ (List.mem_append_left E' h)) (h1'.mono fun _ _ h => .tail _ (List.mem_append_right E h)), one e (fun p hp => ?_) fun p hp => ?_⟩
    · exact (List.mem_append.mp hp).elim (h2 p) (h2' p)
    · exact (List.mem_append.mp hp).elim (h3 p) (h3' p)
theorem OpsAre.snoc {P : Addr → Obj → Prop} {v : Value} {o : Op} {vs : List Value} {os : List Op} (h : OpsAre P vs os) (e : OpIs P v o) (w : o.WF) : OpsAre P (vs ++ [v]) (os ++ [o]) := by
  induction h with
  | nil => exact .cons e w .nil
  | cons e' w' _ ih => exact .cons e' w' ih
/-- the end of an element: an op -/
noncomputable def OpEnd (h₀ : Heap) (L : Addr) (m : Str → Option Value) (P : Addr) (c : Int) (s : Shared) (y : Value) (s' : Shared) : Prop :=
  ∃ h' tk' n' c' t' u' k' o, s' = { s with heap := h', toks := tk' } ∧ KeepBut [P] s.heap h' ∧ h'.get? P = some (penObj n' c' t' u' k') ∧ 0 ≤ n' ∧ c ≤ c' ∧ c' ≤ c + 10 ∧ OpIs (fun a o => NewAt h₀ L h' a o ∧ s.heap.get? a = none) y o ∧ o.WF
section
open LCg
variable {prog : Program} {w : World} {A : Around} {E : Value → Shared → Prop} {s : Shared} {h₀ : Heap} {L : Addr} {m : Str → Option Value} {env : Env}
theorem comp_ops {elt : Expr} {x : Str} {scope : Scope} {cl : List (Str × Addr)} {Fin : Shared → List Value → List (Addr × Obj) → Prop} {r P : Addr} {n : Nat} {t u v : Tok} {t1 u1 : Tok} {n0 c0 : Int} {k0 : Nat} {rest : List (Addr × Obj)} {s₁ : Shared}
    (hh : A.handled = none) (F : Fr h₀ L s₁.heap m) (N : News h₀ L s₁.heap ((P, penObj n0 c0 t1 u1 k0) :: rest)) {b : Int} (hr : IsRange s₁.heap r 0 b 1 t u v) (hb : b = (n : Int)) (hz : n < 80)
    (hn0 : 0 ≤ n0) (hc0 : 0 ≤ c0) (hcb : c0 ≤ 50)
    (hP : ∀ p ∈ rest, p.1 ≠ P)
    (step : ∀ n1 c1 t1 u1 k1 I oI C oC D ys R m₂ h tk (E' : Value → Shared → Prop), 0 ≤ n1 → 0 ≤ c1 → c1 < 900 → NsObj oC m₂ → Fr h₀ L h m → News h₀ L h ((I, oI) :: (C, oC) :: (D, lst ys) :: (P, penObj n1 c1 t1 u1 k1) :: (rest ++ R)) →
      wpAny (model prog w) A (eval elt (compEnvC scope cl C env)) (OpEnd h₀ L m P c1 { s₁ with heap := h, toks := tk }) E' { s₁ with heap := h, toks := tk })
    (fin : ∀ g n1 c1 t1 u1 k1 ys os R, 0 ≤ n1 → 0 ≤ c1 → c1 ≤ c0 + 10 * n → OpsAre (fun a o => (a, o) ∈ R) ys os → ys.length = n → (∀ p ∈ R, p.2.cls = .type "tuple") → Fin { s₁ with heap := g } ys ((P, penObj n1 c1 t1 u1 k1) :: (rest ++ R))) :
    CompSrc prog w A h₀ L m env elt x scope cl Fin (.ref r) s₁ := by
  subst hb
  refine CompSrc.range hh F N hr (small_few (by omega)) (size_range n) (by rw [sizeLine_eq]; omega) fun g => ?_
  refine comp_ind n (fun i ys news => ∃ n1 c1 t1 u1 k1 os R, news = (P, penObj n1 c1 t1 u1 k1) :: (rest ++ R) ∧ 0 ≤ n1 ∧ 0 ≤ c1 ∧ c1 ≤ c0 + 10 * i ∧ OpsAre (fun a o => (a, o) ∈ R) ys os ∧ ys.length = i ∧ (∀ p ∈ R, p.2.cls = .type "tuple")) ?_ (fun ys news ⟨n1, c1, t1, u1, k1, os, R, e, a1, a2, a3, a4, a5, a6⟩ => e ▸ fin g n1 c1 t1 u1 k1 ys os R a1 a2 a3 a4 a5 a6) n 0 [] _ (by omega) ⟨n0, c0, t1, u1, k0, [], [], by simp, hn0, hc0, by omega, .nil, rfl, fun _ h => nomatch h⟩
  rintro i v ys news I oI C oC D m₂ h tk E' hi hv ⟨n1, c1, t1, u1, k1, os, R, rfl, a1, a2, a3, a4, a5, a6⟩ hC hx F' N' off ne
  refine wpAny_mono (step n1 c1 t1 u1 k1 I oI C oC D ys R m₂ h tk E' a1 a2 (by omega) hC F' N') (fun y s' q => ?_) fun _ _ e => e
  obtain ⟨h', tk', n', c', t', u', k', o, rfl, K, e, b1, b2, b3, hO, hw⟩ := q
  obtain ⟨El, e1, e2, e3⟩ := op_led hO
  have fresh : ∀ {b : Addr} {ob : Obj}, (b, ob) ∈ (I, oI) :: (C, oC) :: (D, lst ys) :: (P, penObj n1 c1 t1 u1 k1) :: (rest ++ R) → ∀ p ∈ El, p.1 ≠ b := fun hb p hp q => by
    have := (e2 p hp).2
    rw [q] at this
    have h2 : h.get? _ = none := this
    rw [(N' _ hb).1] at h2
    cases h2
  have offm := fun p hp => off.mem p hp
  have hRP : ∀ p ∈ R, p.1 ≠ P := fun p hp q => by
    have h1 := (N' (P, penObj n1 c1 t1 u1 k1) (.tail _ (.tail _ (.tail _ (.head _))))).1
    have h2 := (N' p (.tail _ (.tail _ (.tail _ (.tail _ (List.mem_append_right _ hp)))))).1
    rw [q, h1] at h2
    have h3 := a6 p hp
    rw [← Option.some.inj h2] at h3
    exact absurd h3 (show (Value.type "list") ≠ Value.type "tuple" by decide)
  have nI := (offm _ (.head _)).1
  have nC := (offm _ (.head _)).2.1
  have nD := (offm _ (.head _)).2.2
  have keep : ∀ p ∈ (I, oI) :: (C, oC) :: (D, lst ys) :: (rest ++ R), NewAt h₀ L h' p.1 p.2 := fun p hp => by
    have hne : p.1 ≠ P := by
      rcases List.mem_cons.mp hp with rfl | hp
      · exact Ne.symm nI
      rcases List.mem_cons.mp hp with rfl | hp
      · exact Ne.symm nC
      rcases List.mem_cons.mp hp with rfl | hp
      · exact Ne.symm nD
      rcases List.mem_append.mp hp with hp | hp
      · exact hP p hp
      · exact hRP p hp
    have hin : p ∈ (I, oI) :: (C, oC) :: (D, lst ys) :: (P, penObj n1 c1 t1 u1 k1) :: (rest ++ R) := by
      rcases List.mem_cons.mp hp with rfl | hp
      · exact .head _
      rcases List.mem_cons.mp hp with rfl | hp
      · exact .tail _ (.head _)
      rcases List.mem_cons.mp hp with rfl | hp
      · exact .tail _ (.tail _ (.head _))
      · exact .tail _ (.tail _ (.tail _ (.tail _ hp)))
    exact ⟨K _ _ (fun hm => hne (List.mem_singleton.mp hm)) (N' p hin).1, (N' p hin).2⟩
  have hPn := N' (P, penObj n1 c1 t1 u1 k1) (.tail _ (.tail _ (.tail _ (.head _))))
  refine ⟨h', tk', (P, penObj n' c' t' u' k') :: (rest ++ (R ++ El)), rfl, fr_keep1 F' N' (.tail _ (.tail _ (.tail _ (.head _)))) K, fun p hp => ?_, Off3.of fun p hp => ?_, trivial, n', c', t', u', k', os ++ [o], R ++ El, rfl, b1, by omega, by omega, (a4.mono fun _ _ h => List.mem_append_left _ h).snoc (e1.mono fun _ _ h => List.mem_append_right _ h) hw, by simp [a5], fun p hp => ?_⟩
  · rcases List.mem_cons.mp hp with rfl | hp
    · exact keep _ (.head _)
    rcases List.mem_cons.mp hp with rfl | hp
    · exact keep _ (.tail _ (.head _))
    rcases List.mem_cons.mp hp with rfl | hp
    · exact keep _ (.tail _ (.tail _ (.head _)))
    rcases List.mem_cons.mp hp with rfl | hp
    · exact ⟨e, hPn.2⟩
    rw [← List.append_assoc] at hp
    rcases List.mem_append.mp hp with hp | hp
    · exact keep _ (.tail _ (.tail _ (.tail _ hp)))
    · exact (e2 p hp).1
  · rcases List.mem_cons.mp hp with rfl | hp
    · exact ⟨nI, nC, nD⟩
    rw [← List.append_assoc] at hp
    rcases List.mem_append.mp hp with hp | hp
    · exact offm p (.tail _ hp)
    · exact ⟨fresh (.head _) p hp, fresh (.tail _ (.head _)) p hp, fresh (.tail _ (.tail _ (.head _))) p hp⟩
  · exact (List.mem_append.mp hp).elim (a6 p) (e3 p)
end
/-- the end of an element: a drawn number -/
noncomputable def DrawEnd (P : Addr) (c : Int) (s : Shared) (y : Value) (s' : Shared) : Prop :=
  ∃ h' tk' n' c' t' u' k' z tz, y = .int z tz ∧ s' = { s with heap := h', toks := tk' } ∧ KeepBut [P] s.heap h' ∧ h'.get? P = some (penObj n' c' t' u' k') ∧ 0 ≤ n' ∧ c ≤ c' ∧ c' ≤ c + 1
section
open LCg
variable {prog : Program} {w : World} {A : Around} {E : Value → Shared → Prop} {s : Shared} {h₀ : Heap} {L : Addr} {m : Str → Option Value} {env : Env}
theorem comp_draws {elt : Expr} {x : Str} {scope : Scope} {cl : List (Str × Addr)} {Fin : Shared → List Value → List (Addr × Obj) → Prop} {r P : Addr} {n : Nat} {t u v : Tok} {t1 u1 : Tok} {n0 c0 : Int} {k0 : Nat} {rest : List (Addr × Obj)} {s₁ : Shared}
    (hh : A.handled = none) (F : Fr h₀ L s₁.heap m) (N : News h₀ L s₁.heap ((P, penObj n0 c0 t1 u1 k0) :: rest)) {b : Int} (hr : IsRange s₁.heap r 0 b 1 t u v) (hb : b = (n : Int)) (hz : n < 80)
    (hn0 : 0 ≤ n0) (hc0 : 0 ≤ c0) (hcb : c0 ≤ 500)
    (hP : ∀ p ∈ rest, p.1 ≠ P)
    (step : ∀ n1 c1 t1 u1 k1 I oI C oC D ys m₂ h tk (E' : Value → Shared → Prop), 0 ≤ n1 → 0 ≤ c1 → c1 < 900 → NsObj oC m₂ → Fr h₀ L h m → News h₀ L h ((I, oI) :: (C, oC) :: (D, lst ys) :: (P, penObj n1 c1 t1 u1 k1) :: rest) →
      wpAny (model prog w) A (eval elt (compEnvC scope cl C env)) (DrawEnd P c1 { s₁ with heap := h, toks := tk }) E' { s₁ with heap := h, toks := tk })
    (fin : ∀ g n1 c1 t1 u1 k1 ys ks, 0 ≤ n1 → 0 ≤ c1 → c1 ≤ c0 + n → IntsAre ys ks → ys.length = n → Fin { s₁ with heap := g } ys ((P, penObj n1 c1 t1 u1 k1) :: rest)) :
    CompSrc prog w A h₀ L m env elt x scope cl Fin (.ref r) s₁ := by
  subst hb
  refine CompSrc.range hh F N hr (small_few (by omega)) (size_range n) (by rw [sizeLine_eq]; omega) fun g => ?_
  refine comp_ind n (fun i ys news => ∃ n1 c1 t1 u1 k1 ks, news = (P, penObj n1 c1 t1 u1 k1) :: rest ∧ 0 ≤ n1 ∧ 0 ≤ c1 ∧ c1 ≤ c0 + i ∧ IntsAre ys ks ∧ ys.length = i) ?_ (fun ys news ⟨n1, c1, t1, u1, k1, ks, e, a1, a2, a3, a4, a5⟩ => e ▸ fin g n1 c1 t1 u1 k1 ys ks a1 a2 a3 a4 a5) n 0 [] _ (by omega) ⟨n0, c0, t1, u1, k0, [], rfl, hn0, hc0, by omega, .nil, rfl⟩
  rintro i v ys news I oI C oC D m₂ h tk E' hi hv ⟨n1, c1, t1, u1, k1, ks, rfl, a1, a2, a3, a4, a5⟩ hC hx F' N' off ne
  refine wpAny_mono (step n1 c1 t1 u1 k1 I oI C oC D ys m₂ h tk E' a1 a2 (by omega) hC F' N') (fun y s' q => ?_) fun _ _ e => e
  obtain ⟨h', tk', n', c', t', u', k', z, tz, rfl, rfl, K, e, b1, b2, b3⟩ := q
  have offm := fun p hp => off.mem p hp
  have nI := (offm _ (.head _)).1
  have nC := (offm _ (.head _)).2.1
  have nD := (offm _ (.head _)).2.2
  have hPn := N' (P, penObj n1 c1 t1 u1 k1) (.tail _ (.tail _ (.tail _ (.head _))))
  have keep : ∀ p, p ∈ (I, oI) :: (C, oC) :: (D, lst ys) :: (P, penObj n1 c1 t1 u1 k1) :: rest → p.1 ≠ P → NewAt h₀ L h' p.1 p.2 := fun p hp hne =>
    ⟨K _ _ (fun hm => hne (List.mem_singleton.mp hm)) (N' p hp).1, (N' p hp).2⟩
  refine ⟨h', tk', (P, penObj n' c' t' u' k') :: rest, rfl, fr_keep1 F' N' (.tail _ (.tail _ (.tail _ (.head _)))) K, fun p hp => ?_, Off3.of fun p hp => ?_, trivial, n', c', t', u', k', ks ++ [z], rfl, b1, by omega, by omega, a4.append (.cons z tz .nil), by simp [a5]⟩
  · rcases List.mem_cons.mp hp with rfl | hp
    · exact keep _ (.head _) (Ne.symm nI)
    rcases List.mem_cons.mp hp with rfl | hp
    · exact keep _ (.tail _ (.head _)) (Ne.symm nC)
    rcases List.mem_cons.mp hp with rfl | hp
    · exact keep _ (.tail _ (.tail _ (.head _))) (Ne.symm nD)
    rcases List.mem_cons.mp hp with rfl | hp
    · exact ⟨e, hPn.2⟩
    · exact keep _ (.tail _ (.tail _ (.tail _ (.tail _ hp)))) (hP p hp)
  · rcases List.mem_cons.mp hp with rfl | hp
    · exact ⟨nI, nC, nD⟩
    · exact offm p (.tail _ hp)
end
theorem News.swap {h₀ h : Heap} {L : Addr} {p q : Addr × Obj} {r : List (Addr × Obj)} (N : News h₀ L h (p :: q :: r)) : News h₀ L h (q :: p :: r) := fun x hx => by
  rcases List.mem_cons.mp hx with rfl | hx
  · exact N _ (.tail _ (.head _))
  rcases List.mem_cons.mp hx with rfl | hx
  · exact N _ (.head _)
  · exact N _ (.tail _ (.tail _ hx))
theorem nat7 {d : Int} (h7 : d < 7) (h0 : 0 ≤ d) : ∃ n : Nat, d = n ∧ n < 7 := ⟨d.toNat, by omega, by omega⟩
theorem nat3 {d : Int} (h7 : d < 3) (h0 : 0 ≤ d) : ∃ n : Nat, d = n ∧ n < 3 := ⟨d.toNat, by omega, by omega⟩

/-! enumerate over a tuple: a comprehension with a test and a loop -/
section
variable {prog : Program} {w : World} {A : Around} {E : Value → Shared → Prop} {s : Shared}
theorem nextOf_tup_item {it t : Addr} {i : Nat} {items} {x : Value} {Q : Value → Shared → Prop} (hit : IsTupIter s.heap it t i)
    (hl : IsTup s.heap t items) (hx : items[i]? = some x)
    (hQ : ∀ h', IsTupIter h' it t (i + 1) → Heap.SameBut it s.heap h' → Q x { s with heap := h' }) :
    wpAny (model prog w) A (Builtin.SmallTypes.nextOf (.ref it)) Q E s := by
  obtain ⟨o, ho, hc, hd⟩ := id hit
  obtain ⟨ol, hol, _, nl, hdl⟩ := hl
  unfold Builtin.SmallTypes.nextOf
  refine wpAny_bind (wpAny_callSpecial?_slot (name := Str.ofString "__next__") hit.typeIs slot_tupleiter_next
    (wpAny_call_entry slot_tupleiter_next hit.typeIs entry_tupleiter_next ?_ (args_tupleiter_next _)))
  show wpAny _ _ (field (.ref it) 0 >>= _) _ _ s
  refine wpAny_bind (wpAny_field ho hd (x := .ref t) rfl ?_)
  show wpAny _ _ (if (Value.ref t == Value.none) = true then _ else _) _ _ s
  rw [if_neg (show ¬ ((Value.ref t == Value.none) = true) from Bool.false_ne_true)]
  show wpAny _ _ (field (.ref it) 1 >>= _) _ _ s
  refine wpAny_bind (wpAny_field ho hd (x := .int i 0) rfl ?_)
  show wpAny _ _ (seqItems? (.ref t) >>= _) _ _ s
  refine wpAny_bind (wpAny_seqItems hol hdl ?_)
  simp only [Int.toNat_natCast, hx]
  refine wpAny_bind (wpAny_setField ho hd (by simp) (wpAny_pure ⟨x, rfl, wpAny_pure (hQ _ ?_ (Heap.SameBut.update ..))⟩))
  exact ⟨_, Heap.get?_update_self _ ho (Obj.isFreed_of_fields (Obj.data_mapFields hd _)), (Obj.cls_mapFields ..).trans hc, by
    rw [Obj.data_mapFields hd]; simp [rawInt]⟩
theorem nextOf_tup_end {it t : Addr} {i : Nat} {items} {Q : Value → Shared → Prop} (hh : A.handled = none)
    (hit : IsTupIter s.heap it t i) (hl : IsTup s.heap t items) (hx : items[i]? = none)
    (hE : ∀ h' e, Heap.ExtBut it s.heap h' → (∃ o, h'.get? e = some o ∧ o.cls = .type "StopIteration") → E (.ref e) { s with heap := h' }) :
    wpAny (model prog w) A (Builtin.SmallTypes.nextOf (.ref it)) Q E s := by
  obtain ⟨o, ho, hc, hd⟩ := id hit
  obtain ⟨ol, hol, _, nl, hdl⟩ := hl
  unfold Builtin.SmallTypes.nextOf
  refine wpAny_bind (wpAny_callSpecial?_slot (name := Str.ofString "__next__") hit.typeIs slot_tupleiter_next
    (wpAny_call_entry slot_tupleiter_next hit.typeIs entry_tupleiter_next ?_ (args_tupleiter_next _)))
  show wpAny _ _ (field (.ref it) 0 >>= _) _ _ s
  refine wpAny_bind (wpAny_field ho hd (x := .ref t) rfl ?_)
  show wpAny _ _ (if (Value.ref t == Value.none) = true then _ else _) _ _ s
  rw [if_neg (show ¬ ((Value.ref t == Value.none) = true) from Bool.false_ne_true)]
  show wpAny _ _ (field (.ref it) 1 >>= _) _ _ s
  refine wpAny_bind (wpAny_field ho hd (x := .int i 0) rfl ?_)
  show wpAny _ _ (seqItems? (.ref t) >>= _) _ _ s
  refine wpAny_bind (wpAny_seqItems hol hdl ?_)
  simp only [Int.toNat_natCast, hx]
  refine wpAny_bind (wpAny_rule (wpAny_bind (wpAny_setField ho hd (by simp) ?_)))
  show wpAny _ _ (newExc (.type "StopIteration") [] >>= _) _ _ _
  refine wpAny_bind ?_
  simp only [newExc, newTuple]
  refine wpAny_bind (wpAny_newObj_type ?_ (by size_fits))
  refine wpAny_bind (m := firstArgMember _ _) (wpAny_of_eq (a := Value.none) (by first | rfl | (simp only [firstArgMember]; rfl)) ?_)
  refine wpAny_newObj_type ?_ (by size_fits)
  simp only [raiseNew]
  refine wpAny_bind (wpAny_handled ?_)
  first | rw [show A.in1.handled = none from hh] | rw [hh]
  refine wpAny_bind (wpAny_pure (wpAny_throw ?_))
  exact hE _ _ (((Heap.SameBut.update ..).extBut.push _).push _) ⟨_, Heap.get?_push_size _ rfl, rfl⟩
theorem tup_at9 {h h' : Heap} {a : Addr} {items} (x : IsTup h a items) (hk : ∀ o, h.get? a = some o → h'.get? a = some o) : IsTup h' a items := let ⟨o, ho, r⟩ := x; ⟨o, hk o ho, r⟩
theorem tupIter_at9 {h h' : Heap} {a t : Addr} {i : Nat} (x : IsTupIter h a t i) (hk : ∀ o, h.get? a = some o → h'.get? a = some o) : IsTupIter h' a t i := let ⟨o, ho, r⟩ := x; ⟨o, hk o ho, r⟩
theorem draws_tup {prog : Program} {w : World} {A : Around} (hh : A.handled = none) (it t : Addr) (hne : t ≠ it) (items : Array Value) :
    Draws prog w A it [it, t] items.size (fun i v => items[i]? = some v) (fun i h => IsTupIter h it t i ∧ IsTup h t items) where
  live := fun _ _ st => let ⟨o, ho, _⟩ := st.1; ⟨o, ho⟩
  frame := fun _ _ _ st hk => ⟨tupIter_at9 st.1 fun o e => hk it (by simp) o e, tup_at9 st.2 fun o e => hk t (by simp) o e⟩
  item := fun i s Q E hi st hQ => by
    refine nextOf_tup_item st.1 st.2 (x := items[i]) (by simp [hi]) fun h' hit' hs' => ?_
    exact hQ _ h' s.toks (by simp [hi]) ⟨hit', st.2.extBut hs'.extBut hne⟩ hs'
  done := fun s Q E st hE => nextOf_tup_end hh st.1 st.2 (by simp) hE
theorem enum_newT (l : Addr) (items : Array Value) :
    Meets (Builtin.«enumerate.__new__» ⟨[.type "enumerate", .ref l], []⟩) (fun _ R s => IsTup s.heap l items ∧
      R (.ok (.ret (.ref (s.heap.push { cls := .type "tuple_iterator", data := .fields #[.ref l, .int 0 0] }).objs.size)))
        { s with heap := (s.heap.push { cls := .type "tuple_iterator", data := .fields #[.ref l, .int 0 0] }).push { cls := .type "enumerate", data := .fields #[.none, .bool false, .ref s.heap.objs.size, rawInt 0, .none, .none] } }) :=
  .of_wp fun prog w A R s h => by
    obtain ⟨hp, g, d, tk, os⟩ := s; obtain ⟨hl, h⟩ := h
    have hsub := sub_enumerate
    have hL : IsTup (Shared.heap ⟨hp, g, d, tk, os⟩) l items := hl
    wp_walk
    refine wpAny_stack_any fun st => wpAny_pure ?_
    split
    · rename_i c _ _ _ _ _
      cases (c == Value.type "enumerate")
      · wp_walk using iter_tuple hL
        exact ⟨_, rfl, h⟩
      · wp_walk using iter_tuple hL
        exact ⟨_, rfl, h⟩
    · wp_walk using iter_tuple hL
      exact ⟨_, rfl, h⟩
theorem call_enum_tup {l : Addr} {items : Array Value} {Q : Value → Shared → Prop} (hL : IsTup s.heap l items)
    (h : ∀ h', IsEnum h' (s.heap.objs.size + 1) s.heap.objs.size 0 .none → IsTupIter h' s.heap.objs.size l 0 → h'.objs.size = s.heap.objs.size + 2 →
      (∀ b o, s.heap.get? b = some o → h'.get? b = some o) → Q (.ref (s.heap.objs.size + 1)) { s with heap := h' }) :
    wpAny (model prog w) A (call (.type "enumerate") [.ref l]) Q E s := by
  refine callType_new F.called_enumerate (by decide) (F.typeCall_enumerate_1 _) (F.newCall_enumerate_1 _) (fun obj => F.args_object_init_2 obj _) F.entry_enumerate_new
    (enum_newT l items) ⟨hL, ?_⟩
  have hz : (s.heap.push { cls := .type "tuple_iterator", data := .fields #[.ref l, .int 0 0] }).objs.size = s.heap.objs.size + 1 := Heap.size_push ..
  show _ ∧ _
  rw [hz]
  have he : IsEnum ((s.heap.push { cls := .type "tuple_iterator", data := .fields #[.ref l, .int 0 0] }).push
      { cls := .type "enumerate", data := .fields #[.none, .bool false, .ref s.heap.objs.size, rawInt 0, .none, .none] }) (s.heap.objs.size + 1) s.heap.objs.size 0 .none := by
    have := Heap.get?_push_size (s.heap.push { cls := .type "tuple_iterator", data := .fields #[.ref l, .int 0 0] })
      (o := { cls := .type "enumerate", data := .fields #[.none, .bool false, .ref s.heap.objs.size, rawInt 0, .none, .none] }) rfl
    rw [hz] at this; exact this
  refine ⟨⟨_, he, rfl⟩, h _ he ⟨_, Heap.get?_push_of_some _ (Heap.get?_push_size _ rfl), rfl, rfl⟩ (by rw [Heap.size_push, hz]) fun b o x => Heap.get?_push_of_some _ (Heap.get?_push_of_some _ x)⟩
end
section
open LCg
variable {prog : Program} {w : World} {A : Around} {E : Value → Shared → Prop} {s : Shared} {h₀ : Heap} {L : Addr} {m : Str → Option Value} {env : Env}
/-- the end of a turn of a comprehension: what is fixed stands, the rest is as J says -/
noncomputable def TurnEnd (h₀ : Heap) (L : Addr) (m : Str → Option Value) (fix : List (Addr × Obj)) (J : List (Addr × Obj) → Prop) (s₁ s₂ : Shared) : Prop :=
  ∃ h' tk nw, s₂ = { s₁ with heap := h', toks := tk } ∧ Fr h₀ L h' m ∧ News h₀ L h' (fix ++ nw) ∧ (∀ p ∈ nw, ∀ q ∈ fix, p.1 ≠ q.1) ∧ J nw
noncomputable abbrev fix4 (e : Addr) (oE : Obj) (it : Addr) (oI : Obj) (C : Addr) (oC : Obj) (D : Addr) (ys : List Value) : List (Addr × Obj) := [(e, oE), (it, oI), (C, oC), (D, lst ys)]
theorem block_E {elt iter c : Expr} {a b : Str} {pa pb tp : Pos} {kk : Nat} {scope : Scope} {cl : List (Str × Addr)} {pos : Pos} {s₂ : Shared} {e it t : Addr} {vs : List Value} {kt : Nat} {news : List (Addr × Obj)} {RR : Value → Addr → Result → Shared → Prop}
    (J : Nat → List Value → List (Addr × Obj) → Prop)
    (hh : A.handled = none) (hsz : vs.length ≤ sizeLine) (hei : e ≠ it) (hte : t ≠ e) (hti : t ≠ it)
    (hE : IsEnum s₂.heap e it 0 .none) (hI : IsTupIter s₂.heap it t 0)
    (hJt : ∀ i ys nw, J i ys nw → (t, ({ cls := .type "tuple", data := .seq vs.toArray kt } : Obj)) ∈ nw)
    (h0 : J 0 [] news)
    (hcell : ∀ y ∈ scope.names, y.2 ≠ .cell) (hkind : scope.kind = .function) (hxa : scope.names.lookup a = some .local) (hxb : scope.names.lookup b = some .local) (hab : ¬ a = b)
    (F : Fr h₀ L s₂.heap m) (N : News h₀ L s₂.heap news) (he0 : h₀.get? e = none) (hi0 : h₀.get? it = none) (hLe : L ≠ e) (hLi : L ≠ it) (off : ∀ p ∈ news, p.1 ≠ e ∧ p.1 ≠ it)
    (turn : ∀ i x (tk0 : Tok) ys nw oE oI C oC D m₂ h tk (E' : Value → Shared → Prop), oE.cls = .type "enumerate" → oI.cls = .type "tuple_iterator" → vs[i]? = some x → J i ys nw → NsObj oC m₂ → m₂ a = some (.int (i : Int) tk0) → m₂ b = some x → Fr h₀ L h m →
      News h₀ L h (fix4 e oE it oI C oC D ys ++ nw) → (∀ p ∈ nw, ∀ q ∈ fix4 e oE it oI C oC D ys, p.1 ≠ q.1) →
      wpAny (model prog w) A (isTrue c (compEnvC scope cl C env) (eval c (compEnvC scope cl C env))) (fun okb s₃ => if okb = true then
        wpAny (model prog w) A (eval elt (compEnvC scope cl C env)) (fun y => TurnEnd h₀ L m (fix4 e oE it oI C oC D ys) (J (i + 1) (ys ++ [y])) { s₂ with heap := h, toks := tk }) E' s₃
        else TurnEnd h₀ L m (fix4 e oE it oI C oC D ys) (J (i + 1) ys) { s₂ with heap := h, toks := tk } s₃) E' { s₂ with heap := h, toks := tk })
    (hRR : ∀ D C h tk m' ys nw, Fr h₀ L h m → News h₀ L h ((D, lst ys) :: nw) → (∀ p ∈ nw, p.1 ≠ D) → h.Ns C m' → h₀.get? C = none → h₀.get? D = none → C ≠ L → D ≠ L → C ≠ D → (∀ p ∈ nw, p.1 ≠ C) → J vs.length ys nw → RR (.ref D) C (.ok .next) { s₂ with heap := h, toks := tk }) :
    wpAny (model prog w) A (newList []) (fun acc s₃ => wpAny (model prog w) A (newFunctionEnv scope env.globals cl [] env.qual none .none (some env)) (fun cenv s₄ =>
      codeAny (model prog w) A (.compStart (.ListComp elt [⟨.Tuple [.Name a pa, .Name b pb] kk tp, iter, [c], 0⟩] scope pos) 0 (.ref e) acc { cenv with scope := relabel scope env }) (RR acc cenv.locals) s₄) E s₃) E s₂ := by
  refine wpAny_newObj_type (wpAny_newFunctionEnv hcell (by intro y hy; simp at hy) (fun h₁ hns₁ hsb₁ => ?_) hkind)
  dsimp only at hns₁ hsb₁ ⊢
  generalize hH2 : s₂.heap.push { cls := .type "list", dict := none, data := .seq ([] : List Value).toArray } = H2 at hns₁ hsb₁ ⊢
  have hC : H2.objs.size = s₂.heap.objs.size + 1 := by rw [← hH2, Heap.size_push]
  have hDC : s₂.heap.objs.size ≠ H2.objs.size := by rw [hC]; exact Nat.ne_of_lt (Nat.lt_succ_self _)
  have below : ∀ b, b < s₂.heap.objs.size → b ≠ H2.objs.size ∧ b ≠ s₂.heap.objs.size := fun b hb => ⟨by rw [hC]; exact Nat.ne_of_lt (Nat.lt_succ_of_lt hb), Nat.ne_of_lt hb⟩
  have helt : e < s₂.heap.objs.size := Heap.lt_size hE
  have hilt : it < s₂.heap.objs.size := by obtain ⟨_, y, _⟩ := hI; exact Heap.lt_size y
  have old : ∀ b o, s₂.heap.get? b = some o → h₁.get? b = some o := fun b o e => hsb₁.extBut b o (below b (Heap.lt_size e)).1 (Heap.get?_push_of_some _ (hH2 ▸ Heap.get?_push_of_some _ e))
  have hacc : h₁.get? s₂.heap.objs.size = some (lst []) := hsb₁.extBut _ _ hDC (Heap.get?_push_of_some _ (hH2 ▸ Heap.get?_push_size _ rfl))
  have hE₁ : IsEnum h₁ e it 0 .none := old _ _ hE
  have hI₁ : IsTupIter h₁ it t 0 := tupIter_at9 hI fun o e => old _ o e
  have fresh : ∀ a, s₂.heap.objs.size ≤ a → s₂.heap.get? a = none := fun a ha => by
    cases e : s₂.heap.get? a with
    | none => rfl
    | some o' => exact absurd (Heap.lt_size e) (Nat.not_lt.mpr ha)
  have fresh₀ : ∀ a, s₂.heap.objs.size ≤ a → h₀.get? a = none := fun a ha => by
    cases e : h₀.get? a with
    | none => rfl
    | some o' => have := F.keep a o' e; rw [fresh a ha] at this; cases this
  have hD₀ : h₀.get? s₂.heap.objs.size = none := fresh₀ _ (Nat.le_refl _)
  have hC₀ : h₀.get? H2.objs.size = none := fresh₀ _ (by rw [hC]; exact Nat.le_succ _)
  have hLlt : L < s₂.heap.objs.size := F.ns.lt
  have hDL : s₂.heap.objs.size ≠ L := Ne.symm (below L hLlt).2
  have hCL : H2.objs.size ≠ L := Ne.symm (below L hLlt).1
  have hCe : e ≠ H2.objs.size := (below e helt).1
  have hDe : e ≠ s₂.heap.objs.size := (below e helt).2
  have hCi : it ≠ H2.objs.size := (below it hilt).1
  have hDi : it ≠ s₂.heap.objs.size := (below it hilt).2
  have off₀ : ∀ p ∈ news, p.1 ≠ e ∧ p.1 ≠ it ∧ p.1 ≠ H2.objs.size ∧ p.1 ≠ s₂.heap.objs.size := fun p hp => ⟨(off p hp).1, (off p hp).2, (below _ (Heap.lt_size (N p hp).1)).1, (below _ (Heap.lt_size (N p hp).1)).2⟩
  have W := KTurns.ofWalksU (elts := [.Name a pa, .Name b pb]) (k := kk) (pos := tp) (WalksT.enumerateD (draws_tup (prog := prog) (w := w) (A := A.in1) hh it t hti vs.toArray) e hei
    (fun hm => by
      rcases List.mem_cons.mp hm with q | q
      · exact hei q
      · exact hte (List.mem_singleton.mp q).symm) (.head _)).toU
  have wr : ∀ {x : Addr}, x ≠ e → x ≠ it → x ∉ [e, it] := fun h1 h2 hm => by
    rcases List.mem_cons.mp hm with q | q
    · exact h1 q
    · exact h2 (List.mem_singleton.mp q)
  have loop : ∀ s₃ : Shared, s₃ = { s₂ with heap := h₁, toks := s₂.toks + ([] : List (Str × Value)).length } →
      codeAny (model prog w) A (.compLoop (.ListComp elt [⟨.Tuple [.Name a pa, .Name b pb] kk tp, iter, [c], 0⟩] scope pos) 0 (.ref e) (.ref s₂.heap.objs.size) (compEnvC scope cl H2.objs.size env))
        (RR (.ref s₂.heap.objs.size) H2.objs.size) s₃ := by
    rintro s₃ rfl
    refine kct_loop
      (fun k s' => ∃ h' tk i ys m' nw, s' = { s₂ with heap := h', toks := tk } ∧ i ≤ vs.length ∧ k = vs.length + 1 - i ∧ ys.length ≤ i ∧ (∃ old, IsEnum h' e it ((i : Nat) : Int) old) ∧ IsTupIter h' it t i ∧ Fr h₀ L h' m ∧ h'.Ns H2.objs.size m' ∧
        News h₀ L h' ((s₂.heap.objs.size, lst ys) :: nw) ∧ (∀ p ∈ nw, p.1 ≠ e ∧ p.1 ≠ it ∧ p.1 ≠ H2.objs.size ∧ p.1 ≠ s₂.heap.objs.size) ∧ J i ys nw) ?_ (vs.length + 1)
      ⟨h₁, _, 0, [], _, news, rfl, Nat.zero_le _, rfl, Nat.le_refl _, ⟨_, hE₁⟩, hI₁, F.keeps old, hns₁, fun p hp => ?_, off₀, h0⟩
    · rintro k s' ⟨h', tk, i, ys, m', nw, rfl, hi, rfl, hyl, hE', hI', F', hn', N', off', hJ⟩
      have ht' : IsTup h' t vs.toArray := ⟨_, (N' _ (List.mem_cons_of_mem _ (hJt _ _ _ hJ))).1, rfl, _, rfl⟩
      by_cases hlt : i < vs.length
      · refine W.item i _ _ _ (by simpa using hlt) ⟨hE', hI', ht'⟩ fun v h₂ tk₂ hMd hk₂ => ?_
        refine W.go i v _ _ _ hMd fun h₃ hP hst₃ hk₃ => ?_
        obtain ⟨T, vals, rfl, ⟨tk0, x, hx, rfl⟩, hT⟩ := hP
        have up₃ : ∀ c o, c ≠ e → c ≠ it → h'.get? c = some o → h₃.get? c = some o := fun c o h1 h2 y => hk₃ c o (wr h1 h2) (hk₂ c o (wr h1 h2) y)
        refine kcp_assign (env := compEnvC scope cl H2.objs.size env) hh hT (lookup_relabel_local hxa) (lookup_relabel_local hxb) (by simp [compEnvC, relabel, hkind]) (hn'.at' fun o y => up₃ _ o (Ne.symm hCe) (Ne.symm hCi) y) fun h₄ tk₄ hn₄ hs₄ => ?_
        have up : ∀ c o, c ≠ e → c ≠ it → c ≠ H2.objs.size → h'.get? c = some o → h₄.get? c = some o := fun c o h1 h2 h3 y => hs₄ c o h3 (up₃ c o h1 h2 y)
        obtain ⟨⟨old', hE₃⟩, hI₃, _⟩ := hst₃
        have hE₄ : IsEnum h₄ e it ((i + 1 : Nat) : Int) old' := hs₄ e _ hCe hE₃
        have hI₄ : IsTupIter h₄ it t (i + 1) := tupIter_at9 hI₃ fun o y => hs₄ it o hCi y
        obtain ⟨oE, heE, hoE, hcE⟩ : ∃ oE : Obj, h₄.get? e = some oE ∧ (∀ h : Heap, h.get? e = some oE → ∃ old, IsEnum h e it ((i + 1 : Nat) : Int) old) ∧ oE.cls = .type "enumerate" := ⟨_, hE₄, fun _ y => ⟨_, y⟩, rfl⟩
        obtain ⟨oI, heI, hoI, hcI⟩ : ∃ oI : Obj, h₄.get? it = some oI ∧ (∀ h : Heap, h.get? it = some oI → IsTupIter h it t (i + 1)) ∧ oI.cls = .type "tuple_iterator" := by
          obtain ⟨o, y, r⟩ := hI₄
          exact ⟨o, y, fun _ y' => ⟨o, y', r⟩, r.1⟩
        obtain ⟨oC, heC, hoC⟩ := ns_obj hn₄
        have hx' : vs[i]? = some x := by simpa using hx
        have F₄ : Fr h₀ L h₄ m := ⟨F'.ns.at' fun o y => up _ o hLe hLi (Ne.symm hCL) y, fun c o y => up c o (fun q => by rw [q, he0] at y; cases y) (fun q => by rw [q, hi0] at y; cases y) (fun q => by rw [q, hC₀] at y; cases y) (F'.keep c o y), F'.above⟩
        have N₄ : News h₀ L h₄ (fix4 e oE it oI H2.objs.size oC s₂.heap.objs.size ys ++ nw) := fun q hq => by
          rcases List.mem_append.mp hq with hq | hq
          · rcases List.mem_cons.mp hq with rfl | hq
            · exact ⟨heE, Ne.symm hLe, he0⟩
            rcases List.mem_cons.mp hq with rfl | hq
            · exact ⟨heI, Ne.symm hLi, hi0⟩
            rcases List.mem_cons.mp hq with rfl | hq
            · exact ⟨heC, hCL, hC₀⟩
            rw [List.mem_singleton.mp hq]
            have z := N' _ (List.mem_cons_self (a := (s₂.heap.objs.size, lst ys)) (l := nw))
            exact ⟨up _ _ (Ne.symm hDe) (Ne.symm hDi) hDC z.1, z.2⟩
          · have z := N' q (List.mem_cons_of_mem _ hq)
            have o := off' q hq
            exact ⟨up _ _ o.1 o.2.1 o.2.2.1 z.1, z.2⟩
        have offF : ∀ p ∈ nw, ∀ q ∈ fix4 e oE it oI H2.objs.size oC s₂.heap.objs.size ys, p.1 ≠ q.1 := fun p hp q hq => by
          have o := off' p hp
          rcases List.mem_cons.mp hq with rfl | hq
          · exact o.1
          rcases List.mem_cons.mp hq with rfl | hq
          · exact o.2.1
          rcases List.mem_cons.mp hq with rfl | hq
          · exact o.2.2.1
          rw [List.mem_singleton.mp hq]
          exact o.2.2.2
        have fin : ∀ (ys' : List Value) (h₅ : Heap) (tk₅ : Nat) (nw₅ : List (Addr × Obj)), ys'.length ≤ i + 1 → Fr h₀ L h₅ m → News h₀ L h₅ (fix4 e oE it oI H2.objs.size oC s₂.heap.objs.size ys' ++ nw₅) → (∀ p ∈ nw₅, p.1 ≠ e ∧ p.1 ≠ it ∧ p.1 ≠ H2.objs.size ∧ p.1 ≠ s₂.heap.objs.size) → J (i + 1) ys' nw₅ →
            ∃ q', q' < vs.length + 1 - i ∧ (∃ h' tk i ys m' nw, ({ s₂ with heap := h₅, toks := tk₅ } : Shared) = { s₂ with heap := h', toks := tk } ∧ i ≤ vs.length ∧ q' = vs.length + 1 - i ∧ ys.length ≤ i ∧ (∃ old, IsEnum h' e it ((i : Nat) : Int) old) ∧ IsTupIter h' it t i ∧ Fr h₀ L h' m ∧ h'.Ns H2.objs.size m' ∧
        News h₀ L h' ((s₂.heap.objs.size, lst ys) :: nw) ∧ (∀ p ∈ nw, p.1 ≠ e ∧ p.1 ≠ it ∧ p.1 ≠ H2.objs.size ∧ p.1 ≠ s₂.heap.objs.size) ∧ J i ys nw) := by
          intro ys' h₅ tk₅ nw₅ hl F₅ N₅ off₅ hJ₅
          have zE := (N₅ (e, oE) (.head _)).1
          have zI := (N₅ (it, oI) (.tail _ (.head _))).1
          have zC := (N₅ (H2.objs.size, oC) (.tail _ (.tail _ (.head _)))).1
          exact ⟨vs.length + 1 - (i + 1), by omega, h₅, tk₅, i + 1, ys', _, nw₅, rfl, hlt, rfl, hl, hoE h₅ zE, hoI h₅ zI, F₅, hoC.ns zC, fun q hq => N₅ q (.tail _ (.tail _ (.tail _ hq))), off₅, hJ₅⟩
        have offOf : ∀ {nw₅ : List (Addr × Obj)} {ys' : List Value}, (∀ p ∈ nw₅, ∀ q ∈ fix4 e oE it oI H2.objs.size oC s₂.heap.objs.size ys', p.1 ≠ q.1) → ∀ p ∈ nw₅, p.1 ≠ e ∧ p.1 ≠ it ∧ p.1 ≠ H2.objs.size ∧ p.1 ≠ s₂.heap.objs.size := fun o p hp =>
          ⟨o p hp (e, oE) (.head _), o p hp (it, oI) (.tail _ (.head _)), o p hp (H2.objs.size, oC) (.tail _ (.tail _ (.head _))), o p hp (s₂.heap.objs.size, lst _) (.tail _ (.tail _ (.tail _ (.head _))))⟩
        refine wpAny_mono (turn i x tk0 ys nw oE oI H2.objs.size oC s₂.heap.objs.size _ h₄ _ _ hcE hcI hx' hJ hoC (by simp [hab]) (by simp) F₄ N₄ offF) (fun okb s₅ h₅ => ?_) fun _ _ y => y
        cases okb with
        | false =>
          simp only [Bool.false_eq_true, if_false] at h₅ ⊢
          obtain ⟨h₅, tk₅, nw₅, rfl, F₅, N₅, off₅, hJ₅⟩ := h₅
          exact fin ys h₅ tk₅ nw₅ (Nat.le_succ_of_le hyl) F₅ N₅ (offOf off₅) hJ₅
        | true =>
          simp only [if_true] at h₅ ⊢
          refine wpAny_mono h₅ (fun y s₆ h₆ => ?_) fun _ _ y => y
          obtain ⟨h₅, tk₅, nw₅, rfl, F₅, N₅, off₅, hJ₅⟩ := h₆
          have off5 := offOf off₅
          have zD := (N₅ (s₂.heap.objs.size, lst ys) (.tail _ (.tail _ (.tail _ (.head _))))).1
          refine append_at (hsz := by show ys.toArray.size ≤ sizeLine; rw [List.size_toArray]; exact Nat.le_trans hyl (Nat.le_trans hi hsz)) zD fun h₆ hs₆ hD₆ => ?_
          refine fin (ys ++ [y]) h₆ _ nw₅ (by rw [List.length_append, List.length_singleton]; exact Nat.succ_le_succ hyl) (F₅.change hs₆ hDL hD₀) (fun q hq => ?_) off5 hJ₅
          rcases List.mem_append.mp hq with hq | hq
          · rcases List.mem_cons.mp hq with rfl | hq
            · exact ⟨hs₆.extBut _ _ hDe (N₅ _ (.head _)).1, Ne.symm hLe, he0⟩
            rcases List.mem_cons.mp hq with rfl | hq
            · exact ⟨hs₆.extBut _ _ hDi (N₅ _ (.tail _ (.head _))).1, Ne.symm hLi, hi0⟩
            rcases List.mem_cons.mp hq with rfl | hq
            · exact ⟨hs₆.extBut _ _ (Ne.symm hDC) (N₅ _ (.tail _ (.tail _ (.head _)))).1, hCL, hC₀⟩
            rw [List.mem_singleton.mp hq]
            exact ⟨hD₆.trans (congrArg some (lst_snoc ys y)), hDL, hD₀⟩
          · have z := N₅ q (List.mem_append_right _ hq)
            exact ⟨hs₆.extBut _ _ (off5 q hq).2.2.2 z.1, z.2⟩
      · have hin : i = vs.length := Nat.le_antisymm hi (Nat.not_lt.mp hlt)
        subst hin
        refine W.done _ _ _ (by simpa using And.intro hE' (And.intro hI' ht')) fun h₂ tk₂ hk₂ => ?_
        have up₂ : ∀ c o, c ≠ e → c ≠ it → h'.get? c = some o → h₂.get? c = some o := fun c o h1 h2 y => hk₂ c o (wr h1 h2) y
        exact hRR _ _ h₂ tk₂ _ ys nw ⟨F'.ns.at' fun o y => up₂ _ o hLe hLi y, fun c o y => up₂ c o (fun q => by rw [q, he0] at y; cases y) (fun q => by rw [q, hi0] at y; cases y) (F'.keep c o y), F'.above⟩
          (fun p hp => by
            rcases List.mem_cons.mp hp with rfl | hp
            · exact ⟨up₂ _ _ (Ne.symm hDe) (Ne.symm hDi) (N' _ (.head _)).1, (N' _ (.head _)).2⟩
            · exact ⟨up₂ _ _ (off' p hp).1 (off' p hp).2.1 (N' _ (.tail _ hp)).1, (N' _ (.tail _ hp)).2⟩)
          (fun p hp => (off' p hp).2.2.2) (hn'.at' fun o y => up₂ _ o (Ne.symm hCe) (Ne.symm hCi) y) hC₀ hD₀ hCL hDL (Ne.symm hDC) (fun p hp => (off' p hp).2.2.1) hJ
    · rcases List.mem_cons.mp hp with rfl | hp
      · exact ⟨hacc, hDL, hD₀⟩
      · exact ⟨old _ _ (N p hp).1, (N p hp).2⟩
  exact codeAny_compStart_list (loop _ rfl) (wpAny_pyIter_enum hE₁ (loop _ rfl))
end

/-! the comprehension and the loop of law over enumerate(tuple) -/
section
variable {prog : Program} {w : World} {A : Around} {E : Value → Shared → Prop} {s : Shared} {env : Env} {h₀ : Heap} {body : List Stmt} {Q : Flow → Shared → Prop}
theorem ktu_enumT {elts : List Expr} {k : Nat} {pos : Pos} {l : Addr} {vs : List Value} {m₀ : Str → Option Value} {news : List (Addr × Obj)}
    (hh : A.handled = none) (F : Fr h₀ env.locals s.heap m₀) (N : News h₀ env.locals s.heap news) (hm : (l, tupOf vs) ∈ news)
    (rest₀ : ∀ I : Addr, (∀ p ∈ news, p.1 < I) → ItemsRest prog w A E h₀ env (.Tuple elts k pos) body Q s [(I + 1, "enumerate"), (I, "tuple_iterator")] [(l, tupOf vs)] (enumItems 0 vs) m₀ news) :
    wpAny (model prog w) A (call (.type "enumerate") [.ref l]) (fun xv s₁ => wpAny (model prog w) A (pyIter xv) (fun it s₂ => TurnsAt prog w A h₀ env (.Tuple elts k pos) body Q E it s₂) E s₁) E s := by
  have hax := N _ hm
  have hl : IsTup s.heap l vs.toArray := ⟨_, hax.1, rfl, _, rfl⟩
  have hlt : l < s.heap.objs.size := Heap.lt_size hax.1
  have hLs : env.locals < s.heap.objs.size := F.ns.lt
  refine call_enum_tup hl fun h' hE hI hsz hk => ?_
  refine wpAny_pyIter_enum hE ?_
  refine ktu_core (tk0 := s.toks) (keep := [(l, tupOf vs)]) (KTurns.ofWalksU (WalksT.enumerateD (draws_tup (prog := prog) (w := w) (A := A.in1) hh s.heap.objs.size l (Nat.ne_of_lt hlt) vs.toArray) (s.heap.objs.size + 1) (Nat.succ_ne_self _) (fun hm => by
      rcases List.mem_cons.mp hm with q | q
      · exact Nat.succ_ne_self _ q
      · exact ktu_ne 1 hlt (List.mem_singleton.mp q).symm) (.head _)).toU) (by simp [enumItems_length]) ?_ ?_ ?_ ?_ ?_ ?_ ?_ ?_ (F.keeps hk) (N.grown hk) (And.intro hm trivial) (rest₀ _ fun p hp => Heap.lt_size (N p hp).1)
  · rintro i v h ⟨T, vals, rfl, ⟨t, x, hx, rfl⟩, hT⟩
    refine ⟨_, enumItems_get vs 0 i (v := x) (by simpa using hx), T, t, rfl, ?_⟩
    show IsTup h T #[.int ((0 + i : Nat) : Int) t, x]
    rw [Nat.zero_add]
    exact hT
  · rintro i h ⟨⟨old, he⟩, ⟨oi, hoi, hic, _⟩, _⟩
    have he' : ∃ oe : Obj, h.get? (s.heap.objs.size + 1) = some oe ∧ oe.cls = .type "enumerate" := ⟨_, he, rfl⟩
    obtain ⟨oe, h1, h2⟩ := he'
    refine ⟨[(s.heap.objs.size + 1, oe), (s.heap.objs.size, oi)], ⟨⟨rfl, h2⟩, ⟨rfl, hic⟩, trivial⟩, fun p hp => ?_⟩
    rcases List.mem_cons.mp hp with rfl | hp
    · exact h1
    · rw [List.mem_singleton.mp hp]; exact hoi
  · intro b hb
    have hb' : b = s.heap.objs.size + 1 ∨ b = s.heap.objs.size := by simpa using hb
    rcases hb' with rfl | rfl
    · exact ⟨by simp, ktu_new F (Nat.le_add_right _ _)⟩
    · exact ⟨by simp, ktu_new F (Nat.le_refl _)⟩
  · intro b hb
    simpa using hb
  · intro b hb
    have hb' : b = s.heap.objs.size + 1 ∨ b = s.heap.objs.size ∨ b = l := by simpa using hb
    rcases hb' with rfl | rfl | rfl
    · exact .inl (by simp)
    · exact .inl (by simp)
    · exact .inr ⟨tupOf vs, by simp⟩
  · intro hI'
    have hb' : env.locals = s.heap.objs.size + 1 ∨ env.locals = s.heap.objs.size ∨ env.locals = l := by simpa using hI'
    rcases hb' with e | e | e
    · exact ktu_ne 1 hLs e
    · exact Nat.ne_of_lt hLs e
    · exact hax.2.1 e.symm
  · intro p hp hI'
    have hb' : p.1 = s.heap.objs.size + 1 ∨ p.1 = s.heap.objs.size := by simpa using hI'
    have hlp := Heap.lt_size (N p hp).1
    rcases hb' with e | e
    · exact ktu_ne 1 hlp e
    · exact Nat.ne_of_lt hlp e
  · exact ⟨⟨.none, hE⟩, hI, tup_at9 hl fun o e => hk l o e⟩
theorem AllObj.imp : ∀ {ws : List (Addr × String)} {k k' : List (Addr × Obj) → Prop}, (∀ its, k its → k' its) → AllObj ws k → AllObj ws k'
  | [], _, _, f, x => f _ x
  | _ :: _, _, _, f, x => fun o ho => AllObj.imp (fun its y => f _ y) (x o ho)
/-- an invariant over the turns of a loop over enumerate -/
theorem enum_ind {target : Expr} {ws : List (Addr × String)} {keep : List (Addr × Obj)} {vs : List Value} (J : Nat → (Str → Option Value) → List (Addr × Obj) → Prop)
    (h0 : ∀ m news, J vs.length m news → ∀ h tk, Fr h₀ env.locals h m → News h₀ env.locals h news → Q .next { s with heap := h, toks := tk })
    (h1 : ∀ i x m news, vs[i]? = some x → J i m news → ∀ T t h tk, IsTup h T #[.int (i : Int) t, x] → Fr h₀ env.locals h m → AllObj ws (fun its => News h₀ env.locals h (its ++ news) →
      wpAny (model prog w) A (assign target env (.ref T)) (fun _ s₂ => wpAny (model prog w) A (execs body env) (UnrPostW h₀ env.locals { s with heap := h, toks := tk } its (fun m' n' => SubL keep n' ∧ J (i + 1) m' n') Q) E s₂) E { s with heap := h, toks := tk }))
    {m : Str → Option Value} {news : List (Addr × Obj)} (j : J 0 m news) : ItemsRest prog w A E h₀ env target body Q s ws keep (enumItems 0 vs) m news := by
  have go : ∀ (r : List Value) (i : Nat) (m : Str → Option Value) (news : List (Addr × Obj)), vs.drop i = r → i + r.length = vs.length → J i m news → ItemsRest prog w A E h₀ env target body Q s ws keep (enumItems i r) m news := by
    intro r
    induction r with
    | nil =>
      intro i m news hd hl hj
      have e : i = vs.length := by simpa using hl
      subst e
      exact ItemsRest.zero fun h tk F N => h0 m news hj h tk F N
    | cons x r ih =>
      intro i m news hd hl hj
      have hx : vs[i]? = some x := by
        have q : (vs.drop i)[0]? = some x := by rw [hd]; rfl
        rwa [List.getElem?_drop] at q
      have hd' : vs.drop (i + 1) = r := by
        have q := congrArg (List.drop 1) hd
        rwa [List.drop_drop] at q
      refine ItemsRest.pair fun T t h tk hT F => ?_
      refine AllObj.imp (fun its f N => ?_) (h1 i x m news hx hj T t h tk hT F)
      refine wpAny_mono (f N) (fun _ s₂ y => wpAny_mono y (fun fl s₃ z => ?_) fun _ _ e => e) fun _ _ e => e
      have up : UnrEndW h₀ env.locals { s with heap := h, toks := tk } its (fun m' n' => SubL keep n' ∧ J (i + 1) m' n') s₃ → UnrEndW h₀ env.locals { s with heap := h, toks := tk } its (fun m' n' => SubL keep n' ∧ ItemsRest prog w A E h₀ env target body Q s ws keep (enumItems (i + 1) r) m' n') s₃ :=
        fun ⟨h', tk', m', n', e, F', N', o, sk, j'⟩ => ⟨h', tk', m', n', e, F', N', o, sk, ih (i + 1) m' n' hd' (by rw [← hl, List.length_cons]; omega) j'⟩
      cases fl with
      | ret v => exact z
      | brk => exact z
      | next => exact up z
      | cont => exact up z
  exact go vs 0 m news rfl (by simp) j
end
section
open LCg
variable {prog : Program} {w : World} {A : Around} {E : Value → Shared → Prop} {s : Shared} {h₀ : Heap} {L : Addr} {m : Str → Option Value} {env : Env}
/-- what a comprehension wants of its source: an enumerate over a tuple -/
noncomputable def SrcE (prog : Program) (w : World) (A : Around) (h₀ : Heap) (L : Addr) (m : Str → Option Value) (env : Env) (c elt : Expr) (a b : Str) (scope : Scope) (cl : List (Str × Addr)) (Fin : Shared → List Value → List (Addr × Obj) → Prop) (xv : Value) (s₁ : Shared) : Prop :=
  ∃ (e it t : Addr) (vs : List Value) (news : List (Addr × Obj)) (J : Nat → List Value → List (Addr × Obj) → Prop), xv = .ref e ∧ A.handled = none ∧ vs.length ≤ sizeLine ∧ e ≠ it ∧ t ≠ e ∧ t ≠ it ∧
    IsEnum s₁.heap e it 0 .none ∧ IsTupIter s₁.heap it t 0 ∧ (∀ i ys nw, J i ys nw → (t, tupOf vs) ∈ nw) ∧ J 0 [] news ∧ Fr h₀ L s₁.heap m ∧ News h₀ L s₁.heap news ∧ h₀.get? e = none ∧ h₀.get? it = none ∧ L ≠ e ∧ L ≠ it ∧ (∀ p ∈ news, p.1 ≠ e ∧ p.1 ≠ it) ∧
    (∀ i x (tk0 : Tok) ys nw oE oI C oC D m₂ h tk (E' : Value → Shared → Prop), oE.cls = .type "enumerate" → oI.cls = .type "tuple_iterator" → vs[i]? = some x → J i ys nw → NsObj oC m₂ → m₂ a = some (.int (i : Int) tk0) → m₂ b = some x → Fr h₀ L h m →
      News h₀ L h (fix4 e oE it oI C oC D ys ++ nw) → (∀ p ∈ nw, ∀ q ∈ fix4 e oE it oI C oC D ys, p.1 ≠ q.1) →
      wpAny (model prog w) A (isTrue c (compEnvC scope cl C env) (eval c (compEnvC scope cl C env))) (fun okb s₃ => if okb = true then
        wpAny (model prog w) A (eval elt (compEnvC scope cl C env)) (fun y => TurnEnd h₀ L m (fix4 e oE it oI C oC D ys) (J (i + 1) (ys ++ [y])) { s₁ with heap := h, toks := tk }) E' s₃
        else TurnEnd h₀ L m (fix4 e oE it oI C oC D ys) (J (i + 1) ys) { s₁ with heap := h, toks := tk } s₃) E' { s₁ with heap := h, toks := tk }) ∧
    (∀ g ys nw, J vs.length ys nw → Fin { s₁ with heap := g } ys nw)
theorem call_enum_src {elt c : Expr} {a b : Str} {scope : Scope} {cl : List (Str × Addr)} {Fin : Shared → List Value → List (Addr × Obj) → Prop} {t : Addr} {vs : List Value} {news : List (Addr × Obj)} (J : Nat → List Value → List (Addr × Obj) → Prop)
    (hh : A.handled = none) (F : Fr h₀ L s.heap m) (N : News h₀ L s.heap news) (hsz : vs.length ≤ sizeLine) (hJt : ∀ i ys nw, J i ys nw → (t, tupOf vs) ∈ nw) (h0 : J 0 [] news)
    (turn : ∀ e it i x (tk0 : Tok) ys nw oE oI C oC D m₂ h tk (E' : Value → Shared → Prop), oE.cls = .type "enumerate" → oI.cls = .type "tuple_iterator" → vs[i]? = some x → J i ys nw → NsObj oC m₂ → m₂ a = some (.int (i : Int) tk0) → m₂ b = some x → Fr h₀ L h m →
      News h₀ L h (fix4 e oE it oI C oC D ys ++ nw) → (∀ p ∈ nw, ∀ q ∈ fix4 e oE it oI C oC D ys, p.1 ≠ q.1) →
      wpAny (model prog w) A (isTrue c (compEnvC scope cl C env) (eval c (compEnvC scope cl C env))) (fun okb s₃ => if okb = true then
        wpAny (model prog w) A (eval elt (compEnvC scope cl C env)) (fun y => TurnEnd h₀ L m (fix4 e oE it oI C oC D ys) (J (i + 1) (ys ++ [y])) { s with heap := h, toks := tk }) E' s₃
        else TurnEnd h₀ L m (fix4 e oE it oI C oC D ys) (J (i + 1) ys) { s with heap := h, toks := tk } s₃) E' { s with heap := h, toks := tk })
    (fin : ∀ g ys nw, J vs.length ys nw → Fin { s with heap := g } ys nw) :
    wpAny (model prog w) A (call (.type "enumerate") [.ref t]) (SrcE prog w A h₀ L m env c elt a b scope cl Fin) E s := by
  have hax := N _ (hJt _ _ _ h0)
  have hl : IsTup s.heap t vs.toArray := ⟨_, hax.1, rfl, _, rfl⟩
  have hlt : t < s.heap.objs.size := Heap.lt_size hax.1
  have hLs : L < s.heap.objs.size := F.ns.lt
  refine call_enum_tup hl fun h' hE hI hsz' hk => ?_
  exact ⟨s.heap.objs.size + 1, s.heap.objs.size, t, vs, news, J, rfl, hh, hsz, Nat.succ_ne_self _, ktu_ne 1 hlt, Nat.ne_of_lt hlt, hE, hI, hJt, h0, F.keeps hk, N.grown hk, ktu_new F (Nat.le_add_right _ _), ktu_new F (Nat.le_refl _),
    ktu_ne 1 hLs, Nat.ne_of_lt hLs, fun p hp => ⟨ktu_ne 1 (Heap.lt_size (N p hp).1), Nat.ne_of_lt (Heap.lt_size (N p hp).1)⟩, fun i x tk0 ys nw oE oI C oC D m₂ h tk E' => turn _ _ i x tk0 ys nw oE oI C oC D m₂ h tk E', fun g ys nw => fin g ys nw⟩
theorem Assign_E {elt iter c : Expr} {a b y : Str} {pa pb tp py : Pos} {kk : Nat} {scope : Scope} {cl : List (Str × Addr)} {pos spos : Pos} {Q : Flow → Shared → Prop} (_F₀ : Fr h₀ L s.heap m) (hLe : env.locals = L)
    (hsw : swapsWith (.ListComp elt [⟨.Tuple [.Name a pa, .Name b pb] kk tp, iter, [c], 0⟩] scope pos) (some (.Name y py)) spos.line env = pure true)
    (hclos : closureFor scope env = pure cl) (hcell : ∀ z ∈ scope.names, z.2 ≠ .cell) (hkind : scope.kind = .function)
    (hnames : ∀ z ∈ scope.names, z.2 = .local → scope.names.lookup z.1 = some .local) (hxa : scope.names.lookup a = some .local) (hxb : scope.names.lookup b = some .local) (hab : ¬ a = b)
    (hy : env.kindOf y = some .local) (hp : (env.scope.kind == .class || (env.scope.kind == .module && env.locals != env.globals)) = false)
    (h : wpAny (model prog w) A (eval iter env) (SrcE prog w A h₀ L m env c elt a b scope cl (fun s₂ => FinA h₀ L m s₂ y Q)) E s)
    (hs : ∀ x, foldedSetIterable iter env x = pure x := by intro _; rfl) :
    wpAny (model prog w) A (exec (.Assign [.Name y py] (.ListComp elt [⟨.Tuple [.Name a pa, .Name b pb] kk tp, iter, [c], 0⟩] scope pos) spos) env) Q E s := by
  subst hLe
  rw [exec_Assign_Name_used _ _ _ _ hsw]
  refine wpAny_bind (wpAny_standAt (wpAny_bind ?_))
  show wpAny _ A (do let _ ← comprehension (.ListComp elt [⟨.Tuple [.Name a pa, .Name b pb] kk tp, iter, [c], 0⟩] scope pos) scope env _ (newList []) false (eval iter env) (some (assign (.Name y py) env))) _ _ s
  refine wpAny_bind (wpAny_mono (wpAny_comprehension_free (use := some (assign (.Name y py) env)) (Q := fun _ s' => Q .next s') rfl hs hclos hkind hnames
    (wpAny_mono h (fun xv s₁ h₁ => ?_) fun _ _ e => e)) (fun _ s' hq => wpAny_pure (wpAny_pure hq)) fun _ _ e => e)
  obtain ⟨e, it, t, vs, news, J, rfl, hh, hsz, hei, hte, hti, hE, hI, hJt, h0, F, N, he0, hi0, hLe, hLi, off, turn, fin⟩ := h₁
  refine wpAny_pyIter_enum hE ?_
  refine block_E J hh hsz hei hte hti hE hI hJt h0 hcell hkind hxa hxb hab F N he0 hi0 hLe hLi off turn ?_
  intro D C h' tk m' ys news' F' N' o1 hn hC₀ hD₀ hCL hDL hCD offC j
  show wpAny _ A (assign (.Name y py) env (.ref D)) _ _ _
  refine wpAny_assign_Name (wpAny_storeName_local hy F'.ns (fun h₂ hn₂ hs₂ => ?_) hp)
  have hL₀ : h₀.get? env.locals = none := Heap.get?_none_of_le F'.above
  have F₂ : Fr h₀ env.locals h₂ (fun z => if z = y then some (.ref D) else m z) := ⟨hn₂, fun b o e => hs₂.extBut b o (fun q => by rw [q, hL₀] at e; cases e) (F'.keep b o e), F'.above⟩
  have o1' : Off1 D news' := by
    clear j N' offC
    induction news' with
    | nil => trivial
    | cons p r ih => exact ⟨o1 p (.head _), ih fun q hq => o1 q (.tail _ hq)⟩
  refine ⟨m', hn.sameBut hs₂ hCL, fun h'' hs'' => fin s₁.heap ys news' j D h'' _ (F₂.change hs'' hCL hC₀) (fun p hp => ?_) o1'⟩
  have z : h₂.get? p.1 = some p.2 := hs₂.extBut _ _ (N' p hp).2.1 (N' p hp).1
  refine ⟨hs''.extBut _ _ ?_ z, (N' p hp).2⟩
  rcases List.mem_cons.mp hp with rfl | hp
  · exact Ne.symm hCD
  · exact offC p hp
end

/-! the rows that are due: the comprehension over begins, the loop over ops -/
theorem off_tup {h₀ h : Heap} {L a : Addr} {l : List (Addr × Obj)} {o : Obj} {T : Addr} {us : List Value} (N : News h₀ L h l) (h1 : (T, tupOf us) ∈ l) (h2 : (a, o) ∈ l) (hc : o.cls ≠ .type "tuple") : T ≠ a :=
  News.neCls N h1 h2 (fun q => hc q.symm)
theorem off_ns {h₀ h : Heap} {L a : Addr} {l : List (Addr × Obj)} {o : Obj} {T : Addr} {us : List Value} {m : Str → Option Value} (N : News h₀ L h l) (h1 : (T, tupOf us) ∈ l) (h2 : (a, o) ∈ l) (hc : LCg.NsObj o m) : T ≠ a := by
  rintro rfl
  have e := (N _ h1).1
  rw [(N _ h2).1] at e
  cases e
  obtain ⟨es, ep, hd, _⟩ := hc
  cases hd
section
open LCg
variable {prog : Program} {w : World} {A : Around} {E : Value → Shared → Prop} {s : Shared} {h₀ : Heap} {L : Addr} {m : Str → Option Value} {env : Env}
theorem turn_end {e it C D : Addr} {oE oI oC : Obj} {ys : List Value} {m₂ : Str → Option Value} {nw nw' l' : List (Addr × Obj)} {J : List (Addr × Obj) → Prop} {h' : Heap} {tk : Nat} {s₁ : Shared}
    (F : Fr h₀ L h' m) (N : News h₀ L h' l') (hs : ∀ p ∈ fix4 e oE it oI C oC D ys ++ nw', p ∈ l') (off : ∀ p ∈ nw, ∀ q ∈ fix4 e oE it oI C oC D ys, p.1 ≠ q.1)
    (hn : ∀ p ∈ nw', p ∈ nw ∨ ∃ us, p.2 = tupOf us) (hE : oE.cls = .type "enumerate") (hI : oI.cls = .type "tuple_iterator") (hC : NsObj oC m₂) (j : J nw') :
    TurnEnd h₀ L m (fix4 e oE it oI C oC D ys) J s₁ { s₁ with heap := h', toks := tk } := by
  refine ⟨h', tk, nw', rfl, F, fun p hp => N p (hs p hp), fun p hp q hq => ?_, j⟩
  rcases hn p hp with h | ⟨us, h⟩
  · exact off p h q hq
  · have hp' := hs p (List.mem_append_right _ hp)
    have hq' := hs q (List.mem_append_left _ hq)
    obtain ⟨T, o⟩ := p
    have h' : o = tupOf us := h
    subst h'
    rcases List.mem_cons.mp hq with rfl | hq
    · exact off_tup N hp' hq' (by rw [hE]; decide)
    rcases List.mem_cons.mp hq with rfl | hq
    · exact off_tup N hp' hq' (by rw [hI]; decide)
    rcases List.mem_cons.mp hq with rfl | hq
    · exact off_ns N hp' hq' hC
    rw [List.mem_singleton.mp hq] at hq' ⊢
    exact off_tup N hp' hq' (show (Value.type "list") ≠ Value.type "tuple" by decide)
theorem due_src {elt c : Expr} {a b : Str} {scope : Scope} {cl : List (Str × Addr)} {Fin : Shared → List Value → List (Addr × Obj) → Prop} {t : Addr} {bs : List Value} {begins : List Int} {many : Int} {base : List (Addr × Obj)}
    (hh : A.handled = none) (F : Fr h₀ L s.heap m) (N : News h₀ L s.heap base) (hm : (t, tupOf bs) ∈ base) (hbs : IntsAre bs begins) (hz : bs.length < 10)
    (test : ∀ e it k tk0 (i : Nat) tki oE oI oC C D ys E m₂ h tk (E' : Value → Shared → Prop), oE.cls = .type "enumerate" → oI.cls = .type "tuple_iterator" → NsObj oC m₂ → m₂ a = some (.int (i : Int) tki) → m₂ b = some (.int k tk0) → Fr h₀ L h m →
      News h₀ L h ((e, oE) :: (it, oI) :: (C, oC) :: (D, lst ys) :: (base ++ E)) →
      wpAny (model prog w) A (isTrue c (compEnvC scope cl C env) (eval c (compEnvC scope cl C env))) (fun okb s₃ => okb = (!inR many k) ∧ ∃ h' tk', s₃ = { s with heap := h', toks := tk' } ∧ Fr h₀ L h' m ∧ News h₀ L h' ((e, oE) :: (it, oI) :: (C, oC) :: (D, lst ys) :: (base ++ E))) E' { s with heap := h, toks := tk })
    (helt : ∀ e it (i : Nat) tki oE oI oC C D ys E m₂ h tk (E' : Value → Shared → Prop), oE.cls = .type "enumerate" → oI.cls = .type "tuple_iterator" → NsObj oC m₂ → m₂ a = some (.int (i : Int) tki) → Fr h₀ L h m →
      News h₀ L h ((e, oE) :: (it, oI) :: (C, oC) :: (D, lst ys) :: (base ++ E)) →
      wpAny (model prog w) A (eval elt (compEnvC scope cl C env)) (fun y s₃ => ∃ T ti tx h' tk', y = .ref T ∧ s₃ = { s with heap := h', toks := tk' } ∧ Fr h₀ L h' m ∧ News h₀ L h' ((T, rowObj (i : Int) beyond ti tx) :: (e, oE) :: (it, oI) :: (C, oC) :: (D, lst ys) :: (base ++ E))) E' { s with heap := h, toks := tk })
    (fin : ∀ g ys E, (∀ p ∈ E, p.2.cls = .type "tuple") → RowsAre (fun a o => (a, o) ∈ E) ys (beginRows many begins 0) → Fin { s with heap := g } ys (base ++ E)) :
    wpAny (model prog w) A (call (.type "enumerate") [.ref t]) (SrcE prog w A h₀ L m env c elt a b scope cl Fin) E s := by
  have hl := PyProof.Rows.IntsAre.length hbs
  refine call_enum_src (fun i ys nw => ∃ E, nw = base ++ E ∧ (∀ p ∈ E, p.2.cls = .type "tuple") ∧ RowsAre (fun a o => (a, o) ∈ E) ys (beginRows many (begins.take i) 0)) hh F N (by rw [sizeLine_eq]; omega)
    (fun i ys nw ⟨E, e, _⟩ => e ▸ List.mem_append_left _ hm) ⟨[], by simp, (fun _ h => nomatch h), .nil⟩ ?_ (fun g ys nw ⟨E, e, h1, h2⟩ => ?_)
  · rintro e it i x tk0 ys nw oE oI C oC D m₂ h tk E' hcE hcI hx ⟨E, rfl, hE, hR⟩ hC ha hb F₁ N₁ off
    obtain ⟨k, tb, hk, rfl⟩ := ints_get (P := fun _ _ => True) hbs hx
    have hi : i < begins.length := (List.getElem?_eq_some_iff.mp hk).1
    have hbt := begins_take (many := many) hi
    have hk' : begins.getD i 0 = k := by simp [List.getD, hk]
    rw [hk'] at hbt
    refine wpAny_mono (test e it k tb i tk0 oE oI oC C D ys E m₂ h tk E' hcE hcI hC ha hb F₁ N₁) (fun okb s₃ q => ?_) fun _ _ y => y
    obtain ⟨rfl, h₂, tk₂, rfl, F₂, N₂⟩ := q
    cases hin : inR many k with
    | true =>
      rw [hin, if_pos rfl, List.append_nil] at hbt
      simp only [Bool.not_true, Bool.false_eq_true, if_false]
      exact turn_end F₂ N₂ (fun p hp => hp) off (fun p hp => .inl hp) hcE hcI hC ⟨E, rfl, hE, by rw [hbt]; exact hR⟩
    | false =>
      rw [hin, if_neg (by decide)] at hbt
      simp only [Bool.not_false, if_true]
      refine wpAny_mono (helt e it i tk0 oE oI oC C D ys E m₂ h₂ tk₂ E' hcE hcI hC ha F₂ N₂) (fun y s₄ q => ?_) fun _ _ y => y
      obtain ⟨T, ti, tx, h₃, tk₃, rfl, rfl, F₃, N₃⟩ := q
      refine turn_end (nw' := base ++ (E ++ [(T, rowObj (i : Int) beyond ti tx)])) F₃ N₃ (fun p hp => ?_) off (fun p hp => ?_) hcE hcI hC ⟨_, rfl, fun p hp => ?_, by rw [hbt]; exact rows_snoc hR⟩
      · rw [← List.append_assoc, ← List.append_assoc] at hp
        rcases List.mem_append.mp hp with hp | hp
        · refine .tail _ ?_
          rw [List.append_assoc] at hp
          exact hp
        · rw [List.mem_singleton.mp hp]; exact .head _
      · rw [← List.append_assoc] at hp
        rcases List.mem_append.mp hp with hp | hp
        · exact .inl hp
        · rw [List.mem_singleton.mp hp]; exact .inr ⟨_, rfl⟩
      · rcases List.mem_append.mp hp with hp | hp
        · exact hE p hp
        · rw [List.mem_singleton.mp hp]
  · have q : begins.take bs.length = begins := by rw [hl, List.take_length]
    rw [q] at h2
    exact e ▸ fin g ys E h1 h2
end
/-- what the loop of law over ops keeps -/
noncomputable def LJ (D G O : Addr) (go oo : Obj) (x1 x2 x3 x4 : Addr × Obj) (R0 : List (Addr × Obj)) (f : Nat → List Row) (i : Nat) (mm : Str → Option Value) (news : List (Addr × Obj)) : Prop :=
  ∃ (fs : List Value) (E : List (Addr × Obj)) (kf : Nat), news = (D, listOf (List.toArray fs) kf) :: (G, go) :: (O, oo) :: x1 :: x2 :: x3 :: x4 :: (R0 ++ E) ∧
    mm (S "due") = some (.ref D) ∧ mm (S "begins") = some (.ref G) ∧ mm (S "ops") = some (.ref O) ∧ (∀ p ∈ E, p.2.cls = .type "tuple") ∧ RowsAre (fun a o => (a, o) ∈ R0 ++ E) fs (f i)
theorem lj_start {D G O : Addr} {go oo : Obj} {x1 x2 x3 x4 : Addr × Obj} {R0 : List (Addr × Obj)} {f : Nat → List Row} {mm : Str → Option Value} {ys : List Value} {k : Nat} (h1 : mm (S "due") = some (.ref D)) (h2 : mm (S "begins") = some (.ref G)) (h3 : mm (S "ops") = some (.ref O))
    (hr : RowsAre (fun a o => (a, o) ∈ R0) ys (f 0)) : LJ D G O go oo x1 x2 x3 x4 R0 f 0 mm ((D, listOf (List.toArray ys) k) :: (G, go) :: (O, oo) :: x1 :: x2 :: x3 :: x4 :: R0) :=
  ⟨ys, [], k, by rw [List.append_nil], h1, h2, h3, (fun _ h => nomatch h), by rw [List.append_nil]; exact hr⟩
theorem lj_step {D G O I : Addr} {go oo : Obj} {x1 x2 x3 x4 : Addr × Obj} {R0 E l' keep : List (Addr × Obj)} {f : Nat → List Row} {i kf tk' : Nat} {h₀ h' : Heap} {L : Addr} {mm : Str → Option Value} {fs : List Value} {s : Shared} {oe oi : Obj}
    (F : Fr h₀ L h' mm) (N : News h₀ L h' l') (hs : ∀ p ∈ (I + 1, oe) :: (I, oi) :: (D, listOf (List.toArray fs) kf) :: (G, go) :: (O, oo) :: x1 :: x2 :: x3 :: x4 :: (R0 ++ E), p ∈ l')
    (hE : oe.cls = .type "enumerate") (hI : oi.cls = .type "tuple_iterator") (hg : go.cls = .type "tuple") (ho : oo.cls = .type "tuple") (hb : ∀ p ∈ x1 :: x2 :: x3 :: x4 :: R0, ∀ q ∈ [(I + 1, oe), (I, oi)], p.1 ≠ q.1) (hk : ∀ p ∈ keep, p ∈ (D, listOf (List.toArray fs) kf) :: (G, go) :: (O, oo) :: x1 :: x2 :: x3 :: x4 :: (R0 ++ E))
    (h1 : mm (S "due") = some (.ref D)) (h2 : mm (S "begins") = some (.ref G)) (h3 : mm (S "ops") = some (.ref O)) (h4 : ∀ p ∈ E, p.2.cls = .type "tuple") (hr : RowsAre (fun a o => (a, o) ∈ R0 ++ E) fs (f (i + 1))) :
    UnrEndW h₀ L s [(I + 1, oe), (I, oi)] (fun m' n' => SubL keep n' ∧ LJ D G O go oo x1 x2 x3 x4 R0 f (i + 1) m' n') { s with heap := h', toks := tk' } := by
  have nc : ∀ p ∈ (D, listOf (List.toArray fs) kf) :: (G, go) :: (O, oo) :: x1 :: x2 :: x3 :: x4 :: (R0 ++ E), p ∈ x1 :: x2 :: x3 :: x4 :: R0 ∨ (p.2.cls ≠ .type "enumerate" ∧ p.2.cls ≠ .type "tuple_iterator") := fun p hp => by
    rcases List.mem_cons.mp hp with rfl | hp
    · exact .inr ⟨show (Value.type "list") ≠ Value.type "enumerate" by decide, show (Value.type "list") ≠ Value.type "tuple_iterator" by decide⟩
    rcases List.mem_cons.mp hp with rfl | hp
    · exact .inr (by rw [hg]; exact ⟨by decide, by decide⟩)
    rcases List.mem_cons.mp hp with rfl | hp
    · exact .inr (by rw [ho]; exact ⟨by decide, by decide⟩)
    have hp2 : p ∈ (x1 :: x2 :: x3 :: x4 :: R0) ++ E := hp
    rcases List.mem_append.mp hp2 with hp | hp
    · exact .inl hp
    · exact .inr (by rw [h4 p hp]; exact ⟨by decide, by decide⟩)
  refine ⟨h', tk', mm, _, rfl, F, fun p hp => N p (hs p hp), fun p hp q hq => ?_, ?_, fs, E, kf, rfl, h1, h2, h3, h4, hr⟩
  · rcases nc p hp with hp' | hp'
    · exact hb p hp' q hq
    · have hp9 := hs p (.tail _ (.tail _ hp))
      rcases List.mem_cons.mp hq with rfl | hq
      · exact News.neCls (o := p.2) N hp9 (hs _ (.head _)) (by rw [hE]; exact hp'.1)
      · rw [List.mem_singleton.mp hq]
        exact News.neCls (o := p.2) N hp9 (hs _ (.tail _ (.head _))) (by rw [hI]; exact hp'.2)
  · clear hr nc hs N F h1 h2 h3
    generalize (D, listOf (List.toArray fs) kf) :: (G, go) :: (O, oo) :: x1 :: x2 :: x3 :: x4 :: (R0 ++ E) = l at hk
    induction keep with
    | nil => trivial
    | cons p k ih => exact ⟨hk p (.head _), ih fun q hq => hk q (.tail _ hq)⟩
theorem at_name3 {m : Str → Option Value} {x1 x2 x3 : Str} {v1 v2 v3 : Value} (h1 : m x1 = some v1) (h2 : m x2 = some v2) (h3 : m x3 = some v3) : m = fun z => if z = x1 then some v1 else if z = x2 then some v2 else if z = x3 then some v3 else m z := by
  funext z
  by_cases e1 : z = x1
  · rw [if_pos e1, e1, h1]
  by_cases e2 : z = x2
  · rw [if_neg e1, if_pos e2, e2, h2]
  by_cases e3 : z = x3
  · rw [if_neg e1, if_neg e2, if_pos e3, e3, h3]
  · rw [if_neg e1, if_neg e2, if_neg e3]
theorem off_its {l : List (Addr × Obj)} {I : Addr} {oe oi : Obj} (h : ∀ p ∈ l, p.1 < I) : ∀ p ∈ l, ∀ q ∈ [(I + 1, oe), (I, oi)], p.1 ≠ q.1 := fun p hp q hq => by
  rcases List.mem_cons.mp hq with rfl | hq
  · exact Nat.ne_of_lt (Nat.lt_succ_of_lt (h p hp))
  · rw [List.mem_singleton.mp hq]; exact Nat.ne_of_lt (h p hp)

/-! the ends of law: sorted(list of rows), two lists of rows compared, the comprehension over what was heard -/
theorem fresh_lt {h : Heap} {D : Addr} (hlt : ∀ b o, h.get? b = some o → b < D) : h.get? D = none := by
  cases q : h.get? D with
  | none => rfl
  | some o => exact absurd (hlt _ _ q) (Nat.lt_irrefl _)
section
variable {prog : Program} {w : World} {A : Around} {E : Value → Shared → Prop} {s : Shared} {h₀ : Heap} {L : Addr} {m : Str → Option Value} {news : List (Addr × Obj)}
theorem sorted_list_led {l : Addr} {vs : List Value} {rs : List Row} {k : Nat} {Q : Value → Shared → Prop} (F : Fr h₀ L s.heap m) (N : News h₀ L s.heap news) (hm : (l, listOf (List.toArray vs) k) ∈ news) (R : RowsAre (NewAt h₀ L s.heap) vs rs) (hz : vs.length < 64)
    (h : ∀ h' tk d D c vs' rs', Fr h₀ L h' m → News h₀ L h' news → NewAt h₀ L h' D (listOf (List.toArray vs') c) → hasRows h' vs' rs' → rs'.Perm rs → rs'.Pairwise rowLe → Q (.ref D) { s with heap := h', toks := tk, drawn := d }) :
    wpAny (model prog w) A (call (.builtin "sorted") [.ref l]) Q E s :=
  sorted_rows ⟨_, (N _ hm).1, rfl, _, rfl⟩ (R.mono fun _ _ e => e.1) hz fun h' tk d D c vs' rs' K hD hlt R' p1 p2 => by
    have hf := fresh_new F (fresh_lt hlt)
    exact h h' tk d D c vs' rs' (keep_nil_fr F K) (keep_nil_news N K) ⟨hD, hf.1, hf.2⟩ R' p1 p2
theorem rows_eq_same {l b : Addr} {vs ws : List Value} {rs : List Row} {k k' : Nat} {Q : Value → Shared → Prop} (e1 : s.heap.get? l = some (listOf vs.toArray k)) (e2 : s.heap.get? b = some (listOf ws.toArray k')) (r1 : hasRows s.heap vs rs) (r2 : hasRows s.heap ws rs) (hok : ∀ r ∈ rs, PyData.strOk r.2 = true) (hu : A.units + 64 < cLine)
    (h : Q (.bool true) s) : wpAny (model prog w) A (compareOp .Eq (.ref l) (.ref b)) Q E s :=
  eq_dataH (reads_rows e1 r1) (reads_rows e2 r2) (shaped_rows hok) (shaped_rows hok) hu (by rw [eqv_rows]; exact h)
end
section
open LCg LCt
variable {prog : Program} {w : World} {A : Around} {E : Value → Shared → Prop} {s : Shared} {h₀ : Heap} {L : Addr} {m : Str → Option Value} {env : Env}
/-- a comprehension that keeps every item of a list -/
theorem allT {ct elt : Expr} {x : Str} {scope : Scope} {cl : List (Str × Addr)} {S : List (Addr × Obj) → Prop} {Fin : List Value → List (Addr × Obj) → Prop} {news : List (Addr × Obj)} {us : List Value}
    (hS : S news)
    (test : ∀ v I oI C oC D ys m₂ h tk (E' : Value → Shared → Prop), v ∈ us → NsObj oC m₂ → m₂ x = some v → Fr h₀ L h m → News h₀ L h ((I, oI) :: (C, oC) :: (D, lst ys) :: news) →
      wpAny (model prog w) A (isTrue ct (compEnvC scope cl C env) (eval ct (compEnvC scope cl C env))) (TestEnd h₀ L m ((I, oI) :: (C, oC) :: (D, lst ys) :: news) { s with heap := h, toks := tk } true) E' { s with heap := h, toks := tk })
    (helt : ∀ v I oI C oC D ys m₂ h tk (Q E' : Value → Shared → Prop), v ∈ us → NsObj oC m₂ → m₂ x = some v → News h₀ L h ((I, oI) :: (C, oC) :: (D, lst ys) :: news) → Q v { s with heap := h, toks := tk } → wpAny (model prog w) A (eval elt (compEnvC scope cl C env)) Q E' { s with heap := h, toks := tk })
    (fin : Fin us news) :
    CompRestT prog w A h₀ L m env ct elt x scope cl s S (fun i v => us.toArray[i]? = some v) Fin us.toArray.size 0 [] news := by
  have go : ∀ (vr : List Value) (i : Nat) (ys : List Value), us.drop i = vr → i + vr.length = us.length → us = ys ++ vr →
      CompRestT prog w A h₀ L m env ct elt x scope cl s S (fun i v => us.toArray[i]? = some v) Fin vr.length i ys news := by
    intro vr
    induction vr with
    | nil =>
      intro i ys hd hl hp
      refine CompRestT.zero ?_
      rw [List.append_nil] at hp
      exact hp ▸ fin
    | cons v vr ih =>
      intro i ys hd hl hp
      refine CompRestT.succ fun v' I oI C oC D m₂ h tk E' hP hC hx F N off ne => ?_
      have hat : us[i]? = some v := by
        have q : (us.drop i)[0]? = some v := by rw [hd]; rfl
        rwa [List.getElem?_drop] at q
      have hP' : us.toArray[i]? = some v' := hP
      rw [List.getElem?_toArray, hat] at hP'
      cases hP'
      have hd' : us.drop (i + 1) = vr := by
        have q := congrArg (List.drop 1) hd
        rwa [List.drop_drop] at q
      have hm : v ∈ us := List.mem_of_getElem? hat
      refine wpAny_mono (test v I oI C oC D ys m₂ h tk E' hm hC hx F N) (fun ok s' e => ?_) fun _ _ e => e
      obtain ⟨rfl, h', tk', rfl, F', N'⟩ := e
      have hl' : i + 1 + vr.length = us.length := by rw [← hl, List.length_cons]; omega
      simp only [if_true]
      refine helt v I oI C oC D ys m₂ h' tk' _ E' hm hC hx N' ?_
      exact ⟨h', tk', news, rfl, F', N', off, hS, ih (i + 1) (ys ++ [v]) hd' hl' (by rw [hp, List.append_assoc]; rfl)⟩
  have r := go us 0 [] rfl (by simp) rfl
  rw [List.size_toArray]
  exact r
theorem rowsSrc {ct elt : Expr} {x : Str} {scope : Scope} {cl : List (Str × Addr)} {Fin : Shared → List Value → List (Addr × Obj) → Prop} {ax : Addr} {k : Nat} {news : List (Addr × Obj)} {s₁ : Shared} {us : List Value} {rs : List Row}
    (hh : A.handled = none) (F : Fr h₀ L s₁.heap m) (N : News h₀ L s₁.heap news) (hm : (ax, listOf (List.toArray us) k) ∈ news) (hsz : us.length < 100) (hR : RowsAre (fun a o => (a, o) ∈ news) us rs)
    (test : ∀ a i xt t u I oI C oC D ys m₂ h tk (E' : Value → Shared → Prop), (i, xt) ∈ rs → (a, rowObj i xt t u) ∈ news → NsObj oC m₂ → m₂ x = some (.ref a) → Fr h₀ L h m → News h₀ L h ((I, oI) :: (C, oC) :: (D, lst ys) :: news) →
      wpAny (model prog w) A (isTrue ct (compEnvC scope cl C env) (eval ct (compEnvC scope cl C env))) (TestEnd h₀ L m ((I, oI) :: (C, oC) :: (D, lst ys) :: news) { s₁ with heap := h, toks := tk } true) E' { s₁ with heap := h, toks := tk })
    (helt : ∀ v I oI C oC D ys m₂ (s' : Shared) (Q E' : Value → Shared → Prop), NsObj oC m₂ → m₂ x = some v → News h₀ L s'.heap ((I, oI) :: (C, oC) :: (D, lst ys) :: news) → Q v s' → wpAny (model prog w) A (eval elt (compEnvC scope cl C env)) Q E' s')
    (fin : ∀ g, Fin { s₁ with heap := g } us news) :
    CompSrcT prog w A h₀ L m env ct elt x scope cl Fin (.ref ax) s₁ := by
  have hrow : ∀ {vs : List Value} {rs : List Row}, RowsAre (fun a o => (a, o) ∈ news) vs rs → ∀ v ∈ vs, ∃ a i xt t u, v = .ref a ∧ (i, xt) ∈ rs ∧ (a, rowObj i xt t u) ∈ news := by
    intro vs rs R
    induction R with
    | nil => exact fun _ h => nomatch h
    | cons e _ ih =>
      intro v hv
      rcases List.mem_cons.mp hv with rfl | hv
      · exact ⟨_, _, _, _, _, rfl, .head _, e⟩
      · obtain ⟨a, i, xt, t, u, h1, h2, h3⟩ := ih v hv
        exact ⟨a, i, xt, t, u, h1, .tail _ h2, h3⟩
  refine CompSrcT.ledger hh F N hm (size_few (by omega)) fun g => allT (us := us) (.inr ⟨_, hm, rfl, _, rfl⟩) (fun v I oI C oC D ys m₂ h tk E' hv hC hx F₁ N₁ => ?_)
    (fun v I oI C oC D ys m₂ h tk Q E' _ hC hx N₁ q => helt v I oI C oC D ys m₂ { s₁ with heap := h, toks := tk } Q E' hC hx N₁ q) (fin g)
  obtain ⟨a, i, xt, t, u, rfl, h2, h3⟩ := hrow hR v hv
  exact test a i xt t u I oI C oC D ys m₂ h tk E' h2 h3 hC hx F₁ N₁
end
theorem rows_led2 {h₀ h : Heap} {L : Addr} {vs : List Value} {rs : List Row} (R : RowsAre (NewAt h₀ L h) vs rs) : ∃ E : List (Addr × Obj), RowsAre (fun a o => (a, o) ∈ E) vs rs ∧ (∀ p ∈ E, NewAt h₀ L h p.1 p.2) ∧ ∀ p ∈ E, ∃ us, p.2 = tupOf us := by
  induction R with
  | nil => exact ⟨[], .nil, (fun _ h => nomatch h), fun _ h => nomatch h⟩
  | @cons a i x t u vs rs e _ ih =>
    obtain ⟨E, h1, h2, h3⟩ := ih
    refine ⟨(a, rowObj i x t u) :: E, .cons (.head _) (h1.mono fun _ _ h => .tail _ h), fun p hp => ?_, fun p hp => ?_⟩
    · rcases List.mem_cons.mp hp with rfl | hp
      · exact e
      · exact h2 p hp
    · rcases List.mem_cons.mp hp with rfl | hp
      · exact ⟨_, rfl⟩
      · exact h3 p hp
theorem News.tailCell {h₀ h : Heap} {L : Addr} {l R : List (Addr × Obj)} {a : Addr} {o : Obj} {v : Option Value} (N : News h₀ L h l) (hm : (a, o) ∈ l) (hd : o.data = .cell v) (hR : ∀ p ∈ R, ∃ us, p.2 = tupOf us) (sub : ∀ p ∈ R, p ∈ l) : ∀ p ∈ R, p.1 ≠ a := fun p hp => by
  obtain ⟨us, e⟩ := hR p hp
  refine News.neData (o := p.2) N (sub p hp) hm hd fun v => ?_
  rw [e]
  exact fun q => nomatch q
theorem News.pickN {h₀ h : Heap} {L : Addr} {d l hh x dd d5 g o c4 c3 c2 c1 : Addr × Obj} {R E : List (Addr × Obj)} (N : News h₀ L h (d :: l :: hh :: x :: dd :: d5 :: g :: o :: c4 :: c3 :: c2 :: c1 :: R)) (hs : ∀ p ∈ E, p ∈ R) : News h₀ L h (d :: hh :: c4 :: E) := fun y hy => by
  rcases List.mem_cons.mp hy with rfl | hy
  · exact N _ (.head _)
  rcases List.mem_cons.mp hy with rfl | hy
  · exact N _ (.tail _ (.tail _ (.head _)))
  rcases List.mem_cons.mp hy with rfl | hy
  · exact N _ (.tail _ (.tail _ (.tail _ (.tail _ (.tail _ (.tail _ (.tail _ (.tail _ (.head _)))))))))
  · exact N _ (.tail _ (.tail _ (.tail _ (.tail _ (.tail _ (.tail _ (.tail _ (.tail _ (.tail _ (.tail _ (.tail _ (.tail _ (hs _ hy)))))))))))))
theorem hTexts_ok : ∀ x ∈ hTexts, PyData.strOk x = true := by decide +kernel

theorem fresh4 {h₀ h : Heap} {L a1 a2 a3 a4 b : Addr} {o1 o2 o3 o4 : Obj} {r : List (Addr × Obj)} (hf : h.get? b = none) (N : News h₀ L h ((a1, o1) :: (a2, o2) :: (a3, o3) :: (a4, o4) :: r)) : @Ne Nat a1 b ∧ @Ne Nat a2 b ∧ @Ne Nat a3 b ∧ @Ne Nat a4 b :=
  ⟨News.neFresh hf N (.head _), News.neFresh hf N (.tail _ (.head _)), News.neFresh hf N (.tail _ (.tail _ (.head _))), News.neFresh hf N (.tail _ (.tail _ (.tail _ (.head _))))⟩







theorem kreg42 : True := by
  w_top off
  k_with "call ref" => ((k_here; (with_reducible show wpAny _ _ (call (Value.ref 100) _) _ _ _); k_dflt (refine' pen_okG ?k1 ?k2 ?k3 ?k4 ?k5 ?k6 ?k7 ?k8 ?k9 ?_; (case k1 => k_asm); (case k2 => k_asm); (case k3 => k_asm); (case k4 => k_asm); (case k5 => first | exact rfl | assumption); (case k6 => ktr_room); (case k7 => first | is_list | assumption); (case k8 => assumption); (case k9 => omega)); intro h' tk' P' n' t' u' K' e1' e2' b1; rcases fresh4 e2' (by assumption) with ⟨q1', q2', q3', q4'⟩; (have F' := keep_nil_fr (by assumption) K'); (have N' := News.put (keep_nil_news (by assumption) K') e1'); (try k_sweep); (try k_fold)))
  k_with "CompSrc" => ((k_here; refine sealOf ?_))
  k_with "M offp" => (first | exact List.forall_mem_nil _ | (with_reducible assumption) | (refine List.forall_mem_cons.mpr ⟨(show @Ne Nat _ _ by omega), ?kmo⟩; (case kmo => k_extra "M offp")))
  k_with "call ref" => ((k_here; (with_reducible show wpAny _ _ (call (Value.ref 119) _) _ _ _); k_dflt (refine' op_ok ?k1 ?k2 ?k3 ?k4 ?k5 ?k6 ?k7 ?b1 ?b2 ?b3 ?b4 ?b5 ?b6 ?b7 ?_; (case k1 => k_asm); (case k2 => k_asm); (case k3 => k_asm); (case k4 => k_asm); (case k5 => first | exact rfl | assumption); (case k6 => ktr_room); (case k7 => exact News.sub9 (by assumption) (by k_extra "M subv")); (case b1 => omega); (case b2 => omega); (case b3 => omega); (case b4 => omega); (case b5 => omega); (case b6 => omega); (case b7 => omega)); intro h' tk' n' c' t' u' k' x' o' K' e1' b1 b2 b3 hO' hw'; (try exact ⟨h', tk', n', c', t', u', k', o', rfl, K', e1', b1, b2, b3, hO', hw'⟩)))
  exact True.intro

theorem News.third {h₀ h : Heap} {L : Addr} {p q x : Addr × Obj} {r : List (Addr × Obj)} (N : News h₀ L h (p :: q :: x :: r)) : News h₀ L h (x :: p :: q :: r) := fun y hy => by
  rcases List.mem_cons.mp hy with rfl | hy
  · exact N _ (.tail _ (.tail _ (.head _)))
  rcases List.mem_cons.mp hy with rfl | hy
  · exact N _ (.head _)
  rcases List.mem_cons.mp hy with rfl | hy
  · exact N _ (.tail _ (.head _))
  · exact N _ (.tail _ (.tail _ (.tail _ hy)))











theorem kreg43 : True := by
  w_top off
  k_with "call ref" => ((k_here; (with_reducible show wpAny _ _ (call (Value.ref 107) _) _ _ _); (rename LCg.NsObj _ _ => hNs9); k_dflt (refine' draw_ok ?k1 ?k2 ?k3 ?k4 ?k5 ?k6 ?k7 ?b1 ?b2 ?b3 ?b4 ?b5 ?_; (case k1 => k_asm); (case k2 => k_asm); (case k3 => k_asm); (case k4 => exact News.sub9 (by assumption) (by k_extra "M subv")); (case k5 => k_asm); (case k6 => first | exact rfl | assumption); (case k7 => ktr_room); (case b1 => omega); (case b2 => omega); (case b3 => omega); (case b4 => omega); (case b5 => omega)); clear hNs9; intro h' tk' n' c' t' u' k' d' td' K' e1' b1 b2 b3 b4 b5))
  k_with "exec Assign cons ListComp" => ((k_here; refine sealOf ?_))
  k_with "exec For Tuple Call cons nil" => ((k_here; (rename Fr _ _ _ _ => lF'); (with_unfolding_all refine' For_turns lF' ?_; k_whole)))
  k_with "UnrEndW" => ((k_here; refine sealOf ?_))
  k_with "call ref" => ((k_here; (with_reducible show wpAny _ _ (call (Value.ref 131) _) _ _ _); k_dflt (refine' wrong_ok ?k1 ?k2 ?k3 ?k4 ?k5 ?k6 ?k65 ?k7 hw4 ?k8 ?k9 ?k10 ?k11 ?_; (case k1 => k_asm); (case k2 => k_asm); (case k3 => k_asm); (case k4 => k_asm); (case k5 => first | exact rfl | assumption); (case k6 => ktr_room); (case k65 => ktr_room); (case k7 => exact hO4.mono (fun a9 o9 e9 => News.get3 (p := (a9, o9)) (by assumption) (by k_extra "M memt"))); (case k8 => omega); (case k9 => omega); (case k10 => omega); (case k11 => omega)); intro h' tk' t' z' K' hz'; (have F' := keep_nil_fr (by assumption) K'); (have N' := keep_nil_news (by assumption) K'); (try k_sweep); (try k_fold)))
  k_with "call type:enumerate" => ((k_here; refine sealOf ?_))
  exact True.intro

theorem News.pick9 {h₀ h : Heap} {L : Addr} {g d8 p o d9 d c4 c3 c2 c1 : Addr × Obj} {R : List (Addr × Obj)} (N : News h₀ L h (g :: d8 :: p :: o :: d9 :: d :: c4 :: c3 :: c2 :: c1 :: R)) : News h₀ L h (g :: o :: c4 :: c3 :: c2 :: c1 :: R) := fun y hy => by
  rcases List.mem_cons.mp hy with rfl | hy
  · exact N _ (.head _)
  rcases List.mem_cons.mp hy with rfl | hy
  · exact N _ (.tail _ (.tail _ (.tail _ (.head _))))
  · exact N _ (.tail _ (.tail _ (.tail _ (.tail _ (.tail _ (.tail _ hy))))))











theorem kreg44 : True := by
  w_top off
  k_with "M ljsub" => (((try simp only [List.cons_append, List.nil_append]); refine List.forall_mem_cons.mpr ⟨by k_mem, List.forall_mem_cons.mpr ⟨by k_mem, List.forall_mem_cons.mpr ⟨by k_mem, List.forall_mem_cons.mpr ⟨by k_mem, List.forall_mem_cons.mpr ⟨by k_mem, List.forall_mem_cons.mpr ⟨by k_mem, List.forall_mem_cons.mpr ⟨by k_mem, List.forall_mem_cons.mpr ⟨by k_mem, List.forall_mem_cons.mpr ⟨by k_mem, ?_⟩⟩⟩⟩⟩⟩⟩⟩⟩; intro p8 hp8; first | k_extra "M memt" | (rw [← List.append_assoc] at hp8; rcases List.mem_append.mp hp8 with hp8 | hp8; k_extra "M memt"; rw [List.mem_singleton.mp hp8]; k_mem)))
  k_with "M ljtup" => ((intro p9 hp9; rcases List.mem_append.mp hp9 with hp9 | hp9; exact hE4 p9 hp9; rw [List.mem_singleton.mp hp9]))
  k_with "call ref" => ((k_here; (with_reducible show wpAny _ _ (call (Value.ref 58) _) _ _ _); refine sealOf ?_))
  k_with "compareOp NotEq ref ref" => ((k_here; k_dflt (refine' rows_ne_nil ?k1 ?k2 ?k3 ?k4 hok9 ?k5 ?_; (case k1 => k_asm); (case k2 => k_mem); (case k3 => k_mem); (case k4 => exact hRw.mono (fun a9 o9 e9 => by k_extra "M memt")); (case k5 => first | units_room | ktr_units)); rw [hE9']))
  k_with "call builtin:sorted" => ((k_here; refine sealOf ?_))
  k_with "CompSrcT" => ((k_here; refine sealOf ?_))
  exact True.intro

theorem law_holds : PySem.Challenge.rw_pq0627_01.Holds := hd (by
  k_go0
  all_goals (try k_fold)
  k_steps
  refine toSeal ?_
  rename _ < (7 : Int) => hb7
  rename _ < (3 : Int) => hb3
  rcases nat7 hb7 (by assumption) with ⟨many, rfl, hmany⟩
  rcases nat3 hb3 (by assumption) with ⟨begun, rfl, hbegun⟩
  rename News _ _ _ _ => N9
  rename Fr _ _ _ _ => F9
  rename IsRange _ _ _ _ _ _ _ _ => rg9
  k_dflt (refine comp_ops (n := 1 + many) (by rfl) F9 (News.swap N9) rg9 (by omega) (by omega) (by assumption) (by omega) (by omega) ?hP ?step ?fin)
  case hP => k_extra "M offp"
  case step =>
    intro n9 c9 t9 u9 k9 I9 oI9 C9 oC9 D9 ys9 R9 m9 h9 tk9 E9 a1 a2 a3 hC9 F9 N9
    (try simp only [List.cons_append, List.nil_append] at N9)
    k_steps
    exact ⟨h', tk', n', c', t', u', k', o', rfl, K', e1', b1, b2, b3, hO', hw'⟩
  case fin =>
    intro g9 n9 c9 t9 u9 k9 ys9 os9 R9 a1 a2 a3 hO9 hl9 hR9
    clear F9 N9 rg9
    unfold LCg.FinE
    intro D9 h9 tk9 F9 N9 o9
    have hR91 : ∀ p ∈ R9, p.1 ≠ D9 := fun p hp => off1_mem o9 p (List.mem_cons_of_mem _ (List.mem_append_right _ hp))
    (try simp only [List.nil_append, List.cons_append, LCg.Off1] at N9 o9)
    have nP9 : @Ne Nat P' D9 := o9.1
    (try dsimp only)
    k_steps
    refine toSeal ?_
    rename News _ _ _ _ => N8
    rename Fr _ _ _ _ => F8
    rename IsRange _ _ _ _ _ _ _ _ => rg8
    have hR92 := News.tailNe (a := P') N8 (.tail _ (.tail _ (.head _))) (show (Value.type "list") ≠ Value.type "tuple" by decide) hR9 (by k_extra "M subv")
    have nP8 : @Ne Nat P' _ := News.neCls N8 (.tail _ (.tail _ (.head _))) (.head _) (show (Value.type "list") ≠ Value.type "tuple" by decide)
    k_dflt (refine comp_draws (n := begun) (by rfl) F8 (News.third N8) rg8 (by rfl) (by omega) (by omega) (by assumption) (by omega) ?hP ?step ?fin)
    case hP => k_extra "M offp"
    case step =>
      intro n8 c8 t8 u8 k8 I8 oI8 C8 oC8 D8 ys8 m8 h8 tk8 E8 b1 b2 b3 hC8 F8 N8
      k_steps
      exact ⟨h', _, n', c', t', u', k', _, _, rfl, rfl, K', e1', b1, b2, b3⟩
    case fin =>
      intro g8 n8 c8 t8 u8 k8 ys8 begins b1 b2 b3 hI8 hl8
      clear F8 N8 rg8
      unfold LCg.FinE
      intro D8 h8 tk8 F8 N8 o8
      have hR81 : ∀ p ∈ R9, p.1 ≠ D8 := fun p hp => off1_mem o8 p (by k_extra "M memt")
      (try simp only [List.nil_append, List.cons_append, LCg.Off1] at N8 o8)
      (try dsimp only)
      clear q1' q2' q3' q4' o9 o8 nP9 nP8 hR91 hR92 hR81
      k_steps
      refine toSeal ?_
      rename News _ _ _ _ => N7
      have N77 := News.pick9 N7
      clear N7
      rename Fr _ _ _ _ => F7
      k_dflt (refine Assign_E F7 rfl (by with_unfolding_all rfl) (by with_unfolding_all rfl) (by decide) (by rfl) (by decide) (by rfl) (by rfl) (by decide) (by rfl) (by rfl) ?_)
      k_steps
      refine toSeal ?_
      k_dflt (refine due_src (many := 1 + (many : Int)) (by rfl) F7 N77 (.head _) hI8 (by omega) ?test ?helt ?fin)
      case test =>
        intro e5 it5 k5 tk5 i5 tki5 oE5 oI5 oC5 C5 D5 ys5 E5 m5 h5 tk5' EE5 x1 x2 hC5 x3 x4 F5 N5
        (try simp only [List.cons_append, List.nil_append] at N5)
        k_steps
        all_goals assumption
      case helt =>
        intro e5 it5 i5 tki5 oE5 oI5 oC5 C5 D5 ys5 E5 m5 h5 tk5' EE5 x1 x2 hC5 x3 F5 N5
        (try simp only [List.cons_append, List.nil_append] at N5)
        k_steps
        any_goals assumption
      case fin =>
        intro g5 ys5 E5 hE5 hR5
        clear F7 N77
        unfold LCg.FinA
        intro D5 h5 tk5 F5 N5 o5
        (try simp only [List.nil_append, List.cons_append, LCg.Off1] at N5 o5)
        (try dsimp only)
        have nR5 := News.tailNe (a := D5) N5 (.head _) (show (Value.type "list") ≠ Value.type "tuple" by decide) (R := R9 ++ E5) (fun p hp => (List.mem_append.mp hp).elim (hR9 p) (hE5 p)) (by k_extra "M subv")
        k_steps
        refine toSeal ?_
        rename Fr _ _ _ _ => F6
        rename News _ _ _ _ => N6
        with_unfolding_all refine' ktu_enumT ?k1 F6 N6 ?k2 ?_
        case k1 => rfl
        case k2 => exact (.tail _ (.tail _ (.head _)))
        intro I5 lI5
        have dI1 : @Ne Nat D5 I5 := Nat.ne_of_lt (lI5 _ (.head _))
        have dI2 : @Ne Nat D5 (I5 + 1) := Nat.ne_of_lt (Nat.lt_succ_of_lt (lI5 _ (.head _)))
        have lb5 := fun p hp => lI5 p (.tail _ (.tail _ (.tail _ hp)))
        clear lI5
        k_dflt (refine enum_ind (LJ D5 _ _ _ _ _ _ _ _ _ (fun i => beginRows (1 + (many : Int)) begins 0 ++ opRows (1 + (many : Int)) begun (os9.take i) 0)) ?h0 ?h1 (lj_start rfl rfl rfl ?j))
        case j =>
          show RowsAre _ _ (_ ++ [])
          rw [List.append_nil]
          exact hR5.mono fun a o e => List.mem_append_right R9 e
        case h1 =>
          clear F6 N6
          rintro i4 x4 m4 news4 hx4 ⟨fs, E4, kf, rfl, e1, e2, e3, hE4, hRw⟩ T4 t4 h4 tk4 hT4 F4
          rw [at_name3 e1 e2 e3] at F4
          clear e1 e2 e3
          obtain ⟨o4, ho4, hO4', hw4⟩ := hO9.get hx4
          have hO4 := hO4'.mono (fun a o e => List.mem_append_left E4 (List.mem_append_left E5 e))
          clear hO4'
          ktu_objs
          have lfs : fs.length < 20 := by
            have q1 := hRw.length
            have q2 := beginRows_len (1 + (many : Int)) begins 0
            have q3 := opRows_len (1 + (many : Int)) begun (os9.take i4) 0
            have q4 := PyProof.Rows.IntsAre.length hI8
            have q5 := hO9.length
            rw [List.length_take] at q3
            simp only [List.length_append] at q1
            omega
          rename News _ _ _ _ => N4
          have nR4 := News.tailNe (a := D5) N4 (.tail _ (.tail _ (.head _))) (show (Value.type "list") ≠ Value.type "tuple" by decide) (R := R9 ++ E5 ++ E4) (fun p hp => (List.mem_append.mp hp).elim (fun hp => (List.mem_append.mp hp).elim (hR9 p) (hE5 p)) (hE4 p)) (by k_extra "M subv")
          k_steps
          all_goals (try refine toSeal ?_)
          all_goals (have hot := ops_take (many := 1 + (many : Int)) (begun := (begun : Int)) ho4)
          all_goals subst hz'
          all_goals (rename Fr _ _ _ _ => kF)
          all_goals (rename News _ _ _ _ => kM)
          · rw [if_neg (by intro q; rename (_ != _) = true => a9; rw [q] at a9; exact absurd a9 (by decide))] at hot
            rw [List.push_toArray] at kM
            exact lj_step kF kM (E := E4 ++ [(_, rowObj _ _ _ _)]) (by k_extra "M ljsub") (by assumption) (by assumption) rfl rfl (off_its lb5) (List.forall_mem_cons.mpr ⟨.tail _ (.tail _ (.head _)), fun _ h => nomatch h⟩) rfl rfl rfl (by k_extra "M ljtup") (by show RowsAre _ _ (_ ++ opRows _ _ _ _); rw [hot, ← List.append_assoc, ← List.append_assoc]; exact rows_snoc hRw)
          · rw [if_pos (by rename (_ != _) = false => a9; simpa using a9), List.append_nil] at hot
            exact lj_step kF kM (E := E4) (by k_extra "M ljsub") (by assumption) (by assumption) rfl rfl (off_its lb5) (List.forall_mem_cons.mpr ⟨.tail _ (.tail _ (.head _)), fun _ h => nomatch h⟩) rfl rfl rfl hE4 (by show RowsAre _ _ (_ ++ opRows _ _ _ _); rw [hot]; exact hRw)
        case h0 =>
          clear F6 N6
          rintro m4 news4 ⟨fs, E4, kf, rfl, e1, e2, e3, hE4, hRw⟩ h4 tk4 F4 N4
          rw [at_name3 e1 e2 e3] at F4
          clear e1 e2 e3
          have hO4 := hO9.mono (fun a o e => List.mem_append_left E4 (List.mem_append_left E5 e))
          have hR4 : ∀ p ∈ R9 ++ E5 ++ E4, p.2.cls = .type "tuple" := fun p hp => (List.mem_append.mp hp).elim (fun hp => (List.mem_append.mp hp).elim (hR9 p) (hE5 p)) (hE4 p)
          (try simp only [List.cons_append, List.nil_append] at N4 hRw)
          (try dsimp only)
          clear hO9 hR9 hE5 hE4 hR5 nR5 o5 dI1 dI2 lb5
          generalize R9 ++ E5 ++ E4 = RR at *
          k_steps
          refine toSeal ?_
          have hlb := PyProof.Rows.IntsAre.length hI8
          have hm9 : ((ys9.length : Nat) : Int) = 1 + (many : Int) := by omega
          have hb9 : ((begins.length : Nat) : Int) = (begun : Int) := by omega
          k_dflt (refine' wf_ok (R := RR) ?k1 ?k2 ?k3 ?k4 ?k5 ?k6 ?k65 ?k7 hO4 hR4 ?k8 ?k9 hI8 ?k10 ?_)
          case k1 => k_asm
          case k2 => k_asm
          case k3 => k_asm
          case k4 => k_asm
          case k5 => first | exact rfl | assumption
          case k6 => first | ktr_room | cb_room
          case k65 => first | ktr_units | cb_units
          case k7 => exact News.sub9 (by assumption) (by k_extra "M subv")
          case k8 => omega
          case k9 => omega
          case k10 => omega
          rw [hm9, hb9]
          intro h' tk' d9 H9 k9 hs9 rs9 K' nH hRh hle hpw hdue1 hdue2
          (have F' := keep_nil_fr (by assumption) K')
          (have N8 := keep_nil_news (by assumption) K')
          rcases rows_led2 hRh with ⟨E8, hE8, hE9, hE7⟩
          (have N' := News.retail (R := RR) (R2 := RR ++ E8) (News.put N8 nH) (by repeat (first | exact Retail.here | apply Retail.cons)) (fun p8 hp8 => (List.mem_append.mp hp8).elim (fun q8 => News.get3 N8 (by k_extra "M memt")) (fun q8 => hE9 p8 q8)))
          clear N8
          (try k_sweep)
          (try k_fold)
          have hRw' := hRw
          have q9 : os9.take ys9.length = os9 := by rw [hO4.length, List.take_length]
          simp only [q9] at hRw'
          change RowsAre _ fs (dueP (1 + (many : Int)) begun begins os9) at hRw'
          replace hRw' := hRw'.mono (fun a o e => List.mem_append_left E8 e)
          have hR8 := hE8.mono (fun a o e => List.mem_append_right RR e)
          have hs8 : ∀ p ∈ E8, p ∈ RR ++ E8 := fun p hp => List.mem_append_right _ hp
          have hl10 := hO4.length
          clear hRw hO4 hR4 hRh hE9 nH
          generalize RR ++ E8 = RS at *
          have hok := dueP_ok (many := 1 + (many : Int)) (begun := (begun : Int)) (begins := begins) (ops := os9)
          cases hdue : dueP (1 + (many : Int)) begun begins os9 with
          | nil =>
            rw [hdue] at hRw' hdue2 hok
            clear hdue1
            have hRw := hRw'
            have hok9 := hok
            have hE9' : (([] : List Row)).isEmpty = true := rfl
            k_steps
            rename Fr _ _ _ _ => F2
            rename News _ _ _ _ => N2
            have N3 := News.pickN N2 hs8
            clear N2
            have nA : @Ne Nat _ _ := News.neData N3 (.head _) (.tail _ (.tail _ (.head _))) (by assumption) (fun v q => nomatch q)
            have nB : @Ne Nat _ _ := News.neData N3 (.tail _ (.head _)) (.tail _ (.tail _ (.head _))) (by assumption) (fun v q => nomatch q)
            have nT := News.tailCell (R := E8) N3 (.tail _ (.tail _ (.head _))) (by assumption) hE7 (fun p hp => .tail _ (.tail _ (.tail _ hp)))
            k_steps
            refine toSeal ?_
            rename Fr _ _ _ _ => F2
            rename News _ _ _ _ => N4
            k_dflt (refine rowsSrc (us := hs9) (rs := rs9) (by rfl) F2 N4 (.tail _ (.head _)) ?len (hE8.mono fun a o e => .tail _ (.tail _ (.tail _ e))) ?test ?helt ?fin)
            case len => (have q := hE8.length); omega
            case helt =>
              intro v4 I4 oI4 C4 oC4 D4 ys4 m5 s5 Q5 E5' hC5 hx5 N5 q5
              exact LCgL.ld_own N5 (List.mem_cons_of_mem _ List.mem_cons_self) hC5 hx5 q5
            case test =>
              intro a4 i4 xt4 t4 u4 I4 oI4 C4 oC4 D4 ys4 m5 h5 tk5 E5' hm5 hr5 hC5 hx5 F5 N5
              have hq5 := hdue2 rfl (i4, xt4) hm5
              have N6 := News.put9 N5 (List.mem_cons_of_mem _ (List.mem_cons_of_mem _ (List.mem_cons_of_mem _ hr5)))
              clear N5 N4 F2
              k_steps
              unfold TestEnd
              k_dflt (exact ⟨List.any_eq_true.mpr ⟨xt4, hq5, beq_self_eq_true _⟩, _, _, rfl, F5, fun p hp => N6 p (List.mem_cons_of_mem _ hp)⟩)
            case fin =>
              intro g5
              clear F2 N4
              unfold LCg.FinE
              intro D5' h5 tk5 F5 N5 o5
              (try simp only [List.nil_append, List.cons_append, LCg.Off1] at N5 o5)
              (try dsimp only)
              k_dflt (refine rows_eq_same (N5 (H9, listOf (List.toArray hs9) k9) (.tail _ (.tail _ (.head _)))).1 (N5 (D5', listOf (List.toArray hs9) hs9.length) (.head _)).1 (hE8.mono (fun a o e => (N5 (a, o) (.tail _ (.tail _ (.tail _ (.tail _ e))))).1)) (hE8.mono (fun a o e => (N5 (a, o) (.tail _ (.tail _ (.tail _ (.tail _ e))))).1)) ?ok ?un ?_)
              case ok => exact fun r hr => hTexts_ok _ (hdue2 rfl r hr)
              case un => first | units_room | ktr_units
              k_steps
          | cons r9 rl9 =>
            rw [hdue] at hRw' hdue1 hok
            clear hdue2
            have hRw := hRw'
            have hok9 := hok
            have hE9' : (r9 :: rl9).isEmpty = false := rfl
            k_steps
            refine toSeal ?_
            rename Fr _ _ _ _ => F2
            rename News _ _ _ _ => N2
            have hlr := hRw.length
            have hll : (dueP (1 + (many : Int)) begun begins os9).length ≤ 20 := by
              have q2 := beginRows_len (1 + (many : Int)) begins 0
              have q3 := opRows_len (1 + (many : Int)) begun os9 0
              have q5 := hl9
              unfold dueP
              rw [List.length_append]
              omega
            rw [hdue] at hll
            k_dflt (refine sorted_list_led F2 N2 (by k_mem) (hRw.mono (fun a o e => News.get3 (p := (a, o)) N2 (by k_extra "M memt"))) (by omega) ?_)
            intro h' tk' d8 D8 c8 ws8 ks8 F1 N1 nD8 hK8 p8 q8
            have e8 : ks8 = rs9 := rows_uniq (p8.trans (hdue1 (by simp)).symm) q8 hpw
            subst e8
            clear N2 F2
            k_dflt (refine rows_eq_same (N1 (H9, listOf (List.toArray hs9) k9) (by k_mem)).1 nD8.1 (hR8.mono (fun a o e => (News.get3 (p := (a, o)) N1 (by k_extra "M memt")).1)) hK8 ?ok ?un ?_)
            case ok => exact fun r hr => hok r (p8.mem_iff.mp hr)
            case un => first | units_room | ktr_units
            k_steps)

theorem kreg45 : True := by
  w_top off
  k_with_none
  k_with "M ne" => (first | (with_reducible assumption) | (with_reducible exact Ne.symm (by assumption)) | (with_reducible exact Nat.ne_of_lt (by assumption)) | (with_reducible exact Nat.ne_of_gt (by assumption)) | (k_extra "M nec"))
  k_with "M nec" => (first | ((rename (_ < _) ∧ _ => hc9); first | (with_reducible exact Nat.ne_of_lt hc9.1) | (with_reducible exact Nat.ne_of_gt hc9.1) | (with_reducible exact Nat.ne_of_lt hc9) | (with_reducible exact Nat.ne_of_gt hc9) | (with_reducible exact Nat.ne_of_lt hc9.2.1) | (with_reducible exact Nat.ne_of_gt hc9.2.1) | (with_reducible exact Nat.ne_of_lt hc9.2) | (with_reducible exact Nat.ne_of_gt hc9.2) | (with_reducible exact Nat.ne_of_lt hc9.2.2.1) | (with_reducible exact Nat.ne_of_gt hc9.2.2.1) | (with_reducible exact Nat.ne_of_lt hc9.2.2) | (with_reducible exact Nat.ne_of_gt hc9.2.2) | (with_reducible exact Nat.ne_of_lt hc9.2.2.2.1) | (with_reducible exact Nat.ne_of_gt hc9.2.2.2.1) | (with_reducible exact Nat.ne_of_lt hc9.2.2.2) | (with_reducible exact Nat.ne_of_gt hc9.2.2.2) | (with_reducible exact Nat.ne_of_lt hc9.2.2.2.2.1) | (with_reducible exact Nat.ne_of_gt hc9.2.2.2.2.1) | (with_reducible exact Nat.ne_of_lt hc9.2.2.2.2) | (with_reducible exact Nat.ne_of_gt hc9.2.2.2.2) | (with_reducible exact Nat.ne_of_lt hc9.2.2.2.2.2.1) | (with_reducible exact Nat.ne_of_gt hc9.2.2.2.2.2.1) | (with_reducible exact Nat.ne_of_lt hc9.2.2.2.2.2) | (with_reducible exact Nat.ne_of_gt hc9.2.2.2.2.2) | (with_reducible exact Nat.ne_of_lt hc9.2.2.2.2.2.2.1) | (with_reducible exact Nat.ne_of_gt hc9.2.2.2.2.2.2.1) | (with_reducible exact Nat.ne_of_lt hc9.2.2.2.2.2.2) | (with_reducible exact Nat.ne_of_gt hc9.2.2.2.2.2.2) | (with_reducible exact Nat.ne_of_lt hc9.2.2.2.2.2.2.2.1) | (with_reducible exact Nat.ne_of_gt hc9.2.2.2.2.2.2.2.1) | (with_reducible exact Nat.ne_of_lt hc9.2.2.2.2.2.2.2) | (with_reducible exact Nat.ne_of_gt hc9.2.2.2.2.2.2.2) | (with_reducible exact Nat.ne_of_lt hc9.2.2.2.2.2.2.2.2.1) | (with_reducible exact Nat.ne_of_gt hc9.2.2.2.2.2.2.2.2.1) | (with_reducible exact Nat.ne_of_lt hc9.2.2.2.2.2.2.2.2) | (with_reducible exact Nat.ne_of_gt hc9.2.2.2.2.2.2.2.2) | (with_reducible exact Nat.ne_of_lt hc9.2.2.2.2.2.2.2.2.2.1) | (with_reducible exact Nat.ne_of_gt hc9.2.2.2.2.2.2.2.2.2.1) | (with_reducible exact Nat.ne_of_lt hc9.2.2.2.2.2.2.2.2.2) | (with_reducible exact Nat.ne_of_gt hc9.2.2.2.2.2.2.2.2.2) | (with_reducible exact Nat.ne_of_lt hc9.2.2.2.2.2.2.2.2.2.2.1) | (with_reducible exact Nat.ne_of_gt hc9.2.2.2.2.2.2.2.2.2.2.1) | (with_reducible exact Nat.ne_of_lt hc9.2.2.2.2.2.2.2.2.2.2) | (with_reducible exact Nat.ne_of_gt hc9.2.2.2.2.2.2.2.2.2.2) | (with_reducible exact Nat.ne_of_lt hc9.2.2.2.2.2.2.2.2.2.2.2.1) | (with_reducible exact Nat.ne_of_gt hc9.2.2.2.2.2.2.2.2.2.2.2.1) | (with_reducible exact Nat.ne_of_lt hc9.2.2.2.2.2.2.2.2.2.2.2) | (with_reducible exact Nat.ne_of_gt hc9.2.2.2.2.2.2.2.2.2.2.2) | (with_reducible exact Nat.ne_of_lt hc9.2.2.2.2.2.2.2.2.2.2.2.2.1) | (with_reducible exact Nat.ne_of_gt hc9.2.2.2.2.2.2.2.2.2.2.2.2.1) | (with_reducible exact Nat.ne_of_lt hc9.2.2.2.2.2.2.2.2.2.2.2.2) | (with_reducible exact Nat.ne_of_gt hc9.2.2.2.2.2.2.2.2.2.2.2.2) | (with_reducible exact Nat.ne_of_lt hc9.2.2.2.2.2.2.2.2.2.2.2.2.2.1) | (with_reducible exact Nat.ne_of_gt hc9.2.2.2.2.2.2.2.2.2.2.2.2.2.1) | (with_reducible exact Nat.ne_of_lt hc9.2.2.2.2.2.2.2.2.2.2.2.2.2) | (with_reducible exact Nat.ne_of_gt hc9.2.2.2.2.2.2.2.2.2.2.2.2.2) | (clear hc9; k_extra "M nec")) | ((rename (_ ≠ _) ∧ _ => hc9); first | (with_reducible exact hc9.1) | (with_reducible exact Ne.symm hc9.1) | (with_reducible exact hc9) | (with_reducible exact Ne.symm hc9) | (with_reducible exact hc9.2.1) | (with_reducible exact Ne.symm hc9.2.1) | (with_reducible exact hc9.2) | (with_reducible exact Ne.symm hc9.2) | (with_reducible exact hc9.2.2.1) | (with_reducible exact Ne.symm hc9.2.2.1) | (with_reducible exact hc9.2.2) | (with_reducible exact Ne.symm hc9.2.2) | (with_reducible exact hc9.2.2.2.1) | (with_reducible exact Ne.symm hc9.2.2.2.1) | (with_reducible exact hc9.2.2.2) | (with_reducible exact Ne.symm hc9.2.2.2) | (with_reducible exact hc9.2.2.2.2.1) | (with_reducible exact Ne.symm hc9.2.2.2.2.1) | (with_reducible exact hc9.2.2.2.2) | (with_reducible exact Ne.symm hc9.2.2.2.2) | (with_reducible exact hc9.2.2.2.2.2.1) | (with_reducible exact Ne.symm hc9.2.2.2.2.2.1) | (with_reducible exact hc9.2.2.2.2.2) | (with_reducible exact Ne.symm hc9.2.2.2.2.2) | (with_reducible exact hc9.2.2.2.2.2.2.1) | (with_reducible exact Ne.symm hc9.2.2.2.2.2.2.1) | (with_reducible exact hc9.2.2.2.2.2.2) | (with_reducible exact Ne.symm hc9.2.2.2.2.2.2) | (with_reducible exact hc9.2.2.2.2.2.2.2.1) | (with_reducible exact Ne.symm hc9.2.2.2.2.2.2.2.1) | (with_reducible exact hc9.2.2.2.2.2.2.2) | (with_reducible exact Ne.symm hc9.2.2.2.2.2.2.2) | (with_reducible exact hc9.2.2.2.2.2.2.2.2.1) | (with_reducible exact Ne.symm hc9.2.2.2.2.2.2.2.2.1) | (with_reducible exact hc9.2.2.2.2.2.2.2.2) | (with_reducible exact Ne.symm hc9.2.2.2.2.2.2.2.2) | (with_reducible exact hc9.2.2.2.2.2.2.2.2.2.1) | (with_reducible exact Ne.symm hc9.2.2.2.2.2.2.2.2.2.1) | (with_reducible exact hc9.2.2.2.2.2.2.2.2.2) | (with_reducible exact Ne.symm hc9.2.2.2.2.2.2.2.2.2) | (with_reducible exact hc9.2.2.2.2.2.2.2.2.2.2.1) | (with_reducible exact Ne.symm hc9.2.2.2.2.2.2.2.2.2.2.1) | (with_reducible exact hc9.2.2.2.2.2.2.2.2.2.2) | (with_reducible exact Ne.symm hc9.2.2.2.2.2.2.2.2.2.2) | (with_reducible exact hc9.2.2.2.2.2.2.2.2.2.2.2.1) | (with_reducible exact Ne.symm hc9.2.2.2.2.2.2.2.2.2.2.2.1) | (with_reducible exact hc9.2.2.2.2.2.2.2.2.2.2.2) | (with_reducible exact Ne.symm hc9.2.2.2.2.2.2.2.2.2.2.2) | (with_reducible exact hc9.2.2.2.2.2.2.2.2.2.2.2.2.1) | (with_reducible exact Ne.symm hc9.2.2.2.2.2.2.2.2.2.2.2.2.1) | (with_reducible exact hc9.2.2.2.2.2.2.2.2.2.2.2.2) | (with_reducible exact Ne.symm hc9.2.2.2.2.2.2.2.2.2.2.2.2) | (with_reducible exact hc9.2.2.2.2.2.2.2.2.2.2.2.2.2.1) | (with_reducible exact Ne.symm hc9.2.2.2.2.2.2.2.2.2.2.2.2.2.1) | (with_reducible exact hc9.2.2.2.2.2.2.2.2.2.2.2.2.2) | (with_reducible exact Ne.symm hc9.2.2.2.2.2.2.2.2.2.2.2.2.2) | (clear hc9; k_extra "M nec")) | ((rename ((_ ≠ _) ∧ _) ∧ _ => hc9); first | (with_reducible exact hc9.1.1) | (with_reducible exact Ne.symm hc9.1.1) | (with_reducible exact hc9.1.2.1) | (with_reducible exact Ne.symm hc9.1.2.1) | (with_reducible exact hc9.1.2.2) | (with_reducible exact Ne.symm hc9.1.2.2) | (with_reducible exact hc9.1) | (with_reducible exact Ne.symm hc9.1) | (with_reducible exact hc9.2.1) | (with_reducible exact Ne.symm hc9.2.1) | (with_reducible exact hc9.2.2) | (with_reducible exact Ne.symm hc9.2.2) | (with_reducible exact hc9.2.1.1) | (with_reducible exact Ne.symm hc9.2.1.1) | (with_reducible exact hc9.2.1.2.1) | (with_reducible exact Ne.symm hc9.2.1.2.1) | (with_reducible exact hc9.2.1.2.2) | (with_reducible exact Ne.symm hc9.2.1.2.2) | (with_reducible exact hc9.2.2.1) | (with_reducible exact Ne.symm hc9.2.2.1) | (with_reducible exact hc9.2.2.2) | (with_reducible exact Ne.symm hc9.2.2.2) | (with_reducible exact hc9.2.2.1.1) | (with_reducible exact Ne.symm hc9.2.2.1.1) | (with_reducible exact hc9.2.2.1.2.1) | (with_reducible exact Ne.symm hc9.2.2.1.2.1) | (with_reducible exact hc9.2.2.1.2.2) | (with_reducible exact Ne.symm hc9.2.2.1.2.2) | (with_reducible exact hc9.2.2.2.1) | (with_reducible exact Ne.symm hc9.2.2.2.1) | (with_reducible exact hc9.2.2.2.2) | (with_reducible exact Ne.symm hc9.2.2.2.2) | (with_reducible exact hc9.2.2.2.1.1) | (with_reducible exact Ne.symm hc9.2.2.2.1.1) | (with_reducible exact hc9.2.2.2.1.2.1) | (with_reducible exact Ne.symm hc9.2.2.2.1.2.1) | (with_reducible exact hc9.2.2.2.1.2.2) | (with_reducible exact Ne.symm hc9.2.2.2.1.2.2) | (with_reducible exact hc9.2.2.2.2.1) | (with_reducible exact Ne.symm hc9.2.2.2.2.1) | (with_reducible exact hc9.2.2.2.2.2) | (with_reducible exact Ne.symm hc9.2.2.2.2.2) | (with_reducible exact hc9.2.2.2.2.1.1) | (with_reducible exact Ne.symm hc9.2.2.2.2.1.1) | (with_reducible exact hc9.2.2.2.2.1.2.1) | (with_reducible exact Ne.symm hc9.2.2.2.2.1.2.1) | (with_reducible exact hc9.2.2.2.2.1.2.2) | (with_reducible exact Ne.symm hc9.2.2.2.2.1.2.2) | (with_reducible exact hc9.2.2.2.2.2.1) | (with_reducible exact Ne.symm hc9.2.2.2.2.2.1) | (with_reducible exact hc9.2.2.2.2.2.2) | (with_reducible exact Ne.symm hc9.2.2.2.2.2.2) | (with_reducible exact hc9.2.2.2.2.2.1.1) | (with_reducible exact Ne.symm hc9.2.2.2.2.2.1.1) | (with_reducible exact hc9.2.2.2.2.2.1.2.1) | (with_reducible exact Ne.symm hc9.2.2.2.2.2.1.2.1) | (with_reducible exact hc9.2.2.2.2.2.1.2.2) | (with_reducible exact Ne.symm hc9.2.2.2.2.2.1.2.2) | (with_reducible exact hc9.2.2.2.2.2.2.1) | (with_reducible exact Ne.symm hc9.2.2.2.2.2.2.1) | (with_reducible exact hc9.2.2.2.2.2.2.2) | (with_reducible exact Ne.symm hc9.2.2.2.2.2.2.2) | (with_reducible exact hc9.2.2.2.2.2.2.1.1) | (with_reducible exact Ne.symm hc9.2.2.2.2.2.2.1.1) | (with_reducible exact hc9.2.2.2.2.2.2.1.2.1) | (with_reducible exact Ne.symm hc9.2.2.2.2.2.2.1.2.1) | (with_reducible exact hc9.2.2.2.2.2.2.1.2.2) | (with_reducible exact Ne.symm hc9.2.2.2.2.2.2.1.2.2) | (with_reducible exact hc9.2.2.2.2.2.2.2.1) | (with_reducible exact Ne.symm hc9.2.2.2.2.2.2.2.1) | (with_reducible exact hc9.2.2.2.2.2.2.2.2) | (with_reducible exact Ne.symm hc9.2.2.2.2.2.2.2.2) | (with_reducible exact hc9.2.2.2.2.2.2.2.1.1) | (with_reducible exact Ne.symm hc9.2.2.2.2.2.2.2.1.1) | (with_reducible exact hc9.2.2.2.2.2.2.2.1.2.1) | (with_reducible exact Ne.symm hc9.2.2.2.2.2.2.2.1.2.1) | (with_reducible exact hc9.2.2.2.2.2.2.2.1.2.2) | (with_reducible exact Ne.symm hc9.2.2.2.2.2.2.2.1.2.2) | (with_reducible exact hc9.2.2.2.2.2.2.2.2.1) | (with_reducible exact Ne.symm hc9.2.2.2.2.2.2.2.2.1) | (with_reducible exact hc9.2.2.2.2.2.2.2.2.2) | (with_reducible exact Ne.symm hc9.2.2.2.2.2.2.2.2.2) | (with_reducible exact hc9.2.2.2.2.2.2.2.2.1.1) | (with_reducible exact Ne.symm hc9.2.2.2.2.2.2.2.2.1.1) | (with_reducible exact hc9.2.2.2.2.2.2.2.2.1.2.1) | (with_reducible exact Ne.symm hc9.2.2.2.2.2.2.2.2.1.2.1) | (with_reducible exact hc9.2.2.2.2.2.2.2.2.1.2.2) | (with_reducible exact Ne.symm hc9.2.2.2.2.2.2.2.2.1.2.2) | (with_reducible exact hc9.2.2.2.2.2.2.2.2.2.1) | (with_reducible exact Ne.symm hc9.2.2.2.2.2.2.2.2.2.1) | (with_reducible exact hc9.2.2.2.2.2.2.2.2.2.2) | (with_reducible exact Ne.symm hc9.2.2.2.2.2.2.2.2.2.2) | (with_reducible exact hc9.2.2.2.2.2.2.2.2.2.1.1) | (with_reducible exact Ne.symm hc9.2.2.2.2.2.2.2.2.2.1.1) | (with_reducible exact hc9.2.2.2.2.2.2.2.2.2.1.2.1) | (with_reducible exact Ne.symm hc9.2.2.2.2.2.2.2.2.2.1.2.1) | (with_reducible exact hc9.2.2.2.2.2.2.2.2.2.1.2.2) | (with_reducible exact Ne.symm hc9.2.2.2.2.2.2.2.2.2.1.2.2) | (with_reducible exact hc9.2.2.2.2.2.2.2.2.2.2.1) | (with_reducible exact Ne.symm hc9.2.2.2.2.2.2.2.2.2.2.1) | (with_reducible exact hc9.2.2.2.2.2.2.2.2.2.2.2) | (with_reducible exact Ne.symm hc9.2.2.2.2.2.2.2.2.2.2.2) | (with_reducible exact hc9.2.2.2.2.2.2.2.2.2.2.1.1) | (with_reducible exact Ne.symm hc9.2.2.2.2.2.2.2.2.2.2.1.1) | (with_reducible exact hc9.2.2.2.2.2.2.2.2.2.2.1.2.1) | (with_reducible exact Ne.symm hc9.2.2.2.2.2.2.2.2.2.2.1.2.1) | (with_reducible exact hc9.2.2.2.2.2.2.2.2.2.2.1.2.2) | (with_reducible exact Ne.symm hc9.2.2.2.2.2.2.2.2.2.2.1.2.2) | (with_reducible exact hc9.2.2.2.2.2.2.2.2.2.2.2.1) | (with_reducible exact Ne.symm hc9.2.2.2.2.2.2.2.2.2.2.2.1) | (with_reducible exact hc9.2.2.2.2.2.2.2.2.2.2.2.2) | (with_reducible exact Ne.symm hc9.2.2.2.2.2.2.2.2.2.2.2.2) | (clear hc9; k_extra "M nec")))
  k_with "M enter" => ((refine' code_defG ?k1 ?k2 ?k3 ?k4 ?k5 ?kA ?kF ?kK ?k6 ?k7 ?k8 ?k9 ?kB ?_ ?c2 ?c3 ?c4 ?c5; (case kA => exact rfl); (case kF => exact rfl); (case kK => first | assumption | exact rfl); (case k1 => k_asm); (case k2 => k_asm); (case k3 => k_asm); (case k4 => k_asm); (case k5 => k_asm); (case k6 => k_is); (case k7 => k_is); (case k8 => ktr_room); (case k9 => exact BindsTo.of_eq rfl); (case c5 => decide); (case kB => exact locs rfl); (case c2 => exact rfl); (case c3 => exact rfl); (case c4 => exact rfl); k_whole; intro g' L' h' FG' F' N' B' X' T' kG'; (try dsimp only at F' N' kG' ⊢); (try k_fold)))
  k_with "M enterC" => ((refine' enterCells ?k1 ?k2 ?k3 ?k4 ?k5 ?kA ?kF ?kK ?k6 ?k7 ?k8 ?k9 ?kB ?kD ?_ ?c2 ?c3 ?c4; (case kA => exact rfl); (case kF => exact rfl); (case kK => first | assumption | exact rfl); (case k1 => k_asm); (case k2 => k_asm); (case k3 => k_asm); (case k4 => k_asm); (case k5 => k_asm); (case k6 => k_is); (case k7 => k_is); (case k8 => ktr_room); (case k9 => exact BindsTo.of_eq rfl); (case kB => exact rfl); (case kD => decide +kernel); (case c2 => exact rfl); (case c3 => exact rfl); (case c4 => exact rfl); k_whole; intro g' L' h' tk' cells' FG' F' N' Y' B' X' T' kG' l1 l2; (try k_lt l1); k_cells Y'; (try simp only [List.cons_append, List.nil_append] at N'); (try dsimp only at F' N' kG' ⊢); (try k_fold)))
  k_with "M sub" => ((first | exact List.forall_mem_nil _ | (refine List.forall_mem_cons.mpr ⟨?kms1, ?kms2⟩; (case kms1 => (intro hW; first | k_mem | (refine (hW ?_).elim; k_mem))); (case kms2 => k_extra "M sub"))))
  k_with "subscriptTail Name Constant ref int" => ((k_here; (with_reducible show wpAny _ _ (subscriptTail _ _ (Value.ref _) (Value.int _ _)) _ _ _); kim_at))
  k_with "call builtin:divmod" => ((k_here; (with_reducible show wpAny _ _ (call (Value.builtin _) [Value.int _ _, Value.int _ _]) _ _ _); k_dflt (refine' divmod_K ?k1 ?k2 ?k3 ?k4 ?_; (case k1 => k_asm); (case k2 => k_asm); (case k3 => omega); (case k4 => exact PyProof.noPylong_small (by omega)); k_whole); intro D' h' t1 t2 F' N' l1; (try k_lt l1); (try k_sweep)))
  k_with "call ref" => ((k_here; (with_reducible show wpAny _ _ (call (Value.ref 107) _ _) _ _ _); k_dflt (refine' draw_use ?k1 ?k2 ?k3 ?k4 ?k5 ?k6 ?k7 ?k8 ?b1 ?b2 ?b3 ?b4 ?b5 ?_; (case k1 => k_asm); (case k2 => k_asm); (case k3 => k_asm); (case k4 => k_asm); (case k5 => first | exact rfl | assumption); (case k6 => ktr_room); (case k7 => k_asm); (case k8 => k_updF); (case b1 => omega); (case b2 => omega); (case b3 => omega); (case b4 => omega); (case b5 => omega)); intro h' tk' n' c' t' u' k' d' td' K' F' N' b1 b2 b3 b4 b5; (try dsimp only at N'); (try k_sweep); (try k_fold)))
  k_with "call builtin:len" => ((k_here; (with_reducible show wpAny _ _ (call (Value.builtin "len") [Value.ref _]) _ _ _); k_dflt (first | (refine' len_tupA ?k1 ?k2 ?k3 ?_; (case k1 => k_asm); (case k2 => k_mem); (case k3 => omega)) | (refine' len_lstA ?k1 ?k2 ?k3 ?_; (case k1 => k_asm); (case k2 => k_mem); (case k3 => omega))); intro t' tk'; (try simp only [List.length_cons, List.length_nil])))
  k_with "subscriptTail Name Call ref int" => ((k_here; (with_reducible show wpAny _ _ (subscriptTail _ _ (Value.ref _) (Value.int _ _)) _ _ _); k_dflt (refine' tup_item_any ?k1 ?k2 ?k3 ?k4 ?k5 ?_ ?k6 ?k7; (case k1 => k_asm); (case k2 => k_mem); (case k3 => omega); (case k4 => omega); (case k5 => omega); (case k6 => with_unfolding_all rfl); (case k7 => (intro _; with_unfolding_all rfl))); intro x' hx' hxm'; (try k_fold)))
  k_with "call ref" => ((k_here; (with_reducible show wpAny _ _ (call (Value.ref 114) _ _) _ _ _); k_dflt (refine' pick_use ?k1 ?k2 ?k3 ?k4 ?k5 ?k6 ?k7 ?k8 ?k9 ?kA ?b1 ?b2 ?b3 ?b4 ?b5 ?_; (case k1 => k_asm); (case k2 => k_asm); (case k3 => k_asm); (case k4 => k_asm); (case k5 => first | exact rfl | assumption); (case k6 => ktr_room); (case k7 => k_asm); (case k8 => k_updF); (case k9 => k_mem); (case kA => (refine neN ?_; omega)); (case b1 => omega); (case b2 => omega); (case b3 => omega); (case b4 => (simp only [List.length_cons, List.length_nil]; omega)); (case b5 => (simp only [List.length_cons, List.length_nil]; omega))); intro h' tk' n' c' t' u' k' x' K' F' N' b1 b2 b3 b4; (try dsimp only at N'); (try k_sweep); (try k_fold)))
  k_with "binaryOp Mult ref int" => ((k_here; (with_reducible show wpAny _ _ (binaryOp Operator.Mult (Value.ref _) (Value.int _ _)) _ _ _); k_dflt (refine' tup_mul ?k1 ?k2 ?k3 ?k4 ?k5 ?_ ?_ ?_; (case k1 => k_asm); (case k2 => k_asm); (case k3 => k_mem); (case k4 => omega); (case k5 => omega)); (all_goals (intro hx9; (try (exfalso; omega; done)))); (all_goals (try (intro D' h' F' N' l1; (try k_lt l1); (try k_sweep)))); (all_goals (try k_unmd)); (all_goals (try k_fold))))
  k_with "subscriptTail Name Slice ref ref" => ((k_here; (with_reducible show wpAny _ _ (subscriptTail _ _ (Value.ref _) (Value.ref _)) _ _ _); k_dflt (refine' cut_tail ?k1 ?k2 ?k3 ?k4 ?_ ?_ ?k5 ?k6; (case k1 => k_asm); (case k2 => k_asm); (case k3 => k_mem); (case k4 => omega); (case k5 => with_unfolding_all rfl); (case k6 => (intro _; with_unfolding_all rfl))); (all_goals intro hx9); (all_goals (first | (intro D' h' F' N' l1; (try k_lt l1); (try k_sweep)) | (intro h' F' N'; (try k_sweep)))); (all_goals (try k_unmd)); (all_goals (try k_fold))))
  k_with "CompSrc" => ((k_here; k_dflt (refine LCg.CompSrc.range (by rfl) (by k_asm) (by k_asm) (by assumption) (by first | decide | rfl) (by first | rfl | decide) (by first | size_fits | exact Nat.le_of_ble_eq_true rfl) ?_; intro gc'; lcg_lit)))
  k_with "execs nil" => ((k_here; (with_reducible refine wpAny_execs_nil ?_)))
  k_with "eval ListComp" => ((k_here; lct_look; k_dflt (refine LCt.ListComp_T (F₀ := by k_asm) (by with_unfolding_all rfl) (by decide) (by rfl) (by decide) (by rfl) ?_)))
  k_with "M ints" => (first | exact IntsAre.nil | exact IntsAre.cons _ _ .nil | exact IntsAre.cons _ _ (.cons _ _ .nil) | exact IntsAre.cons _ _ (.cons _ _ (.cons _ _ .nil)) | assumption)
  k_with "call ref" => ((k_here; (with_reducible show wpAny _ _ (call (Value.ref 22) _ _) _ _ _); refine wpAny_call ?_; k_dflt (k_extra "M enter")))
  k_with "M test" => ((unfold TestEnd; refine ⟨?t1, _, _, rfl, ?t2, ?t3⟩; (case t1 => first | exact rfl | exact inR_lt (by omega) | exact inR_neg (by omega)); (case t2 => k_asm); (case t3 => k_asm)))
  k_with "compareOp Eq ref ref" => ((k_here; k_dflt (refine' eq_tup_nil ?k1 ?k2 ?k3 ?k4 ?_; (case k1 => k_asm); (case k2 => k_mem); (case k3 => k_mem); (case k4 => first | units_room | exact Nat.le_of_ble_eq_true rfl)); (try simp only [List.size_toArray, List.length_cons, List.length_nil])))
  k_with "call ref" => ((k_here; (with_reducible show wpAny _ _ (call (Value.ref 93) _ _) _ _ _); (try simp only [List.nil_append]); refine wpAny_call ?_; k_dflt (k_extra "M enter")))
  k_with "call ref" => ((k_here; (with_reducible show wpAny _ _ (call (Value.ref 126) _ _) _ _ _); refine wpAny_call ?_; k_dflt (k_extra "M enter")))
  k_with "compareOp NotIn int ref" => ((k_here; (with_reducible show wpAny _ _ (compareOp CmpOp.NotIn (Value.int _ _) (Value.ref _)) _ _ _); k_dflt (refine notin_range (by assumption) ?_)))
  k_with "eval ListComp" => ((k_here; lct_look; k_dflt (first | refine ListComp_Tup (iter := Expr.Subscript _ _ _) (_F := by k_asm) (by with_unfolding_all rfl) (by decide) (by rfl) (by decide) (by rfl) ?_ | refine LCt.ListComp_T (F₀ := by k_asm) (by with_unfolding_all rfl) (by decide) (by rfl) (by decide) (by rfl) ?_)))
  k_with "CompSrcU" => ((k_here; refine sealUOf ?_))
  k_with "subscriptTail Name Slice ref ref" => ((k_here; (with_reducible show wpAny _ _ (subscriptTail _ _ (Value.ref _) (Value.ref _)) _ _ _); k_dflt (refine' tail_from ?k1 ?k2 ?k3 ?k4 ?_ ?k5 ?k6; (case k1 => k_asm); (case k2 => k_asm); (case k3 => k_mem); (case k4 => (simp only [List.length_cons, List.length_nil]; omega)); (case k5 => with_unfolding_all rfl); (case k6 => (intro _; with_unfolding_all rfl))); intro D' h' F' N' l1; (try k_lt l1); (try k_sweep)))
  k_with "M strs6" => (first | exact List.forall_mem_nil _ | (refine List.forall_mem_cons.mpr ⟨⟨_, _, rfl⟩, ?_⟩; k_extra "M strs6"))
  k_with "compareOp NotIn int ref" => ((k_here; (with_reducible show wpAny _ _ (compareOp CmpOp.NotIn (Value.int _ _) (Value.ref _)) _ _ _); k_dflt (first | refine notin_range (by assumption) ?_ | (refine' notin_strs ?k1 ?k2 ?k3 ?_; (case k1 => k_asm); (case k2 => k_mem); (case k3 => k_extra "M strs6")))))
  k_with "call ref" => ((k_here; (with_reducible show wpAny _ _ (call (Value.ref 93) _) _ _ _); k_dflt (refine' parts_use ?k1 ?k2 ?k3 ?k4 ?k5 ?k6 ?k7 ?_; (case k1 => k_asm); (case k2 => k_asm); (case k3 => k_asm); (case k4 => k_asm); (case k5 => first | exact rfl | assumption); (case k6 => ktr_room); (case k7 => k_asm)); (iterate 4 intro _); (iterate 26 intro _); intro KP F' N' lo' hd' hf'; (try k_sweep); (try k_fold)))
  k_with "M memt" => (first | (with_reducible assumption) | ((with_reducible refine List.mem_cons_of_mem _ ?_); k_extra "M memt"))
  k_with "M subv" => (first | exact List.forall_mem_nil _ | ((with_reducible refine List.forall_mem_cons.mpr ⟨?kms1, ?kms2⟩); (case kms1 => k_mem); (case kms2 => k_extra "M subv")) | (intro p8 hp8; k_extra "M memt"))
  k_with "M sub" => ((first | exact List.forall_mem_nil _ | (refine List.forall_mem_cons.mpr ⟨?kms1, ?kms2⟩; (case kms1 => (intro hW; first | k_mem | (refine (hW ?_).elim; k_mem))); (case kms2 => k_extra "M sub")) | (intro p8 hp8 hW8; k_extra "M memt")))
  k_with "M size" => (first | exact size_few (by first | omega | (simp only [List.length_append, List.length_cons, List.length_nil]; omega)) | size_fits)
  k_with "call builtin:list.append" => ((k_here; (with_reducible show wpAny _ _ (call (Value.builtin _) [Value.ref _, _]) _ _ _); k_dflt (refine' append_K ?k1 ?k2 ?k3 ?_ ?z; (case k1 => k_asm); (case k2 => k_asm); (case k3 => k_upd); (case z => k_extra "M size")); intro h' F' N'; (try k_sweep)))
  exact True.intro
end Mine
set_option maxRecDepth 100000 in
set_option maxHeartbeats 8000000 in
theorem PySem.Challenge.cw_pq0627_01_holds : PySem.Challenge.rw_pq0627_01.Holds := by
  exact Mine.law_holds
