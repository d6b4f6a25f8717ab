import PyProof.Rows.All
import Wide.All
import OpenK.AllK
import Wide.FinOn
import KE.KEqDict
import Lean
import PySem.Challenge.RW_pb0358_01
set_option Elab.async false
set_option linter.all false
set_option maxRecDepth 100000
set_option genSizeOf false
open PySem PySem.W PyProof.Rows PyProof.V
namespace Mine
theorem kE {α0:Type} {P0:α0→Prop} {g:Prop} (h:∃ a,P0 a) (k:∀ a,P0 a→g):g:=(h).elim fun a h=>k a (h)
theorem kA {P0:Prop} {P1:Prop} {g:Prop} (h:P0∧P1) (k:P0→P1→g):g:=(h).elim fun h1 h=>k h1 (h)
theorem kEE {α0 α1:Type} {P0:α0→α1→Prop} {g:Prop} (h:∃ a,∃ b,P0 a b) (k:∀ a,∀ b,P0 a b→g):g:=(h).elim fun a h=>(h).elim fun b h=>k a b (h)
theorem kEA {α0:Type} {P0:α0→Prop} {P1:α0→Prop} {g:Prop} (h:∃ a,P0 a∧P1 a) (k:∀ a,P0 a→P1 a→g):g:=(h).elim fun a h=>(h).elim fun h1 h=>k a h1 (h)
theorem kAA {P0:Prop} {P1:Prop} {P2:Prop} {g:Prop} (h:P0∧P1∧P2) (k:P0→P1→P2→g):g:=(h).elim fun h1 h=>(h).elim fun h2 h=>k h1 h2 (h)
theorem kEEE {α0 α1 α2:Type} {P0:α0→α1→α2→Prop} {g:Prop} (h:∃ a,∃ b,∃ c,P0 a b c) (k:∀ a,∀ b,∀ c,P0 a b c→g):g:=(h).elim fun a h=>(h).elim fun b h=>(h).elim fun c h=>k a b c (h)
theorem kEEA {α0 α1:Type} {P0:α0→α1→Prop} {P1:α0→α1→Prop} {g:Prop} (h:∃ a,∃ b,P0 a b∧P1 a b) (k:∀ a,∀ b,P0 a b→P1 a b→g):g:=(h).elim fun a h=>(h).elim fun b h=>(h).elim fun h1 h=>k a b h1 (h)
theorem kEAA {α0:Type} {P0:α0→Prop} {P1:α0→Prop} {P2:α0→Prop} {g:Prop} (h:∃ a,P0 a∧P1 a∧P2 a) (k:∀ a,P0 a→P1 a→P2 a→g):g:=(h).elim fun a h=>(h).elim fun h1 h=>(h).elim fun h2 h=>k a h1 h2 (h)
theorem kAAA {P0:Prop} {P1:Prop} {P2:Prop} {P3:Prop} {g:Prop} (h:P0∧P1∧P2∧P3) (k:P0→P1→P2→P3→g):g:=(h).elim fun h1 h=>(h).elim fun h2 h=>(h).elim fun h3 h=>k h1 h2 h3 (h)
theorem kEEEA {α0 α1 α2:Type} {P0:α0→α1→α2→Prop} {P1:α0→α1→α2→Prop} {g:Prop} (h:∃ a,∃ b,∃ c,P0 a b c∧P1 a b c) (k:∀ a,∀ b,∀ c,P0 a b c→P1 a b c→g):g:=(h).elim fun a h=>(h).elim fun b h=>(h).elim fun c h=>(h).elim fun h1 h=>k a b c h1 (h)
theorem kEEAA {α0 α1:Type} {P0:α0→α1→Prop} {P1:α0→α1→Prop} {P2:α0→α1→Prop} {g:Prop} (h:∃ a,∃ b,P0 a b∧P1 a b∧P2 a b) (k:∀ a,∀ b,P0 a b→P1 a b→P2 a b→g):g:=(h).elim fun a h=>(h).elim fun b h=>(h).elim fun h1 h=>(h).elim fun h2 h=>k a b h1 h2 (h)
theorem kEAAA {α0:Type} {P0:α0→Prop} {P1:α0→Prop} {P2:α0→Prop} {P3:α0→Prop} {g:Prop} (h:∃ a,P0 a∧P1 a∧P2 a∧P3 a) (k:∀ a,P0 a→P1 a→P2 a→P3 a→g):g:=(h).elim fun a h=>(h).elim fun h1 h=>(h).elim fun h2 h=>(h).elim fun h3 h=>k a h1 h2 h3 (h)
theorem kAAAA {P0:Prop} {P1:Prop} {P2:Prop} {P3:Prop} {P4:Prop} {g:Prop} (h:P0∧P1∧P2∧P3∧P4) (k:P0→P1→P2→P3→P4→g):g:=(h).elim fun h1 h=>(h).elim fun h2 h=>(h).elim fun h3 h=>(h).elim fun h4 h=>k h1 h2 h3 h4 (h)
theorem kEEEEA {α0 α1 α2 α3:Type} {P0:α0→α1→α2→α3→Prop} {P1:α0→α1→α2→α3→Prop} {g:Prop} (h:∃ a,∃ b,∃ c,∃ d,P0 a b c d∧P1 a b c d) (k:∀ a,∀ b,∀ c,∀ d,P0 a b c d→P1 a b c d→g):g:=(h).elim fun a h=>(h).elim fun b h=>(h).elim fun c h=>(h).elim fun d h=>(h).elim fun h1 h=>k a b c d h1 (h)
theorem kEEEAA {α0 α1 α2:Type} {P0:α0→α1→α2→Prop} {P1:α0→α1→α2→Prop} {P2:α0→α1→α2→Prop} {g:Prop} (h:∃ a,∃ b,∃ c,P0 a b c∧P1 a b c∧P2 a b c) (k:∀ a,∀ b,∀ c,P0 a b c→P1 a b c→P2 a b c→g):g:=(h).elim fun a h=>(h).elim fun b h=>(h).elim fun c h=>(h).elim fun h1 h=>(h).elim fun h2 h=>k a b c h1 h2 (h)
theorem kEEAAA {α0 α1:Type} {P0:α0→α1→Prop} {P1:α0→α1→Prop} {P2:α0→α1→Prop} {P3:α0→α1→Prop} {g:Prop} (h:∃ a,∃ b,P0 a b∧P1 a b∧P2 a b∧P3 a b) (k:∀ a,∀ b,P0 a b→P1 a b→P2 a b→P3 a b→g):g:=(h).elim fun a h=>(h).elim fun b h=>(h).elim fun h1 h=>(h).elim fun h2 h=>(h).elim fun h3 h=>k a b h1 h2 h3 (h)
theorem kEAAAA {α0:Type} {P0:α0→Prop} {P1:α0→Prop} {P2:α0→Prop} {P3:α0→Prop} {P4:α0→Prop} {g:Prop} (h:∃ a,P0 a∧P1 a∧P2 a∧P3 a∧P4 a) (k:∀ a,P0 a→P1 a→P2 a→P3 a→P4 a→g):g:=(h).elim fun a h=>(h).elim fun h1 h=>(h).elim fun h2 h=>(h).elim fun h3 h=>(h).elim fun h4 h=>k a h1 h2 h3 h4 (h)
theorem kAAAAA {P0:Prop} {P1:Prop} {P2:Prop} {P3:Prop} {P4:Prop} {P5:Prop} {g:Prop} (h:P0∧P1∧P2∧P3∧P4∧P5) (k:P0→P1→P2→P3→P4→P5→g):g:=(h).elim fun h1 h=>(h).elim fun h2 h=>(h).elim fun h3 h=>(h).elim fun h4 h=>(h).elim fun h5 h=>k h1 h2 h3 h4 h5 (h)
theorem kEEEAAA {α0 α1 α2:Type} {P0:α0→α1→α2→Prop} {P1:α0→α1→α2→Prop} {P2:α0→α1→α2→Prop} {P3:α0→α1→α2→Prop} {g:Prop} (h:∃ a,∃ b,∃ c,P0 a b c∧P1 a b c∧P2 a b c∧P3 a b c) (k:∀ a,∀ b,∀ c,P0 a b c→P1 a b c→P2 a b c→P3 a b c→g):g:=(h).elim fun a h=>(h).elim fun b h=>(h).elim fun c h=>(h).elim fun h1 h=>(h).elim fun h2 h=>(h).elim fun h3 h=>k a b c h1 h2 h3 (h)
theorem kEAAAAA {α0:Type} {P0:α0→Prop} {P1:α0→Prop} {P2:α0→Prop} {P3:α0→Prop} {P4:α0→Prop} {P5:α0→Prop} {g:Prop} (h:∃ a,P0 a∧P1 a∧P2 a∧P3 a∧P4 a∧P5 a) (k:∀ a,P0 a→P1 a→P2 a→P3 a→P4 a→P5 a→g):g:=(h).elim fun a h=>(h).elim fun h1 h=>(h).elim fun h2 h=>(h).elim fun h3 h=>(h).elim fun h4 h=>(h).elim fun h5 h=>k a h1 h2 h3 h4 h5 (h)
theorem kEEEEAAA {α0 α1 α2 α3:Type} {P0:α0→α1→α2→α3→Prop} {P1:α0→α1→α2→α3→Prop} {P2:α0→α1→α2→α3→Prop} {P3:α0→α1→α2→α3→Prop} {g:Prop} (h:∃ a,∃ b,∃ c,∃ d,P0 a b c d∧P1 a b c d∧P2 a b c d∧P3 a b c d) (k:∀ a,∀ b,∀ c,∀ d,P0 a b c d→P1 a b c d→P2 a b c d→P3 a b c d→g):g:=(h).elim fun a h=>(h).elim fun b h=>(h).elim fun c h=>(h).elim fun d h=>(h).elim fun h1 h=>(h).elim fun h2 h=>(h).elim fun h3 h=>k a b c d h1 h2 h3 (h)
theorem kEEEAAAA {α0 α1 α2:Type} {P0:α0→α1→α2→Prop} {P1:α0→α1→α2→Prop} {P2:α0→α1→α2→Prop} {P3:α0→α1→α2→Prop} {P4:α0→α1→α2→Prop} {g:Prop} (h:∃ a,∃ b,∃ c,P0 a b c∧P1 a b c∧P2 a b c∧P3 a b c∧P4 a b c) (k:∀ a,∀ b,∀ c,P0 a b c→P1 a b c→P2 a b c→P3 a b c→P4 a b c→g):g:=(h).elim fun a h=>(h).elim fun b h=>(h).elim fun c h=>(h).elim fun h1 h=>(h).elim fun h2 h=>(h).elim fun h3 h=>(h).elim fun h4 h=>k a b c h1 h2 h3 h4 (h)
theorem kEEAAAAA {α0 α1:Type} {P0:α0→α1→Prop} {P1:α0→α1→Prop} {P2:α0→α1→Prop} {P3:α0→α1→Prop} {P4:α0→α1→Prop} {P5:α0→α1→Prop} {g:Prop} (h:∃ a,∃ b,P0 a b∧P1 a b∧P2 a b∧P3 a b∧P4 a b∧P5 a b) (k:∀ a,∀ b,P0 a b→P1 a b→P2 a b→P3 a b→P4 a b→P5 a b→g):g:=(h).elim fun a h=>(h).elim fun b h=>(h).elim fun h1 h=>(h).elim fun h2 h=>(h).elim fun h3 h=>(h).elim fun h4 h=>(h).elim fun h5 h=>k a b h1 h2 h3 h4 h5 (h)
theorem kEEEAAAAA {α0 α1 α2:Type} {P0:α0→α1→α2→Prop} {P1:α0→α1→α2→Prop} {P2:α0→α1→α2→Prop} {P3:α0→α1→α2→Prop} {P4:α0→α1→α2→Prop} {P5:α0→α1→α2→Prop} {g:Prop} (h:∃ a,∃ b,∃ c,P0 a b c∧P1 a b c∧P2 a b c∧P3 a b c∧P4 a b c∧P5 a b c) (k:∀ a,∀ b,∀ c,P0 a b c→P1 a b c→P2 a b c→P3 a b c→P4 a b c→P5 a b c→g):g:=(h).elim fun a h=>(h).elim fun b h=>(h).elim fun c h=>(h).elim fun h1 h=>(h).elim fun h2 h=>(h).elim fun h3 h=>(h).elim fun h4 h=>(h).elim fun h5 h=>k a b c h1 h2 h3 h4 h5 (h)
theorem kAAAEA {α0:Type} {P0:Prop} {P1:Prop} {P2:Prop} {P3:α0→Prop} {P4:α0→Prop} {g:Prop} (h:P0∧P1∧P2∧∃ a,P3 a∧P4 a) (k:P0→P1→P2→∀ a,P3 a→P4 a→g):g:=(h).elim fun h1 h=>(h).elim fun h2 h=>(h).elim fun h3 h=>(h).elim fun a h=>(h).elim fun h4 h=>k h1 h2 h3 a h4 (h)
theorem kAAE {α0:Type} {P0:Prop} {P1:Prop} {P2:α0→Prop} {g:Prop} (h:P0∧P1∧∃ a,P2 a) (k:P0→P1→∀ a,P2 a→g):g:=(h).elim fun h1 h=>(h).elim fun h2 h=>(h).elim fun a h=>k h1 h2 a (h)
theorem kAAEA {α0:Type} {P0:Prop} {P1:Prop} {P2:α0→Prop} {P3:α0→Prop} {g:Prop} (h:P0∧P1∧∃ a,P2 a∧P3 a) (k:P0→P1→∀ a,P2 a→P3 a→g):g:=(h).elim fun h1 h=>(h).elim fun h2 h=>(h).elim fun a h=>(h).elim fun h3 h=>k h1 h2 a h3 (h)
theorem kAAEAA {α0:Type} {P0:Prop} {P1:Prop} {P2:α0→Prop} {P3:α0→Prop} {P4:α0→Prop} {g:Prop} (h:P0∧P1∧∃ a,P2 a∧P3 a∧P4 a) (k:P0→P1→∀ a,P2 a→P3 a→P4 a→g):g:=(h).elim fun h1 h=>(h).elim fun h2 h=>(h).elim fun a h=>(h).elim fun h3 h=>(h).elim fun h4 h=>k h1 h2 a h3 h4 (h)
theorem kAAEEA {α0 α1:Type} {P0:Prop} {P1:Prop} {P2:α0→α1→Prop} {P3:α0→α1→Prop} {g:Prop} (h:P0∧P1∧∃ a,∃ b,P2 a b∧P3 a b) (k:P0→P1→∀ a,∀ b,P2 a b→P3 a b→g):g:=(h).elim fun h1 h=>(h).elim fun h2 h=>(h).elim fun a h=>(h).elim fun b h=>(h).elim fun h3 h=>k h1 h2 a b h3 (h)
theorem kAAEEE {α0 α1 α2:Type} {P0:Prop} {P1:Prop} {P2:α0→α1→α2→Prop} {g:Prop} (h:P0∧P1∧∃ a,∃ b,∃ c,P2 a b c) (k:P0→P1→∀ a,∀ b,∀ c,P2 a b c→g):g:=(h).elim fun h1 h=>(h).elim fun h2 h=>(h).elim fun a h=>(h).elim fun b h=>(h).elim fun c h=>k h1 h2 a b c (h)
theorem kAE {α0:Type} {P0:Prop} {P1:α0→Prop} {g:Prop} (h:P0∧∃ a,P1 a) (k:P0→∀ a,P1 a→g):g:=(h).elim fun h1 h=>(h).elim fun a h=>k h1 a (h)
theorem kAEA {α0:Type} {P0:Prop} {P1:α0→Prop} {P2:α0→Prop} {g:Prop} (h:P0∧∃ a,P1 a∧P2 a) (k:P0→∀ a,P1 a→P2 a→g):g:=(h).elim fun h1 h=>(h).elim fun a h=>(h).elim fun h2 h=>k h1 a h2 (h)
theorem kAEAA {α0:Type} {P0:Prop} {P1:α0→Prop} {P2:α0→Prop} {P3:α0→Prop} {g:Prop} (h:P0∧∃ a,P1 a∧P2 a∧P3 a) (k:P0→∀ a,P1 a→P2 a→P3 a→g):g:=(h).elim fun h1 h=>(h).elim fun a h=>(h).elim fun h2 h=>(h).elim fun h3 h=>k h1 a h2 h3 (h)
theorem kEAAE {α0 α1:Type} {P0:α0→Prop} {P1:α0→Prop} {P2:α0→α1→Prop} {g:Prop} (h:∃ a,P0 a∧P1 a∧∃ b,P2 a b) (k:∀ a,P0 a→P1 a→∀ b,P2 a b→g):g:=(h).elim fun a h=>(h).elim fun h1 h=>(h).elim fun h2 h=>(h).elim fun b h=>k a h1 h2 b (h)
theorem kEAAEA {α0 α1:Type} {P0:α0→Prop} {P1:α0→Prop} {P2:α0→α1→Prop} {P3:α0→α1→Prop} {g:Prop} (h:∃ a,P0 a∧P1 a∧∃ b,P2 a b∧P3 a b) (k:∀ a,P0 a→P1 a→∀ b,P2 a b→P3 a b→g):g:=(h).elim fun a h=>(h).elim fun h1 h=>(h).elim fun h2 h=>(h).elim fun b h=>(h).elim fun h3 h=>k a h1 h2 b h3 (h)
section
noncomputable def hide (h:Heap) (O:List Addr):Heap:=⟨(h.objs.toList.mapIdx fun i o=>if i∈O then { o with data:=.freed } else o).toArray,h.life⟩
theorem hide_get (h:Heap) (O:List Addr) (a:Addr):(hide h O).get? a=if a∈O then none else h.get? a:=by
  delta Heap.get? hide
  simp only [List.getElem?_toArray,List.getElem?_mapIdx,Array.getElem?_toList]
  cases e:h.objs[a]? with
  | none=>simp
  | some o=>
    by_cases hm:a∈O
    · simp [hm]
    · simp [hm]
theorem hide_some {h:Heap} {O:List Addr} {a:Addr} {o:Obj}:(hide h O).get? a=some o↔a∉O∧h.get? a=some o:=by
  rw [hide_get]
  by_cases hm:a∈O<;>simp [hm]
theorem hide_sub {h:Heap} {O:List Addr}:∀ a o,(hide h O).get? a=some o→h.get? a=some o:=fun _ _ e=>(hide_some.mp e).2
inductive Ky where
  | none
  | int (i:Int)
  | str (x:Str)
  deriving DecidableEq
noncomputable def Ky.of (v:Value):Option Ky:=Value.casesOn (motive:=fun _=>Option Ky) v (some .none) .none .none (fun _=>.none) (fun i _=>some (.int i)) (fun _ _=>.none) (fun x _=>some (.str x)) (fun _ _=>.none) (fun _=>.none) (fun _=>.none) fun _=>.none
noncomputable def Ky.is (k:Ky) (v:Value):Bool:=decide (Ky.of v=some k)
theorem Ky.mk {k:Ky} {v:Value} (h:Ky.of v=some k):k.is v=true:=decide_eq_true h
theorem Ky.elim {k:Ky} {v:Value} (h:k.is v=true) {g:Prop} (h0:k = .none→v = .none→g) (hi:∀ i t,k = .int i→v = .int i t→g) (hs:∀ x t,k = .str x→v = .str x t→g):g:=by
  have h:=of_decide_eq_true h
  cases v with
  | none=>exact h0 (Option.some.inj h).symm rfl
  | int i t=>exact hi i t (Option.some.inj h).symm rfl
  | str x t=>exact hs x t (Option.some.inj h).symm rfl
  | _=>exact nomatch h
noncomputable def nHash:Int:=0xFCA86420
section
variable {prog:Program} {w:World} {A:Around} {E:Value→Shared→Prop} {s:Shared}
theorem pyHash_none {Q:Int→Shared→Prop} (h:Q nHash { s with toks:=s.toks+1 }):wpAny (model prog w) A (pyHash .none) Q E s:=by
  have hT:s.TypeIs .none "NoneType" := rfl
  have hv:[Value.none].any Value.onHeap=false:=rfl
  refine wpAny_bind ?_
  rw [cRoomFor,if_neg (by rw [hv]; exact Bool.false_ne_true)]; refine wpAny_pure ?_
  refine wpAny_bind (wpAny_specialOf hT F.slot_NoneType_hash.lookup ?_)
  refine wpAny_bind (wpAny_specialOf hT F.slot_NoneType_hash.lookup ?_)
  refine wpAny_bind (wpAny_callSpecialIfBoundUnlessNone?_slot hT F.slot_NoneType_hash
    (wpAny_call_entry F.slot_NoneType_hash hT F.entry_NoneType_hash
      (show wpAny _ _ (do ret (← mkInt nHash)) _ _ s from wpAny_ret_mkInt ?_) (F.args_NoneType_hash_1 _)))
  show wpAny _ _ (if (decide (-(2:Int)^63≤nHash)&&decide (nHash<2^63))=true then _ else _) Q E _
  exact wpAny_pure h
theorem eqBool_none {Q:Bool→Shared→Prop} (h:Q true s):wpAny (model prog w) A (eqBool .none .none) Q E s:=by
  unfold eqBool
  exact wpAny_bind (wpAny_rule (wpAny_pure h))
end
noncomputable def kyHash (w:World):Ky→Int
  | .none=>nHash
  | .int i=>hashInt i
  | .str x=>hashStr w x
noncomputable def ky (prog:Program) (w:World):KeyKind prog w Ky where
  is:=Ky.is
  hash:=kyHash w
  inj:=fun v a b ha hb=>Option.some.inj ((of_decide_eq_true ha).symm.trans (of_decide_eq_true hb))
  byValue:=fun k v h=>by refine Ky.elim h (fun e1 e2=>?_) (fun i t e1 e2=>?_) (fun x t e1 e2=>?_)<;>subst e1 e2<;>rfl
  pyHash:=fun hv h=>by
    refine Ky.elim hv (fun e1 e2=>?_) (fun i t e1 e2=>?_) (fun x t e1 e2=>?_)<;>subst e1 e2
    · exact pyHash_none h
    · exact wpAny_pyHash_int h
    · exact wpAny_pyHash_str h
  eqBool:=fun {A E s a b u v Q} hu hv h=>by
    refine Ky.elim hu (fun e1 e2=>?_) (fun i t e1 e2=>?_) (fun x t e1 e2=>?_)<;>subst e1 e2<;>refine Ky.elim hv (fun e1 e2=>?_) (fun j t' e1 e2=>?_) (fun y t' e1 e2=>?_)<;>subst e1 e2
    · exact eqBool_none h
    · exact SeqAt.EqAt.none_int j t' _ _ _ _ h
    · exact SeqAt.EqAt.none_str y t' _ _ _ _ h
    · exact SeqAt.EqAt.int_none i t _ _ _ _ h
    · exact wpAny_eqBool_int ((show (i==j)=decide (Ky.int i=Ky.int j) by by_cases hij:i=j<;>simp [hij])▸h)
    · exact SeqAt.EqAt.int_str i t y t' _ _ _ _ h
    · exact SeqAt.EqAt.str_none x t _ _ _ _ h
    · exact SeqAt.EqAt.str_int x t j t' _ _ _ _ h
    · exact wpAny_eqBool_str ((show decide (x=y)=decide (Ky.str x=Ky.str y) by by_cases hij:x=y<;>simp [hij])▸h)
  «strs»:=fun k x t v h=>by
    obtain rfl:Ky.str x=k:=Option.some.inj (of_decide_eq_true h)
    cases v with
    | str y t'=>exact (show decide (Ky.of (.str y t')=some (.str x))=(y==x) by by_cases hij:y=x<;>simp [Ky.of,hij])
    | _=>rfl
noncomputable def kD:Ky→PyData
  | .none=>.none
  | .int i=>.int i
  | .str x=>.str x
theorem kD_inj {a b:Ky} (h:kD a=kD b):a=b:=by cases a<;>cases b<;>simp_all [kD]
noncomputable abbrev lst (vs:Array Value) (n:Nat):Obj:={ cls:=.type "list",data:=.seq vs n }
noncomputable abbrev tup (vs:Array Value) (n:Nat):Obj:={ cls:=.type "tuple",data:=.seq vs n }
mutual
noncomputable def Rd (w:World) (J:Heap):PyData→Value→Prop
  | .none,v=>v = .none
  | .bool b,v=>v = .bool b
  | .int i,v=>∃ t,v = .int i t
  | .str x,v=>∃ t,v = .str x t
  | .list xs,v=>∃ a vs n,v = .ref a∧J.get? a=some (lst vs n)∧RdL w J xs vs.toList
  | .tuple xs,v=>∃ a vs n,v = .ref a∧J.get? a=some (tup vs n)∧RdL w J xs vs.toList
  | .dict kvs,v=>∃ a o es n,v = .ref a∧(a==sysModules)=false∧J.get? a=some o∧o.ExactDict∧o.data = .dict es n∧RdE w J kvs es.toList∧(kvs.map (·.1)).Nodup
noncomputable def RdL (w:World) (J:Heap):List PyData→List Value→Prop
  | [],vs=>vs=[]
  | x :: xs,vs=>∃ v r,vs=v :: r∧Rd w J x v∧RdL w J xs r
noncomputable def RdE (w:World) (J:Heap):List (PyData×PyData)→List DictEntry→Prop
  | [],es=>es=[]
  | (k,x) :: r,es=>∃ e t,es=e :: t∧(∃ q,k=kD q∧q.is e.key=true∧e.hash=kyHash w q)∧Rd w J x e.val∧RdE w J r t
end
section
variable {w:World} {J J':Heap}
mutual
theorem Rd.mono (hk:∀ b o,J.get? b=some o→J'.get? b=some o):∀ (x:PyData) {v:Value},Rd w J x v→Rd w J' x v
  | .none,v,h=>by simp only [Rd] at *; exact h
  | .bool b,v,h=>by simp only [Rd] at *; exact h
  | .int i,v,h=>by simp only [Rd] at *; exact h
  | .str x,v,h=>by simp only [Rd] at *; exact h
  | .list xs,v,h=>by
    refine kEEEAA h fun a vs n h1 h2 h5=>?_
    exact ⟨a,vs,n,h1,hk _ _ h2,RdL.mono hk xs h5⟩
  | .tuple xs,v,h=>by
    refine kEEEAA h fun a vs n h1 h2 h5=>?_
    exact ⟨a,vs,n,h1,hk _ _ h2,RdL.mono hk xs h5⟩
  | .dict kvs,v,h=>by
    obtain ⟨a,o,es,n,h1,h0,h2,h3,h4,h5,h6⟩:=h
    exact ⟨a,o,es,n,h1,h0,hk _ _ h2,h3,h4,RdE.mono hk kvs h5,h6⟩
theorem RdL.mono (hk:∀ b o,J.get? b=some o→J'.get? b=some o):∀ (xs:List PyData) {vs:List Value},RdL w J xs vs→RdL w J' xs vs
  | [],vs,h=>by dsimp only [RdL] at *; exact h
  | x :: xs,vs,h=>by
    refine kEEAA h fun v r h1 h2 h3=>?_
    exact ⟨v,r,h1,Rd.mono hk x h2,RdL.mono hk xs h3⟩
theorem RdE.mono (hk:∀ b o,J.get? b=some o→J'.get? b=some o):∀ (xs:List (PyData×PyData)) {es:List DictEntry},RdE w J xs es→RdE w J' xs es
  | [],vs,h=>by dsimp only [RdE] at *; exact h
  | (k,x) :: r,vs,h=>by
    refine kEEAAA h fun e t h1 h2 h3 h4=>?_
    exact ⟨e,t,h1,h2,Rd.mono hk x h3,RdE.mono hk r h4⟩
end
end
inductive V where
  | u
  | d (x:PyData)
  | own (k:Nat)
  | inst (k:Nat)
  | ob (fs:List (Str×PyData))
  | rng (n:Nat)
inductive Cell where
  | list (xs:List PyData)
  | dict (kvs:List (PyData×PyData))
  | tdict (kvs:List (List Ky×PyData))
  | ns (fs:List (Str×V))
  | dead
noncomputable def Cell.alive:Cell→Bool
  | .dead=>false
  | _=>true
structure St where
  ρ:List V
  μ:List Cell
set_option genInjectivity false in
structure Gh where
  O:List Addr
  M:List Addr
  as:List Addr
structure Le (h:Heap) (g:Gh) (h':Heap) (g':Gh):Prop where
  same:∀ a o,a∉g.M→h.get? a=some o→h'.get? a=some o
  hid:∀ a o,a∉g.M→h.get? a=some o→(a∈g'.O↔a∈g.O)
  sub:∀ a∈g'.M,a∈g.M∨h.get? a=none
  pre:g.as <+: g'.as
theorem Le.refl (h:Heap) (g:Gh):Le h g h g:=⟨fun _ _ _ e=>e,fun _ _ _ _=>Iff.rfl,fun _ e=>.inl e,List.prefix_refl _⟩
theorem Le.trans {h h' h'':Heap} {g g' g'':Gh} (x:Le h g h' g') (y:Le h' g' h'' g''):Le h g h'' g'':=by
  have nm:∀ a o,a∉g.M→h.get? a=some o→a∉g'.M:=fun a o hm e hm'=>by
    refine Or.elim (x.sub a hm') (fun q=>?_) (fun q=>?_)
    · exact hm q
    · rw [q] at e; cases e
  refine ⟨fun a o hm e=>y.same a o (nm a o hm e) (x.same a o hm e),fun a o hm e=>(y.hid a o (nm a o hm e) (x.same a o hm e)).trans (x.hid a o hm e),fun a hm=>?_,x.pre.trans y.pre⟩
  refine Or.elim (y.sub a hm) (fun q=>?_) (fun q=>?_)
  · exact x.sub a q
  · by_cases hm':a∈g.M
    · exact .inl hm'
    · right
      cases e:h.get? a with
      | none=>rfl
      | some o=>rw [x.same a o hm' e] at q; cases q
noncomputable def Gh.J (g:Gh) (h:Heap):Heap:=hide h g.O
theorem Le.still {h h':Heap} {g g':Gh} (x:Le h g h' g') (hs:∀ a∈g.M,a∈g.O):∀ a o,(g.J h).get? a=some o→(g'.J h').get? a=some o:=fun a o e=>by
  refine kA (hide_some.mp e) fun h1 h2=>?_
  have hm:a∉g.M:=fun q=>h1 (hs a q)
  exact hide_some.mpr ⟨fun q=>h1 ((x.hid a o hm h2).mp q),x.same a o hm h2⟩
set_option genInjectivity false in
structure Gl where
  prog:Program
  w:World
  C:Addr
  h₀:Heap
  mg:Str→Option Value
  mb:Str→Option Value
  g:h₀.Ns mainGlobals mg
  b:h₀.Ns builtinsNs mb
  nolimit:h₀.NoLimit
  builtins:∀ x:Str,x ≠ "__name__" → mb x=bootBuiltins x
variable {G:Gl}
noncomputable def InstOf (G:Gl) (J:Heap) (v:Value) (d:Addr):Prop:=
  ∃ a o,v = .ref a∧J.get? a=some o∧o.cls = .ref G.C∧o.data = .plain∧o.slots=#[]∧o.dict=some d
noncomputable def VR (G:Gl) (h:Heap) (g:Gh):V→Value→Prop
  | .u,_=>False
  | .d x,v=>Rd G.w (g.J h) x v
  | .own k,v=>∃ a,g.as[k]?=some a∧v = .ref a
  | .inst k,v=>∃ d,g.as[k]?=some d∧InstOf G (g.J h) v d
  | .rng n,v=>∃ a t u w,v = .ref a∧IsRange (g.J h) a 0 (n:Int) 1 t u w
  | .ob fs,v=>∃ d m,InstOf G (g.J h) v d∧(g.J h).Ns d m∧∀ x p,fs.lookup x=some p→∃ u,m x=some u∧Rd G.w (g.J h) p u
theorem pre_get {l l':List Addr} (x:l <+: l') {k:Nat} {a:Addr} (e:l[k]?=some a):l'[k]?=some a:=by
  refine kE x fun t ht=>?_
  have:=(List.getElem?_eq_some_iff.mp e).1
  rw [← ht,List.getElem?_append_left this]; exact e
theorem VR.of {h h':Heap} {g g':Gh} (hk:∀ a o,(g.J h).get? a=some o→(g'.J h').get? a=some o) (hp:∀ (k:Nat) (a:Addr),g.as[k]?=some a→g'.as[k]?=some a) (y:V) {v:Value} (e:VR G h g y v):VR G h' g' y v:=by
  cases y with
  | u=>exact e
  | d x=>exact Rd.mono hk x e
  | own k=>exact kEA e fun a e r=>⟨a,hp _ _ e,r⟩
  | inst k=>exact kEA e fun d e z=>kEEAA z fun a o e1 e2 r=>⟨d,hp _ _ e,a,o,e1,hk _ _ e2,r⟩
  | rng n=>exact kEEEEA e fun a t u w e1 e2=>⟨a,t,u,w,e1,hk _ _ e2⟩
  | ob fs=>exact kEEAA e fun d m z e7 e8=>kEEAA z fun a o e1 e2 r=>⟨d,m,⟨a,o,e1,hk _ _ e2,r⟩,e7.keeps hk,fun y p hp=>kEA (e8 y p hp) fun u h1 h2=>⟨u,h1,Rd.mono hk p h2⟩⟩
theorem VR.mono {h h':Heap} {g g':Gh} (x:Le h g h' g') (hs:∀ a∈g.M,a∈g.O) (y:V) {v:Value} (e:VR G h g y v):VR G h' g' y v:=
  VR.of (x.still hs) (fun _ _ e=>pre_get x.pre e) y e
noncomputable def TK (G:Gl) (J:Heap) (ks:List Ky) (a:Addr):Prop:=∃ vs n,J.get? a=some (tup vs n)∧ItemsAre (ky G.prog G.w) ks vs.toList
inductive TR (G:Gl) (J:Heap):List (List Ky×PyData)→List (List Ky×Addr×Value)→Prop
  | nil:TR G J [] []
  | cons {ks x a v r t}:TK G J ks a→Rd G.w J x v→TR G J r t→TR G J ((ks,x) :: r) ((ks,a,v) :: t)
noncomputable def CR (G:Gl) (h:Heap) (g:Gh):Cell→Addr→Prop
  | .list xs,a=>∃ vs n,h.get? a=some (lst vs n)∧RdL G.w (g.J h) xs vs.toList
  | .dict kvs,a=>∃ o es ep,(a==sysModules)=false∧h.get? a=some o∧o.ExactDict∧o.data = .dict es ep∧RdE G.w (g.J h) kvs es.toList∧(kvs.map (·.1)).Nodup
  | .tdict kvs,a=>(a==sysModules)=false∧∃ xs,h.DictOfH (tupleKind (ky G.prog G.w)) a xs∧TR G (g.J h) kvs xs
  | .ns fs,a=>∃ m,h.Ns a m∧(∃ o es ep,h.get? a=some o∧o.data = .dict es ep∧es.size≤fs.length)∧∀ x p,fs.lookup x=some p→∃ u,m x=some u∧VR G h g p u
  | .dead,_=>True
theorem TR.mono {J J':Heap} (hk:∀ b o,J.get? b=some o→J'.get? b=some o) {l t} (x:TR G J l t):TR G J' l t:=by
  induction x with
  | nil=>exact .nil
  | cons h1 h2 _ ih=>
    refine kEEA h1 fun items n e r=>?_
    exact .cons ⟨items,n,hk _ _ e,r⟩ (Rd.mono hk _ h2) ih
theorem TR.keys {J:Heap} {l t} (x:TR G J l t):∀ y∈t,IsTupleKey (ky G.prog G.w) J y.1 y.2.1:=by
  induction x with
  | nil=>intro y hy; cases hy
  | cons h1 _ _ ih=>
    intro y hy
    refine Or.elim (List.mem_cons.mp hy) (fun z1=>?_) (fun hy=>?_)
    · subst z1
      refine kEEA h1 fun vs n e r=>?_
      exact ⟨_,vs,n,e,rfl,rfl,r⟩
    · exact ih y hy
theorem CR.of {h h':Heap} {g g':Gh} (hk:∀ a o,(g.J h).get? a=some o→(g'.J h').get? a=some o) (hp:∀ (k:Nat) (a:Addr),g.as[k]?=some a→g'.as[k]?=some a) {c:Cell} {a:Addr}
    (ha:∀ o,h.get? a=some o→h'.get? a=some o) (x:CR G h g c a):CR G h' g' c a:=by
  cases c with
  | list xs=>
    refine kEEA x fun vs n hl r=>?_
    exact ⟨vs,n,ha _ hl,RdL.mono hk _ r⟩
  | dict kvs=>
    refine kEEEAAAAA x fun o es ep h0 e h1 h2 h3 h4=>?_
    exact ⟨o,es,ep,h0,ha _ e,h1,h2,RdE.mono hk _ h3,h4⟩
  | tdict kvs=>
    refine kAEA x fun h0 xs z5 t=>?_
    refine kEEEAAAAA z5 fun o es ep e h1 h2 h3 h4 h5=>?_
    have t':=t.mono hk
    refine ⟨h0,xs,⟨o,es,ep,ha _ e,h1,h2,h3,fun y hy=>?_,h5⟩,t'⟩
    refine kEEEA (t'.keys y hy) fun o' items n e' r=>?_
    exact ⟨o',items,n,hide_sub _ _ e',r⟩
  | ns fs=>
    refine kEAA x fun m hn z7 r=>?_
    refine kEEEAA z7 fun o es ep z1 z2 z3=>?_
    exact ⟨m,hn.at' ha,⟨o,es,ep,ha _ z1,z2,z3⟩,fun y p e=>kEA (r y p e) fun u h1 h2=>⟨u,h1,VR.of hk hp p h2⟩⟩
  | dead=>trivial
set_option genInjectivity false in
structure Cx where
  env:Env
  slots:List Str
  wr:Bool
structure RS (G:Gl) (c:Cx) (g:Gh) (st:St) (h:Heap):Prop where
  base:∀ a o,G.h₀.get? a=some o→(g.J h).get? a=some o
  sub:∀ a∈g.M,a∈g.O
  live:∀ a∈g.O,∃ o,h.get? a=some o
  loc:c.env.locals∈g.M
  names:∃ (m cm:Str→Option Value),h.Ns c.env.locals m∧(∀ n a,c.env.cells.lookup n=some a→h.IsCell a (cm n)) ∧
    ∀ (i:Nat) (x:Str) (y:V),c.slots[i]?=some x→st.ρ[i]?=some y→y≠.u→∃ v,(if c.env.kindOf x=some .local then m x else cm x)=some v∧VR G h g y v
  cellO:∀ n a,c.env.cells.lookup n=some a→a∈g.O∧a≠c.env.locals∧∀ (k:Nat) (q:Cell),st.μ[k]?=some q→q.alive=true→g.as[k]?≠some a
  cellI:∀ n n' a,c.env.cells.lookup n=some a→c.env.cells.lookup n'=some a→n=n'
  cellW:c.wr=true→∀ n a,c.env.cells.lookup n=some a→a∈g.M
  len:st.ρ.length=c.slots.length
  len':g.as.length=st.μ.length
  cells:∀ (k:Nat) (q:Cell) (a:Addr),st.μ[k]?=some q→q.alive=true→g.as[k]?=some a→a∈g.M∧a≠c.env.locals∧CR G h g q a
  inj:∀ (j k:Nat) (p q:Cell) (a:Addr),st.μ[j]?=some p→p.alive=true→st.μ[k]?=some q→q.alive=true→g.as[j]?=some a→g.as[k]?=some a→j=k
section
variable {c:Cx} {g g':Gh} {st:St} {h h':Heap}
theorem RS.tj (x:RS G c g st h) (hg:∀ a o,h.get? a=some o→h'.get? a=some o):∀ a o,(g.J h).get? a=some o→(g.J h').get? a=some o:=
  fun a o e=>kA (hide_some.mp e) fun h1 h2=>hide_some.mpr ⟨h1,hg a o h2⟩
theorem RS.grow (x:RS G c g st h) (hg:∀ a o,h.get? a=some o→h'.get? a=some o):RS G c g st h'∧Le h g h' g:=by
  have hj:=x.tj hg
  refine ⟨⟨fun a o e=>hj a o (x.base a o e),x.sub,fun a ha=>kE (x.live a ha) fun o e=>⟨o,hg _ _ e⟩,x.loc,?_,x.cellO,x.cellI,x.cellW,x.len,x.len',?_,x.inj⟩,⟨fun a o _ e=>hg a o e,fun _ _ _ _=>Iff.rfl,fun a ha=>.inl ha,List.prefix_refl _⟩⟩
  · refine kEEAA x.names fun m cm h1 h2 h3=>?_
    exact ⟨m,cm,h1.keeps hg,fun n a e=>(h2 n a e).keeps hg,fun i y z h4 h5 h6=>kEA (h3 i y z h4 h5 h6) fun v h7 h8=>⟨v,h7,VR.of hj (fun _ _ e=>e) z h8⟩⟩
  · intro k q a h1 h2 h3
    refine kAA (x.cells k q a h1 h2 h3) fun h4 h5 h6=>?_
    exact ⟨h4,h5,CR.of hj (fun _ _ e=>e) (fun o e=>hg _ o e) h6⟩
end
end
section
variable {G:Gl}
structure Cx.Ok (c:Cx):Prop where
  fn:c.env.scope.kind = .function
  gl:c.env.globals=mainGlobals
  bl:c.env.builtins=builtinsNs
  nd:c.slots.Nodup
  kd:∀ x∈c.slots,c.env.kindOf x=some .local∨(c.env.kindOf x=some .cell∧∃ a,c.env.cells.lookup x=some a)
structure Rest (s s':Shared):Prop where
  gens:s'.gens=s.gens
  drawn:s'.drawn=s.drawn
  os:s'.os=s.os
theorem Rest.refl (s:Shared):Rest s s:=⟨rfl,rfl,rfl⟩
theorem Rest.trans {s s' s'':Shared} (x:Rest s s') (y:Rest s' s''):Rest s s'':=⟨y.gens.trans x.gens,y.drawn.trans x.drawn,y.os.trans x.os⟩
theorem Rest.mk' {s:Shared} (h:Heap) (tk:Nat):Rest s { s with heap:=h,toks:=tk }:=⟨rfl,rfl,rfl⟩
section
variable {c:Cx} {g g':Gh} {st:St} {h h':Heap}
theorem sb_keep {a:Addr} (hs:Heap.SameBut a h h') {b:Addr} (hb:b≠a):∀ o,h.get? b=some o→h'.get? b=some o:=fun o e=>(hs.2 b hb).trans e
theorem sb_still {a:Addr} (ha:a∈g.O) (hs:Heap.SameBut a h h'):∀ b o,(g.J h).get? b=some o→(g.J h').get? b=some o:=fun b o e=>by
  refine kA (hide_some.mp e) fun h1 h2=>?_
  exact hide_some.mpr ⟨h1,sb_keep hs (fun (q:b=a)=>h1 (by simp only [q]; exact ha)) o h2⟩
theorem sb_le {a:Addr} (ha:a∈g.M) (hs:Heap.SameBut a h h'):Le h g h' g:=
  ⟨fun b o hb e=>sb_keep hs (fun (q:b=a)=>hb (by simp only [q]; exact ha)) o e,fun _ _ _ _=>Iff.rfl,fun b hb=>.inl hb,List.prefix_refl _⟩
theorem sb_live {a:Addr} (x:RS G c g st h) (hs:Heap.SameBut a h h') (hl:∃ o,h'.get? a=some o):∀ b∈g.O,∃ o,h'.get? b=some o:=fun b hb=>by
  by_cases q:b=a
  · subst q; exact hl
  · obtain ⟨o,e⟩:=x.live b hb
    exact ⟨o,sb_keep hs q o e⟩
theorem set_get {α:Type} {l:List α} {i j:Nat} {y z:α} (e:(l.set i y)[j]?=some z):(i=j∧z=y)∨(i≠j∧l[j]?=some z):=by
  rw [List.getElem?_set] at e
  by_cases q:i=j
  · rw [if_pos q] at e
    split at e
    · exact .inl ⟨q,(Option.some.inj e).symm⟩
    · cases e
  · rw [if_neg q] at e
    exact .inr ⟨q,e⟩
theorem nd_get {α:Type} {l:List α} (nd:l.Nodup) {i j:Nat} {x:α} (hi:l[i]?=some x) (hj:l[j]?=some x):i=j:=
  (List.getElem?_inj (List.getElem?_eq_some_iff.mp hi).1 nd).mp (hi.trans hj.symm)
theorem RS.store (ok:c.Ok) (x:RS G c g st h) {m cm:Str→Option Value} {n:Str} {i:Nat} {y:V} {v:Value} (hi:c.slots[i]?=some n) (hl:c.env.kindOf n=some .local)
    (h2:∀ n a,c.env.cells.lookup n=some a→h.IsCell a (cm n))
    (h3:∀ (i:Nat) (x:Str) (y:V),c.slots[i]?=some x→st.ρ[i]?=some y→y≠.u→∃ v,(if c.env.kindOf x=some .local then m x else cm x)=some v∧VR G h g y v)
    (hv:VR G h g y v) (hn:h'.Ns c.env.locals (fun z=>if z=n then some v else m z)) (hs:Heap.SameBut c.env.locals h h') :
    RS G c g { st with ρ:=st.ρ.set i y } h'∧Le h g h' g:=by
  have hj:=sb_still (x.sub _ x.loc) hs
  have hlv:∃ o,h'.get? c.env.locals=some o:=kEEEA hn fun o _ _ e _=>⟨o,e⟩
  refine ⟨⟨fun a o e=>hj a o (x.base a o e),x.sub,sb_live x hs hlv,x.loc,⟨_,cm,hn,fun n' a e=>(h2 n' a e).sameBut hs (x.cellO n' a e).2.1,?_⟩,x.cellO,x.cellI,x.cellW,by simpa using x.len,x.len',?_,x.inj⟩,sb_le x.loc hs⟩
  · intro j z y' h4 h5 h6
    refine Or.elim (set_get h5) (fun z1=>?_) (fun z2=>?_)
    · obtain ⟨rfl,rfl⟩:=z1
      have:z=n:=Option.some.inj (h4.symm.trans hi)
      subst this
      exact ⟨v,by simp [hl],VR.of hj (fun _ _ e=>e) _ hv⟩
    · obtain ⟨q,h5⟩:=z2
      have hzn:z≠n:=fun q'=>q (nd_get ok.nd hi (q'▸h4))
      refine kEA (h3 j z y' h4 h5 h6) fun u h7 h8=>?_
      exact ⟨u,by simpa [hzn] using h7,VR.of hj (fun _ _ e=>e) _ h8⟩
  · intro k q a e1 e2 e3
    refine kAA (x.cells k q a e1 e2 e3) fun h4 h5 h6=>?_
    exact ⟨h4,h5,CR.of hj (fun _ _ e=>e) (sb_keep hs h5) h6⟩
theorem RS.storeC (ok:c.Ok) (hw:c.wr=true) (x:RS G c g st h) {m cm:Str→Option Value} {n:Str} {i:Nat} {y:V} {v:Value} {a:Addr} (hi:c.slots[i]?=some n) (hl:c.env.kindOf n=some .cell)
    (hc:c.env.cells.lookup n=some a) (h1:h.Ns c.env.locals m) (h2:∀ n a,c.env.cells.lookup n=some a→h.IsCell a (cm n))
    (h3:∀ (i:Nat) (x:Str) (y:V),c.slots[i]?=some x→st.ρ[i]?=some y→y≠.u→∃ v,(if c.env.kindOf x=some .local then m x else cm x)=some v∧VR G h g y v)
    (hv:VR G h g y v) (hn:h'.IsCell a (some v)) (hs:Heap.SameBut a h h') :
    RS G c g { st with ρ:=st.ρ.set i y } h'∧Le h g h' g:=by
  refine kAA (x.cellO n a hc) fun hO hL hne=>?_
  have hj:=sb_still hO hs
  have hlv:∃ o,h'.get? a=some o:=kEA hn fun o e _=>⟨o,e⟩
  refine ⟨⟨fun a o e=>hj a o (x.base a o e),x.sub,sb_live x hs hlv,x.loc,⟨m,fun z=>if z=n then some v else cm z,h1.sameBut hs (Ne.symm hL),fun n' b e=>?_,?_⟩,x.cellO,x.cellI,x.cellW,by simpa using x.len,x.len',?_,x.inj⟩,sb_le (x.cellW hw n a hc) hs⟩
  · by_cases q:n'=n
    · subst q
      obtain rfl:b=a:=Option.some.inj (e.symm.trans hc)
      simpa using hn
    · have:b≠a:=fun q'=>q (x.cellI n' n a (q'▸e) hc)
      simpa [q] using (h2 n' b e).sameBut hs this
  · intro j z y' h4 h5 h6
    refine Or.elim (set_get h5) (fun z5=>?_) (fun z6=>?_)
    · obtain ⟨rfl,rfl⟩:=z5
      have:z=n:=Option.some.inj (h4.symm.trans hi)
      subst this
      exact ⟨v,by simp [hl],VR.of hj (fun _ _ e=>e) _ hv⟩
    · obtain ⟨q,h5⟩:=z6
      have hzn:z≠n:=fun q'=>q (nd_get ok.nd hi (q'▸h4))
      refine kEA (h3 j z y' h4 h5 h6) fun u h7 h8=>?_
      exact ⟨u,by simpa [hzn] using h7,VR.of hj (fun _ _ e=>e) _ h8⟩
  · intro k q b e1 e2 e3
    refine kAA (x.cells k q b e1 e2 e3) fun h4 h5 h6=>?_
    have:b≠a:=fun q'=>hne k q e1 e2 (q'▸e3)
    exact ⟨h4,h5,CR.of hj (fun _ _ e=>e) (sb_keep hs this) h6⟩
theorem RS.upd (x:RS G c g st h) {k:Nat} {q q':Cell} {a:Addr} (hk:st.μ[k]?=some q) (hq:q.alive=true) (ha:g.as[k]?=some a) (hs:Heap.SameBut a h h') (hlv:∃ o,h'.get? a=some o)
    (hn:CR G h' g q' a) (hq':q'.alive=true):RS G c g { st with μ:=st.μ.set k q' } h'∧Le h g h' g:=by
  refine kAA (x.cells k q a hk hq ha) fun hM hL hC=>?_
  have hj:=sb_still (x.sub _ hM) hs
  refine kEEAA x.names fun m cm h1 h2 h3=>?_
  have alive:∀ (j:Nat) (p:Cell),(st.μ.set k q')[j]?=some p→p.alive=true→∃ p',st.μ[j]?=some p'∧p'.alive=true:=fun j p e1 e2=>by
    refine Or.elim (set_get e1) (fun z9=>?_) (fun z10=>?_)
    · obtain ⟨rfl,rfl⟩:=z9
      exact ⟨q,hk,hq⟩
    · obtain ⟨_,e1⟩:=z10
      exact ⟨p,e1,e2⟩
  refine ⟨⟨fun a o e=>hj a o (x.base a o e),x.sub,sb_live x hs hlv,x.loc,⟨m,cm,h1.sameBut hs (Ne.symm hL),fun n b e=>(h2 n b e).sameBut hs (fun q'=>(x.cellO n b e).2.2 k q hk hq (q'▸ha)),fun j z y h4 h5 h6=>?_⟩,fun n b e=>?_,x.cellI,x.cellW,x.len,by simpa using x.len',?_,?_⟩,sb_le hM hs⟩
  · refine kEA (h3 j z y h4 h5 h6) fun v h7 h8=>?_
    exact ⟨v,h7,VR.of hj (fun _ _ e=>e) _ h8⟩
  · refine kAA (x.cellO n b e) fun e1 e2 e3=>?_
    exact ⟨e1,e2,fun j p e4 e5=>kEA (alive j p e4 e5) fun p' e6 e7=>e3 j p' e6 e7⟩
  · intro j p b e1 e2 e3
    rcases set_get e1 with ⟨rfl,rfl⟩ | ⟨ne,e1⟩
    · obtain rfl:b=a:=Option.some.inj (e3.symm.trans ha)
      exact ⟨hM,hL,hn⟩
    · refine kAA (x.cells j p b e1 e2 e3) fun h4 h5 h6=>?_
      have:b≠a:=fun q''=>ne (x.inj k j q p a hk hq e1 e2 ha (q''▸e3))
      exact ⟨h4,h5,CR.of hj (fun _ _ e=>e) (sb_keep hs this) h6⟩
  · intro i j p p' b e1 e2 e3 e4 e5 e6
    refine kEA (alive i p e1 e2) fun r r1 r2=>?_
    refine kEA (alive j p' e3 e4) fun r' r3 r4=>?_
    exact x.inj i j r r' b r1 r2 r3 r4 e5 e6
theorem RS.new (x:RS G c g st h) {q:Cell} {a:Addr} (ha:h.get? a=none) (hg:∀ b o,h.get? b=some o→h'.get? b=some o) (hlv:∃ o,h'.get? a=some o)
    (hn:CR G h' ⟨a :: g.O,a :: g.M,g.as++[a]⟩ q a):RS G c ⟨a :: g.O,a :: g.M,g.as++[a]⟩ { st with μ:=st.μ++[q] } h'∧Le h g h' ⟨a :: g.O,a :: g.M,g.as++[a]⟩:=by
  have hne:∀ b o,h.get? b=some o→b≠a:=fun b o e q=>by simp only [q,ha] at e; cases e
  have hj:∀ b o,(g.J h).get? b=some o→(Gh.J ⟨a :: g.O,a :: g.M,g.as++[a]⟩ h').get? b=some o:=fun b o e=>by
    refine kA (hide_some.mp e) fun h1 h2=>?_
    refine hide_some.mpr ⟨fun q=>?_,hg b o h2⟩
    rcases List.mem_cons.mp q with q | q
    · exact hne b o h2 q
    · exact h1 q
  have hp:∀ (k:Nat) (b:Addr),g.as[k]?=some b→(g.as++[a])[k]?=some b:=fun k b e=>pre_get (List.prefix_append _ _) e
  have hold:∀ (k:Nat) (p:Cell),(st.μ++[q])[k]?=some p→(k<st.μ.length∧st.μ[k]?=some p)∨(k=st.μ.length∧p=q):=fun k p e=>by
    rcases Nat.lt_trichotomy k st.μ.length with hlt | heq | hgt
    · rw [List.getElem?_append_left hlt] at e; exact .inl ⟨hlt,e⟩
    · subst heq; simp at e; exact .inr ⟨rfl,e.symm⟩
    · rw [List.getElem?_eq_none (by simp; assumption)] at e; cases e
  have holda:∀ (k:Nat) (b:Addr),(g.as++[a])[k]?=some b→k<st.μ.length→g.as[k]?=some b:=fun k b e hlt=>by
    rw [List.getElem?_append_left (by rw [x.len']; exact hlt)] at e; exact e
  have hlast:∀ (b:Addr),(g.as++[a])[st.μ.length]?=some b→b=a:=fun b e=>by
    rw [← x.len'] at e; simp at e; exact e.symm
  refine kEEAA x.names fun m cm h1 h2 h3=>?_
  have cellne:∀ b∈g.O,b≠a:=fun b hb q=>by obtain ⟨o,e⟩:=x.live b hb; exact hne b o e q
  refine ⟨⟨fun b o e=>hj b o (x.base b o e),fun b hb=>?_,fun b hb=>?_,List.mem_cons_of_mem _ x.loc,⟨m,cm,h1.keeps hg,fun n b e=>(h2 n b e).keeps hg,fun j z y h4 h5 h6=>?_⟩,fun n b e=>?_,x.cellI,fun hw n b e=>List.mem_cons_of_mem _ (x.cellW hw n b e),x.len,by simp [x.len'],?_,?_⟩,
    ⟨fun b o hb e=>hg b o e,fun b o hb e=>by simp [hne b o e],fun b hb=>?_,List.prefix_append _ _⟩⟩
  · rcases List.mem_cons.mp hb with rfl | hb
    · exact List.mem_cons_self
    · exact List.mem_cons_of_mem _ (x.sub b hb)
  · rcases List.mem_cons.mp hb with rfl | hb
    · exact hlv
    · obtain ⟨o,e⟩:=x.live b hb; exact ⟨o,hg b o e⟩
  · refine kEA (h3 j z y h4 h5 h6) fun v h7 h8=>?_
    exact ⟨v,h7,VR.of hj hp _ h8⟩
  · refine kAA (x.cellO n b e) fun e1 e2 e3=>?_
    refine ⟨List.mem_cons_of_mem _ e1,e2,fun j p e4 e5 e6=>?_⟩
    refine Or.elim (hold j p e4) (fun z17=>?_) (fun z18=>?_)
    · refine kA z17 fun hlt e4=>?_
      exact e3 j p e4 e5 (holda j b e6 hlt)
    · obtain ⟨rfl,rfl⟩:=z18
      exact cellne b e1 (hlast b e6)
  · intro j p b e1 e2 e3
    refine Or.elim (hold j p e1) (fun z21=>?_) (fun z22=>?_)
    · obtain ⟨hlt,e1⟩:=z21
      refine kAA (x.cells j p b e1 e2 (holda j b e3 hlt)) fun h4 h5 h6=>?_
      exact ⟨List.mem_cons_of_mem _ h4,h5,CR.of hj hp (fun o e=>hg b o e) h6⟩
    · obtain ⟨rfl,rfl⟩:=z22
      obtain rfl:=hlast b e3
      exact ⟨List.mem_cons_self,Ne.symm (cellne _ (x.sub _ x.loc)),hn⟩
  · intro i j p p' b e1 e2 e3 e4 e5 e6
    rcases hold i p e1 with ⟨hlt,u1⟩ | ⟨r1,r2⟩<;>rcases hold j p' e3 with ⟨hlt',u3⟩ | ⟨r3,r4⟩
    · exact x.inj i j p p' b u1 e2 u3 e4 (holda i b e5 hlt) (holda j b e6 hlt')
    · exact absurd (hlast b (r3▸e6)) (cellne b (x.sub b (x.cells i p b u1 e2 (holda i b e5 hlt)).1))
    · exact absurd (hlast b (r1▸e5)) (cellne b (x.sub b (x.cells j p' b u3 e4 (holda j b e6 hlt')).1))
    · exact r1.trans r3.symm
  · rcases List.mem_cons.mp hb with rfl | hb
    · exact .inr ha
    · exact .inl hb
end
end
section
variable {G:Gl}
noncomputable def V.fz (k:Nat) (x:PyData):V→V
  | .own j=>if j=k then .d x else .own j
  | y=>y
noncomputable def Cell.fz (k:Nat) (x:PyData):Cell→Cell
  | .ns fs=>.ns (fs.map fun p=>(p.1,p.2.fz k x))
  | q=>q
noncomputable def St.fz (k:Nat) (x:PyData) (st:St):St:=⟨st.ρ.map (V.fz k x),(st.μ.set k .dead).map (Cell.fz k x)⟩
noncomputable def Cell.dat:Cell→Option PyData
  | .list xs=>some (.list xs)
  | .dict kvs=>some (.dict kvs)
  | _=>none
theorem Cell.fz_alive (k:Nat) (x:PyData) (q:Cell):(q.fz k x).alive=q.alive:=by cases q<;>rfl
theorem Cell.dat_alive {q:Cell} {x:PyData} (e:q.dat=some x):q.alive=true:=by cases q<;>simp_all [Cell.dat,Cell.alive]
theorem lookup_map {β γ:Type} (f:β→γ):∀ (fs:List (Str×β)) (x:Str),(fs.map fun p=>(p.1,f p.2)).lookup x=(fs.lookup x).map f:=by
  intro xs9
  induction xs9 with
  | nil=>
    intro x
    exact rfl
  | cons p9 r ih=>
    obtain ⟨n,y⟩:=p9
    intro x
    simp only [List.map_cons,List.lookup_cons]
    by_cases q:(x==n)=true
    · simp [q]
    · simp only [Bool.not_eq_true] at q
      simp only [q]
      exact ih x
section
variable {c:Cx} {g g':Gh} {st:St} {h h':Heap}
theorem VR.fz {k:Nat} {x:PyData} {a:Addr} (hj:∀ b o,(g.J h).get? b=some o→(g'.J h').get? b=some o) (hp:∀ (k:Nat) (a:Addr),g.as[k]?=some a→g'.as[k]?=some a)
    (ha:g.as[k]?=some a) (hx:Rd G.w (g'.J h') x (.ref a)) (y:V) {v:Value} (e:VR G h g y v):VR G h' g' (y.fz k x) v:=by
  cases y with
  | own j=>
    dsimp only [V.fz]
    by_cases q:j=k
    · subst q
      rw [if_pos rfl]
      refine kEA e fun b hb z2=>?_
      subst z2
      obtain rfl:b=a:=Option.some.inj (hb.symm.trans ha)
      exact hx
    · rw [if_neg q]
      exact VR.of hj hp _ e
  | _=>exact VR.of hj hp _ e
theorem RS.freeze (x:RS G c g st h) {k:Nat} {q:Cell} {d:PyData} (hk:st.μ[k]?=some q) (hq:q.dat=some d) :
    ∃ a,g.as[k]?=some a∧RS G c ⟨g.O.filter (·≠a),g.M.filter (·≠a),g.as⟩ (st.fz k d) h∧Le h g h ⟨g.O.filter (·≠a),g.M.filter (·≠a),g.as⟩∧Rd G.w (Gh.J ⟨g.O.filter (·≠a),g.M.filter (·≠a),g.as⟩ h) d (.ref a):=by
  have hlt:k<g.as.length:=by simp only [x.len']; exact (List.getElem?_eq_some_iff.mp hk).1
  refine ⟨g.as[k],List.getElem?_eq_getElem hlt,?_⟩
  have ha:g.as[k]?=some g.as[k]:=List.getElem?_eq_getElem hlt
  generalize g.as[k]=a at ha
  have qa:=Cell.dat_alive hq
  refine kAA (x.cells k q a hk qa ha) fun hM hL hC=>?_
  have hj:∀ b o,(g.J h).get? b=some o→(Gh.J ⟨g.O.filter (·≠a),g.M.filter (·≠a),g.as⟩ h).get? b=some o:=fun b o e=>by
    refine kA (hide_some.mp e) fun h1 h2=>?_
    exact hide_some.mpr ⟨fun q=>h1 (List.mem_filter.mp q).1,h2⟩
  have hp:∀ (k:Nat) (b:Addr),g.as[k]?=some b→g.as[k]?=some b:=fun _ _ e=>e
  have hx:Rd G.w (Gh.J ⟨g.O.filter (·≠a),g.M.filter (·≠a),g.as⟩ h) d (.ref a):=by
    have hself:∀ o,h.get? a=some o→(Gh.J ⟨g.O.filter (·≠a),g.M.filter (·≠a),g.as⟩ h).get? a=some o:=fun o e=>hide_some.mpr ⟨fun q=>by simpa using (List.mem_filter.mp q).2,e⟩
    cases q with
    | list xs=>
      cases hq
      refine kEEA hC fun vs n e r=>?_
      exact ⟨a,vs,n,rfl,hself _ e,RdL.mono hj _ r⟩
    | dict kvs=>
      cases hq
      refine kEEEAAAAA hC fun o es ep h0 e h1 h2 h3 h4=>?_
      exact ⟨a,o,es,ep,rfl,h0,hself o e,h1,h2,RdE.mono hj _ h3,h4⟩
    | _=>cases hq
  have hold:∀ (j:Nat) (p:Cell),(st.fz k d).μ[j]?=some p→p.alive=true→j≠k∧∃ p',st.μ[j]?=some p'∧p'.alive=true∧p=p'.fz k d:=fun j p e1 e2=>by
    unfold St.fz at e1
    rw [List.getElem?_map,Option.map_eq_some_iff] at e1
    obtain ⟨p',e1,rfl⟩:=e1
    rw [Cell.fz_alive] at e2
    rcases set_get e1 with ⟨rfl,rfl⟩ | ⟨ne,e1⟩
    · cases e2
    · exact ⟨Ne.symm ne,p',e1,e2,rfl⟩
  refine kEEAA x.names fun m cm h1 h2 h3=>?_
  refine ⟨⟨fun b o e=>hj b o (x.base b o e),fun b hb=>?_,fun b hb=>x.live b (List.mem_filter.mp hb).1,List.mem_filter.mpr ⟨x.loc,by simpa using Ne.symm hL⟩,⟨m,cm,h1,h2,fun j z y h4 h5 h6=>?_⟩,fun n b e=>?_,x.cellI,fun hw n b e=>?_,by simpa [St.fz] using x.len,by simpa [St.fz] using x.len',?_,?_⟩,
    ⟨fun b o hb e=>e,fun b o hb e=>?_,fun b hb=>.inl (List.mem_filter.mp hb).1,List.prefix_refl _⟩,hx⟩
  · exact List.mem_filter.mpr ⟨x.sub b (List.mem_filter.mp hb).1,(List.mem_filter.mp hb).2⟩
  · unfold St.fz at h5
    rw [List.getElem?_map,Option.map_eq_some_iff] at h5
    obtain ⟨y',h5,rfl⟩:=h5
    have h6':y'≠.u:=fun q=>h6 (by rw [q]; rfl)
    refine kEA (h3 j z y' h4 h5 h6') fun v h7 h8=>?_
    exact ⟨v,h7,VR.fz hj hp ha hx _ h8⟩
  · refine kAA (x.cellO n b e) fun e1 e2 e3=>?_
    refine ⟨List.mem_filter.mpr ⟨e1,?_⟩,e2,fun j p e4 e5=>?_⟩
    · have:b≠a:=fun q'=>e3 k q hk qa (q'▸ha)
      simpa using this
    · refine kAEAA (hold j p e4 e5) fun _ p' e6 e7 _=>?_
      exact e3 j p' e6 e7
  · refine List.mem_filter.mpr ⟨x.cellW hw n b e,?_⟩
    have:b≠a:=fun q'=>(x.cellO n b e).2.2 k q hk qa (q'▸ha)
    simpa using this
  · intro j p b e1 e2 e3
    refine kAEAA (hold j p e1 e2) fun ne p' e4 e5 z9=>?_
    subst z9
    refine kAA (x.cells j p' b e4 e5 e3) fun h4 h5 h6=>?_
    have hb:b≠a:=fun q''=>ne (x.inj j k p' q a e4 e5 hk qa (q''▸e3) ha)
    refine ⟨List.mem_filter.mpr ⟨h4,by simpa using hb⟩,h5,?_⟩
    cases p' with
    | ns fs=>
      refine kEAA h6 fun m' hn' z11 r'=>?_
      refine kEEEAA z11 fun o es ep z1 z2 z3=>?_
      refine ⟨m',hn',⟨o,es,ep,z1,z2,by simpa using z3⟩,fun z p e=>?_⟩
      rw [lookup_map] at e
      refine kEA (Option.map_eq_some_iff.mp e) fun p0 e0 z13=>?_
      subst z13
      refine kEA (r' z p0 e0) fun u u1 u2=>?_
      exact ⟨u,u1,VR.fz hj hp ha hx _ u2⟩
    | _=>exact CR.of hj hp (fun o e=>e) h6
  · intro i j p p' b e1 e2 e3 e4 e5 e6
    refine kAEAA (hold i p e1 e2) fun _ r r1 r2 _=>?_
    refine kAEAA (hold j p' e3 e4) fun _ r' r3 r4 _=>?_
    exact x.inj i j r r' b r1 r2 r3 r4 e5 e6
  · have:b≠a:=fun q'=>hb (q'▸hM)
    simp [this]
noncomputable def V.lt (n:Nat):V→Prop
  | .own k | .inst k=>k<n
  | _=>True
noncomputable def Cell.lt (n:Nat):Cell→Prop
  | .ns fs=>∀ p∈fs,p.2.lt n
  | _=>True
theorem lookup_mem {β:Type}:∀ {fs:List (Str×β)} {x:Str} {p:β},fs.lookup x=some p→∃ y,(y,p)∈fs:=by
  intro xs9
  induction xs9 with
  | nil=>
    intro x p e
    cases e
  | cons p9 r ih=>
    obtain ⟨n,y⟩:=p9
    intro x p e
    simp only [List.lookup_cons] at e
    split at e
    · cases e; exact ⟨n,List.mem_cons_self⟩
    · obtain ⟨z,hz⟩:=ih e; exact ⟨z,List.mem_cons_of_mem _ hz⟩
theorem VR.cut {n:Nat} (y:V) {v:Value} (hy:y.lt n) (e:VR G h g y v):VR G h { g with as:=g.as.take n } y v:=by
  have t:∀ k:Nat,k<n→∀ a,g.as[k]?=some a→(g.as.take n)[k]?=some a:=fun k hk a e=>by rw [List.getElem?_take,if_pos hk]; exact e
  cases y with
  | own k=>obtain ⟨a,e1,e2⟩:=e; exact ⟨a,t k hy a e1,e2⟩
  | inst k=>obtain ⟨a,e1,e2⟩:=e; exact ⟨a,t k hy a e1,e2⟩
  | _=>exact e
theorem RS.cut (x:RS G c g st h) (n:Nat) (h1:∀ y∈st.ρ,y.lt n) (h2:∀ q∈st.μ.take n,q.lt n) :
    RS G c { g with as:=g.as.take n } { st with μ:=st.μ.take n } h:=by
  have hold:∀ (j:Nat) (p:Cell),(st.μ.take n)[j]?=some p→j<n∧st.μ[j]?=some p:=fun j p e=>by
    rw [List.getElem?_take] at e
    split at e
    · exact ⟨by assumption,e⟩
    · cases e
  have holda:∀ (j:Nat) (p:Addr),(g.as.take n)[j]?=some p→g.as[j]?=some p:=fun j p e=>by
    rw [List.getElem?_take] at e
    split at e
    · exact e
    · cases e
  refine kEEAA x.names fun m cm n1 n2 n3=>?_
  refine ⟨x.base,x.sub,x.live,x.loc,⟨m,cm,n1,n2,fun j z y h4 h5 h6=>?_⟩,fun n' b e=>?_,x.cellI,x.cellW,x.len,by simp [x.len'],?_,?_⟩
  · refine kEA (n3 j z y h4 h5 h6) fun v h7 h8=>?_
    exact ⟨v,h7,VR.cut _ (h1 y (List.mem_of_getElem? h5)) h8⟩
  · refine kAA (x.cellO n' b e) fun e1 e2 e3=>?_
    exact ⟨e1,e2,fun j p e4 e5 e6=>e3 j p (hold j p e4).2 e5 (holda j b e6)⟩
  · intro j p b e1 e2 e3
    refine kAA (x.cells j p b (hold j p e1).2 e2 (holda j b e3)) fun h4 h5 h6=>?_
    refine ⟨h4,h5,?_⟩
    cases p with
    | ns fs=>
      refine kEAA h6 fun m' hn' hz r'=>?_
      refine ⟨m',hn',hz,fun z p e=>?_⟩
      refine kEA (r' z p e) fun u u1 u2=>?_
      obtain ⟨zz,hz⟩:=lookup_mem e
      exact ⟨u,u1,VR.cut _ (h2 _ (List.mem_of_getElem? e1) _ hz) u2⟩
    | _=>exact h6
  · intro i j p p' b e1 e2 e3 e4 e5 e6
    exact x.inj i j p p' b (hold i p e1).2 e2 (hold j p' e3).2 e4 (holda i b e5) (holda j b e6)
end
structure Go (G:Gl) (c:Cx) (s:Shared) (g:Gh) (s':Shared) (g':Gh) (st':St):Prop where
  rs:RS G c g' st' s'.heap
  le:Le s.heap g s'.heap g'
  rest:Rest s s'
theorem Go.trans {c:Cx} {s s' s'':Shared} {g g' g'':Gh} {st' st'':St} (x:Go G c s g s' g' st') (y:Go G c s' g' s'' g'' st''):Go G c s g s'' g'' st'':=⟨y.rs,x.le.trans y.le,x.rest.trans y.rest⟩
theorem Go.refl {c:Cx} {s:Shared} {g:Gh} {st:St} (x:RS G c g st s.heap):Go G c s g s g st:=⟨x,Le.refl _ _,Rest.refl _⟩
noncomputable def No:Value→Shared→Prop:=fun _ _=>False
noncomputable abbrev Tr (α:Type):=(α→St→Prop)→St→Prop
noncomputable abbrev QV:=V→St→Prop
noncomputable abbrev QB:=Bool→St→Prop
structure Stop (P:Prop):Prop where
  out:P
theorem Stop.eq {P:Prop}:Stop P=P:=propext ⟨Stop.out,Stop.mk⟩
inductive PV (G:Gl) (c:Cx) (s:Shared) (g:Gh) (Q:V→St→Prop) (v:Value) (s':Shared):Prop
  | mk (y:V) (st':St) (g':Gh) (go:Go G c s g s' g' st') (vr:VR G s'.heap g' y v) (q:Q y st')
inductive PB (G:Gl) (c:Cx) (s:Shared) (g:Gh) (Q:Bool→St→Prop) (b:Bool) (s':Shared):Prop
  | mk (st':St) (g':Gh) (go:Go G c s g s' g' st') (q:Q b st')
inductive PU (G:Gl) (c:Cx) (s:Shared) (g:Gh) (Q:St→Prop) (u:Unit) (s':Shared):Prop
  | mk (st':St) (g':Gh) (go:Go G c s g s' g' st') (q:Q st')
inductive Fl where
  | next | brk | cont
  | ret (y:V)
noncomputable def FlR (G:Gl) (h:Heap) (g:Gh):Fl→Flow→Prop
  | .next,.next=>True
  | .brk,.brk=>True
  | .cont,.cont=>True
  | .ret y,.ret v=>VR G h g y v
  | _,_=>False
inductive PF (G:Gl) (c:Cx) (s:Shared) (g:Gh) (Q:Fl→St→Prop) (f:Flow) (s':Shared):Prop
  | mk (y:Fl) (st':St) (g':Gh) (go:Go G c s g s' g' st') (fr:FlR G s'.heap g' y f) (q:Q y st')
structure Room (A:Around) (lv:Nat):Prop where
  hd:A.handled=none
  dp:A.depth+lv≤600
  un:A.units+10 * lv≤9000
structure Sk where
  lv:Nat
  sc:Scope
  slots:List Str
  wr:Bool
structure At (K:Sk) (c:Cx) (A:Around):Prop where
  ok:c.Ok
  sc:c.env.scope=K.sc
  sl:c.slots=K.slots
  wr:c.wr=K.wr
  room:Room A K.lv
noncomputable def SemE (G:Gl) (K:Sk) (e:Expr) (T:Tr V):Prop:=
  ∀ (c:Cx) (A:Around) (s:Shared) (g:Gh) (st:St) (Q:V→St→Prop),At K c A→RS G c g st s.heap→T Q st→wpAny (model G.prog G.w) A (eval e c.env) (PV G c s g Q) No s
noncomputable def SemB (G:Gl) (K:Sk) (e:Expr) (T:Tr Bool):Prop:=
  ∀ (c:Cx) (A:Around) (s:Shared) (g:Gh) (st:St) (Q:Bool→St→Prop),At K c A→RS G c g st s.heap→T Q st→wpAny (model G.prog G.w) A (isTrue e c.env (eval e c.env)) (PB G c s g Q) No s
noncomputable def SemS (G:Gl) (K:Sk) (e:Stmt) (T:Tr Fl):Prop:=
  ∀ (c:Cx) (A:Around) (s:Shared) (g:Gh) (st:St) (Q:Fl→St→Prop),At K c A→RS G c g st s.heap→T Q st→wpAny (model G.prog G.w) A (exec e c.env) (PF G c s g Q) No s
noncomputable def SemSs (G:Gl) (K:Sk) (e:List Stmt) (T:Tr Fl):Prop:=
  ∀ (c:Cx) (A:Around) (s:Shared) (g:Gh) (st:St) (Q:Fl→St→Prop),At K c A→RS G c g st s.heap→T Q st→wpAny (model G.prog G.w) A (execs e c.env) (PF G c s g Q) No s
section
variable {M:Model} {A:Around} {E:Value→Shared→Prop} {c:Cx} {s s0:Shared} {g:Gh}
theorem PV.bind {t:Sem Value} {Q:V→St→Prop} {P:Value→Shared→Prop} (h:wpAny M A t (PV G c s g Q) No s0) (k:∀ v s' y st' g',Go G c s g s' g' st'→VR G s'.heap g' y v→Q y st'→P v s'):wpAny M A t P E s0:=
  wpAny_mono h (fun v s' x=>by cases x with | mk y st' g' go vr q=>exact k v s' y st' g' go vr q) fun _ _ e=>e.elim
theorem PF.bind {t:Sem Flow} {Q:Fl→St→Prop} {P:Flow→Shared→Prop} (h:wpAny M A t (PF G c s g Q) No s0) (k:∀ v s' y st' g',Go G c s g s' g' st'→FlR G s'.heap g' y v→Q y st'→P v s'):wpAny M A t P E s0:=
  wpAny_mono h (fun v s' x=>by cases x with | mk y st' g' go vr q=>exact k v s' y st' g' go vr q) fun _ _ e=>e.elim
theorem PB.bind {t:Sem Bool} {Q:Bool→St→Prop} {P:Bool→Shared→Prop} (h:wpAny M A t (PB G c s g Q) No s0) (k:∀ v s' st' g',Go G c s g s' g' st'→Q v st'→P v s'):wpAny M A t P E s0:=
  wpAny_mono h (fun v s' x=>by cases x with | mk st' g' go q=>exact k v s' st' g' go q) fun _ _ e=>e.elim
theorem PU.bind {t:Sem Unit} {Q:St→Prop} {P:Unit→Shared→Prop} (h:wpAny M A t (PU G c s g Q) No s0) (k:∀ v s' st' g',Go G c s g s' g' st'→Q st'→P v s'):wpAny M A t P E s0:=
  wpAny_mono h (fun v s' x=>by cases x with | mk st' g' go q=>exact k v s' st' g' go q) fun _ _ e=>e.elim
end
theorem PV.pre {c:Cx} {s s':Shared} {g g':Gh} {st':St} {Q:V→St→Prop} (x:Go G c s g s' g' st') {v:Value} {s'':Shared} (h:PV G c s' g' Q v s''):PV G c s g Q v s'':=
  let ⟨y,st2,g2,a,b,d⟩:=h; ⟨y,st2,g2,x.trans a,b,d⟩
theorem PB.pre {c:Cx} {s s':Shared} {g g':Gh} {st':St} {Q:Bool→St→Prop} (x:Go G c s g s' g' st') {v:Bool} {s'':Shared} (h:PB G c s' g' Q v s''):PB G c s g Q v s'':=
  let ⟨st2,g2,a,b⟩:=h; ⟨st2,g2,x.trans a,b⟩
theorem PF.pre {c:Cx} {s s':Shared} {g g':Gh} {st':St} {Q:Fl→St→Prop} (x:Go G c s g s' g' st') {v:Flow} {s'':Shared} (h:PF G c s' g' Q v s''):PF G c s g Q v s'':=
  let ⟨y,st2,g2,a,b,d⟩:=h; ⟨y,st2,g2,x.trans a,b,d⟩
theorem PU.pre {c:Cx} {s s':Shared} {g g':Gh} {st':St} {Q:St→Prop} (x:Go G c s g s' g' st') {v:Unit} {s'':Shared} (h:PU G c s' g' Q v s''):PU G c s g Q v s'':=
  let ⟨st2,g2,a,b⟩:=h; ⟨st2,g2,x.trans a,b⟩
theorem VR.go {c:Cx} {s s':Shared} {g g':Gh} {st st':St} (x:Go G c s g s' g' st') (R:RS G c g st s.heap) (y:V) {v:Value} (e:VR G s.heap g y v):VR G s'.heap g' y v:=VR.mono x.le R.sub y e
end
section
variable {G:Gl} {K:Sk}
noncomputable def St.get (st:St) (i:Nat):V:=st.ρ.getD i .u
noncomputable def St.put (st:St) (i:Nat) (y:V):St:=⟨st.ρ.set i y,st.μ⟩
section
variable {c:Cx} {A:Around} {s s':Shared} {g g':Gh} {st st':St}
theorem Go.tk (R:RS G c g st s.heap) (n:Nat):Go G c s g { s with toks:=n } g st:=⟨R,Le.refl _ _,⟨rfl,rfl,rfl⟩⟩
theorem Go.grow (R:RS G c g st s.heap) {h':Heap} (n:Nat) (hg:∀ a o,s.heap.get? a=some o→h'.get? a=some o):Go G c s g { s with heap:=h',toks:=n } g st:=
  ⟨(R.grow hg).1,(R.grow hg).2,⟨rfl,rfl,rfl⟩⟩
theorem push_keep (h:Heap) (o:Obj):∀ a x,h.get? a=some x→(h.push o).get? a=some x:=fun a x e=>Heap.get?_push_of_some o e
theorem get?_size (h:Heap):h.get? h.objs.size=none:=by
  cases e:h.get? h.objs.size with
  | none=>rfl
  | some o=>exact absurd (Heap.lt_size e) (Nat.lt_irrefl _)
theorem RS.nsize (R:RS G c g st s.heap):s.heap.objs.size∉g.O:=fun q=>by
  obtain ⟨o,e⟩:=R.live _ q
  exact absurd (Heap.lt_size e) (Nat.lt_irrefl _)
theorem RS.pushJ (R:RS G c g st s.heap) {o:Obj} (ho:o.isFreed=false):(g.J (s.heap.push o)).get? s.heap.objs.size=some o:=
  hide_some.mpr ⟨R.nsize,Heap.get?_push_size _ ho⟩
theorem Rd.here {h:Heap} {O:List Addr}:∀ {x:PyData} {v:Value},Rd G.w (hide h O) x v→Rd G.w h x v:=fun {x} {v} e=>Rd.mono hide_sub x e
end
noncomputable abbrev onO {α:Type} (o:Option α) (k:α→Prop):Prop:=Option.casesOn (motive:=fun _=>Prop) o False k
theorem onO_ok {α:Type} {o:Option α} {k:α→Prop} (h:onO o k):∃ x,o=some x∧k x:=by
  cases o with
  | none=>exact h.elim
  | some x=>exact ⟨x,rfl,h⟩
noncomputable abbrev onD (y:V) (k:PyData→Prop):Prop:=V.casesOn (motive:=fun _=>Prop) y False k (fun _=>False) (fun _=>False) (fun _=>False) fun _=>False
theorem onD_ok {y:V} {k:PyData→Prop} (h:onD y k):∃ x,y = .d x∧k x:=by
  cases y with
  | d x=>exact ⟨x,rfl,h⟩
  | _=>exact h.elim
noncomputable abbrev onOwn (y:V) (k:Nat→Prop):Prop:=V.casesOn (motive:=fun _=>Prop) y False (fun _=>False) k (fun _=>False) (fun _=>False) fun _=>False
theorem onOwn_ok {y:V} {k:Nat→Prop} (h:onOwn y k):∃ x,y = .own x∧k x:=by
  cases y with
  | own x=>exact ⟨x,rfl,h⟩
  | _=>exact h.elim
noncomputable abbrev pc (fI:Int→Prop) (fS:Str→Prop) (fL fT:List PyData→Prop) (fD:List (PyData×PyData)→Prop) (x:PyData):Prop:=PyData.casesOn (motive_1:=fun _=>Prop) x False (fun _=>False) fI fS fL fT fD
theorem pc_ok {fI:Int→Prop} {fS:Str→Prop} {fL fT:List PyData→Prop} {fD:List (PyData×PyData)→Prop} {x:PyData} (h:pc fI fS fL fT fD x) {g:Prop} (hI:∀ i,x = .int i→fI i→g) (hS:∀ s,x = .str s→fS s→g) (hL:∀ l,x = .list l→fL l→g)
    (hT:∀ l,x = .tuple l→fT l→g) (hD:∀ l,x = .dict l→fD l→g):g:=by
  cases x with
  | none=>exact h.elim
  | bool=>exact h.elim
  | int i=>exact hI i rfl h
  | str s=>exact hS s rfl h
  | list l=>exact hL l rfl h
  | tuple l=>exact hT l rfl h
  | dict l=>exact hD l rfl h
noncomputable abbrev onI (x:PyData) (k:Int→Prop):Prop:=pc k (fun _=>False) (fun _=>False) (fun _=>False) (fun _=>False) x
noncomputable abbrev onS (x:PyData) (k:Str→Prop):Prop:=pc (fun _=>False) k (fun _=>False) (fun _=>False) (fun _=>False) x
noncomputable abbrev onL (x:PyData) (k:List PyData→Prop):Prop:=pc (fun _=>False) (fun _=>False) k (fun _=>False) (fun _=>False) x
noncomputable abbrev onT (x:PyData) (k:List PyData→Prop):Prop:=pc (fun _=>False) (fun _=>False) (fun _=>False) k (fun _=>False) x
noncomputable abbrev onK (x:PyData) (k:List (PyData×PyData)→Prop):Prop:=pc (fun _=>False) (fun _=>False) (fun _=>False) (fun _=>False) k x
theorem onI_ok {x:PyData} {k:Int→Prop} (h:onI x k):∃ i,x = .int i∧k i:=pc_ok h (fun i e h=>⟨i,e,h⟩) (fun _ _ h=>h.elim) (fun _ _ h=>h.elim) (fun _ _ h=>h.elim) fun _ _ h=>h.elim
theorem onS_ok {x:PyData} {k:Str→Prop} (h:onS x k):∃ i,x = .str i∧k i:=pc_ok h (fun _ _ h=>h.elim) (fun i e h=>⟨i,e,h⟩) (fun _ _ h=>h.elim) (fun _ _ h=>h.elim) fun _ _ h=>h.elim
theorem onL_ok {x:PyData} {k:List PyData→Prop} (h:onL x k):∃ i,x = .list i∧k i:=pc_ok h (fun _ _ h=>h.elim) (fun _ _ h=>h.elim) (fun i e h=>⟨i,e,h⟩) (fun _ _ h=>h.elim) fun _ _ h=>h.elim
theorem onT_ok {x:PyData} {k:List PyData→Prop} (h:onT x k):∃ i,x = .tuple i∧k i:=pc_ok h (fun _ _ h=>h.elim) (fun _ _ h=>h.elim) (fun _ _ h=>h.elim) (fun i e h=>⟨i,e,h⟩) fun _ _ h=>h.elim
theorem onK_ok {x:PyData} {k:List (PyData×PyData)→Prop} (h:onK x k):∃ i,x = .dict i∧k i:=pc_ok h (fun _ _ h=>h.elim) (fun _ _ h=>h.elim) (fun _ _ h=>h.elim) (fun _ _ h=>h.elim) fun i e h=>⟨i,e,h⟩
noncomputable abbrev onDI (y:V) (k:Int→Prop):Prop:=onD y fun x=>onI x k
theorem onDI_ok {y:V} {k:Int→Prop} (h:onDI y k):∃ i,y = .d (.int i)∧k i:=kEA (onD_ok h) fun _ e h=>kEA (onI_ok h) fun i e' h=>⟨i,e'▸e,h⟩
noncomputable abbrev onDT (y:V) (k:List PyData→Prop):Prop:=onD y fun x=>onT x k
theorem onDT_ok {y:V} {k:List PyData→Prop} (h:onDT y k):∃ i,y = .d (.tuple i)∧k i:=kEA (onD_ok h) fun _ e h=>kEA (onT_ok h) fun i e' h=>⟨i,e'▸e,h⟩
noncomputable abbrev onDS (y:V) (k:Str→Prop):Prop:=onD y fun x=>onS x k
theorem onDS_ok {y:V} {k:Str→Prop} (h:onDS y k):∃ i,y = .d (.str i)∧k i:=kEA (onD_ok h) fun _ e h=>kEA (onS_ok h) fun i e' h=>⟨i,e'▸e,h⟩
noncomputable abbrev onPL (o:Option PyData) (k:List PyData→Prop):Prop:=onO o fun x=>onL x k
theorem onPL_ok {o:Option PyData} {k:List PyData→Prop} (h:onPL o k):∃ i,o=some (.list i)∧k i:=kEA (onO_ok h) fun _ e h=>kEA (onL_ok h) fun i e' h=>⟨i,e'▸e,h⟩
noncomputable abbrev onPT (o:Option PyData) (k:List PyData→Prop):Prop:=onO o fun x=>onT x k
theorem onPT_ok {o:Option PyData} {k:List PyData→Prop} (h:onPT o k):∃ i,o=some (.tuple i)∧k i:=kEA (onO_ok h) fun _ e h=>kEA (onT_ok h) fun i e' h=>⟨i,e'▸e,h⟩
noncomputable abbrev onPK (o:Option PyData) (k:List (PyData×PyData)→Prop):Prop:=onO o fun x=>onK x k
theorem onPK_ok {o:Option PyData} {k:List (PyData×PyData)→Prop} (h:onPK o k):∃ i,o=some (.dict i)∧k i:=kEA (onO_ok h) fun _ e h=>kEA (onK_ok h) fun i e' h=>⟨i,e'▸e,h⟩
noncomputable abbrev on0 {α:Type} (l:List α) (k:Prop):Prop:=List.casesOn (motive:=fun _=>Prop) l k fun _ _=>False
theorem on0_ok {α:Type} {l:List α} {k:Prop} (h:on0 l k):l=[]∧k:=by
  cases l with
  | nil=>exact ⟨rfl,h⟩
  | cons=>exact h.elim
noncomputable abbrev on1 {α:Type} (l:List α) (k:α→Prop):Prop:=List.casesOn (motive:=fun _=>Prop) l False fun y r=>on0 r (k y)
theorem on1_ok {α:Type} {l:List α} {k:α→Prop} (h:on1 l k):∃ y,l=[y]∧k y:=by
  cases l with
  | nil=>exact h.elim
  | cons y r=>exact ⟨y,congrArg _ (on0_ok h).1,(on0_ok h).2⟩
noncomputable abbrev on2 {α:Type} (l:List α) (k:α→α→Prop):Prop:=List.casesOn (motive:=fun _=>Prop) l False fun y r=>on1 r (k y)
theorem on2_ok {α:Type} {l:List α} {k:α→α→Prop} (h:on2 l k):∃ y z,l=[y,z]∧k y z:=by
  cases l with
  | nil=>exact h.elim
  | cons y r=>exact kEA (on1_ok h) fun z e h=>⟨y,z,congrArg _ e,h⟩
noncomputable abbrev onC (o:Option Cell) (fL:List PyData→Prop) (fD:List (PyData×PyData)→Prop) (fT:List (List Ky×PyData)→Prop):Prop:=onO o fun q=>Cell.casesOn (motive:=fun _=>Prop) q fL fD fT (fun _=>False) False
theorem onC_ok {o:Option Cell} {fL:List PyData→Prop} {fD:List (PyData×PyData)→Prop} {fT:List (List Ky×PyData)→Prop} (h:onC o fL fD fT) {g:Prop} (hL:∀ l,o=some (.list l)→fL l→g) (hD:∀ l,o=some (.dict l)→fD l→g) (hT:∀ l,o=some (.tdict l)→fT l→g):g:=
  kEA (onO_ok h) fun q e h=>by
    cases q with
    | list l=>exact hL l e h
    | dict l=>exact hD l e h
    | tdict l=>exact hT l e h
    | _=>exact h.elim
noncomputable abbrev onCL (o:Option Cell) (k:List PyData→Prop):Prop:=onC o k (fun _=>False) fun _=>False
theorem onCL_ok {o:Option Cell} {k:List PyData→Prop} (h:onCL o k):∃ l,o=some (.list l)∧k l:=onC_ok h (fun l e h=>⟨l,e,h⟩) (fun _ _ h=>h.elim) fun _ _ h=>h.elim
noncomputable def asD (y:V) (Q:PyData→St→Prop) (st:St):Prop:=V.casesOn (motive:=fun _=>Prop) y False (fun x=>Q x st) (fun k=>onC st.μ[k]? (fun xs=>Q (.list xs) (st.fz k (.list xs))) (fun xs=>Q (.dict xs) (st.fz k (.dict xs))) fun _=>False) (fun _=>False) (fun _=>False) fun _=>False
noncomputable def asDsK2 (x:PyData) (L:List PyData→St→Prop):List PyData→St→Prop:=fun xs st2=>L (x :: xs) st2
noncomputable def asDsK (T:(List PyData→St→Prop)→St→Prop) (L:List PyData→St→Prop):PyData→St→Prop:=fun x st=>T (asDsK2 x L) st
noncomputable def asDs:List V→(List PyData→St→Prop)→St→Prop
  | [],Q,st=>Q [] st
  | y :: ys,Q,st=>asD y (asDsK (asDs ys) Q) st
noncomputable abbrev pkC (o:Option Cell):Option PyData:=Option.casesOn (motive:=fun _=>Option PyData) o none fun q=>Cell.casesOn (motive:=fun _=>Option PyData) q (fun l=>some (.list l)) (fun l=>some (.dict l)) (fun _=>none) (fun _=>none) none
noncomputable def pk (y:V) (st:St):Option PyData:=V.casesOn (motive:=fun _=>Option PyData) y none some (fun k=>pkC st.μ[k]?) (fun _=>none) (fun _=>none) fun _=>none
theorem pkC_inv {o:Option Cell} {x:PyData} {g:Prop} (e:pkC o=some x) (hl:∀ l,x = .list l→o=some (.list l)→g) (hD:∀ l,x = .dict l→o=some (.dict l)→g):g:=by
  cases o with
  | none=>cases e
  | some q=>cases q with
    | list l=>exact hl l (Option.some.inj e).symm rfl
    | dict l=>exact hD l (Option.some.inj e).symm rfl
    | _=>cases e
theorem onO_pk {F:PyData→Prop} (o:Option Cell):onO (pkC o) F=onC o (fun l=>F (.list l)) (fun l=>F (.dict l)) fun _=>False:=by
  cases o with
  | none=>rfl
  | some q=>cases q<;>rfl
theorem pk_inv {y:V} {st:St} {x:PyData} {g:Prop} (e:pk y st=some x) (hd:y = .d x→g) (hl:∀ k l,y = .own k→x = .list l→st.μ[k]?=some (.list l)→g) (hD:∀ k l,y = .own k→x = .dict l→st.μ[k]?=some (.dict l)→g):g:=by
  cases y with
  | d z=>exact hd (congrArg _ (Option.some.inj e))
  | own k=>exact pkC_inv e (fun l=>hl k l rfl) fun l=>hD k l rfl
  | _=>cases e
noncomputable def VRs (G:Gl) (h:Heap) (g:Gh):List V→List Value→Prop
  | [],vs=>vs=[]
  | y :: ys,vs=>∃ v r,vs=v :: r∧VR G h g y v∧VRs G h g ys r
theorem VRs.of {h h':Heap} {g g':Gh} (hk:∀ a o,(g.J h).get? a=some o→(g'.J h').get? a=some o) (hp:∀ (k:Nat) (a:Addr),g.as[k]?=some a→g'.as[k]?=some a):∀ (ys:List V) {vs:List Value},VRs G h g ys vs→VRs G h' g' ys vs:=by
  intro xs9
  induction xs9 with
  | nil=>
    intro _ e
    exact e
  | cons y ys ih=>
    rintro _ ⟨v,r,e,a,b⟩
    exact ⟨v,r,e,VR.of hk hp y a,ih b⟩
theorem VRs.go {c:Cx} {s s':Shared} {g g':Gh} {st st':St} (x:Go G c s g s' g' st') (R:RS G c g st s.heap) (ys:List V) {vs:List Value} (e:VRs G s.heap g ys vs):VRs G s'.heap g' ys vs:=
  VRs.of (x.le.still R.sub) (fun _ _ e=>pre_get x.le.pre e) ys e
theorem VRs.length {h:Heap} {g:Gh}:∀ (ys:List V) {vs:List Value},VRs G h g ys vs→vs.length=ys.length:=by
  intro xs9
  induction xs9 with
  | nil=>
    intro _ e
    rw [e]; rfl
  | cons y ys ih=>
    rintro _ ⟨v,r,e,a,b⟩
    simp only [e,List.length_cons,List.length_cons,ih b]
theorem RdL.length {w:World} {J:Heap}:∀ (xs:List PyData) {vs:List Value},RdL w J xs vs→vs.length=xs.length:=by
  intro xs9
  induction xs9 with
  | nil=>
    intro _ e
    simp only [RdL] at e; rw [e]; rfl
  | cons y ys ih=>
    intro _ h
    refine kEEAA h fun v r e a b=>?_
    simp only [e,List.length_cons,List.length_cons,ih b]
section
variable {c:Cx} {A:Around} {s s':Shared} {g g':Gh} {st st':St} {h:Heap}
theorem asD_ok {y:V} {v:Value} {Q:PyData→St→Prop} (R:RS G c g st s.heap) (hv:VR G s.heap g y v) (hq:asD y Q st) :
    ∃ x st' g',Go G c s g s g' st'∧Rd G.w (g'.J s.heap) x v∧Q x st':=by
  cases y with
  | d x=>exact ⟨x,st,g,Go.refl R,hv,hq⟩
  | own k=>
    refine kEA hv fun a ha z2=>?_
    subst z2
    refine onC_ok hq (fun xs e hq=>?_) (fun xs e hq=>?_) fun _ _ h=>h.elim
    · obtain ⟨b,hb,R',l,r⟩:=R.freeze e (d:=.list xs) rfl
      obtain rfl:a=b:=Option.some.inj (ha.symm.trans hb)
      exact ⟨_,_,_,⟨R',l,Rest.refl _⟩,r,hq⟩
    · obtain ⟨b,hb,R',l,r⟩:=R.freeze e (d:=.dict xs) rfl
      obtain rfl:a=b:=Option.some.inj (ha.symm.trans hb)
      exact ⟨_,_,_,⟨R',l,Rest.refl _⟩,r,hq⟩
  | _=>exact hq.elim
theorem asDs_ok:∀ (ys:List V) {s:Shared} {g:Gh} {st:St} {vs:List Value} {Q:List PyData→St→Prop} (R:RS G c g st s.heap) (hv:VRs G s.heap g ys vs) (hq:asDs ys Q st),
    ∃ xs st' g',Go G c s g s g' st'∧RdL G.w (g'.J s.heap) xs vs∧xs.length=ys.length∧Q xs st':=by
  intro xs9
  induction xs9 with
  | nil=>
    intro s g st vs Q R hv hq
    exact ⟨[],st,g,Go.refl R,by simp only [RdL]; exact hv,rfl,hq⟩
  | cons y ys ih=>
    rintro s g st vs Q R ⟨v,r,e,a,b⟩ hq
    refine kEEEAA (asD_ok R a hq) fun x st1 g1 go1 r1 hq1=>?_
    refine kEEEAAA (ih go1.rs (VRs.go go1 R ys b) hq1) fun xs st2 g2 go2 r2 e2 hq2=>?_
    refine ⟨x :: xs,st2,g2,go1.trans go2,?_,by simp [e2],hq2⟩
    exact ⟨v,r,e,Rd.mono (go2.le.still go1.rs.sub) _ r1,r2⟩
theorem pk_ok {y:V} {v:Value} {x:PyData} (R:RS G c g st h) (hv:VR G h g y v) (e:pk y st=some x):Rd G.w h x v:=by
  refine pk_inv e (fun z=>?_) (fun k l z1 z2 z3=>?_) fun k l z1 z2 z3=>?_
  · subst z
    exact Rd.mono hide_sub _ hv
  · subst z1 z2
    exact kEA hv fun a ha z=>kAAEEA (R.cells k _ a z3 rfl ha) fun _ _ vs n h1 h2=>⟨a,vs,n,z,h1,RdL.mono hide_sub _ h2⟩
  · subst z1 z2
    refine kEA hv fun a ha z=>?_
    obtain ⟨_,_,o,es,ep,h0,h1,h2,h3,h4,h5⟩:=R.cells k _ a z3 rfl ha
    exact ⟨a,o,es,ep,z,h0,h1,h2,h3,RdE.mono hide_sub _ h4,h5⟩
end
noncomputable def nmK (y:V) (R:V→St→Prop) (st:St):Prop:=match y with | .u=>False | y=>R y st
theorem nmK_ok {y:V} {R:V→St→Prop} {st:St} (h:nmK y R st):y≠.u∧R y st:=by cases y<;>first | exact h.elim | exact ⟨V.noConfusion,h⟩
noncomputable def nameT (i:Nat):Tr V:=fun Q st=>nmK (st.get i) Q st
noncomputable def litT (x:PyData):Tr V:=fun Q st=>Q (.d x) st
theorem vr_int {h:Heap} {g:Gh} {i:Int} {t:Tok}:VR G h g (.d (.int i)) (.int i t):=⟨t,rfl⟩
theorem vr_str {h:Heap} {g:Gh} {i:Str} {t:Tok}:VR G h g (.d (.str i)) (.str i t):=⟨t,rfl⟩
theorem vr_bool {h:Heap} {g:Gh} {i:Bool}:VR G h g (.d (.bool i)) (.bool i):=rfl
theorem vr_none {h:Heap} {g:Gh}:VR G h g (.d .none) .none:=rfl
theorem getD_some {st:St} {i:Nat} (h:st.get i≠.u):st.ρ[i]?=some (st.get i):=by
  unfold St.get at *
  rw [List.getD_eq_getElem?_getD] at *
  cases e:st.ρ[i]? with
  | none=>rw [e] at h; exact absurd rfl h
  | some y=>rfl
theorem SemE.name {i:Nat} {x:Str} {pos:Pos} (hi:K.slots[i]?=some x) (hd:(x==("__debug__" : Str))=false):SemE G K (.Name x pos) (nameT i):=by
  intro c A s g st Q a R hnq
  refine kA (nmK_ok hnq) fun hne hq=>?_
  have hi':c.slots[i]?=some x:=by rw [a.sl]; exact hi
  refine kEEAA R.names fun m cm h1 h2 h3=>?_
  refine kEA (h3 i x _ hi' (getD_some hne) hne) fun v hv hr=>?_
  have fin:PV G c s g Q v s:=⟨_,st,g,Go.refl R,hr,hq⟩
  rcases a.ok.kd x (List.mem_of_getElem? hi') with k | ⟨k,b,hb⟩
  · rw [if_pos k] at hv
    exact wpAny_Name (wpAny_loadName_local a.ok.fn k h1 hv fin) hd
  · rw [if_neg (by rw [k]; decide)] at hv
    exact wpAny_Name (wpAny_loadName_cell a.ok.fn k hb (hv▸h2 x b hb) fin) hd
noncomputable def GC (G:Gl) (x:Str) (d:PyData):Prop:=∃ v,G.mg x=some v∧Rd G.w G.h₀ d v
theorem SemE.glob {x:Str} {pos:Pos} {d:PyData} (hk:K.sc.names.lookup x=some .globalImplicit) (hg:GC G x d) (hd:(x==("__debug__" : Str))=false):SemE G K (.Name x pos) (litT d):=by
  intro c A s g st Q a R hq
  refine kEA hg fun v hv hr=>?_
  have hkd:c.env.kindOf x=some .globalImplicit:=by unfold Env.kindOf; rw [a.sc]; exact hk
  refine Calls.Name_function_global a.ok.fn hkd (Calls.loadGlobal_global (env:=c.env) (by rw [a.ok.gl]; exact G.g.keeps fun b o e=>hide_sub _ _ (R.base b o e)) hv ?_) hd
  exact ⟨.d _,st,g,Go.refl R,Rd.mono R.base _ hr,hq⟩
theorem rd_int {w:World} {J:Heap} {i:Int} {t:Tok}:Rd w J (.int i) (.int i t):=by rw [Rd]; exact ⟨t,rfl⟩
theorem rd_str {w:World} {J:Heap} {i:Str} {t:Tok}:Rd w J (.str i) (.str i t):=by rw [Rd]; exact ⟨t,rfl⟩
theorem rd_bool {w:World} {J:Heap} {i:Bool}:Rd w J (.bool i) (.bool i):=by rw [Rd]
theorem rd_none {w:World} {J:Heap}:Rd w J .none .none:=by rw [Rd]
theorem SemE.cInt {i:Int} {k:Nat} {pos:Pos}:SemE G K (.Constant (.int i) k pos) (litT (.int i)):=fun c A s g st Q a R hq=>
  wpAny_Constant_int ⟨.d (.int i),st,g,Go.tk R _,vr_int,hq⟩
theorem SemE.cStr {i:Str} {k:Nat} {pos:Pos}:SemE G K (.Constant (.str i) k pos) (litT (.str i)):=fun c A s g st Q a R hq=>
  wpAny_Constant_str ⟨.d (.str i),st,g,Go.tk R _,vr_str,hq⟩
theorem SemE.cBool {i:Bool} {k:Nat} {pos:Pos}:SemE G K (.Constant (.bool i) k pos) (litT (.bool i)):=fun c A s g st Q a R hq=>
  wpAny_Constant_bool ⟨.d (.bool i),st,g,Go.refl R,vr_bool,hq⟩
theorem SemE.cNone {k:Nat} {pos:Pos}:SemE G K (.Constant .none k pos) (litT .none):=fun c A s g st Q a R hq=>
  wpAny_Constant_none ⟨.d .none,st,g,Go.refl R,vr_none,hq⟩
noncomputable def evsK2 (y:V) (P:List V→St→Prop):List V→St→Prop:=fun ys st2=>P (y :: ys) st2
noncomputable def evsK (T:Tr (List V)) (P:List V→St→Prop):QV:=fun y st=>T (evsK2 y P) st
noncomputable def evsT:List (Tr V)→Tr (List V)
  | []=>fun Q st=>Q [] st
  | t :: ts=>fun Q st=>t (evsK (evsT ts) Q) st
inductive PVs (G:Gl) (c:Cx) (s:Shared) (g:Gh) (Q:List V→St→Prop) (v:List Value) (s':Shared):Prop
  | mk (y:List V) (st':St) (g':Gh) (go:Go G c s g s' g' st') (vr:VRs G s'.heap g' y v) (q:Q y st')
theorem PVs.bind {M:Model} {A:Around} {E:Value→Shared→Prop} {c:Cx} {s s0:Shared} {g:Gh} {t:Sem (List Value)} {Q:List V→St→Prop} {P:List Value→Shared→Prop} (h:wpAny M A t (PVs G c s g Q) No s0) (k:∀ v s' y st' g',Go G c s g s' g' st'→VRs G s'.heap g' y v→Q y st'→P v s'):wpAny M A t P E s0:=
  wpAny_mono h (fun v s' x=>by cases x with | mk y st' g' go vr q=>exact k v s' y st' g' go vr q) fun _ _ e=>e.elim
noncomputable def SemEs (G:Gl) (K:Sk) (es:List Expr) (T:Tr (List V)):Prop:=
  ∀ (pos:Pos) (c:Cx) (A:Around) (s:Shared) (g:Gh) (st:St) (Q:List V→St→Prop),At K c A→RS G c g st s.heap→T Q st→wpAny (model G.prog G.w) A (spliced (backTo pos (starEach es c.env))) (PVs G c s g fun ys st'=>ys.length=es.length∧Q ys st') No s
theorem SemEs.nil:SemEs G K [] (evsT []):=fun pos c A s g st Q a R hq=>wpAny_items_nil ⟨[],st,g,Go.refl R,rfl,rfl,hq⟩
theorem SemEs.cons {e:Expr} {r:List Expr} {t:Tr V} {ts:List (Tr V)} (h1:SemE G K e t) (h2:SemEs G K r (evsT ts)) (hst:∀ env,starEach (e :: r) env=(false,eval e env) :: starEach r env) :
    SemEs G K (e :: r) (evsT (t :: ts)):=fun pos c A s g st Q a R hq=>
  wpAny_items_cons (PV.bind (h1 c A s g st _ a R hq) (fun v s1 y st1 g1 go1 v1 hq1=>
    PVs.bind (h2 pos c A s1 g1 st1 _ a go1.rs hq1) (fun vs s2 ys st2 g2 go2 v2 hz2=>⟨y :: ys,st2,g2,go1.trans go2,⟨v,vs,rfl,VR.go go2 go1.rs y v1,v2⟩,by simp [hz2.1],hz2.2⟩))) (hst _)
noncomputable def tupK2 (R:V→St→Prop):List PyData→St→Prop:=fun xs st2=>Stop (R (.d (.tuple xs)) st2)
noncomputable def tupK (R:V→St→Prop):List V→St→Prop:=fun ys st=>asDs ys (tupK2 R) st
noncomputable def tupT (ts:List (Tr V)):Tr V:=fun Q st=>evsT ts (tupK Q) st
theorem SemE.tuple {es:List Expr} {k:Nat} {pos:Pos} {ts:List (Tr V)} (h:SemEs G K es (evsT ts)) (hn:es.length≤1000) :
    SemE G K (.Tuple es k pos) (tupT ts):=fun c A s g st Q a R hq=>by
  refine wpAny_Tuple (PVs.bind (h pos c A s g st _ a R hq) (fun vs s1 ys st1 g1 go1 v1 hz=>?_))
  refine kEEEAAA (asDs_ok ys go1.rs v1 hz.2) fun xs st2 g2 go2 r2 e2 hq2=>?_
  have hsz:vs.length≤1000:=by simp only [VRs.length ys v1,hz.1]; exact hn
  refine ⟨Nat.le_trans hsz (by decide),_,st2,g2,(go1.trans go2).trans (Go.grow go2.rs _ (push_keep _ _)),?_,hq2.out⟩
  simp only [Rd]
  exact ⟨_,vs.toArray,0,rfl,go2.rs.pushJ rfl,by exact RdL.mono ((go2.rs).tj (push_keep _ _)) _ r2⟩
noncomputable def newlT (ow:Bool) (xs:List PyData):Tr V:=fun Q st=>if ow then Q (.own st.μ.length) ⟨st.ρ,st.μ++[.list xs]⟩ else Q (.d (.list xs)) st
noncomputable def listK2 (ow:Bool) (R:V→St→Prop):List PyData→St→Prop:=fun xs st2=>Stop (newlT ow xs R st2)
noncomputable def listK (ow:Bool) (R:V→St→Prop):List V→St→Prop:=fun ys st=>asDs ys (listK2 ow R) st
noncomputable def listT (ow:Bool) (ts:List (Tr V)):Tr V:=fun Q st=>evsT ts (listK ow Q) st
theorem newl_ok {c:Cx} {s:Shared} {g:Gh} {st:St} (ow:Bool) {xs:List PyData} {vs:Array Value} {n:Nat} {tk:Nat} {Q:V→St→Prop} (R:RS G c g st s.heap) (r:RdL G.w (g.J s.heap) xs vs.toList)
    (hq:newlT ow xs Q st):PV G c s g Q (.ref s.heap.objs.size) { s with heap:=s.heap.push (lst vs n),toks:=tk }:=by
  unfold newlT at hq
  cases ow with
  | true=>
    have hlv:=Heap.get?_push_size s.heap (o:=lst vs n) rfl
    have ha:=get?_size s.heap
    have hj:∀ b o,(g.J s.heap).get? b=some o→(Gh.J ⟨s.heap.objs.size :: g.O,s.heap.objs.size :: g.M,g.as++[s.heap.objs.size]⟩ (s.heap.push (lst vs n))).get? b=some o:=fun b o e=>by
      refine kA (hide_some.mp e) fun h1 h2=>?_
      refine hide_some.mpr ⟨fun q=>?_,push_keep _ _ b o h2⟩
      rcases List.mem_cons.mp q with q | q
      · simp only [q,ha] at h2; cases h2
      · exact h1 q
    refine kA (R.new (q:=.list xs) ha (push_keep _ _) ⟨_,hlv⟩ ⟨vs,n,hlv,RdL.mono hj _ r⟩) fun R' l'=>?_
    refine ⟨.own st.μ.length,_,_,⟨R',l',⟨rfl,rfl,rfl⟩⟩,⟨_,?_,rfl⟩,hq⟩
    rw [← R.len']; simp
  | false=>
    refine ⟨.d (.list xs),st,g,Go.grow R _ (push_keep _ _),?_,hq⟩
    simp only [Rd]
    exact ⟨_,vs,n,rfl,R.pushJ rfl,RdL.mono (R.tj (push_keep _ _)) _ r⟩
theorem SemE.list {es:List Expr} {pos:Pos} {ts:List (Tr V)} (ow:Bool) (h:SemEs G K es (evsT ts)) (hn:es.length≤1000) :
    SemE G K (.List es pos) (listT ow ts):=fun c A s g st Q a R hq=>by
  refine wpAny_List (PVs.bind (h pos c A s g st _ a R hq) (fun vs s1 ys st1 g1 go1 v1 hz=>?_))
  refine kEEEAAA (asDs_ok ys go1.rs v1 hz.2) fun xs st2 g2 go2 r2 e2 hq2=>?_
  have hsz:vs.length≤1000:=by simp only [VRs.length ys v1,hz.1]; exact hn
  refine ⟨Nat.le_trans hsz (by decide),PV.pre (go1.trans go2) (newl_ok ow go2.rs (by exact r2) hq2.out)⟩
end
section
variable {G:Gl} {K:Sk}
mutual
theorem Rd.reads {w:World} {h:Heap}:∀ (x:PyData) {v:Value},x.canLay0=true→Rd w h x v→∃ as,Reads h v x as
  | .none,v,_,e=>by simp only [Rd] at e; subst e; exact ⟨_,.none⟩
  | .bool b,v,_,e=>by simp only [Rd] at e; subst e; exact ⟨_,.bool b⟩
  | .int i,v,_,e=>by simp only [Rd] at e; obtain ⟨t,rfl⟩:=e; exact ⟨_,.int i t⟩
  | .str i,v,_,e=>by simp only [Rd] at e; obtain ⟨t,rfl⟩:=e; exact ⟨_,.str i t⟩
  | .list xs,v,hk,e=>by
    refine kEEEAA e fun a vs n z2 h1 h2=>?_
    subst z2
    obtain ⟨as,r⟩:=RdL.reads xs hk h2
    exact ⟨_,.list h1 rfl rfl r⟩
  | .tuple xs,v,hk,e=>by
    refine kEEEAA e fun a vs n z4 h1 h2=>?_
    subst z4
    obtain ⟨as,r⟩:=RdL.reads xs hk h2
    exact ⟨_,.tuple h1 rfl rfl r⟩
  | .dict kvs,v,hk,e=>by simp only [PyData.canLay0] at hk; cases hk
theorem RdL.reads {w:World} {h:Heap}:∀ (xs:List PyData) {vs:List Value},PyData.canLayAll0 xs=true→RdL w h xs vs→∃ as,ReadsAll h vs xs as
  | [],vs,_,e=>by simp only [RdL] at e; subst e; exact ⟨_,.nil⟩
  | x :: xs,vs,hk,e=>by
    refine kEEAA e fun v r z6 a b=>?_
    subst z6
    simp only [PyData.canLayAll0,Bool.and_eq_true] at hk
    obtain ⟨as,ra⟩:=Rd.reads x hk.1 a
    refine kE (RdL.reads xs hk.2 b) fun bs rb=>?_
    exact ⟨_,.cons ra rb⟩
end
noncomputable def okd (x:PyData):Bool:=x.canLay0&&decide (x.depth≤16)
theorem okd_lay {x:PyData} (h:okd x=true):x.canLay0=true:=(Bool.and_eq_true_iff.mp h).1
theorem okd_depth {x:PyData} (h:okd x=true):x.depth≤16:=of_decide_eq_true (Bool.and_eq_true_iff.mp h).2
theorem Room.units {A:Around} {lv:Nat} (r:Room A lv):A.units+200<cLine:=by have:=r.un; show A.units+200<9900; lia
theorem Room.few {A:Around} {lv:Nat} (r:Room A lv) {x:PyData} {n:Nat} (h:okd x=true):A.units+min x.depth n<cLine:=by
  have:=r.units
  have:=okd_depth h
  have:=Nat.min_le_left x.depth n
  lia
theorem Room.few1 {A:Around} {lv:Nat} (r:Room A lv) {x:PyData} {n:Nat} (h:okd x=true):A.units+1+min n x.depth<cLine:=by
  have:=r.units
  have:=okd_depth h
  have:=Nat.min_le_right n x.depth
  lia
noncomputable abbrev Op2:=V→V→Tr V
noncomputable def eqO:Op2:=fun a b Q st=>onO (pk a st) fun x=>onO (pk b st) fun y=>okd x=true∧okd y=true∧Q (.d (.bool (x.eqv y))) st
noncomputable def neO:Op2:=fun a b Q st=>onO (pk a st) fun x=>onO (pk b st) fun y=>okd x=true∧okd y=true∧Q (.d (.bool (!x.eqv y))) st
noncomputable def icO (f:Int→Int→Bool):Op2:=fun a b Q st=>onDI a fun x=>onDI b fun y=>Q (.d (.bool (f x y))) st
noncomputable def kyOf:PyData→Option Ky
  | .none=>some .none
  | .int i=>some (.int i)
  | .str x=>some (.str x)
  | _=>none
theorem kyOf_kD (q:Ky):kyOf (kD q)=some q:=by cases q<;>rfl
noncomputable def dlook (kvs:List (PyData×PyData)) (q:Ky):Option PyData:=(kvs.find? fun p=>kyOf p.1==some q).map (·.2)
noncomputable def dput (kvs:List (PyData×PyData)) (q:Ky) (x:PyData):List (PyData×PyData):=
  if kvs.any (fun p=>kyOf p.1==some q) then kvs.map (fun p=>if kyOf p.1==some q then (p.1,x) else p) else kvs++[(kD q,x)]
noncomputable def isIn (a b:V) (st:St) (k:Bool→Prop):Prop:=onO (pk a st) fun x=>onO (pk b st) (pc (fun _=>False) (fun _=>False) (fun xs=>okd x=true∧PyData.canLayAll0 xs=true∧k (xs.any fun y=>y.eqv x)) (fun xs=>okd x=true∧PyData.canLayAll0 xs=true∧k (xs.any fun y=>y.eqv x)) fun kvs=>∃ q,kyOf x=some q∧k (dlook kvs q).isSome)
noncomputable def inO:Op2:=fun a b Q st=>isIn a b st fun t=>Q (.d (.bool t)) st
noncomputable def niO:Op2:=fun a b Q st=>isIn a b st fun t=>Q (.d (.bool (!t))) st
noncomputable def SemO (G:Gl) (lv:Nat) (m:Value→Value→Sem Value) (o:Op2):Prop:=
  ∀ (c:Cx) (A:Around) (s:Shared) (g:Gh) (st:St) (Q:V→St→Prop) (a b:V) (u v:Value),Room A lv→RS G c g st s.heap→VR G s.heap g a u→VR G s.heap g b v→o a b Q st →
    wpAny (model G.prog G.w) A (m u v) (PV G c s g Q) No s
theorem eqO_ok {lv:Nat}:SemO G lv (compareOp .Eq) eqO:=fun c A s g st Q a b u v r R ha hb hq=>by
  refine kEA (onO_ok hq) fun x e1 hq=>kEA (onO_ok hq) fun y e2 hq=>?_
  obtain ⟨as,ra⟩:=Rd.reads _ (okd_lay hq.1) (pk_ok R ha e1)
  obtain ⟨bs,rb⟩:=Rd.reads _ (okd_lay hq.2.1) (pk_ok R hb e2)
  exact SeqAt.compareEq_reads ra rb (okd_lay hq.1) (okd_lay hq.2.1) (r.few hq.1) ⟨_,st,g,Go.refl R,vr_bool,hq.2.2⟩
theorem neO_ok {lv:Nat}:SemO G lv (compareOp .NotEq) neO:=fun c A s g st Q a b u v r R ha hb hq=>by
  refine kEA (onO_ok hq) fun x e1 hq=>kEA (onO_ok hq) fun y e2 hq=>?_
  obtain ⟨as,ra⟩:=Rd.reads _ (okd_lay hq.1) (pk_ok R ha e1)
  obtain ⟨bs,rb⟩:=Rd.reads _ (okd_lay hq.2.1) (pk_ok R hb e2)
  exact SeqAt.compareNe_reads ra rb (okd_lay hq.1) (okd_lay hq.2.1) (r.few hq.1) ⟨_,st,g,Go.refl R,vr_bool,hq.2.2⟩
theorem icO_ok {lv:Nat} {op:CmpOp} {f:Int→Int→Bool} (h:∀ (prog:Program) (w:World) (A:Around) (E:Value→Shared→Prop) (s:Shared) (a b:Int) (t u:Tok) (Q:Value→Shared→Prop),Q (.bool (f a b)) s→wpAny (model prog w) A (compareOp op (.int a t) (.int b u)) Q E s) :
    SemO G lv (compareOp op) (icO f):=fun c A s g st Q a b u v r R ha hb hq=>by
  refine kEA (onDI_ok hq) fun x z1 hq=>kEA (onDI_ok hq) fun y z2 hq=>?_
  subst z1 z2
  exact kE ha fun t z3=>kE hb fun t' z4=>z3▸z4▸h _ _ _ _ _ _ _ _ _ _ ⟨_,st,g,Go.refl R,vr_bool,hq⟩
theorem ltO_ok {lv:Nat}:SemO G lv (compareOp .Lt) (icO fun a b=>decide (a<b)):=icO_ok fun _ _ _ _ _ _ _ _ _ _ h=>lt_int h
theorem gtO_ok {lv:Nat}:SemO G lv (compareOp .Gt) (icO fun a b=>decide (b<a)):=icO_ok fun _ _ _ _ _ _ _ _ _ _ h=>gt_int h
theorem leO_ok {lv:Nat}:SemO G lv (compareOp .LtE) (icO fun a b=>decide (a≤b)):=icO_ok fun _ _ _ _ _ _ _ _ _ _ h=>le_int h
theorem geO_ok {lv:Nat}:SemO G lv (compareOp .GtE) (icO fun a b=>decide (b≤a)):=icO_ok fun _ _ _ _ _ _ _ _ _ _ h=>ge_int h
inductive KV (w:World) (J:Heap):List (PyData×PyData)→List (Ky×Value)→Prop
  | nil:KV w J [] []
  | cons {p:PyData×PyData} {q:Ky×Value} {ps qs}:p.1=kD q.1→Rd w J p.2 q.2→KV w J ps qs→KV w J (p :: ps) (q :: qs)
theorem RdE.split {w:World} {prog:Program} {J:Heap}:∀ (kvs:List (PyData×PyData)) {es:List DictEntry},RdE w J kvs es→∃ ks:List (Ky×Value),Pairs (ky prog w) es ks∧(∀ e∈es,∃ k,(ky prog w).is k e.key=true∧e.hash=(ky prog w).hash k) ∧
    kvs.map (·.1)=ks.map (fun p=>kD p.1)∧KV w J kvs ks:=by
  intro xs9
  induction xs9 with
  | nil=>
    intro es h
    simp only [RdE] at h; subst h; exact ⟨[],.nil,(fun e he=>by cases he),rfl,.nil⟩
  | cons p9 r ih=>
    obtain ⟨k,x⟩:=p9
    intro es h
    refine kEEAAA h fun e t z8 z9 h4 h5=>?_
    subst z8
    refine kEAA z9 fun q z11 h2 h3=>?_
    subst z11
    obtain ⟨ks,p1,p2,p3,p4⟩:=ih h5
    refine ⟨(q,e.val) :: ks,.cons h2 rfl p1,fun y hy=>?_,by simp [p3],.cons rfl h4 p4⟩
    refine Or.elim (List.mem_cons.mp hy) (fun z12=>?_) (fun hy=>?_)
    · subst z12
      exact ⟨q,h2,h3⟩
    · exact p2 y hy
theorem nodup_kD {ks:List (Ky×Value)} (h:(ks.map (fun p=>kD p.1)).Nodup):(ks.map (·.1)).Nodup:=by
  unfold List.Nodup at *
  rw [List.pairwise_map] at *
  exact h.imp fun hab e=>hab (by exact congrArg _ (e))
theorem dictOf_of {w:World} {prog:Program} {J h:Heap} {a:Addr} {o:Obj} {es:Array DictEntry} {ep:Nat} {kvs:List (PyData×PyData)} (h1:h.get? a=some o) (h2:o.ExactDict) (h3:o.data = .dict es ep)
    (h4:RdE w J kvs es.toList) (h5:(kvs.map (·.1)).Nodup):∃ ks,h.DictOf (ky prog w) a ks∧KV w J kvs ks:=by
  refine kEAAA (RdE.split (prog:=prog) kvs h4) fun ks p1 p2 p3 p4=>?_
  exact ⟨ks,⟨o,es,ep,h1,h2,h3,fun e he=>p2 e (Array.mem_toList_iff.mpr he),p1,nodup_kD (p3▸h5)⟩,p4⟩
theorem kv_look {w:World} {J:Heap} {kvs:List (PyData×PyData)} {ks:List (Ky×Value)} (h:KV w J kvs ks) (q:Ky):(dlook kvs q=none∧valueAt ks q=none)∨∃ x v,dlook kvs q=some x∧valueAt ks q=some v∧Rd w J x v:=by
  induction h with
  | nil=>exact .inl ⟨rfl,rfl⟩
  | @cons p r kvs ks e1 e2 _ ih=>
    delta dlook valueAt at *
    simp only [List.find?_cons,e1,kyOf_kD]
    by_cases hq:r.1=q
    · right; exact ⟨p.2,r.2,by simp [hq],by simp [hq],e2⟩
    · have h1:(some r.1==some q)=false:=by simpa using hq
      have h2:decide (r.1=q)=false:=by simpa using hq
      simp only [h1,h2]
      exact ih
theorem Rd.dict_at {w:World} {prog:Program} {h:Heap} {kvs:List (PyData×PyData)} {v:Value} (e:Rd w h (.dict kvs) v):∃ a ks,v = .ref a∧(a==sysModules)=false∧h.DictOf (ky prog w) a ks∧KV w h kvs ks:=by
  simp only [Rd] at e
  obtain ⟨a,o,es,n,rfl,h0,h1,h2,h3,h4,h5⟩:=e
  refine kEA (dictOf_of (prog:=prog) h1 h2 h3 h4 h5) fun ks d k=>?_
  exact ⟨a,ks,rfl,h0,d,k⟩
theorem ky_is {w:World} {prog:Program} {h:Heap} {x:PyData} {q:Ky} {v:Value} (hq:kyOf x=some q) (e:Rd w h x v):(ky prog w).is q v=true:=by
  cases x with
  | none=>
    cases hq
    exact Ky.mk (congrArg Ky.of (show v = .none from e))
  | int i=>
    cases hq
    exact kE e fun t e=>Ky.mk (congrArg Ky.of e)
  | str i=>
    cases hq
    exact kE e fun t e=>Ky.mk (congrArg Ky.of e)
  | _=>cases hq
theorem isIn_ok {c:Cx} {A:Around} {s:Shared} {g:Gh} {st:St} {lv:Nat} {k:Bool→Prop} {a b:V} {u v:Value} (r:Room A lv) (R:RS G c g st s.heap) (ha:VR G s.heap g a u) (hb:VR G s.heap g b v) (hq:isIn a b st k) :
    ∃ t,k t∧(∀ (E:Value→Shared→Prop) (Q:Value→Shared→Prop),(∀ tk,Q (.bool t) { s with toks:=tk })→wpAny (model G.prog G.w) A (compareOp .In u v) Q E s) ∧
      (∀ (E:Value→Shared→Prop) (Q:Value→Shared→Prop),(∀ tk,Q (.bool (!t)) { s with toks:=tk })→wpAny (model G.prog G.w) A (compareOp .NotIn u v) Q E s):=by
  refine kEA (onO_ok hq) fun x e1 hq=>kEA (onO_ok hq) fun y e2 hq=>pc_ok hq (fun _ _ h=>h.elim) (fun _ _ h=>h.elim) (fun xs z1 hq=>?_) (fun xs z1 hq=>?_) fun kvs z1 hq=>?_
  · subst z1
    obtain ⟨as,ra⟩:=Rd.reads _ (okd_lay hq.1) (pk_ok R ha e1)
    obtain ⟨bs,rb⟩:=Rd.reads _ (by simp only [PyData.canLay0]; exact hq.2.1) (pk_ok R hb e2)
    exact ⟨_,hq.2.2,fun E Q h=>SeqAt.in_list_reads rb ra hq.2.1 (okd_lay hq.1) (r.few1 hq.1) (h _),fun E Q h=>SeqAt.notIn_list_reads rb ra hq.2.1 (okd_lay hq.1) (r.few1 hq.1) (h _)⟩
  · subst z1
    obtain ⟨as,ra⟩:=Rd.reads _ (okd_lay hq.1) (pk_ok R ha e1)
    obtain ⟨bs,rb⟩:=Rd.reads _ (by simp only [PyData.canLay0]; exact hq.2.1) (pk_ok R hb e2)
    exact ⟨_,hq.2.2,fun E Q h=>SeqAt.in_tuple_reads rb ra hq.2.1 (okd_lay hq.1) (r.few1 hq.1) (h _),fun E Q h=>SeqAt.notIn_tuple_reads rb ra hq.2.1 (okd_lay hq.1) (r.few1 hq.1) (h _)⟩
  · subst z1
    refine kEA hq fun q eq hq=>?_
    have hk:=ky_is (prog:=G.prog) eq (pk_ok R ha e1)
    refine kEEAAA (Rd.dict_at (prog:=G.prog) (pk_ok R hb e2)) fun d ks z16 hds hd hkv=>?_
    subst z16
    have hsome:(valueAt ks q).isSome=(dlook kvs q).isSome:=by
      rcases kv_look hkv q with ⟨e1,e2⟩ | ⟨x',v',e1,e2,_⟩<;>rw [e1,e2]<;>rfl
    exact ⟨_,hq,fun E Q h=>wpAny_in_of hk hds hd.mapOf (by rw [hsome]; exact h _),fun E Q h=>wpAny_notIn_of hk hds hd.mapOf (by rw [hsome]; exact h _)⟩
end
section
variable {G:Gl} {K:Sk}
noncomputable def botT {α:Type}:Tr α:=fun _ _=>False
theorem SemE.bot {e:Expr}:SemE G K e botT:=fun _ _ _ _ _ _ _ _ h=>h.elim
theorem SemB.bot {e:Expr}:SemB G K e botT:=fun _ _ _ _ _ _ _ _ h=>h.elim
theorem SemS.bot {e:Stmt}:SemS G K e botT:=fun _ _ _ _ _ _ _ _ h=>h.elim
theorem SemSs.bot {e:List Stmt}:SemSs G K e botT:=fun _ _ _ _ _ _ _ _ h=>h.elim
theorem inO_ok {lv:Nat}:SemO G lv (compareOp .In) inO:=fun c A s g st Q a b u v r R ha hb hq=>by
  refine kEAA (isIn_ok r R ha hb hq) fun t h1 h2 _=>?_
  exact h2 _ _ fun tk=>⟨_,st,g,Go.tk R _,vr_bool,h1⟩
theorem niO_ok {lv:Nat}:SemO G lv (compareOp .NotIn) niO:=fun c A s g st Q a b u v r R ha hb hq=>by
  refine kEAA (isIn_ok r R ha hb hq) fun t h1 _ h2=>?_
  exact h2 _ _ fun tk=>⟨_,st,g,Go.tk R _,vr_bool,h1⟩
noncomputable def op2K2 (a:V) (f:Op2) (R:QV):QV:=fun b st2=>f a b R st2
noncomputable def op2K (r:Tr V) (f:Op2) (R:QV):QV:=fun a st1=>r (op2K2 a f R) st1
noncomputable def op2T (l r:Tr V) (o:Op2):Tr V:=fun Q st=>l (op2K r o Q) st
theorem two_ok {e1 e2:Expr} {l r:Tr V} {c:Cx} {A:Around} {s:Shared} {g:Gh} {st:St} {Q:V→V→St→Prop} (h1:SemE G K e1 l) (h2:SemE G K e2 r) (a:At K c A) (R:RS G c g st s.heap)
    (hq:l (fun a st1=>r (fun b st2=>Q a b st2) st1) st) {P:Value→Value→Shared→Prop}
    (hP:∀ a b u v st' g' s',Go G c s g s' g' st'→VR G s'.heap g' a u→VR G s'.heap g' b v→Q a b st'→P u v s') :
    wpAny (model G.prog G.w) A (eval e1 c.env) (fun u s1=>wpAny (model G.prog G.w) A (eval e2 c.env) (fun v s2=>P u v s2) No s1) No s:=
  PV.bind (h1 c A s g st _ a R hq) (fun u s1 x st1 g1 go1 v1 hq1=>
    PV.bind (h2 c A s1 g1 st1 _ a go1.rs hq1) (fun v s2 y st2 g2 go2 v2 hq2=>hP x y u v st2 g2 s2 (go1.trans go2) (VR.go go2 go1.rs x v1) v2 hq2))
theorem SemE.cmp {op:CmpOp} {e1 e2:Expr} {pos:Pos} {l r:Tr V} {o:Op2} (h1:SemE G K e1 l) (h2:SemE G K e2 r) (ho:SemO G K.lv (compareOp op) o) (hm:behindInMarks op e2=false) :
    SemE G K (.Compare e1 [op] [e2] pos) (op2T l r o):=fun c A s g st Q a R hq=>
  wpAny_Compare1 (wpAny_mono (two_ok (P:=fun u v s2=>wpAny (model G.prog G.w) A (compareOp op u v) (PV G c s g Q) No s2) h1 h2 a R hq
    fun x y u v st' g' s' go vx vy hq'=>wpAny_mono (ho c A s' g' st' Q x y u v a.room go.rs vx vy hq') (fun _ _ h=>PV.pre go h) fun _ _ e=>e) (fun _ _ h=>h) fun _ _ e=>e) hm
theorem SemE.bin {op:Operator} {e1 e2:Expr} {pos:Pos} {l r:Tr V} {o:Op2} (h1:SemE G K e1 l) (h2:SemE G K e2 r) (ho:SemO G K.lv (binaryOp op) o) :
    SemE G K (.BinOp e1 op e2 pos) (op2T l r o):=fun c A s g st Q a R hq=>
  wpAny_BinOp (wpAny_mono (two_ok (P:=fun u v s2=>wpAny (model G.prog G.w) A (binaryOp op u v) (PV G c s g Q) No s2) h1 h2 a R hq
    fun x y u v st' g' s' go vx vy hq'=>wpAny_mono (ho c A s' g' st' Q x y u v a.room go.rs vx vy hq') (fun _ _ h=>PV.pre go h) fun _ _ e=>e) (fun _ _ h=>h) fun _ _ e=>e)
noncomputable def isB (y:V) (k:Bool→Prop):Prop:=match y with
  | .d (.bool b)=>k b
  | _=>False
theorem isB_ok {y:V} {k:Bool→Prop} (h:isB y k):∃ b,y = .d (.bool b)∧k b:=by
  unfold isB at h
  split at h
  · exact ⟨_,rfl,h⟩
  · exact h.elim
theorem vr_bool_inv {h:Heap} {g:Gh} {b:Bool} {v:Value} (e:VR G h g (.d (.bool b)) v):v = .bool b:=by
  exact e
noncomputable def br (b:Bool) (p q:Prop):Prop:=match b with | true=>p | false=>q
noncomputable def bK (B:QB) (st:St):Bool→Prop:=fun b=>B b st
noncomputable def tstK (B:QB):QV:=fun y st'=>isB y (bK B st')
noncomputable def tstT (t:Tr V):Tr Bool:=fun Q st=>t (tstK Q) st
noncomputable def andK (T:Tr Bool) (B:QB):QB:=fun b st'=>br b (T B st') (B false st')
noncomputable def orK (T:Tr Bool) (B:QB):QB:=fun b st'=>br b (B true st') (T B st')
noncomputable def andT:List (Tr Bool)→Tr Bool
  | []=>fun Q st=>Q true st
  | t :: ts=>fun Q st=>t (andK (andT ts) Q) st
noncomputable def orT:List (Tr Bool)→Tr Bool
  | []=>fun Q st=>Q false st
  | t :: ts=>fun Q st=>t (orK (orT ts) Q) st
noncomputable def notK (B:QB):QB:=fun b st'=>B (!b) st'
noncomputable def notT (t:Tr Bool):Tr Bool:=fun Q st=>t (notK Q) st
theorem truthy_ok {c:Cx} {A:Around} {s s':Shared} {g:Gh} {Q:Bool→St→Prop} {v:Value} {E:Value→Shared→Prop} (h:PV G c s g (fun y st'=>isB y fun b=>Q b st') v s'):wpAny (model G.prog G.w) A (truthy v) (PB G c s g Q) E s':=by
  obtain ⟨y,st',g',go,vr,hq⟩:=h
  refine kEA (isB_ok hq) fun b z2 hk=>?_
  subst z2
  rw [vr_bool_inv vr]
  exact wpAny_truthy_bool ⟨st',g',go,hk⟩
theorem SemB.of {e:Expr} {t:Tr V} (h:SemE G K e t) (he:∀ (env:Env) (whole:Sem Value),isTrue e env whole=(do let v ← whole; standAt e.pos; holding [v] (truthy v))):SemB G K e (tstT t):=fun c A s g st Q a R hq=>
  wpAny_isTrue_value (wpAny_mono (h c A s g st _ a R hq) (fun v s' hv=>truthy_ok hv) fun _ _ e=>e) (he _ _)
theorem SemB.cmp {op:CmpOp} {e1 e2:Expr} {pos:Pos} {l r:Tr V} {o:Op2} (h1:SemE G K e1 l) (h2:SemE G K e2 r) (ho:SemO G K.lv (compareOp op) o) (hm:behindInMarks op e2=false) :
    SemB G K (.Compare e1 [op] [e2] pos) (tstT (op2T l r o)):=fun c A s g st Q a R hq=>
  wpAny_isTrue_Compare1 (wpAny_mono (two_ok (P:=fun u v s2=>wpAny (model G.prog G.w) A (compareOp op u v) (fun c' s3=>wpAny (model G.prog G.w) A (truthy c') (PB G c s g Q) No s3) No s2) h1 h2 a R hq
    fun x y u v st' g' s' go vx vy hq'=>wpAny_mono (ho c A s' g' st' _ x y u v a.room go.rs vx vy hq') (fun _ _ h=>truthy_ok (PV.pre go h)) fun _ _ e=>e) (fun _ _ h=>h) fun _ _ e=>e) hm
theorem SemB.not {e:Expr} {pos:Pos} {t:Tr Bool} (h:SemB G K e t):SemB G K (.UnaryOp .Not e pos) (notT t):=fun c A s g st Q a R hq=>
  wpAny_isTrue_Not (PB.bind (h c A s g st _ a R hq) fun _ _ st1 g1 go q=>⟨st1,g1,go,q⟩)
noncomputable def SemAll (G:Gl) (K:Sk) (op:BoolOp) (es:List Expr) (T:Tr Bool):Prop:=
  ∀ (c:Cx) (A:Around) (s:Shared) (g:Gh) (st:St) (Q:Bool→St→Prop),At K c A→RS G c g st s.heap→T Q st→wpAny (model G.prog G.w) A (allTrue op es c.env) (PB G c s g Q) No s
theorem SemAll.andNil:SemAll G K .And [] (andT []):=fun c A s g st Q a R hq=>wpAny_allTrue_And_nil ⟨st,g,Go.refl R,hq⟩
theorem SemAll.orNil:SemAll G K .Or [] (orT []):=fun c A s g st Q a R hq=>wpAny_allTrue_Or_nil ⟨st,g,Go.refl R,hq⟩
theorem SemAll.and {e:Expr} {r:List Expr} {t:Tr Bool} {ts:List (Tr Bool)} (h1:SemB G K e t) (h2:SemAll G K .And r (andT ts)):SemAll G K .And (e :: r) (andT (t :: ts)):=fun c A s g st Q a R hq=>
  wpAny_allTrue_And_cons (PB.bind (h1 c A s g st _ a R hq) (fun b s1 st1 g1 go1 hq1=>by
    cases b with
    | true=>exact wpAny_mono (h2 c A s1 g1 st1 Q a go1.rs hq1) (fun _ _ h=>PB.pre go1 h) fun _ _ e=>e
    | false=>exact ⟨st1,g1,go1,hq1⟩))
theorem SemAll.or {e:Expr} {r:List Expr} {t:Tr Bool} {ts:List (Tr Bool)} (h1:SemB G K e t) (h2:SemAll G K .Or r (orT ts)):SemAll G K .Or (e :: r) (orT (t :: ts)):=fun c A s g st Q a R hq=>
  wpAny_allTrue_Or_cons (PB.bind (h1 c A s g st _ a R hq) (fun b s1 st1 g1 go1 hq1=>by
    cases b with
    | false=>exact wpAny_mono (h2 c A s1 g1 st1 Q a go1.rs hq1) (fun _ _ h=>PB.pre go1 h) fun _ _ e=>e
    | true=>exact ⟨st1,g1,go1,hq1⟩))
theorem SemB.all {op:BoolOp} {es:List Expr} {pos:Pos} {T:Tr Bool} (h:SemAll G K op es T):SemB G K (.BoolOp op es pos) T:=fun c A s g st Q a R hq=>wpAny_isTrue_BoolOp (h c A s g st Q a R hq)
noncomputable def and2B (r:Tr V) (R:QV) (st:St):Bool→Prop:=fun b=>br b (r R st) (R (.d (.bool false)) st)
noncomputable def and2K (r:Tr V) (R:QV):QV:=fun y st'=>isB y (and2B r R st')
noncomputable def and2T (l r:Tr V):Tr V:=fun Q st=>l (and2K r Q) st
noncomputable def or2B (r:Tr V) (R:QV) (st:St):Bool→Prop:=fun b=>br b (R (.d (.bool true)) st) (r R st)
noncomputable def or2K (r:Tr V) (R:QV):QV:=fun y st'=>isB y (or2B r R st')
noncomputable def or2T (l r:Tr V):Tr V:=fun Q st=>l (or2K r Q) st
theorem SemE.and2 {e1 e2:Expr} {pos:Pos} {l r:Tr V} (h1:SemE G K e1 l) (h2:SemE G K e2 r):SemE G K (.BoolOp .And [e1,e2] pos) (and2T l r):=fun c A s g st Q a R hq=>
  wpAny_And2 (PV.bind (h1 c A s g st _ a R hq) (fun v s1 y st1 g1 go1 v1 hq1=>by
    refine kEA (isB_ok hq1) fun b z4 hk=>?_
    subst z4
    rw [vr_bool_inv v1]
    refine wpAny_truthy_bool ?_
    cases b with
    | true=>exact wpAny_mono (h2 c A s1 g1 st1 Q a go1.rs hk) (fun _ _ h=>PV.pre go1 h) fun _ _ e=>e
    | false=>exact ⟨_,st1,g1,go1,vr_bool,hk⟩))
theorem SemE.or2 {e1 e2:Expr} {pos:Pos} {l r:Tr V} (h1:SemE G K e1 l) (h2:SemE G K e2 r):SemE G K (.BoolOp .Or [e1,e2] pos) (or2T l r):=fun c A s g st Q a R hq=>
  wpAny_Or2 (PV.bind (h1 c A s g st _ a R hq) (fun v s1 y st1 g1 go1 v1 hq1=>by
    refine kEA (isB_ok hq1) fun b z6 hk=>?_
    subst z6
    rw [vr_bool_inv v1]
    refine wpAny_truthy_bool ?_
    cases b with
    | false=>exact wpAny_mono (h2 c A s1 g1 st1 Q a go1.rs hk) (fun _ _ h=>PV.pre go1 h) fun _ _ e=>e
    | true=>exact ⟨_,st1,g1,go1,vr_bool,hk⟩))
noncomputable def ifK {α:Type} (a b:Tr α) (Q:α→St→Prop):QB:=fun v st'=>br v (a Q st') (b Q st')
noncomputable def ifT {α:Type} (t:Tr Bool) (a b:Tr α):Tr α:=fun Q st=>t (ifK a b Q) st
theorem SemE.ifExp {e1 e2 e3:Expr} {pos:Pos} {t:Tr Bool} {a b:Tr V} (h1:SemB G K e1 t) (h2:SemE G K e2 a) (h3:SemE G K e3 b):SemE G K (.IfExp e1 e2 e3 pos) (ifT t a b):=fun c A s g st Q at' R hq=>
  wpAny_IfExp (PB.bind (h1 c A s g st _ at' R hq) (fun v s1 st1 g1 go1 hq1=>by
    cases v with
    | true=>exact wpAny_mono (h2 c A s1 g1 st1 Q at' go1.rs hq1) (fun _ _ h=>PV.pre go1 h) fun _ _ e=>e
    | false=>exact wpAny_mono (h3 c A s1 g1 st1 Q at' go1.rs hq1) (fun _ _ h=>PV.pre go1 h) fun _ _ e=>e))
noncomputable def chK4 (y:V) (o2:Op2) (B:QB):QV:=fun z st4=>o2 y z (tstK B) st4
noncomputable def chK3B (y:V) (d:Tr V) (o2:Op2) (B:QB) (st3:St):Bool→Prop:=fun v=>br v (d (chK4 y o2 B) st3) (B false st3)
noncomputable def chK3 (y:V) (d:Tr V) (o2:Op2) (B:QB):QV:=fun t st3=>isB t (chK3B y d o2 B st3)
noncomputable def chK2 (x:V) (d:Tr V) (o1 o2:Op2) (B:QB):QV:=fun y st2=>o1 x y (chK3 y d o2 B) st2
noncomputable def chK1 (b d:Tr V) (o1 o2:Op2) (B:QB):QV:=fun x st1=>b (chK2 x d o1 o2 B) st1
noncomputable def chainT (a b d:Tr V) (o1 o2:Op2):Tr Bool:=fun Q st=>a (chK1 b d o1 o2 Q) st
theorem SemB.chain {op1 op2:CmpOp} {e1 e2 e3:Expr} {pos:Pos} {a b d:Tr V} {o1 o2:Op2} (h1:SemE G K e1 a) (h2:SemE G K e2 b) (h3:SemE G K e3 d) (ho1:SemO G K.lv (compareOp op1) o1) (ho2:SemO G K.lv (compareOp op2) o2)
    (hm:lastMarks [op1,op2] [e2,e3]=false):SemB G K (.Compare e1 [op1,op2] [e2,e3] pos) (chainT a b d o1 o2):=fun c A s g st Q at' R hq=>by
  refine isTrue_chain (rs:=[]) (ops:=[]) ?_ hm
  refine PV.bind (h1 c A s g st _ at' R hq) (fun u s1 x st1 g1 go1 v1 hq1=>?_)
  refine wpAny_bind (wpAny_holding (PV.bind (h2 c A s1 g1 st1 _ at' go1.rs hq1) (fun v s2 y st2 g2 go2 v2 hq2=>?_)))
  refine wpAny_bind (wpAny_standAt (wpAny_bind (wpAny_holding (PV.bind (ho1 c A s2 g2 st2 _ x y u v at'.room go2.rs (VR.go go2 go1.rs x v1) v2 hq2) (fun cv s3 t st3 g3 go3 v3 hq3=>?_)))))
  refine wpAny_bind (wpAny_release' (wpAny_bind (wpAny_holding ?_)))
  refine kEA (isB_ok hq3) fun bv z8 hk=>?_
  subst z8
  rw [vr_bool_inv v3]
  refine wpAny_truthy_bool ?_
  cases bv with
  | false=>exact wpAny_pure ⟨st3,g3,(go1.trans go2).trans go3,hk⟩
  | true=>
    refine wpAny_bind (wpAny_holding (PV.bind (h3 c A s3 g3 st3 _ at' go3.rs hk) (fun w s4 z st4 g4 go4 v4 hq4=>?_)))
    refine wpAny_bind (wpAny_standAt (wpAny_bind (wpAny_operate' (wpAny_mono (ho2 c A s4 g4 st4 _ y z v w at'.room go4.rs (VR.go go4 go3.rs y (VR.go go3 go2.rs y v2)) v4 hq4) (fun cv s5 h5=>?_) fun _ _ e=>e))))
    exact wpAny_holding (truthy_ok (PV.pre (((go1.trans go2).trans go3).trans go4) h5))
noncomputable def iO (f:Int→Int→Int) (p:Int→Int→Prop):Op2:=fun a b Q st=>onDI a fun x=>onDI b fun y=>p x y∧Q (.d (.int (f x y))) st
theorem iO_ok {lv:Nat} {m:Value→Value→Sem Value} {f:Int→Int→Int} {p:Int→Int→Prop}
    (h:∀ (prog:Program) (w:World) (A:Around) (E:Value→Shared→Prop) (s:Shared) (a b:Int) (t u:Tok) (Q:Value→Shared→Prop),p a b→(∀ tk,Q (.int (f a b) tk) { s with toks:=s.toks+1 })→wpAny (model prog w) A (m (.int a t) (.int b u)) Q E s) :
    SemO G lv m (iO f p):=fun c A s g st Q a b u v r R ha hb hq=>by
  refine kEA (onDI_ok hq) fun x z1 hq=>kEA (onDI_ok hq) fun y z2 hq=>?_
  subst z1 z2
  exact kE ha fun t z3=>kE hb fun t' z4=>z3▸z4▸h _ _ _ _ _ _ _ _ _ _ hq.1 fun tk=>⟨_,st,g,Go.tk R _,vr_int,hq.2⟩
noncomputable def addI:Op2:=iO (· + ·) fun _ _=>True
noncomputable def subI:Op2:=iO (· - ·) fun _ _=>True
noncomputable def mulI:Op2:=iO (· * ·) fun a b=>b.natAbs<2^60∨a.natAbs<2^60
noncomputable def divI:Op2:=iO Int.fdiv fun _ b=>0<b∧b<2^60
noncomputable def modI:Op2:=iO Int.fmod fun _ b=>b≠0
noncomputable def andI:Op2:=iO Builtin.bitAnd fun _ _=>True
noncomputable def xorI:Op2:=iO Builtin.bitXor fun _ _=>True
noncomputable def shrI:Op2:=iO (fun a n=>a.fdiv (2^n.toNat)) fun _ n=>0≤n
theorem log2_lt {n:Nat} (h:n<2^60):n.log2<60:=by
  by_cases h0:n=0
  · subst h0; decide
  · exact (Nat.log2_lt h0).mpr h
theorem bits_small {b:Int} (h:b.natAbs<2^60):¬ (Builtin.Int.intBits b>shortFactorBits):=by
  delta Builtin.Int.intBits shortFactorBits
  have:=log2_lt h
  split<;>lia
theorem addI_ok {lv:Nat}:SemO G lv (binaryOp .Add) addI:=iO_ok fun _ _ _ _ _ _ _ _ _ _ _ h=>add_int (h _)
theorem subI_ok {lv:Nat}:SemO G lv (binaryOp .Sub) subI:=iO_ok fun _ _ _ _ _ _ _ _ _ _ _ h=>sub_int (h _)
theorem mulI_ok {lv:Nat}:SemO G lv (binaryOp .Mult) mulI:=iO_ok fun _ _ _ _ _ _ _ _ _ _ p h=>mul_int (h _) (by
  unfold IntMulOk
  rcases p with p | p
  · simp [bits_small p]
  · simp [bits_small p])
theorem modI_ok {lv:Nat}:SemO G lv (binaryOp .Mod) modI:=iO_ok fun _ _ _ _ _ _ _ _ _ _ p h=>mod_int' p (h _)
theorem andI_ok {lv:Nat}:SemO G lv (binaryOp .BitAnd) andI:=iO_ok fun _ _ _ _ _ _ _ _ _ _ _ h=>and_int (h _)
theorem xorI_ok {lv:Nat}:SemO G lv (binaryOp .BitXor) xorI:=iO_ok fun _ _ _ _ _ _ _ _ _ _ _ h=>xor_int (h _)
theorem shrI_ok {lv:Nat}:SemO G lv (binaryOp .RShift) shrI:=iO_ok fun _ _ _ _ _ _ _ _ _ _ p h=>rshift_int p (h _)
theorem divI_ok {lv:Nat}:SemO G lv (binaryOp .FloorDiv) divI:=iO_ok fun _ _ _ _ _ a b _ _ _ p h=>floordiv_int (by lia) (h _) (.inl (by
  unfold Builtin.divisionGoesByPylong
  have hb:b.natAbs<2^60:=by omega
  have:=log2_lt hb
  have h2:decide ((if b==0 then 0 else b.natAbs.log2 / 30+1)>300)=false:=decide_eq_false (by split<;>lia)
  simp only [h2,Bool.false_and]))
noncomputable def negK (R:QV):QV:=fun y st=>onDI y fun x=>R (.d (.int (-x))) st
noncomputable def negT (t:Tr V):Tr V:=fun Q st=>t (negK Q) st
theorem SemE.neg {e:Expr} {pos:Pos} {t:Tr V} (h:SemE G K e t):SemE G K (.UnaryOp .USub e pos) (negT t):=fun c A s g st Q a R hq=>
  wpAny_UnaryOp (PV.bind (h c A s g st _ a R hq) (fun v s1 y st1 g1 go1 v1 hq1=>by
    refine kEA (onDI_ok hq1) fun x z1 hq1=>?_
    subst z1
    exact kE v1 fun t z3=>z3▸PyProof.Rows.neg_int ⟨_,st1,g1,go1.trans (Go.tk go1.rs _),vr_int,hq1⟩))
end
section
variable {G:Gl} {K:Sk}
theorem pk_list {c:Cx} {g:Gh} {st:St} {h:Heap} {y:V} {v:Value} {xs:List PyData} (R:RS G c g st h) (hv:VR G h g y v) (e:pk y st=some (.list xs)) :
    ∃ a vs n,v = .ref a∧h.get? a=some (lst vs n)∧RdL G.w (g.J h) xs vs.toList:=by
  refine pk_inv e (fun z=>?_) (fun k l z1 z2 z3=>?_) fun _ _ _ z=>nomatch z
  · subst z
    exact kEEEAA hv fun a vs n e1 e2 e3=>⟨a,vs,n,e1,hide_sub _ _ e2,e3⟩
  · subst z1
    cases z2
    exact kEA hv fun a ha z=>kAAEEA (R.cells k _ a z3 rfl ha) fun _ _ vs n h1 h2=>⟨a,vs,n,z,h1,h2⟩
theorem pk_tuple {c:Cx} {g:Gh} {st:St} {h:Heap} {y:V} {v:Value} {xs:List PyData} (R:RS G c g st h) (hv:VR G h g y v) (e:pk y st=some (.tuple xs)) :
    ∃ a vs n,v = .ref a∧h.get? a=some (tup vs n)∧RdL G.w (g.J h) xs vs.toList:=by
  refine pk_inv e (fun z=>?_) (fun _ _ _ z=>nomatch z) fun _ _ _ z=>nomatch z
  subst z
  exact kEEEAA hv fun a vs n e1 e2 e3=>⟨a,vs,n,e1,hide_sub _ _ e2,e3⟩
theorem KV.mono {w:World} {J J':Heap} (hk:∀ b o,J.get? b=some o→J'.get? b=some o) {kvs ks} (x:KV w J kvs ks):KV w J' kvs ks:=by
  induction x with
  | nil=>exact .nil
  | cons a b _ ih=>exact .cons a (Rd.mono hk _ b) ih
theorem pk_dict {c:Cx} {g:Gh} {st:St} {h:Heap} {y:V} {v:Value} {kvs:List (PyData×PyData)} (R:RS G c g st h) (hv:VR G h g y v) (e:pk y st=some (.dict kvs)) :
    ∃ a ks,v = .ref a∧(a==sysModules)=false∧h.DictOf (ky G.prog G.w) a ks∧KV G.w (g.J h) kvs ks:=by
  refine pk_inv e (fun z=>?_) (fun _ _ _ z=>nomatch z) fun k l z1 z2 z3=>?_
  · subst z
    exact kEEAAA (Rd.dict_at (prog:=G.prog) hv) fun a ks e1 e2 e3 e4=>⟨a,ks,e1,e2,e3.keep hide_sub,e4⟩
  · subst z1
    cases z2
    refine kEA hv fun a ha z=>?_
    obtain ⟨_,_,o,es,ep,h0,h1,h2,h3,h4,h5⟩:=R.cells k _ a z3 rfl ha
    exact kEA (dictOf_of (prog:=G.prog) h1 h2 h3 h4 h5) fun ks d q=>⟨a,ks,z,h0,d,q⟩
noncomputable def addL (ow:Bool):Op2:=fun a b Q st=>onPL (pk a st) fun xs=>onPL (pk b st) fun ys=>xs.length+ys.length≤2^20∧newlT ow (xs++ys) Q st
theorem RdL.append {w:World} {J:Heap}:∀ (xs:List PyData) {ys:List PyData} {us vs:List Value},RdL w J xs us→RdL w J ys vs→RdL w J (xs++ys) (us++vs):=by
  intro xs9
  induction xs9 with
  | nil=>
    intro ys us vs h1 h2
    simp only [RdL] at h1; subst h1; exact h2
  | cons x xs ih=>
    intro ys us vs h1 h2
    refine kEEAA h1 fun v r z4 a b=>?_
    subst z4
    exact ⟨v,r++vs,rfl,a,ih b h2⟩
theorem le_line {n:Nat} (h:n≤2^20):n≤sizeLine:=Nat.le_trans h (by decide)
theorem addL_ok {lv:Nat} (ow:Bool):SemO G lv (binaryOp .Add) (addL ow):=fun c A s g st Q a b u v r R ha hb hq=>by
  refine kEA (onPL_ok hq) fun xs e1 hq=>kEA (onPL_ok hq) fun ys e2 hq=>?_
  refine kEEEAA (pk_list R ha e1) fun l us n z6 l1 l2=>?_
  subst z6
  refine kEEEAA (pk_list R hb e2) fun m vs k z8 m1 m2=>?_
  subst z8
  have s1:=RdL.length _ l2
  have s2:=RdL.length _ m2
  simp only [Array.length_toList] at s1 s2
  refine P.add_list l1 m1 (newl_ok ow R (by simpa using RdL.append _ l2 m2) hq.2) (le_line (by simp only [s1,s2]; exact hq.1))
theorem newTup_ok {c:Cx} {s:Shared} {g:Gh} {st:St} {xs:List PyData} {vs:Array Value} {n:Nat} {tk:Nat} {Q:V→St→Prop} (R:RS G c g st s.heap) (r:RdL G.w (g.J s.heap) xs vs.toList)
    (hq:Q (.d (.tuple xs)) st):PV G c s g Q (.ref s.heap.objs.size) { s with heap:=s.heap.push (tup vs n),toks:=tk }:=by
  refine ⟨.d (.tuple xs),st,g,Go.grow R _ (push_keep _ _),?_,hq⟩
  simp only [Rd]
  exact ⟨_,vs,n,rfl,R.pushJ rfl,RdL.mono (R.tj (push_keep _ _)) _ r⟩
noncomputable def mulL (ow:Bool):Op2:=fun a b Q st=>onPL (pk a st) fun xs=>on1 xs fun x=>onDI b fun n=>0≤n∧n≤1000∧newlT ow (List.replicate n.toNat x) Q st
theorem joined_one (v:Value):∀ (k:Nat) (acc:Array Value),(List.foldl (fun x1 x2=>x1++x2) acc (List.replicate k #[v]))=acc++(List.replicate k v).toArray:=by
  intro xs9
  induction xs9 with
  | zero=>
    intro acc
    rfl
  | succ k ih=>
    intro acc
    simp only [List.replicate_succ,List.foldl_cons,ih,List.replicate_succ]; apply Array.toList_inj.mp; simp
theorem RdL.replicate {w:World} {J:Heap} {x:PyData} {v:Value} (h:Rd w J x v):∀ k:Nat,RdL w J (List.replicate k x) (List.replicate k v):=by
  intro xs9
  induction xs9 with
  | zero=>
    rfl
  | succ k ih=>
    exact ⟨v,_,rfl,h,ih⟩
theorem mulL_ok {lv:Nat} (ow:Bool):SemO G lv (binaryOp .Mult) (mulL ow):=fun c A s g st Q a b u v r R ha hb hq=>by
  refine kEA (onPL_ok hq) fun xs e1 hq=>kEA (on1_ok hq) fun x z1 hq=>kEA (onDI_ok hq) fun n z2 hq=>?_
  subst z1 z2
  obtain ⟨l,us,k,rfl,l1,w,rest,e2,rx,e3⟩:=pk_list R ha e1
  obtain ⟨t,rfl⟩:=hb
  subst e3
  have eu:us=#[w]:=Array.toList_inj.mp e2
  subst eu
  refine kAA hq fun h0 h1 hq=>?_
  have hn:((List.foldl (fun x1 x2=>x1++x2) #[] (List.replicate (if (#[w]:Array Value).isEmpty=true then 0 else n.toNat) #[w])):Array Value)=(List.replicate n.toNat w).toArray:=by
    rw [if_neg (by simp),joined_one]; simp
  refine wpAny_binaryOp_repeat_ref (T := "list") (U := "int") (by decide) ⟨_,l1,rfl⟩ (fun s'=>typeIs_int s' n t) noFill_list_mul F.fills_int_mul F.slot_int_rmul repeat_list F.slot_int_index.lookup
    (call_meets F.slot_int_rmul (typeIs_int s n t) F.entry_int_rmul (F.args_int_rmul_2 _ _) (int___rmul___int_list n t l #[w] k)
      ⟨l1,rfl,⟨_,l1,rfl⟩,call_meets F.slot_list_mul ⟨_,l1,rfl⟩ F.entry_list_mul (F.args_list_mul_2 _ _)
        (AutoListH.list___mul___list_int_3 l #[w] k n t (by simp [Builtin.List.listFitsIndex]; lia) (by simp; lia) (by simp [Builtin.List.listTooLong,sizeLine]; lia))
        ⟨l1,?_⟩⟩)
  rw [hn]
  exact newl_ok ow R (by exact RdL.replicate rx n.toNat) hq
noncomputable def pick {α:Type} (xs:List α) (i:Int):Option α:=if 0≤i then xs[i.toNat]? else if -(xs.length:Int)≤i then xs[(i+xs.length).toNat]? else none
noncomputable def idx (a b:V) (st:St) (k:PyData→Prop):Prop:=onO (pk a st) (pc (fun _=>False) (fun x=>onDI b fun i=>i=0∧∃ c,x.cps[0]?=some c∧k (.str ⟨#[c]⟩)) (fun xs=>onDI b fun i => -(2^62)<i∧i<2^62∧∃ z,pick xs i=some z∧k z)
  (fun xs=>onDI b fun i => -(2^62)<i∧i<2^62∧∃ z,pick xs i=some z∧k z) fun kvs=>onD b fun x=>∃ q z,kyOf x=some q∧dlook kvs q=some z∧k z)
noncomputable def subO:Op2:=fun a b Q st=>idx a b st fun z=>Q (.d z) st
theorem RdL.at {w:World} {J:Heap}:∀ (xs:List PyData) {vs:List Value} {i:Nat} {x:PyData},RdL w J xs vs→xs[i]?=some x→∃ v,vs[i]?=some v∧Rd w J x v:=by
  intro xs9
  induction xs9 with
  | nil=>
    intro vs i x h e
    simp at e
  | cons y ys ih=>
    intro vs i x h e
    refine kEEAA h fun v r z17 a b=>?_
    subst z17
    cases i with
    | zero=>simp at e; subst e; exact ⟨v,rfl,a⟩
    | succ j=>
      refine kEA (ih (i:=j) b (by simpa using e)) fun u e1 e2=>?_
      exact ⟨u,by exact e1,e2⟩
theorem pick_at {w:World} {J:Heap} {xs:List PyData} {vs:Array Value} {i:Int} {z:PyData} (h:RdL w J xs vs.toList) (e:pick xs i=some z) :
    ∃ v,Rd w J z v∧((0≤i∧vs[i.toNat]?=some v)∨(i<0∧-(vs.size:Int)≤i∧vs[(i+vs.size).toNat]?=some v)):=by
  have hl:=RdL.length _ h
  simp only [Array.length_toList] at hl
  unfold pick at e
  split at e
  · refine kEA (RdL.at _ h e) fun v h1 h2=>?_
    exact ⟨v,h2,.inl ⟨by assumption,by simpa using h1⟩⟩
  · split at e
    · refine kEA (RdL.at _ h e) fun v h1 h2=>?_
      exact ⟨v,h2,.inr ⟨by lia,by rw [hl]; assumption,by rw [hl]; simpa using h1⟩⟩
    · cases e
theorem seqIndex_of {vs:Array Value} {i:Int} {v:Value} (h:(0≤i∧vs[i.toNat]?=some v)∨(i<0∧-(vs.size:Int)≤i∧vs[(i+vs.size).toNat]?=some v)):∃ j,seqIndex? i vs.size=some j∧vs[j]?=some v:=by
  unfold seqIndex?
  refine Or.elim h (fun z18=>?_) (fun z19=>?_)
  · obtain ⟨h0,h1⟩:=z18
    have hlt:=(Array.getElem?_eq_some_iff.mp h1).1
    refine ⟨i.toNat,?_,h1⟩
    rw [if_neg (by exact Int.not_lt.mpr (by assumption):¬ i<0)]
    simp only [Bool.and_eq_true,decide_eq_true_eq]
    rw [if_pos ⟨h0,by lia⟩]
  · obtain ⟨h0,h1,h2⟩:=z19
    refine ⟨(i+vs.size).toNat,?_,h2⟩
    rw [if_pos h0]
    simp only [Bool.and_eq_true,decide_eq_true_eq]
    rw [if_pos ⟨by lia,by lia⟩]
noncomputable def NotSlice (e:Expr):Prop:=∀ o i,subscripted e false o i=operate [o,i] (getItem o i)
theorem SemE.sub {e1 e2:Expr} {pos:Pos} {l r:Tr V} (h1:SemE G K e1 l) (h2:SemE G K e2 r) (hs:NotSlice e2):SemE G K (.Subscript e1 e2 pos) (op2T l r subO):=fun c A s g st Q at' R hq=>by
  refine Subscript_ (wpAny_mono (two_ok (P:=fun u v s2=>wpAny (model G.prog G.w) A (subscriptTail e1 e2 u v) (PV G c s g Q) No s2) h1 h2 at' R hq
    fun x y u v st' g' s' go vx vy hq'=>?_) (fun _ _ h=>h) fun _ _ e=>e)
  have R':=go.rs
  refine kEA (onO_ok hq') fun X e hq'=>pc_ok hq' (fun _ _ h=>h.elim) (fun z z1 hq'=>?_) (fun xs z1 hq'=>?_) (fun xs z1 hq'=>?_) fun kvs z1 hq'=>?_
  · subst z1
    refine kEA (onDI_ok hq') fun i z2 hq'=>kAEA hq' fun z31 ch e1 hk=>?_
    subst z2 z31
    refine pk_inv e (fun z3=>?_) (fun _ _ _ z=>nomatch z) fun _ _ _ z=>nomatch z
    subst z3
    obtain ⟨t,rfl⟩:=vy
    obtain ⟨t',rfl⟩:=vx
    refine tail_any (typeIs_str _ _ _) F.slot_str_getitem.lookup (P.getItem_str (c:=ch) rfl ?_ ⟨.d (.str ⟨#[ch]⟩),st',g',go.trans (Go.tk R' _),⟨_,rfl⟩,hk⟩) (hs _ _)
    have hl:0<z.length:=(Array.getElem?_eq_some_iff.mp e1).1
    unfold seqIndex?
    simp [hl,e1]
  · subst z1
    refine kEA (onDI_ok hq') fun i z2 hq'=>kAAEA hq' fun b1 b2 z hz hk=>?_
    subst z2
    obtain ⟨a,vs,n,rfl,l1,l2⟩:=pk_list R' vx e
    obtain ⟨t,rfl⟩:=vy
    obtain ⟨v,rv,hv⟩:=pick_at l2 hz
    have il:s'.heap.IsList a vs:=⟨_,l1,rfl,n,rfl⟩
    have fin:PV G c s g Q v s':=⟨.d z,st',g',go,rv,hk⟩
    refine tail_any il.typeIs slot_list_getitem.lookup ?_ (hs _ _)
    refine Or.elim hv (fun z22=>?_) (fun z23=>?_)
    · exact wpAny_getItem_list il z22.1 (by lia) z22.2 fin
    · refine kAA z23 fun h0 h1 hv=>?_
      exact wpAny_getItem_list_neg il h0 h1 (by lia) hv fin
  · subst z1
    refine kEA (onDI_ok hq') fun i z2 hq'=>kAAEA hq' fun b1 b2 z hz hk=>?_
    subst z2
    obtain ⟨a,vs,n,rfl,l1,l2⟩:=pk_tuple R' vx e
    obtain ⟨t,rfl⟩:=vy
    obtain ⟨v,rv,hv⟩:=pick_at l2 hz
    have il:IsTup s'.heap a vs:=⟨_,l1,rfl,n,rfl⟩
    refine kEA (seqIndex_of hv) fun j e1 e2=>?_
    exact tail_any il.typeIs slot_tuple_getitem.lookup (getItem_tuple il (by lia) (by lia) e1 e2 ⟨.d z,st',g',go,rv,hk⟩) (hs _ _)
  · subst z1
    refine kEA (onD_ok hq') fun x z2 hq'=>?_
    subst z2
    refine kEEAAA (pk_dict R' vx e) fun a ks z27 h0 hd hkv=>?_
    subst z27
    refine kEEAA hq' fun q z e1 e2 hk=>?_
    have his:=ky_is (prog:=G.prog) e1 vy
    refine Or.elim (kv_look hkv q) (fun z28=>?_) (fun z29=>?_)
    · exact nomatch e2.symm.trans z28.1
    · refine kEEAA z29 fun x' v' e3 e4 e5=>?_
      obtain rfl:=Option.some.inj (e2.symm.trans e3)
      exact tail_any hd.typeIs F.slot_dict_getitem.lookup (wpAny_getItem_of his hd.mapOf e4 ⟨.d z,st',g',go.trans (Go.tk R' _),e5,hk⟩) (hs _ _)
end
section
variable {G:Gl} {K:Sk}
noncomputable def slTo (ow:Bool):Op2:=fun a b Q st=>onPL (pk a st) fun xs=>onDI b fun n=>0≤n∧xs.length≤2^20∧newlT ow (xs.take n.toNat) Q st
theorem RdL.take {w:World} {J:Heap}:∀ (xs:List PyData) {vs:List Value} (n:Nat),RdL w J xs vs→RdL w J (xs.take n) (vs.take n)
  | [],vs,n,h=>by simp only [RdL] at h; subst h; simp [RdL]
  | x :: xs,vs,0,h=>by rfl
  | x :: xs,vs,n+1,h=>by
    obtain ⟨v,r,rfl,a,b⟩:=h
    exact ⟨v,_,rfl,a,RdL.take xs n b⟩
theorem RdL.drop {w:World} {J:Heap}:∀ (xs:List PyData) {vs:List Value} (n:Nat),RdL w J xs vs→RdL w J (xs.drop n) (vs.drop n)
  | [],vs,n,h=>by simp only [RdL] at h; subst h; simp [RdL]
  | x :: xs,vs,0,h=>h
  | x :: xs,vs,n+1,h=>by
    obtain ⟨v,r,rfl,a,b⟩:=h
    exact RdL.drop xs n b
theorem RdL.reverse {w:World} {J:Heap}:∀ (xs:List PyData) {vs:List Value},RdL w J xs vs→RdL w J xs.reverse vs.reverse:=by
  intro xs9
  induction xs9 with
  | nil=>
    intro vs h
    simp only [RdL] at h; subst h; rfl
  | cons x xs ih=>
    intro vs h
    refine kEEAA h fun v r z4 a b=>?_
    subst z4
    simp only [List.reverse_cons,List.reverse_cons]
    exact RdL.append _ (ih b) (by simp only [RdL]; exact ⟨v,[],rfl,a,by simp only [RdL]⟩)
theorem RdL.set {w:World} {J:Heap} {x:PyData} {v:Value} (hx:Rd w J x v):∀ (xs:List PyData) {vs:List Value} (n:Nat),RdL w J xs vs→RdL w J (xs.set n x) (vs.set n v)
  | [],vs,n,h=>by simp only [RdL] at h; subst h; rfl
  | y :: xs,vs,0,h=>by
    refine kEEAA h fun u r z6 a b=>?_
    subst z6
    exact ⟨v,r,rfl,hx,b⟩
  | y :: xs,vs,n+1,h=>by
    refine kEEAA h fun u r z8 a b=>?_
    subst z8
    exact ⟨u,_,rfl,a,RdL.set hx xs n b⟩
theorem SemE.sliceTo {e1 e2:Expr} {p pos:Pos} {l r:Tr V} (ow:Bool) (h1:SemE G K e1 l) (h2:SemE G K e2 r):SemE G K (.Subscript e1 (.Slice none (some e2) none p) pos) (op2T l r (slTo ow)):=fun c A s g st Q at' R hq=>by
  refine Subscript_ (PV.bind (h1 c A s g st _ at' R hq) (fun u s1 x st1 g1 go1 v1 hq1=>wpAny_Slice ?_))
  refine wpAny_pure ?_
  refine PV.bind (h2 c A s1 g1 st1 _ at' go1.rs hq1) (fun v s2 y st2 g2 go2 v2 hq2=>?_)
  refine wpAny_pure ?_
  have go:=go1.trans go2
  have v1':=VR.go go2 go1.rs x v1
  refine kEA (onPL_ok hq2) fun xs e hq2=>kEA (onDI_ok hq2) fun n z1 hq2=>kAA hq2 fun b0 b1 hq3=>kEEEAA (pk_list go.rs v1' e) fun a vs k z7 l1 l2=>?_
  subst z1 z7
  obtain ⟨t,rfl⟩:=v2
  have sz:=RdL.length _ l2
  simp only [Array.length_toList] at sz
  have gp:=Go.grow go.rs (h':=s2.heap.push { cls:=.type "slice",data:=.fields #[.none,.int n t,.none] }) s2.toks (push_keep _ _)
  have il:(s2.heap.push { cls:=.type "slice",data:=.fields #[.none,.int n t,.none] }).IsList a vs:=⟨_,push_keep _ _ _ _ l1,rfl,k,rfl⟩
  refine kE (Int.eq_ofNat_of_zero_le b0) fun m z10=>?_
  subst z10
  refine tail_any (s:={ s2 with heap:=s2.heap.push { cls:=.type "slice",data:=.fields #[.none,.int m t,.none] } }) (ops:=[.ref s2.heap.objs.size,.ref a]) il.typeIs slot_list_getitem.lookup ?_ rfl
  refine wpAny_getItem_list_slice il (Heap.IsSliceOf.new ..) .none (.int _ _) .none (by trivial) ?_ (le_line (by rw [sz]; exact b1))
  rw [slicePick_upto']
  exact PV.pre (go.trans gp) (newl_ok ow gp.rs (by exact RdL.take _ m (RdL.mono (go.rs.tj (push_keep _ _)) _ l2)) hq3)
noncomputable def strFrom:Op2:=fun a b Q st=>onDS a fun x=>onDI b fun n=>x.length≤1000∧Q (.d (.str (Txt.slice x (some n) none))) st
noncomputable def strTo:Op2:=fun a b Q st=>onDS a fun x=>onDI b fun n=>x.length≤1000∧Q (.d (.str (Txt.slice x none (some n)))) st
theorem keptAll (h:Heap):KeptH fun h'=>∀ a o,h.get? a=some o→h'.get? a=some o:=fun h1 ob hk a o e=>Heap.get?_push_of_some ob (hk a o e)
theorem item_tail {A:Around} {prog:Program} {w:World} {value slice:Expr} {o i:Value} {ops:List Value} {E:Value→Shared→Prop} {Q:Value→Shared→Prop} {s:Shared} (h:ItemOn (model prog w) A E o i Q s) (hs:subscripted slice false o i=operate ops (getItem o i)) :
    wpAny (model prog w) A (subscriptTail value slice o i) Q E s:=by
  refine kEEAA h fun T id hl hT hg=>?_
  exact tail_any hT hl hg hs
theorem SemE.strFrom {e1 e2:Expr} {p pos:Pos} {l r:Tr V} (h1:SemE G K e1 l) (h2:SemE G K e2 r):SemE G K (.Subscript e1 (.Slice (some e2) none none p) pos) (op2T l r strFrom):=fun c A s g st Q at' R hq=>by
  refine Subscript_ (PV.bind (h1 c A s g st _ at' R hq) (fun u s1 x st1 g1 go1 v1 hq1=>wpAny_Slice ?_))
  refine PV.bind (h2 c A s1 g1 st1 _ at' go1.rs hq1) (fun v s2 y st2 g2 go2 v2 hq2=>?_)
  refine wpAny_pure ?_
  refine wpAny_pure ?_
  have go:=go1.trans go2
  have v1':=VR.go go2 go1.rs x v1
  refine kEA (onDS_ok hq2) fun x z1 hq2=>kEA (onDI_ok hq2) fun n z2 hq2=>?_
  subst z1 z2
  obtain ⟨t,rfl⟩:=v1'
  obtain ⟨t',rfl⟩:=v2
  refine item_tail (ops:=[.ref s2.heap.objs.size,.str x t]) (SBH.sliceItem_sn (keptAll s2.heap) (fun _ _ e=>e) (fun h' t'' k hk=>?_) (le_line (Nat.le_trans hq2.1 (by decide)))) rfl
  exact ⟨_,st2,g2,go.trans (Go.grow go.rs _ hk),vr_str,hq2.2⟩
theorem SemE.strTo {e1 e2:Expr} {p pos:Pos} {l r:Tr V} (h1:SemE G K e1 l) (h2:SemE G K e2 r):SemE G K (.Subscript e1 (.Slice none (some e2) none p) pos) (op2T l r strTo):=fun c A s g st Q at' R hq=>by
  refine Subscript_ (PV.bind (h1 c A s g st _ at' R hq) (fun u s1 x st1 g1 go1 v1 hq1=>wpAny_Slice ?_))
  refine wpAny_pure ?_
  refine PV.bind (h2 c A s1 g1 st1 _ at' go1.rs hq1) (fun v s2 y st2 g2 go2 v2 hq2=>?_)
  refine wpAny_pure ?_
  have go:=go1.trans go2
  have v1':=VR.go go2 go1.rs x v1
  refine kEA (onDS_ok hq2) fun x z1 hq2=>kEA (onDI_ok hq2) fun n z2 hq2=>?_
  subst z1 z2
  obtain ⟨t,rfl⟩:=v1'
  obtain ⟨t',rfl⟩:=v2
  refine item_tail (ops:=[.ref s2.heap.objs.size,.str x t]) (SBH.sliceItem_ns (keptAll s2.heap) (fun _ _ e=>e) (fun h' t'' k hk=>?_) (le_line (Nat.le_trans hq2.1 (by decide)))) rfl
  exact ⟨_,st2,g2,go.trans (Go.grow go.rs _ hk),vr_str,hq2.2⟩
noncomputable def NoStar (es:List Expr):Prop:=∀ env,(starEach es env).any (·.1)=false
theorem noStar_any {es:List Expr} (h:NoStar es) (env:Env) (pos:Pos):(backTo pos (starEach es env)).any (·.1)=false:=by
  unfold backTo
  rw [List.any_map]
  have:=h env
  rw [List.any_eq_false] at this ⊢
  intro x hx
  exact this x hx
theorem noStar_head {es:List Expr} (h:NoStar es) (env:Env) (pos:Pos):backTo pos (starEach es env)=[]∨∃ x r,backTo pos (starEach es env)=(false,x) :: r:=by
  have ha:=noStar_any h env pos
  cases e:backTo pos (starEach es env) with
  | nil=>exact .inl rfl
  | cons p r=>
    rw [e,List.any_cons,Bool.or_eq_false_iff] at ha
    obtain ⟨b,t⟩:=p
    have hb:b=false:=ha.1
    subst hb
    exact .inr ⟨t,r,rfl⟩
theorem args_ok {es:List Expr} {ts:List (Tr V)} {f:Value} {pos:Pos} {c:Cx} {A:Around} {s:Shared} {g:Gh} {st:St} {Q:List V→St→Prop} (h:SemEs G K es (evsT ts)) (hn:NoStar es) (at':At K c A) (R:RS G c g st s.heap)
    (hq:evsT ts Q st):wpAny (model G.prog G.w) A (evalArgs f true (backTo pos (starEach es c.env)) []) (fun a s'=>a.kw=[]∧PVs G c s g (fun ys st'=>ys.length=es.length∧Q ys st') a.pos s') No s:=by
  have h':=h pos c A s g st Q at' R hq
  rcases noStar_head hn c.env pos with e | ⟨x,r,e⟩
  · rw [e] at h' ⊢
    exact wpAny_bind (wpAny_mono h' (fun vs s' hv=>wpAny_holding (wpAny_bind (wpAny_pure (wpAny_bind (wpAny_pure (wpAny_pure ⟨rfl,hv⟩)))))) fun _ _ e=>e)
  · rw [e] at h' ⊢
    exact Calls.evalArgs_plain (wpAny_mono h' (fun vs s' hv=>⟨rfl,hv⟩) fun _ _ e=>e)
end
section
variable {G:Gl} {K:Sk}
noncomputable abbrev StepK:=Nat→List V→Tr V
noncomputable def setC (st:St) (k:Nat) (q:Cell):St:=⟨st.ρ,st.μ.set k q⟩
noncomputable def lmK2 (k:Nat) (f:StepK) (R:QV):List V→St→Prop:=fun ys st2=>f k ys R st2
noncomputable def lmK (ts:List (Tr V)) (f:StepK) (R:QV):QV:=fun y st1=>onOwn y fun k=>onCL st1.μ[k]? fun _=>evsT ts (lmK2 k f R) st1
noncomputable def lmT (o:Tr V) (ts:List (Tr V)) (f:StepK):Tr V:=fun Q st=>o (lmK ts f Q) st
noncomputable def SemM (G:Gl) (lv:Nat) (id:String) (n:Nat) (f:StepK):Prop:=
  ∀ (c:Cx) (A:Around) (s:Shared) (g:Gh) (st:St) (Q:V→St→Prop) (k:Nat) (a:Addr) (ys:List V) (vs:List Value),Room A lv→RS G c g st s.heap→g.as[k]?=some a→ys.length=n→VRs G s.heap g ys vs→f k ys Q st →
    wpAny (model G.prog G.w) A (call (.builtin id) (.ref a :: vs)) (PV G c s g Q) No s
theorem SemE.lm {o:Expr} {name:Str} {apos pos:Pos} {es:List Expr} {t:Tr V} {ts:List (Tr V)} {id:String} {f:StepK} (h1:SemE G K o t) (h2:SemEs G K es (evsT ts)) (hn:NoStar es)
    (hb:∀ env,attributeBase o name env (eval o env)=eval o env) (hl:(apos.endLine==pos.line)=true) (hz:es.length<29)
    (slot:Slot "list" name id) (ty:typeOf (.builtin id)=pure (.type "method_descriptor")) (hf:SemM G K.lv id es.length f) :
    SemE G K (.Call (.Attribute o name apos) es [] pos) (lmT t ts f):=fun c A s g st Q at' R hq=>by
  refine wpAny_Call_method_lateS (hb _) ?_ hl (PV.bind (h1 c A s g st _ at' R hq) (fun v s1 y st1 g1 go1 v1 hq1=>?_))
  · have:=noStar_any hn c.env pos
    rw [List.any_eq_false] at this
    simp only [Bool.and_eq_true,List.all_eq_true,decide_eq_true_eq]
    exact ⟨⟨fun x hx=>by simpa using this x hx,fun x hx=>absurd hx List.not_mem_nil⟩,by simp; exact Nat.le_trans (by assumption) (by decide)⟩
  · refine kEA (onOwn_ok hq1) fun k z1 hq2=>kEA (onCL_ok hq2) fun xs e hq3=>?_
    subst z1
    refine kEA v1 fun a ha z2=>kAAEEA (go1.rs.cells k _ a e rfl ha) fun _ _ us n hl' _=>?_
    subst z2
    refine ⟨"list",id,F.plainAttrs_list,slot,ty,⟨_,hl',rfl⟩,fun b hb'=>by cases hb'; exact ⟨_,hl',rfl⟩,?_⟩
    refine Calls.callWith_builtin (noStar_any hn _ _) (wpAny_mono (args_ok h2 hn at' go1.rs hq3) (fun ar s2 ⟨hkw,ys,st2,g2,go2,v2,hlen,hq2⟩=>?_) fun _ _ e=>e)
    rw [hkw]
    exact wpAny_mono (hf c A s2 g2 st2 Q k a ys ar.pos at'.room go2.rs (pre_get go2.le.pre ha) hlen v2 hq2) (fun _ _ h=>PV.pre (go1.trans go2) h) fun _ _ e=>e
theorem upd_list {c:Cx} {s:Shared} {g:Gh} {st:St} {k:Nat} {a:Addr} {xs xs':List PyData} {vs:Array Value} {n tk:Nat} {f:Array Value→Array Value} (R:RS G c g st s.heap) (hk:st.μ[k]?=some (.list xs)) (ha:g.as[k]?=some a)
    (hg:s.heap.get? a=some (lst vs n)) (hr:RdL G.w (g.J s.heap) xs' (f vs).toList) :
    Go G c s g { s with heap:=s.heap.update a (Obj.mapSeq f),toks:=tk } g (setC st k (.list xs')):=by
  have hO:a∈g.O:=R.sub _ (R.cells k _ a hk rfl ha).1
  have e:=Heap.get?_update_self (Obj.mapSeq f) hg rfl
  have hs:=Heap.SameBut.update s.heap a (Obj.mapSeq f)
  refine kA (R.upd (q':=.list xs') hk rfl ha hs ⟨_,e⟩ ⟨_,_,e,RdL.mono (sb_still hO hs) _ hr⟩ rfl) fun R' l=>?_
  exact ⟨R',l,⟨rfl,rfl,rfl⟩⟩
theorem own_list {c:Cx} {g:Gh} {st:St} {h:Heap} {k:Nat} {a:Addr} {xs:List PyData} (R:RS G c g st h) (hk:st.μ[k]?=some (.list xs)) (ha:g.as[k]?=some a) :
    ∃ vs n,h.get? a=some (lst vs n)∧RdL G.w (g.J h) xs vs.toList∧vs.size=xs.length:=by
  refine kAAEEA (R.cells k _ a hk rfl ha) fun _ _ vs n h1 h2=>?_
  have:=RdL.length _ h2
  exact ⟨vs,n,h1,h2,by simpa using this⟩
noncomputable def appS:StepK:=fun k ys Q st=>on1 ys fun y=>asD y (fun x st'=>onCL st'.μ[k]? fun xs=>xs.length≤2^20∧Q (.d .none) (setC st' k (.list (xs++[x])))) st
theorem one_of {h:Heap} {g:Gh} {y:V} {vs:List Value} (e:VRs G h g [y] vs):∃ v,vs=[v]∧VR G h g y v:=by
  refine kEEAA e fun v r z4 a b=>?_
  subst z4
  exact ⟨v,by exact congrArg _ (show r=[] from b),a⟩
theorem two_of {h:Heap} {g:Gh} {y z:V} {vs:List Value} (e:VRs G h g [y,z] vs):∃ v u,vs=[v,u]∧VR G h g y v∧VR G h g z u:=by
  refine kEEAA e fun v r z6 a b=>?_
  subst z6
  refine kEA (one_of b) fun u z8 c=>?_
  subst z8
  exact ⟨v,u,rfl,a,c⟩
theorem RdL.one {w:World} {J:Heap} {x:PyData} {v:Value} (h:Rd w J x v):RdL w J [x] [v]:=by simp only [RdL]; exact ⟨v,[],rfl,h,by rfl⟩
theorem appS_ok {lv:Nat}:SemM G lv "list.append" 1 appS:=fun c A s g st Q k a ys vs r R ha hn hv hq=>by
  refine kEA (on1_ok hq) fun y z1 hq0=>?_
  subst z1
  refine kEA (one_of hv) fun v hvs hv1=>kEEEAA (asD_ok R hv1 hq0) fun x st1 g1 go1 rx hq1=>kEA (onCL_ok hq1) fun xs e hq1=>?_
  subst hvs
  have ha1:=pre_get go1.le.pre ha
  refine kEEAA (own_list go1.rs e ha1) fun us n hg hr hsz=>?_
  refine call_meets F.slot_list_append ⟨_,hg,rfl⟩ F.entry_list_append (F.args_list_append_2 _ _) (list_append a us n v (le_line (by rw [hsz]; exact hq1.1))) ⟨hg,?_⟩
  exact ⟨.d .none,_,_,go1.trans (upd_list go1.rs e ha1 hg (f:=fun x1=>x1.push v) (by simpa using RdL.append _ hr (RdL.one rx))),vr_none,hq1.2⟩
noncomputable abbrev pop0 (k:Nat) (Q:QV) (st:St):Prop:=onCL st.μ[k]? fun xs=>xs.length≤2^20∧∃ z,xs.getLast?=some z∧Q (.d z) (setC st k (.list xs.dropLast))
noncomputable abbrev pop1 (k:Nat) (y:V) (Q:QV) (st:St):Prop:=onDI y fun i=>onCL st.μ[k]? fun xs=>xs.length≤2^20∧0≤i∧∃ z,xs[i.toNat]?=some z∧Q (.d z) (setC st k (.list (xs.eraseIdx i.toNat)))
noncomputable def popS:StepK:=fun k ys Q st=>List.casesOn (motive:=fun _=>Prop) ys (pop0 k Q st) fun y r=>on0 r (pop1 k y Q st)
theorem RdL.eraseIdx {w:World} {J:Heap}:∀ (xs:List PyData) {vs:List Value} (n:Nat),RdL w J xs vs→RdL w J (xs.eraseIdx n) (vs.eraseIdx n)
  | [],vs,n,h=>by rw [RdL] at h; subst h; rfl
  | y :: xs,vs,0,h=>by
    refine kEEAA h fun u r z6 a b=>?_
    subst z6
    exact b
  | y :: xs,vs,n+1,h=>by
    obtain ⟨u,r,rfl,a,b⟩:=h
    exact ⟨u,_,rfl,a,RdL.eraseIdx xs n b⟩
theorem eraseIf_toList (vs:Array Value) (n:Nat):(vs.eraseIdxIfInBounds n).toList=vs.toList.eraseIdx n:=by
  obtain ⟨l⟩:=vs
  simp
theorem popS_ok0 {lv:Nat}:SemM G lv "list.pop" 0 popS:=fun c A s g st Q k a ys vs r R ha hn hv hq=>by
  obtain rfl:=List.eq_nil_of_length_eq_zero hn
  obtain rfl:vs=[]:=hv
  refine kEA (onCL_ok hq) fun xs e hq=>?_
  refine kEEAA (own_list R e ha) fun us n hg hr hsz=>?_
  refine kAEA hq fun h1 z hz hq=>?_
  have hzi:xs[xs.length - 1]?=some z:=by simp only [← hz,List.getLast?_eq_getElem?]
  refine kEA (RdL.at _ hr hzi) fun v hv1 hv2=>?_
  have hv1':us[us.size - 1]?=some v:=by rw [hsz]; simpa using hv1
  refine call_meets F.slot_list_pop ⟨_,hg,rfl⟩ F.entry_list_pop (F.args_list_pop_1 _) (MeetsSeq.list_pop_last a us n v hv1' (le_line (by rw [hsz]; exact h1))) ⟨hg,?_⟩
  have go:=upd_list R e ha hg (tk:=s.toks) (xs':=xs.dropLast) (f:=fun x1=>x1.eraseIdxIfInBounds (us.size - 1)) (by
    have hne:xs≠[]:=fun q=>by rw [q] at hz; cases hz
    have hd:xs.dropLast=xs.eraseIdx (us.size - 1):=by
      rw [hsz,List.eraseIdx_eq_take_drop_succ,List.dropLast_eq_take,List.drop_of_length_le (by lia),List.append_nil]
    simp only [eraseIf_toList,hd]
    exact RdL.eraseIdx _ _ hr)
  exact ⟨.d z,_,_,go,Rd.mono (go.le.still R.sub) _ hv2,hq⟩
theorem popS_ok1 {lv:Nat}:SemM G lv "list.pop" 1 popS:=fun c A s g st Q k a ys vs r R ha hn hv hq=>by
  refine kE (List.length_eq_one_iff.mp hn) fun y z9=>?_
  subst z9
  refine kEA (one_of hv) fun v0 hvs hv0=>kEA (onDI_ok hq) fun i z1 hq2=>kEA (onCL_ok hq2) fun xs e hq3=>?_
  subst hvs z1
  obtain ⟨t,rfl⟩:=hv0
  refine kEEAA (own_list R e ha) fun us n hg hr hsz=>?_
  obtain ⟨h1,h0,z,hz,hq⟩:=hq3
  refine kEA (RdL.at _ hr hz) fun v hv1 hv2=>?_
  have hv1':us[i.toNat]?=some v:=by simpa using hv1
  have hlt:=(List.getElem?_eq_some_iff.mp hz).1
  have hix:seqIndex? i us.size=some i.toNat:=by
    unfold seqIndex?
    rw [if_neg (by exact Int.not_lt.mpr (by assumption):¬ i<0)]
    simp only [Bool.and_eq_true,decide_eq_true_eq]
    rw [if_pos ⟨h0,by lia⟩]
  refine call_meets F.slot_list_pop ⟨_,hg,rfl⟩ F.entry_list_pop (F.args_list_pop_2 _ _) (MeetsSeq.list_pop_at a us n i t i.toNat v (by simp [Builtin.List.listFitsIndex]; lia) hix hv1' (le_line (by rw [hsz]; exact h1))) ⟨hg,?_⟩
  have go:=upd_list R e ha hg (tk:=s.toks) (xs':=xs.eraseIdx i.toNat) (f:=fun x1=>x1.eraseIdxIfInBounds i.toNat) (by
    simp only [eraseIf_toList]
    exact RdL.eraseIdx _ _ hr)
  exact ⟨.d z,_,_,go,Rd.mono (go.le.still R.sub) _ hv2,hq⟩
noncomputable def revS:StepK:=fun k ys Q st=>on0 ys (onCL st.μ[k]? fun xs=>xs.length≤2^20∧Q (.d .none) (setC st k (.list xs.reverse)))
theorem revS_ok {lv:Nat}:SemM G lv "list.reverse" 0 revS:=fun c A s g st Q k a ys vs r R ha hn hv hq=>by
  have z1:=on0_ok hq
  obtain rfl:=z1.1
  obtain rfl:vs=[]:=hv
  refine kEA (onCL_ok z1.2) fun xs e hq=>?_
  refine kEEAA (own_list R e ha) fun us n hg hr hsz=>?_
  refine call_meets F.slot_list_reverse ⟨_,hg,rfl⟩ F.entry_list_reverse (F.args_list_reverse_1 _) (AutoSeq1.list_reverse_list_0 a us n (le_line (by rw [hsz]; exact hq.1))) ⟨hg,?_⟩
  exact ⟨.d .none,_,_,upd_list R e ha hg (f:=fun x1=>x1.reverse) (by simpa using RdL.reverse _ hr),vr_none,hq.2⟩
noncomputable def insS:StepK:=fun k ys Q st=>on2 ys fun z y=>onDI z fun i=>asD y (fun x st'=>onCL st'.μ[k]? fun xs=>xs.length≤2^20∧0≤i∧i≤xs.length∧Q (.d .none) (setC st' k (.list (xs.take i.toNat++x :: xs.drop i.toNat)))) st
theorem insS_ok {lv:Nat}:SemM G lv "list.insert" 2 insS:=fun c A s g st Q k a ys vs r R ha hn hv hq=>by
  refine kEEA (on2_ok hq) fun z y z1 hq0=>kEA (onDI_ok hq0) fun i z2 hq9=>?_
  subst z1 z2
  obtain ⟨v,u,rfl,hv,hu⟩:=two_of hv
  obtain ⟨t,rfl⟩:=hv
  refine kEEEAA (asD_ok R hu hq9) fun x st1 g1 go1 rx hq1=>kEA (onCL_ok hq1) fun xs e hq1=>?_
  have ha1:=pre_get go1.le.pre ha
  refine kEEAA (own_list go1.rs e ha1) fun us n hg hr hsz=>?_
  refine kAAA hq1 fun b1 b2 b3 hq2=>?_
  refine call_meets F.slot_list_insert ⟨_,hg,rfl⟩ F.entry_list_insert (F.args_list_insert_3 _ _ _) (AutoListH.list_insert_list_int_val_1 a us n i t u (by simp [Builtin.List.listFitsIndex]; lia) (le_line (by rw [hsz]; exact b1))) ⟨hg,?_⟩
  refine ⟨.d .none,_,_,go1.trans (upd_list go1.rs e ha1 hg (xs':=xs.take i.toNat++x :: xs.drop i.toNat) ?_),vr_none,hq2⟩
  have hm:min i.toNat us.size=i.toNat:=by lia
  rw [if_neg (by exact Int.not_lt.mpr (by assumption):¬ i<0),hm]
  have e1:((us.extract 0 i.toNat).push u++us.extract i.toNat).toList=us.toList.take i.toNat++u :: us.toList.drop i.toNat:=by
    obtain ⟨l⟩:=us
    simp only [List.extract_toArray,List.push_toArray,List.append_toArray,List.extract_eq_take_drop,List.size_toArray,List.drop_zero,Nat.sub_zero,List.append_assoc,List.cons_append,List.nil_append]
    rw [List.take_of_length_le (l:=List.drop i.toNat l) (by simp)]
  simp only [e1]
  exact RdL.append _ (RdL.take _ _ hr) (by simp only [RdL]; exact ⟨u,_,rfl,rx,RdL.drop _ _ hr⟩)
end
section
variable {G:Gl} {K:Sk}
noncomputable def kyL:List PyData→Option (List Ky)
  | []=>some []
  | x :: r=>match kyOf x,kyL r with
    | some q,some qs=>some (q :: qs)
    | _,_=>none
noncomputable def tput (kvs:List (List Ky×PyData)) (q:List Ky) (x:PyData):List (List Ky×PyData):=
  if kvs.any (fun p=>decide (p.1=q)) then kvs.map (fun p=>if p.1=q then (p.1,x) else p) else kvs++[(q,x)]
noncomputable def setAt (o i y:V) (Q:St→Prop) (st:St):Prop:=
  asD y (fun x st1=>onOwn o fun k=>onC st1.μ[k]? (fun xs=>onDI i fun n=>0≤n∧n<xs.length∧xs.length≤2^20∧Q (setC st1 k (.list (xs.set n.toNat x))))
    (fun kvs=>onD i fun z=>∃ q,kyOf z=some q∧kvs.length≤2^20∧Q (setC st1 k (.dict (dput kvs q x)))) fun kvs=>onDT i fun zs=>∃ qs,kyL zs=some qs∧kvs.length≤2^20∧Q (setC st1 k (.tdict (tput kvs qs x)))) st
section
variable {prog:Program} {w:World} {A:Around} {E:Value→Shared→Prop} {s:Shared}
theorem setItem_lst {l:Addr} {items:Array Value} {n:Nat} {k:Int} {t:Tok} {v:Value} {Q:Unit→Shared→Prop} (hl:s.heap.get? l=some (lst items n)) (h0:0≤k) (hj:k<items.size) (hf:k<2^63)
    (hQ:Q () { s with heap:=s.heap.update l (Obj.mapSeq (·.setIfInBounds k.toNat v)) }):wpAny (model prog w) A (setItem (.ref l) (.int k t) v) Q E s:=by
  have hT:s.TypeIs (.ref l) "list" := ⟨_,hl,rfl⟩
  refine wpAny_holding (wpAny_bind (wpAny_sequenceKey hT (by decide) ?_))
  refine wpAny_bind (wpAny_callSpecial?_slot (name:=Str.ofString "__setitem__") hT slot_list_setitem (wpAny_call_entry slot_list_setitem hT entry_list_setitem ?_ (args_list_setitem _ _ _)))
  show wpAny _ _ (Builtin.List.listSubscript? (.int k t)>>=_) _ _ s
  refine wpAny_bind (wpAny_listSubscript_int (fitsIndex_of h0 hf) ?_)
  clear hf
  obtain ⟨j,rfl⟩:=Int.eq_ofNat_of_zero_le h0
  have hx:items[j]?=some items[j]:=Array.getElem?_eq_getElem (by omega)
  refine wpAny_bind (wpAny_bind (wpAny_seqItemAt hl rfl (wpAny_pure ?_)))
  rw [hx]
  refine wpAny_bind (m:=setSeqItemAt l j v) (wpAny_setSeqItemAt hl rfl ?_)
  exact wpAny_pure ⟨.none,rfl,wpAny_pure hQ⟩
end
theorem KV.stored {w:World} {J:Heap} {kvs:List (PyData×PyData)} {ks:List (Ky×Value)} (h:KV w J kvs ks) {q:Ky} {x:PyData} {v:Value} (hx:Rd w J x v):KV w J (dput kvs q x) (stored ks q v):=by
  have hany:(kvs.any fun p=>kyOf p.1==some q)=(ks.any fun kv=>decide (kv.1=q)):=by
    induction h with
    | nil=>rfl
    | @cons p r kvs ks e1 e2 _ ih=>
      simp only [List.any_cons,List.any_cons,ih,e1,kyOf_kD]
      congr 1
  delta dput PySem.stored
  rw [← hany]
  by_cases c:(kvs.any fun p=>kyOf p.1==some q)=true
  · rw [if_pos c,if_pos c]
    clear c hany
    induction h with
    | nil=>exact .nil
    | @cons p r kvs ks e1 e2 _ ih=>
      simp only [List.map_cons,List.map_cons]
      refine .cons ?_ ?_ ih
      · rw [e1,kyOf_kD]; by_cases hq:r.1=q<;>simp [hq,e1]
      · rw [e1,kyOf_kD]; by_cases hq:r.1=q<;>simp [hq,hx,e2]
  · rw [if_neg c,if_neg c]
    clear c hany
    induction h with
    | nil=>exact .cons rfl hx .nil
    | cons e1 e2 _ ih=>exact .cons e1 e2 ih
theorem KV.back {w:World} {J:Heap} {prog:Program}:∀ {kvs:List (PyData×PyData)} {ks:List (Ky×Value)} {es:List DictEntry},KV w J kvs ks→Pairs (ky prog w) es ks→(∀ e∈es,∃ k,(ky prog w).is k e.key=true∧e.hash=(ky prog w).hash k)→RdE w J kvs es:=by
  intro kvs ks es h
  induction h generalizing es with
  | nil=>intro hp _; cases hp; rfl
  | @cons p r kvs ks e1 e2 _ ih=>
    intro hp hk
    cases hp with
    | @cons e _ es' _ h1 h2 h3=>
      obtain ⟨p1,p2⟩:=p
      refine kEA (hk e List.mem_cons_self) fun k hk1 hk2=>?_
      have:k=r.1:=(ky prog w).inj _ _ _ hk1 h1
      subst this
      exact ⟨e,es',rfl,⟨r.1,e1,h1,hk2⟩,h2▸e2,ih h3 fun y hy=>hk y (List.mem_cons_of_mem _ hy)⟩
theorem KV.keys {w:World} {J:Heap} {kvs:List (PyData×PyData)} {ks:List (Ky×Value)} (h:KV w J kvs ks):kvs.map (·.1)=(ks.map (·.1)).map kD:=by
  induction h with
  | nil=>rfl
  | cons e1 _ _ ih=>simp [e1,ih]
theorem KV.length {w:World} {J:Heap} {kvs:List (PyData×PyData)} {ks:List (Ky×Value)} (h:KV w J kvs ks):kvs.length=ks.length:=by
  have:=congrArg List.length h.keys
  simpa using this
theorem nodup_map_kD {l:List Ky} (h:l.Nodup):(l.map kD).Nodup:=by
  unfold List.Nodup at *
  rw [List.pairwise_map]
  exact h.imp fun hab e=>hab (kD_inj e)
theorem own_dict {c:Cx} {g:Gh} {st:St} {h:Heap} {k:Nat} {a:Addr} {kvs:List (PyData×PyData)} (R:RS G c g st h) (hk:st.μ[k]?=some (.dict kvs)) (ha:g.as[k]?=some a) :
    ∃ ks,(a==sysModules)=false∧h.DictOf (ky G.prog G.w) a ks∧KV G.w (g.J h) kvs ks:=by
  obtain ⟨_,_,o,es,ep,h0,h1,h2,h3,h4,h5⟩:=R.cells k _ a hk rfl ha
  refine kEA (dictOf_of (prog:=G.prog) h1 h2 h3 h4 h5) fun ks d q=>?_
  exact ⟨ks,h0,d,q⟩
theorem cr_dict {g:Gh} {h:Heap} {a:Addr} {kvs:List (PyData×PyData)} {ks:List (Ky×Value)} (h0:(a==sysModules)=false) (d:h.DictOf (ky G.prog G.w) a ks) (q:KV G.w (g.J h) kvs ks):CR G h g (.dict kvs) a:=by
  refine kEEEAAAAA d fun o es ep h1 h2 h3 h4 h5 h6=>?_
  refine ⟨o,es,ep,h0,h1,h2,h3,q.back h5 fun e he=>h4 e (Array.mem_toList_iff.mp he),?_⟩
  simp only [q.keys]
  exact nodup_map_kD h6
theorem upd_dict {c:Cx} {s:Shared} {g:Gh} {st:St} {k:Nat} {a:Addr} {kvs kvs':List (PyData×PyData)} {ks':List (Ky×Value)} {h':Heap} {tk:Nat} (R:RS G c g st s.heap) (hk:st.μ[k]?=some (.dict kvs)) (ha:g.as[k]?=some a)
    (d:h'.DictOf (ky G.prog G.w) a ks') (hs:Heap.SameBut a s.heap h') (q:KV G.w (g.J s.heap) kvs' ks'):Go G c s g { s with heap:=h',toks:=tk } g (setC st k (.dict kvs')):=by
  have hO:a∈g.O:=R.sub _ (R.cells k _ a hk rfl ha).1
  refine kEA (own_dict R hk ha) fun _ h0 _=>?_
  have hl:∃ o,h'.get? a=some o:=kEEEA d fun o _ _ e _=>⟨o,e⟩
  refine kA (R.upd (q':=.dict kvs') hk rfl ha hs hl (cr_dict h0 d (q.mono (sb_still hO hs))) rfl) fun R' l=>?_
  exact ⟨R',l,⟨rfl,rfl,rfl⟩⟩
theorem items_of {w:World} {prog:Program} {J:Heap}:∀ {zs:List PyData} {qs:List Ky} {vs:List Value},kyL zs=some qs→RdL w J zs vs→ItemsAre (ky prog w) qs vs:=by
  intro xs9
  induction xs9 with
  | nil=>
    intro qs vs h e
    simp only [RdL] at e; subst e
    simp only [kyL,Option.some.injEq] at h; subst h
    exact .nil
  | cons x r ih=>
    intro qs vs h e
    refine kEEAA e fun v t z3 h1 h2=>?_
    subst z3
    simp only [kyL] at h
    split at h
    · rename_i q qs' e1 e2
      simp only [Option.some.injEq] at h
      subst h
      exact .cons (ky_is e1 h1) (ih e2 h2)
    · cases h
theorem TR.atKey {J:Heap} {l t} (x:TR G J l t) (q:List Ky):(l.any fun p=>decide (p.1=q))=(atKey t q).isSome:=by
  induction x with
  | nil=>rfl
  | @cons ks x a v r t h1 h2 _ ih=>
    unfold PySem.atKey at *
    simp only [List.any_cons,List.find?_cons]
    by_cases hq:ks=q
    · simp [hq]
    · simp [hq,ih]
theorem TR.stored {J:Heap} {l t} (x:TR G J l t) {q:List Ky} {a:Addr} {z:PyData} {v:Value} (hz:Rd G.w J z v) (hk:TK G J q a):TR G J (tput l q z) (storedH t q a v):=by
  delta tput storedH
  rw [x.atKey q]
  by_cases c:(PySem.atKey t q).isSome=true
  · rw [if_pos c,if_pos c]
    clear c
    induction x with
    | nil=>exact .nil
    | @cons ks x a v r t h1 h2 _ ih=>
      rw [List.map_cons,List.map_cons]
      unfold putAt
      by_cases hq:ks=q
      · simp only [hq,if_true]
        exact .cons (hq▸h1) hz ih
      · simp only [hq,if_false]
        exact .cons h1 h2 ih
  · rw [if_neg c,if_neg c]
    clear c
    induction x with
    | nil=>exact .cons hk hz .nil
    | cons h1 h2 _ ih=>exact .cons h1 h2 ih
theorem TR.length {J:Heap} {l t} (x:TR G J l t):l.length=t.length:=by
  induction x with
  | nil=>rfl
  | cons _ _ _ ih=>simp [ih]
theorem setAt_ok {c:Cx} {A:Around} {s:Shared} {g:Gh} {st:St} {lv:Nat} {Q:St→Prop} {o i y:V} {u v z:Value} (r:Room A lv) (R:RS G c g st s.heap) (ho:VR G s.heap g o u) (hi:VR G s.heap g i v) (hy:VR G s.heap g y z)
    (hq:setAt o i y Q st):wpAny (model G.prog G.w) A (setItem u v z) (PU G c s g Q) No s:=by
  refine kEEEAA (asD_ok R hy hq) fun x st1 g1 go1 rx hq1=>kEA (onOwn_ok hq1) fun k z1 hq1=>?_
  subst z1
  have R1:=go1.rs
  have hi1:=VR.go go1 R i hi
  refine kEA (VR.go go1 R _ ho) fun a ha z4=>onC_ok hq1 (fun xs e hq1=>kEA (onDI_ok hq1) fun n z2 hq5=>?_) (fun kvs e hq1=>kEA (onD_ok hq1) fun zz z2 hq5=>?_) fun kvs e hq1=>kEA (onDT_ok hq1) fun zs z2 hq5=>?_
  · subst z4 z2
    refine kEEAA (own_list R1 e ha) fun us m hg hr hsz=>?_
    refine kAAA hq5 fun h0 h1 h2 hq2=>?_
    obtain ⟨t,rfl⟩:=hi1
    refine setItem_lst hg h0 (by lia) (by lia) ?_
    refine ⟨_,_,go1.trans (upd_list R1 e ha hg (tk:=s.toks) (f:=fun x1=>x1.setIfInBounds n.toNat z) ?_),hq2⟩
    simp only [Array.toList_setIfInBounds]
    exact RdL.set rx _ _ hr
  · subst z4 z2
    refine kEAA hq5 fun q hq2 hq3 hq4=>?_
    refine kEAA (own_dict R1 e ha) fun ks h0 d kv=>?_
    have hk:=ky_is (prog:=G.prog) hq2 hi1
    refine wpAny_setItem_pairs hk d (fun h' d' hs=>?_) (le_line (by rw [← kv.length]; exact hq3))
    exact ⟨_,_,go1.trans (upd_dict R1 e ha d' hs (KV.stored kv rx)),hq4⟩
  · subst z4 z2
    refine kEAA hq5 fun qs hq2 hq3 hq4=>?_
    refine kAAAEA (R1.cells k _ a e rfl ha) fun hM _ h0 ts d tr=>?_
    refine kEEEAA hi1 fun b vs n z7 hb hr=>?_
    subst z7
    have hkey:TK G (g1.J s.heap) qs b:=⟨vs,n,hb,items_of hq2 hr⟩
    have hkey':IsTupleKey (ky G.prog G.w) s.heap qs b:=⟨_,vs,n,hide_sub _ _ hb,rfl,rfl,items_of hq2 hr⟩
    have hu:=r.units
    refine wpAny_setItem_heap (knd:=tupleKind (ky G.prog G.w)) (show A.units+1<cLine by lia) hkey' d (fun h' d' hs=>?_) (le_line (by rw [← tr.length]; exact hq3))
    have hO:a∈g1.O:=R1.sub _ hM
    have hl:∃ o,h'.get? a=some o:=kEEEA d' fun o _ _ e _=>⟨o,e⟩
    refine kA (R1.upd (q':=.tdict (tput kvs qs x)) e rfl ha hs hl ⟨h0,_,d',(tr.stored rx hkey).mono (sb_still hO hs)⟩ rfl) fun R' l=>?_
    exact ⟨_,_,go1.trans ⟨R',l,⟨rfl,rfl,rfl⟩⟩,hq4⟩
end
section
variable {G:Gl} {K:Sk}
noncomputable def skipT:Tr Fl:=fun Q st=>Q .next st
noncomputable def seqK (r:Tr Fl) (Q:Fl→St→Prop):Fl→St→Prop:=fun f st=>match f with | .next=>Stop (r Q st) | f=>Q f st
noncomputable def seqT (t r:Tr Fl):Tr Fl:=fun Q st=>t (seqK r Q) st
theorem PF.next {c:Cx} {s:Shared} {g:Gh} {st:St} {Q:Fl→St→Prop} (R:RS G c g st s.heap) (h:Q .next st):PF G c s g Q .next s:=⟨.next,st,g,Go.refl R,trivial,h⟩
theorem SemSs.nil:SemSs G K [] skipT:=fun c A s g st Q a R hq=>wpAny_execs_nil (PF.next R hq)
theorem SemSs.cons {e:Stmt} {r:List Stmt} {t tr:Tr Fl} (h1:SemS G K e t) (h2:SemSs G K r tr):SemSs G K (e :: r) (seqT t tr):=fun c A s g st Q a R hq=>
  wpAny_execs_cons (PF.bind (h1 c A s g st _ a R hq) (fun f s1 y st1 g1 go1 v1 hq1=>by
    cases y<;>cases f<;>first
      | exact v1.elim
      | exact wpAny_mono (h2 c A s1 g1 st1 Q a go1.rs hq1.out) (fun _ _ h=>PF.pre go1 h) fun _ _ e=>e
      | exact ⟨_,st1,g1,go1,v1,hq1⟩))
theorem SemSs.one {e:Stmt} {t:Tr Fl} (h1:SemS G K e t):SemSs G K [e] t:=fun c A s g st Q a R hq=>
  wpAny_execs_cons (PF.bind (h1 c A s g st _ a R hq) (fun f s1 y st1 g1 go1 v1 hq1=>by
    cases y<;>cases f<;>first
      | exact v1.elim
      | exact wpAny_execs_nil ⟨_,st1,g1,go1,v1,hq1⟩
      | exact ⟨_,st1,g1,go1,v1,hq1⟩))
structure Sto (K:Sk) (x:Str) (i:Nat):Prop where
  at':K.slots[i]?=some x
  cell:K.sc.names.lookup x=some .local∨K.wr=true
theorem kind_sc {c:Cx} {A:Around} (a:At K c A) (x:Str):c.env.kindOf x=K.sc.names.lookup x:=by unfold Env.kindOf; rw [a.sc]
theorem sto_ok {c:Cx} {A:Around} {s:Shared} {g:Gh} {st:St} {Q:St→Prop} {x:Str} {i:Nat} {y:V} {v:Value} (h:Sto K x i) (a:At K c A) (R:RS G c g st s.heap) (hv:VR G s.heap g y v) (hq:Q (st.put i y)) :
    wpAny (model G.prog G.w) A (storeName c.env x v) (PU G c s g Q) No s:=by
  have hi:c.slots[i]?=some x:=by rw [a.sl]; exact h.at'
  refine kEEAA R.names fun m cm h1 h2 h3=>?_
  rcases a.ok.kd x (List.mem_of_getElem? hi) with k | ⟨k,b,hb⟩
  · refine wpAny_storeName_local k h1 (fun h' hn hs=>?_) (by rw [a.ok.fn]; rfl)
    refine kA (R.store a.ok hi k h2 h3 hv hn hs) fun R' l=>?_
    exact ⟨_,g,⟨R',l,⟨rfl,rfl,rfl⟩⟩,hq⟩
  · refine wpAny_storeName_cell a.ok.fn k hb (h2 x b hb) fun h' hn hs=>?_
    have hw:c.wr=true:=by
      refine Or.elim h.cell (fun e=>?_) (fun e=>?_)
      · rw [kind_sc a,e] at k; cases k
      · rw [a.wr]; exact e
    refine kA (R.storeC a.ok hw hi k hb h1 h2 h3 hv hn hs) fun R' l=>?_
    exact ⟨_,g,⟨R',l,⟨rfl,rfl,rfl⟩⟩,hq⟩
noncomputable def asgK (i:Nat) (Q:Fl→St→Prop):QV:=fun y st=>Q .next (st.put i y)
noncomputable def asgT (i:Nat) (t:Tr V):Tr Fl:=fun Q st=>t (asgK i Q) st
theorem SemS.assign {x:Str} {i:Nat} {p pos:Pos} {e:Expr} {t:Tr V} (h:SemE G K e t) (hx:Sto K x i) (hs:∀ env,env.scope=K.sc→swapsWith e (some (.Name x p)) pos.line env=pure false) :
    SemS G K (.Assign [.Name x p] e pos) (asgT i t):=fun c A s g st Q a R hq=>
  wpAny_Assign_Name (PV.bind (h c A s g st _ a R hq) (fun v s1 y st1 g1 go1 v1 hq1=>
    PU.bind (sto_ok (Q:=fun st'=>Q .next st') hx a go1.rs v1 hq1) (fun _ s2 st2 g2 go2 hq2=>⟨.next,st2,g2,go1.trans go2,trivial,hq2⟩))) (hs _ a.sc)
noncomputable def nxK (Q:Fl→St→Prop):St→Prop:=fun st4=>Q .next st4
noncomputable def setK3 (y b:V) (Q:Fl→St→Prop):QV:=fun n st3=>setAt b n y (nxK Q) st3
noncomputable def setK2 (y:V) (i:Tr V) (Q:Fl→St→Prop):QV:=fun b st2=>i (setK3 y b Q) st2
noncomputable def setK1 (o i:Tr V) (Q:Fl→St→Prop):QV:=fun y st1=>o (setK2 y i Q) st1
noncomputable def setT (t o i:Tr V):Tr Fl:=fun Q st=>t (setK1 o i Q) st
theorem SemS.setItem {e1 e2 e:Expr} {p pos:Pos} {t o i:Tr V} (h:SemE G K e t) (h1:SemE G K e1 o) (h2:SemE G K e2 i) (hs:∀ env,env.scope=K.sc→swapsWith e (some (.Subscript e1 e2 p)) pos.line env=pure false) :
    SemS G K (.Assign [.Subscript e1 e2 p] e pos) (setT t o i):=fun c A s g st Q a R hq=>
  wpAny_Assign_Subscript (PV.bind (h c A s g st _ a R hq) (fun v s1 y st1 g1 go1 v1 hq1=>
    wpAny_mono (two_ok (P:=fun u w s2=>wpAny (model G.prog G.w) A (PySem.setItem u w v) (fun _=>PF G c s g Q .next) No s2) h1 h2 a go1.rs hq1
      fun x z u w st' g' s' go vx vz hq'=>PU.bind (setAt_ok a.room go.rs vx vz (VR.go go go1.rs y v1) hq') (fun _ s2 st2 g2 go2 hq2=>⟨.next,st2,g2,(go1.trans go).trans go2,trivial,hq2⟩)) (fun _ _ h=>h) fun _ _ e=>e)) (hs _ a.sc)
noncomputable def augK (i:Nat) (n:Int) (Q:Fl→St→Prop):QV:=fun y st'=>onDI y fun m=>Q .next (st'.put i (.d (.int (n+m))))
noncomputable def augV (i:Nat) (y:V) (t:Tr V) (Q:Fl→St→Prop) (st:St):Prop:=onDI y fun n=>t (augK i n Q) st
noncomputable def augT (i:Nat) (t:Tr V):Tr Fl:=fun Q st=>augV i (st.get i) t Q st
theorem SemS.augAdd {x:Str} {i:Nat} {p pos:Pos} {e:Expr} {t:Tr V} (h:SemE G K e t) (hx:Sto K x i) (hl:K.sc.names.lookup x=some .local):SemS G K (.AugAssign (.Name x p) .Add e pos) (augT i t):=fun c A s g st Q a R hq=>by
  have hi:c.slots[i]?=some x:=by rw [a.sl]; exact hx.at'
  have k:c.env.kindOf x=some .local:=by simp only [kind_sc a,hl]
  refine kEEAA R.names fun m cm h1 h2 h3=>?_
  refine kEA (onDI_ok hq) fun n en hq=>?_
  have hne:st.get i≠.u:=by rw [en]; exact nofun
  refine kEA (h3 i x _ hi (getD_some hne) hne) fun v hv hr=>?_
  rw [if_pos k] at hv
  rw [en] at hr
  obtain ⟨t',rfl⟩:=hr
  refine wpAny_AugAssign_Name (wpAny_loadName_local a.ok.fn k h1 hv (PV.bind (h c A s g st _ a R hq) (fun w s1 y st1 g1 go1 v1 hq1=>kEA (onDI_ok hq1) fun m z1 hq2=>?_)))
  subst z1
  obtain ⟨t'',rfl⟩:=v1
  exact wpAny_iadd_int (PU.bind (sto_ok (Q:=fun st'=>Q .next st') hx a (Go.tk go1.rs _).rs vr_int hq2) (fun _ s2 st2 g2 go2 hq2=>⟨.next,st2,g2,(go1.trans (Go.tk go1.rs _)).trans go2,trivial,hq2⟩))
theorem SemS.if' {e:Expr} {b1 b2:List Stmt} {pos:Pos} {t:Tr Bool} {p q:Tr Fl} (h:SemB G K e t) (h1:SemSs G K b1 p) (h2:SemSs G K b2 q):SemS G K (.If e b1 b2 pos) (ifT t p q):=fun c A s g st Q a R hq=>
  wpAny_If (PB.bind (h c A s g st _ a R hq) (fun v s1 st1 g1 go1 hq1=>by
    cases v with
    | true=>
      exact wpAny_mono (h1 c A s1 g1 st1 Q a go1.rs hq1) (fun _ _ h=>PF.pre go1 h) fun _ _ e=>e
    | false=>
      exact wpAny_mono (h2 c A s1 g1 st1 Q a go1.rs hq1) (fun _ _ h=>PF.pre go1 h) fun _ _ e=>e))
noncomputable def retK (Q:Fl→St→Prop):QV:=fun y st=>Q (.ret y) st
noncomputable def retT (t:Tr V):Tr Fl:=fun Q st=>t (retK Q) st
theorem SemS.ret {e:Expr} {pos:Pos} {t:Tr V} (h:SemE G K e t):SemS G K (.Return (some e) pos) (retT t):=fun c A s g st Q a R hq=>
  wpAny_Return_some (PV.bind (h c A s g st _ a R hq) (fun v s1 y st1 g1 go1 v1 hq1=>⟨.ret y,st1,g1,go1,v1,hq1⟩))
noncomputable def contT:Tr Fl:=fun Q st=>Q .cont st
theorem SemS.cont {pos:Pos}:SemS G K (.Continue pos) contT:=fun c A s g st Q a R hq=>wpAny_Continue ⟨.cont,st,g,Go.refl R,trivial,hq⟩
noncomputable def exprK (Q:Fl→St→Prop):QV:=fun _ st=>Q .next st
noncomputable def exprT (t:Tr V):Tr Fl:=fun Q st=>t (exprK Q) st
theorem SemS.expr {e:Expr} {pos:Pos} {t:Tr V} (h:SemE G K e t) (hs:∀ env,swapsWith e none pos.line env=pure false):SemS G K (.Expr e pos) (exprT t):=fun c A s g st Q a R hq=>
  wpAny_Expr_any (PV.bind (h c A s g st _ a R hq) (fun v s1 y st1 g1 go1 v1 hq1=>⟨.next,st1,g1,go1,trivial,hq1⟩)) (by unfold interactive; rw [a.ok.fn]; rfl) (hs _)
noncomputable def puts:List Nat→List PyData→St→St
  | i :: is,x :: xs,st=>puts is xs (st.put i (.d x))
  | _,_,st=>st
noncomputable def SemN (G:Gl) (K:Sk) (es:List Expr) (is:List Nat):Prop:=
  es.length=is.length∧(∀ env,(assignEach es env).findIdx? (·.1)=none)∧(∀ env,(assignEach es env).length=es.length) ∧
  ∀ (c:Cx) (A:Around) (s:Shared) (g:Gh) (st:St) (xs:List PyData) (vs:List Value) (Q:St→Prop),At K c A→RS G c g st s.heap→RdL G.w (g.J s.heap) xs vs→xs.length=is.length→Q (puts is xs st) →
    wpAny (model G.prog G.w) A (assignInOrder ((assignEach es c.env).map (·.2)) vs) (PU G c s g Q) No s
theorem SemN.nil:SemN G K [] []:=⟨rfl,fun _=>rfl,fun _=>rfl,fun c A s g st xs vs Q a R hr hl hq=>by
  cases xs with
  | nil=>simp only [RdL] at hr; subst hr; exact wpAny_pure ⟨st,g,Go.refl R,hq⟩
  | cons=>cases hl⟩
theorem assignEach_name (x:Str) (p:Pos) (r:List Expr) (env:Env):assignEach (.Name x p :: r) env=(false,PySem.assign (.Name x p) env) :: assignEach r env:=rfl
theorem SemN.cons {x:Str} {i:Nat} {p:Pos} {r:List Expr} {is:List Nat} (h:Sto K x i) (hr:SemN G K r is):SemN G K (.Name x p :: r) (i :: is):=by
  refine ⟨by simp [hr.1],fun env=>?_,fun env=>?_,fun c A s g st xs vs Q a R hrd hl hq=>?_⟩
  · simp only [assignEach_name,List.findIdx?_cons]
    simp [hr.2.1 env]
  · simp only [assignEach_name,List.length_cons,hr.2.2.1 env,List.length_cons]
  · cases xs with
    | nil=>cases hl
    | cons z zs=>
      refine kEEAA hrd fun v t z5 h1 h2=>?_
      subst z5
      refine assignInOrder_cons (wpAny_assign_Name (PU.bind (sto_ok (Q:=fun st'=>st'=st.put i (.d z)) h a R (show VR G s.heap g (.d z) v from h1) rfl) (fun _ s2 st2 g2 go2 hq2=>?_)))
      subst hq2
      exact wpAny_mono (hr.2.2.2 c A s2 g2 _ zs t Q a go2.rs (RdL.mono (go2.le.still R.sub) _ h2) (by simpa using hl) hq) (fun _ _ h=>PU.pre go2 h) fun _ _ e=>e
theorem extBut_grow {h h':Heap} (he:Heap.ExtBut h.objs.size h h'):∀ a o,h.get? a=some o→h'.get? a=some o:=fun a o e=>he a o (fun q=>by simp only [q,get?_size] at e; cases e) e
theorem tup_ok {c:Cx} {A:Around} {s:Shared} {g:Gh} {st:St} {Q:St→Prop} {es:List Expr} {is:List Nat} {k:Nat} {pos:Pos} {xs:List PyData} {v:Value} (h:SemN G K es is) (a:At K c A) (R:RS G c g st s.heap)
    (hr:Rd G.w (g.J s.heap) (.tuple xs) v) (hl:xs.length=is.length) (hq:Q (puts is xs st)):wpAny (model G.prog G.w) A (PySem.assign (.Tuple es k pos) c.env v) (PU G c s g Q) No s:=by
  simp only [Rd] at hr
  obtain ⟨b,vs,n,rfl,hb,hr⟩:=hr
  have hsz:=RdL.length _ hr
  have it:IsTup s.heap b vs:=⟨_,hide_sub _ _ hb,rfl,n,rfl⟩
  refine assign_Tuple_tuple a.room.hd it (by rw [h.2.2.1,h.1,← hl,← hsz]; rfl) (h.2.1 _) fun h' he=>?_
  have go:=Go.grow R s.toks (extBut_grow he)
  exact wpAny_mono (h.2.2.2 c A { s with heap:=h' } g st xs vs.toList Q a go.rs (RdL.mono (go.le.still R.sub) _ hr) hl hq) (fun _ _ h=>PU.pre go h) fun _ _ e=>e
noncomputable def unpK (is:List Nat) (Q:Fl→St→Prop):QV:=fun y st'=>onDT y fun xs=>xs.length=is.length∧Q .next (puts is xs st')
noncomputable def unpT (is:List Nat) (t:Tr V):Tr Fl:=fun Q st=>t (unpK is Q) st
theorem SemS.unpack {es:List Expr} {is:List Nat} {k:Nat} {p pos:Pos} {e:Expr} {t:Tr V} (h:SemE G K e t) (hn:SemN G K es is) (hs:∀ env,swapsWithSole [.Tuple es k p] e pos.line env=pure false)
    (hw:∀ env,swappedStores [.Tuple es k p] e env=pure none):SemS G K (.Assign [.Tuple es k p] e pos) (unpT is t):=fun c A s g st Q a R hq=>
  Assign_Tuple (PV.bind (h c A s g st _ a R hq) (fun v s1 y st1 g1 go1 v1 hq1=>by
    refine kEA (onDT_ok hq1) fun xs z1 hq2=>?_
    subst z1
    exact PU.bind (tup_ok (Q:=fun st'=>Q .next st') hn a go1.rs v1 hq2.1 hq2.2) (fun _ s2 st2 g2 go2 hq2=>⟨.next,st2,g2,go1.trans go2,trivial,hq2⟩))) (hs _) (hw _)
end
section
variable {G:Gl} {K:Sk}
noncomputable def its:PyData→Option (List PyData)
  | .list xs=>some xs
  | .tuple xs=>some xs
  | .dict kvs=>some (kvs.map (·.1))
  | _=>none
noncomputable def rngL (n:Nat):List PyData:=(List.range n).map fun (i:Nat)=>.int (i:Int)
noncomputable def itV (y:V) (Q:List PyData→St→Prop) (st:St):Prop:=match y with
  | .rng n=>n≤2^20∧Q (rngL n) st
  | y=>asD y (fun x st'=>∃ xs,its x=some xs∧xs.length≤2^20∧Q xs st') st
structure Iter (G:Gl) (A:Around) (J:Heap) (I:Addr) (fp:List Addr) (P:Nat→Value→Prop) (S:Nat→Heap→Prop) (xs:List PyData):Prop where
  W:Walks G.prog G.w A I fp [I] xs.length P S
  fp:∀ b∈fp,b=I∨∃ o,J.get? b=some o
  item:∀ i v z,P i v→xs[i]?=some z→Rd G.w J z v
  lv:∀ i h,S i h→∃ o n fs,h.get? I=some o∧o.cls = .type n∧o.data = .fields fs∧n∈["list_iterator", "tuple_iterator", "dict_keyiterator", "range_iterator"]
section
variable {c:Cx} {A:Around} {s s':Shared} {g g' g₀:Gh} {st st':St} {h h' h₀:Heap}
theorem RS.hid (x:RS G c g st h) {a:Addr} (ha:h.get? a=none) (hg:∀ b o,h.get? b=some o→h'.get? b=some o) (hlv:∃ o,h'.get? a=some o) :
    RS G c ⟨a :: g.O,g.M,g.as⟩ st h'∧Le h g h' ⟨a :: g.O,g.M,g.as⟩:=by
  have hne:∀ b o,h.get? b=some o→b≠a:=fun b o e q=>by simp only [q,ha] at e; cases e
  have hj:∀ b o,(g.J h).get? b=some o→(Gh.J ⟨a :: g.O,g.M,g.as⟩ h').get? b=some o:=fun b o e=>by
    refine kA (hide_some.mp e) fun h1 h2=>?_
    refine hide_some.mpr ⟨fun q=>?_,hg b o h2⟩
    rcases List.mem_cons.mp q with q | q
    · exact hne b o h2 q
    · exact h1 q
  refine kEEAA x.names fun m cm h1 h2 h3=>?_
  refine ⟨⟨fun b o e=>hj b o (x.base b o e),fun b hb=>List.mem_cons_of_mem _ (x.sub b hb),fun b hb=>?_,x.loc,⟨m,cm,h1.keeps hg,fun n b e=>(h2 n b e).keeps hg,fun j z y h4 h5 h6=>?_⟩,
    fun n b e=>?_,x.cellI,x.cellW,x.len,x.len',fun k q b e1 e2 e3=>?_,x.inj⟩,⟨fun b o hb e=>hg b o e,fun b o hb e=>by simp [hne b o e],fun b hb=>.inl hb,List.prefix_refl _⟩⟩
  · rcases List.mem_cons.mp hb with rfl | hb
    · exact hlv
    · obtain ⟨o,e⟩:=x.live b hb; exact ⟨o,hg b o e⟩
  · refine kEA (h3 j z y h4 h5 h6) fun v h7 h8=>?_
    exact ⟨v,h7,VR.of hj (fun _ _ e=>e) _ h8⟩
  · refine kAA (x.cellO n b e) fun e1 e2 e3=>?_
    exact ⟨List.mem_cons_of_mem _ e1,e2,e3⟩
  · refine kAA (x.cells k q b e1 e2 e3) fun h4 h5 h6=>?_
    exact ⟨h4,h5,CR.of hj (fun _ _ e=>e) (fun o e=>hg b o e) h6⟩
theorem RS.turn_J {a:Addr} (haO:a∈g.O) (hk:∀ b o,b≠a→h.get? b=some o→h'.get? b=some o):∀ b o,(g.J h).get? b=some o→(g.J h').get? b=some o:=fun b o e=>by
  obtain ⟨h1,h2⟩:=hide_some.mp e
  exact hide_some.mpr ⟨h1,hk b o (fun q=>h1 (q▸haO)) h2⟩
theorem Heap.IsCell.at' {h h':Heap} {a:Addr} {v:Option Value} (x:h.IsCell a v) (e:∀ o,h.get? a=some o→h'.get? a=some o):h'.IsCell a v:=kEA x fun o ho r=>⟨o,e _ ho,r⟩
theorem RS.turn (x:RS G c g st h) {a:Addr} (haO:a∈g.O) (haM:a∉g.M) (hac:∀ n,c.env.cells.lookup n≠some a) (hk:∀ b o,b≠a→h.get? b=some o→h'.get? b=some o) (hlv:∃ o,h'.get? a=some o):RS G c g st h':=by
  have hj:=RS.turn_J haO hk
  have hM:∀ b∈g.M,b≠a:=fun b hb q=>haM (q▸hb)
  refine kEEAA x.names fun m cm h1 h2 h3=>?_
  refine ⟨fun b o e=>hj b o (x.base b o e),x.sub,fun b hb=>?_,x.loc,⟨m,cm,h1.at' fun o e=>hk _ o (hM _ x.loc) e,fun n b e=>Heap.IsCell.at' (h2 n b e) fun o e'=>hk b o (fun q=>hac n (q▸e)) e',fun j z y h4 h5 h6=>?_⟩,
    x.cellO,x.cellI,x.cellW,x.len,x.len',fun k q b e1 e2 e3=>?_,x.inj⟩
  · by_cases q:b=a
    · subst q; exact hlv
    · obtain ⟨o,e⟩:=x.live b hb; exact ⟨o,hk b o q e⟩
  · refine kEA (h3 j z y h4 h5 h6) fun v h7 h8=>?_
    exact ⟨v,h7,VR.of hj (fun _ _ e=>e) _ h8⟩
  · refine kAA (x.cells k q b e1 e2 e3) fun h4 h5 h6=>?_
    exact ⟨h4,h5,CR.of hj (fun _ _ e=>e) (fun o e=>hk b o (hM b h4) e) h6⟩
theorem Le.turn (l:Le h₀ g₀ h g) {a:Addr} (ha:h₀.get? a=none) (hk:∀ b o,b≠a→h.get? b=some o→h'.get? b=some o):Le h₀ g₀ h' g:=
  ⟨fun b o hb e=>hk b o (fun q=>by rw [q,ha] at e; cases e) (l.same b o hb e),l.hid,l.sub,l.pre⟩
theorem RS.unhid (x:RS G c g st h) {a:Addr} (haO:a∈g.O) (haM:a∉g.M) (hac:∀ n,c.env.cells.lookup n≠some a) (hk:∀ b o,b≠a→h.get? b=some o→h'.get? b=some o) (l:Le h₀ g₀ h g) (ha:h₀.get? a=none) :
    RS G c ⟨g.O.filter (·≠a),g.M,g.as⟩ st h'∧Le h₀ g₀ h' ⟨g.O.filter (·≠a),g.M,g.as⟩:=by
  have hj:∀ b o,(g.J h).get? b=some o→(Gh.J ⟨g.O.filter (·≠a),g.M,g.as⟩ h').get? b=some o:=fun b o e=>by
    refine kA (hide_some.mp e) fun h1 h2=>?_
    exact hide_some.mpr ⟨fun q=>h1 (List.mem_filter.mp q).1,hk b o (fun q=>h1 (q▸haO)) h2⟩
  have hM:∀ b∈g.M,b≠a:=fun b hb q=>haM (q▸hb)
  have l':=l.turn ha hk
  refine kEEAA x.names fun m cm h1 h2 h3=>?_
  refine ⟨⟨fun b o e=>hj b o (x.base b o e),fun b hb=>List.mem_filter.mpr ⟨x.sub b hb,by simpa using hM b hb⟩,fun b hb=>?_,x.loc,⟨m,cm,h1.at' fun o e=>hk _ o (hM _ x.loc) e,fun n b e=>Heap.IsCell.at' (h2 n b e) fun o e'=>hk b o (fun q=>hac n (q▸e)) e',fun j z y h4 h5 h6=>?_⟩,
    fun n b e=>?_,x.cellI,x.cellW,x.len,x.len',fun k q b e1 e2 e3=>?_,x.inj⟩,⟨l'.same,fun b o hb e=>?_,l'.sub,l'.pre⟩⟩
  · refine kA (List.mem_filter.mp hb) fun hb1 hb2=>?_
    obtain ⟨o,e⟩:=x.live b hb1
    exact ⟨o,hk b o (by simpa using hb2) e⟩
  · refine kEA (h3 j z y h4 h5 h6) fun v h7 h8=>?_
    exact ⟨v,h7,VR.of hj (fun _ _ e=>e) _ h8⟩
  · refine kAA (x.cellO n b e) fun e1 e2 e3=>?_
    exact ⟨List.mem_filter.mpr ⟨e1,by have:b≠a:=fun q=>hac n (q▸e); simpa using this⟩,e2,e3⟩
  · refine kAA (x.cells k q b e1 e2 e3) fun h4 h5 h6=>?_
    exact ⟨h4,h5,CR.of hj (fun _ _ e=>e) (fun o e=>hk b o (hM b h4) e) h6⟩
  · have:b≠a:=fun q=>by simp only [q,ha] at e; cases e
    simp only [← l'.hid b o hb e]
    simp [this]
end
theorem rd_ky {w:World} {J:Heap} {k:Ky} {v:Value} (h:Ky.is k v=true):Rd w J (kD k) v:=by
  refine Ky.elim h (fun e1 e2=>?_) (fun i t e1 e2=>?_) (fun x t e1 e2=>?_)<;>subst e1 e2
  · exact rd_none
  · exact rd_int
  · exact rd_str
noncomputable def PI (G:Gl) (A:Around) (c:Cx) (s:Shared) (g:Gh) (Q:List PyData→St→Prop) (it:Value) (s1:Shared):Prop:=
  ∃ I fp P S xs st' g',it = .ref I∧Go G c s g s1 g' st'∧Iter G A (g'.J s1.heap) I fp P S xs∧S 0 s1.heap∧s.heap.get? I=none∧I∈g'.O∧I∉g'.M∧(∀ n,c.env.cells.lookup n≠some I)∧xs.length≤2^20∧(∀ b o,s.heap.get? b=some o→s1.heap.get? b=some o)∧Q xs st'
theorem itV_ok {c:Cx} {A:Around} {s:Shared} {g:Gh} {st:St} {lv:Nat} {Q:List PyData→St→Prop} {y:V} {v:Value} (r:Room A lv) (R:RS G c g st s.heap) (hv:VR G s.heap g y v) (hq:itV y Q st) :
    wpAny (model G.prog G.w) A (pyIter v) (PI G A c s g Q) No s:=by
  have fin:∀ {g1:Gh} {st1:St} {xs:List PyData} {o:Obj} {fp:List Addr} {P:Nat→Value→Prop} {S:Nat→Heap→Prop},Go G c s g s g1 st1→o.isFreed=false →
      Iter G A (g1.J s.heap) s.heap.objs.size fp P S xs→S 0 (s.heap.push o)→xs.length≤2^20→Q xs st1→PI G A c s g Q (.ref s.heap.objs.size) { s with heap:=s.heap.push o }:=by
    intro g1 st1 xs o fp P S go ho it h0 hx hq
    have R1:=go.rs
    have hnew:=get?_size s.heap
    obtain ⟨R2,l2⟩:=R1.hid (h':=s.heap.push o) hnew (push_keep _ _) ⟨_,Heap.get?_push_size _ ho⟩
    have hj:=l2.still R1.sub
    refine ⟨_,fp,P,S,xs,st1,_,rfl,go.trans ⟨R2,l2,⟨rfl,rfl,rfl⟩⟩,⟨it.W,fun b hb=>?_,fun i v z h1 h2=>Rd.mono hj _ (it.item i v z h1 h2),it.lv⟩,h0,hnew,List.mem_cons_self,fun q=>R1.nsize (R1.sub _ q),fun n q=>?_,hx,push_keep _ _,hq⟩
    · rcases it.fp b hb with e | ⟨o,e⟩
      · exact .inl e
      · exact .inr ⟨o,hj b o e⟩
    · refine kE (R1.live _ (R1.cellO n _ q).1) fun o' e=>?_
      rw [hnew] at e; cases e
  have old:∀ {g1:Gh} {a:Addr} {o:Obj},(g1.J s.heap).get? a=some o→a≠s.heap.objs.size:=fun e q=>by
    have:=hide_sub _ _ e
    simp only [q,get?_size] at this; cases this
  unfold itV at hq
  split at hq
  · rename_i n
    refine kEEEEA hv fun a t u w z4 ha=>?_
    subst z4
    have sm:Builtin.Range.small 0 (n:Int) 1=true:=small_one (by decide) (by decide) (by exact Int.natCast_nonneg _) (by lia)
    refine wpAny_pyIter_range (hide_sub _ _ ha) sm ?_
    have hsz:Builtin.Range.rangeSize 0 (n:Int) 1=n:=by rw [rangeSize_one]; split<;>lia
    have hl:(rngL n).length=n:=by simp [rngL]
    have W:=Walks.range (prog:=G.prog) (w:=G.w) r.hd s.heap.objs.size 0 1 n
    refine fin (Go.refl R) rfl (xs:=rngL n) ⟨by simp only [hl]; exact W,fun b hb=>.inl (by simpa using hb),fun i v z h1 h2=>?_,fun i h hS=>⟨_,_,_,hS,rfl,rfl,by trivial⟩⟩ ?_ (by rw [hl]; exact hq.1) hq.2
    · obtain ⟨t,rfl⟩:=h1
      have e:=h2
      unfold rngL at e
      rw [List.getElem?_map,Option.map_eq_some_iff] at e
      obtain ⟨j,e1,rfl⟩:=e
      have:j=i:=by
        have hi:=(List.getElem?_eq_some_iff.mp e1).2
        simpa using hi.symm
      subst this
      have e3:(0:Int)+(j:Nat) * 1=j:=by simp
      rw [e3]
      exact rd_int
    · show IsRangeIter _ _ (0+((0:Nat):Int) * 1) ((n:Int) - ((0:Nat):Int)) 1
      rw [hsz,show (0:Int)+((0:Nat):Int) * 1=0 by decide,show (n:Int) - ((0:Nat):Int)=n by rfl]
      exact Heap.get?_push_size s.heap rfl
  · obtain ⟨x,st1,g1,go1,rx,xs,hx,hlen,hq1⟩:=asD_ok R hv hq
    cases x with
    | list xs'=>
      simp only [its,Option.some.injEq] at hx
      subst hx
      simp only [Rd] at rx
      obtain ⟨a,vs,n,rfl,ha,hr⟩:=rx
      have hl:=RdL.length _ hr
      have il:s.heap.IsList a vs:=⟨_,hide_sub _ _ ha,rfl,n,rfl⟩
      refine wpAny_pyIter_list il ?_
      have W:=Walks.list (prog:=G.prog) (w:=G.w) r.hd s.heap.objs.size a (old ha) vs
      refine fin go1 rfl ⟨by rw [← hl]; exact W,fun b hb=>?_,fun i v z h1 h2=>?_,fun i h hS=>?_⟩ ?_ hlen hq1
      · rcases List.mem_cons.mp hb with e | hb
        · exact .inl e
        · exact .inr (by rw [List.mem_singleton.mp hb]; exact ⟨_,ha⟩)
      · obtain ⟨u,e1,e2⟩:=RdL.at _ hr h2
        have:v=u:=Option.some.inj (h1.symm.trans (by simpa using e1))
        subst this; exact e2
      · obtain ⟨⟨o,h1,h2,h3⟩,_⟩:=hS
        exact ⟨o,_,_,h1,h2,h3,by trivial⟩
      · exact ⟨⟨_,Heap.get?_push_size _ rfl,rfl,rfl⟩,il.push _⟩
    | tuple xs'=>
      simp only [its,Option.some.injEq] at hx
      subst hx
      simp only [Rd] at rx
      obtain ⟨a,vs,n,rfl,ha,hr⟩:=rx
      have hl:=RdL.length _ hr
      have il:s.heap.IsTuple a vs:=⟨_,hide_sub _ _ ha,rfl,n,rfl⟩
      refine wpAny_pyIter_tuple il ?_
      have W:=Walks.tuple (prog:=G.prog) (w:=G.w) r.hd s.heap.objs.size a (old ha) vs
      refine fin go1 rfl ⟨by rw [← hl]; exact W,fun b hb=>?_,fun i v z h1 h2=>?_,fun i h hS=>?_⟩ ?_ hlen hq1
      · rcases List.mem_cons.mp hb with e | hb
        · exact .inl e
        · exact .inr (by rw [List.mem_singleton.mp hb]; exact ⟨_,ha⟩)
      · obtain ⟨u,e1,e2⟩:=RdL.at _ hr h2
        have:v=u:=Option.some.inj (h1.symm.trans (by simpa using e1))
        subst this; exact e2
      · obtain ⟨⟨o,h1,h2,h3⟩,_⟩:=hS
        exact ⟨o,_,_,h1,h2,h3,by trivial⟩
      · exact ⟨⟨_,Heap.get?_push_size _ rfl,rfl,rfl⟩,il.push _⟩
    | dict kvs=>
      simp only [its,Option.some.injEq] at hx
      subst hx
      refine kEEAAA (Rd.dict_at (prog:=G.prog) rx) fun a ks z12 h0 hd kv=>?_
      subst z12
      obtain ⟨ep,hda⟩:=hd.dictAt
      have ha:∃ o,(g1.J s.heap).get? a=some o:=kEEA hda fun o _ e _=>⟨o,e⟩
      have hda':s.heap.DictAt (ky G.prog G.w) a ks ep:=hda.keep hide_sub
      refine wpAny_pyIter_dict h0 hda' ?_
      obtain ⟨oa,hoa⟩:=ha
      have hl:(kvs.map (·.1)).length=ks.length:=by simp only [List.length_map,kv.length]
      have W:=Walks.dictKeys (knd:=ky G.prog G.w) r.hd s.heap.objs.size a (old hoa) ks ep
      refine fin go1 rfl ⟨by simp only [hl]; exact W,fun b hb=>?_,fun i v z h1 h2=>?_,fun i h hS=>?_⟩ ?_ hlen hq1
      · rcases List.mem_cons.mp hb with e | hb
        · exact .inl e
        · exact .inr (by rw [List.mem_singleton.mp hb]; exact ⟨_,hoa⟩)
      · refine kEEA h1 fun k x e1 e2=>?_
        rw [kv.keys,List.map_map] at h2
        simp only [List.getElem?_map,e1,Option.map_some,Option.some.injEq] at h2
        subst h2
        exact rd_ky e2
      · refine kA hS fun z14 _=>?_
        refine kEAA z14 fun o h1 h2 h3=>?_
        exact ⟨o,_,_,h1,h2,h3,by trivial⟩
      · exact ⟨⟨_,Heap.get?_push_size _ rfl,rfl,rfl⟩,hda'.push _⟩
    | _=>cases hx
end
section
variable {G:Gl} {K:Sk}
inductive Tg where
  | one (i:Nat)
  | many (is:List Nat)
noncomputable def Tg.bind:Tg→PyData→St→Option St
  | .one i,x,st=>some (st.put i (.d x))
  | .many is,.tuple xs,st=>if xs.length=is.length then some (puts is xs st) else none
  | _,_,_=>none
noncomputable def SemT (G:Gl) (K:Sk) (target:Expr) (tg:Tg):Prop:=∀ (c:Cx) (A:Around) (s:Shared) (g:Gh) (st st':St) (z:PyData) (v:Value),At K c A→RS G c g st s.heap→Rd G.w (g.J s.heap) z v→tg.bind z st=some st' →
  wpAny (model G.prog G.w) A (PySem.assign target c.env v) (PU G c s g fun st2=>st2=st') No s
theorem SemT.one {x:Str} {i:Nat} {p:Pos} (h:Sto K x i):SemT G K (.Name x p) (.one i):=fun c A s g st st' z v a R hr e=>by
  cases e
  exact wpAny_assign_Name (sto_ok h a R (show VR G s.heap g (.d z) v from hr) rfl)
theorem SemT.many {es:List Expr} {is:List Nat} {k:Nat} {p:Pos} (h:SemN G K es is):SemT G K (.Tuple es k p) (.many is):=fun c A s g st st' z v a R hr e=>by
  unfold Tg.bind at e
  split at e
  · cases ‹Tg.many is=Tg.one _›
  · rename_i is' xs st'' e1
    cases e1
    split at e
    · cases e
      exact tup_ok h a R hr (by assumption) rfl
    · cases e
  · cases e
noncomputable def Wk (b:Nat) (st st':St):Prop:=∃ n,b≤n∧st'.μ=st.μ.take n∧st'.ρ.length=st.ρ.length∧(∀ (i:Nat) (y:V),st'.ρ[i]?=some y→y≠.u→st.ρ[i]?=some y)∧(∀ y∈st'.ρ,y.lt n)∧∀ q∈st'.μ,q.lt n
noncomputable def Sh (b:Nat) (P:St→Prop) (st:St):Prop:=P st∨∃ st',Wk b st st'∧P st'
section
variable {c:Cx} {A:Around} {s s':Shared} {g g' g₀:Gh} {st st':St} {h h' h₀:Heap}
theorem RS.forget (x:RS G c g st h) {ρ':List V} (h1:ρ'.length=st.ρ.length) (h2:∀ (i:Nat) (y:V),ρ'[i]?=some y→y≠.u→st.ρ[i]?=some y):RS G c g ⟨ρ',st.μ⟩ h:=by
  refine kEEAA x.names fun m cm n1 n2 n3=>?_
  exact ⟨x.base,x.sub,x.live,x.loc,⟨m,cm,n1,n2,fun j z y h4 h5 h6=>n3 j z y h4 (h2 j y h5 h6) h6⟩,x.cellO,x.cellI,x.cellW,h1.trans x.len,x.len',x.cells,x.inj⟩
theorem Go.sh {b:Nat} {P:St→Prop} (go:Go G c s g s' g' st') (hb:g.as.length≤b) (hq:Sh b P st'):∃ st2 g2,Go G c s g s' g2 st2∧P st2∧g2.O=g'.O∧g2.M=g'.M:=by
  refine Or.elim hq (fun hq=>?_) (fun z1=>?_)
  · exact ⟨st',g',go,hq,rfl,rfl⟩
  · refine kEA z1 fun st2 z3 hq=>?_
    refine kEAAAAA z3 fun n h0 h1 h2 h3 h4 h5=>?_
    have R1:RS G c g' ⟨st2.ρ,st'.μ⟩ s'.heap:=go.rs.forget h2 h3
    have R2:=R1.cut n h4 (by rw [← h1]; exact h5)
    refine ⟨st2,{ g' with as:=g'.as.take n },⟨?_,⟨go.le.same,go.le.hid,go.le.sub,?_⟩,go.rest⟩,hq,rfl,rfl⟩
    · have e:st2=⟨st2.ρ,st'.μ.take n⟩:=by rw [← h1]
      rw [e]; exact R2
    · have hp:=go.le.pre
      have:g.as.length≤n:=Nat.le_trans hb h0
      exact List.prefix_take_iff.mpr ⟨hp,this⟩
theorem go_skip {target:Expr} {I:Addr} {v:Value} {o:Obj} {n:String} {fs:Array Value} {Q:Unit→Shared→Prop} {E:Value→Shared→Prop} (ho:s.heap.get? I=some o) (hc:o.cls = .type n) (hd:o.data = .fields fs)
    (hn:n∈["list_iterator", "tuple_iterator", "dict_keyiterator", "range_iterator"]) (hQ:Q () s):wpAny (model G.prog G.w) A (letOwnedTupleGo target (.ref I) v) Q E s:=by
  have hn':(["enumerate", "zip", "dict_itemiterator", "dict_reverseitemiterator", "odict_iterator", "itertools.zip_longest", "itertools.pairwise"].contains n)=false:=by
    simp only [List.mem_cons,List.not_mem_nil,or_false] at hn
    rcases hn with rfl | rfl | rfl | rfl<;>decide
  have main:∀ a,wpAny (model G.prog G.w) A (do
      let o ← load I
      match o.cls,o.data with
      | .type n,.fields vs=>
        if ["enumerate", "zip", "dict_itemiterator", "dict_reverseitemiterator", "odict_iterator", "itertools.zip_longest", "itertools.pairwise"].contains n&&vs[0]?==some (rawInt a) then
          rule "for.unpacks-the-owned-tuple"
          updateField I 0 .none
      | _,_=>pure ()) Q E s:=fun a=>by
    refine wpAny_bind (wpAny_load ho ?_)
    rw [hc,hd]
    dsimp only
    rw [if_neg (by rw [hn',Bool.false_and]; decide)]
    exact wpAny_pure hQ
  cases target<;>first | exact wpAny_pure hQ | (cases v<;>first | exact wpAny_pure hQ | exact main _)
end
noncomputable def loopK (Q:Fl→St→Prop) (k:St→Prop):Fl→St→Prop:=fun f st=>match f with
  | .next=>k st
  | .cont=>k st
  | .brk=>Q .next st
  | .ret y=>Q (.ret y) st
noncomputable def forK (tg:Tg) (body:Tr Fl) (Q:Fl→St→Prop) (xs:List PyData) (st2:St):Prop:=∃ I:Nat→St→Prop,I 0 st2 ∧
  (∀ i z st3,xs[i]?=some z→I i st3→∃ st4,tg.bind z st3=some st4∧body (loopK Q (Sh st2.μ.length (I (i+1)))) st4)∧(∀ st3,I xs.length st3→Q .next st3)
noncomputable def forK0 (tg:Tg) (body:Tr Fl) (Q:Fl→St→Prop):QV:=fun y st1=>itV y (forK tg body Q) st1
noncomputable def forT (t:Tr V) (tg:Tg) (body:Tr Fl):Tr Fl:=fun Q st=>t (forK0 tg body Q) st
noncomputable def LI (G:Gl) (c:Cx) (s1:Shared) (g1:Gh) (J:Heap) (I:Addr) (S:Nat→Heap→Prop) (Inv:Nat→St→Prop) (i:Nat) (s:Shared):Prop:=
  ∃ st g,Go G c s1 g1 s g st∧S i s.heap∧I∈g.O∧I∉g.M∧(∀ b o,J.get? b=some o→(g.J s.heap).get? b=some o)∧Inv i st
section
variable {c:Cx} {A:Around} {s1:Shared} {g1:Gh} {J:Heap} {I:Addr} {S:Nat→Heap→Prop} {fp:List Addr} {P:Nat→Value→Prop} {xs:List PyData}
theorem draw_ok {Inv:Nat→St→Prop} {i:Nat} {s:Shared} {Q:Option Value→Shared→Prop} {E:Value→Shared→Prop} (hit:Iter G A J I fp P S xs) (hnew:s1.heap.get? I=none) (hcl:∀ n,c.env.cells.lookup n≠some I)
    (hi:i<xs.length) (hl:LI G c s1 g1 J I S Inv i s)
    (hQ:∀ v s' g st,s'.heap.get? I≠none→Rd G.w J xs[i] v→Go G c s1 g1 s' g st→S (i+1) s'.heap→I∈g.O→I∉g.M→(∀ b o,J.get? b=some o→(g.J s'.heap).get? b=some o)→Inv i st→Q (some v) s') :
    wpAny (model G.prog G.w) A (pyNext (.ref I)) Q E s:=by
  refine kEEAAAAA hl fun st g go hS hO hM hJ hI=>?_
  refine hit.W.item i s Q E hi hS fun v h' tk hP hS' hk=>?_
  refine kEEEA (hit.lv _ _ hS') fun o n fs h1 _=>?_
  have hk':∀ b o,b≠I→s.heap.get? b=some o→h'.get? b=some o:=fun b o hb e=>hk b o (by simpa using hb) e
  refine hQ v _ g st (by rw [h1]; simp) (hit.item i v _ hP (List.getElem?_eq_getElem hi)) ⟨go.rs.turn hO hM hcl hk' ⟨_,h1⟩,go.le.turn hnew hk',go.rest.trans ⟨rfl,rfl,rfl⟩⟩ hS' hO hM (fun b o e=>RS.turn_J hO hk' b o (hJ b o e)) hI
theorem draw_back {Inv:Nat→St→Prop} {i:Nat} {s' s'':Shared} {g g':Gh} {st st':St} {b:Nat} (hit:Iter G A J I fp P S xs) (hb:g1.as.length≤b) (hlv:s'.heap.get? I≠none) (go:Go G c s1 g1 s' g st) (hS:S (i+1) s'.heap) (hO:I∈g.O) (hM:I∉g.M)
    (hJ:∀ b o,J.get? b=some o→(g.J s'.heap).get? b=some o) (go':Go G c s' g s'' g' st') (hI:Sh b (Inv (i+1)) st'):LI G c s1 g1 J I S Inv (i+1) s'':=by
  obtain ⟨o,ho⟩:∃ o,s'.heap.get? I=some o:=by
    cases e:s'.heap.get? I with
    | none=>exact absurd e hlv
    | some o=>exact ⟨o,rfl⟩
  have hO':I∈g'.O:=(go'.le.hid I o hM ho).mpr hO
  have hM':I∉g'.M:=fun q=>by
    refine Or.elim (go'.le.sub I q) (fun q=>?_) (fun q=>?_)
    · exact hM q
    · rw [ho] at q; cases q
  have hj:=go'.le.still go.rs.sub
  have hS':S (i+1) s''.heap:=hit.W.frame _ _ _ hS fun b hb o' e=>by
    refine Or.elim (hit.fp b hb) (fun z4=>?_) (fun z5=>?_)
    · subst z4
      exact go'.le.same _ o' hM e
    · refine kE z5 fun o'' e'=>?_
      have e1:=hJ b o'' e'
      have e2:=hide_sub _ _ e1
      have:o''=o':=Option.some.inj (e2.symm.trans e)
      subst this
      exact hide_sub _ _ (hj b _ e1)
  refine kEEAAA ((go.trans go').sh hb hI) fun st2 g2 go2 hI2 eO eM=>?_
  refine ⟨st2,g2,go2,hS',eO▸hO',eM▸hM',fun b o e=>?_,hI2⟩
  have:=hj b o (hJ b o e)
  unfold Gh.J at this ⊢
  rw [eO]; exact this
end
theorem SemS.for {target iter:Expr} {body:List Stmt} {pos:Pos} {t:Tr V} {tg:Tg} {b:Tr Fl} (h:SemE G K iter t) (ht:SemT G K target tg) (hb:SemSs G K body b) (hs:∀ env x,foldedSetIterable iter env x=pure x) :
    SemS G K (.For target iter body [] pos) (forT t tg b):=fun c A s g st Q a R hq=>by
  refine wpAny_For (PV.bind (h c A s g st _ a R hq) (fun v s1 y st1 g1 go1 v1 hq1=>?_)) (hs _)
  refine wpAny_mono (itV_ok a.room go1.rs v1 hq1) (fun it s2 hp=>?_) fun _ _ e=>e.elim
  obtain ⟨I,fp,P,S,xs,st2,g2,rfl,go2,hit,h0,hnew,hO,hM,hcl,hlen,_,Inv,i0,istep,iend⟩:=hp
  have hb2:g1.as.length≤st2.μ.length:=by simp only [← go2.rs.len']; exact go2.le.pre.length_le
  refine codeAny_forLoop_any (fun n s'=>∃ i,n=xs.length+1 - i∧i≤xs.length∧LI G c s1 g1 (g2.J s2.heap) I S Inv i s') ?_ (xs.length+1) ⟨0,by rfl,Nat.zero_le _,st2,g2,go2,h0,hO,hM,fun _ _ e=>e,i0⟩
  rintro n s' ⟨i,rfl,hi,hl⟩
  by_cases hlt:i<xs.length
  · refine draw_ok hit hnew hcl hlt hl fun v s3 g3 st3 hlv hr go3 hS3 hO3 hM3 hJ3 hI3=>?_
    refine kEEEAAA (hit.lv _ _ hS3) fun o nm fs e1 e2 e3 e4=>?_
    refine go_skip e1 e2 e3 e4 ?_
    refine kEA (istep i xs[i] st3 (List.getElem?_eq_getElem hlt) hI3) fun st4 hbind hbody=>?_
    refine PU.bind (ht c A s3 g3 st3 st4 _ v a go3.rs (Rd.mono hJ3 _ hr) hbind) (fun _ s4 st4' g4 go4 e=>?_)
    subst e
    refine PF.bind (hb c A s4 g4 st4' _ a go4.rs hbody) (fun f s5 y5 st5 g5 go5 v5 hq5=>?_)
    have go45:=go4.trans go5
    cases y5 with
    | next=>
      cases f with
      | next=>exact ⟨xs.length+1 - (i+1),by omega,i+1,rfl,hlt,draw_back hit hb2 hlv go3 hS3 hO3 hM3 hJ3 go45 hq5⟩
      | _=>exact v5.elim
    | cont=>
      cases f with
      | cont=>exact ⟨xs.length+1 - (i+1),by omega,i+1,rfl,hlt,draw_back hit hb2 hlv go3 hS3 hO3 hM3 hJ3 go45 hq5⟩
      | _=>exact v5.elim
    | brk=>
      cases f with
      | brk=>exact ⟨.next,st5,g5,(go1.trans go3).trans go45,trivial,hq5⟩
      | _=>exact v5.elim
    | ret y=>
      cases f with
      | ret w=>exact ⟨.ret y,st5,g5,(go1.trans go3).trans go45,v5,hq5⟩
      | _=>exact v5.elim
  · have hin:i=xs.length:=by lia
    subst hin
    refine kEEAAAAA hl fun st3 g3 go3 hS3 hO3 hM3 hJ3 hI3=>?_
    refine hit.W.done s' _ _ hS3 fun h' tk hk=>?_
    have hk':∀ b o,b≠I→s'.heap.get? b=some o→h'.get? b=some o:=fun b o hb e=>hk b o (by simpa using hb) e
    refine kA (go3.rs.unhid hO3 hM3 hcl hk' go3.le hnew) fun R4 l4=>?_
    refine wpAny_execs_nil ?_
    exact ⟨.next,st3,_,go1.trans ⟨R4,l4,go3.rest.trans ⟨rfl,rfl,rfl⟩⟩,trivial,iend st3 hI3⟩
noncomputable def whileT (t:Tr Bool) (body:Tr Fl):Tr Fl:=fun Q st=>∃ I:Nat→St→Prop,(∃ n,I n st)∧∀ n st1,I n st1→t (fun b st2=>br b (body (loopK Q (Sh st.μ.length fun st4=>∃ m,m<n∧I m st4)) st2) (Q .next st2)) st1
theorem SemS.while {e:Expr} {body:List Stmt} {pos:Pos} {t:Tr Bool} {b:Tr Fl} (h:SemB G K e t) (hb:SemSs G K body b):SemS G K (.While e body [] pos) (whileT t b):=fun c A s g st Q a R hq=>by
  refine kEA hq fun Inv z7 istep=>?_
  obtain ⟨n0,i0⟩:=z7
  have hb2:g.as.length≤st.μ.length:=by rw [R.len']; exact Nat.le_refl _
  refine wpAny_While (codeAny_whileLoop (fun n s'=>∃ st' g',Go G c s g s' g' st'∧Inv n st') ?_ n0 ⟨st,g,Go.refl R,i0⟩)
  rintro n s' ⟨st1,g1,go1,hI⟩
  refine PB.bind (h c A s' g1 st1 _ a go1.rs (istep n st1 hI)) (fun v s2 st2 g2 go2 hq2=>?_)
  have go12:=go1.trans go2
  cases v with
  | false=>
    exact wpAny_execs_nil ⟨.next,st2,g2,go12,trivial,hq2⟩
  | true=>
    refine PF.bind (hb c A s2 g2 st2 _ a go2.rs hq2) (fun f s5 y5 st5 g5 go5 v5 hq5=>?_)
    have go:=go12.trans go5
    cases y5 with
    | next=>
      cases f with
      | next=>obtain ⟨st6,g6,go6,⟨m,hm,hI6⟩,_⟩:=go.sh (P:=fun st4=>∃ m,m<n∧Inv m st4) hb2 hq5; exact ⟨m,hm,st6,g6,go6,hI6⟩
      | _=>exact v5.elim
    | cont=>
      cases f with
      | cont=>obtain ⟨st6,g6,go6,⟨m,hm,hI6⟩,_⟩:=go.sh (P:=fun st4=>∃ m,m<n∧Inv m st4) hb2 hq5; exact ⟨m,hm,st6,g6,go6,hI6⟩
      | _=>exact v5.elim
    | brk=>
      cases f with
      | brk=>exact ⟨.next,st5,g5,go,trivial,hq5⟩
      | _=>exact v5.elim
    | ret y=>
      cases f with
      | ret w=>exact ⟨.ret y,st5,g5,go,v5,hq5⟩
      | _=>exact v5.elim
end
section
variable {G:Gl} {K:Sk}
noncomputable def SemF (G:Gl) (lv:Nat) (f:Value) (n:Nat) (o:List V→Tr V):Prop:=
  ∀ (c:Cx) (A:Around) (s:Shared) (g:Gh) (st:St) (Q:V→St→Prop) (ys:List V) (vs:List Value),Room A lv→RS G c g st s.heap→ys.length=n→VRs G s.heap g ys vs→o ys Q st →
    wpAny (model G.prog G.w) A (call f vs) (PV G c s g Q) No s
noncomputable def fnK (o:List V→Tr V) (R:QV):List V→St→Prop:=fun ys st'=>o ys R st'
noncomputable def fnT (ts:List (Tr V)) (o:List V→Tr V):Tr V:=fun Q st=>evsT ts (fnK o Q) st
noncomputable def BG (G:Gl) (x:Str) (f:Value):Prop:=G.mg x=none∧G.mb x=some f
theorem call_name {x:Str} {p pos:Pos} {es:List Expr} {f:Value} {c:Cx} {A:Around} {s:Shared} {g:Gh} {st:St} {Q:Value→Shared→Prop} (a:At K c A) (R:RS G c g st s.heap) (hk:K.sc.names.lookup x=some .globalImplicit) (hg:BG G x f) (hd:(x==("__debug__" : Str))=false)
    (h:wpAny (model G.prog G.w) A (callWith pos f [] (backTo pos (starEach es c.env)) []) Q No s):wpAny (model G.prog G.w) A (eval (.Call (.Name x p) es [] pos) c.env) Q No s:=by
  have hkd:c.env.kindOf x=some .globalImplicit:=by simp only [kind_sc a,hk]
  refine Call_ (Calls.Name_function_global a.ok.fn hkd (Calls.loadGlobal_builtin (env:=c.env) (by rw [a.ok.gl]; exact G.g.keeps fun b o e=>hide_sub _ _ (R.base b o e)) hg.1 (by rw [a.ok.bl]; exact G.b.keeps fun b o e=>hide_sub _ _ (R.base b o e)) hg.2 h) hd)
theorem SemE.callB {x:Str} {p pos:Pos} {es:List Expr} {ts:List (Tr V)} {id:String} {o:List V→Tr V} (h:SemEs G K es (evsT ts)) (hn:NoStar es) (hk:K.sc.names.lookup x=some .globalImplicit) (hg:BG G x (.builtin id)) (hd:(x==("__debug__" : Str))=false)
    (ho:SemF G K.lv (.builtin id) es.length o):SemE G K (.Call (.Name x p) es [] pos) (fnT ts o):=fun c A s g st Q a R hq=>by
  refine call_name a R hk hg hd (Calls.callWith_builtin (noStar_any hn _ _) (wpAny_mono (args_ok h hn a R hq) (fun ar s2 ⟨hkw,ys,st2,g2,go2,v2,hlen,hq2⟩=>?_) fun _ _ e=>e))
  rw [hkw]
  exact wpAny_mono (ho c A s2 g2 st2 Q ys ar.pos a.room go2.rs hlen v2 hq2) (fun _ _ h=>PV.pre go2 h) fun _ _ e=>e
theorem SemE.callTy {x:Str} {p pos:Pos} {es:List Expr} {ts:List (Tr V)} {id:String} {o:List V→Tr V} (h:SemEs G K es (evsT ts)) (hn:NoStar es) (hk:K.sc.names.lookup x=some .globalImplicit) (hg:BG G x (.type id)) (hd:(x==("__debug__" : Str))=false)
    (ho:SemF G K.lv (.type id) es.length o):SemE G K (.Call (.Name x p) es [] pos) (fnT ts o):=fun c A s g st Q a R hq=>by
  refine call_name a R hk hg hd (PyProof.Rows.callWith_type (noStar_any hn _ _) (wpAny_mono (args_ok h hn a R hq) (fun ar s2 ⟨hkw,ys,st2,g2,go2,v2,hlen,hq2⟩=>?_) fun _ _ e=>e))
  rw [hkw]
  exact wpAny_mono (ho c A s2 g2 st2 Q ys ar.pos a.room go2.rs hlen v2 hq2) (fun _ _ h=>PV.pre go2 h) fun _ _ e=>e
theorem small {n k:Nat} (hl:n=k) (h:k≤2^20):(n:Int)<2^63:=by lia
noncomputable def lenO:List V→Tr V:=fun ys Q st=>on1 ys fun y=>onO (pk y st) (pc (fun _=>False) (fun _=>False) (fun xs=>xs.length≤2^20∧Q (.d (.int xs.length)) st) (fun xs=>xs.length≤2^20∧Q (.d (.int xs.length)) st) fun _=>False)
theorem lenO_ok {lv:Nat}:SemF G lv (.builtin "len") 1 lenO:=fun c A s g st Q ys vs r R hn hv hq=>by
  refine kEA (on1_ok hq) fun y z1 hq=>?_
  subst z1
  refine kEA (one_of hv) fun v z2 hv1=>kEA (onO_ok hq) fun x e hq=>pc_ok hq (fun _ _ h=>h.elim) (fun _ _ h=>h.elim) (fun xs z3 hq=>?_) (fun xs z3 hq=>?_) fun _ _ h=>h.elim
  · subst z2 z3
    obtain ⟨a,us,n,rfl,h1,h2⟩:=pk_list R hv1 e
    have hl:us.size=xs.length:=RdL.length _ h2
    exact len_list ⟨_,h1,rfl,n,rfl⟩ (small hl hq.1) ⟨_,st,g,Go.tk R _,hl▸vr_int,hq.2⟩
  · subst z2 z3
    obtain ⟨a,us,n,rfl,h1,h2⟩:=pk_tuple R hv1 e
    have hl:us.size=xs.length:=RdL.length _ h2
    exact PyProof.Rows.len_tuple ⟨_,h1,rfl,n,rfl⟩ (small hl hq.1) ⟨_,st,g,Go.tk R _,hl▸vr_int,hq.2⟩
noncomputable def absO:List V→Tr V:=fun ys Q st=>on1 ys fun y=>onDI y fun i=>Q (.d (.int (if i<0 then -i else i))) st
theorem absO_ok {lv:Nat}:SemF G lv (.builtin "abs") 1 absO:=fun c A s g st Q ys vs r R hn hv hq=>by
  refine kEA (on1_ok hq) fun y z1 hq=>kEA (onDI_ok hq) fun i z2 hq=>?_
  subst z1 z2
  refine kEA (one_of hv) fun v z6 hv1=>?_
  subst z6
  obtain ⟨t,rfl⟩:=hv1
  exact call_abs_int fun u tk=>⟨_,st,g,Go.tk R _,vr_int,hq⟩
noncomputable def rngO:List V→Tr V:=fun ys Q st=>on1 ys fun y=>onDI y fun i=>0≤i∧Q (.rng i.toNat) st
theorem rngO_ok {lv:Nat}:SemF G lv (.type "range") 1 rngO:=fun c A s g st Q ys vs r R hn hv hq=>by
  refine kEA (on1_ok hq) fun y z1 hq0=>kEA (onDI_ok hq0) fun i z2 hq2=>?_
  subst z1 z2
  refine kEA (one_of hv) fun v z9 hv1=>?_
  subst z9
  obtain ⟨t,rfl⟩:=hv1
  have e0:((i.toNat:Nat):Int)=i:=Int.toNat_of_nonneg hq2.1
  refine call_range_1 ⟨.rng i.toNat,st,g,Go.grow R _ (push_keep _ _),⟨s.heap.objs.size,s.toks,t,s.toks+1,rfl,?_⟩,hq2.2⟩
  rw [e0]
  exact R.pushJ rfl
theorem newAt {c:Cx} {s:Shared} {g:Gh} {st:St} {h':Heap} {a:Addr} {tk:Nat} {q:Cell} {Q:V→St→Prop} (R:RS G c g st s.heap) (ha:s.heap.get? a=none) (hk:∀ b o,s.heap.get? b=some o→h'.get? b=some o) (hlv:∃ o,h'.get? a=some o)
    (hn:(∀ b o,(g.J s.heap).get? b=some o→(Gh.J ⟨a :: g.O,a :: g.M,g.as++[a]⟩ h').get? b=some o)→CR G h' ⟨a :: g.O,a :: g.M,g.as++[a]⟩ q a) (hq:Q (.own st.μ.length) ⟨st.ρ,st.μ++[q]⟩) :
    PV G c s g Q (.ref a) { s with heap:=h',toks:=tk }:=by
  have hj:∀ b o,(g.J s.heap).get? b=some o→(Gh.J ⟨a :: g.O,a :: g.M,g.as++[a]⟩ h').get? b=some o:=fun b o e=>by
    refine kA (hide_some.mp e) fun h1 h2=>?_
    refine hide_some.mpr ⟨fun q=>?_,hk b o h2⟩
    rcases List.mem_cons.mp q with q | q
    · simp only [q,ha] at h2; cases h2
    · exact h1 q
  refine kA (R.new (q:=q) ha hk hlv (hn hj)) fun R' l'=>?_
  refine ⟨.own st.μ.length,_,_,⟨R',l',⟨rfl,rfl,rfl⟩⟩,⟨_,?_,rfl⟩,hq⟩
  rw [← R.len']; simp
theorem newl_at {c:Cx} {s:Shared} {g:Gh} {st:St} (ow:Bool) {xs:List PyData} {vs:Array Value} {n tk:Nat} {h':Heap} {a:Addr} {Q:V→St→Prop} (R:RS G c g st s.heap) (ha:s.heap.get? a=none) (hk:∀ b o,s.heap.get? b=some o→h'.get? b=some o)
    (hl:h'.get? a=some (lst vs n)) (r:RdL G.w (g.J s.heap) xs vs.toList) (hq:newlT ow xs Q st):PV G c s g Q (.ref a) { s with heap:=h',toks:=tk }:=by
  unfold newlT at hq
  cases ow with
  | true=>
    exact newAt (q:=.list xs) R ha hk ⟨_,hl⟩ (fun hj=>⟨vs,n,hl,RdL.mono hj _ r⟩) hq
  | false=>
    refine ⟨.d (.list xs),st,g,Go.grow R _ hk,?_,hq⟩
    simp only [Rd]
    refine ⟨_,vs,n,rfl,hide_some.mpr ⟨fun q=>?_,hl⟩,RdL.mono (R.tj hk) _ r⟩
    refine kE (R.live _ q) fun o e=>?_
    rw [ha] at e; cases e
noncomputable def listO (ow:Bool):List V→Tr V:=fun ys Q st=>on1 ys fun y=>onO (pk y st) (pc (fun _=>False) (fun _=>False) (fun xs=>xs.length≤2^20∧newlT ow xs Q st) (fun xs=>xs.length≤2^20∧newlT ow xs Q st) fun _=>False)
theorem listO_ok {lv:Nat} (ow:Bool):SemF G lv (.type "list") 1 (listO ow):=fun c A s g st Q ys vs r R hn hv hq=>by
  refine kEA (on1_ok hq) fun y z1 hq=>?_
  subst z1
  refine kEA (one_of hv) fun v z2 hv1=>kEA (onO_ok hq) fun x e hq=>pc_ok hq (fun _ _ h=>h.elim) (fun _ _ h=>h.elim) (fun xs z3 hq=>?_) (fun xs z3 hq=>?_) fun _ _ h=>h.elim
  · subst z2 z3
    obtain ⟨a,us,n,rfl,h1,h2⟩:=pk_list R hv1 e
    have hl:us.size=xs.length:=RdL.length _ h2
    exact call_list_seq a (T := "list") (.inl rfl) h1 rfl rfl (fun h' c' hk hg=>newl_at ow R (get?_size _) hk hg h2 hq.2) (le_line (hl▸hq.1))
  · subst z2 z3
    obtain ⟨a,us,n,rfl,h1,h2⟩:=pk_tuple R hv1 e
    have hl:us.size=xs.length:=RdL.length _ h2
    exact call_list_seq a (T := "tuple") (.inr rfl) h1 rfl rfl (fun h' c' hk hg=>newl_at ow R (get?_size _) hk hg h2 hq.2) (le_line (hl▸hq.1))
noncomputable def tupO:List V→Tr V:=fun ys Q st=>on1 ys fun y=>onPL (pk y st) fun xs=>xs.length≤2^20∧Q (.d (.tuple xs)) st
theorem tupO_ok {lv:Nat}:SemF G lv (.type "tuple") 1 tupO:=fun c A s g st Q ys vs r R hn hv hq=>by
  refine kEA (on1_ok hq) fun y z1 hq=>?_
  subst z1
  refine kEA (one_of hv) fun v z2 hv1=>kEA (onPL_ok hq) fun xs e hq=>?_
  subst z2
  refine kEEEAA (pk_list R hv1 e) fun a us n z12 h1 h2=>?_
  subst z12
  have hl:us.size=xs.length:=RdL.length _ h2
  refine call_tuple_list ⟨_,h1,rfl,n,rfl⟩ (fun h' hk=>?_) (le_line (hl▸hq.1))
  have go:=Go.grow R s.toks hk
  exact PV.pre go (newTup_ok go.rs (RdL.mono (R.tj hk) _ h2) hq.2)
theorem not_sys {c:Cx} {g:Gh} {st:St} {h:Heap} (R:RS G c g st h):(h.objs.size==sysModules)=false:=by
  refine kEEEA G.g fun o _ _ e _=>?_
  have:=Heap.lt_size (hide_sub _ _ (R.base _ _ e))
  have h2:sysModules≤mainGlobals:=by decide
  have:h.objs.size≠sysModules:=Nat.ne_of_gt (Nat.lt_of_le_of_lt h2 this)
  simpa using this
noncomputable def dictD:List V→Tr V:=fun ys Q st=>on1 ys fun y=>onPK (pk y st) fun kvs=>kvs.length≤2^20∧Q (.d (.dict kvs)) st
theorem dictD_ok {lv:Nat}:SemF G lv (.type "dict") 1 dictD:=fun c A s g st Q ys vs r R hn hv hq=>by
  refine kEA (on1_ok hq) fun y z1 hq=>?_
  subst z1
  refine kEA (one_of hv) fun v z2 hv1=>kEA (onPK_ok hq) fun kvs e hq=>kEEAAA (pk_dict R hv1 e) fun a ks z25 h0 hd kv=>?_
  subst z2 z25
  refine kt_call_dict h0 hd (le_line (kv.length▸hq.1)) fun h' hd' hs=>?_
  have hk:∀ b o,s.heap.get? b=some o→h'.get? b=some o:=fun b o e=>(hs.2 b (fun q=>nomatch (q▸e).symm.trans (get?_size s.heap))).trans (push_keep _ _ b o e)
  refine kEEEAAAAA (cr_dict (not_sys R) hd' (kv.mono ((R.grow hk).2.still R.sub))) fun o es ep k1 k2 k3 k4 k5 k6=>?_
  exact ⟨.d (.dict kvs),st,g,Go.grow R _ hk,⟨_,o,es,ep,rfl,k1,hide_some.mpr ⟨R.nsize,k2⟩,k3,k4,k5,k6⟩,hq.2⟩
noncomputable def nilD (tk:Bool):Tr V:=fun Q st=>Q (.own st.μ.length) ⟨st.ρ,st.μ++[if tk then .tdict [] else .dict []]⟩
theorem SemE.dict0 {pos:Pos} (tk:Bool):SemE G K (.Dict [] [] pos) (nilD tk):=fun c A s g st Q a R hq=>by
  refine wpAny_Dict_empty ?_
  have hnew:=get?_size s.heap
  have hne:=not_sys R
  have hg:=Heap.get?_push_size s.heap (o:={ cls:=.type "dict",data:=.dict #[] }) rfl
  refine newAt (tk:=s.toks) R hnew (push_keep _ _) ⟨_,hg⟩ (fun hj=>?_) hq
  cases tk with
  | true=>exact ⟨hne,[],Heap.DictOfH.new s.heap,.nil⟩
  | false=>exact cr_dict hne (Heap.DictOf.new s.heap) .nil
noncomputable def get1:V→List V→Tr V:=fun d ys Q st=>onPK (pk d st) fun kvs=>on1 ys fun y=>onD y fun x=>∃ q,kyOf x=some q∧Q (match dlook kvs q with | some z=>.d z | none=>.d .none) st
noncomputable def get2:V→List V→Tr V:=fun d ys Q st=>onPK (pk d st) fun kvs=>on2 ys fun x y=>onD x fun x=>∃ q,kyOf x=some q∧Q (match dlook kvs q with | some z=>.d z | none=>y) st
noncomputable def dmK2 (y:V) (f:V→List V→Tr V) (R:QV):List V→St→Prop:=fun ys st2=>f y ys R st2
noncomputable def dmK (ts:List (Tr V)) (f:V→List V→Tr V) (R:QV):QV:=fun y st1=>onPK (pk y st1) fun _=>evsT ts (dmK2 y f R) st1
noncomputable def dmT (o:Tr V) (ts:List (Tr V)) (f:V→List V→Tr V):Tr V:=fun Q st=>o (dmK ts f Q) st
noncomputable def SemD (G:Gl) (lv:Nat) (n:Nat) (f:V→List V→Tr V):Prop:=
  ∀ (c:Cx) (A:Around) (s:Shared) (g:Gh) (st:St) (Q:V→St→Prop) (y:V) (v:Value) (ys:List V) (vs:List Value),Room A lv→RS G c g st s.heap→VR G s.heap g y v→ys.length=n→VRs G s.heap g ys vs→f y ys Q st →
    wpAny (model G.prog G.w) A (call (.builtin "dict.get") (v :: vs)) (PV G c s g Q) No s
theorem get1_ok {lv:Nat}:SemD G lv 1 get1:=fun c A s g st Q y v ys vs r R hy hn hv hq=>by
  refine kEA (onPK_ok hq) fun kvs e hq=>kEA (on1_ok hq) fun y2 z1 hq=>kEA (onD_ok hq) fun x z2 hq=>kEA hq fun q hq1 hq2=>?_
  subst z1 z2
  refine kEA (one_of hv) fun u z27 hv1=>kEEAAA (pk_dict R hy e) fun a ks z29 h0 hd kv=>?_
  subst z27 z29
  have hk:=ky_is (prog:=G.prog) hq1 hv1
  refine call_meetsIn PySem.F.slot_dict_get hd.typeIs PySem.F.entry_dict_get (PySem.F.args_dict_get_2 _ _) (meets_dict_get (ky G.prog G.w) a hk h0) ⟨_,hd.mapOf,?_⟩
  refine Or.elim (kv_look kv q) (fun z30=>?_) (fun z31=>?_)
  · refine kA z30 fun e1 e2=>?_
    rw [e1] at hq2; rw [e2]
    exact ⟨_,st,g,Go.tk R _,vr_none,hq2⟩
  · refine kEEAA z31 fun x' v' e1 e2 e3=>?_
    rw [e1] at hq2; rw [e2]
    exact ⟨.d x',st,g,Go.tk R _,e3,hq2⟩
theorem get2_ok {lv:Nat}:SemD G lv 2 get2:=fun c A s g st Q y v ys vs r R hy hn hv hq=>by
  refine kEA (onPK_ok hq) fun kvs e hq=>kEEA (on2_ok hq) fun x0 y2 z1 hq=>kEA (onD_ok hq) fun x z2 hq=>kEA hq fun q hq1 hq2=>?_
  subst z1 z2
  refine kEEAA (two_of hv) fun u u2 z33 hv1 hv2=>kEEAAA (pk_dict R hy e) fun a ks z35 h0 hd kv=>?_
  subst z33 z35
  have hk:=ky_is (prog:=G.prog) hq1 hv1
  refine call_meetsIn PySem.F.slot_dict_get hd.typeIs PySem.F.entry_dict_get (PySem.F.args_dict_get_3 _ _ _) (meets_dict_get_default (ky G.prog G.w) a hk h0 u2) ⟨_,hd.mapOf,?_⟩
  refine Or.elim (kv_look kv q) (fun z36=>?_) (fun z37=>?_)
  · refine kA z36 fun e1 e2=>?_
    rw [e1] at hq2; rw [e2]
    exact ⟨_,st,g,Go.tk R _,hv2,hq2⟩
  · refine kEEAA z37 fun x' v' e1 e2 e3=>?_
    rw [e1] at hq2; rw [e2]
    exact ⟨.d x',st,g,Go.tk R _,e3,hq2⟩
theorem SemE.dm {o:Expr} {apos pos:Pos} {es:List Expr} {t:Tr V} {ts:List (Tr V)} {f:V→List V→Tr V} (h1:SemE G K o t) (h2:SemEs G K es (evsT ts)) (hn:NoStar es)
    (hb:∀ env,attributeBase o "get" env (eval o env)=eval o env) (hl:(apos.endLine==pos.line)=true) (hz:es.length<29) (hf:SemD G K.lv es.length f) :
    SemE G K (.Call (.Attribute o "get" apos) es [] pos) (dmT t ts f):=fun c A s g st Q at' R hq=>by
  refine wpAny_Call_method_lateS (hb _) ?_ hl (wpAny_mono (h1 c A s g st _ at' R hq) (fun v s1 ⟨y,st1,g1,go1,v1,hq1⟩=>?_) fun _ _ e=>e)
  · have:=noStar_any hn c.env pos
    rw [List.any_eq_false] at this
    simp only [Bool.and_eq_true,List.all_eq_true,decide_eq_true_eq]
    exact ⟨⟨fun x hx=>by simpa using this x hx,fun x hx=>absurd hx List.not_mem_nil⟩,by simp; exact Nat.le_succ_of_le (by assumption)⟩
  · refine kEA (onPK_ok hq1) fun kvs e hq1=>kEEAAA (pk_dict go1.rs v1 e) fun a ks z39 h0 hd kv=>?_
    subst z39
    refine ⟨"dict", "dict.get",PySem.F.plainAttrs_dict,PySem.F.slot_dict_get,PySem.F.type_dict_get,hd.typeIs,hd.mapOf.noDict,?_⟩
    refine Calls.callWith_builtin (noStar_any hn _ _) (wpAny_mono (args_ok h2 hn at' go1.rs hq1) (fun ar s2 ⟨hkw,ys,st2,g2,go2,v2,hlen,hq2⟩=>?_) fun _ _ e=>e)
    rw [hkw]
    exact wpAny_mono (hf c A s2 g2 st2 Q y _ ys ar.pos at'.room go2.rs (VR.go go2 go1.rs y v1) hlen v2 hq2) (fun _ _ h=>PV.pre (go1.trans go2) h) fun _ _ e=>e
end
section
variable {G:Gl} {K:Sk}
section
variable {c:Cx} {A:Around} {s s':Shared} {g g':Gh} {st st':St} {h h':Heap}
theorem RS.turnX (x:RS G c g st h) (X:Addr→Prop) (hX:∀ a,X a→a∈g.M∧a≠c.env.locals∧∀ n,c.env.cells.lookup n≠some a) (hk:∀ b o,¬ X b→h.get? b=some o→h'.get? b=some o) (hl:∀ a,X a→∃ o,h'.get? a=some o) {μ':List Cell}
    (hlen:μ'.length=st.μ.length) (hal:∀ (k:Nat) (q':Cell),μ'[k]?=some q'→q'.alive=true→∃ q,st.μ[k]?=some q∧q.alive=true)
    (hc:∀ (k:Nat) (q':Cell) (a:Addr),μ'[k]?=some q'→q'.alive=true→g.as[k]?=some a→(X a→CR G h' g q' a)∧(¬ X a→st.μ[k]?=some q')) :
    RS G c g ⟨st.ρ,μ'⟩ h'∧Le h g h' g:=by
  have hj:∀ b o,(g.J h).get? b=some o→(g.J h').get? b=some o:=fun b o e=>by
    refine kA (hide_some.mp e) fun h1 h2=>?_
    exact hide_some.mpr ⟨h1,hk b o (fun q=>h1 (x.sub b (hX b q).1)) h2⟩
  have hid:∀ (k:Nat) (a:Addr),g.as[k]?=some a→g.as[k]?=some a:=fun _ _ e=>e
  refine kEEAA x.names fun m cm h1 h2 h3=>?_
  refine ⟨⟨fun a o e=>hj a o (x.base a o e),x.sub,fun a ha=>?_,x.loc,⟨m,cm,h1.at' fun o e=>hk _ o (fun q=>(hX _ q).2.1 rfl) e,fun n b e=>Heap.IsCell.at' (h2 n b e) fun o e'=>hk b o (fun q=>(hX b q).2.2 n e) e',fun j z y h4 h5 h6=>?_⟩,
    fun n b e=>?_,x.cellI,x.cellW,x.len,by simpa [hlen] using x.len',fun k q a e1 e2 e3=>?_,fun i j p p' b e1 e2 e3 e4 e5 e6=>?_⟩,
    ⟨fun b o hb e=>hk b o (fun q=>hb (hX b q).1) e,fun _ _ _ _=>Iff.rfl,fun b hb=>.inl hb,List.prefix_refl _⟩⟩
  · by_cases q:X a
    · exact hl a q
    · refine kE (x.live a ha) fun o e=>?_
      exact ⟨o,hk a o q e⟩
  · refine kEA (h3 j z y h4 h5 h6) fun v h7 h8=>?_
    exact ⟨v,h7,VR.of hj hid _ h8⟩
  · refine kAA (x.cellO n b e) fun e1 e2 e3=>?_
    exact ⟨e1,e2,fun j p e4 e5=>kEA (hal j p e4 e5) fun q e6 e7=>e3 j q e6 e7⟩
  · refine kEA (hal k q e1 e2) fun q0 e4 e5=>?_
    refine kAA (x.cells k q0 a e4 e5 e3) fun h4 h5 h6=>?_
    refine ⟨h4,h5,?_⟩
    refine kA (hc k q a e1 e2 e3) fun c1 c2=>?_
    by_cases hx:X a
    · exact c1 hx
    · have:q0=q:=Option.some.inj (e4.symm.trans (c2 hx))
      subst this
      exact CR.of hj hid (fun o e=>hk a o hx e) h6
  · refine kEA (hal i p e1 e2) fun r r1 r2=>?_
    refine kEA (hal j p' e3 e4) fun r' r3 r4=>?_
    exact x.inj i j r r' b r1 r2 r3 r4 e5 e6
end
noncomputable def V.still:V→Prop
  | .d _=>True
  | .ob _=>True
  | _=>False
theorem VR.still {h h':Heap} {g g':Gh} (hk:∀ a o,(g.J h).get? a=some o→(g'.J h').get? a=some o) {y:V} {v:Value} (hs:y.still) (e:VR G h g y v):VR G h' g' y v:=by
  cases y with
  | d x=>exact Rd.mono hk _ e
  | ob fs=>obtain ⟨d,m,⟨a,o,e1,e2,r⟩,e7,e8⟩:=e; exact ⟨d,m,⟨a,o,e1,hk _ _ e2,r⟩,e7.keeps hk,fun y p hp=>kEA (e8 y p hp) fun u h1 h2=>⟨u,h1,Rd.mono hk p h2⟩⟩
  | _=>exact hs.elim
noncomputable def Cell.flat:Cell→Bool
  | .list _=>true
  | .dict _=>true
  | .tdict _=>true
  | _=>false
theorem Cell.flat_alive {q:Cell} (h:q.flat=true):q.alive=true:=by cases q<;>simp_all [Cell.flat,Cell.alive]
theorem CR.flat {h h':Heap} {g g':Gh} (hk:∀ a o,(g.J h).get? a=some o→(g'.J h').get? a=some o) {q:Cell} {a:Addr} (hq:q.flat=true) (ha:∀ o,h.get? a=some o→h'.get? a=some o) (x:CR G h g q a):CR G h' g' q a:=by
  cases q with
  | list xs=>
    refine kEEA x fun vs n hl r=>?_
    exact ⟨vs,n,ha _ hl,RdL.mono hk _ r⟩
  | dict kvs=>
    refine kEEEAAAAA x fun o es ep h0 e h1 h2 h3 h4=>?_
    exact ⟨o,es,ep,h0,ha _ e,h1,h2,RdE.mono hk _ h3,h4⟩
  | tdict kvs=>
    refine kAEA x fun h0 xs z2 t=>?_
    refine kEEEAAAAA z2 fun o es ep e h1 h2 h3 h4 h5=>?_
    have t':=t.mono hk
    refine ⟨h0,xs,⟨o,es,ep,ha _ e,h1,h2,h3,fun y hy=>?_,h5⟩,t'⟩
    refine kEEEA (t'.keys y hy) fun o' items n e' r=>?_
    exact ⟨o',items,n,hide_sub _ _ e',r⟩
  | _=>cases hq
structure FnAt (G:Gl) (x:Str) (a:Addr) (fd:FuncData):Prop where
  nm:G.mg x=some (.ref a)
  ob:∃ o,G.h₀.get? a=some o∧o.data = .func fd
  code:G.h₀.CodeRec fd.code fd.qualname
  gl:fd.globals=mainGlobals
  bl:fd.builtins=builtinsNs
  clo:fd.closure=[]
theorem SemE.callF {x:Str} {p pos:Pos} {es:List Expr} {ts:List (Tr V)} {a₀:Addr} {fd:FuncData} {o:List V→Tr V} (h:SemEs G K es (evsT ts)) (hn:NoStar es) (hk:K.sc.names.lookup x=some .globalImplicit) (F:FnAt G x a₀ fd) (hd:(x==("__debug__" : Str))=false)
    (ho:SemF G K.lv (.ref a₀) es.length o):SemE G K (.Call (.Name x p) es [] pos) (fnT ts o):=fun c A s g st Q a R hq=>by
  have hkd:c.env.kindOf x=some .globalImplicit:=by simp only [kind_sc a,hk]
  refine kEA F.ob fun ob hob hdat=>?_
  refine Call_ (Calls.Name_function_global a.ok.fn hkd (Calls.loadGlobal_global (env:=c.env) (by rw [a.ok.gl]; exact G.g.keeps fun b o e=>hide_sub _ _ (R.base b o e)) F.nm ?_) hd)
  refine Calls.callWith_function (wpAny_mono (args_ok h hn a R hq) (fun ar s2 ⟨hkw,ys,st2,g2,go2,v2,hlen,hq2⟩=>⟨⟨hide_sub _ _ (go2.rs.base _ _ hob),hdat⟩,?_⟩) fun _ _ e=>e)
  rw [hkw]
  exact wpAny_mono (ho c A s2 g2 st2 Q ys ar.pos a.room go2.rs hlen v2 hq2) (fun _ _ h=>PV.pre go2 h) fun _ _ e=>e
structure Shape (sc:Scope) (names slots:List Str):Prop where
  kind:sc.kind = .function
  co:sc.isCoroutine=false
  gen:sc.isGenerator=false
  nd:slots.Nodup
  pre:names <+: slots
  kd:∀ x∈slots,sc.names.lookup x=some .local∨(sc.names.lookup x=some .cell∧∀ L,((cellsFrom (L+1) sc.names []).lookup x).isSome=true)
theorem bindL_not (k:Str→Option NameKind):∀ (bs:List (Str×Value)) (m:Str→Option Value) (x:Str),(∀ b∈bs,b.1≠x)→bindL k bs m x=m x:=by
  intro xs9
  induction xs9 with
  | nil=>
    intro m x _
    exact rfl
  | cons p9 r ih=>
    obtain ⟨n,v⟩:=p9
    intro m x h
    simp only [bindL,ih _ x fun b hb=>h b (List.mem_cons_of_mem _ hb)]
    have:x≠n:=fun q=>h (n,v) List.mem_cons_self q.symm
    split<;>simp [this]
theorem bindC_not (k:Str→Option NameKind):∀ (bs:List (Str×Value)) (m:Str→Option Value) (x:Str),(∀ b∈bs,b.1≠x)→bindC k bs m x=m x:=by
  intro xs9
  induction xs9 with
  | nil=>
    intro m x _
    exact rfl
  | cons p9 r ih=>
    obtain ⟨n,v⟩:=p9
    intro m x h
    simp only [bindC,ih _ x fun b hb=>h b (List.mem_cons_of_mem _ hb)]
    have:x≠n:=fun q=>h (n,v) List.mem_cons_self q.symm
    split<;>simp [this]
theorem mem_zip_names {names:List Str} {vs:List Value} {b:Str×Value} (h:b∈names.zip vs):b.1∈names:=(List.of_mem_zip h).1
theorem bind_at (k:Str→Option NameKind):∀ (names:List Str) (vs:List Value) (m cm:Str→Option Value) (i:Nat) (x:Str) (v:Value),names.Nodup→names[i]?=some x→vs[i]?=some v →
    (if k x=some .local then bindL k (names.zip vs) m x else bindC k (names.zip vs) cm x)=some v
  | [],vs,m,cm,i,x,v,_,h,_=>by simp at h
  | n :: ns,[],m,cm,i,x,v,_,_,h=>by simp at h
  | n :: ns,u :: us,m,cm,0,x,v,nd,h1,h2=>by
    simp at h1 h2
    subst h1; subst h2
    have hnot:∀ b∈ns.zip us,b.1≠n:=fun b hb q=>(List.nodup_cons.mp nd).1 (q▸mem_zip_names hb)
    simp only [List.zip_cons_cons,bindL,bindC,bindL_not k _ _ n hnot,bindC_not k _ _ n hnot]
    by_cases hk:k n=some .local<;>simp [hk]
  | n :: ns,u :: us,m,cm,i+1,x,v,nd,h1,h2=>by
    exact bind_at k ns us _ _ i x v (List.nodup_cons.mp nd).2 (by simpa using h1) (by simpa using h2)
inductive RV where
  | d (x:PyData)
  | new (xs:List PyData)
noncomputable def cellsAt (st:St) (ks:List Nat):List Cell:=ks.map fun k=>st.μ.getD k .dead
noncomputable def setCs (st:St):List Nat→List Cell→St
  | k :: ks,q :: qs=>setCs (setC st k q) ks qs
  | _,_=>st
noncomputable def flV:Fl→V
  | .ret y=>y
  | _=>.d .none
noncomputable def finP (m:Nat) (r:RV) (qs':List Cell):Fl→St→Prop:=fun f st=>
  match r with
  | .d x=>asD (flV f) (fun x' st2=>x'=x∧st2.μ.take m=qs') st
  | .new xs=>∃ j,f = .ret (.own j)∧m≤j∧st.μ[j]?=some (.list xs)∧st.μ.take m=qs'
noncomputable def st0 (ks:Nat) (ds:List V) (e u:Nat) (qs:List Cell):St:=⟨(List.range ks).map .own++ds++List.replicate e (.d .none)++List.replicate u .u,qs⟩
end
section
variable {G:Gl} {K:Sk}
theorem cellsAt_get {st:St} {ks:List Nat} {i:Nat} {q:Cell} (h:(cellsAt st ks)[i]?=some q) (hq:q.alive=true):∃ k,ks[i]?=some k∧st.μ[k]?=some q:=by
  unfold cellsAt at h
  rw [List.getElem?_map,Option.map_eq_some_iff] at h
  obtain ⟨k,h1,h2⟩:=h
  refine ⟨k,h1,?_⟩
  rw [List.getD_eq_getElem?_getD] at h2
  cases e:st.μ[k]? with
  | none=>rw [e] at h2; subst h2; cases hq
  | some q'=>rw [e] at h2; simp at h2; exact congrArg _ (h2)
theorem rel_app {α β:Type} {P:α→β→Prop} {a b:List α} {a' b':List β} (hl:a.length=a'.length) (h1:∀ (i:Nat) (y:α),a[i]?=some y→∃ v,a'[i]?=some v∧P y v)
    (h2:∀ (i:Nat) (y:α),b[i]?=some y→∃ v,b'[i]?=some v∧P y v) (i:Nat) (y:α) (h:(a++b)[i]?=some y):∃ v,(a'++b')[i]?=some v∧P y v:=by
  by_cases hi:i<a.length
  · rw [List.getElem?_append_left hi] at h
    rw [List.getElem?_append_left (hl▸hi)]
    exact h1 i y h
  · have hi:=Nat.le_of_not_lt hi
    rw [List.getElem?_append_right hi] at h
    simp only [List.getElem?_append_right (hl▸hi),← hl]
    exact h2 _ y h
theorem VRs.at {h:Heap} {g:Gh}:∀ (ys:List V) {vs:List Value},VRs G h g ys vs→∀ (i:Nat) (y:V),ys[i]?=some y→∃ v,vs[i]?=some v∧VR G h g y v∧y∈ys:=by
  intro xs9
  induction xs9 with
  | nil=>
    intro _ _ _ _ e
    cases e
  | cons z zs ih=>
    rintro _ ⟨v,r,e1,a,b⟩ i y e
    subst e1
    cases i with
    | zero=>cases e; exact ⟨v,rfl,a,List.mem_cons_self⟩
    | succ i=>have ⟨u,u1,u2,u3⟩:=ih b i y e; exact ⟨u,u1,u2,List.mem_cons_of_mem _ u3⟩
theorem st0_vals {P:V→Value→Prop} {n e u:Nat} {ds:List V} {qs:List Cell} {ovs dvs:List Value} (hl:ovs.length=n) (hd:ds.length=dvs.length) (h1:∀ (i:Nat),i<n→∃ v,ovs[i]?=some v∧P (.own i) v)
    (h2:∀ (i:Nat) (y:V),ds[i]?=some y→∃ v,dvs[i]?=some v∧P y v) (h3:P (.d .none) .none) (i:Nat) (y:V) (hi:(st0 n ds e u qs).ρ[i]?=some y) (hy:y≠.u):∃ v,(ovs++dvs++List.replicate e Value.none)[i]?=some v∧P y v:=by
  have ho:∀ (i:Nat) (y:V),((List.range n).map V.own)[i]?=some y→∃ v,ovs[i]?=some v∧P y v:=fun i y h=>by
    rw [List.getElem?_map] at h
    refine kEA (Option.map_eq_some_iff.mp h) fun k hk z2=>?_
    subst z2
    obtain ⟨hi,rfl⟩:=List.getElem?_eq_some_iff.mp hk
    rw [List.getElem_range]
    exact h1 i (by simpa using hi)
  have hn:∀ (i:Nat) (y:V),(List.replicate e (V.d .none))[i]?=some y→∃ v,(List.replicate e Value.none)[i]?=some v∧P y v:=fun i y h=>by
    rw [List.getElem?_replicate] at h ⊢
    split at h
    · rename_i q; cases h; exact ⟨_,if_pos q,h3⟩
    · cases h
  have hall:=rel_app (by simp only [List.length_append,List.length_append,List.length_map,List.length_range,hl,hd]) (rel_app (by simp only [List.length_map,List.length_range,hl]) ho h2) hn
  by_cases q:i<((List.range n).map V.own++ds++List.replicate e (V.d .none)).length
  · exact hall i y (by rw [← List.getElem?_append_left q]; exact hi)
  · have hi:((List.range n).map V.own++ds++List.replicate e (V.d .none)++List.replicate u .u)[i]?=some y:=hi
    rw [List.getElem?_append_right (Nat.le_of_not_lt q),List.getElem?_replicate] at hi
    split at hi
    · cases hi; exact absurd rfl hy
    · cases hi
theorem enter {c:Cx} {A:Around} {s s1:Shared} {g:Gh} {st:St} {fd:FuncData} {a₀:Addr} {names slots:List Str} {ks:List Nat} {ds:List V} {e:Nat} {ovs dvs:List Value} {L:Addr} {oa:List Addr}
    (sh:Shape fd.scope names slots) (R:RS G c g st s.heap) (hoa:oa.length=ks.length) (hga:∀ i k:Nat,ks[i]?=some k→g.as[k]?=oa[i]?) (hnd:ks.Nodup)
    (hflat:∀ (k:Nat),k∈ks→∃ q,st.μ[k]?=some q∧q.flat=true) (hov:ovs=oa.map .ref) (hds:VRs G s.heap g ds dvs) (hst:∀ y∈ds,y.still)
    (hlen:names.length=ks.length+ds.length+e)
    (X:InCallC s L (bindL (callEnvC fd L a₀).kindOf (names.zip (ovs++dvs++List.replicate e .none)) fun _=>none) (cellsFrom (L+1) fd.scope.names []) (bindC (callEnvC fd L a₀).kindOf (names.zip (ovs++dvs++List.replicate e .none)) fun _=>none) s1) :
    ∃ cas:List Addr,(∀ b∈cas,L<b)∧RS G ⟨callEnvC fd L a₀,slots,true⟩ ⟨(L :: cas)++g.O,(L :: cas)++oa,oa⟩ (st0 ks.length ds e (slots.length - names.length) (cellsAt st ks)) s1.heap:=by
  have hLs:s.heap.objs.size≤L:=X.toInCall.fresh
  have keep:=X.toInCall.keep
  let cs:=cellsFrom (L+1) fd.scope.names []
  let cas:=(cs.map (·.1)).filterMap fun n=>cs.lookup n
  have hcas:∀ b,b∈cas↔∃ n,cs.lookup n=some b:=fun b=>by
    constructor
    · intro hb
      refine kEA (List.mem_filterMap.mp hb) fun n _ h2=>?_
      exact ⟨n,h2⟩
    · rintro ⟨n,hn⟩
      exact List.mem_filterMap.mpr ⟨n,List.mem_map.mpr ⟨(n,b),mem_of_lookup hn,rfl⟩,hn⟩
  have habove:∀ b∈cas,L<b:=fun b hb=>kE ((hcas b).mp hb) fun n hn=>X.above n b (mem_of_lookup hn)
  have hlt:∀ b o,s.heap.get? b=some o→b<L:=fun b o e=>Nat.lt_of_lt_of_le (Heap.lt_size e) hLs
  have hoam:∀ b∈oa,∃ (i k:Nat) (q:Cell),ks[i]?=some k∧g.as[k]?=some b∧st.μ[k]?=some q∧q.flat=true∧oa[i]?=some b:=fun b hb=>by
    refine kE (List.getElem?_of_mem hb) fun i hi=>?_
    have hi':i<ks.length:=by simp only [← hoa]; exact (List.getElem?_eq_some_iff.mp hi).1
    have hk:ks[i]?=some ks[i]:=List.getElem?_eq_getElem hi'
    refine kEA (hflat ks[i] (List.getElem_mem hi')) fun q h1 h2=>?_
    exact ⟨i,ks[i],q,hk,(hga i _ hk).trans hi,h1,h2,hi⟩
  have hoaM:∀ b∈oa,b∈g.M:=fun b hb=>by
    refine kEEEAAAA (hoam b hb) fun i k q h1 h2 h3 h4 _=>?_
    exact (R.cells k q b h3 (Cell.flat_alive h4) h2).1
  have hoaL:∀ b∈oa,b<L:=fun b hb=>kE (R.live b (R.sub b (hoaM b hb))) fun o e=>hlt b o e
  have hj:∀ b o,(g.J s.heap).get? b=some o→(Gh.J ⟨(L :: cas)++g.O,(L :: cas)++oa,oa⟩ s1.heap).get? b=some o:=fun b o e=>by
    refine kA (hide_some.mp e) fun h1 h2=>?_
    refine hide_some.mpr ⟨fun q=>?_,keep b o h2⟩
    have:=hlt b o h2
    simp only [List.cons_append,List.mem_cons,List.mem_append] at q
    rcases q with rfl | q | q
    · exact Nat.lt_irrefl _ this
    · exact Nat.lt_asymm this (habove b q)
    · exact h1 q
  have hovl:ovs.length=ks.length:=by simp only [hov,List.length_map,hoa]
  have hdvl:dvs.length=ds.length:=VRs.length ds hds
  have hdat:∀ (i:Nat) (y:V),(st0 ks.length ds e (slots.length - names.length) (cellsAt st ks)).ρ[i]?=some y→y≠.u→∃ v,(ovs++dvs++List.replicate e Value.none)[i]?=some v∧VR G s1.heap ⟨(L :: cas)++g.O,(L :: cas)++oa,oa⟩ y v:=by
    refine st0_vals hovl hdvl.symm (fun i hi=>?_) (fun i y h=>?_) vr_none
    · have ha:oa[i]?=some (oa[i]'(hoa.symm▸hi)):=List.getElem?_eq_getElem _
      exact ⟨.ref (oa[i]'(hoa.symm▸hi)),by simp only [hov,List.getElem?_map,ha]; rfl,_,ha,rfl⟩
    · have ⟨v,v1,v2,v3⟩:=VRs.at ds hds i y h
      exact ⟨v,v1,VR.still hj (hst y v3) v2⟩
  have hnn:names.Nodup:=by
    refine kE sh.pre fun t ht=>?_
    have:=sh.nd
    rw [← ht] at this
    exact (List.nodup_append.mp this).1
  have hpos:∀ (i:Nat) (x:Str),slots[i]?=some x→i<names.length→names[i]?=some x:=fun i x hi hl=>by
    refine kE sh.pre fun t ht=>?_
    rw [← ht,List.getElem?_append_left hl] at hi
    exact hi
  have hsl:names.length≤slots.length:=sh.pre.length_le
  refine ⟨cas,habove,⟨fun b o e=>hj b o (R.base b o e),fun b hb=>?_,fun b hb=>?_,by simp [callEnvC,newEnv],⟨_,_,X.toInCall.ns,X.cell,fun i x y h4 h5 h6=>?_⟩,fun n b hn=>?_,fun n n' b h1 h2=>name_of_addr X.apart (mem_of_lookup h1) (mem_of_lookup h2),fun _ n b hn=>?_,?_,?_,fun k q b h1 h2 h3=>?_,fun i j p p' b h1 h2 h3 h4 h5 h6=>?_⟩⟩
  · simp only [List.cons_append,List.mem_cons,List.mem_append] at hb ⊢
    rcases hb with h | h | h
    · exact .inl h
    · exact .inr (.inl h)
    · exact .inr (.inr (R.sub b (hoaM b h)))
  · simp only [List.cons_append,List.mem_cons,List.mem_append] at hb
    rcases hb with rfl | h | h
    · obtain ⟨o,_,_,e,_⟩:=X.toInCall.ns; exact ⟨o,e⟩
    · obtain ⟨n,hn⟩:=(hcas b).mp h
      obtain ⟨o,e,_⟩:=X.cell n b hn; exact ⟨o,e⟩
    · obtain ⟨o,e⟩:=R.live b h; exact ⟨o,keep b o e⟩
  · refine kEA (hdat i y h5 h6) fun v v1 v2=>?_
    have hi:i<names.length:=by
      have:=(List.getElem?_eq_some_iff.mp v1).1
      simp only [List.length_append,List.length_replicate] at this
      lia
    exact ⟨v,bind_at _ names _ _ _ i x v hnn (hpos i x h4 hi) v1,v2⟩
  · have hb:b∈cas:=(hcas b).mpr ⟨n,hn⟩
    have hL:=habove b hb
    refine ⟨by simp [hb],Nat.ne_of_gt hL,fun k q h1 h2 h3=>?_⟩
    have:=hoaL b (List.mem_of_getElem? h3)
    exact Nat.lt_asymm this hL
  · simp [(hcas b).mpr ⟨n,hn⟩]
  · show _=slots.length
    simp only [st0,List.length_append,List.length_map,List.length_range,List.length_replicate]
    lia
  · simp [st0,cellsAt,hoa]
  · refine kEA (cellsAt_get h1 h2) fun kk e1 e2=>?_
    have h3':g.as[kk]?=some b:=(hga k kk e1).trans h3
    refine kAA (R.cells kk q b e2 h2 h3') fun h4 h5 h6=>?_
    have hb:b∈oa:=List.mem_of_getElem? h3
    refine ⟨by simp [hb],Nat.ne_of_lt (hoaL b hb),?_⟩
    refine kEA (hflat kk (List.mem_of_getElem? e1)) fun q' f1 f2=>?_
    have:q'=q:=Option.some.inj (f1.symm.trans e2)
    subst this
    exact CR.flat hj f2 (fun o e=>keep b o e) h6
  · refine kEA (cellsAt_get h1 h2) fun k1 e1 e2=>?_
    refine kEA (cellsAt_get h3 h4) fun k2 e3 e4=>?_
    have:=R.inj k1 k2 p p' b e2 h2 e4 h4 ((hga i k1 e1).trans h5) ((hga j k2 e3).trans h6)
    subst this
    exact nd_get hnd e1 e3
theorem setCs_ρ:∀ (ks:List Nat) (qs:List Cell) (st:St),(setCs st ks qs).ρ=st.ρ
  | [],qs,st=>by cases qs<;>rfl
  | k :: ks,[],st=>rfl
  | k :: ks,q :: qs,st=>setCs_ρ ks qs _
theorem setCs_len:∀ (ks:List Nat) (qs:List Cell) (st:St),(setCs st ks qs).μ.length=st.μ.length
  | [],qs,st=>by cases qs<;>rfl
  | k :: ks,[],st=>rfl
  | k :: ks,q :: qs,st=>by simp only [setCs,setCs_len ks qs]; simp [setC]
theorem setCs_not:∀ (ks:List Nat) (qs:List Cell) (st:St) (k:Nat),k∉ks→(setCs st ks qs).μ[k]?=st.μ[k]?
  | [],qs,st,k,_=>by cases qs<;>rfl
  | k' :: ks,[],st,k,_=>rfl
  | k' :: ks,q :: qs,st,k,h=>by
    rw [List.mem_cons,not_or] at h
    simp only [setCs,setCs_not ks qs _ k h.2]
    exact List.getElem?_set_ne (Ne.symm h.1)
theorem setCs_at:∀ (ks:List Nat) (qs:List Cell) (st:St) (i k:Nat),ks.Nodup→qs.length=ks.length→ks[i]?=some k→k<st.μ.length→(setCs st ks qs).μ[k]?=qs[i]?
  | [],qs,st,i,k,_,_,h,_=>by simp at h
  | k' :: ks,[],st,i,k,_,hl,_,_=>by simp at hl
  | k' :: ks,q :: qs,st,0,k,nd,hl,h,hk=>by
    simp at h; subst h
    simp only [setCs,setCs_not ks qs _ _ (List.nodup_cons.mp nd).1]
    simp [setC,hk]
  | k' :: ks,q :: qs,st,i+1,k,nd,hl,h,hk=>by
    have:=setCs_at ks qs (setC st k' q) i k (List.nodup_cons.mp nd).2 (by simpa using hl) (by simpa using h) (by simpa [setC] using hk)
    exact this
end
section
variable {G:Gl} {K:Sk}
section
variable {c c':Cx} {A:Around} {s s1 s2:Shared} {g g1:Gh} {st st1:St} {ks:List Nat} {oa cas:List Addr} {L:Addr} {O':List Addr}
structure Left (G:Gl) (c c':Cx) (s s1 s2:Shared) (g g1:Gh) (st st1:St) (ks:List Nat) (oa cas:List Addr) (L:Addr) (O':List Addr):Prop where
  R:RS G c g st s.heap
  R1:RS G c' g1 st1 s2.heap
  keep:∀ b o,s.heap.get? b=some o→s1.heap.get? b=some o
  new:∀ b,b=L∨b∈cas→s.heap.get? b=none
  le:Le s1.heap ⟨O',(L :: cas)++oa,oa⟩ s2.heap g1
  hO:∀ b∈g.O,b∈O'
  hoa:oa.length=ks.length
  hga:∀ i k:Nat,ks[i]?=some k→g.as[k]?=oa[i]?
  nd:ks.Nodup
  flat:∀ (k:Nat),k∈ks→∃ q,st.μ[k]?=some q∧q.flat=true
  flat':∀ i:Nat,i<ks.length→∃ q,st1.μ[i]?=some q∧q.flat=true
theorem Left.oaM (l:Left G c c' s s1 s2 g g1 st st1 ks oa cas L O') {b:Addr} (hb:b∈oa):∃ (i k:Nat) (q:Cell),ks[i]?=some k∧g.as[k]?=some b∧oa[i]?=some b∧st.μ[k]?=some q∧q.flat=true∧b∈g.M:=by
  refine kE (List.getElem?_of_mem hb) fun i hi=>?_
  have hi':i<ks.length:=by simp only [← l.hoa]; exact (List.getElem?_eq_some_iff.mp hi).1
  have hk:ks[i]?=some ks[i]:=List.getElem?_eq_getElem hi'
  refine kEA (l.flat ks[i] (List.getElem_mem hi')) fun q h1 h2=>?_
  have hg:=(l.hga i _ hk).trans hi
  exact ⟨i,ks[i],q,hk,hg,hi,h1,h2,(l.R.cells _ q b h1 (Cell.flat_alive h2) hg).1⟩
theorem Left.same (l:Left G c c' s s1 s2 g g1 st st1 ks oa cas L O'):∀ b o,b∉oa→s.heap.get? b=some o→s2.heap.get? b=some o:=fun b o hb e=>by
  refine l.le.same b o (fun q=>?_) (l.keep b o e)
  simp only [List.cons_append,List.mem_cons,List.mem_append] at q
  rcases q with q | q | q
  · rw [l.new b (.inl q)] at e; cases e
  · rw [l.new b (.inr q)] at e; cases e
  · exact hb q
theorem Left.cell (l:Left G c c' s s1 s2 g g1 st st1 ks oa cas L O') {i:Nat} {b:Addr} (hi:oa[i]?=some b):∃ q,st1.μ[i]?=some q∧q.flat=true∧g1.as[i]?=some b∧b∈g1.M∧CR G s2.heap g1 q b:=by
  have hlt:i<ks.length:=by simp only [← l.hoa]; exact (List.getElem?_eq_some_iff.mp hi).1
  refine kEA (l.flat' i hlt) fun q h1 h2=>?_
  have hg:g1.as[i]?=some b:=pre_get l.le.pre hi
  refine kAA (l.R1.cells i q b h1 (Cell.flat_alive h2) hg) fun h3 _ h4=>?_
  exact ⟨q,h1,h2,hg,h3,h4⟩
theorem Left.still (l:Left G c c' s s1 s2 g g1 st st1 ks oa cas L O'):∀ b,b∈g.O→b∈g1.O:=fun b hb=>by
  by_cases hm:b∈oa
  · obtain ⟨i,hi⟩:=List.getElem?_of_mem hm
    refine kEAAAA (l.cell hi) fun q _ _ _ h3 _=>?_
    exact l.R1.sub b h3
  · obtain ⟨o,e⟩:=l.R.live b hb
    have:b∉(L :: cas)++oa:=fun q=>by
      simp only [List.cons_append,List.mem_cons,List.mem_append] at q
      rcases q with q | q | q
      · rw [l.new b (.inl q)] at e; cases e
      · rw [l.new b (.inr q)] at e; cases e
      · exact hm q
    exact (l.le.hid b o this (l.keep b o e)).mpr (l.hO b hb)
theorem Left.J (l:Left G c c' s s1 s2 g g1 st st1 ks oa cas L O') {h':Heap} (hh:∀ b o,b∉g1.O→s2.heap.get? b=some o→h'.get? b=some o):∀ b o,(g1.J s2.heap).get? b=some o→(g.J h').get? b=some o:=fun b o e=>by
  refine kA (hide_some.mp e) fun h1 h2=>?_
  exact hide_some.mpr ⟨fun q=>h1 (l.still b q),hh b o h1 h2⟩
theorem Left.back (l:Left G c c' s s1 s2 g g1 st st1 ks oa cas L O') {h':Heap} (hh:∀ b o,b∉g1.O→s2.heap.get? b=some o→h'.get? b=some o) (ho:∀ b o,b∈oa→s2.heap.get? b=some o→h'.get? b=some o)
    (hs:∀ b o,b∉oa→s.heap.get? b=some o→h'.get? b=some o):RS G c g (setCs st ks (st1.μ.take ks.length)) h'∧Le s.heap g h' g:=by
  have hj:=l.J hh
  have hR:=l.R
  have hlen:(st1.μ.take ks.length).length=ks.length:=by
    rw [List.length_take,Nat.min_eq_left]
    simp only [← l.R1.len',← l.hoa]
    exact l.le.pre.length_le
  have hkl:∀ k∈ks,k<st.μ.length:=fun k hk=>kEA (l.flat k hk) fun q e _=>(List.getElem?_eq_some_iff.mp e).1
  have hset:∀ (i k:Nat),ks[i]?=some k→(setCs st ks (st1.μ.take ks.length)).μ[k]?=st1.μ[i]?:=fun i k hk=>by
    rw [setCs_at ks _ st i k l.nd hlen hk (hkl k (List.mem_of_getElem? hk)),List.getElem?_take,if_pos (List.getElem?_eq_some_iff.mp hk).1]
  have:=hR.turnX (h':=h') (·∈oa) (fun a ha=>by
      refine kEEEAAAAA (l.oaM ha) fun i k q h1 h2 h3 h4 h5 h6=>?_
      refine ⟨h6,(hR.cells k q a h4 (Cell.flat_alive h5) h2).2.1,fun n e=>(hR.cellO n a e).2.2 k q h4 (Cell.flat_alive h5) h2⟩)
    (fun b o hb e=>hs b o hb e) (fun a ha=>by
      refine kE (List.getElem?_of_mem ha) fun i hi=>?_
      refine kEAAAA (l.cell hi) fun q _ _ _ h3 _=>?_
      refine kE (l.R1.live a (l.R1.sub a h3)) fun o e=>?_
      exact ⟨o,ho a o ha e⟩)
    (μ':=(setCs st ks (st1.μ.take ks.length)).μ) (setCs_len _ _ _) (fun k q' h1 h2=>by
      by_cases hk:k∈ks
      · refine kEA (l.flat k hk) fun q e f=>?_
        exact ⟨q,e,Cell.flat_alive f⟩
      · rw [setCs_not ks _ st k hk] at h1
        exact ⟨q',h1,h2⟩)
    (fun k q' a h1 h2 h3=>by
      by_cases hk:k∈ks
      · refine kE (List.getElem?_of_mem hk) fun i hi=>?_
        rw [hset i k hi] at h1
        have hoai:oa[i]?=some a:=(l.hga i k hi).symm.trans h3
        refine kEAAAA (l.cell hoai) fun q e1 e2 e3 e4 e5=>?_
        have:q=q':=Option.some.inj (e1.symm.trans h1)
        subst this
        refine ⟨fun ha=>CR.flat hj e2 (fun o e=>ho a o ha e) e5,fun ha=>absurd (List.mem_of_getElem? hoai) ha⟩
      · rw [setCs_not ks _ st k hk] at h1
        refine ⟨fun ha=>?_,fun _=>h1⟩
        refine kEEEAAAAA (l.oaM ha) fun i k' q e1 e2 e3 e4 e5 e6=>?_
        have:=hR.inj k' k q q' a e4 (Cell.flat_alive e5) h1 h2 e2 h3
        subst this
        exact absurd (List.mem_of_getElem? e1) hk)
  refine kA this fun R' l'=>?_
  refine ⟨?_,l'⟩
  have e:setCs st ks (st1.μ.take ks.length)=⟨st.ρ,(setCs st ks (st1.μ.take ks.length)).μ⟩:=by rw [← setCs_ρ ks (st1.μ.take ks.length) st]
  rw [e]
  exact R'
end
noncomputable def splitOwn:Nat→List V→Option (List Nat×List V)
  | 0,zs=>some ([],zs)
  | m+1,.own k :: ys=>(splitOwn m ys).map fun p=>(k :: p.1,p.2)
  | _,_=>none
noncomputable def asS (y:V) (Q:V→St→Prop) (st:St):Prop:=match y with
  | .ob fs=>Q (.ob fs) st
  | y=>asD y (fun x st'=>Q (.d x) st') st
noncomputable def stills:List V→(List V→St→Prop)→St→Prop
  | [],Q,st=>Q [] st
  | y :: ys,Q,st=>asS y (fun x st'=>stills ys (fun xs st''=>Q (x :: xs) st'') st') st
noncomputable def resT (r:RV) (Q:V→St→Prop) (st:St):Prop:=match r with
  | .d x=>Q (.d x) st
  | .new xs=>Q (.own st.μ.length) ⟨st.ρ,st.μ++[.list xs]⟩
noncomputable abbrev FnR:=List Cell→List V→RV→List Cell→Prop
noncomputable def callO (m:Nat) (fn:FnR):List V→Tr V:=fun ys Q st=>match splitOwn m ys with
  | some (ks,zs)=>ks.Nodup∧stills zs (fun ds st1=>(∀ k∈ks,∃ q,st1.μ[k]?=some q∧q.flat=true)∧∃ r qs',fn (cellsAt st1 ks) ds r qs'∧resT r Q (setCs st1 ks qs')) st
  | none=>False
section
variable {c:Cx} {A:Around} {s s1 s2:Shared} {g g1:Gh} {st st1:St}
theorem asS_ok {y:V} {v:Value} {Q:V→St→Prop} (R:RS G c g st s.heap) (hv:VR G s.heap g y v) (hq:asS y Q st):∃ x st' g',Go G c s g s g' st'∧VR G s.heap g' x v∧x.still∧Q x st':=by
  have main:asD y (fun x st'=>Q (.d x) st') st→∃ x st' g',Go G c s g s g' st'∧VR G s.heap g' x v∧x.still∧Q x st':=fun h=>by
    refine kEEEAA (asD_ok R hv h) fun x st' g' go r q=>?_
    exact ⟨.d x,st',g',go,r,trivial,q⟩
  cases y with
  | ob fs=>exact ⟨.ob fs,st,g,Go.refl R,hv,trivial,hq⟩
  | _=>exact main hq
theorem stills_ok:∀ (ys:List V) {s:Shared} {g:Gh} {st:St} {vs:List Value} {Q:List V→St→Prop} (R:RS G c g st s.heap) (hv:VRs G s.heap g ys vs) (hq:stills ys Q st),
    ∃ xs st' g',Go G c s g s g' st'∧VRs G s.heap g' xs vs∧(∀ x∈xs,x.still)∧xs.length=ys.length∧Q xs st':=by
  intro xs9
  induction xs9 with
  | nil=>
    intro s g st vs Q R hv hq
    exact ⟨[],st,g,Go.refl R,hv,(fun _ h=>nomatch h),rfl,hq⟩
  | cons y ys ih=>
    rintro s g st vs Q R ⟨v,r,e,a,b⟩ hq
    refine kEEEAAA (asS_ok R a hq) fun x st1 g1 go1 r1 h1 hq1=>?_
    refine kEEEAAAA (ih go1.rs (VRs.go go1 R ys b) hq1) fun xs st2 g2 go2 r2 h2 e2 hq2=>?_
    refine ⟨x :: xs,st2,g2,go1.trans go2,⟨v,r,e,VR.go go2 go1.rs x r1,r2⟩,fun z hz=>?_,by simp [e2],hq2⟩
    rcases List.mem_cons.mp hz with rfl | hz
    · exact h1
    · exact h2 z hz
theorem splitOwn_ok:∀ {m:Nat} {ys:List V} {ks:List Nat} {zs:List V},splitOwn m ys=some (ks,zs)→ys=ks.map .own++zs∧ks.length=m
  | 0,ys,ks,zs,h=>by simp [splitOwn] at h; obtain ⟨rfl,rfl⟩:=h; exact ⟨rfl,rfl⟩
  | m+1,.own k :: ys,ks,zs,h=>by
    simp only [splitOwn,Option.map_eq_some_iff] at h
    obtain ⟨p,h1,h2⟩:=h
    refine kA (splitOwn_ok (ks:=p.1) (zs:=p.2) h1) fun e1 e2=>?_
    simp only [Prod.mk.injEq] at h2
    obtain ⟨rfl,rfl⟩:=h2
    exact ⟨by rw [e1]; rfl,by rw [← e2]; rfl⟩
  | m+1,[],ks,zs,h=>by cases h
  | m+1,.u :: ys,ks,zs,h=>by cases h
  | m+1,.d _ :: ys,ks,zs,h=>by cases h
  | m+1,.inst _ :: ys,ks,zs,h=>by cases h
  | m+1,.ob _ :: ys,ks,zs,h=>by cases h
  | m+1,.rng _ :: ys,ks,zs,h=>by cases h
theorem own_vals:∀ (ks:List Nat) {zs:List V} {vs:List Value},VRs G s.heap g (ks.map .own++zs) vs→∃ (oa:List Addr) (dvs:List Value),vs=oa.map .ref++dvs∧oa.length=ks.length∧(∀ i k:Nat,ks[i]?=some k→g.as[k]?=oa[i]?)∧VRs G s.heap g zs dvs:=by
  intro xs9
  induction xs9 with
  | nil=>
    intro zs vs h
    exact ⟨[],vs,rfl,rfl,fun i k e=>by simp at e,h⟩
  | cons k ks ih=>
    rintro zs vs ⟨v,r,e,⟨a,ha,hva⟩,b⟩
    subst hva
    refine kEEAAA (ih b) fun oa dvs z5 h2 h3 h4=>?_
    subst z5
    refine ⟨a :: oa,dvs,by trivial,by simp [h2],fun i k' e'=>?_,h4⟩
    cases i with
    | zero=>simp at e'; subst e'; exact ha
    | succ i=>exact h3 i k' (by simpa using e')
theorem Room.deeper {A:Around} {lv:Nat} (r:Room A (lv+1)) (env:Env):Room (A.deeper env) lv:=⟨r.hd,by show A.depth+1+lv≤600; have:=r.dp; lia,by show A.units+3+10 * lv≤9000; have:=r.un; lia⟩
end
section
variable {prog:Program} {w:World} {A:Around} {s:Shared}
theorem call_cellsB {R:Result→Shared→Prop} {a:Addr} {o:Obj} {fd:FuncData} {body:List Stmt} {vals:List Value} {binds:List (Str×Value)}
    (hroom:A.depth<recursionLimit) (ho:s.heap.get? a=some o) (hdata:o.data = .func fd) (hlim:s.heap.NoLimit) (hcd:s.heap.CodeRec fd.code fd.qualname)
    (hbody:fd.body = .stmts body) (hbind:BindsTo s fd ⟨vals,[]⟩ binds) (hclo:fd.closure=[])
    (hkind:∀ x∈binds,fd.scope.names.lookup x.1=some .local∨(fd.scope.names.lookup x.1=some .cell∧((cellsFrom (s.heap.objs.size+1) fd.scope.names []).lookup x.1).isSome=true))
    (h:∀ s₁,InCallC s (callEnvC fd s.heap.objs.size a).locals (bindL (callEnvC fd s.heap.objs.size a).kindOf binds fun _=>none) (callEnvC fd s.heap.objs.size a).cells
        (bindC (callEnvC fd s.heap.objs.size a).kindOf binds fun _=>none) s₁ →
      wpAny (model prog w) (A.deeper (callEnvC fd s.heap.objs.size a)) (execs body (callEnvC fd s.heap.objs.size a)) (fun f s'=>R (.ok (.ret (match f with | .ret v=>v | _=>.none))) s')
        (fun e s'=>wpAny (model prog w) (A.deeper (callEnvC fd s.heap.objs.size a)) (leaving (callEnvC fd s.heap.objs.size a) e) (fun _ s''=>R (.error e) s'') (fun e' s''=>R (.error e') s'') s') s₁)
    (hco:fd.scope.isCoroutine=false) (hgen:fd.scope.isGenerator=false) (hk:fd.scope.kind = .function) :
    codeAny (model prog w) A (.call (.ref a) ⟨vals,[]⟩) R s:=by
  refine codeAny_call_function hroom ho hdata hco hgen hbody hcd (hbind _ _ _ _ ?_)
  rw [hclo]
  refine wpAny_newFunctionEnv_cells hk hkind fun env he s' x=>?_
  subst he
  exact ⟨hlim.keeps x.toInCall.keep,codeAny_func (h s' x)⟩
end
theorem SemF.fn {x:Str} {a₀:Addr} {fd:FuncData} {body:List Stmt} {names slots:List Str} {T:Tr Fl} {m n e lv:Nat} {fn:FnR} (F:FnAt G x a₀ fd) (sh:Shape fd.scope names slots) (hb:fd.body = .stmts body) (hlen:names.length=n+e)
    (hbind:∀ (s:Shared) (vs:List Value),(∀ b o,G.h₀.get? b=some o→s.heap.get? b=some o)→vs.length=n→BindsTo s fd ⟨vs,[]⟩ (names.zip (vs++List.replicate e .none)))
    (hs:SemSs G ⟨lv,fd.scope,slots,true⟩ body T)
    (hT:∀ qs ds r qs',fn qs ds r qs'→qs.length=m→ds.length+m=n→(∀ q∈qs,q.flat=true)→(∀ q∈qs',q.flat=true)∧qs'.length=m∧T (finP m r qs') (st0 m ds e (slots.length - names.length) qs)) :
    SemF G (lv+1) (.ref a₀) n (callO m fn):=fun c A s g st Q ys vs r R hn hv hq=>by
  unfold callO at hq
  split at hq
  · rename_i ks zs hsp
    refine kA (splitOwn_ok hsp) fun z7 hm=>?_
    subst z7
    obtain ⟨hnd,hq⟩:=hq
    refine kEEAAA (own_vals ks hv) fun oa dvs z9 hoa hga hzs=>?_
    subst z9
    obtain ⟨ds,st1,g1,go1,v1,hst,hl1,hflat,rr,qs',hfn,hres⟩:=stills_ok zs R hzs hq
    have R1:=go1.rs
    have hga1:∀ i k:Nat,ks[i]?=some k→g1.as[k]?=oa[i]?:=fun i k hk=>by
      have hlt:i<oa.length:=by simp only [hoa]; exact (List.getElem?_eq_some_iff.mp hk).1
      have e:oa[i]?=some oa[i]:=List.getElem?_eq_getElem hlt
      simp only [e]
      exact pre_get go1.le.pre ((hga i k hk).trans e)
    have hn':ks.length+zs.length=n:=by simpa using hn
    have hdvl:dvs.length=ds.length:=VRs.length ds v1
    have hqs:∀ q∈cellsAt st1 ks,q.flat=true:=fun q hq=>by
      refine kEA (List.mem_map.mp hq) fun k hk z11=>?_
      subst z11
      refine kEA (hflat k hk) fun q' e1 e2=>?_
      rw [List.getD_eq_getElem?_getD,e1]
      exact e2
    refine kAA (hT _ ds rr qs' hfn (by simp [cellsAt,hm]) (by lia) hqs) fun hqs' hlq' hbody=>?_
    refine kEA F.ob fun o ho hdat=>?_
    have hbd:=hbind s (oa.map .ref++dvs) (fun b o e=>hide_sub _ _ (R.base b o e)) (by simp [hoa]; lia)
    refine wpAny_call (call_cellsB (fd:=fd) (by have:=r.dp; show A.depth<1000; lia) (hide_sub _ _ (R.base _ _ ho)) hdat (G.nolimit.keeps fun b o e=>hide_sub _ _ (R.base b o e))
      (F.code.keeps fun b o e=>hide_sub _ _ (R.base b o e)) hb hbd F.clo (fun y hy=>?_) (fun s1 X=>?_) sh.co sh.gen sh.kind)
    · have hyn:y.1∈slots:=sh.pre.subset (mem_zip_names hy)
      rcases sh.kd _ hyn with h | ⟨h,h2⟩
      · exact .inl h
      · exact .inr ⟨h,h2 _⟩
    · have hlen':names.length=ks.length+ds.length+e:=by lia
      refine kEA (enter (A:=A) (e:=e) sh R1 hoa hga1 hnd hflat rfl v1 hst hlen' X) fun cas hcas R2=>?_
      simp only [hm] at R2
      have at':At ⟨lv,fd.scope,slots,true⟩ ⟨callEnvC fd s.heap.objs.size a₀,slots,true⟩ (A.deeper (callEnvC fd s.heap.objs.size a₀)):=
        ⟨⟨sh.kind,F.gl,F.bl,sh.nd,fun y hy=>by
          rcases sh.kd y hy with h | ⟨h,h2⟩
          · exact .inl h
          · exact .inr ⟨h,Option.isSome_iff_exists.mp (h2 _)⟩⟩,rfl,rfl,rfl,r.deeper _⟩
      refine PF.bind (hs _ _ s1 _ _ _ at' R2 hbody) (fun f s2 y st2 g2 go2 vf hfin=>?_)
      have keep:=X.toInCall.keep
      have hnew:∀ b,b=s.heap.objs.size∨b∈cas→s.heap.get? b=none:=fun b hb=>by
        cases eb:s.heap.get? b with
        | none=>rfl
        | some o=>
          have hlt:=Heap.lt_size eb
          rcases hb with rfl | hb
          · exact absurd hlt (Nat.lt_irrefl _)
          · exact absurd (Nat.lt_trans hlt (hcas b hb)) (Nat.lt_irrefl _)
      have rest:Rest s s2:=by
        refine Rest.trans ?_ go2.rest
        refine kEE X.toInCall.same fun h' tk e=>?_
        simp only [e]; exact ⟨rfl,rfl,rfl⟩
      have left:∀ {g3:Gh} {st3:St},Go G ⟨callEnvC fd s.heap.objs.size a₀,slots,true⟩ s2 g2 s2 g3 st3→st3.μ.take m=qs'→Left G c ⟨callEnvC fd s.heap.objs.size a₀,slots,true⟩ s s1 s2 g1 g3 st1 st3 ks oa cas s.heap.objs.size ((s.heap.objs.size :: cas)++g1.O):=fun {g3 st3} go3 he=>
        ⟨R1,go3.rs,keep,hnew,go2.le.trans go3.le,fun b hb=>by simp [hb],hoa,hga1,hnd,hflat,fun i hi=>by
          have hi':i<qs'.length:=by omega
          have e1:(st3.μ.take m)[i]?=some qs'[i]:=by rw [he]; exact List.getElem?_eq_getElem hi'
          rw [List.getElem?_take,if_pos (by omega)] at e1
          exact ⟨_,e1,hqs' _ (List.getElem_mem hi')⟩⟩
      cases rr with
      | d x=>
        have vy:VR G s2.heap g2 (flV y) (match (generalizing:=false) f with | .ret v=>v | _=>.none):=by
          cases y<;>cases f<;>first | exact vf.elim | exact vr_none | exact vf
        have hfin':asD (flV y) (fun x' st2=>x'=x∧st2.μ.take m=qs') st2:=hfin
        obtain ⟨x',st3,g3,go3,rx,rfl,he⟩:=asD_ok go2.rs vy hfin'
        have l:=left go3 he
        refine kA (l.back (h':=s2.heap) (fun _ _ _ e=>e) (fun _ _ _ e=>e) l.same) fun R3 l3=>?_
        rw [hm,he] at R3
        exact ⟨.d x',_,g1,go1.trans ⟨R3,l3,rest⟩,Rd.mono (l.J fun _ _ _ e=>e) _ rx,hres⟩
      | new xs=>
        refine kEAAA hfin fun j z17 hj hcell he=>?_
        subst z17
        cases f with
        | ret v=>
          refine kEA vf fun b hb z19=>?_
          subst z19
          have l:=left (Go.refl go2.rs) he
          refine kAAEEA (go2.rs.cells j _ b hcell rfl hb) fun hbM _ us k hbl hbr=>?_
          have hbs1:s.heap.get? b=none:=by
            refine Or.elim (go2.le.sub b hbM) (fun q=>?_) (fun q=>?_)
            · simp only [List.cons_append,List.mem_cons,List.mem_append] at q
              rcases q with q | q | q
              · exact hnew b (.inl q)
              · exact hnew b (.inr q)
              · refine kE (List.getElem?_of_mem q) fun i hi=>?_
                refine kEAAAA (l.cell hi) fun q' e1 e2 e3 _ _=>?_
                have:=go2.rs.inj i j q' _ b e1 (Cell.flat_alive e2) hcell rfl e3 hb
                have hi':=(List.getElem?_eq_some_iff.mp hi).1
                lia
            · cases eb:s.heap.get? b with
              | none=>rfl
              | some o=>rw [keep b o eb] at q; cases q
          have hbo:b∉oa:=fun q=>by
            refine kEEEAAAAA (l.oaM q) fun _ _ _ _ _ _ _ _ h6=>?_
            refine kE (R1.live b (R1.sub b h6)) fun o e=>?_
            rw [hbs1] at e; cases e
          have hg:∀ b' o,b'≠b→s2.heap.get? b'=some o→(hide s2.heap [b]).get? b'=some o:=fun b' o hne e=>hide_some.mpr ⟨by simpa using hne,e⟩
          obtain ⟨R3,l3⟩:=l.back (h':=hide s2.heap [b]) (fun b' o hm e=>hg b' o (fun q=>hm (q▸go2.rs.sub b hbM)) e) (fun b' o hm e=>hg b' o (fun q=>hbo (q▸hm)) e)
            (fun b' o hm e=>hg b' o (fun q=>by simp only [q,hbs1] at e; cases e) (l.same b' o hm e))
          rw [hm,he] at R3
          have hJ:=l.J (h':=hide s2.heap [b]) (fun b' o hm e=>hg b' o (fun q=>hm (q▸go2.rs.sub b hbM)) e)
          have go3:Go G c s g { s2 with heap:=hide s2.heap [b] } g1 (setCs st1 ks qs'):=go1.trans ⟨R3,l3,⟨rest.gens,rest.drawn,rest.os⟩⟩
          refine PV.pre go3 (newAt (s:={ s2 with heap:=hide s2.heap [b] }) (h':=s2.heap) (a:=b) (tk:=s2.toks) (q:=.list xs) R3 ?_ (fun b' o e=>hide_sub _ _ e) ⟨_,hbl⟩ (fun hj'=>⟨us,k,hbl,RdL.mono (fun b' o e=>hj' b' o (hJ b' o e)) _ hbr⟩) hres)
          rw [hide_get,if_pos (by simp)]
        | _=>exact vf.elim
  · exact hq.elim
end
section
variable {G:Gl} {K:Sk}
noncomputable def relab (scope sc:Scope):Scope:=
  { scope with names:=scope.names.map fun (n,k)=>if (k==.free&&sc.kind==.function&&sc.names.lookup n==some .cell) then (n,.cell) else (n,k) }
structure CompOk (K:Sk) (scope:Scope) (x:Str) (cap:List (Str×Nat)):Prop where
  kind:scope.kind = .function
  nocell:∀ y∈scope.names,y.2≠.cell
  names:∀ y∈scope.names,y.2 = .local→scope.names.lookup y.1=some .local
  loc:scope.names.lookup x=some .local
  free:∀ y∈scope.names,y.2 = .free→y.1∈K.slots∧K.sc.names.lookup y.1=some .cell
  caps:∀ p∈cap,scope.names.lookup p.1=some .free∧K.slots[p.2]?=some p.1
  nd:(x :: cap.map (·.1)).Nodup
noncomputable def KC (K:Sk) (scope:Scope) (x:Str) (cap:List (Str×Nat)):Sk:=⟨K.lv,relab scope K.sc,x :: cap.map (·.1),false⟩
noncomputable def cloL (cells:List (Str×Addr)):List (Str×NameKind)→List (Str×Addr)→List (Str×Addr)
  | [],acc=>acc
  | (n,k) :: r,acc=>cloL cells r (if k==.free then (n,(cells.lookup n).getD 0) :: acc else acc)
theorem cloL_forIn {env:Env}:∀ (names:List (Str×NameKind)) (acc:List (Str×Addr)),(∀ y∈names,y.2 = .free→∃ a,env.cells.lookup y.1=some a) →
    (forIn names acc fun (p:Str×NameKind) cs=>if p.2==.free then (do let a ← cellOf env p.1; pure (ForInStep.yield ((p.1,a) :: cs)):Sem (ForInStep (List (Str×Addr)))) else pure (ForInStep.yield cs))=pure (cloL env.cells names acc):=by
  intro xs9
  induction xs9 with
  | nil=>
    intro acc _
    exact rfl
  | cons p9 r ih=>
    obtain ⟨n,k⟩:=p9
    intro acc h
    simp only [List.forIn_cons,cloL]
    by_cases hk:k = .free
    · subst hk
      obtain ⟨a,ha⟩:=h (n,.free) List.mem_cons_self rfl
      have e:cellOf env n=pure a:=by unfold cellOf; rw [ha]
      simp only [beq_self_eq_true,if_true,e,pure_bind,ha,Option.getD_some]
      exact ih _ fun y hy=>h y (List.mem_cons_of_mem _ hy)
    · have hb:(k==NameKind.free)=false:=by simpa using hk
      simp only [hb,Bool.false_eq_true,if_false,pure_bind]
      exact ih _ fun y hy=>h y (List.mem_cons_of_mem _ hy)
theorem closure_ok {scope:Scope} {env:Env} (h:∀ y∈scope.names,y.2 = .free→∃ a,env.cells.lookup y.1=some a):closureFor scope env=pure (cloL env.cells scope.names []):=by
  have:=cloL_forIn (env:=env) scope.names [] h
  refine Eq.trans ?_ this
  show (forIn scope.names [] _>>=fun r=>pure r)=_
  rw [bind_pure]
theorem cloL_sub {cells:List (Str×Addr)}:∀ (names:List (Str×NameKind)) (acc:List (Str×Addr)),(∀ n a,acc.lookup n=some a→cells.lookup n=some a)→(∀ y∈names,y.2 = .free→∃ a,cells.lookup y.1=some a) →
    ∀ n a,(cloL cells names acc).lookup n=some a→cells.lookup n=some a:=by
  intro xs9
  induction xs9 with
  | nil=>
    intro acc h _ n a e
    exact h n a e
  | cons p9 r ih=>
    obtain ⟨m,k⟩:=p9
    intro acc h hf n a e
    refine ih _ ?_ (fun y hy=>hf y (List.mem_cons_of_mem _ hy)) n a e
    intro n' a' e'
    by_cases hk:(k==NameKind.free)=true
    · rw [if_pos hk] at e'
      obtain ⟨b,hb⟩:=hf (m,k) List.mem_cons_self (by simpa using hk)
      rw [hb] at e'
      simp only [List.lookup_cons] at e'
      cases hn:n'==m with
      | true=>
        rw [hn] at e'
        simp at e' hn
        subst hn; subst e'; exact hb
      | false=>rw [hn] at e'; exact h n' a' e'
    · rw [if_neg hk] at e'; exact h n' a' e'
theorem cloL_has {cells:List (Str×Addr)}:∀ (names:List (Str×NameKind)) (acc:List (Str×Addr)) (n:Str),((acc.lookup n).isSome∨(n,NameKind.free)∈names)→((cloL cells names acc).lookup n).isSome=true:=by
  intro xs9
  induction xs9 with
  | nil=>
    intro acc n h
    rcases h with h | h
    · exact h
    · cases h
  | cons p9 r ih=>
    obtain ⟨m,k⟩:=p9
    intro acc n h
    refine ih _ n ?_
    rcases h with h | h
    · left
      split
      · simp only [List.lookup_cons]
        split
        · rfl
        · exact h
      · exact h
    · refine Or.elim (List.mem_cons.mp h) (fun e=>?_) (fun h=>?_)
      · cases e
        left
        simp [List.lookup_cons]
      · exact .inr h
theorem lookup_relab {sc:Scope} {x:Str}:∀ {names:List (Str×NameKind)},names.lookup x=some .free→sc.kind = .function→sc.names.lookup x=some .cell →
    (names.map fun (n,k)=>if (k==NameKind.free&&sc.kind==.function&&sc.names.lookup n==some .cell) then (n,NameKind.cell) else (n,k)).lookup x=some .cell
  | [],h,_,_=>by simp at h
  | (n,k) :: r,h,h1,h2=>by
    have ih:=@lookup_relab sc x r
    show List.lookup x ((if (k==NameKind.free&&sc.kind==.function&&sc.names.lookup n==some .cell)=true then (n,NameKind.cell) else (n,k)) :: _)=_
    cases hx:x==n with
    | true=>
      simp only [List.lookup_cons,hx] at h
      simp only [Option.some.injEq] at h
      subst h
      have:x=n:=by simpa using hx
      subst this
      rw [if_pos (by rw [h1,h2]; rfl)]
      simp [List.lookup_cons]
    | false=>
      simp only [List.lookup_cons,hx] at h
      by_cases hc:(k==NameKind.free&&sc.kind==.function&&sc.names.lookup n==some .cell)=true
      · rw [if_pos hc]; simp only [List.lookup_cons,hx]; exact ih h h1 h2
      · rw [if_neg hc]; simp only [List.lookup_cons,hx]; exact ih h h1 h2
theorem mem_of_lookupK {β:Type}:∀ {l:List (Str×β)} {n:Str} {c:β},l.lookup n=some c→(n,c)∈l
  | (m,d) :: r,n,c,h=>by
    simp only [List.lookup_cons] at h
    cases hb:n==m with
    | true=>rw [hb] at h; simp at h hb; subst hb; subst h; exact List.mem_cons_self
    | false=>rw [hb] at h; exact List.mem_cons_of_mem _ (mem_of_lookupK h)
noncomputable def capsOf (st:St) (cap:List (Str×Nat)):List V:=cap.map fun p=>st.get p.2
noncomputable def cs0 (st:St) (cap:List (Str×Nat)) (y:V):St:=⟨y :: capsOf st cap,st.μ⟩
section
variable {c:Cx} {A:Around} {s:Shared} {g:Gh} {st:St} {scope:Scope} {x:Str} {cap:List (Str×Nat)}
theorem free_cell (a:At K c A) (ok:CompOk K scope x cap):∀ y∈scope.names,y.2 = .free→∃ b,c.env.cells.lookup y.1=some b:=fun y hy hf=>by
  refine kA (ok.free y hy hf) fun h1 h2=>?_
  refine Or.elim (a.ok.kd y.1 (by rw [a.sl]; exact h1)) (fun k=>?_) (fun z1=>?_)
  · rw [kind_sc a,h2] at k; cases k
  · refine kAE z1 fun _ b hb=>?_
    exact ⟨b,hb⟩
noncomputable def cxC (c:Cx) (scope:Scope) (x:Str) (cap:List (Str×Nat)) (C:Addr):Cx:=⟨compEnvC scope (cloL c.env.cells scope.names []) C c.env,x :: cap.map (·.1),false⟩
theorem relab_eq (a:At K c A):relabel scope c.env=relab scope K.sc:=by
  delta relabel relab Env.kindOf
  rw [a.sc]
theorem at_comp (a:At K c A) (ok:CompOk K scope x cap) {C:Addr}:At (KC K scope x cap) (cxC c scope x cap C) A:=by
  have hfn:K.sc.kind = .function:=by rw [← a.sc]; exact a.ok.fn
  have hsc:(cxC c scope x cap C).env.scope=relab scope K.sc:=relab_eq a
  refine ⟨⟨?_,a.ok.gl,a.ok.bl,ok.nd,fun y hy=>?_⟩,hsc,rfl,rfl,a.room⟩
  · rw [hsc]; exact ok.kind
  · rcases List.mem_cons.mp hy with rfl | hy
    · left
      exact lookup_relabel_local ok.loc
    · right
      refine kEA (List.mem_map.mp hy) fun p hp z4=>?_
      subst z4
      obtain ⟨h1,h2⟩:=ok.caps p hp
      have hm:=mem_of_lookupK h1
      obtain ⟨_,h3⟩:=ok.free _ hm rfl
      refine ⟨?_,Option.isSome_iff_exists.mp (cloL_has _ _ _ (.inr hm))⟩
      unfold Env.kindOf
      rw [hsc]
      exact lookup_relab h1 hfn h3
theorem RS.comp (a:At K c A) (ok:CompOk K scope x cap) (R:RS G c g st s.heap) {h':Heap} {C D:Addr} (hC:s.heap.get? C=none) (hD:s.heap.get? D=none) (hCD:C≠D) (keep:∀ b o,s.heap.get? b=some o→h'.get? b=some o)
    (hn:h'.Ns C fun _=>none) (hDl:∃ o,h'.get? D=some o) (hflat:∀ q∈st.μ,q.flat=true) (hcap:∀ p∈cap,st.get p.2≠.u) :
    RS G (cxC c scope x cap C) ⟨C :: D :: g.O,C :: g.as,g.as⟩ (cs0 st cap .u) h':=by
  have live:∀ b∈g.O,b≠C∧b≠D:=fun b hb=>by
    refine kE (R.live b hb) fun o e=>?_
    exact ⟨(fun q=>by rw [q,hC] at e; cases e),(fun q=>by rw [q,hD] at e; cases e)⟩
  have hj:∀ b o,(g.J s.heap).get? b=some o→(Gh.J ⟨C :: D :: g.O,C :: g.as,g.as⟩ h').get? b=some o:=fun b o e=>by
    refine kA (hide_some.mp e) fun h1 h2=>?_
    refine hide_some.mpr ⟨fun q=>?_,keep b o h2⟩
    simp only [List.mem_cons] at q
    rcases q with q | q | q
    · rw [q,hC] at h2; cases h2
    · rw [q,hD] at h2; cases h2
    · exact h1 q
  have hid:∀ (k:Nat) (b:Addr),g.as[k]?=some b→g.as[k]?=some b:=fun _ _ e=>e
  have has:∀ b∈g.as,∃ (k:Nat) (q:Cell),g.as[k]?=some b∧st.μ[k]?=some q∧q.flat=true:=fun b hb=>by
    refine kE (List.getElem?_of_mem hb) fun k hk=>?_
    have hlt:k<st.μ.length:=by rw [← R.len']; exact (List.getElem?_eq_some_iff.mp hk).1
    exact ⟨k,st.μ[k],hk,List.getElem?_eq_getElem hlt,hflat _ (List.getElem_mem hlt)⟩
  have hasM:∀ b∈g.as,b∈g.M:=fun b hb=>kEEAA (has b hb) fun k q h1 h2 h3=>(R.cells k q b h2 (Cell.flat_alive h3) h1).1
  have hcl:∀ n b,(cloL c.env.cells scope.names []).lookup n=some b→c.env.cells.lookup n=some b:=cloL_sub _ _ (fun n b e=>nomatch e) (free_cell a ok)
  refine kEEAA R.names fun m cm h1 h2 h3=>?_
  refine ⟨fun b o e=>hj b o (R.base b o e),fun b hb=>?_,fun b hb=>?_,by simp [cxC,compEnvC],⟨fun _=>none,cm,hn,fun n b e=>(h2 n b (hcl n b e)).keeps keep,fun i z y h4 h5 h6=>?_⟩,fun n b e=>?_,fun n n' b e1 e2=>R.cellI n n' b (hcl n b e1) (hcl n' b e2),
    (fun hw=>nomatch hw),by simp [cs0,capsOf,cxC],R.len',fun k q b e1 e2 e3=>?_,R.inj⟩
  · simp only [List.mem_cons] at hb ⊢
    refine Or.elim hb (fun hb=>?_) (fun hb=>?_)
    · exact .inl hb
    · exact .inr (.inr (R.sub b (hasM b hb)))
  · simp only [List.mem_cons] at hb
    rcases hb with rfl | rfl | hb
    · obtain ⟨o,_,_,e,_⟩:=hn; exact ⟨o,e⟩
    · exact hDl
    · obtain ⟨o,e⟩:=R.live b hb; exact ⟨o,keep b o e⟩
  · cases i with
    | zero=>simp only [cs0,List.getElem?_cons_zero,Option.some.injEq] at h5; exact absurd h5.symm h6
    | succ j=>
      simp only [cxC,List.getElem?_cons_succ,List.getElem?_map,Option.map_eq_some_iff] at h4
      obtain ⟨p,hp,rfl⟩:=h4
      simp only [cs0,capsOf,List.getElem?_cons_succ,List.getElem?_map,hp,Option.map_some,Option.some.injEq] at h5
      have hpm:=List.mem_of_getElem? hp
      refine kA (ok.caps p hpm) fun o1 o2=>?_
      have hm:=mem_of_lookupK o1
      refine kA (ok.free _ hm rfl) fun _ o3=>?_
      have hne:st.get p.2≠.u:=hcap p hpm
      refine kEA (h3 p.2 p.1 (st.get p.2) (by rw [a.sl]; exact o2) (getD_some hne) hne) fun v v1 v2=>?_
      rw [if_neg (by rw [kind_sc a,o3]; decide)] at v1
      subst h5
      refine ⟨v,?_,VR.of hj hid _ v2⟩
      have hk:(cxC c scope x cap C).env.kindOf p.1=some .cell:=by
        show (relabel scope c.env).names.lookup p.1=_
        rw [relab_eq a]
        exact lookup_relab o1 (by rw [← a.sc]; exact a.ok.fn) o3
      rw [if_neg (by rw [hk]; decide)]
      exact v1
  · refine kAA (R.cellO n b (hcl n b e)) fun e1 e2 e3=>?_
    exact ⟨by simp [e1],(live b e1).1,e3⟩
  · refine kAA (R.cells k q b e1 e2 e3) fun h4 h5 h6=>?_
    refine ⟨by simp [List.mem_of_getElem? e3],?_,CR.of hj hid (fun o e=>keep b o e) h6⟩
    exact (live b (R.sub b h4)).1
end
end
section
variable {G:Gl} {K:Sk}
section
variable {c:Cx} {A:Around} {b1 s s':Shared} {g1 g g':Gh} {st st':St} {J:Heap} {I D:Addr} {S:Nat→Heap→Prop} {fp:List Addr} {P:Nat→Value→Prop} {xs:List PyData}
theorem Le.smaller {h₀ h₁ h:Heap} {g₀ g:Gh} (l:Le h₁ g₀ h g) (hs:∀ a o,h₀.get? a=some o→h₁.get? a=some o):Le h₀ g₀ h g:=
  ⟨fun a o hm e=>l.same a o hm (hs a o e),fun a o hm e=>l.hid a o hm (hs a o e),(fun a hm=>(l.sub a hm).imp_right fun e=>by
    cases e':h₀.get? a with
    | none=>rfl
    | some o=>rw [hs a o e'] at e; cases e),l.pre⟩
structure CM (G:Gl) (J:Heap) (I D:Addr) (S:Nat→Heap→Prop) (i:Nat) (q:Cell) (s:Shared) (g:Gh):Prop where
  S:S i s.heap
  iO:I∈g.O
  iM:I∉g.M
  dO:D∈g.O
  dM:D∉g.M
  ne:D≠I
  J:∀ b o,J.get? b=some o→(g.J s.heap).get? b=some o
  acc:CR G s.heap g q D
theorem CM.go {i:Nat} {q:Cell} (hit:Iter G A J I fp P S xs) (m:CM G J I D S i q s g) (hq:q.flat=true) (R:RS G c g st s.heap) (go:Go G c s g s' g' st'):CM G J I D S i q s' g':=by
  have hj:=go.le.still R.sub
  have stay:∀ a,a∈g.O→a∉g.M→a∈g'.O∧a∉g'.M:=fun a ha hm=>by
    refine kE (R.live a ha) fun o e=>?_
    refine ⟨(go.le.hid a o hm e).mpr ha,fun q=>?_⟩
    refine Or.elim (go.le.sub a q) (fun q=>?_) (fun q=>?_)
    · exact hm q
    · rw [e] at q; cases q
  refine kA (stay I m.iO m.iM) fun a1 a2=>?_
  refine kA (stay D m.dO m.dM) fun a3 a4=>?_
  refine ⟨hit.W.frame _ _ _ m.S fun b hb o e=>?_,a1,a2,a3,a4,m.ne,fun b o e=>hj b o (m.J b o e),CR.flat hj hq (fun o e=>go.le.same D o m.dM e) m.acc⟩
  refine Or.elim (hit.fp b hb) (fun z1=>?_) (fun z2=>?_)
  · subst z1
    exact go.le.same b o m.iM e
  · refine kE z2 fun o' e'=>?_
    have e1:=m.J b o' e'
    have:o'=o:=Option.some.inj ((hide_sub _ _ e1).symm.trans e)
    subst this
    exact hide_sub _ _ (hj b o' e1)
theorem CM.acc' {i:Nat} {q q':Cell} {h':Heap} {tk:Nat} (hit:Iter G A J I fp P S xs) (m:CM G J I D S i q s g) (go:Go G c b1 g1 s g st) (hb:b1.heap.get? D=none) (hcl:∀ n,c.env.cells.lookup n≠some D) (hs:Heap.SameBut D s.heap h') (hlv:∃ o,h'.get? D=some o)
    (hq:CR G h' g q' D):Go G c b1 g1 { s with heap:=h',toks:=tk } g st∧CM G J I D S i q' { s with heap:=h',toks:=tk } g:=by
  have hk:∀ b o,b≠D→s.heap.get? b=some o→h'.get? b=some o:=fun b o hb e=>(hs.2 b hb).trans e
  have hj:=RS.turn_J m.dO hk
  refine ⟨⟨go.rs.turn m.dO m.dM hcl hk hlv,go.le.turn hb hk,go.rest.trans ⟨rfl,rfl,rfl⟩⟩,hit.W.frame _ _ _ m.S fun b hfp o e=>hk b o ?_ e,m.iO,m.iM,m.dO,m.dM,m.ne,fun b o e=>hj b o (m.J b o e),hq⟩
  rintro rfl
  refine Or.elim (hit.fp b hfp) (fun q=>?_) (fun z3=>?_)
  · exact m.ne q
  · refine kE z3 fun o' e'=>?_
    exact (hide_some.mp (m.J b o' e')).1 m.dO
theorem CM.next {i:Nat} {q:Cell} {Q:Option Value→Shared→Prop} {E:Value→Shared→Prop} (hit:Iter G A J I fp P S xs) (hnew:b1.heap.get? I=none) (hcl:∀ n,c.env.cells.lookup n≠some I) (hi:i<xs.length) (m:CM G J I D S i q s g) (hqf:q.flat=true)
    (go:Go G c b1 g1 s g st) (hQ:∀ v s',Rd G.w J xs[i] v→Go G c b1 g1 s' g st→CM G J I D S (i+1) q s' g→Q (some v) s'):wpAny (model G.prog G.w) A (pyNext (.ref I)) Q E s:=by
  refine hit.W.item i s Q E hi m.S fun v h' tk hP hS' hk=>?_
  refine kEEEA (hit.lv _ _ hS') fun o n fs h1 _=>?_
  have hk':∀ b o,b≠I→s.heap.get? b=some o→h'.get? b=some o:=fun b o hb e=>hk b o (by simpa using hb) e
  have hj:=RS.turn_J m.iO hk'
  exact hQ v _ (hit.item i v _ hP (List.getElem?_eq_getElem hi)) ⟨go.rs.turn m.iO m.iM hcl hk' ⟨_,h1⟩,go.le.turn hnew hk',go.rest.trans ⟨rfl,rfl,rfl⟩⟩
    ⟨hS',m.iO,m.iM,m.dO,m.dM,m.ne,fun b o e=>hj b o (m.J b o e),CR.flat hj hqf (fun o e=>hk' D o m.ne e) m.acc⟩
end
noncomputable def SemQ (G:Gl) (K:Sk) (ifs:List Expr) (T:Tr Bool):Prop:=
  ∀ (c:Cx) (A:Around) (s:Shared) (g:Gh) (st:St) (Q:Bool→St→Prop),At K c A→RS G c g st s.heap→T Q st →
    wpAny (model G.prog G.w) A (forIn ifs true fun c' r=>if r=true then do let ok ← isTrue c' c.env (eval c' c.env); pure (ForInStep.yield ok) else pure (ForInStep.yield r)) (PB G c s g Q) No s
noncomputable def yesT:Tr Bool:=fun Q st=>Q true st
theorem SemQ.nil:SemQ G K [] yesT:=fun c A s g st Q a R hq=>wpAny_tests_nil ⟨st,g,Go.refl R,hq⟩
theorem SemQ.one {e:Expr} {t:Tr Bool} (h:SemB G K e t):SemQ G K [e] t:=fun c A s g st Q a R hq=>wpAny_tests_one (h c A s g st Q a R hq)
noncomputable def turnL (tst:Tr Bool) (elt:Tr V) (cs:PyData→St) (out:PyData→Option PyData) (z:PyData):Prop:=
  tst (fun b st=>st=cs z∧br b (elt (fun y st2=>asD y (fun d st3=>st3=cs z∧out z=some d) st2) (cs z)) (out z=none)) (cs z)
noncomputable def turnD (tst:Tr Bool) (key val:Tr V) (cs:PyData→St) (out:PyData→Option (Ky×PyData)) (z:PyData):Prop:=
  tst (fun b st=>st=cs z∧br b (key (fun y st2=>val (fun w st3=>asD w (fun d st4=>st4=cs z∧∃ q,y = .d (kD q)∧out z=some (q,d)) st3) st2) (cs z)) (out z=none)) (cs z)
noncomputable def dacc (ps:List (Ky×PyData)):List (PyData×PyData):=ps.foldl (fun a p=>dput a p.1 p.2) []
section
variable {c:Cx} {A:Around} {b1 s4:Shared} {g1 g4:Gh} {caps:List V} {μ:List Cell} {J:Heap} {I D:Addr} {S:Nat→Heap→Prop} {fp:List Addr} {P:Nat→Value→Prop} {xs:List PyData} {R:Result→Shared→Prop}
theorem filterMap_take_succ {α β:Type} (f:α→Option β) (xs:List α) (i:Nat) (hi:i<xs.length):(xs.take (i+1)).filterMap f=(xs.take i).filterMap f++(f xs[i]).toList:=by
  simp only [List.take_succ_eq_append_getElem hi,List.filterMap_append]
  congr 1
theorem loop_list {x:Str} {px:Pos} {elt iter:Expr} {ifs:List Expr} {scope:Scope} {pos:Pos} {tst:Tr Bool} {et:Tr V} {out:PyData→Option PyData} (hit:Iter G A J I fp P S xs) (a:At K c A) (hx:Sto K x 0) (ht:SemQ G K ifs tst) (he:SemE G K elt et)
    (hI:b1.heap.get? I=none) (hD:b1.heap.get? D=none) (cI:∀ n,c.env.cells.lookup n≠some I) (cD:∀ n,c.env.cells.lookup n≠some D) (hlen:xs.length≤2^20)
    (hturn:∀ (i:Nat) (z:PyData),xs[i]?=some z→turnL tst et (fun z=>⟨.d z :: caps,μ⟩) out z) (go4:Go G c b1 g1 s4 g4 ⟨.u :: caps,μ⟩) (m4:CM G J I D S 0 (.list []) s4 g4)
    (hR:∀ s g y h' tk,Go G c b1 g1 s g ⟨y :: caps,μ⟩→CM G J I D S xs.length (.list (xs.filterMap out)) s g→(∀ b o,b≠I→s.heap.get? b=some o→h'.get? b=some o)→R (.ok .next) { s with heap:=h',toks:=tk }) :
    codeAny (model G.prog G.w) A (.compLoop (.ListComp elt [⟨.Name x px,iter,ifs,0⟩] scope pos) 0 (.ref I) (.ref D) c.env) R s4:=by
  refine codeAny_compLoop_tests (fun n s=>∃ i g y,n=xs.length+1 - i∧i≤xs.length∧Go G c b1 g1 s g ⟨y :: caps,μ⟩∧CM G J I D S i (.list ((xs.take i).filterMap out)) s g) ?_ (xs.length+1) ⟨0,g4,.u,by rfl,Nat.zero_le _,go4,by exact m4⟩
  rintro n s ⟨i,g,y,rfl,hi,go,m⟩
  by_cases hlt:i<xs.length
  · refine m.next hit hI cI hlt rfl go fun v s1 hr go1 m1=>?_
    have R1:=go1.rs
    refine wpAny_assign_Name (PU.bind (sto_ok (Q:=fun st=>st=⟨.d xs[i] :: caps,μ⟩) hx a R1 (show VR G s1.heap g (.d xs[i]) v from Rd.mono m1.J _ hr) rfl) (fun _ s2 st2 g2 go2 e2=>?_))
    subst e2
    have m2:=m1.go hit rfl R1 go2
    have ht':=hturn i _ (List.getElem?_eq_getElem hlt)
    refine PB.bind (ht c A s2 g2 _ _ a go2.rs ht') (fun ok s3 st3 g3 go3 hz3=>?_)
    obtain ⟨rfl,hz4⟩:=hz3
    have m3:=m2.go hit rfl go2.rs go3
    have go03:=go1.trans (go2.trans go3)
    cases ok with
    | false=>
      refine ⟨xs.length+1 - (i+1),by omega,i+1,g3,_,rfl,hlt,go03,?_⟩
      rw [filterMap_take_succ out xs i hlt,hz4]
      simpa using m3
    | true=>
      refine PV.bind (he c A s3 g3 _ _ a go3.rs hz4) (fun u s5 y5 st5 g5 go5 v5 hq5=>?_)
      obtain ⟨d,st6,g6,go6,rd,e6,hout⟩:=asD_ok go5.rs v5 hq5
      subst e6
      have go36:=go5.trans go6
      have m6:=m3.go hit rfl go3.rs go36
      have go06:=go03.trans go36
      refine kEEA m6.acc fun us k hg hrl=>?_
      have hsz:=RdL.length _ hrl
      simp only [Array.length_toList] at hsz
      have hle:((xs.take i).filterMap out).length≤i:=Nat.le_trans (List.length_filterMap_le _ _) (by rw [List.length_take]; exact Nat.min_le_left _ _)
      refine call_meets F.slot_list_append ⟨_,hg,rfl⟩ F.entry_list_append (F.args_list_append_2 _ _) (list_append D us k u (le_line (by rw [hsz]; lia))) ⟨hg,?_⟩
      have hs:=Heap.SameBut.update s5.heap D (Obj.mapSeq fun x1=>x1.push u)
      have e:=Heap.get?_update_self (Obj.mapSeq fun x1=>x1.push u) hg rfl
      have hj:∀ b o,(g6.J s5.heap).get? b=some o→(g6.J (s5.heap.update D (Obj.mapSeq fun x1=>x1.push u))).get? b=some o:=RS.turn_J m6.dO fun b o hb e=>(hs.2 b hb).trans e
      refine kA (m6.acc' hit go06 hD cD hs ⟨_,e⟩ (q':=.list ((xs.take i).filterMap out++[d])) (tk:=s5.toks) ⟨_,_,e,RdL.mono hj _ (by simpa using RdL.append _ hrl (RdL.one rd))⟩) fun go7 m7=>?_
      refine ⟨xs.length+1 - (i+1),by omega,i+1,g6,_,rfl,hlt,go7,?_⟩
      simp only [filterMap_take_succ out xs i hlt,hout]
      exact m7
  · have hin:i=xs.length:=by lia
    subst hin
    refine hit.W.done s _ _ m.S fun h' tk hk=>?_
    have m':=m
    rw [List.take_length] at m'
    exact hR s g y h' tk go m' fun b o hb e=>hk b o (by simpa using hb) e
theorem dacc_snoc (ps:List (Ky×PyData)) (p:Ky×PyData):dacc (ps++[p])=dput (dacc ps) p.1 p.2:=by unfold dacc; rw [List.foldl_append]; rfl
theorem dput_len (kvs:List (PyData×PyData)) (q:Ky) (x:PyData):(dput kvs q x).length≤kvs.length+1:=by unfold dput; split<;>simp
theorem dacc_len:∀ (ps:List (Ky×PyData)) (a:List (PyData×PyData)),(ps.foldl (fun a p=>dput a p.1 p.2) a).length≤a.length+ps.length
  | [],a=>by simp
  | p :: ps,a=>by
    simp only [List.foldl_cons]
    have h1:=dacc_len ps (dput a p.1 p.2)
    have h2:=dput_len a p.1 p.2
    simp only [List.length_cons]; lia
theorem loop_dict {x:Str} {px:Pos} {kx vx iter:Expr} {ifs:List Expr} {scope:Scope} {pos:Pos} {tst:Tr Bool} {kt vt:Tr V} {out:PyData→Option (Ky×PyData)} (hit:Iter G A J I fp P S xs) (a:At K c A) (hx:Sto K x 0) (ht:SemQ G K ifs tst) (hk:SemE G K kx kt) (hv:SemE G K vx vt)
    (hI:b1.heap.get? I=none) (hD:b1.heap.get? D=none) (cI:∀ n,c.env.cells.lookup n≠some I) (cD:∀ n,c.env.cells.lookup n≠some D) (hlen:xs.length≤2^20)
    (hturn:∀ (i:Nat) (z:PyData),xs[i]?=some z→turnD tst kt vt (fun z=>⟨.d z :: caps,μ⟩) out z) (go4:Go G c b1 g1 s4 g4 ⟨.u :: caps,μ⟩) (m4:CM G J I D S 0 (.dict []) s4 g4)
    (hR:∀ s g y h' tk,Go G c b1 g1 s g ⟨y :: caps,μ⟩→CM G J I D S xs.length (.dict (dacc (xs.filterMap out))) s g→(∀ b o,b≠I→s.heap.get? b=some o→h'.get? b=some o)→R (.ok .next) { s with heap:=h',toks:=tk }) :
    codeAny (model G.prog G.w) A (.compLoop (.DictComp kx vx [⟨.Name x px,iter,ifs,0⟩] scope pos) 0 (.ref I) (.ref D) c.env) R s4:=by
  refine codeAny_compLoop_testsD (fun n s=>∃ i g y,n=xs.length+1 - i∧i≤xs.length∧Go G c b1 g1 s g ⟨y :: caps,μ⟩∧CM G J I D S i (.dict (dacc ((xs.take i).filterMap out))) s g) ?_ (xs.length+1) ⟨0,g4,.u,by rfl,Nat.zero_le _,go4,by exact m4⟩
  rintro n s ⟨i,g,y,rfl,hi,go,m⟩
  by_cases hlt:i<xs.length
  · refine m.next hit hI cI hlt rfl go fun v s1 hr go1 m1=>?_
    have R1:=go1.rs
    refine wpAny_assign_Name (PU.bind (sto_ok (Q:=fun st=>st=⟨.d xs[i] :: caps,μ⟩) hx a R1 (show VR G s1.heap g (.d xs[i]) v from Rd.mono m1.J _ hr) rfl) (fun _ s2 st2 g2 go2 e2=>?_))
    subst e2
    have m2:=m1.go hit rfl R1 go2
    have ht':=hturn i _ (List.getElem?_eq_getElem hlt)
    refine PB.bind (ht c A s2 g2 _ _ a go2.rs ht') (fun ok s3 st3 g3 go3 hz3=>?_)
    obtain ⟨rfl,hz4⟩:=hz3
    have m3:=m2.go hit rfl go2.rs go3
    have go03:=go1.trans (go2.trans go3)
    cases ok with
    | false=>
      refine ⟨xs.length+1 - (i+1),by omega,i+1,g3,_,rfl,hlt,go03,?_⟩
      rw [filterMap_take_succ out xs i hlt,hz4]
      simpa using m3
    | true=>
      refine PV.bind (hk c A s3 g3 _ _ a go3.rs hz4) (fun u s5 y5 st5 g5 go5 v5 hq5=>?_)
      refine PV.bind (hv c A s5 g5 _ _ a go5.rs hq5) (fun u' s6 y6 st6 g6 go6 v6 hq6=>?_)
      obtain ⟨d,st7,g7,go7,rd,e7,q,ey,hout⟩:=asD_ok go6.rs v6 hq6
      subst e7
      subst ey
      have go57:=go6.trans go7
      have go37:=go5.trans go57
      have m7:=m3.go hit rfl go3.rs go37
      have go07:=go03.trans go37
      have v5':Rd G.w (g7.J s6.heap) (kD q) u:=VR.go go57 go5.rs _ v5
      have hkey:=ky_is (prog:=G.prog) (kyOf_kD q) v5'
      refine kEEEAAAAA m7.acc fun o es ep h0 h1 h2 h3 h4 h5=>?_
      refine kEA (dictOf_of (prog:=G.prog) h1 h2 h3 h4 h5) fun ks dd kv=>?_
      have hle:((xs.take i).filterMap out).length≤i:=Nat.le_trans (List.length_filterMap_le _ _) (by rw [List.length_take]; exact Nat.min_le_left _ _)
      have hl2:=dacc_len ((xs.take i).filterMap out) []
      refine wpAny_dictSet_pairs hkey dd (fun h' d' hs=>?_) (le_line (by rw [← kv.length]; show (dacc ((xs.take i).filterMap out)).length≤_; unfold dacc; simp only [List.length_nil,Nat.zero_add] at hl2; lia))
      have hj:∀ b o,(g7.J s6.heap).get? b=some o→(g7.J h').get? b=some o:=RS.turn_J m7.dO fun b o hb e=>(hs.2 b hb).trans e
      have hl:∃ o,h'.get? D=some o:=kEEEA d' fun o _ _ e _=>⟨o,e⟩
      obtain ⟨go8,m8⟩:=m7.acc' hit go07 hD cD hs hl (q':=.dict (dput (dacc ((xs.take i).filterMap out)) q d)) (tk:=s6.toks+1) (cr_dict h0 d' ((KV.stored kv rd).mono hj))
      refine ⟨xs.length+1 - (i+1),by omega,i+1,g7,_,rfl,hlt,go8,?_⟩
      rw [filterMap_take_succ out xs i hlt,hout]
      show CM G J I D S (i+1) (.dict (dacc (_++[(q,d)]))) _ _
      rw [dacc_snoc]
      exact m8
  · have hin:i=xs.length:=by lia
    subst hin
    refine hit.W.done s _ _ m.S fun h' tk hk=>?_
    have m':=m
    rw [List.take_length] at m'
    exact hR s g y h' tk go m' fun b o hb e=>hk b o (by simpa using hb) e
end
end
section
variable {G:Gl} {K:Sk}
noncomputable def PC (G:Gl) (c:Cx) (s:Shared) (g:Gh) (Q:V→St→Prop) (C:Addr) (v:Value) (s':Shared):Prop:=
  ∃ y st' g',Go G c s g s' g' st'∧VR G s'.heap g' y v∧C∈g'.O∧C∉g'.M∧s.heap.get? C=none∧(∀ n,c.env.cells.lookup n≠some C)∧(∃ m,s'.heap.Ns C m)∧Q y st'
section
variable {c:Cx} {A:Around} {s s':Shared} {g g':Gh} {st st':St} {C:Addr} {Q:V→St→Prop} {v:Value}
theorem unhid_J {a:Addr} {h h':Heap} (haO:a∈g.O) (hk:∀ b o,b≠a→h.get? b=some o→h'.get? b=some o):∀ b o,(g.J h).get? b=some o→(Gh.J ⟨g.O.filter (·≠a),g.M,g.as⟩ h').get? b=some o:=fun b o e=>by
  refine kA (hide_some.mp e) fun h1 h2=>?_
  exact hide_some.mpr ⟨fun q=>h1 (List.mem_filter.mp q).1,hk b o (fun q=>h1 (q▸haO)) h2⟩
theorem PC.fin (p:PC G c s g Q C v s') {h':Heap} (hs:Heap.SameBut C s'.heap h'):PV G c s g Q v { s' with heap:=h' }:=by
  obtain ⟨y,st',g',go,hv,hO,hM,hn,hc,_,hq⟩:=p
  have hk:∀ b o,b≠C→s'.heap.get? b=some o→h'.get? b=some o:=fun b o hb e=>(hs.2 b hb).trans e
  refine kA (go.rs.unhid hO hM hc hk go.le hn) fun R l=>?_
  exact ⟨y,st',_,⟨R,l,go.rest.trans ⟨rfl,rfl,rfl⟩⟩,VR.of (unhid_J hO hk) (fun _ _ e=>e) y hv,hq⟩
theorem PC.store {x:Str} {i:Nat} {p:Pos} {F:St→Prop} (h:Sto K x i) (a:At K c A) (pc:PC G c s g (fun y st'=>F (st'.put i y)) C v s') :
    wpAny (model G.prog G.w) A (PySem.assign (.Name x p) c.env v) (fun _ s''=>∃ m,s''.heap.Ns C m∧∀ h',Heap.SameBut C s''.heap h'→∃ st2 g2,Go G c s g { s'' with heap:=h' } g2 st2∧F st2) No s':=by
  obtain ⟨y,st',g',go,hv,hO,hM,hn,hc,⟨m,hm⟩,hq⟩:=pc
  refine wpAny_assign_Name (PU.bind (sto_ok (Q:=F) h a go.rs hv hq) (fun _ s2 st2 g2 go2 hq2=>?_))
  refine kEEEA hm fun o es ep ho r=>?_
  have hO2:C∈g2.O:=(go2.le.hid C o hM ho).mpr hO
  have hM2:C∉g2.M:=fun q=>by
    refine Or.elim (go2.le.sub C q) (fun q=>?_) (fun q=>?_)
    · exact hM q
    · rw [ho] at q; cases q
  refine ⟨m,⟨o,es,ep,go2.le.same C o hM ho,r⟩,fun h' hs=>?_⟩
  have hk:∀ b o,b≠C→s2.heap.get? b=some o→h'.get? b=some o:=fun b o hb e=>(hs.2 b hb).trans e
  have go02:=go.trans go2
  refine kA (go02.rs.unhid hO2 hM2 hc hk go02.le hn) fun R l=>?_
  exact ⟨st2,_,⟨R,l,go02.rest.trans ⟨rfl,rfl,rfl⟩⟩,hq2⟩
end
theorem setCs_self {st:St} (hl:∀ q∈st.μ,q.flat=true):setCs st (List.range st.μ.length) (st.μ.take (List.range st.μ.length).length)=st:=by
  have hρ:=setCs_ρ (List.range st.μ.length) (st.μ.take (List.range st.μ.length).length) st
  have hμ:(setCs st (List.range st.μ.length) (st.μ.take (List.range st.μ.length).length)).μ=st.μ:=by
    apply List.ext_getElem?
    intro k
    by_cases hk:k<st.μ.length
    · rw [setCs_at _ _ st k k List.nodup_range (by simp) (List.getElem?_range hk) hk]
      simp
    · exact setCs_not _ _ st k (by simpa using hk)
  cases hst:setCs st (List.range st.μ.length) (st.μ.take (List.range st.μ.length).length) with
  | mk ρ μ=>
    rw [hst] at hρ hμ
    dsimp only at hρ hμ
    subst hρ; subst hμ
    rfl
structure CS (G:Gl) (K:Sk) (c:Cx) (A:Around) (scope:Scope) (x:Str) (cap:List (Str×Nat)) (s2:Shared) (g2:Gh) (st2:St) (I C D:Addr) (fp:List Addr) (P:Nat→Value→Prop) (S:Nat→Heap→Prop) (xs:List PyData) (h1:Heap):Prop where
  a:At K c A
  ok:CompOk K scope x cap
  R2:RS G c g2 st2 s2.heap
  hit:Iter G A (g2.J s2.heap) I fp P S xs
  iO:I∈g2.O
  iM:I∉g2.M
  iC:∀ n,c.env.cells.lookup n≠some I
  flat:∀ q∈st2.μ,q.flat=true
  caps:∀ p∈cap,st2.get p.2≠.u
  hC:s2.heap.get? C=none
  hD:s2.heap.get? D=none
  CD:C≠D
  keep:∀ b o,s2.heap.get? b=some o→h1.get? b=some o
  ns:h1.Ns C fun _=>none
  s0:S 0 s2.heap
  len:xs.length≤2^20
section
variable {c:Cx} {A:Around} {scope:Scope} {x:Str} {cap:List (Str×Nat)} {s1 s2:Shared} {g1 g2:Gh} {st2:St} {I C D:Addr} {fp:List Addr} {P:Nat→Value→Prop} {S:Nat→Heap→Prop} {xs:List PyData} {h1:Heap} {tk1:Nat}
noncomputable def g4 (g2:Gh) (C D:Addr):Gh:=⟨C :: D :: g2.O,C :: g2.as,g2.as⟩
noncomputable def s4 (s2:Shared) (h1:Heap) (tk1:Nat):Shared:={ s2 with heap:=h1,toks:=tk1 }
noncomputable def b4 (s2:Shared) (h1:Heap) (tk1:Nat) (I D:Addr):Shared:={ s2 with heap:=hide h1 [I,D],toks:=tk1 }
theorem CS.live (z:CS G K c A scope x cap s2 g2 st2 I C D fp P S xs h1) {b:Addr} (hb:b∈g2.O):b≠C∧b≠D:=by
  refine kE (z.R2.live b hb) fun o e=>?_
  exact ⟨(fun q=>by rw [q,z.hC] at e; cases e),(fun q=>by rw [q,z.hD] at e; cases e)⟩
theorem CS.asM (z:CS G K c A scope x cap s2 g2 st2 I C D fp P S xs h1) {b:Addr} (hb:b∈g2.as):b∈g2.M:=by
  refine kE (List.getElem?_of_mem hb) fun k hk=>?_
  have hlt:k<st2.μ.length:=by rw [← z.R2.len']; exact (List.getElem?_eq_some_iff.mp hk).1
  exact (z.R2.cells k st2.μ[k] b (List.getElem?_eq_getElem hlt) (Cell.flat_alive (z.flat _ (List.getElem_mem hlt))) hk).1
theorem CS.init (z:CS G K c A scope x cap s2 g2 st2 I C D fp P S xs h1) {q:Cell} (hDl:∃ o,h1.get? D=some o) (hq:CR G h1 (g4 g2 C D) q D) :
    Go G (cxC c scope x cap C) (b4 s2 h1 tk1 I D) (g4 g2 C D) (s4 s2 h1 tk1) (g4 g2 C D) ⟨.u :: capsOf st2 cap,st2.μ⟩∧CM G (g2.J s2.heap) I D S 0 q (s4 s2 h1 tk1) (g4 g2 C D) ∧
    (∀ n,(cxC c scope x cap C).env.cells.lookup n≠some I)∧(∀ n,(cxC c scope x cap C).env.cells.lookup n≠some D):=by
  have R4:=RS.comp z.a z.ok z.R2 z.hC z.hD z.CD z.keep z.ns hDl z.flat z.caps
  have hcl:∀ n b,(cxC c scope x cap C).env.cells.lookup n=some b→c.env.cells.lookup n=some b:=cloL_sub _ _ (fun n b e=>nomatch e) (free_cell z.a z.ok)
  refine ⟨⟨R4,Le.smaller (Le.refl _ _) fun b o e=>hide_sub b o e,⟨rfl,rfl,rfl⟩⟩,⟨z.hit.W.frame _ _ _ z.s0 fun b _ o e=>z.keep b o e,by simp [g4,z.iO],?_,by simp [g4],?_,?_,fun b o e=>?_,hq⟩,fun n e=>z.iC n (hcl n I e),fun n e=>?_⟩
  · intro q
    rcases List.mem_cons.mp q with q | q
    · exact (z.live z.iO).1 q
    · exact z.iM (z.asM q)
  · intro q
    rcases List.mem_cons.mp q with q | q
    · exact z.CD q.symm
    · exact (z.live (z.R2.sub _ (z.asM q))).2 rfl
  · exact fun q=>(z.live z.iO).2 q.symm
  · refine kA (hide_some.mp e) fun e1 e2=>?_
    refine hide_some.mpr ⟨fun q=>?_,z.keep b o e2⟩
    simp only [g4,List.mem_cons] at q
    rcases q with q | q | q
    · rw [q,z.hC] at e2; cases e2
    · rw [q,z.hD] at e2; cases e2
    · exact e1 q
  · exact (z.live (z.R2.cellO n D (hcl n D e)).1).2 rfl
theorem CS.done (z:CS G K c A scope x cap s2 g2 st2 I C D fp P S xs h1) {q:Cell} {s:Shared} {g:Gh} {y:V} {h':Heap} {tk:Nat} {n:Nat} {Q:V→St→Prop} (hqf:q.flat=true) (go12:Go G c s1 g1 s2 g2 st2) (hI:s1.heap.get? I=none) (k12:∀ b o,s1.heap.get? b=some o→s2.heap.get? b=some o)
    (go:Go G (cxC c scope x cap C) (b4 s2 h1 tk1 I D) (g4 g2 C D) s g ⟨y :: capsOf st2 cap,st2.μ⟩) (m:CM G (g2.J s2.heap) I D S n q s g) (hk:∀ b o,b≠I→s.heap.get? b=some o→h'.get? b=some o)
    (hq:(∃ xs ow,q = .list xs∧newlT ow xs Q st2)∨Q (.own st2.μ.length) ⟨st2.ρ,st2.μ++[q]⟩):PC G c s1 g1 Q C (.ref D) { s with heap:=h',toks:=tk }:=by
  have hcC:∀ n,c.env.cells.lookup n≠some C:=fun n e=>(z.live (z.R2.cellO n C e).1).1 rfl
  have hcl:∀ n b,(cxC c scope x cap C).env.cells.lookup n=some b→c.env.cells.lookup n=some b:=cloL_sub _ _ (fun n b e=>nomatch e) (free_cell z.a z.ok)
  have hk0:∀ b o,b≠I→s2.heap.get? b=some o→(hide s2.heap [I]).get? b=some o:=fun b o hb e=>hide_some.mpr ⟨by simpa using hb,e⟩
  refine kA (z.R2.unhid z.iO z.iM z.iC hk0 go12.le hI) fun R0 l0=>?_
  have hbI:(b4 s2 h1 tk1 I D).heap.get? I=none:=by show (hide h1 [I,D]).get? I=none; rw [hide_get,if_pos (by simp)]
  refine kA (go.rs.unhid m.iO m.iM (fun n e=>z.iC n (hcl n I e)) hk go.le hbI) fun RF lF=>?_
  have hjF:=unhid_J (g:=g) m.iO hk
  have hCM:C∈g.M:=by have:=go.rs.loc; simpa [cxC,compEnvC] using this
  have hDF:D∈g.O.filter (·≠I):=List.mem_filter.mpr ⟨m.dO,by simpa using m.ne⟩
  have hCF:C∈g.O.filter (·≠I):=List.mem_filter.mpr ⟨go.rs.sub C hCM,by have:=(z.live z.iO).1; simpa using Ne.symm this⟩
  have left:Left G c (cxC c scope x cap C) { s2 with heap:=hide s2.heap [I] } (b4 s2 h1 tk1 I D) { s with heap:=h',toks:=tk } ⟨g2.O.filter (·≠I),g2.M,g2.as⟩ ⟨g.O.filter (·≠I),g.M,g.as⟩ st2 ⟨y :: capsOf st2 cap,st2.μ⟩ (List.range st2.μ.length) g2.as [] C (C :: D :: g2.O):=by
    refine ⟨R0,RF,fun b o e=>?_,fun b hb=>?_,lF,fun b hb=>?_,by simp [z.R2.len'],fun i k hik=>?_,List.nodup_range,fun k hk'=>?_,fun i hi=>?_⟩
    · obtain ⟨e1,e2⟩:=hide_some.mp e
      refine hide_some.mpr ⟨fun q=>?_,z.keep b o e2⟩
      simp only [List.mem_cons,List.not_mem_nil,or_false] at q
      rcases q with q | q
      · exact e1 (by simp [q])
      · rw [q,z.hD] at e2; cases e2
    · refine Or.elim hb (fun z1=>?_) (fun hb=>?_)
      · subst z1
        rw [hide_get]
        split
        · rfl
        · exact z.hC
      · cases hb
    · simp [(List.mem_filter.mp hb).1]
    · have hlt:=(List.getElem?_eq_some_iff.mp hik).1
      simp only [List.length_range] at hlt
      rw [List.getElem?_range hlt] at hik
      cases hik; rfl
    · have hlt:k<st2.μ.length:=by simpa using hk'
      exact ⟨_,List.getElem?_eq_getElem hlt,z.flat _ (List.getElem_mem hlt)⟩
    · have hlt:i<st2.μ.length:=by simpa using hi
      exact ⟨_,List.getElem?_eq_getElem hlt,z.flat _ (List.getElem_mem hlt)⟩
  have hasCD:∀ b∈g2.as,b≠C∧b≠D:=fun b hb=>z.live (z.R2.sub b (z.asM hb))
  have hg:∀ b o,b≠C→b≠D→h'.get? b=some o→(hide h' [C,D]).get? b=some o:=fun b o h1 h2 e=>hide_some.mpr ⟨by simp [h1,h2],e⟩
  have hh:∀ b o,b∉g.O.filter (·≠I)→h'.get? b=some o→(hide h' [C,D]).get? b=some o:=fun b o hb e=>hg b o (fun q=>hb (q▸hCF)) (fun q=>hb (q▸hDF)) e
  obtain ⟨R3,l3⟩:=left.back (h':=hide h' [C,D]) hh (fun b o hb e=>hg b o (hasCD b hb).1 (hasCD b hb).2 e)
    (fun b o hb e=>by
      have e2:=hide_sub _ _ e
      exact hg b o (fun q=>by rw [q,z.hC] at e2; cases e2) (fun q=>by rw [q,z.hD] at e2; cases e2) (left.same b o hb e))
  have hself:=setCs_self z.flat
  rw [hself] at R3
  have hJ:=left.J hh
  have hDn:(hide h' [C,D]).get? D=none:=by rw [hide_get,if_pos (by simp)]
  have hDl:∃ o,h'.get? D=some o:=RF.live D hDF
  have hk1:∀ b o,(hide h' [C,D]).get? b=some o→(hide h' [C]).get? b=some o:=fun b o e=>by
    refine kA (hide_some.mp e) fun e1 e2=>?_
    exact hide_some.mpr ⟨fun q=>e1 (by simp at q; simp [q]),e2⟩
  have hD1:∀ o,h'.get? D=some o→(hide h' [C]).get? D=some o:=fun o e=>hide_some.mpr ⟨by simpa using z.CD.symm,e⟩
  have hacc:CR G h' ⟨g.O.filter (·≠I),g.M,g.as⟩ q D:=CR.flat hjF hqf (fun o e=>hk D o m.ne e) m.acc
  have go3:Go G c s1 g1 { s with heap:=hide h' [C,D],toks:=tk } ⟨g2.O.filter (·≠I),g2.M,g2.as⟩ st2:=⟨R3,l0.trans l3,⟨go.rest.gens.trans go12.rest.gens,go.rest.drawn.trans go12.rest.drawn,go.rest.os.trans go12.rest.os⟩⟩
  have pv:PV G c { s with heap:=hide h' [C,D],toks:=tk } ⟨g2.O.filter (·≠I),g2.M,g2.as⟩ Q (.ref D) { s with heap:=hide h' [C],toks:=tk }:=by
    rcases hq with ⟨xs',ow,rfl,hq⟩ | hq
    · refine kEEA hacc fun us k hl hr=>?_
      exact newl_at (s:={ s with heap:=hide h' [C,D],toks:=tk }) (tk:=tk) ow R3 hDn hk1 (hD1 _ hl) (RdL.mono hJ _ hr) hq
    · refine newAt (s:={ s with heap:=hide h' [C,D],toks:=tk }) (tk:=tk) (q:=q) R3 hDn hk1 (kE hDl fun o e=>⟨o,hD1 o e⟩) (fun hj=>CR.flat (fun b o e=>hj b o (hJ b o e)) hqf hD1 hacc) hq
  obtain ⟨y',st',g',go',v',hq'⟩:=pv
  have hCn:(hide h' [C]).get? C=none:=by rw [hide_get,if_pos (by simp)]
  have hCl:∃ o,h'.get? C=some o:=RF.live C hCF
  refine kA (go'.rs.hid (h':=h') hCn (fun b o e=>hide_sub b o e) hCl) fun R5 l5=>?_
  have go5:Go G c s1 g1 { s with heap:=h',toks:=tk } ⟨C :: g'.O,g'.M,g'.as⟩ st':=(go3.trans go').trans ⟨R5,l5,⟨rfl,rfl,rfl⟩⟩
  refine kEEA RF.names fun mC _ hnC _=>?_
  refine ⟨y',st',_,go5,VR.of (l5.still go'.rs.sub) (fun _ _ e=>e) y' v',by simp,fun q=>?_,?_,hcC,⟨mC,hnC⟩,hq'⟩
  · refine kE (go'.rs.live C (go'.rs.sub C q)) fun o e=>?_
    rw [hCn] at e; cases e
  · cases e:s1.heap.get? C with
    | none=>rfl
    | some o=>have:=k12 C o e; rw [z.hC] at this; cases this
end
end
section
variable {G:Gl} {K:Sk}
noncomputable def lcK (ow:Bool) (tst:Tr Bool) (et:Tr V) (cap:List (Str×Nat)) (R:QV):List PyData→St→Prop:=fun xs st2=>(∀ q∈st2.μ,q.flat=true)∧(∀ p∈cap,st2.get p.2≠.u) ∧
  ∃ out,(∀ (i:Nat) (z:PyData),xs[i]?=some z→turnL tst et (fun z=>cs0 st2 cap (.d z)) out z)∧newlT ow (xs.filterMap out) R st2
noncomputable def lcK0 (ow:Bool) (tst:Tr Bool) (et:Tr V) (cap:List (Str×Nat)) (R:QV):QV:=fun y st1=>itV y (lcK ow tst et cap R) st1
noncomputable def lcT (ow:Bool) (it:Tr V) (tst:Tr Bool) (et:Tr V) (cap:List (Str×Nat)):Tr V:=fun Q st=>it (lcK0 ow tst et cap Q) st
noncomputable def dcK (tst:Tr Bool) (kt vt:Tr V) (cap:List (Str×Nat)) (R:QV):List PyData→St→Prop:=fun xs st2=>(∀ q∈st2.μ,q.flat=true)∧(∀ p∈cap,st2.get p.2≠.u) ∧
  ∃ out,(∀ (i:Nat) (z:PyData),xs[i]?=some z→turnD tst kt vt (fun z=>cs0 st2 cap (.d z)) out z)∧R (.own st2.μ.length) ⟨st2.ρ,st2.μ++[.dict (dacc (xs.filterMap out))]⟩
noncomputable def dcK0 (tst:Tr Bool) (kt vt:Tr V) (cap:List (Str×Nat)) (R:QV):QV:=fun y st1=>itV y (dcK tst kt vt cap R) st1
noncomputable def dcT (it:Tr V) (tst:Tr Bool) (kt vt:Tr V) (cap:List (Str×Nat)):Tr V:=fun Q st=>it (dcK0 tst kt vt cap Q) st
section
variable {c:Cx} {A:Around} {scope:Scope} {x:Str} {cap:List (Str×Nat)} {s s1:Shared} {g g1:Gh} {st st1:St}
theorem sto0 (a:At K c A) (ok:CompOk K scope x cap):Sto (KC K scope x cap) x 0:=⟨rfl,.inl (by
  show (relab scope K.sc).names.lookup x=some .local
  rw [← relab_eq a]
  exact lookup_relabel_local ok.loc)⟩
theorem fresh_ge {h:Heap} {a:Addr} (ha:h.objs.size≤a):h.get? a=none:=by
  cases e:h.get? a with
  | none=>rfl
  | some o=>exact absurd (Heap.lt_size e) (Nat.not_lt.mpr ha)
theorem CS.mk' {s2:Shared} {g2:Gh} {st2:St} {I:Addr} {fp:List Addr} {P:Nat→Value→Prop} {S:Nat→Heap→Prop} {xs:List PyData} {oD oC:Obj} {h1:Heap} (a:At K c A) (ok:CompOk K scope x cap) (R2:RS G c g2 st2 s2.heap)
    (hit:Iter G A (g2.J s2.heap) I fp P S xs) (iO:I∈g2.O) (iM:I∉g2.M) (iC:∀ n,c.env.cells.lookup n≠some I) (flat:∀ q∈st2.μ,q.flat=true) (caps:∀ p∈cap,st2.get p.2≠.u) (s0:S 0 s2.heap) (len:xs.length≤2^20) (hoD:oD.isFreed=false)
    (ns:h1.Ns (s2.heap.push oD).objs.size fun _=>none) (sb:Heap.SameBut (s2.heap.push oD).objs.size ((s2.heap.push oD).push oC) h1) :
    CS G K c A scope x cap s2 g2 st2 I (s2.heap.push oD).objs.size s2.heap.objs.size fp P S xs h1∧h1.get? s2.heap.objs.size=some oD:=by
  have hC:(s2.heap.push oD).objs.size=s2.heap.objs.size+1:=Heap.size_push ..
  have hne:∀ b o,(s2.heap.push oD).get? b=some o→h1.get? b=some o:=fun b o e=>(sb.2 b (fun q=>by simp only [q,get?_size] at e; cases e)).trans (push_keep _ _ b o e)
  exact ⟨⟨a,ok,R2,hit,iO,iM,iC,flat,caps,fresh_ge (by simp only [hC]; exact Nat.le_succ _),get?_size _,by rw [hC]; exact Nat.succ_ne_self _,fun b o e=>hne b o (push_keep _ _ b o e),ns,s0,len⟩,hne _ _ (Heap.get?_push_size _ hoD)⟩
end
theorem comp_run {iter:Expr} {scope:Scope} {x:Str} {cap:List (Str×Nat)} {c:Cx} {A:Around} {s1:Shared} {g1:Gh} {st1:St} {y:V} {v:Value} {Q:V→St→Prop} {px:Pos} {elt:Expr} {ifs:List Expr} {pos:Pos} {tst:Tr Bool} {et:Tr V}
    {RR:Value→Addr→Result→Shared→Prop} (ow:Bool) (a:At K c A) (ok:CompOk K scope x cap) (ht:SemQ G (KC K scope x cap) ifs tst) (he:SemE G (KC K scope x cap) elt et) (R1:RS G c g1 st1 s1.heap) (v1:VR G s1.heap g1 y v)
    (hq:itV y (fun xs st2=>(∀ q∈st2.μ,q.flat=true)∧(∀ p∈cap,st2.get p.2≠.u)∧∃ out,(∀ (i:Nat) (z:PyData),xs[i]?=some z→turnL tst et (fun z=>cs0 st2 cap (.d z)) out z)∧newlT ow (xs.filterMap out) Q st2) st1)
    (hRR:∀ C D s',PC G c s1 g1 Q C (.ref D) s'→RR (.ref D) C (.ok .next) s') :
    wpAny (model G.prog G.w) A (pyIter v) (fun it s₂=>wpAny (model G.prog G.w) A (newList []) (fun acc s₃=>wpAny (model G.prog G.w) A (newFunctionEnv scope c.env.globals (cloL c.env.cells scope.names []) [] c.env.qual none .none (some c.env)) (fun cenv s₄=>
      codeAny (model G.prog G.w) A (.compStart (.ListComp elt [⟨.Name x px,iter,ifs,0⟩] scope pos) 0 it acc { cenv with scope:=relabel scope c.env }) (RR acc cenv.locals) s₄) No s₃) No s₂) No s1:=by
  refine wpAny_mono (itV_ok a.room R1 v1 hq) (fun it s2 hp=>?_) fun _ _ e=>e
  obtain ⟨I,fp,P,S,xs,st2,g2,rfl,go2,hit,h0,hnew,hO,hM,hcl,hlen,hkeep,hflat,hcap,out,hturn,hfin⟩:=hp
  refine wpAny_newObj_type (wpAny_newFunctionEnv ok.nocell (by intro z hz; simp at hz) (fun h1 hns hsb=>?_) ok.kind)
  refine kA (CS.mk' (oD:={ cls:=.type "list",dict:=none,data:=.seq ([]:List Value).toArray }) a ok go2.rs hit hO hM hcl hflat hcap h0 hlen rfl hns hsb) fun z hDg=>?_
  refine kAAA (z.init (tk1:=s2.toks+([]:List (Str×Value)).length) (q:=.list []) ⟨_,hDg⟩ ⟨_,_,hDg,by simp only [RdL]⟩) fun go4 m4 c1 c2=>?_
  have loop:codeAny (model G.prog G.w) A (.compLoop (.ListComp elt [⟨.Name x px,iter,ifs,0⟩] scope pos) 0 (.ref I) (.ref s2.heap.objs.size) (cxC c scope x cap (s2.heap.push { cls:=.type "list",dict:=none,data:=.seq ([]:List Value).toArray }).objs.size).env)
      (RR (.ref s2.heap.objs.size) (s2.heap.push { cls:=.type "list",dict:=none,data:=.seq ([]:List Value).toArray }).objs.size) (s4 s2 h1 (s2.toks+([]:List (Str×Value)).length)):=by
    refine loop_list hit (at_comp a ok) (sto0 a ok) ht he (by show (hide h1 _).get? _=none; rw [hide_get,if_pos (by simp)]) (by show (hide h1 _).get? _=none; rw [hide_get,if_pos (by simp)]) c1 c2 hlen hturn go4 m4 fun s g y' h' tk go m hk=>?_
    exact hRR _ _ _ (z.done rfl go2 hnew hkeep go m hk (.inl ⟨_,ow,rfl,hfin⟩))
  exact codeAny_compStart_list loop (hit.W.self 0 _ _ _ m4.S loop)
theorem comp_runD {iter:Expr} {scope:Scope} {x:Str} {cap:List (Str×Nat)} {c:Cx} {A:Around} {s1:Shared} {g1:Gh} {st1:St} {y:V} {v:Value} {Q:V→St→Prop} {px:Pos} {kx vx:Expr} {ifs:List Expr} {pos:Pos} {tst:Tr Bool} {kt vt:Tr V}
    {RR:Value→Addr→Result→Shared→Prop} (a:At K c A) (ok:CompOk K scope x cap) (ht:SemQ G (KC K scope x cap) ifs tst) (hk:SemE G (KC K scope x cap) kx kt) (hv:SemE G (KC K scope x cap) vx vt) (R1:RS G c g1 st1 s1.heap) (v1:VR G s1.heap g1 y v)
    (hq:itV y (fun xs st2=>(∀ q∈st2.μ,q.flat=true)∧(∀ p∈cap,st2.get p.2≠.u)∧∃ out,(∀ (i:Nat) (z:PyData),xs[i]?=some z→turnD tst kt vt (fun z=>cs0 st2 cap (.d z)) out z)∧Q (.own st2.μ.length) ⟨st2.ρ,st2.μ++[.dict (dacc (xs.filterMap out))]⟩) st1)
    (hRR:∀ C D s',PC G c s1 g1 Q C (.ref D) s'→RR (.ref D) C (.ok .next) s') :
    wpAny (model G.prog G.w) A (pyIter v) (fun it s₂=>wpAny (model G.prog G.w) A newDict (fun acc s₃=>wpAny (model G.prog G.w) A (newFunctionEnv scope c.env.globals (cloL c.env.cells scope.names []) [] c.env.qual none .none (some c.env)) (fun cenv s₄=>
      codeAny (model G.prog G.w) A (.compStart (.DictComp kx vx [⟨.Name x px,iter,ifs,0⟩] scope pos) 0 it acc { cenv with scope:=relabel scope c.env }) (RR acc cenv.locals) s₄) No s₃) No s₂) No s1:=by
  refine wpAny_mono (itV_ok a.room R1 v1 hq) (fun it s2 hp=>?_) fun _ _ e=>e
  obtain ⟨I,fp,P,S,xs,st2,g2,rfl,go2,hit,h0,hnew,hO,hM,hcl,hlen,hkeep,hflat,hcap,out,hturn,hfin⟩:=hp
  refine wpAny_newObj_type (wpAny_newFunctionEnv ok.nocell (by intro z hz; simp at hz) (fun h1 hns hsb=>?_) ok.kind)
  refine kA (CS.mk' (oD:={ cls:=.type "dict",dict:=none,data:=.dict #[] }) a ok go2.rs hit hO hM hcl hflat hcap h0 hlen rfl hns hsb) fun z hDg=>?_
  have hnd:h1.DictOf (ky G.prog G.w) s2.heap.objs.size []:=by
    refine kEEEA (Heap.DictOf.new (knd:=ky G.prog G.w) s2.heap) fun o es ep e1 r=>?_
    rw [Heap.get?_push_size _ rfl] at e1
    cases e1
    exact ⟨_,es,ep,hDg,r⟩
  refine kAAA (z.init (tk1:=s2.toks+([]:List (Str×Value)).length) (q:=.dict []) ⟨_,hDg⟩ (cr_dict (not_sys go2.rs) hnd .nil)) fun go4 m4 c1 c2=>?_
  have loop:codeAny (model G.prog G.w) A (.compLoop (.DictComp kx vx [⟨.Name x px,iter,ifs,0⟩] scope pos) 0 (.ref I) (.ref s2.heap.objs.size) (cxC c scope x cap (s2.heap.push { cls:=.type "dict",dict:=none,data:=.dict #[] }).objs.size).env)
      (RR (.ref s2.heap.objs.size) (s2.heap.push { cls:=.type "dict",dict:=none,data:=.dict #[] }).objs.size) (s4 s2 h1 (s2.toks+([]:List (Str×Value)).length)):=by
    refine loop_dict hit (at_comp a ok) (sto0 a ok) ht hk hv (by show (hide h1 _).get? _=none; rw [hide_get,if_pos (by simp)]) (by show (hide h1 _).get? _=none; rw [hide_get,if_pos (by simp)]) c1 c2 hlen hturn go4 m4 fun s g y' h' tk go m hk=>?_
    exact hRR _ _ _ (z.done rfl go2 hnew hkeep go m hk (.inr hfin))
  exact codeAny_compStart_dict loop (hit.W.self 0 _ _ _ m4.S loop)
theorem SemE.lc {elt iter:Expr} {scope:Scope} {x:Str} {cap:List (Str×Nat)} {px pos:Pos} {ifs:List Expr} {it:Tr V} {tst:Tr Bool} {et:Tr V} (ow:Bool) (ok:CompOk K scope x cap) (h:SemE G K iter it) (ht:SemQ G (KC K scope x cap) ifs tst) (he:SemE G (KC K scope x cap) elt et)
    (hs:∀ env x,foldedSetIterable iter env x=pure x):SemE G K (.ListComp elt [⟨.Name x px,iter,ifs,0⟩] scope pos) (lcT ow it tst et cap):=fun c A s g st Q a R hq=>by
  refine wpAny_comprehension_free (use:=none) rfl (hs _) (closure_ok (free_cell a ok)) ok.kind ok.names (PV.bind (h c A s g st _ a R hq) (fun v s1 y st1 g1 go1 v1 hq1=>?_))
  refine comp_run ow a ok ht he go1.rs v1 hq1 (RR:=fun acc C=>compPost (model G.prog G.w) A No none (PV G c s g Q) acc C) fun C D s' pc=>?_
  obtain ⟨m,hm⟩:=pc.choose_spec.choose_spec.choose_spec.2.2.2.2.2.2.1
  exact ⟨m,hm,fun h' hs'=>PV.pre go1 (pc.fin hs')⟩
theorem SemE.dc {kx vx iter:Expr} {scope:Scope} {x:Str} {cap:List (Str×Nat)} {px pos:Pos} {ifs:List Expr} {it:Tr V} {tst:Tr Bool} {kt vt:Tr V} (ok:CompOk K scope x cap) (h:SemE G K iter it) (ht:SemQ G (KC K scope x cap) ifs tst) (hk:SemE G (KC K scope x cap) kx kt)
    (hv:SemE G (KC K scope x cap) vx vt) (hs:∀ env x,foldedSetIterable iter env x=pure x):SemE G K (.DictComp kx vx [⟨.Name x px,iter,ifs,0⟩] scope pos) (dcT it tst kt vt cap):=fun c A s g st Q a R hq=>by
  refine wpAny_comprehension_free (use:=none) rfl (hs _) (closure_ok (free_cell a ok)) ok.kind ok.names (PV.bind (h c A s g st _ a R hq) (fun v s1 y st1 g1 go1 v1 hq1=>?_))
  refine comp_runD a ok ht hk hv go1.rs v1 hq1 (RR:=fun acc C=>compPost (model G.prog G.w) A No none (PV G c s g Q) acc C) fun C D s' pc=>?_
  obtain ⟨m,hm⟩:=pc.choose_spec.choose_spec.choose_spec.2.2.2.2.2.2.1
  exact ⟨m,hm,fun h' hs'=>PV.pre go1 (pc.fin hs')⟩
theorem SemS.assignLc {elt iter:Expr} {scope:Scope} {x z:Str} {i:Nat} {cap:List (Str×Nat)} {px pz pos spos:Pos} {ifs:List Expr} {it:Tr V} {tst:Tr Bool} {et:Tr V} (ow:Bool) (ok:CompOk K scope x cap) (h:SemE G K iter it) (ht:SemQ G (KC K scope x cap) ifs tst) (he:SemE G (KC K scope x cap) elt et)
    (hz:Sto K z i) (hs:∀ env x,foldedSetIterable iter env x=pure x) (hsw:∀ env,env.scope=K.sc→swapsWith (.ListComp elt [⟨.Name x px,iter,ifs,0⟩] scope pos) (some (.Name z pz)) spos.line env=pure true) :
    SemS G K (.Assign [.Name z pz] (.ListComp elt [⟨.Name x px,iter,ifs,0⟩] scope pos) spos) (asgT i (lcT ow it tst et cap)):=fun c A s g st Q a R hq=>by
  rw [exec_Assign_Name_used _ _ _ _ (hsw _ a.sc)]
  refine wpAny_bind (wpAny_standAt (wpAny_bind ?_))
  refine wpAny_bind (wpAny_mono (wpAny_comprehension_free (use:=some (PySem.assign (.Name z pz) c.env)) (Q:=fun _ s'=>PF G c s g Q .next s') rfl (hs _) (closure_ok (free_cell a ok)) ok.kind ok.names
    (PV.bind (h c A s g st _ a R hq) (fun v s1 y st1 g1 go1 v1 hq1=>?_))) (fun _ s' hq=>wpAny_pure (wpAny_pure hq)) fun _ _ e=>e)
  refine comp_run ow a ok ht he go1.rs v1 hq1 (RR:=fun acc C=>compPost (model G.prog G.w) A No (some (PySem.assign (.Name z pz) c.env)) (fun _ s'=>PF G c s g Q .next s') acc C) fun C D s' pc=>?_
  refine wpAny_mono (PC.store (F:=fun st'=>Q .next st') hz a pc) (fun _ s2 z1=>kEA z1 fun m hm hfin=>⟨m,hm,fun h' hs'=>?_⟩) fun _ _ e=>e
  refine kEEA (hfin h' hs') fun st3 g3 go3 hq3=>?_
  exact ⟨.next,st3,g3,go1.trans go3,trivial,hq3⟩
end
noncomputable def holdK {α:Type} (f:Nat→Nat→Bool) (n:Nat):KasT α→(α→Prop)→Prop
  | .ret a,Q=>Q a
  | .ask i j k,Q=>i<n∧j<n∧holdK f n (k (f i j)) Q
theorem holdK_bind {α β:Type} {f:Nat→Nat→Bool} {n:Nat} {g:α→KasT β} {Q:β→Prop}:∀ (t:KasT α),holdK f n t (fun a=>holdK f n (g a) Q)→holdK f n (t.bind g) Q
  | .ret a,h=>h
  | .ask i j k,h=>⟨h.1,h.2.1,holdK_bind (k (f i j)) h.2.2⟩
theorem holdK_mono {α:Type} {f:Nat→Nat→Bool} {n:Nat} {Q Q':α→Prop} (hq:∀ a,Q a→Q' a):∀ (t:KasT α),holdK f n t Q→holdK f n t Q'
  | .ret a,h=>hq a h
  | .ask i j k,h=>⟨h.1,h.2.1,holdK_mono hq (k (f i j)) h.2.2⟩
theorem holdK_wp {α:Type} {f:Nat→Nat→Bool} {n:Nat} {cmp:Nat→Nat→(Bool→Shared→Prop)→Shared→Prop} {Inv:Shared→Prop} (hc:∀ i j C s,i<n→j<n→Inv s→(∀ s',Inv s'→C (f i j) s')→cmp i j C s) {Q':α→Prop} {Q:α→Shared→Prop}
    (hq:∀ a s,Q' a→Inv s→Q a s):∀ (t:KasT α) (s:Shared),holdK f n t Q'→Inv s→t.kasWp cmp Q s
  | .ret a,s,h,hs=>hq a s h hs
  | .ask i j k,s,h,hs=>hc i j _ s h.1 h.2.1 hs fun s' hs'=>holdK_wp hc hq (k (f i j)) s' h.2.2 hs'
structure StrictOn (f:Nat→Nat→Bool) (n:Nat):Prop where
  tot:∀ i j,i<n→j<n→i≠j→f i j=false→f j i=true
  tr:∀ i j k,i<n→j<n→k<n→f i j=true→f j k=true→f i k=true
section
variable {f:Nat→Nat→Bool} {N:Nat}
noncomputable def at' (p:Array Nat) (k:Nat):Nat:=p.getD k 0
structure Ar (N:Nat) (p:Array Nat):Prop where
  size:p.size=N
  perm:p.toList.Perm (List.range N)
theorem Ar.lt {p:Array Nat} (h:Ar N p) {k:Nat} (hk:k<N):at' p k<N:=by
  have hk':k<p.size:=by rw [h.size]; exact hk
  have e:at' p k=p[k]:=by simp [at',Array.getD,hk']
  rw [e]
  have hm:p[k]∈p.toList:=by simp
  exact List.mem_range.mp (h.perm.mem_iff.mp hm)
theorem Ar.ne {p:Array Nat} (h:Ar N p) {i j:Nat} (hi:i<N) (hj:j<N) (hij:i≠j):at' p i≠at' p j:=by
  have nd:p.toList.Nodup:=(h.perm.nodup_iff).mpr List.nodup_range
  have hi':i<p.size:=by rw [h.size]; exact hi
  have hj':j<p.size:=by rw [h.size]; exact hj
  have e1:at' p i=p[i]:=by simp [at',Array.getD,hi']
  have e2:at' p j=p[j]:=by simp [at',Array.getD,hj']
  simp only [e1,e2]
  intro q
  have h1:p.toList[i]?=some p[i]:=by simp [hi']
  have h2:p.toList[j]?=some p[i]:=by rw [q]; simp [hj']
  exact hij (nd_get nd h1 h2)
noncomputable def Pre (f:Nat→Nat→Bool) (p:Array Nat) (m:Nat):Prop:=∀ i j,i<j→j<m→f (at' p i) (at' p j)=true
noncomputable def Dsc (f:Nat→Nat→Bool) (p:Array Nat) (m:Nat):Prop:=∀ i j,i<j→j<m→f (at' p j) (at' p i)=true
theorem Pre.step (s:StrictOn f N) {p:Array Nat} (h:Ar N p) {n:Nat} (h1:1≤n) (hn:n<N) (hp:Pre f p n) (hs:f (at' p (n - 1)) (at' p n)=true):Pre f p (n+1):=fun i j hij hj=>by
  by_cases hjn:j<n
  · exact hp i j hij hjn
  · obtain rfl:j=n:=by lia
    by_cases hi:i=j - 1
    · subst hi; exact hs
    · exact s.tr _ _ _ (h.lt (by exact Nat.lt_trans (by assumption) (by assumption))) (h.lt (by omega)) (h.lt hn) (hp i (j - 1) (by lia) (by omega)) hs
theorem Dsc.step (s:StrictOn f N) {p:Array Nat} (h:Ar N p) {n:Nat} (h1:1≤n) (hn:n<N) (hp:Dsc f p n) (hs:f (at' p n) (at' p (n - 1))=true):Dsc f p (n+1):=fun i j hij hj=>by
  by_cases hjn:j<n
  · exact hp i j hij hjn
  · obtain rfl:j=n:=by lia
    by_cases hi:i=j - 1
    · subst hi; exact hs
    · exact s.tr _ _ _ (h.lt hn) (h.lt (by omega)) (h.lt (by exact Nat.lt_trans (by assumption) (by assumption))) hs (hp i (j - 1) (by lia) (by omega))
theorem asc_ok (s:StrictOn f N) {p:Array Nat} (h:Ar N p):∀ (F n:Nat),1≤n→n+F≤N→Pre f p n→holdK f N (kas_asc p F n) fun m=>n≤m∧m≤n+F∧Pre f p m∧(m<n+F→f (at' p m) (at' p (m - 1))=true):=by
  intro xs9
  induction xs9 with
  | zero=>
    intro n h1 hn hp
    exact ⟨Nat.le_refl _,Nat.le_refl _,hp,fun q=>absurd q (Nat.lt_irrefl _)⟩
  | succ F ih=>
    intro n h1 hn hp
    refine ⟨h.lt (by omega),h.lt (by omega),?_⟩
    cases e:f (p.getD n 0) (p.getD (n - 1) 0) with
    | true=>exact ⟨Nat.le_refl _,by exact Nat.le_add_right _ _,hp,fun _=>e⟩
    | false=>
      have hs:=s.tot _ _ (h.lt (k:=n) (by omega)) (h.lt (k:=n - 1) (by omega)) (h.ne (by omega) (by omega) (by omega)) e
      refine holdK_mono (fun m hm=>⟨by omega,by omega,hm.2.2.1,fun q=>hm.2.2.2 (by omega)⟩) _ (ih (n+1) (by exact Nat.le_succ_of_le (by assumption)) (by omega) (hp.step s h h1 (by omega) hs))
theorem desc_ok (s:StrictOn f N) {p:Array Nat} (h:Ar N p):∀ (F n:Nat),1≤n→n+F≤N→Dsc f p n→holdK f N (kas_desc F p n 0) fun r=>r.1=p∧r.2.2=0∧n≤r.2.1∧r.2.1≤n+F∧Dsc f p r.2.1:=by
  intro xs9
  induction xs9 with
  | zero=>
    intro n h1 hn hp
    exact ⟨rfl,rfl,Nat.le_refl _,Nat.le_refl _,hp⟩
  | succ F ih=>
    intro n h1 hn hp
    refine ⟨h.lt (by omega),h.lt (by omega),?_⟩
    cases e:f (p.getD n 0) (p.getD (n - 1) 0) with
    | true=>
      dsimp only [if_true,Nat.lt_irrefl,gt_iff_lt,if_false]
      exact holdK_mono (fun r hm=>⟨hm.1,hm.2.1,by omega,by omega,hm.2.2.2.2⟩) _ (ih (n+1) (by exact Nat.le_succ_of_le (by assumption)) (by omega) (hp.step s h h1 (by omega) e))
    | false=>
      have hs:=s.tot _ _ (h.lt (k:=n) (by omega)) (h.lt (k:=n - 1) (by omega)) (h.ne (by omega) (by omega) (by omega)) e
      dsimp only [Bool.false_eq_true,if_false]
      refine ⟨h.lt (by omega),h.lt (by omega),?_⟩
      rw [show f (p.getD (n - 1) 0) (p.getD n 0)=true from hs]
      exact ⟨rfl,rfl,Nat.le_refl _,by show n≤n+(F+1); exact Nat.le_add_right _ _,hp⟩
theorem Ar.rev {p:Array Nat} (h:Ar N p) (i j:Nat):Ar N (kas_rev p i j):=⟨(mirror_size _ _ _ _).trans h.size,(Array.perm_iff_toList_perm.mp (mirror_perm p i j _)).trans h.perm⟩
theorem rev_at {p:Array Nat} {n:Nat} (hn:n≤p.size) (k:Nat):at' (kas_rev p 0 n) k=if k<n then at' p (n - 1 - k) else at' p k:=by
  have e:=getElem?_mirror_all (xs:=p) (i:=0) hn k
  delta at' kas_rev
  rw [Array.getD_eq_getD_getElem?,e]
  by_cases hk:k<n
  · rw [if_pos ⟨Nat.zero_le _,hk⟩,if_pos hk,Array.getD_eq_getD_getElem?,Nat.zero_add]
  · rw [if_neg (fun q=>hk q.2),if_neg hk,Array.getD_eq_getD_getElem?]
theorem rev_pre {p:Array Nat} (h:Ar N p) {n:Nat} (hn:n≤N) (hd:Dsc f p n):Pre f (kas_rev p 0 n) n:=fun i j hij hj=>by
  rw [rev_at (by rw [h.size]; exact hn),rev_at (by rw [h.size]; exact hn),if_pos (by exact Nat.lt_trans (by assumption) (by assumption)),if_pos hj]
  exact hd _ _ (by omega) (by omega)
theorem rev_one {p:Array Nat}:kas_rev p 0 1=p:=rfl
noncomputable def GoodP (f:Nat→Nat→Bool) (N:Nat) (r:Nat×Array Nat):Prop:=1≤r.1∧r.1≤N∧Ar N r.2∧Pre f r.2 r.1
theorem tail3_ok (s:StrictOn f N) {p:Array Nat} (h:Ar N p) {n:Nat} (h1:1≤n) (hn:n≤N) (hd:Dsc f p n):holdK f N (kas_tail3 n N p) (GoodP f N):=by
  unfold kas_tail3
  refine holdK_bind _ (holdK_mono (fun m hm=>?_) _ (asc_ok s (h.rev 0 n) (N - n) n h1 (by lia) (rev_pre h hn hd)))
  exact ⟨by show 1≤m; lia,by show m≤N; lia,h.rev 0 n,hm.2.2.1⟩
theorem descPart_ok (s:StrictOn f N) {p:Array Nat} (h:Ar N p) (hN:2≤N) (hd:f (at' p 1) (at' p 0)=true):holdK f N (kas_descPart 1 N p) (GoodP f N):=by
  unfold kas_descPart
  have d2:Dsc f p 2:=fun i j hij hj=>by
    obtain rfl:j=1:=by lia
    obtain rfl:i=0:=by lia
    exact hd
  refine holdK_bind _ (holdK_mono (fun r hr=>?_) _ (desc_ok s h (N - (1+1)) (1+1) (by decide) (by omega) d2))
  refine kAAAA hr fun e1 e2 h3 h4 h5=>?_
  rw [e2,if_neg (by decide),e1]
  exact tail3_ok s h (by exact Nat.le_of_lt (by assumption)) (by omega) h5
theorem count_ok (s:StrictOn f N) {p:Array Nat} (h:Ar N p) (hN:2≤N):holdK f N (kas_count N p) (GoodP f N):=by
  unfold kas_count
  refine holdK_bind _ (holdK_mono (fun m hm=>?_) _ (asc_ok s h (N - 1) 1 (Nat.le_refl _) (by lia) (fun i j hij hj=>by lia)))
  obtain ⟨h1,h2,h3,h4⟩:=hm
  by_cases e:m=N
  · rw [if_pos (by simpa using e)]
    exact ⟨h1,by show m≤N; lia,h,h3⟩
  · rw [if_neg (by simpa using e)]
    by_cases h5:m>1
    · rw [if_pos h5]
      refine ⟨h.lt (by exact Nat.le_of_lt (by assumption)),h.lt (by lia),?_⟩
      rw [show f (p.getD 0 0) (p.getD (m - 1) 0)=true from h3 0 (m - 1) (by omega) (by omega)]
      exact ⟨h1,by show m≤N; lia,h,h3⟩
    · rw [if_neg h5]
      obtain rfl:m=1:=by lia
      exact descPart_ok s h hN (h4 (by lia))
theorem mid_lt {l r:Nat} (h:l<r):l≤(l+r) / 2∧(l+r) / 2<r:=⟨by omega,by omega⟩
theorem left_le {l m r F:Nat} (h:m<r) (h3:r - l≤F+1):m - l≤F:=by omega
theorem right_le {l m r F:Nat} (h:l≤m) (h3:r - l≤F+1):r - (m+1)≤F:=by omega
theorem place_ok (s:StrictOn f N) {p:Array Nat} (h:Ar N p) {k:Nat} (hk:k<N) (hp:Pre f p k) (F l r:Nat) (h1:l≤r) (h2:r≤k) (h3:r - l≤F) (h4:∀ i,i<l→f (at' p i) (at' p k)=true) (h5:∀ i,r≤i→i<k→f (at' p k) (at' p i)=true) :
    holdK f N (kas_place p k F l r) fun m=>m≤k∧(∀ i,i<m→f (at' p i) (at' p k)=true)∧∀ i,m≤i→i<k→f (at' p k) (at' p i)=true:=by
  induction F generalizing l r with
  | zero=>
    obtain rfl:l=r:=Nat.le_antisymm h1 (Nat.le_of_sub_eq_zero (Nat.le_zero.mp h3))
    exact ⟨h2,h4,h5⟩
  | succ F ih=>
    unfold kas_place
    by_cases e:l≥r
    · rw [if_pos e]
      obtain rfl:=Nat.le_antisymm h1 e
      exact ⟨h2,h4,h5⟩
    · rw [if_neg e]
      have hm:=mid_lt (Nat.lt_of_not_le e)
      generalize (l+r) / 2=m at hm
      have mk:=Nat.lt_of_lt_of_le hm.2 h2
      have mN:=Nat.lt_trans mk hk
      refine ⟨h.lt hk,h.lt mN,?_⟩
      cases q:f (p.getD k 0) (p.getD m 0) with
      | true=>
        refine ih l m hm.1 (Nat.le_of_lt mk) (left_le hm.2 h3) h4 fun i hi hik=>?_
        rcases Nat.eq_or_lt_of_le hi with him | him
        · exact him▸q
        · exact s.tr _ _ _ (h.lt hk) (h.lt mN) (h.lt (Nat.lt_trans hik hk)) q (hp m i him hik)
      | false=>
        have hs:=s.tot _ _ (h.lt hk) (h.lt mN) (h.ne hk mN (Nat.ne_of_gt mk)) q
        refine ih (m+1) r hm.2 h2 (right_le hm.1 h3) (fun i hi=>?_) h5
        rcases Nat.eq_or_lt_of_le (Nat.le_of_lt_succ hi) with him | him
        · exact him▸hs
        · exact s.tr _ _ _ (h.lt (Nat.lt_trans him mN)) (h.lt mN) (h.lt hk) (hp i m him mk) hs
theorem Ar.bubble {p:Array Nat} (h:Ar N p) (k d:Nat):Ar N (PyProof.Rows.bubble p k d):=⟨(bubble_size _ _ _).trans h.size,(Array.perm_iff_toList_perm.mp (bubble_perm p k d)).trans h.perm⟩
theorem bubble_at {p:Array Nat} {k l:Nat} (hk:k<p.size) (hl:l≤k) (j:Nat):at' (PyProof.Rows.bubble p k (k - l)) j=if j=l then at' p k else if l<j∧j≤k then at' p (j - 1) else at' p j:=by
  have e:=getElem?_bubble hk (k - l) (by exact Nat.sub_le _ _) j
  rw [show k - (k - l)=l by lia] at e
  have e0:∀ (q:Array Nat) (k:Nat),at' q k=q[k]?.getD 0:=fun q k=>Array.getD_eq_getD_getElem? ..
  simp only [e0,e,e0,e0,e0]
  repeat' split
  all_goals rfl
theorem bub_lt {p:Array Nat} {k l j:Nat} (hk:k<p.size) (hl:l≤k) (h:j<l):at' (PyProof.Rows.bubble p k (k - l)) j=at' p j:=by
  rw [bubble_at hk hl,if_neg (Nat.ne_of_lt h),if_neg fun z=>Nat.lt_asymm z.1 h]
theorem bub_eq {p:Array Nat} {k l:Nat} (hk:k<p.size) (hl:l≤k):at' (PyProof.Rows.bubble p k (k - l)) l=at' p k:=by
  rw [bubble_at hk hl,if_pos rfl]
theorem bub_gt {p:Array Nat} {k l j:Nat} (hk:k<p.size) (hl:l≤k) (h:l≤j) (h':j<k):at' (PyProof.Rows.bubble p k (k - l)) (j+1)=at' p j:=by
  rw [bubble_at hk hl,if_neg (Nat.ne_of_gt (Nat.lt_succ_of_le h)),if_pos ⟨Nat.lt_succ_of_le h,h'⟩]; rfl
theorem bub_pre {p:Array Nat} {k l:Nat} (hk:k<p.size) (hp:Pre f p k) (l1:l≤k) (l3:∀ i,i<l→f (at' p i) (at' p k)=true) (l2:∀ i,l≤i→i<k→f (at' p k) (at' p i)=true):Pre f (PyProof.Rows.bubble p k (k - l)) (k+1):=fun i j hij hj=>by
  rcases Nat.lt_trichotomy j l with h | h | h
  · rw [bub_lt hk l1 h,bub_lt hk l1 (Nat.lt_trans hij h)]
    exact hp i j hij (Nat.lt_of_lt_of_le h l1)
  · subst h
    rw [bub_eq hk l1,bub_lt hk l1 hij]
    exact l3 i hij
  · cases j with
    | zero=>exact nomatch h
    | succ j=>
      have hjk:=Nat.lt_of_succ_lt_succ hj
      have hlj:=Nat.le_of_lt_succ h
      rw [bub_gt hk l1 hlj hjk]
      rcases Nat.lt_trichotomy i l with g | g | g
      · rw [bub_lt hk l1 g]
        exact hp i j (Nat.lt_of_lt_of_le g hlj) hjk
      · subst g
        rw [bub_eq hk l1]
        exact l2 j hlj hjk
      · cases i with
        | zero=>exact nomatch g
        | succ i=>
          have hij:=Nat.lt_of_succ_lt_succ hij
          rw [bub_gt hk l1 (Nat.le_of_lt_succ g) (Nat.lt_trans hij hjk)]
          exact hp i j hij hjk
theorem bin_ok (s:StrictOn f N) (F:Nat) (p:Array Nat) (k:Nat) (h:Ar N p) (h1:1≤k) (h2:k+F=N) (hp:Pre f p k):holdK f N (kas_bin F p k) fun p'=>Ar N p'∧Pre f p' N:=by
  induction F generalizing p k with
  | zero=>exact ⟨h,h2▸hp⟩
  | succ F ih=>
    have hk:k<N:=h2▸Nat.lt_add_of_pos_right (Nat.succ_pos F)
    exact holdK_bind _ (holdK_mono (fun l hl=>ih _ (k+1) (h.bubble _ _) (Nat.le_succ_of_le h1) ((Nat.succ_add_eq_add_succ k F).trans h2) (bub_pre (h.size.symm▸hk) hp hl.1 hl.2.1 hl.2.2)) _
      (place_ok s h hk hp k 0 k (Nat.zero_le _) (Nat.le_refl _) (Nat.le_refl _) (fun _ hi=>absurd hi (Nat.not_lt_zero _)) fun _ h3 h4=>absurd h4 (Nat.not_lt_of_le h3)))
theorem sort_ok (s:StrictOn f N) (hN:2≤N):holdK f N (kas_sort N) fun p=>Ar N p∧Pre f p N:=by
  unfold kas_sort
  have h0:Ar N (List.toArray (List.range N)):=⟨by simp,List.Perm.refl _⟩
  refine holdK_bind _ (holdK_mono (fun r hr=>?_) _ (count_ok s h0 hN))
  refine kAAA hr fun h1 h2 h3 h4=>?_
  by_cases e:r.1<N
  · rw [if_pos e,show max r.1 1=r.1 by lia]
    exact bin_ok s (N - r.1) r.2 r.1 h3 h1 (by lia) h4
  · rw [if_neg e]
    have:r.1=N:=by lia
    exact ⟨h3,by show Pre f r.2 N; simp only [← this]; exact h4⟩
end
noncomputable def RawD (h:Heap) (d:Addr) (es:Array DictEntry) (ep:Nat):Prop:=∃ o,h.get? d=some o∧o.ExactDict∧o.data = .dict es ep
section
variable {prog:Program} {w:World} {A:Around} {E:Value→Shared→Prop} {s:Shared}
theorem RawD.typeIs {d:Addr} {es:Array DictEntry} {ep:Nat} (x:RawD s.heap d es ep):s.TypeIs (.ref d) "dict" := kEAA x fun o ho hc _=>⟨o,ho,hc.1⟩
theorem raw_iter {d:Addr} {es:Array DictEntry} {ep:Nat} {Q:Value→Shared→Prop} (hd:(d==sysModules)=false) (hm:RawD s.heap d es ep)
    (hQ:Q (.ref s.heap.objs.size) { s with heap:=s.heap.push { cls:=.type "dict_keyiterator",data:=.fields #[.ref d,.int 0 0,.int es.size 0,.int ep 0] } }):wpAny (model prog w) A (pyIter (.ref d)) Q E s:=by
  have hT:=hm.typeIs
  refine kEAA hm fun o ho hc hdat=>?_
  refine wpAny_pyIter_slot hT PySem.F.slot_dict_iter (wpAny_call_entry PySem.F.slot_dict_iter hT PySem.F.entry_dict_iter ?_ (PySem.F.args_dict_iter_1 _))
  refine wpAny_bind ?_
  refine wpAny_bind (wpAny_notOrdered_dict hT ?_)
  show wpAny _ _ (pure (Value.ref d)) _ _ s
  refine wpAny_pure ?_
  show wpAny _ _ (Builtin.Dict.showsAll d>>=_) _ _ s
  unfold Builtin.Dict.showsAll
  rw [if_neg (by rw [hd]; exact Bool.false_ne_true)]
  refine wpAny_bind (wpAny_pure ?_)
  refine wpAny_bind (wpAny_dictEntries ho hdat ?_)
  refine wpAny_bind (wpAny_dictEpoch ho hdat ?_)
  refine wpAny_bind (wpAny_newObj_type (wpAny_pure ⟨_,rfl, "dict_keyiterator",_,⟨_,Heap.get?_push_size _ rfl,rfl⟩,PySem.F.slot_dict_keyiterator_next.lookup,?_⟩))
  exact hQ
theorem raw_next {it d:Addr} {i ep:Nat} {es:Array DictEntry} {Q:Option Value→Shared→Prop} (hit:s.heap.IsKeyIter it d i es.size ep) (hm:RawD s.heap d es ep) (hi:i<es.size)
    (hQ:∀ h',h'.IsKeyIter it d (i+1) es.size ep→Heap.SameBut it s.heap h'→Q (some es[i].key) { s with heap:=h' }):wpAny (model prog w) A (pyNext (.ref it)) Q E s:=by
  have hT:=hit.typeIs
  refine kEAA (id hit) fun o ho hc hd=>?_
  refine kEAA (id hm) fun od hod hcd hdd=>?_
  refine wpAny_bind (wpAny_attempt (wpAny_callSpecial?_slot (name:=Str.ofString "__next__") hT PySem.F.slot_dict_keyiterator_next
    (wpAny_call_entry PySem.F.slot_dict_keyiterator_next hT PySem.F.entry_dict_keyiterator_next ?_ (PySem.F.args_dict_keyiterator_next_1 _))))
  refine wpAny_bind (wpAny_pure ?_)
  refine wpAny_bind ?_
  refine wpAny_bind ?_
  first | refine wpAny_bind (wpAny_typeNameOfWhole_keyiter hT (wpAny_pure ?_)) | refine wpAny_bind (wpAny_typeNameOf_keyiter hT (wpAny_pure ?_))
  refine wpAny_bind (wpAny_fieldsOf ho hd ?_)
  have hown:Builtin.Dict_items.ownsTuple "dict_keyiterator" = false:=by decide
  show wpAny _ _ (if (Value.ref d==Value.none)=true then _ else _) _ _ s
  refine wpAny_bind (wpAny_pure ?_)
  refine wpAny_bind (wpAny_dictEntries hod hdd ?_)
  rw [if_neg (by simp)]
  refine wpAny_bind (wpAny_pure ?_)
  refine wpAny_bind (wpAny_dictEpoch hod hdd ?_)
  rw [if_neg (by simp)]
  refine wpAny_pure ?_
  simp only [show ¬ ((i:Int)<0) from by simp,if_false,Int.toNat_natCast,Array.getElem?_eq_getElem hi]
  refine wpAny_bind ?_
  first | refine wpAny_bind (wpAny_typeNameOfWhole_keyiter hT (wpAny_pure ?_)) | refine wpAny_bind (wpAny_typeNameOf_keyiter hT (wpAny_pure ?_))
  refine wpAny_bind (wpAny_isOneOf_keyiter hT ?_)
  show wpAny _ _ (setField (.ref it) 1 (rawInt ((i:Int)+1))>>=_) _ _ s
  refine wpAny_bind (wpAny_setField ho hd (by simp) ?_)
  have hit':(s.heap.update it (Obj.mapFields (·.setIfInBounds 1 (rawInt ((i:Int)+1))))).IsKeyIter it d (i+1) es.size ep:=
    ⟨_,Heap.get?_update_self _ ho (Obj.isFreed_of_fields (Obj.data_mapFields hd _)),(Obj.cls_mapFields ..).trans hc,by rw [Obj.data_mapFields hd]; rfl⟩
  refine wpAny_bind (wpAny_holding ?_)
  refine wpAny_bind (wpAny_isOneOf_keyiter (s:={ s with heap:=s.heap.update it (Obj.mapFields (·.setIfInBounds 1 (rawInt ((i:Int)+1)))) }) hit'.typeIs ?_)
  exact wpAny_pure (wpAny_pure ⟨_,rfl,wpAny_pure (hQ _ hit' (Heap.SameBut.update ..))⟩)
theorem raw_end {it d:Addr} {ep:Nat} {es:Array DictEntry} {Q:Option Value→Shared→Prop} (hh:A.handled=none) (hit:s.heap.IsKeyIter it d es.size es.size ep) (hm:RawD s.heap d es ep)
    (hQ:∀ h',Heap.ExtBut it s.heap h'→Q none { s with heap:=h' }):wpAny (model prog w) A (pyNext (.ref it)) Q E s:=by
  have hT:=hit.typeIs
  refine kEAA (id hit) fun o ho hc hd=>?_
  refine kEAA (id hm) fun od hod hcd hdd=>?_
  refine wpAny_bind (wpAny_attempt (wpAny_callSpecial?_slot (name:=Str.ofString "__next__") hT PySem.F.slot_dict_keyiterator_next
    (wpAny_call_entry PySem.F.slot_dict_keyiterator_next hT PySem.F.entry_dict_keyiterator_next ?_ (PySem.F.args_dict_keyiterator_next_1 _))))
  refine wpAny_bind (wpAny_pure ?_)
  refine wpAny_bind ?_
  refine wpAny_bind ?_
  first | refine wpAny_bind (wpAny_typeNameOfWhole_keyiter hT (wpAny_pure ?_)) | refine wpAny_bind (wpAny_typeNameOf_keyiter hT (wpAny_pure ?_))
  refine wpAny_bind (wpAny_fieldsOf ho hd ?_)
  have hown:Builtin.Dict_items.ownsTuple "dict_keyiterator" = false:=by decide
  show wpAny _ _ (if (Value.ref d==Value.none)=true then _ else _) _ _ s
  refine wpAny_bind (wpAny_pure ?_)
  refine wpAny_bind (wpAny_dictEntries hod hdd ?_)
  rw [if_neg (by simp)]
  refine wpAny_bind (wpAny_pure ?_)
  refine wpAny_bind (wpAny_dictEpoch hod hdd ?_)
  rw [if_neg (by simp)]
  refine wpAny_pure ?_
  simp only [show ¬ ((es.size:Int)<0) from by simp,if_false,Int.toNat_natCast,Array.getElem?_eq_none (Nat.le_refl es.size)]
  refine wpAny_bind ?_
  first | refine wpAny_bind (wpAny_typeNameOfWhole_keyiter hT (wpAny_pure ?_)) | refine wpAny_bind (wpAny_typeNameOf_keyiter hT (wpAny_pure ?_))
  show wpAny _ _ (setField (.ref it) 0 .none>>=_) _ _ s
  refine wpAny_bind (wpAny_setField ho hd (by simp) ?_)
  refine wpAny_bind ?_
  refine wpAny_bind (wpAny_newObj_type ?_ (by size_fits))
  refine wpAny_bind (m:=firstArgMember _ _) (wpAny_of_eq (a:=Value.none) (by first | rfl | (simp only [firstArgMember]; rfl)) ?_)
  refine wpAny_newObj_type ?_ (by size_fits)
  dsimp only [raiseNew]
  refine wpAny_bind (wpAny_handled ?_)
  first | exact show A.in1.handled=none from hh | simp only [hh]
  refine wpAny_bind (wpAny_pure (wpAny_throw ?_))
  refine wpAny_bind (wpAny_isInstance (T := "StopIteration") (b:=true) ⟨_,Heap.get?_push_size _ rfl,rfl⟩ isSubtype_stop ?_)
  exact wpAny_pure (hQ _ (((Heap.SameBut.update ..).extBut.push _).push _))
theorem RawD.at' {h h':Heap} {d:Addr} {es:Array DictEntry} {ep:Nat} (x:RawD h d es ep) (e:∀ o,h.get? d=some o→h'.get? d=some o):RawD h' d es ep:=kEA x fun o ho r=>⟨o,e _ ho,r⟩
theorem raw_walks (hh:A.handled=none) (I d:Addr) (hne:d≠I) (es:Array DictEntry) (ep:Nat) :
    Walks prog w A I [I,d] [I] es.size (fun i v=>∃ e,es[i]?=some e∧v=e.key) (fun i h=>h.IsKeyIter I d i es.size ep∧RawD h d es ep) where
  sub:=fun b hb=>by simp at hb; simp [hb]
  frame:=fun _ _ _ st hk=>⟨st.1.at fun o e=>hk I (by simp) o e,st.2.at' fun o e=>hk d (by simp) o e⟩
  item:=fun i s Q E hi st hQ=>by
    refine raw_next st.1 st.2 hi fun h' hit' hs'=>?_
    exact hQ _ h' s.toks ⟨es[i],Array.getElem?_eq_getElem hi,rfl⟩ ⟨hit',st.2.at' fun o e=>hs'.extBut d o hne e⟩ fun b o hb e=>hs'.extBut b o (fun h=>hb (by simp [h])) e
  done:=fun s Q E st hQ=>raw_end hh st.1 st.2 fun h' he'=>hQ h' s.toks fun b o hb e=>he' b o (fun h=>hb (by simp [h])) e
  self:=fun _ _ _ _ st hQ=>wpAny_pyIter_keyiter st.1 hQ
end
noncomputable def lt2:PyData→PyData→Bool
  | .int a,.int b=>decide (a<b)
  | .str a,.str b=>decide (a.cps.toList<b.cps.toList)
  | _,_=>false
noncomputable def eq2:PyData→PyData→Bool
  | .int a,.int b=>decide (a=b)
  | .str a,.str b=>decide (a=b)
  | _,_=>false
noncomputable def ltP:PyData→PyData→Bool
  | .tuple [.int a,y],.tuple [.int b,z]=>if a=b then (if eq2 y z then false else lt2 y z) else decide (a<b)
  | _,_=>false
theorem ltP_at {a b:Int} {y z:PyData}:ltP (.tuple [.int a,y]) (.tuple [.int b,z])=if a=b then (if eq2 y z then false else lt2 y z) else decide (a<b):=rfl
theorem lt2_i {a b:Int}:lt2 (.int a) (.int b)=decide (a<b):=rfl
theorem lt2_s {a b:Str}:lt2 (.str a) (.str b)=decide (a.cps.toList<b.cps.toList):=rfl
theorem eq2_i {a b:Int}:eq2 (.int a) (.int b)=decide (a=b):=rfl
theorem eq2_s {a b:Str}:eq2 (.str a) (.str b)=decide (a=b):=rfl
noncomputable def leI:PyData→PyData→Bool
  | .int a,.int b=>decide (a≤b)
  | _,_=>false
noncomputable def isInt:PyData→Bool
  | .int _=>true
  | _=>false
noncomputable def isStr:PyData→Bool
  | .str _=>true
  | _=>false
noncomputable def isK (k:Bool) (x:PyData):Bool:=if k then isStr x else isInt x
noncomputable def isP (k:Bool):PyData→Bool
  | .tuple [.int _,y]=>isK k y
  | _=>false
theorem str_tri {a b:Str} (h1:¬ a.cps.toList<b.cps.toList) (h2:a≠b):b.cps.toList<a.cps.toList:=by
  rcases Std.Trichotomous.rel_or_eq_or_rel_swap (r:=fun (x y:List Nat)=>x<y) (a:=a.cps.toList) (b:=b.cps.toList) with h | h | h
  · exact absurd h h1
  · exact absurd (by cases a; cases b; simp at h; simp [h]) h2
  · exact h
theorem isK_cases {k:Bool} {x y:PyData} (hx:isK k x=true) (hy:isK k y=true):(∃ a b,x = .int a∧y = .int b)∨∃ a b,x = .str a∧y = .str b:=by
  unfold isK at hx hy
  cases k
  · left
    cases x<;>simp [isInt] at hx
    cases y<;>simp [isInt] at hy
    exact ⟨_,_,rfl,rfl⟩
  · right
    cases x<;>simp [isStr] at hx
    cases y<;>simp [isStr] at hy
    exact ⟨_,_,rfl,rfl⟩
theorem isP_cases {k:Bool} {x:PyData} (hx:isP k x=true):∃ a y,x = .tuple [.int a,y]∧isK k y=true:=by
  cases x with
  | tuple xs=>
    cases xs with
    | nil=>cases hx
    | cons p r=>
      cases p with
      | int a=>
        cases r with
        | nil=>cases hx
        | cons y r'=>
          cases r' with
          | nil=>exact ⟨a,y,rfl,hx⟩
          | cons _ _=>cases hx
      | _=>cases r<;>cases hx
  | _=>cases hx
theorem eq2_iff {k:Bool} {x y:PyData} (hx:isK k x=true) (hy:isK k y=true):eq2 x y=true↔x=y:=by
  rcases isK_cases hx hy with ⟨a,b,rfl,rfl⟩ | ⟨a,b,rfl,rfl⟩<;>simp [eq2_i,eq2_s]
theorem lt2_tot {k:Bool} {x y:PyData} (hx:isK k x=true) (hy:isK k y=true) (hne:x≠y) (h:lt2 x y=false):lt2 y x=true:=by
  refine Or.elim (isK_cases hx hy) (fun z1=>?_) (fun z2=>?_)
  · obtain ⟨a,b,rfl,rfl⟩:=z1
    dsimp only [lt2_i,lt2_s,decide_eq_true_eq,decide_eq_false_iff_not] at *
    have:a≠b:=fun q=>hne (by exact congrArg _ (q))
    lia
  · obtain ⟨a,b,rfl,rfl⟩:=z2
    simp only [lt2_i,lt2_s,decide_eq_true_eq,decide_eq_false_iff_not] at *
    exact str_tri h fun q=>hne (by exact congrArg _ (q))
theorem lt2_tr {k:Bool} {x y z:PyData} (hx:isK k x=true) (hy:isK k y=true) (hz:isK k z=true) (h1:lt2 x y=true) (h2:lt2 y z=true):lt2 x z=true∧x≠z:=by
  refine Or.elim (isK_cases hx hy) (fun z7=>?_) (fun z8=>?_)
  · obtain ⟨a,b,rfl,rfl⟩:=z7
    rcases isK_cases hy hz with ⟨_,c,e,rfl⟩ | ⟨_,c,e,rfl⟩
    · cases e
      simp only [lt2_i,lt2_s,decide_eq_true_eq] at *
      exact ⟨by lia,fun q=>by cases q; lia⟩
    · cases e
  · obtain ⟨a,b,rfl,rfl⟩:=z8
    rcases isK_cases hy hz with ⟨_,c,e,rfl⟩ | ⟨_,c,e,rfl⟩
    · cases e
    · cases e
      simp only [lt2_i,lt2_s,decide_eq_true_eq] at *
      have h:=List.lt_trans h1 h2
      exact ⟨h,fun q=>by cases q; exact List.lt_irrefl _ h⟩
theorem ltP_tot {k:Bool} {x y:PyData} (hx:isP k x=true) (hy:isP k y=true) (hne:x≠y) (h:ltP x y=false):ltP y x=true:=by
  refine kEEA (isP_cases hx) fun a u z22 hu=>?_
  subst z22
  refine kEEA (isP_cases hy) fun b v z24 hv=>?_
  subst z24
  simp only [ltP_at] at *
  by_cases e:a=b
  · subst e
    have hne':u≠v:=fun q=>hne (by rw [q])
    have e1:¬ eq2 u v=true:=fun q=>hne' ((eq2_iff hu hv).mp q)
    have e2:¬ eq2 v u=true:=fun q=>hne' ((eq2_iff hv hu).mp q).symm
    rw [if_pos rfl,if_neg e1] at h
    rw [if_pos rfl,if_neg e2]
    exact lt2_tot hu hv hne' h
  · rw [if_neg e] at h
    rw [if_neg (Ne.symm e)]
    lia
theorem ltP_tr {k:Bool} {x y z:PyData} (hx:isP k x=true) (hy:isP k y=true) (hz:isP k z=true) (h1:ltP x y=true) (h2:ltP y z=true):ltP x z=true:=by
  refine kEEA (isP_cases hx) fun a u z26 hu=>?_
  subst z26
  refine kEEA (isP_cases hy) fun b v z28 hv=>?_
  subst z28
  refine kEEA (isP_cases hz) fun c w z30 hw=>?_
  subst z30
  simp only [ltP_at] at *
  by_cases e:a=b
  · subst e
    rw [if_pos rfl] at h1
    by_cases q:eq2 u v=true
    · rw [if_pos q] at h1; cases h1
    · rw [if_neg q] at h1
      by_cases e':a=c
      · subst e'
        rw [if_pos rfl] at h2
        by_cases q':eq2 v w=true
        · rw [if_pos q'] at h2; cases h2
        · rw [if_neg q'] at h2
          refine kA (lt2_tr hu hv hw h1 h2) fun h3 h4=>?_
          rw [if_pos rfl,if_neg (fun r=>h4 ((eq2_iff hu hw).mp r))]
          exact h3
      · rw [if_neg e'] at h2
        rw [if_neg e']
        exact h2
  · rw [if_neg e] at h1
    simp only [decide_eq_true_eq] at h1
    by_cases e':b=c
    · subst e'
      rw [if_neg e]
      simpa using h1
    · rw [if_neg e'] at h2
      simp only [decide_eq_true_eq] at h2
      rw [if_neg (by lia)]
      simp only [decide_eq_true_eq]
      lia
theorem strictP {k:Bool} {xs:List PyData} (hk:∀ x∈xs,isP k x=true) (nd:xs.Nodup):StrictOn (fun i j=>ltP (xs.getD i .none) (xs.getD j .none)) xs.length:=by
  have hg:∀ i,i<xs.length→True∧xs[i]?=some (xs.getD i .none)∧isP k (xs.getD i .none)=true:=fun i hi=>by
    have e:xs.getD i .none=xs[i]:=by simp [hi]
    refine ⟨trivial,by simp [hi],?_⟩
    rw [e]; exact hk _ (List.getElem_mem hi)
  refine ⟨fun i j hi hj hij h=>?_,fun i j l hi hj hl h1 h2=>ltP_tr (hg i hi).2.2 (hg j hj).2.2 (hg l hl).2.2 h1 h2⟩
  refine ltP_tot (hg i hi).2.2 (hg j hj).2.2 (fun q=>hij ?_) h
  exact nd_get nd ((hg i hi).2.1) (q▸(hg j hj).2.1)
section
variable {G:Gl} {prog:Program} {w:World} {A:Around} {E:Value→Shared→Prop} {s:Shared} {h:Heap}
theorem rd_pair {k:Bool} {x:PyData} {v:Value} (hx:isP k x=true) (r:Rd w h x v):∃ a y b t u n,x = .tuple [.int a,y]∧isK k y=true∧v = .ref b∧h.get? b=some (tup #[.int a t,u] n)∧Rd w h y u:=by
  refine kEEA (isP_cases hx) fun a y z32 hy=>?_
  subst z32
  refine kEEEAA r fun b vs n z34 h1 h2=>?_
  subst z34
  refine kEEAA h2 fun v1 r1 e1 h3 h4=>?_
  refine kEEAA h4 fun v2 r2 e2 h5 h6=>?_
  subst h6
  simp only [Rd] at h3
  obtain ⟨t,rfl⟩:=h3
  have ev:vs=#[.int a t,v2]:=by
    have:vs=vs.toList.toArray:=by rfl
    rw [this,e1,e2]
  subst ev
  exact ⟨a,y,b,t,v2,n,rfl,hy,rfl,h1,h5⟩
theorem lt_pair {k:Bool} {x y:PyData} {u v:Value} {C:Bool→Shared→Prop} (hx:isP k x=true) (hy:isP k y=true) (rx:Rd w s.heap x u) (ry:Rd w s.heap y v) (hC:∀ tk,C (ltP x y) { s with toks:=tk }) :
    wpAny (model prog w) A (keyLt' (tuples' true) u v) C E s:=by
  obtain ⟨a,x2,p,t,u2,n,rfl,hx2,rfl,hp,r2⟩:=rd_pair hx rx
  obtain ⟨b,y2,q,t',v2,n',rfl,hy2,rfl,hq,r3⟩:=rd_pair hy ry
  refine kat_lt hp rfl hq rfl ?_
  refine kat_cons (wpAny_eqBool_int ?_)
  simp only [ltP_at] at hC
  by_cases e:a=b
  · subst e
    simp only [if_true] at hC
    simp only [show (a==a)=true by simp]
    refine kat_yes ?_
    refine kat_cons ?_
    refine Or.elim (isK_cases hx2 hy2) (fun z36=>?_) (fun z37=>?_)
    · obtain ⟨i,j,rfl,rfl⟩:=z36
      simp only [Rd] at r2
      simp only [Rd] at r3
      obtain ⟨t2,rfl⟩:=r2
      obtain ⟨t3,rfl⟩:=r3
      refine wpAny_eqBool_int ?_
      by_cases e2:i=j
      · subst e2
        simp only [show (i==i)=true by simp]
        refine kat_yes (kat_nil ?_)
        have:=hC s.toks
        simpa [eq2] using this
      · simp only [show (i==j)=false by simpa using e2]
        refine kat_no (kat_one _ _ (lt_int ?_))
        have:=hC s.toks
        simpa [eq2_i,eq2_s,e2,lt2_i,lt2_s,PySem.W.BoolBack] using this
    · obtain ⟨i,j,rfl,rfl⟩:=z37
      simp only [Rd] at r2
      simp only [Rd] at r3
      obtain ⟨t2,rfl⟩:=r2
      obtain ⟨t3,rfl⟩:=r3
      refine wpAny_eqBool_str ?_
      by_cases e2:i=j
      · subst e2
        simp only [show decide (i=i)=true by simp]
        refine kat_yes (kat_nil ?_)
        have:=hC s.toks
        simpa [eq2] using this
      · simp only [show decide (i=j)=false by simpa using e2]
        refine kat_no (kat_one _ _ (PyProof.Rows.lt_str ?_))
        have:=hC s.toks
        simpa [eq2_i,eq2_s,e2,lt2_i,lt2_s,PySem.W.BoolBack] using this
  · simp only [show (a==b)=false by simpa using e]
    refine kat_no ?_
    refine oneLt_int ?_
    have:=hC s.toks
    simpa [e] using this
theorem kind_pair {k:Bool} {xs:List PyData} {vs:List Value} {Q:SortKind→Shared→Prop} (hk:∀ x∈xs,isP k x=true) (hne:0<xs.length) (r:RdL w s.heap xs vs) (h:Q (tuples' true) s):wpAny (model prog w) A (keyKind' vs.toArray) Q E s:=by
  have main:∀ (xs:List PyData) (vs:List Value),(∀ x∈xs,isP k x=true)→RdL w s.heap xs vs→∃ fs,KatTups s.heap vs fs∧fs.length=xs.length∧∀ v∈fs,∃ i t,v = .int i t:=by
    intro xs
    induction xs with
    | nil=>intro vs _ r; simp only [RdL] at r; subst r; exact ⟨[],KatTups.nil,rfl,fun v hv=>nomatch hv⟩
    | cons x xs ih=>
      intro vs hk r
      refine kEEAA r fun v t z27 h1 h2=>?_
      subst z27
      refine kEAA (ih t (fun y hy=>hk y (List.mem_cons_of_mem _ hy)) h2) fun fs f1 f2 f3=>?_
      obtain ⟨a,y,b,tk,u,n,e1,e2,rfl,e3,e4⟩:=rd_pair (hk x List.mem_cons_self) h1
      refine ⟨.int a tk :: fs,KatTups.cons e3 rfl rfl (by rfl) f1,by simp [f2],fun v hv=>?_⟩
      rcases List.mem_cons.mp hv with rfl | hv
      · exact ⟨a,tk,rfl⟩
      · exact f3 v hv
  refine kEAA (main xs vs hk r) fun fs f1 f2 f3=>?_
  refine kat_kind (T:=.type "int") f1 (by lia) (fun v hv=>?_) (by decide) (by rw [show (Value.type "int" != Value.type "tuple")=true by decide]; exact h)
  refine kEE (f3 v hv) fun i t z49=>?_
  subst z49
  exact Looks.of_pure rfl
end
section
variable {prog:Program} {w:World} {A:Around} {E:Value→Shared→Prop} {s:Shared} {J:Heap}
noncomputable def Sorted (w:World) (J:Heap) (a:Addr) (s:Shared) (good:List PyData→Prop) (C:Shared→Prop):Prop:=
  ∀ (h':Heap) (tk:Nat) (out:List PyData) (us:Array Value) (n:Nat),(∀ b o,b≠a→s.heap.get? b=some o→h'.get? b=some o)→h'.get? a=some (lst us n)→RdL w J out us.toList→good out→C { s with heap:=h',toks:=tk }
theorem ints_of:∀ {xs:List PyData} {vs:List Value},(∀ x∈xs,isInt x=true)→RdL w J xs vs→∃ ns:List Int,IntsAre vs ns∧xs=ns.map .int:=by
  intro xs9
  induction xs9 with
  | nil=>
    intro vs _ r
    rw [RdL] at r; subst r; exact ⟨[],.nil,rfl⟩
  | cons x xs ih=>
    intro vs h r
    obtain ⟨v,t,rfl,h1,h2⟩:=r
    refine kEA (ih (fun y hy=>h y (List.mem_cons_of_mem _ hy)) h2) fun ns n1 n2=>?_
    have hx:=h x List.mem_cons_self
    cases x<;>simp [isInt] at hx
    simp only [Rd] at h1
    obtain ⟨t',rfl⟩:=h1
    exact ⟨_ :: ns,.cons _ _ n1,by simp [n2]⟩
theorem of_ints:∀ {vs:List Value} {ns:List Int},IntsAre vs ns→RdL w J (ns.map .int) vs
  | _,_,.nil=>by rfl
  | _,_,.cons n t h=>by simp only [List.map_cons,RdL]; exact ⟨_,_,rfl,rd_int,of_ints h⟩
theorem sort_ints {a:Addr} {xs:List PyData} {vs:List Value} {n:Nat} {P:PySem.Fin→Shared→Prop} (ho:s.heap.get? a=some (seqObj "list" vs.toArray n)) (r:RdL w J xs vs) (hx:∀ x∈xs,isInt x=true) (h64:xs.length<64)
    (h:Sorted w J a s (fun out=>out.Perm xs∧out.Pairwise (fun x y=>leI x y=true)) (P (.done (.ret .none)))):wpAny (model prog w) A (Builtin.«list.sort» ⟨[.ref a],[]⟩) P E s:=by
  refine kEA (ints_of hx r) fun ns hi z4=>?_
  subst z4
  have hl:=IntsAre.length hi
  refine list_sort_tree ho hi (by simp at h64; lia) fun out ns' h1 h2 h3=>?_
  have e1:=get?_update_seq ho fun _=>(#[]:Array Value)
  have e2:(((s.heap.update a (Obj.mapSeq fun _=>#[])).push (seqObj "tuple" vs.toArray 0)).push (seqObj "list" #[] 0)).get? a=some (seqObj "list" #[] _):=Heap.get?_push_of_some _ (Heap.get?_push_of_some _ e1)
  have e3:=get?_update_seq e2 fun _=>out
  refine h _ s.toks (ns'.map .int) out _ (fun b o hb e=>?_) e3 (of_ints h1) ⟨h2.map _,?_⟩
  · unfold sortedHeap
    have k1:=((Heap.SameBut.update s.heap a (Obj.mapSeq fun _=>(#[]:Array Value))).2 b hb).trans e
    exact ((Heap.SameBut.update _ a (Obj.mapSeq fun _=>out)).2 b hb).trans (Heap.get?_push_of_some _ (Heap.get?_push_of_some _ k1))
  · rw [List.pairwise_map]
    exact h3.imp fun hab=>by simpa [leI] using hab
theorem rdl_pick {xs:List PyData} {vs:List Value} (r:RdL w J xs vs) {i:Nat} (hi:i<xs.length):Rd w J (xs.getD i .none) (vs.getD i .none):=by
  have e:xs[i]?=some xs[i]:=List.getElem?_eq_getElem hi
  refine kEA (RdL.at _ r e) fun v h1 h2=>?_
  have e1:xs.getD i .none=xs[i]:=by simp [hi]
  have e2:vs.getD i Value.none=v:=by rw [List.getD_eq_getElem?_getD,h1]; rfl
  simp only [e1,e2]; exact h2
theorem rdl_picks {xs:List PyData} {vs:List Value} (r:RdL w J xs vs):∀ (p:List Nat),(∀ i∈p,i<xs.length)→RdL w J (p.map fun i=>xs.getD i .none) (p.map fun i=>vs.getD i .none):=by
  intro xs9
  induction xs9 with
  | nil=>
    intro _
    rfl
  | cons i p ih=>
    intro h
    exact ⟨_,_,rfl,rdl_pick r (h i List.mem_cons_self),ih fun j hj=>h j (List.mem_cons_of_mem _ hj)⟩
theorem picks_range (xs:List PyData):((List.range xs.length).map fun i=>xs.getD i .none)=xs:=by
  apply List.ext_getElem?
  intro i
  rw [List.getElem?_map]
  by_cases hi:i<xs.length
  · rw [List.getElem?_range hi]; simp [hi]
  · rw [List.getElem?_eq_none (by simpa using hi),List.getElem?_eq_none (by simpa using hi)]; rfl
theorem pairwise_of_pre {f:Nat→Nat→Bool} {N:Nat} {p:Array Nat} (h:Ar N p) (hp:Pre f p N):p.toList.Pairwise fun i j=>f i j=true:=by
  rw [List.pairwise_iff_getElem]
  intro i j hi hj hij
  have hi':i<p.size:=by simpa using hi
  have hj':j<p.size:=by simpa using hj
  have:=hp i j hij (by rw [← h.size]; exact hj')
  have e1:at' p i=p.toList[i]:=by simp [at',Array.getD,hi']
  have e2:at' p j=p.toList[j]:=by simp [at',Array.getD,hj']
  simp only [e1,e2] at this
  exact this
theorem zip_small:∀ (vs:List Value),vs.length<2→(vs.toArray.zip vs.toArray).map (·.2)=vs.toArray
  | [],_=>by simp
  | [v],_=>by simp
  | _ :: _ :: _,h=>by simp only [List.length_cons] at h; lia
theorem pw_small {α:Type} {R:α→α→Prop}:∀ {xs:List α},xs.length<2→xs.Pairwise R
  | [],_=>.nil
  | [x],_=>List.pairwise_singleton _ _
  | _ :: _ :: _,h=>by simp only [List.length_cons] at h; lia
theorem sort_pairs {k:Bool} {a:Addr} {xs:List PyData} {vs:List Value} {n:Nat} {P:PySem.Fin→Shared→Prop} (ho:s.heap.get? a=some (seqObj "list" vs.toArray n)) (r:RdL w J xs vs) (hJ:∀ b o,J.get? b=some o→b≠a∧s.heap.get? b=some o)
    (hx:∀ x∈xs,isP k x=true) (nd:xs.Nodup) (h64:xs.length<64) (h:Sorted w J a s (fun out=>out.Perm xs∧out.Pairwise (fun x y=>ltP x y=true)) (P (.done (.ret .none)))) :
    wpAny (model prog w) A (Builtin.«list.sort» ⟨[.ref a],[]⟩) P E s:=by
  have hl:=RdL.length _ r
  rw [list_sort_plain]
  refine wpAny_bind (listItems_at ho rfl ?_)
  refine wpAny_bind (listUpdate_at ho rfl ?_ (by simp only [List.size_toArray,sizeLine_eq]; omega) (Nat.zero_le _))
  obtain ⟨e1,ho1⟩:∃ e1,(s.heap.update a (Obj.mapSeq fun _=>(#[]:Array Value))).get? a=some (seqObj "list" #[] e1):=⟨_,get?_update_seq ho fun _=>#[]⟩
  refine wpAny_bind (seqEpoch_at ho1 rfl ?_)
  refine wpAny_bind (wpAny_newTuple ?_ (by show vs.length≤_; simp only [sizeLine_eq]; omega))
  refine wpAny_bind (wpAny_newList ?_ (Nat.zero_le _))
  refine wpAny_holding ?_
  show wpAny (model prog w) A _ P E { s with heap:=((s.heap.update a (Obj.mapSeq fun _=>(#[]:Array Value))).push (seqObj "tuple" vs.toArray 0)).push (seqObj "list" #[] 0) }
  have keep:∀ b o,b≠a→s.heap.get? b=some o→(((s.heap.update a (Obj.mapSeq fun _=>(#[]:Array Value))).push (seqObj "tuple" vs.toArray 0)).push (seqObj "list" #[] 0)).get? b=some o:=fun b o hb e=>
    Heap.get?_push_of_some _ (Heap.get?_push_of_some _ (((Heap.SameBut.update s.heap a _).2 b hb).trans e))
  have ho6:(((s.heap.update a (Obj.mapSeq fun _=>(#[]:Array Value))).push (seqObj "tuple" vs.toArray 0)).push (seqObj "list" #[] 0)).get? a=some (seqObj "list" #[] e1):=Heap.get?_push_of_some _ (Heap.get?_push_of_some _ ho1)
  generalize ((s.heap.update a (Obj.mapSeq fun _=>(#[]:Array Value))).push (seqObj "tuple" vs.toArray 0)).push (seqObj "list" #[] 0)=H at keep ho6 ⊢
  have rH:RdL w H xs vs:=RdL.mono (fun b o e=>keep b o (hJ b o e).1 (hJ b o e).2) _ r
  dsimp only
  have fin:∀ (out:Array Value) (os:List PyData) (tk:Nat),RdL w J os out.toList→os.Perm xs→os.Pairwise (fun x y=>ltP x y=true)→out.size≤100 →
      wpAny (model prog w) A (do
        let touched:=(← seqEpoch a)!=e1
        Builtin.List.listUpdate (.ref a) fun _=>out
        if touched then rule "list.sort.modified"; raiseError "ValueError" "list modified during sort"
        ret .none) P E { s with heap:=H,toks:=tk }:=fun out os tk h1 h2 h3 h4=>by
    obtain ⟨c2,hc2⟩:∃ c2,(H.update a (Obj.mapSeq fun _=>out)).get? a=some (seqObj "list" out c2):=⟨_,get?_update_seq ho6 fun _=>out⟩
    refine wpAny_bind (seqEpoch_at ho6 rfl ?_)
    refine wpAny_bind (listUpdate_at ho6 rfl ?_ (Nat.zero_le _) (Nat.le_trans h4 (by rw [sizeLine_eq]; decide)))
    simp only [bne_self_eq_false,Bool.false_eq_true,if_false]
    exact wpAny_pure (h _ tk os out c2 (fun b o hb e=>((Heap.SameBut.update H a _).2 b hb).trans (keep b o hb e)) hc2 h1 ⟨h2,h3⟩)
  by_cases h2:vs.toArray.size<2
  · rw [if_pos h2,if_pos h2]
    refine wpAny_bind (wpAny_pure ?_)
    refine wpAny_bind (wpAny_pure ?_)
    have hlen:vs.length<2:=by exact h2
    have e0:(arrOf (SortSt.mk' general' (vs.toArray.zip vs.toArray) #[] 7 none)).map (·.2)=vs.toArray:=zip_small vs hlen
    rw [e0]
    have pw:xs.Pairwise fun x y=>ltP x y=true:=pw_small (by omega)
    have:=fin vs.toArray xs s.toks (by exact r) (List.Perm.refl _) pw (by simp; omega)
    exact this
  · rw [if_neg h2,if_neg h2]
    have h2':2≤vs.length:=by simpa using h2
    refine wpAny_bind (kind_pair (s:={ s with heap:=H }) hx (by omega) rH ?_)
    have hxi:∀ i,i<xs.length→isP k (xs.getD i .none)=true:=fun i hi=>by
      have e:xs.getD i .none=xs[i]:=by simp [hi]
      rw [e]
      exact hx _ (List.getElem_mem hi)
    have run:=holdK_wp (f:=fun i j=>ltP (xs.getD i .none) (xs.getD j .none)) (n:=xs.length) (cmp:=kas_ask prog w A (tuples' true) vs) (Inv:=fun s'=>∃ tk,s'={ s with heap:=H,toks:=tk })
      (fun i j C s' hi hj hs hC=>by
        obtain ⟨tk,rfl⟩:=hs
        exact lt_pair (s:={ s with heap:=H,toks:=tk }) (hxi i hi) (hxi j hj) (rdl_pick rH hi) (rdl_pick rH hj) fun tk'=>hC _ ⟨tk',rfl⟩)
      (Q:=fun p s'=>(Ar xs.length p∧Pre (fun i j=>ltP (xs.getD i .none) (xs.getD j .none)) p xs.length)∧∃ tk,s'={ s with heap:=H,toks:=tk }) (fun p s' h1 h2=>⟨h1,h2⟩) (kas_sort xs.length) { s with heap:=H }
      (sort_ok (strictP hx nd) (by omega)) ⟨s.toks,rfl⟩
    rw [← hl] at run
    refine wpAny_bind (wpAny_mono (kat_run (Q:=fun st' s'=>∃ p:Array Nat,p.size=vs.length∧arrOf st'=p.map (kas_item (vs.toArray.zip vs.toArray))∧failedOf st'=none∧_) rfl h2' (by omega) (fun p' st' s' a1 a2 a3 a4=>⟨p',a1,a2,a3,a4⟩) run) ?_ fun _ _ e=>e)
    rintro ⟨⟨⟩,st'⟩ s' ⟨p,hp,har,hf,⟨hAr,hPre⟩,tk,rfl⟩
    rw [kat_snds rfl har,hf]
    simp only [hl] at hAr hPre
    have hpl:∀ i∈p.toList,i<xs.length:=fun i hi=>List.mem_range.mp (hAr.perm.mem_iff.mp hi)
    refine fin (List.toArray (p.toList.map fun i=>vs.getD i Value.none)) (p.toList.map fun i=>xs.getD i .none) tk (by exact rdl_picks r _ hpl) ?_ ?_ (by simp [hAr.size]; lia)
    · have:=hAr.perm.map fun i=>xs.getD i PyData.none
      simp only [picks_range] at this
      exact this
    · rw [List.pairwise_map]
      exact pairwise_of_pre hAr hPre
end
section
variable {G:Gl} {K:Sk}
noncomputable def tkeys (kvs:List (List Ky×PyData)):List PyData:=kvs.map fun p=>.tuple (p.1.map kD)
noncomputable def srtG (xs:List PyData) (out:List PyData):Prop:=(out.Perm xs∧out.Pairwise (fun x y=>leI x y=true)∧∀ x∈xs,isInt x=true)∨(out.Perm xs∧out.Pairwise (fun x y=>ltP x y=true)∧∃ k,∀ x∈xs,isP k x=true)
noncomputable def srtK (ow:Bool) (xs:List PyData) (R:QV) (st:St):Prop:=xs.length<64∧((∀ x∈xs,isInt x=true)∨(xs.Nodup∧∃ k,∀ x∈xs,isP k x=true))∧∀ out,srtG xs out→newlT ow out R st
noncomputable def srtC (q:Option Cell) (ow:Bool) (R:QV) (st:St):Prop:=onC q (fun xs=>srtK ow xs R st) (fun kvs=>srtK ow (kvs.map (·.1)) R st) fun kvs=>srtK ow (tkeys kvs) R st
noncomputable abbrev srtD (x:PyData) (ow:Bool) (R:QV) (st:St):Prop:=pc (fun _=>False) (fun _=>False) (fun xs=>srtK ow xs R st) (fun _=>False) (fun kvs=>srtK ow (kvs.map (·.1)) R st) x
noncomputable def srtO (ow:Bool):List V→Tr V:=fun ys Q st=>on1 ys fun y=>V.casesOn (motive:=fun _=>Prop) y False (fun x=>srtD x ow Q st) (fun k=>srtC st.μ[k]? ow Q st) (fun _=>False) (fun _=>False) fun _=>False
theorem raw_src {prog:Program} {w:World} {d:Addr} {es:Array DictEntry} {ep:Nat} (lo:(d==sysModules)=false):KdlSrc prog w "dict" d d es.size (fun i v=>∃ e,es[i]?=some e∧v=e.key) (fun h=>RawD h d es ep) where
  type:=fun _ hm=>hm.typeIs
  there:=fun _ hm=>⟨let ⟨_,ho,_⟩:=hm; Heap.lt_size ho,let ⟨_,ho,_⟩:=hm; Heap.lt_size ho⟩
  keep:=fun _ _ hm hk=>hm.at' fun o e=>hk d (.inl rfl) o e
  notList:=by decide
  notTuple:=by decide
  hint:=fun _ _ _ _ hm hq=>kdl_hint_dict hm.typeIs hq
  iter:=fun _ s hh hm=>⟨_,_,(fun _ _ hq=>raw_iter lo hm hq),raw_walks hh _ d (Nat.ne_of_lt (kEA hm fun _ ho _=>Heap.lt_size ho)) es ep,⟨⟨_,Heap.get?_push_size _ rfl,rfl,rfl⟩,hm.at' fun o e=>push_keep _ _ _ o e⟩⟩
section
variable {prog:Program} {w:World} {A:Around} {E:Value→Shared→Prop} {s:Shared}
theorem sorted_tail {xs:List PyData} {vs:List Value} {J h₁:Heap} {tk:Nat} {Q:Value→Shared→Prop} (hk:∀ b o,s.heap.get? b=some o→h₁.get? b=some o) (hJ:∀ b o,J.get? b=some o→s.heap.get? b=some o) (r:RdL w J xs vs)
    (h64:xs.length<64) (hx:(∀ x∈xs,isInt x=true)∨(xs.Nodup∧∃ k,∀ x∈xs,isP k x=true))
    (h:∀ (h':Heap) (D:Addr) (tk:Nat) (out:List PyData) (us:Array Value) (n:Nat),s.heap.get? D=none→(∀ b o,s.heap.get? b=some o→h'.get? b=some o)→h'.get? D=some (lst us n)→RdL w J out us.toList→srtG xs out→Q (.ref D) { s with heap:=h',toks:=tk }) :
    wpAny (model prog w) A.in1 (newList vs>>=fun l=>holding [l] (call (.builtin "list.sort") [l])>>=fun _=>ret l) (fun fin s'=>∃ v,fin = .done (.ret v)∧Q v s') E { s with heap:=h₁,toks:=tk }:=by
  have hl:=RdL.length _ r
  refine wpAny_bind (wpAny_newList ?_ (by simp only [sizeLine_eq]; omega))
  have hD:s.heap.get? h₁.objs.size=none:=by
    cases e:s.heap.get? h₁.objs.size with
    | none=>rfl
    | some o=>have:=hk _ o e; rw [get?_size] at this; cases this
  have hg:(h₁.push { cls:=.type "list",data:=.seq vs.toArray }).get? h₁.objs.size=some (seqObj "list" vs.toArray 0):=Heap.get?_push_size _ rfl
  refine wpAny_bind (wpAny_holding (wpAny_call_entry slot_list_sort ⟨_,hg,rfl⟩ entry_list_sort ?_ (args_list_sort _)))
  have fin:∀ (good:List PyData→Prop),(∀ out,good out→srtG xs out)→Sorted w J h₁.objs.size { s with heap:=h₁.push { cls:=.type "list",data:=.seq vs.toArray },toks:=tk } good
      (fun s'=>∃ v,PySem.Fin.done (.ret .none) = .done (.ret v)∧wpAny (model prog w) A.in1 (ret (.ref h₁.objs.size)) (fun fin s'=>∃ v,fin = .done (.ret v)∧Q v s') E s'):=fun good hgood h' tk' out us n k1 k2 k3 k4=>
    ⟨_,rfl,wpAny_pure ⟨_,rfl,h h' _ tk' out us n hD (fun b o e=>k1 b o (fun q=>by rw [q,hD] at e; cases e) (push_keep _ _ b o (hk b o e))) k2 k3 (hgood out k4)⟩⟩
  rcases hx with hx | ⟨nd,k,hx⟩
  · exact sort_ints hg r hx h64 (fin _ fun out ho=>.inl ⟨ho.1,ho.2,hx⟩)
  · exact sort_pairs (J:=J) hg r (fun b o e=>⟨(fun q=>by have:=hJ b o e; simp only [q,hD] at this; cases this),push_keep _ _ b o (hk b o (hJ b o e))⟩) hx nd h64 (fin _ fun out ho=>.inr ⟨ho.1,ho.2,k,hx⟩)
theorem sorted_list {l:Addr} {xs:List PyData} {vs:Array Value} {J:Heap} {Q:Value→Shared→Prop} (hl:s.heap.IsList l vs) (hJ:∀ b o,J.get? b=some o→s.heap.get? b=some o) (r:RdL w J xs vs.toList)
    (h64:xs.length<64) (hx:(∀ x∈xs,isInt x=true)∨(xs.Nodup∧∃ k,∀ x∈xs,isP k x=true))
    (h:∀ (h':Heap) (D:Addr) (tk:Nat) (out:List PyData) (us:Array Value) (n:Nat),s.heap.get? D=none→(∀ b o,s.heap.get? b=some o→h'.get? b=some o)→h'.get? D=some (lst us n)→RdL w J out us.toList→srtG xs out→Q (.ref D) { s with heap:=h',toks:=tk }) :
    wpAny (model prog w) A (call (.builtin "sorted") [.ref l]) Q E s:=by
  refine Calls.call_function_entry kind_sorted plain_sorted entry_sorted (args_sorted1 _) ?_
  refine wpAny_bind (m:=checkCount "sorted" 1 1 _) (wpAny_pure ?_)
  have hlen:=RdL.length _ r
  refine wpAny_bind (collect_list (vs:=vs.toList) (by exact hl) ?_ (by simp only [sizeLine_eq]; lia))
  refine sorted_tail (s:=s) (tk:=s.toks) (fun b o e=>?_) hJ r h64 hx h
  have hne:b≠s.heap.objs.size:=fun q=>by rw [q,get?_size] at e; cases e
  exact ((Heap.SameBut.update _ s.heap.objs.size _).2 b hne).trans (push_keep _ _ b o e)
theorem sorted_dict {d:Addr} {es:Array DictEntry} {ep:Nat} {xs:List PyData} {J:Heap} {Q:Value→Shared→Prop} (hh:A.handled=none) (lo:(d==sysModules)=false) (hd:RawD s.heap d es ep) (hJ:∀ b o,J.get? b=some o→s.heap.get? b=some o) (r:RdL w J xs (es.toList.map (·.key)))
    (h64:xs.length<64) (hx:(∀ x∈xs,isInt x=true)∨(xs.Nodup∧∃ k,∀ x∈xs,isP k x=true))
    (h:∀ (h':Heap) (D:Addr) (tk:Nat) (out:List PyData) (us:Array Value) (n:Nat),s.heap.get? D=none→(∀ b o,s.heap.get? b=some o→h'.get? b=some o)→h'.get? D=some (lst us n)→RdL w J out us.toList→srtG xs out→Q (.ref D) { s with heap:=h',toks:=tk }) :
    wpAny (model prog w) A (call (.builtin "sorted") [.ref d]) Q E s:=by
  refine Calls.call_function_entry kind_sorted plain_sorted entry_sorted (args_sorted1 _) ?_
  refine wpAny_bind (m:=checkCount "sorted" 1 1 _) (wpAny_pure ?_)
  have hlen:=RdL.length _ r
  have hsz:es.size=xs.length:=by simpa using hlen
  refine wpAny_bind (kdu_collect (A:=A.in1) (raw_src lo) hh hd (by simp only [sizeLine_eq]; lia) fun h' tk acc hk hacc=>?_)
  have hacc':acc.toList=es.toList.map (·.key):=by
    refine kA hacc fun h1 h2=>?_
    apply List.ext_getElem?
    intro i
    simp only [List.getElem?_map]
    by_cases hi:i<es.size
    · have e1:acc[i]?=some acc[i]:=Array.getElem?_eq_getElem (by omega)
      refine kEA (h2 i _ e1) fun e e2 e3=>?_
      simp only [Array.getElem?_toList,Array.getElem?_toList,e1,e2,e3]; rfl
    · rw [List.getElem?_eq_none (by simp; omega),List.getElem?_eq_none (by simp; exact Nat.le_of_not_lt (by assumption))]; rfl
  rw [hacc']
  exact sorted_tail (s:=s) (tk:=tk) hk hJ r h64 hx h
end
theorem rd_kD {w:World} {J:Heap}:∀ {ks:List Ky} {vs:List Value},ItemsAre (ky G.prog G.w) ks vs→RdL w J (ks.map kD) vs
  | _,_,.nil=>by rfl
  | _,_,.cons h1 h2=>by simp only [List.map_cons,RdL]; exact ⟨_,_,rfl,rd_ky h1,rd_kD h2⟩
theorem rd_keys {w:World} {J:Heap}:∀ {kvs:List (PyData×PyData)} {es:List DictEntry},RdE w J kvs es→RdL w J (kvs.map (·.1)) (es.map (·.key)):=by
  intro xs9
  induction xs9 with
  | nil=>
    intro es h
    simp only [RdE] at h; subst h; rfl
  | cons p9 r ih=>
    obtain ⟨k,x⟩:=p9
    intro es h
    refine kEEAAA h fun e t z4 z5 h4 h5=>?_
    subst z4
    refine kEAA z5 fun q z7 h2 h3=>?_
    subst z7
    exact ⟨_,_,rfl,rd_ky h2,ih h5⟩
theorem srt_fin {c:Cx} {s:Shared} {g:Gh} {st:St} {ow:Bool} {xs:List PyData} {Q:QV} (R:RS G c g st s.heap) (hq:srtK ow xs Q st) (h':Heap) (D:Addr) (tk:Nat) (out:List PyData) (us:Array Value) (n:Nat) (h1:s.heap.get? D=none) (h2:∀ b o,s.heap.get? b=some o→h'.get? b=some o)
    (h3:h'.get? D=some (lst us n)) (h4:RdL G.w (g.J s.heap) out us.toList) (h5:srtG xs out):PV G c s g Q (.ref D) { s with heap:=h',toks:=tk }:=newl_at ow R h1 h2 h3 h4 (hq.2.2 out h5)
theorem keys_rd {w:World} {h J:Heap} {kvs:List (PyData×PyData)} {es:List DictEntry} (e:RdE w h kvs es):RdL w J (kvs.map (·.1)) (es.map (·.key)):=by
  induction kvs generalizing es with
  | nil=>
    obtain rfl:es=[]:=e
    rfl
  | cons p r ih=>
    obtain ⟨k,x⟩:=p
    refine kEEAAA e fun e t z10 z11 h4 h5=>?_
    subst z10
    refine kEAA z11 fun q z13 h2 h3=>?_
    subst z13
    exact ⟨_,_,rfl,rd_ky h2,ih h5⟩
theorem srt_list {lv:Nat} {ow:Bool} {c:Cx} {A:Around} {s:Shared} {g:Gh} {st:St} {Q:QV} {y:V} {v:Value} {xs:List PyData} (r:Room A lv) (R:RS G c g st s.heap) (hv:VR G s.heap g y v) (e:pk y st=some (.list xs)) (hq:srtK ow xs Q st) :
    wpAny (model G.prog G.w) A (call (.builtin "sorted") [v]) (PV G c s g Q) No s:=by
  refine kEEEAA (pk_list R hv e) fun a us n z7 h1 h2=>?_
  subst z7
  exact sorted_list ⟨_,h1,rfl,n,rfl⟩ (fun b o e=>hide_sub b o e) h2 hq.1 hq.2.1 (srt_fin R hq)
theorem srt_dict {lv:Nat} {ow:Bool} {c:Cx} {A:Around} {s:Shared} {g:Gh} {st:St} {Q:QV} {y:V} {v:Value} {kvs:List (PyData×PyData)} (r:Room A lv) (R:RS G c g st s.heap) (hv:VR G s.heap g y v) (e:pk y st=some (.dict kvs)) (hq:srtK ow (kvs.map (·.1)) Q st) :
    wpAny (model G.prog G.w) A (call (.builtin "sorted") [v]) (PV G c s g Q) No s:=by
  obtain ⟨a,o,es,ep,rfl,h0,h1,h2,h3,h4,h5⟩:=pk_ok R hv e
  exact sorted_dict r.hd h0 ⟨o,h1,h2,h3⟩ (fun b o e=>hide_sub b o e) (keys_rd h4) hq.1 hq.2.1 (srt_fin R hq)
theorem tkeys_rd {J:Heap} {l t} (tr:TR G J l t):RdL G.w J (tkeys l) ((t.map (entryOfKey (tupleKind (ky G.prog G.w)))).map (·.key)):=by
  induction tr with
  | nil=>rfl
  | cons t1 t2 _ ih=>exact kEEA t1 fun items n u1 u4=>⟨_,_,rfl,⟨_,items,n,rfl,u1,rd_kD u4⟩,ih⟩
theorem srtO_ok {lv:Nat} (ow:Bool):SemF G lv (.builtin "sorted") 1 (srtO ow):=fun c A s g st Q ys vs r R hn hv hq=>by
  refine kEA (on1_ok hq) fun y z1 hq1=>?_
  subst z1
  refine kEA (one_of hv) fun v z5 hv1=>?_
  subst z5
  cases y with
  | d x=>
    refine pc_ok hq1 (fun _ _ h=>h.elim) (fun _ _ h=>h.elim) (fun xs z hq2=>?_) (fun _ _ h=>h.elim) fun xs z hq2=>?_
    · subst z
      exact srt_list r R hv1 rfl hq2
    · subst z
      exact srt_dict r R hv1 rfl hq2
  | own k=>
    refine onC_ok hq1 (fun xs e hq2=>srt_list r R hv1 (show pkC _=_ by exact congrArg _ (e)) hq2) (fun kvs e hq2=>srt_dict r R hv1 (show pkC _=_ by exact congrArg _ (e)) hq2) fun kvs e hq2=>?_
    refine kEA hv1 fun a ha z15=>?_
    subst z15
    refine kAAAEA (R.cells _ _ a e rfl ha) fun _ _ h0 ts z12 tr=>?_
    refine kEEEAAAAA z12 fun o es ep h1 h2 h3 h4 h5 h6=>?_
    exact sorted_dict r.hd h0 ⟨o,h1,h2,h3⟩ (fun b o e=>hide_sub b o e) (h4▸tkeys_rd tr) hq2.1 hq2.2.1 (srt_fin R hq2)
  | _=>exact hq1.elim
end
section
variable {G:Gl} {K:Sk}
noncomputable def deq1 (b:List (PyData×PyData)) (p:PyData×PyData):Bool:=match kyOf p.1 with
  | some q=>(match dlook b q with | some y=>p.2.eqv y | none=>false)
  | none=>false
noncomputable def deq (a b:List (PyData×PyData)):Bool:=a.length==b.length&&a.all (deq1 b)
noncomputable def okv (a:List (PyData×PyData)):Bool:=a.all fun p=>isInt p.1&&okd p.2
theorem okv_cons {k x:PyData} {r:List (PyData×PyData)} (h:okv ((k,x) :: r)=true):okd x=true∧okv r=true:=by
  unfold okv at h
  have h:=Bool.and_eq_true_iff.mp h
  exact ⟨(Bool.and_eq_true_iff.mp h.1).2,h.2⟩
theorem RdE.uniq {w:World} {h:Heap} {xs ys:List (PyData×PyData)} {es:List DictEntry} (o:okv xs=true) (o':okv ys=true) (a:RdE w h xs es) (b:RdE w h ys es):xs=ys:=by
  induction xs generalizing ys es with
  | nil=>
    obtain rfl:es=[]:=a
    cases ys with
    | nil=>rfl
    | cons y ys=>exact kEEA b fun v r e _=>nomatch e
  | cons x xs ih=>
    obtain ⟨k,x⟩:=x
    refine kEEAAA a fun e r z3 z4 h1 h2=>?_
    subst z3
    refine kEAA z4 fun q z6 q1 _=>?_
    subst z6
    cases ys with
    | nil=>exact nomatch b
    | cons y ys=>
      obtain ⟨k',x'⟩:=y
      refine kEEAAA b fun e' r' ee z8 h3 h4=>?_
      obtain ⟨q',rfl,q2,_⟩:=z8
      cases ee
      obtain rfl:q=q':=Option.some.inj ((of_decide_eq_true q1).symm.trans (of_decide_eq_true q2))
      obtain ⟨o1,o2⟩:=okv_cons o
      refine kA (okv_cons o') fun p1 p2=>?_
      obtain ⟨as,ra⟩:=Rd.reads _ (okd_lay o1) h1
      obtain ⟨bs,rb⟩:=Rd.reads _ (okd_lay p1) h3
      obtain rfl:=SeqAt.Reads.unique _ _ _ _ _ (okd_lay o1) ra rb
      exact congrArg _ (ih o2 p2 h2 h4)
section
variable {prog:Program} {w:World} {A:Around} {s:Shared} {J:Heap}
theorem hits_ok {b:List (PyData×PyData)} {kb:List (Ky×Value)} (hb:KV w s.heap b kb) (hob:∀ p∈b,okd p.2=true) (hu:A.units+100<cLine):∀ {a:List (PyData×PyData)} {ka:List (Ky×Value)},KV w s.heap a ka→(∀ p∈a,okd p.2=true) →
    KeqHits A s kb ka (a.all (deq1 b))
  | _,_,.nil,_=>KeqHits.nil
  | _,_,@KV.cons _ _ p r ps qs e1 e2 h,ho=>by
    have ih:=hits_ok hb hob hu h fun p hp=>ho p (List.mem_cons_of_mem _ hp)
    simp only [List.all_cons]
    unfold deq1 at ih ⊢
    rw [e1,kyOf_kD]
    refine Or.elim (kv_look hb r.1) (fun z3=>?_) (fun z4=>?_)
    · refine kA z3 fun l1 l2=>?_
      simp only [l1,Bool.false_and]
      exact KeqHits.miss l2
    · refine kEEAA z4 fun x' v' l1 l2 l3=>?_
      simp only [l1]
      have hm:∃ p∈b,p.2=x':=by
        unfold dlook at l1
        simp only [Option.map_eq_some_iff] at l1
        refine kEA l1 fun p' h1 h2=>?_
        exact ⟨p',List.mem_of_find?_eq_some h1,h2⟩
      refine kEA hm fun p' hp' z6=>?_
      subst z6
      have o1:=ho p List.mem_cons_self
      have o2:=hob p' hp'
      obtain ⟨as,ra⟩:=Rd.reads _ (okd_lay o1) e2
      refine kE (Rd.reads _ (okd_lay o2) l3) fun bs rb=>?_
      have hd:=okd_depth o1
      exact KeqHits.hit l2 (SeqAt.eqAt_reads _ _ A s _ _ _ _ ra rb (okd_lay o1) (okd_lay o2) (by have:=Nat.min_le_left p.2.depth p'.2.depth; lia)) ih
mutual
theorem Rd.world {w w':World} {h:Heap}:∀ (x:PyData) {v:Value},x.canLay0=true→Rd w h x v→Rd w' h x v
  | .none,v,_,a=>by simp only [Rd] at *; exact a
  | .bool i,v,_,a=>by simp only [Rd] at *; exact a
  | .int i,v,_,a=>by simp only [Rd] at *; exact a
  | .str i,v,_,a=>by simp only [Rd] at *; exact a
  | .list xs,v,hk,a=>by
    refine kEEEAA a fun p vs n e h1 h2=>?_
    exact ⟨p,vs,n,e,h1,RdL.world xs hk h2⟩
  | .tuple xs,v,hk,a=>by
    refine kEEEAA a fun p vs n e h1 h2=>?_
    exact ⟨p,vs,n,e,h1,RdL.world xs hk h2⟩
  | .dict xs,v,hk,a=>by simp only [PyData.canLay0] at hk; cases hk
theorem RdL.world {w w':World} {h:Heap}:∀ (xs:List PyData) {vs:List Value},PyData.canLayAll0 xs=true→RdL w h xs vs→RdL w' h xs vs
  | [],vs,_,a=>by simp only [RdL] at *; exact a
  | x :: xs,vs,hk,a=>by
    simp only [PyData.canLayAll0,Bool.and_eq_true] at hk
    refine kEEAA a fun v r e h1 h2=>?_
    exact ⟨v,r,e,Rd.world x hk.1 h1,RdL.world xs hk.2 h2⟩
end
theorem RdE.world {w w':World} {h:Heap}:∀ (xs:List (PyData×PyData)) {es:List DictEntry},okv xs=true→RdE w h xs es→RdE w' h xs es
  | [],es,_,a=>by simp only [RdE] at *; exact a
  | (k,x) :: xs,es,ho,a=>by
    unfold okv at ho
    simp only [List.all_cons,Bool.and_eq_true,Bool.and_eq_true] at ho
    refine kEEAAA a fun e t e1 z11 h1 h2=>?_
    refine kEAA z11 fun q z13 q1 q2=>?_
    subst z13
    refine ⟨e,t,e1,⟨q,rfl,q1,?_⟩,Rd.world x (okd_lay ho.1.2) h1,RdE.world xs ho.2 h2⟩
    have hq:=ho.1.1
    cases q<;>simp [kD,isInt] at hq
    exact q2
theorem dict_eqAt {a b:List (PyData×PyData)} {u v:Value} (ra:Rd w s.heap (.dict a) u) (rb:Rd w s.heap (.dict b) v) (oa:okv a=true) (ob:okv b=true) (hu:A.units+200<cLine) (hr:a=b→deq a b=true):SeqAt.EqAt A s u v (deq a b):=by
  simp only [Rd] at ra rb
  obtain ⟨p,o,es,n,rfl,p0,h1,h2,h3,h4,h5⟩:=ra
  obtain ⟨q,o',es',n',rfl,q0,k1,k2,k3,k4,k5⟩:=rb
  by_cases e:p=q
  · subst e
    rw [h1] at k1; cases k1
    rw [h3] at k3; cases k3
    simp only [hr (RdE.uniq oa ob h4 k4)]
    exact SeqAt.EqAt.same _
  · refine SeqAt.EqAt.of_refs e fun prog' w' E Q hq=>?_
    refine kEA (dictOf_of (prog:=prog') h1 h2 h3 (RdE.world (w':=w') a oa h4) h5) fun ka da kva=>?_
    refine kEA (dictOf_of (prog:=prog') k1 k2 k3 (RdE.world (w':=w') b ob k4) k5) fun kb db kvb=>?_
    have ok2:∀ {l:List (PyData×PyData)},okv l=true→∀ p∈l,okd p.2=true:=fun {l} h p hp=>by
      have:=List.all_eq_true.mp h p hp
      exact (Bool.and_eq_true_iff.mp this).2
    refine keq_eq (knd:=ky prog' w') p0 q0 da db (by lia) (fun _=>hits_ok (A:=A.in1) kvb (ok2 ob) (by show A.units+1+100<cLine; lia) kva (ok2 oa)) ?_
    have e2:(ka.length==kb.length&&a.all (deq1 b))=deq a b:=by unfold deq; simp only [kva.length,kvb.length]
    rw [e2]; exact hq
end
noncomputable def neS:Op2:=fun a b Q st=>onPT (pk a st) fun l=>on2 l fun x1 d1=>onK d1 fun k1=>onPT (pk b st) fun l=>on2 l fun x2 d2=>onK d2 fun k2=>okd x1=true∧okd x2=true∧okv k1=true∧okv k2=true∧(k1=k2→deq k1 k2=true)∧Q (.d (.bool (!(x1.eqv x2&&deq k1 k2)))) st
theorem rd_two {w:World} {h:Heap} {x y:PyData} {v:Value} (r:Rd w h (.tuple [x,y]) v):∃ a v1 v2 n,v = .ref a∧h.get? a=some (tup #[v1,v2] n)∧Rd w h x v1∧Rd w h y v2:=by
  refine kEEEAA r fun b vs n z9 h1 h2=>?_
  subst z9
  refine kEEAA h2 fun v1 r1 e1 h3 h4=>?_
  refine kEEAA h4 fun v2 r2 e2 h5 h6=>?_
  subst h6
  have ev:vs=#[v1,v2]:=by
    have:vs=vs.toList.toArray:=by rfl
    rw [this,e1,e2]
  subst ev
  exact ⟨b,v1,v2,n,rfl,h1,h3,h5⟩
theorem neS_ok {lv:Nat}:SemO G lv (compareOp .NotEq) neS:=fun c A s g st Q a b u v r R ha hb hq=>by
  refine kEA (onPT_ok hq) fun l e1 hq=>kEEA (on2_ok hq) fun x1 d1 z1 hq=>kEA (onK_ok hq) fun k1 z2 hq=>kEA (onPT_ok hq) fun l' e2 hq=>kEEA (on2_ok hq) fun x2 d2 z3 hq=>kEA (onK_ok hq) fun k2 z4 hq=>?_
  subst z1 z2 z3 z4
  refine kAAAAA hq fun o1 o2 o3 o4 hr hq=>?_
  have hu:=r.units
  refine kEEEEAAA (rd_two (pk_ok R ha e1)) fun p v1 v2 n z11 hp r1 r2=>?_
  subst z11
  refine kEEEEAAA (rd_two (pk_ok R hb e2)) fun q u1 u2 n' z13 hq' r3 r4=>?_
  subst z13
  obtain ⟨as,ra⟩:=Rd.reads _ (okd_lay o1) r1
  obtain ⟨bs,rb⟩:=Rd.reads _ (okd_lay o2) r3
  have hd:=okd_depth o1
  have e0:SeqAt.EqAt A.in1 s v1 u1 (x1.eqv x2):=SeqAt.eqAt_reads _ _ _ s _ _ _ _ ra rb (okd_lay o1) (okd_lay o2) (by have:=Nat.min_le_left x1.depth x2.depth; show A.units+1+_<cLine; lia)
  have e1':SeqAt.EqAt A.in1 s v2 u2 (deq k1 k2):=dict_eqAt (A:=A.in1) r2 r4 o3 o4 (by have:=r.un; show A.units+1+200<9900; lia) hr
  have:=SeqAt.RcNeAt.tuples (A:=A) (s:=s) (e:=fun i=>if i=0 then x1.eqv x2 else deq k1 k2) ⟨_,hp,rfl,n,rfl⟩ ⟨_,hq',rfl,n',rfl⟩ (by lia) (fun j j1 j2=>by
    match j,j1 with
    | 0,_=>exact e0
    | 1,_=>exact e1')
  refine this _ _ _ _ ⟨_,st,g,Go.refl R,vr_bool,?_⟩
  have e3:((List.range (min (#[v1,v2]:Array Value).size (#[u1,u2]:Array Value).size)).all (fun i=>if i=0 then x1.eqv x2 else deq k1 k2)&&(#[v1,v2]:Array Value).size==(#[u1,u2]:Array Value).size)=(x1.eqv x2&&deq k1 k2):=by
    simp [List.range,List.range.loop]
  rw [e3]; exact hq
end
section
variable {G:Gl} {K:Sk}
structure Cls (G:Gl) (F:Frag) (names:List Str):Prop where
  X:F.In G.h₀
  cd:∃ cd,clsIn F G.C=some cd∧cd.hasDict=true
  ga:findIn F (.ref G.C) "__getattribute__" = some (some (.builtin "object.__getattribute__"))
  sa:findIn F (.ref G.C) "__setattr__" = some (some (.builtin "object.__setattr__"))
  po:plainOver F G.C=true
  no:∀ n∈names,findIn F (.ref G.C) n=some none
theorem lookIn_ns {h:Heap} {d:Addr} {m:Str→Option Value} (hn:h.Ns d m):∃ od,h.get? d=some od∧∀ n,lookIn n od=some (m n):=by
  refine kEEEAAA hn fun o es ep ho hd hk hm=>?_
  refine ⟨o,ho,fun n=>?_⟩
  unfold lookIn
  rw [hd]
  dsimp only
  rw [Array.find?_toList]
  have e:=hm n
  unfold nsFind findBy at e
  cases hf:es.find? (fun e=>e.key.isStr n) with
  | some en=>rw [hf] at e; rw [← e]; rfl
  | none=>
    rw [hf] at e
    rw [← e]
    have hany:es.toList.any (·.refKey)=false:=by
      rw [List.any_eq_false]
      intro x hx
      refine kEE (hk x (Array.mem_toList_iff.mp hx)) fun nn t h=>?_
      simp [DictEntry.refKey,h]
    simp [hany]
theorem handed {w:World} {J:Heap} {x:PyData} {v:Value} (r:Rd w J x v):handedIn v=true:=by
  cases x<;>simp only [Rd] at r
  · subst r; rfl
  · subst r; rfl
  · obtain ⟨t,rfl⟩:=r; rfl
  · obtain ⟨t,rfl⟩:=r; rfl
  · obtain ⟨a,_,_,rfl,_⟩:=r; rfl
  · obtain ⟨a,_,_,rfl,_⟩:=r; rfl
  · obtain ⟨a,_,_,_,rfl,_⟩:=r; rfl
theorem handedV {h:Heap} {g:Gh} {y:V} {v:Value} (r:VR G h g y v):handedIn v=true:=by
  cases y with
  | u=>exact r.elim
  | d x=>exact handed r
  | own k=>obtain ⟨a,_,rfl⟩:=r; rfl
  | inst k=>obtain ⟨d,_,a,_,rfl,_⟩:=r; rfl
  | ob fs=>obtain ⟨d,m,⟨a,_,rfl,_⟩,_⟩:=r; rfl
  | rng n=>obtain ⟨a,_,_,_,rfl,_⟩:=r; rfl
section
variable {F:Frag} {names:List Str} {A:Around} {E:Value→Shared→Prop} {s:Shared}
theorem get_ok {v u:Value} {d:Addr} {n:Str} {m:Str→Option Value} {Q:Value→Shared→Prop} (Z:Cls G F names) (hX:F.In s.heap) (hn:n∈names) (hi:InstOf G s.heap v d) (hm:s.heap.Ns d m) (hu:m n=some u) (hh:handedIn u=true)
    (h:Q u { s with toks:=s.toks+1 }):wpAny (model G.prog G.w) A (getAttr v n true) Q E s:=by
  refine kEEAAAAA hi fun a o z7 h1 h2 h3 h4 h5=>?_
  subst z7
  refine kEA (lookIn_ns hm) fun od ho hl=>?_
  refine kEA Z.cd fun cd hc hd=>?_
  have I:InstAt s.heap a o G.C (some od):=⟨h1,h2,by unfold notCls; rw [h3],by simp only [h5]; exact ho⟩
  refine get_value hX I Z.ga ?_ hh h
  unfold findObj
  rw [hc,Option.bind_some,Z.no n hn,Option.bind_some]
  show (PySem.W.ownOf cd (some od) n).bind _=_
  unfold PySem.W.ownOf
  rw [if_pos hd]
  dsimp only
  rw [hl n,hu]
  rfl
end
noncomputable def fldK (n:Str) (R:QV):QV:=fun y st'=>match y with
  | .ob fs=>∃ x,fs.lookup n=some x∧R (.d x) st'
  | .inst k=>(match st'.μ[k]? with
    | some (.ns fs)=>∃ y,fs.lookup n=some y∧R y st'
    | _=>False)
  | _=>False
noncomputable def getT (t:Tr V) (n:Str):Tr V:=fun Q st=>t (fldK n Q) st
theorem SemE.attr {F:Frag} {names:List Str} {e:Expr} {n:Str} {pos:Pos} {t:Tr V} (Z:Cls G F names) (h:SemE G K e t) (hn:n∈names) (hb:∀ env,attributeBase e n env (eval e env)=eval e env):SemE G K (.Attribute e n pos) (getT t n):=fun c A s g st Q a R hq=>by
  refine Attribute_any_ (PV.bind (h c A s g st _ a R hq) (fun v s1 y st1 g1 go1 v1 hq1=>?_)) (by simp only [arm_eval_Attribute,hb])
  have hX:F.In s1.heap:=Z.X.keeps fun b o e=>hide_sub _ _ (go1.rs.base b o e)
  cases y with
  | ob fs=>
    refine kEA hq1 fun x hx hq2=>?_
    refine kEEAA v1 fun d m hi hm hf=>?_
    refine kEA (hf n x hx) fun u hu hr=>?_
    have hi':InstOf G s1.heap v d:=let ⟨a,o,e1,e2,e3⟩:=hi; ⟨a,o,e1,hide_sub _ _ e2,e3⟩
    exact get_ok Z hX hn hi' (hm.keeps fun b o e=>hide_sub b o e) hu (handed hr) ⟨.d x,st1,g1,go1.trans (Go.tk go1.rs _),hr,hq2⟩
  | inst k=>
    unfold fldK at hq1
    dsimp only at hq1
    split at hq1
    · rename_i fs e
      refine kEA hq1 fun y hy hq2=>?_
      refine kEA v1 fun d hd hi=>?_
      refine kAAEAA (go1.rs.cells k _ d e rfl hd) fun _ _ m hm _ hf=>?_
      refine kEA (hf n y hy) fun u hu hr=>?_
      have hi':InstOf G s1.heap v d:=let ⟨a,o,e1,e2,e3⟩:=hi; ⟨a,o,e1,hide_sub _ _ e2,e3⟩
      exact get_ok Z hX hn hi' hm hu (handedV hr) ⟨y,st1,g1,go1.trans (Go.tk go1.rs _),hr,hq2⟩
    · exact hq1.elim
  | _=>exact hq1.elim
theorem put_size (name:Str) (h:Int) (key v:Value) {o:Obj} {es:Array DictEntry} {ep:Nat} (hd:o.data = .dict es ep):∃ es' ep',(Obj.putName name h key v o).data = .dict es' ep'∧es'.size≤es.size+1:=by
  obtain ⟨c,d,dt,sl⟩:=o
  subst hd
  cases hi:es.findIdx? (·.key.isStr name) with
  | some i=>exact ⟨_,_,by simp only [Obj.putName_eq,Obj.putNameByArray,hi]; rfl,by simp⟩
  | none=>exact ⟨_,_,by simp only [Obj.putName_eq,Obj.putNameByArray,hi]; rfl,by simp⟩
theorem ns_put {h:Heap} {a:Addr} {m:Str→Option Value} {name:Str} {v:Value} {hh:Int} {t:Tok} (hn:h.Ns a m):(h.update a (Obj.putName name hh (.str name t) v)).Ns a (fun x=>if x=name then some v else m x):=by
  refine kEEEAAA hn fun o es ep ho hd hk hm=>?_
  obtain ⟨c,d,dt,sl⟩:=o
  subst hd
  cases hi:es.findIdx? (·.key.isStr name) with
  | some i=>
    refine ⟨_,_,ep,Heap.get?_update_self _ ho (by simp only [Obj.putName_eq,Obj.putNameByArray,hi]; rfl),by simp only [Obj.putName_eq,Obj.putNameByArray,hi]; rfl,hk.modify _ _,fun x=>?_⟩
    show _=if x=name then some v else m x
    rw [← hm]; exact findBy_modify (fun n v=>v.isStr n) Value.isStr_inj es name x v i hi
  | none=>
    refine ⟨_,_,ep+1,Heap.get?_update_self _ ho (by simp only [Obj.putName_eq,Obj.putNameByArray,hi]; rfl),by simp only [Obj.putName_eq,Obj.putNameByArray,hi]; rfl,hk.push _ _ _ _,fun x=>?_⟩
    show _=if x=name then some v else m x
    rw [← hm]
    exact findBy_push (fun n v=>v.isStr n) es name x _ _ v (fun y=>by
      show (name==y)=decide (y=name)
      by_cases h:y=name
      · subst h; rfl
      · have:¬ name=y:=fun e=>h e.symm
        simp [h,this]) hi
theorem freed_dict {o:Obj} {es:Array DictEntry} {ep:Nat} (h:o.data = .dict es ep):o.isFreed=false:=by
  obtain ⟨_,_,dd,_⟩:=o
  subst h; rfl
theorem nsSet_size {M:Model} {A:Around} {E:Value→Shared→Prop} {s:Shared} {a:Addr} {m:Str→Option Value} {name:Str} {v:Value} {N:Nat} {Q:Unit→Shared→Prop} (hn:s.heap.Ns a m) (hz:∃ o es ep,s.heap.get? a=some o∧o.data = .dict es ep∧es.size≤N)
    (hQ:∀ h',h'.Ns a (fun x=>if x=name then some v else m x)→Heap.SameBut a s.heap h'→(∃ o es ep,h'.get? a=some o∧o.data = .dict es ep∧es.size≤N+1)→Q () { s with heap:=h',toks:=s.toks+1 }):wpAny M A (nsSet a name v) Q E s:=by
  have hn':=hn
  refine kEEEAAA hn fun o es ep ho hd hk hm=>?_
  refine kEEEAA hz fun o' es' ep' ho' hd' hz=>?_
  rw [ho] at ho'; cases ho'
  refine wpAny_bind (wpAny_bind (wpAny_askSetting (wpAny_pure (wpAny_bind (wpAny_mkText (wpAny_bind (wpAny_loadPart ho ?_)))))))
  rw [hd]
  dsimp only
  have hany:es.any (·.refKey)=false:=by
    rw [Array.any_eq_false']; intro e he; obtain ⟨n,t,h⟩:=hk e he; simp [DictEntry.refKey,h]
  simp only [aRefKeyMayBeTheName_at,hany,Bool.and_false]
  refine wpAny_updatePart ho ?_
  refine kEEA (put_size name (PyData.keyHash M.w.params name) (.str name s.toks) v hd) fun es2 ep2 e1 e2=>?_
  refine hQ _ (ns_put hn') (Heap.SameBut.update ..) ⟨_,es2,ep2,Heap.get?_update_self _ ho (freed_dict e1),e1,by lia⟩
noncomputable def nsPut (st:St) (k:Nat) (n:Str) (y:V):St:=match st.μ[k]? with
  | some (.ns fs)=>setC st k (.ns ((n,y) :: fs))
  | _=>st
noncomputable def atrAt (o:V) (n:Str) (y:V) (Q:St→Prop) (st:St):Prop:=match o with
  | .inst k=>(match st.μ[k]? with
    | some (.ns fs)=>y≠.u∧fs.length≤100∧Q (setC st k (.ns ((n,y) :: fs)))
    | _=>False)
  | _=>False
theorem atrAt_ok {F:Frag} {names:List Str} {c:Cx} {A:Around} {s:Shared} {g:Gh} {st:St} {Q:St→Prop} {o y:V} {u v:Value} {n:Str} (Z:Cls G F names) (hn:n∈names) (R:RS G c g st s.heap) (ho:VR G s.heap g o u) (hy:VR G s.heap g y v) (hq:atrAt o n y Q st) :
    wpAny (model G.prog G.w) A (setAttr u n v) (PU G c s g Q) No s:=by
  unfold atrAt at hq
  split at hq
  · rename_i k
    split at hq
    · rename_i fs e
      refine kAA hq fun _ hlen hq=>?_
      refine kEA ho fun d hd hi=>?_
      refine kAAEAA (R.cells k _ d e rfl hd) fun hM hL m hm hz hf=>?_
      refine kEEAAAAA hi fun a ob z9 h1 h2 h3 h4 h5=>?_
      subst z9
      have h1':=hide_sub _ _ h1
      have hX:F.In s.heap:=Z.X.keeps fun b o e=>hide_sub _ _ (R.base b o e)
      refine kEA Z.cd fun cd hc hcd=>?_
      refine kEA (lookIn_ns hm) fun od hod hl=>?_
      have I:InstAt s.heap a ob G.C (some od):=⟨h1',h2,by unfold notCls; rw [h3],by simp only [h5]; exact hod⟩
      refine set_plain hX I Z.sa ?_
      have I':InstAt ({ s with toks:=s.toks+1 }:Shared).heap a ob G.C (some od):=I
      refine osa_open (s:={ s with toks:=s.toks+1 }) (r:=none) hX I' Z.po (by unfold takerIn; rw [Z.no n hn]; rfl) fun b=>?_
      obtain ⟨oc,odi,oda,osl⟩:=ob
      dsimp only at h2 h3 h4 h5
      subst h2 h3 h4 h5
      have hcl:=looks_clsIn (M:=model G.prog G.w) hX hc
      refine wpAny_bind (wpAny_pure (wpAny_bind (wpAny_bind (wpAny_loadPart (s:={ s with toks:=s.toks+1 }) h1' (wpAny_bind (Looks.here (s:={ s with toks:=s.toks+1 }) hcl ?_))))))
      rw [hcd]
      refine wpAny_pure (a:=some d) (wpAny_bind (wpAny_pure (wpAny_bind ?_)))
      refine nsSet_size (s:={ s with toks:=s.toks+1 }) hm hz fun h' hn' hs' hz'=>?_
      have hO:d∈g.O:=R.sub _ hM
      have hj:=sb_still hO hs'
      have hlv:∃ o,h'.get? d=some o:=kEEEA hz' fun o _ _ e _=>⟨o,e⟩
      obtain ⟨R',l⟩:=R.upd (q':=.ns ((n,y) :: fs)) e rfl hd hs' hlv ⟨_,hn',by exact hz',fun x p ex=>by
        simp only [List.lookup_cons] at ex
        cases hx:x==n with
        | true=>
          rw [hx] at ex
          have:x=n:=by simpa using hx
          simp only [Option.some.injEq] at ex
          subst ex
          exact ⟨v,by simp [this],VR.of hj (fun _ _ e=>e) y hy⟩
        | false=>
          rw [hx] at ex
          have:x≠n:=by simpa using hx
          refine kEA (hf x p ex) fun u u1 u2=>?_
          exact ⟨u,by simpa [this] using u1,VR.of hj (fun _ _ e=>e) p u2⟩⟩ rfl
      refine kEEEAA hz' fun o2 es2 ep2 z1 z2 z3=>?_
      refine wpAny_bind (wpAny_lookBehind z1 (by rw [z2]; exact pastItsLine_dict (by rw [sizeLine_eq]; lia)) ?_)
      exact wpAny_pure ⟨_,g,⟨R',l,⟨rfl,rfl,rfl⟩⟩,hq⟩
    · exact hq.elim
  · exact hq.elim
noncomputable def atrK2 (n:Str) (y:V) (Q:Fl→St→Prop):QV:=fun b st2=>atrAt b n y (nxK Q) st2
noncomputable def atrK1 (o:Tr V) (n:Str) (Q:Fl→St→Prop):QV:=fun y st1=>o (atrK2 n y Q) st1
noncomputable def atrT (t o:Tr V) (n:Str):Tr Fl:=fun Q st=>t (atrK1 o n Q) st
theorem SemS.setAttr {F:Frag} {names:List Str} {e1 e:Expr} {n:Str} {p pos:Pos} {t o:Tr V} (Z:Cls G F names) (h:SemE G K e t) (h1:SemE G K e1 o) (hn:n∈names) (hs:∀ env,swapsWith e (some (.Attribute e1 n p)) pos.line env=pure false) :
    SemS G K (.Assign [.Attribute e1 n p] e pos) (atrT t o n):=fun c A s g st Q a R hq=>
  plainObj_wpAny_Assign_Attribute (PV.bind (h c A s g st _ a R hq) (fun v s1 y st1 g1 go1 v1 hq1=>
    PV.bind (h1 c A s1 g1 st1 _ a go1.rs hq1) (fun u s2 b st2 g2 go2 v2 hq2=>
      PU.bind (atrAt_ok Z hn go2.rs v2 (VR.go go2 go1.rs y v1) hq2) (fun _ s3 st3 g3 go3 hq3=>⟨.next,st3,g3,(go1.trans go2).trans go3,trivial,hq3⟩)))) (hs _)
end
section
variable {G:Gl} {K:Sk}
theorem enterI {c:Cx} {s s1:Shared} {g:Gh} {st:St} {fd:FuncData} {a₀:Addr} {names slots:List Str} {zs:List V} {vs:List Value} {L:Addr}
    (sh:Shape fd.scope names slots) (R:RS G c g st s.heap) (hal:∀ q∈st.μ,q.alive=true) (hzs:VRs G s.heap g zs vs) (hlen:names.length=zs.length)
    (X:InCallC s L (bindL (callEnvC fd L a₀).kindOf (names.zip vs) fun _=>none) (cellsFrom (L+1) fd.scope.names []) (bindC (callEnvC fd L a₀).kindOf (names.zip vs) fun _=>none) s1) :
    ∃ cas:List Addr,(∀ b∈cas,L<b)∧RS G ⟨callEnvC fd L a₀,slots,true⟩ ⟨(L :: cas)++g.O,(L :: cas)++g.as,g.as⟩ ⟨zs++List.replicate (slots.length - names.length) .u,st.μ⟩ s1.heap:=by
  have hLs:s.heap.objs.size≤L:=X.toInCall.fresh
  have keep:=X.toInCall.keep
  let cs:=cellsFrom (L+1) fd.scope.names []
  let cas:=(cs.map (·.1)).filterMap fun n=>cs.lookup n
  have hcas:∀ b,b∈cas↔∃ n,cs.lookup n=some b:=fun b=>by
    constructor
    · intro hb
      refine kEA (List.mem_filterMap.mp hb) fun n _ h2=>?_
      exact ⟨n,h2⟩
    · rintro ⟨n,hn⟩
      exact List.mem_filterMap.mpr ⟨n,List.mem_map.mpr ⟨(n,b),mem_of_lookup hn,rfl⟩,hn⟩
  have habove:∀ b∈cas,L<b:=fun b hb=>kE ((hcas b).mp hb) fun n hn=>X.above n b (mem_of_lookup hn)
  have hlt:∀ b o,s.heap.get? b=some o→b<L:=fun b o e=>Nat.lt_of_lt_of_le (Heap.lt_size e) hLs
  have hasM:∀ b∈g.as,b∈g.M:=fun b hb=>by
    refine kE (List.getElem?_of_mem hb) fun k hk=>?_
    have hl:k<st.μ.length:=by rw [← R.len']; exact (List.getElem?_eq_some_iff.mp hk).1
    exact (R.cells k st.μ[k] b (List.getElem?_eq_getElem hl) (hal _ (List.getElem_mem hl)) hk).1
  have hasL:∀ b∈g.as,b<L:=fun b hb=>kE (R.live b (R.sub b (hasM b hb))) fun o e=>hlt b o e
  have hj:∀ b o,(g.J s.heap).get? b=some o→(Gh.J ⟨(L :: cas)++g.O,(L :: cas)++g.as,g.as⟩ s1.heap).get? b=some o:=fun b o e=>by
    refine kA (hide_some.mp e) fun h1 h2=>?_
    refine hide_some.mpr ⟨fun q=>?_,keep b o h2⟩
    have:=hlt b o h2
    simp only [List.cons_append,List.mem_cons,List.mem_append] at q
    rcases q with rfl | q | q
    · exact Nat.lt_irrefl _ this
    · exact Nat.lt_asymm this (habove b q)
    · exact h1 q
  have hid:∀ (k:Nat) (b:Addr),g.as[k]?=some b→g.as[k]?=some b:=fun _ _ e=>e
  have hnn:names.Nodup:=by
    refine kE sh.pre fun t ht=>?_
    have:=sh.nd
    rw [← ht] at this
    exact (List.nodup_append.mp this).1
  have hpos:∀ (i:Nat) (x:Str),slots[i]?=some x→i<names.length→names[i]?=some x:=fun i x hi hl=>by
    refine kE sh.pre fun t ht=>?_
    rw [← ht,List.getElem?_append_left hl] at hi
    exact hi
  have hsl:names.length≤slots.length:=sh.pre.length_le
  have main:∀ (ds:List V) (dvs:List Value) (j:Nat) (y:V),VRs G s.heap g ds dvs→ds[j]?=some y→∃ v,dvs[j]?=some v∧VR G s1.heap ⟨(L :: cas)++g.O,(L :: cas)++g.as,g.as⟩ y v:=by
    intro ds
    induction ds with
    | nil=>intro dvs j y _ h; simp at h
    | cons z zs ih=>
      rintro dvs j y ⟨v,r,rfl,a,b⟩ h
      cases j with
      | zero=>simp at h; subst h; exact ⟨v,rfl,VR.of hj hid _ a⟩
      | succ j=>
        refine kEA (ih r j y b (by simpa using h)) fun u u1 u2=>?_
        exact ⟨u,by exact u1,u2⟩
  refine ⟨cas,habove,⟨fun b o e=>hj b o (R.base b o e),fun b hb=>?_,fun b hb=>?_,by simp [callEnvC,newEnv],⟨_,_,X.toInCall.ns,X.cell,fun i x y h4 h5 h6=>?_⟩,fun n b hn=>?_,fun n n' b h1 h2=>name_of_addr X.apart (mem_of_lookup h1) (mem_of_lookup h2),fun _ n b hn=>?_,?_,R.len',fun k q b h1 h2 h3=>?_,R.inj⟩⟩
  · simp only [List.cons_append,List.mem_cons,List.mem_append] at hb ⊢
    rcases hb with h | h | h
    · exact .inl h
    · exact .inr (.inl h)
    · exact .inr (.inr (R.sub b (hasM b h)))
  · simp only [List.cons_append,List.mem_cons,List.mem_append] at hb
    rcases hb with rfl | h | h
    · obtain ⟨o,_,_,e,_⟩:=X.toInCall.ns; exact ⟨o,e⟩
    · obtain ⟨n,hn⟩:=(hcas b).mp h
      obtain ⟨o,e,_⟩:=X.cell n b hn; exact ⟨o,e⟩
    · obtain ⟨o,e⟩:=R.live b h; exact ⟨o,keep b o e⟩
  · have hi:i<zs.length:=by
      refine Or.elim (Nat.lt_or_ge i zs.length) (fun h=>?_) (fun h=>?_)
      · exact h
      · rw [List.getElem?_append_right h,List.getElem?_replicate] at h5
        split at h5
        · cases h5; exact absurd rfl h6
        · cases h5
    rw [List.getElem?_append_left hi] at h5
    refine kEA (main zs vs i y hzs h5) fun v v1 v2=>?_
    exact ⟨v,bind_at _ names _ _ _ i x v hnn (hpos i x h4 (by lia)) v1,v2⟩
  · have hb:b∈cas:=(hcas b).mpr ⟨n,hn⟩
    have hL:=habove b hb
    refine ⟨by simp [hb],Nat.ne_of_gt hL,fun k q h1 h2 h3=>?_⟩
    exact Nat.lt_asymm (hasL b (List.mem_of_getElem? h3)) hL
  · simp [(hcas b).mpr ⟨n,hn⟩]
  · show _=slots.length
    simp only [List.length_append,List.length_replicate]
    lia
  · refine kAA (R.cells k q b h1 h2 h3) fun h4 h5 h6=>?_
    have hb:b∈g.as:=List.mem_of_getElem? h3
    exact ⟨by simp [hb],Nat.ne_of_lt (hasL b hb),CR.of hj hid (fun o e=>keep b o e) h6⟩
theorem leaveI {c c':Cx} {s s1 s2:Shared} {g g1:Gh} {st st1:St} {cas:List Addr} {L:Addr} (R:RS G c g st s.heap) (hal:∀ q∈st.μ,q.alive=true) (keep:∀ b o,s.heap.get? b=some o→s1.heap.get? b=some o)
    (hnew:∀ b,b=L∨b∈cas→s.heap.get? b=none) (R1:RS G c' g1 st1 s2.heap) (le:Le s1.heap ⟨(L :: cas)++g.O,(L :: cas)++g.as,g.as⟩ s2.heap g1) (hal1:∀ q∈st1.μ,q.alive=true) :
    RS G c ⟨g1.O,g.M++g1.as.drop g.as.length,g1.as⟩ ⟨st.ρ,st1.μ⟩ s2.heap∧Le s.heap g s2.heap ⟨g1.O,g.M++g1.as.drop g.as.length,g1.as⟩:=by
  have hasM:∀ b∈g.as,b∈g.M:=fun b hb=>by
    obtain ⟨k,hk⟩:=List.getElem?_of_mem hb
    have hl:k<st.μ.length:=by rw [← R.len']; exact (List.getElem?_eq_some_iff.mp hk).1
    exact (R.cells k st.μ[k] b (List.getElem?_eq_getElem hl) (hal _ (List.getElem_mem hl)) hk).1
  have as1M:∀ b∈g1.as,b∈g1.M:=fun b hb=>by
    obtain ⟨k,hk⟩:=List.getElem?_of_mem hb
    have hl:k<st1.μ.length:=by rw [← R1.len']; exact (List.getElem?_eq_some_iff.mp hk).1
    exact (R1.cells k st1.μ[k] b (List.getElem?_eq_getElem hl) (hal1 _ (List.getElem_mem hl)) hk).1
  have notM':∀ b o,b∉g.as→s.heap.get? b=some o→b∉(L :: cas)++g.as:=fun b o hb e q=>by
    simp only [List.cons_append,List.mem_cons,List.mem_append] at q
    rcases q with q | q | q
    · rw [hnew b (.inl q)] at e; cases e
    · rw [hnew b (.inr q)] at e; cases e
    · exact hb q
  have same:∀ b o,b∉g.as→s.heap.get? b=some o→s2.heap.get? b=some o:=fun b o hb e=>le.same b o (notM' b o hb e) (keep b o e)
  have inO:∀ b∈g.O,b∈g1.O:=fun b hb=>by
    by_cases hm:b∈g.as
    · refine kE (List.getElem?_of_mem hm) fun k hk=>?_
      exact R1.sub b (as1M b (List.mem_of_getElem? (pre_get le.pre hk)))
    · refine kE (R.live b hb) fun o e=>?_
      exact (le.hid b o (notM' b o hm e) (keep b o e)).mpr (by simp [hb])
  have outO:∀ b o,b∉g.O→s.heap.get? b=some o→b∉g1.O:=fun b o hb e q=>by
    have hm:b∉g.as:=fun q=>hb (R.sub b (hasM b q))
    have:=(le.hid b o (notM' b o hm e) (keep b o e)).mp q
    simp only [List.cons_append,List.mem_cons,List.mem_append] at this
    rcases this with q | q | q
    · rw [hnew b (.inl q)] at e; cases e
    · rw [hnew b (.inr q)] at e; cases e
    · exact hb q
  have hj:∀ b o,(g.J s.heap).get? b=some o→(Gh.J ⟨g1.O,g.M++g1.as.drop g.as.length,g1.as⟩ s2.heap).get? b=some o:=fun b o e=>by
    refine kA (hide_some.mp e) fun h1 h2=>?_
    exact hide_some.mpr ⟨outO b o h1 h2,same b o (fun q=>h1 (R.sub b (hasM b q))) h2⟩
  have hp:∀ (k:Nat) (b:Addr),g.as[k]?=some b→g1.as[k]?=some b:=fun k b e=>pre_get le.pre e
  have newc:∀ (k:Nat) (b:Addr),g.as.length≤k→g1.as[k]?=some b→s.heap.get? b=none:=fun k b hk e=>by
    have hm:b∈g1.M:=as1M b (List.mem_of_getElem? e)
    refine Or.elim (le.sub b hm) (fun q=>?_) (fun q=>?_)
    · simp only [List.cons_append,List.mem_cons,List.mem_append] at q
      rcases q with q | q | q
      · exact hnew b (.inl q)
      · exact hnew b (.inr q)
      · refine kE (List.getElem?_of_mem q) fun j hj'=>?_
        have hjl:=(List.getElem?_eq_some_iff.mp hj').1
        have e1:=hp j b hj'
        have l1:j<st1.μ.length:=by rw [← R1.len']; exact (List.getElem?_eq_some_iff.mp e1).1
        have l2:k<st1.μ.length:=by simp only [← R1.len']; exact (List.getElem?_eq_some_iff.mp e).1
        have:=R1.inj j k st1.μ[j] st1.μ[k] b (List.getElem?_eq_getElem l1) (hal1 _ (List.getElem_mem l1)) (List.getElem?_eq_getElem l2) (hal1 _ (List.getElem_mem l2)) e1 e
        lia
    · cases eb:s.heap.get? b with
      | none=>rfl
      | some o=>rw [keep b o eb] at q; cases q
  have drop_mem:∀ b,b∈g1.as.drop g.as.length→∃ k,g.as.length≤k∧g1.as[k]?=some b:=fun b hb=>by
    refine kE (List.getElem?_of_mem hb) fun i hi=>?_
    rw [List.getElem?_drop] at hi
    exact ⟨_,Nat.le_add_right _ _,hi⟩
  have locAs:c.env.locals∉g.as:=fun q=>by
    refine kE (List.getElem?_of_mem q) fun k hk=>?_
    have hl:k<st.μ.length:=by rw [← R.len']; exact (List.getElem?_eq_some_iff.mp hk).1
    exact (R.cells k st.μ[k] _ (List.getElem?_eq_getElem hl) (hal _ (List.getElem_mem hl)) hk).2.1 rfl
  have cellAs:∀ n b,c.env.cells.lookup n=some b→b∉g.as:=fun n b hn q=>by
    refine kE (List.getElem?_of_mem q) fun k hk=>?_
    have hl:k<st.μ.length:=by rw [← R.len']; exact (List.getElem?_eq_some_iff.mp hk).1
    exact (R.cellO n b hn).2.2 k st.μ[k] (List.getElem?_eq_getElem hl) (hal _ (List.getElem_mem hl)) hk
  refine kEEAA R.names fun m cm h1 h2 h3=>?_
  refine ⟨⟨fun b o e=>hj b o (R.base b o e),fun b hb=>?_,R1.live,by simp [R.loc],⟨m,cm,h1.at' fun o e=>same _ o locAs e,fun n b e=>Heap.IsCell.at' (h2 n b e) fun o e'=>same b o (cellAs n b e) e',fun j z y h4 h5 h6=>?_⟩,
    fun n b e=>?_,R.cellI,fun hw n b e=>by simp [R.cellW hw n b e],R.len,R1.len',fun k q b e1 e2 e3=>?_,R1.inj⟩,⟨fun b o hb e=>same b o (fun q=>hb (hasM b q)) e,fun b o hb e=>⟨fun q=>?_,fun q=>inO b q⟩,fun b hb=>?_,?_⟩⟩
  · refine Or.elim (List.mem_append.mp hb) (fun hb=>?_) (fun hb=>?_)
    · exact inO b (R.sub b hb)
    · refine kEA (drop_mem b hb) fun k _ e=>?_
      exact R1.sub b (as1M b (List.mem_of_getElem? e))
  · refine kEA (h3 j z y h4 h5 h6) fun v h7 h8=>?_
    exact ⟨v,h7,VR.of hj hp _ h8⟩
  · refine kAA (R.cellO n b e) fun e1 e2 e3=>?_
    refine ⟨inO b e1,e2,fun j p e4 e5 e6=>?_⟩
    by_cases hjl:j<g.as.length
    · have e7:g.as[j]?=some g.as[j]:=List.getElem?_eq_getElem hjl
      have:g.as[j]=b:=Option.some.inj ((hp j _ e7).symm.trans e6)
      exact cellAs n b e (by simp only [← this]; exact List.getElem_mem hjl)
    · have:=newc j b (by exact Nat.le_of_not_lt (by assumption)) e6
      refine kE (R.live b e1) fun o eo=>?_
      rw [this] at eo; cases eo
  · refine kAA (R1.cells k q b e1 e2 e3) fun h4 h5 h6=>?_
    by_cases hjl:k<g.as.length
    · have e7:g.as[k]?=some g.as[k]:=List.getElem?_eq_getElem hjl
      have:g.as[k]=b:=Option.some.inj ((hp k _ e7).symm.trans e3)
      have hb:b∈g.as:=by simp only [← this]; exact List.getElem_mem hjl
      exact ⟨by simp [hasM b hb],fun q=>locAs (q▸hb),h6⟩
    · have hn:=newc k b (by exact Nat.le_of_not_lt (by assumption)) e3
      refine ⟨List.mem_append_right _ ?_,fun q=>?_,h6⟩
      · refine List.mem_of_getElem? (i:=k - g.as.length) ?_
        simp only [List.getElem?_drop,show g.as.length+(k - g.as.length)=k by lia]
        exact e3
      · refine kEEEA h1 fun o _ _ eo _=>?_
        rw [← q,hn] at eo; cases eo
  · by_cases hO:b∈g.O
    · exact hO
    · exact absurd q (outO b o hO e)
  · refine Or.elim (List.mem_append.mp hb) (fun hb=>?_) (fun hb=>?_)
    · exact .inl hb
    · refine kEA (drop_mem b hb) fun k hk e=>?_
      exact .inr (newc k b hk e)
  · exact le.pre
end
section
variable {G:Gl} {K:Sk}
structure Mk (G:Gl) (F:Frag) (fI:Addr) (fd:FuncData):Prop where
  X:F.In G.h₀
  makes:makesIn F G.C=true
  ini:findIn F (.ref G.C) "__init__" = some (some (.ref fI))
  ty:typeIn F (.ref fI)=some (.type "function")
  kp:keepIn F (.ref G.C)=true
  ob:∃ o,G.h₀.get? fI=some o∧o.data = .func fd
  code:G.h₀.CodeRec fd.code fd.qualname
  gl:fd.globals=mainGlobals
  bl:fd.builtins=builtinsNs
  clo:fd.closure=[]
noncomputable def mkF (k:Nat) (ρ:List V) (R:QV):Fl→St→Prop:=fun f st2=>f = .next∧(∀ q∈st2.μ,q.alive=true)∧R (.inst k) ⟨ρ,st2.μ⟩
noncomputable def mkK (body:Tr Fl) (u:Nat) (R:QV):List V→St→Prop:=fun ys st1=>(∀ q∈st1.μ,q.alive=true) ∧
  body (mkF st1.μ.length st1.ρ R) ⟨.inst st1.μ.length :: ys++List.replicate u .u,st1.μ++[.ns []]⟩
noncomputable def makeT (ts:List (Tr V)) (body:Tr Fl) (u:Nat):Tr V:=fun Q st=>evsT ts (mkK body u Q) st
theorem tc_weight (C:Addr) (args:List Value):(Code.builtin "type.__call__" ⟨.ref C :: args,[]⟩).weight=1:=by with_unfolding_all rfl
theorem SemE.make {F:Frag} {fI:Addr} {fd:FuncData} {x:Str} {p pos:Pos} {es:List Expr} {ts:List (Tr V)} {body:List Stmt} {names slots:List Str} {T:Tr Fl} {lv:Nat} (Z:Mk G F fI fd) (hC:G.mg x=some (.ref G.C)) (sh:Shape fd.scope names slots) (hb:fd.body = .stmts body)
    (h:SemEs G K es (evsT ts)) (hn:NoStar es) (hk:K.sc.names.lookup x=some .globalImplicit) (hd:(x==("__debug__" : Str))=false) (hlen:names.length=es.length+1)
    (hbind:∀ vs:List Value,vs.length=names.length→bindArgs fd ⟨vs,[]⟩=pure (names.zip vs)) (hs:SemSs G ⟨lv,fd.scope,slots,true⟩ body T) (hlv:lv+2≤K.lv) :
    SemE G K (.Call (.Name x p) es [] pos) (makeT ts T (slots.length - names.length)):=fun c A s g st Q a R hq=>by
  have hkd:c.env.kindOf x=some .globalImplicit:=by simp only [kind_sc a,hk]
  refine Call_ (Calls.Name_function_global a.ok.fn hkd (Calls.loadGlobal_global (env:=c.env) (by rw [a.ok.gl]; exact G.g.keeps fun b o e=>hide_sub _ _ (R.base b o e)) hC ?_) hd)
  refine callWith_of (P:=F.In) (by rw [noStar_any hn]; rfl) (keeps_K Z.kp) (wpAny_mono (args_ok h hn a R hq) (fun ar s2 ⟨hkw,ys,st2,g2,go2,v2,hl2,hal,hq2⟩=>⟨Z.X.keeps fun b o e=>hide_sub _ _ (go2.rs.base b o e),?_⟩) fun _ _ e=>e)
  rw [hkw]
  have hX:F.In s2.heap:=Z.X.keeps fun b o e=>hide_sub _ _ (go2.rs.base b o e)
  obtain ⟨h2,gn,dr,tk,os⟩:=s2
  refine wpAny_call (make_core (makes_of hX Z.makes) (looks_findIn hX Z.ini) (fun self=>bind_fn hX self Z.ty) (.inl rfl) ?_)
  rw [List.nil_append]
  have hw:=tc_weight G.C ar.pos
  have hcu:(Code.builtin "type.__call__" ⟨.ref G.C :: ar.pos,[]⟩).cUnits=1:=by with_unfolding_all rfl
  have hdp:(A.under (.builtin "type.__call__" ⟨.ref G.C :: ar.pos,[]⟩)).depth=A.depth+1:=by show A.depth+(Code.builtin "type.__call__" ⟨.ref G.C :: ar.pos,[]⟩).weight=_; rfl
  have hun:(A.under (.builtin "type.__call__" ⟨.ref G.C :: ar.pos,[]⟩)).units=A.units+1:=by show A.units+(Code.builtin "type.__call__" ⟨.ref G.C :: ar.pos,[]⟩).cUnits=_; rfl
  have hhd:(A.under (.builtin "type.__call__" ⟨.ref G.C :: ar.pos,[]⟩)).handled=none:=a.room.hd
  generalize A.under (.builtin "type.__call__" ⟨.ref G.C :: ar.pos,[]⟩)=A1 at hdp hun hhd
  have hnew:=get?_size h2
  have hg1:(h2.push emptyDict).get? h2.objs.size=some emptyDict:=Heap.get?_push_size _ rfl
  have R2:RS G c g2 st2 h2:=go2.rs
  refine kA (R2.new (q:=.ns []) hnew (push_keep _ _) ⟨_,hg1⟩ ⟨fun _=>none,⟨_,#[],0,hg1,rfl,(fun e he=>by simp at he),fun n=>rfl⟩,⟨_,#[],0,hg1,rfl,Nat.zero_le _⟩,fun x p e=>nomatch e⟩) fun R3 l3=>?_
  refine kA (R3.grow (push_keep (h2.push emptyDict) (instObj G.C h2.objs.size))) fun R4 l4=>?_
  have hsz:(h2.push emptyDict).objs.size=h2.objs.size+1:=Heap.size_push ..
  have go4:Go G c s g ⟨(h2.push emptyDict).push (instObj G.C h2.objs.size),gn,dr,tk,os⟩ ⟨h2.objs.size :: g2.O,h2.objs.size :: g2.M,g2.as++[h2.objs.size]⟩ ⟨st2.ρ,st2.μ++[.ns []]⟩:=go2.trans ⟨R4,l3.trans l4,⟨rfl,rfl,rfl⟩⟩
  have vi:VR G ((h2.push emptyDict).push (instObj G.C h2.objs.size)) ⟨h2.objs.size :: g2.O,h2.objs.size :: g2.M,g2.as++[h2.objs.size]⟩ (.inst st2.μ.length) (.ref (h2.objs.size+1)):=by
    refine ⟨h2.objs.size,by rw [← R2.len']; simp,h2.objs.size+1,instObj G.C h2.objs.size,rfl,?_,rfl,rfl,rfl,rfl⟩
    have:=R3.pushJ (s:=⟨h2.push emptyDict,gn,dr,tk,os⟩) (o:=instObj G.C h2.objs.size) rfl
    simp only [hsz] at this
    exact this
  have vys:=VRs.go (s:=⟨h2,gn,dr,tk,os⟩) ⟨R4,l3.trans l4,⟨rfl,rfl,rfl⟩⟩ R2 ys v2 (s':=⟨(h2.push emptyDict).push (instObj G.C h2.objs.size),gn,dr,tk,os⟩)
  have hal4:∀ q∈st2.μ++[.ns []],q.alive=true:=fun q hq=>by
    rcases List.mem_append.mp hq with hq | hq
    · exact hal q hq
    · rw [List.mem_singleton.mp hq]; rfl
  have hvl:=VRs.length ys v2
  refine kEA Z.ob fun o ho hdat=>?_
  refine codeAny_call_cells (fd:=fd) (by have:=a.room.dp; show A1.depth<1000; omega) (hide_sub _ _ (R4.base _ _ ho)) hdat (G.nolimit.keeps fun b o e=>hide_sub _ _ (R4.base b o e))
      (Z.code.keeps fun b o e=>hide_sub _ _ (R4.base b o e)) hb (hbind _ (by simp [hvl]; omega)) Z.clo (fun y hy=>?_) (fun s1 X=>?_) sh.co sh.gen sh.kind
  · have hyn:y.1∈slots:=sh.pre.subset (mem_zip_names hy)
    rcases sh.kd _ hyn with h | ⟨h,h2⟩
    · exact .inl h
    · exact .inr ⟨h,h2 _⟩
  · refine kEA (enterI (zs:=.inst st2.μ.length :: ys) (s:=⟨(h2.push emptyDict).push (instObj G.C h2.objs.size),gn,dr,tk,os⟩) sh R4 hal4 ⟨_,_,rfl,vi,vys⟩ (by simp; omega) X) fun cas hcas R5=>?_
    have at':At ⟨lv,fd.scope,slots,true⟩ ⟨callEnvC fd ((h2.push emptyDict).push (instObj G.C h2.objs.size)).objs.size fI,slots,true⟩ (A1.deeper (callEnvC fd ((h2.push emptyDict).push (instObj G.C h2.objs.size)).objs.size fI)):=
      ⟨⟨sh.kind,Z.gl,Z.bl,sh.nd,fun y hy=>by
        rcases sh.kd y hy with h | ⟨h,h2⟩
        · exact .inl h
        · exact .inr ⟨h,Option.isSome_iff_exists.mp (h2 _)⟩⟩,rfl,rfl,rfl,⟨hhd,by show A1.depth+1+lv≤600; have:=a.room.dp; lia,by show A1.units+3+10 * lv≤9000; have:=a.room.un; lia⟩⟩
    refine PF.bind (hs _ _ s1 _ _ _ at' R5 hq2) (fun f s2 y st6 g6 go6 vf hz=>?_)
    obtain ⟨rfl,hz⟩:=hz
    cases f with
    | next=>
      have hnew4:∀ b,b=((h2.push emptyDict).push (instObj G.C h2.objs.size)).objs.size∨b∈cas→((h2.push emptyDict).push (instObj G.C h2.objs.size)).get? b=none:=fun b hb=>by
        cases eb:((h2.push emptyDict).push (instObj G.C h2.objs.size)).get? b with
        | none=>rfl
        | some o=>
          have hlt:=Heap.lt_size eb
          rcases hb with rfl | hb
          · exact absurd hlt (Nat.lt_irrefl _)
          · exact absurd (Nat.lt_trans hlt (hcas b hb)) (Nat.lt_irrefl _)
      refine kA (leaveI (s:=⟨(h2.push emptyDict).push (instObj G.C h2.objs.size),gn,dr,tk,os⟩) R4 hal4 X.toInCall.keep hnew4 go6.rs go6.le hz.1) fun R7 l7=>?_
      have rest:Rest ⟨(h2.push emptyDict).push (instObj G.C h2.objs.size),gn,dr,tk,os⟩ s2:=by
        refine Rest.trans ?_ go6.rest
        refine kEE X.toInCall.same fun h' tk' e=>?_
        simp only [e]; exact ⟨rfl,rfl,rfl⟩
      exact ⟨rfl,.inst st2.μ.length,_,_,go4.trans ⟨R7,l7,rest⟩,VR.of (l7.still R4.sub) (fun _ _ e=>pre_get l7.pre e) _ vi,hz.2⟩
    | _=>exact vf.elim
noncomputable def V.fzI (k:Nat) (fs:List (Str×PyData)):V→V
  | .inst j=>if j=k then .ob fs else .inst j
  | y=>y
noncomputable def Cell.fzI (k:Nat) (fs:List (Str×PyData)):Cell→Cell
  | .ns l=>.ns (l.map fun p=>(p.1,p.2.fzI k fs))
  | q=>q
noncomputable def St.fzI (k:Nat) (fs:List (Str×PyData)) (st:St):St:=⟨st.ρ.map (V.fzI k fs),(st.μ.set k .dead).map (Cell.fzI k fs)⟩
theorem Cell.fzI_alive (k:Nat) (fs:List (Str×PyData)) (q:Cell):(q.fzI k fs).alive=q.alive:=by cases q<;>rfl
theorem RS.freezeI {c:Cx} {g:Gh} {st:St} {h:Heap} (x:RS G c g st h) {k:Nat} {fs:List (Str×PyData)} (hk:st.μ[k]?=some (.ns (fs.map fun p=>(p.1,V.d p.2)))) :
    ∃ g',RS G c g' (st.fzI k fs) h∧Le h g h g':=by
  have hlt:k<g.as.length:=by rw [x.len']; exact (List.getElem?_eq_some_iff.mp hk).1
  have ha:g.as[k]?=some g.as[k]:=List.getElem?_eq_getElem hlt
  generalize g.as[k]=a at ha
  refine ⟨⟨g.O.filter (·≠a),g.M.filter (·≠a),g.as⟩,?_⟩
  refine kAAEAA (x.cells k _ a hk rfl ha) fun hM hL mm hns hsz hf=>?_
  have hj:∀ b o,(g.J h).get? b=some o→(Gh.J ⟨g.O.filter (·≠a),g.M.filter (·≠a),g.as⟩ h).get? b=some o:=fun b o e=>by
    refine kA (hide_some.mp e) fun h1 h2=>?_
    exact hide_some.mpr ⟨fun q=>h1 (List.mem_filter.mp q).1,h2⟩
  have hp:∀ (k:Nat) (b:Addr),g.as[k]?=some b→g.as[k]?=some b:=fun _ _ e=>e
  have hself:(Gh.J ⟨g.O.filter (·≠a),g.M.filter (·≠a),g.as⟩ h).Ns a mm:=hns.at' fun o e=>hide_some.mpr ⟨fun q=>by simpa using (List.mem_filter.mp q).2,e⟩
  have vr:∀ (y:V) (v:Value),VR G h g y v→VR G h ⟨g.O.filter (·≠a),g.M.filter (·≠a),g.as⟩ (y.fzI k fs) v:=fun y v e=>by
    cases y with
    | inst j=>
      dsimp only [V.fzI]
      by_cases q:j=k
      · subst q
        rw [if_pos rfl]
        refine kEA e fun d hd hi=>?_
        obtain rfl:d=a:=Option.some.inj (hd.symm.trans ha)
        refine ⟨d,mm,(kEEAA hi fun p o e1 e2 r=>⟨p,o,e1,hj _ _ e2,r⟩),hself,fun n p hnp=>?_⟩
        refine kEA (hf n (.d p) (by simp only [lookup_map,hnp]; rfl)) fun u u1 u2=>?_
        exact ⟨u,u1,Rd.mono hj _ u2⟩
      · rw [if_neg q]
        exact VR.of hj hp (.inst j) e
    | u=>exact e
    | d z=>exact VR.of hj hp (.d z) e
    | own j=>exact VR.of hj hp (.own j) e
    | ob z=>exact VR.of hj hp (.ob z) e
    | rng n=>exact VR.of hj hp (.rng n) e
  have hold:∀ (j:Nat) (p:Cell),(st.fzI k fs).μ[j]?=some p→p.alive=true→j≠k∧∃ p',st.μ[j]?=some p'∧p'.alive=true∧p=p'.fzI k fs:=fun j p e1 e2=>by
    unfold St.fzI at e1
    rw [List.getElem?_map,Option.map_eq_some_iff] at e1
    obtain ⟨p',e1,rfl⟩:=e1
    rw [Cell.fzI_alive] at e2
    rcases set_get e1 with ⟨rfl,rfl⟩ | ⟨ne,e1⟩
    · cases e2
    · exact ⟨Ne.symm ne,p',e1,e2,rfl⟩
  obtain ⟨m,cm,h1,h2,h3⟩:=x.names
  refine ⟨⟨fun b o e=>hj b o (x.base b o e),fun b hb=>?_,fun b hb=>x.live b (List.mem_filter.mp hb).1,List.mem_filter.mpr ⟨x.loc,by simpa using Ne.symm hL⟩,⟨m,cm,h1,h2,fun j z y h4 h5 h6=>?_⟩,fun n b e=>?_,x.cellI,fun hw n b e=>?_,by simpa [St.fzI] using x.len,by simpa [St.fzI] using x.len',?_,?_⟩,
    ⟨fun b o hb e=>e,fun b o hb e=>?_,fun b hb=>.inl (List.mem_filter.mp hb).1,List.prefix_refl _⟩⟩
  · exact List.mem_filter.mpr ⟨x.sub b (List.mem_filter.mp hb).1,(List.mem_filter.mp hb).2⟩
  · unfold St.fzI at h5
    rw [List.getElem?_map,Option.map_eq_some_iff] at h5
    obtain ⟨y',h5,rfl⟩:=h5
    have h6':y'≠.u:=fun q=>h6 (by rw [q]; rfl)
    obtain ⟨v,h7,h8⟩:=h3 j z y' h4 h5 h6'
    exact ⟨v,h7,vr _ _ h8⟩
  · refine kAA (x.cellO n b e) fun e1 e2 e3=>?_
    refine ⟨List.mem_filter.mpr ⟨e1,?_⟩,e2,fun j p e4 e5=>?_⟩
    · have:b≠a:=fun q'=>e3 k _ hk rfl (q'▸ha)
      simpa using this
    · refine kAEAA (hold j p e4 e5) fun _ p' e6 e7 _=>?_
      exact e3 j p' e6 e7
  · refine List.mem_filter.mpr ⟨x.cellW hw n b e,?_⟩
    have:b≠a:=fun q'=>(x.cellO n b e).2.2 k _ hk rfl (q'▸ha)
    simpa using this
  · intro j p b e1 e2 e3
    obtain ⟨ne,p',e4,e5,rfl⟩:=hold j p e1 e2
    obtain ⟨h4,h5,h6⟩:=x.cells j p' b e4 e5 e3
    have hb:b≠a:=fun q''=>ne (x.inj j k p' _ a e4 e5 hk rfl (q''▸e3) ha)
    refine ⟨List.mem_filter.mpr ⟨h4,by simpa using hb⟩,h5,?_⟩
    cases p' with
    | ns l=>
      obtain ⟨m',hn',⟨o,es,ep,z1,z2,z3⟩,r'⟩:=h6
      refine ⟨m',hn',⟨o,es,ep,z1,z2,by simpa using z3⟩,fun z p e=>?_⟩
      rw [lookup_map] at e
      refine kEA (Option.map_eq_some_iff.mp e) fun p0 e0 z12=>?_
      subst z12
      obtain ⟨u,u1,u2⟩:=r' z p0 e0
      exact ⟨u,u1,vr _ _ u2⟩
    | list z=>exact CR.of hj hp (fun o e=>e) h6
    | dict z=>exact CR.of hj hp (fun o e=>e) h6
    | tdict z=>exact CR.of hj hp (fun o e=>e) h6
    | dead=>trivial
  · intro i j p p' b e1 e2 e3 e4 e5 e6
    refine kAEAA (hold i p e1 e2) fun _ r r1 r2 _=>?_
    refine kAEAA (hold j p' e3 e4) fun _ r' r3 r4 _=>?_
    exact x.inj i j r r' b r1 r2 r3 r4 e5 e6
  · have:b≠a:=fun q'=>hb (q'▸hM)
    simp [this]
inductive Fz:St→St→Prop
  | refl (st:St):Fz st st
  | own {st st':St} (k:Nat) (q:Cell) (x:PyData):st.μ[k]?=some q→q.dat=some x→Fz (st.fz k x) st'→Fz st st'
  | inst {st st':St} (k:Nat) (fs:List (Str×PyData)):st.μ[k]?=some (.ns (fs.map fun p=>(p.1,V.d p.2)))→Fz (st.fzI k fs) st'→Fz st st'
theorem Fz.ok {c:Cx} {s:Shared} {st st':St} (z:Fz st st'):∀ {g:Gh},RS G c g st s.heap→∃ g',Go G c s g s g' st':=by
  induction z with
  | refl st=>exact fun {g} R=>⟨g,Go.refl R⟩
  | own k q x h1 h2 _ ih=>
    intro g R
    refine kEAAA (R.freeze h1 h2) fun a _ R' l _=>?_
    obtain ⟨g',go⟩:=ih R'
    exact ⟨g',(show Go G c s g s _ _ from ⟨R',l,Rest.refl _⟩).trans go⟩
  | inst k fs h1 _ ih=>
    intro g R
    refine kEA (R.freezeI h1) fun g1 R' l=>?_
    obtain ⟨g',go⟩:=ih R'
    exact ⟨g',(show Go G c s g s _ _ from ⟨R',l,Rest.refl _⟩).trans go⟩
noncomputable def ghostT {α:Type} (t:Tr α):Tr α:=fun Q st=>∃ st',Fz st st'∧t Q st'
theorem SemS.ghost {e:Stmt} {t:Tr Fl} (h:SemS G K e t):SemS G K e (ghostT t):=fun c A s g st Q a R z15=>kEA z15 fun st' z hq=>by
  refine kE (z.ok (s:=s) R) fun g' go=>?_
  exact wpAny_mono (h c A s g' st' Q a go.rs hq) (fun _ _ h=>PF.pre go h) fun _ _ e=>e
end
section
variable {G:Gl} {K:Sk}
noncomputable def and3T (l m r:Tr V):Tr V:=and2T l (and2T m r)
theorem SemE.and3 {e1 e2 e3:Expr} {pos:Pos} {l m r:Tr V} (h1:SemE G K e1 l) (h2:SemE G K e2 m) (h3:SemE G K e3 r):SemE G K (.BoolOp .And [e1,e2,e3] pos) (and3T l m r):=fun c A s g st Q a R hq=>by
  show wpAny _ A (do
    let v ← eval e1 c.env
    standAt pos
    let t ← holding [v] (truthy v)
    match BoolOp.And,t with
    | .And,false | .Or,true=>pure v
    | _,_=>boolOp pos .And [eval e2 c.env,eval e3 c.env]) _ _ _
  refine wpAny_bind (wpAny_mono (h1 c A s g st _ a R hq) (fun v s1 ⟨y,st1,g1,go1,v1,hq1⟩=>wpAny_bind (wpAny_standAt (wpAny_bind (wpAny_holding ?_)))) fun _ _ x=>x)
  refine kEA (isB_ok hq1) fun b z2 hk=>?_
  subst z2
  rw [vr_bool_inv v1]
  refine wpAny_truthy_bool ?_
  cases b with
  | false=>exact wpAny_pure ⟨_,st1,g1,go1,vr_bool,hk⟩
  | true=>
    exact wpAny_mono (SemE.and2 (pos:=pos) h2 h3 c A s1 g1 st1 Q a go1.rs hk) (fun _ _ h=>PV.pre go1 h) fun _ _ e=>e
noncomputable def d1K3 (x:PyData) (n:Nat) (R:QV):PyData→St→Prop:=fun d st3=>∃ q,kyOf x=some q∧st3.μ[n]?=some (.dict [])∧R (.own n) (setC st3 n (.dict [(kD q,d)]))
noncomputable def d1K2 (y:V) (n:Nat) (R:QV):QV:=fun z st2=>match y with
  | .d x=>asD z (d1K3 x n R) st2
  | _=>False
noncomputable def d1K (v:Tr V) (n:Nat) (R:QV):QV:=fun y st1=>v (d1K2 y n R) st1
noncomputable def dict1T (k v:Tr V):Tr V:=fun Q st=>k (d1K v st.μ.length Q) ⟨st.ρ,st.μ++[.dict []]⟩
theorem SemE.dict1 {e1 e2:Expr} {pos:Pos} {k v:Tr V} (h1:SemE G K e1 k) (h2:SemE G K e2 v):SemE G K (.Dict [some e1] [e2] pos) (dict1T k v):=fun c A s g st Q a R hq=>by
  refine wpAny_Dict_any (by rfl) (by rfl) (by simp) (by simp) ?_
  have hnew:=get?_size s.heap
  have hg:=Heap.get?_push_size s.heap (o:={ cls:=.type "dict",data:=.dict #[] }) rfl
  have pv:=newAt (Q:=fun y st'=>y = .own st.μ.length∧st'=⟨st.ρ,st.μ++[.dict []]⟩) (tk:=s.toks) (q:=.dict []) R hnew (push_keep s.heap { cls:=.type "dict",data:=.dict #[] }) ⟨_,hg⟩ (fun hj=>cr_dict (not_sys R) (Heap.DictOf.new s.heap) .nil) ⟨rfl,rfl⟩
  obtain ⟨y0,st0,g0,go0,v0,rfl,rfl⟩:=pv
  refine kEA v0 fun d0 hd0 e0=>?_
  cases e0
  refine wpAny_bind (PV.bind (h1 c A _ g0 _ _ a go0.rs hq) (fun kv s1 y st1 g1 go1 v1 hq1=>?_))
  refine wpAny_bind (wpAny_holding (wpAny_bind (PV.bind (h2 c A s1 g1 st1 _ a go1.rs hq1) (fun vv s2 z st2 g2 go2 v2 hq2=>?_))))
  refine wpAny_bind (wpAny_standAt (wpAny_pure ?_))
  refine wpAny_bind (wpAny_holding (wpAny_pure ?_))
  refine wpAny_pure ?_
  cases y with
  | d x=>
    obtain ⟨d,st3,g3,go3,rd,q,hky,hcell,hfin⟩:=asD_ok go2.rs v2 hq2
    have go13:=(go1.trans go2).trans go3
    have ha:g3.as[st.μ.length]?=some s.heap.objs.size:=pre_get go13.le.pre hd0
    have v1':Rd G.w (g3.J s2.heap) x kv:=VR.go (go2.trans go3) go1.rs (.d x) v1
    have hkey:=ky_is (prog:=G.prog) hky v1'
    refine kEAA (own_dict go3.rs hcell ha) fun ks h0 dd kvv=>?_
    cases kvv
    unfold storeAll
    rw [List.forIn_cons]
    refine wpAny_bind (wpAny_bind (wpAny_dictSet_pairs hkey dd (fun h' d' hs=>wpAny_pure ?_) (Nat.zero_le _)))
    refine wpAny_pure ⟨.own st.μ.length,_,g3,(go0.trans go13).trans (upd_dict (kvs':=[(kD q,d)]) go3.rs hcell ha d' hs ?_),⟨_,ha,rfl⟩,hfin⟩
    exact .cons rfl rd .nil
  | _=>exact hq2.elim
end
section
variable {G:Gl}
noncomputable def isNo:PyData→Bool
  | .none=>true
  | _=>false
noncomputable def isO:Op2:=fun a b Q st=>match a,b with
  | .d x,.d .none=>Q (.d (.bool (isNo x))) st
  | _,_=>False
noncomputable def isnO:Op2:=fun a b Q st=>match a,b with
  | .d x,.d .none=>Q (.d (.bool (!isNo x))) st
  | _,_=>False
theorem rd_isNo {w:World} {J:Heap} {x:PyData} {v:Value} (h:Rd w J x v):(v==.none)=isNo x:=by
  cases x<;>simp only [Rd] at h
  · subst h; rfl
  · subst h; rfl
  · obtain ⟨t,rfl⟩:=h; rfl
  · obtain ⟨t,rfl⟩:=h; rfl
  · obtain ⟨a,vs,n,rfl,_⟩:=h; rfl
  · obtain ⟨a,vs,n,rfl,_⟩:=h; rfl
  · obtain ⟨a,o,es,n,rfl,_⟩:=h; rfl
theorem isO_ok {lv:Nat}:SemO G lv (compareOp .Is) isO:=fun c A s g st Q a b u v r R ha hb hq=>by
  unfold isO at hq
  split at hq
  · rename_i x
    have hb':Rd _ _ _ _:=hb
    subst hb'
    exact is_none_gen ⟨_,st,g,Go.refl R,vr_bool,by rw [rd_isNo ha]; exact hq⟩
  · exact hq.elim
theorem isnO_ok {lv:Nat}:SemO G lv (compareOp .IsNot) isnO:=fun c A s g st Q a b u v r R ha hb hq=>by
  unfold isnO at hq
  split at hq
  · rename_i x
    have hb':Rd _ _ _ _:=hb
    subst hb'
    exact isnot_none_gen ⟨_,st,g,Go.refl R,vr_bool,by rw [rd_isNo ha]; exact hq⟩
  · exact hq.elim
end
noncomputable def stAt (n:Nat):Stmt:=PySem.Challenge.pw_pb0358_01.main.body.getD n (.Pass ⟨0,0,0,0⟩)
noncomputable def stx {β:Type} (d:β) (f:Str→Arguments→List Stmt→Scope→β) (g:List Stmt→β) (s:Stmt):β:=Stmt.casesOn (motive_2:=fun _=>β) s (fun x a b _ _ _ sc _ _ _=>f x a b sc) (fun _ _ _ _ _ _ _ _ _ _=>d) (fun _ _ _ b _ _ _ _ _ _ _=>g b) (fun _ _=>d) (fun _ _=>d) (fun _ _ _=>d) (fun _ _ _ _ _ _ _=>d) (fun _ _ _ _=>d) (fun _ _ _ _ _=>d) (fun _ _ _ _ _=>d) (fun _ _ _ _ _=>d)
  (fun _ _ _ _=>d) (fun _ _ _ _=>d) (fun _ _ _=>d) (fun _ _ _=>d) (fun _ _ _=>d) (fun _ _ _=>d) (fun _ _ _ _ _=>d) (fun _ _ _ _ _=>d) (fun _ _ _=>d) (fun _ _=>d) (fun _ _ _ _=>d) (fun _ _=>d) (fun _ _=>d) (fun _ _=>d) (fun _=>d) (fun _=>d) (fun _=>d)
noncomputable def bodyOf:Stmt→List Stmt:=stx [] (fun _ _ b _=>b) fun _=>[]
noncomputable def scopeOf:Stmt→Scope:=stx { kind:=.function,names:=[],isGenerator:=false,isCoroutine:=false,more:=[] } (fun _ _ _ sc=>sc) fun _=>{ kind:=.function,names:=[],isGenerator:=false,isCoroutine:=false,more:=[] }
noncomputable def argsOf:Stmt→Arguments:=stx { posonlyargs:=[],args:=[],vararg:=none,kwonlyargs:=[],kw_defaults:=[],kwarg:=none,defaults:=[] } (fun _ a _ _=>a) fun _=>{ posonlyargs:=[],args:=[],vararg:=none,kwonlyargs:=[],kw_defaults:=[],kwarg:=none,defaults:=[] }
noncomputable def nameOf:Stmt→Str:=stx "?" (fun x _ _ _=>x) fun _ => "?"
noncomputable abbrev bodyAt (n:Nat):List Stmt:=bodyOf (stAt n)
noncomputable abbrev scopeAt (n:Nat):Scope:=scopeOf (stAt n)
noncomputable def HasF (G:Gl) (lv:Nat) (x:Str) (n m:Nat) (R:FnR):Prop:=∃ a fd,FnAt G x a fd∧SemF G lv (.ref a) n (callO m R)
theorem SemE.callH {G:Gl} {K:Sk} {x:Str} {p pos:Pos} {es:List Expr} {ts:List (Tr V)} {n m:Nat} {R:FnR} (H:HasF G K.lv x n m R) (h:SemEs G K es (evsT ts)) (hn:NoStar es) (hk:K.sc.names.lookup x=some .globalImplicit) (hd:(x==("__debug__" : Str))=false) (hl:es.length=n) :
    SemE G K (.Call (.Name x p) es [] pos) (fnT ts (callO m R)):=by
  refine kEEA H fun a fd F s=>?_
  subst hl
  exact SemE.callF h hn hk F hd s
noncomputable def SemEl (G:Gl) (K:Sk) (es:List Expr) (ts:List (Tr V)):Prop:=SemEs G K es (evsT ts)
section
variable {β:Type} (d:β) (fB:BoolOp→List Expr→Pos→β) (fO:Expr→Operator→Expr→Pos→β) (fU:UnaryOp→Expr→Pos→β) (fI:Expr→Expr→Expr→Pos→β) (fD:List (Option Expr)→List Expr→Pos→β)
  (fL:Expr→List Comprehension→Scope→Pos→β) (fM:Expr→Expr→List Comprehension→Scope→Pos→β) (fC:Expr→List CmpOp→List Expr→Pos→β) (fF:Expr→List Expr→List Keyword→Pos→β) (fK:Const→Nat→Pos→β)
  (fA:Expr→Str→Pos→β) (fS:Expr→Expr→Pos→β) (fN:Str→Pos→β) (fE:List Expr→Pos→β) (fT:List Expr→Nat→Pos→β) (fZ:Option Expr→Option Expr→Option Expr→Pos→β)
noncomputable def ex (e:Expr):β:=Expr.casesOn (motive_1:=fun _=>β) e fB (fun _ _ _=>d) fO fU (fun _ _ _ _=>d) fI fD (fun _ _ _=>d) fL (fun _ _ _ _=>d) fM (fun _ _ _ _=>d) (fun _ _=>d) (fun _ _=>d) (fun _ _=>d) fC fF (fun _ _ _ _=>d) (fun _ _=>d) fK fA fS (fun _ _=>d) fN fE fT fZ
theorem ex_ok {d:β} {fB fO fU fI fD fL fM fC fF fK fA fS fN fE fT fZ} {P:Expr→β→Prop} (h0:∀ e,P e d) (hB:∀ o es p,P (.BoolOp o es p) (fB o es p)) (hO:∀ a o b p,P (.BinOp a o b p) (fO a o b p)) (hU:∀ o a p,P (.UnaryOp o a p) (fU o a p))
    (hI:∀ t a b p,P (.IfExp t a b p) (fI t a b p)) (hD:∀ k v p,P (.Dict k v p) (fD k v p)) (hL:∀ e gs sc p,P (.ListComp e gs sc p) (fL e gs sc p)) (hM:∀ k v gs sc p,P (.DictComp k v gs sc p) (fM k v gs sc p)) (hC:∀ a o b p,P (.Compare a o b p) (fC a o b p))
    (hF:∀ g es kw p,P (.Call g es kw p) (fF g es kw p)) (hK:∀ x k p,P (.Constant x k p) (fK x k p)) (hA:∀ e n p,P (.Attribute e n p) (fA e n p)) (hS:∀ a i p,P (.Subscript a i p) (fS a i p)) (hN:∀ x p,P (.Name x p) (fN x p)) (hE:∀ es p,P (.List es p) (fE es p))
    (hT:∀ es k p,P (.Tuple es k p) (fT es k p)) (hZ:∀ l u s p,P (.Slice l u s p) (fZ l u s p)) (e:Expr):P e (ex d fB fO fU fI fD fL fM fC fF fK fA fS fN fE fT fZ e):=
  Expr.casesOn (motive_1:=fun e=>P e (ex d fB fO fU fI fD fL fM fC fF fK fA fS fN fE fT fZ e)) e hB (fun _ _ _=>h0 _) hO hU (fun _ _ _ _=>h0 _) hI hD (fun _ _ _=>h0 _) hL (fun _ _ _ _=>h0 _) hM (fun _ _ _ _=>h0 _) (fun _ _=>h0 _) (fun _ _=>h0 _) (fun _ _=>h0 _) hC hF (fun _ _ _ _=>h0 _) (fun _ _=>h0 _) hK hA hS (fun _ _=>h0 _) hN hE hT hZ
end
noncomputable def plainE:Expr→Bool:=ex false (fun _ _ _=>true) (fun _ _ _ _=>true) (fun _ _ _=>true) (fun _ _ _ _=>true) (fun _ _ _=>true) (fun _ _ _ _=>true) (fun _ _ _ _ _=>true) (fun _ _ _ _=>true) (fun _ _ _ _=>true) (fun _ _ _=>true) (fun _ _ _=>true) (fun _ _ _=>true) (fun _ _=>true) (fun _ _=>true) (fun _ _ _=>true) (fun _ _ _ _=>true)
theorem st_cons {e:Expr} {r:List Expr} (env:Env):plainE e=true→starEach (e :: r) env=(false,eval e env) :: starEach r env:=by
  refine ex_ok (P:=fun e b=>b=true→starEach (e :: r) env=(false,eval e env) :: starEach r env) ?_ ?_ ?_ ?_ ?_ ?_ ?_ ?_ ?_ ?_ ?_ ?_ ?_ ?_ ?_ ?_ ?_ e<;>intros<;>first | contradiction | rfl
theorem ns_of:∀ {es:List Expr},es.all plainE=true→NoStar es
  | [],_=>fun _=>rfl
  | e :: r,h=>fun env=>by
    simp only [List.all_cons,Bool.and_eq_true] at h
    rw [st_cons env h.1,List.any_cons,ns_of h.2 env]; rfl
section
variable {G:Gl} {K:Sk} {e o:Expr} {r es:List Expr} {t:Tr V} {ts:List (Tr V)} {x name:Str} {p pos apos:Pos}
theorem SemEl.nil:SemEl G K [] []:=SemEs.nil
theorem SemEl.cons (h1:SemE G K e t) (h2:SemEl G K r ts) (hp:plainE e=true):SemEl G K (e :: r) (t :: ts):=SemEs.cons h1 h2 fun env=>st_cons env hp
theorem SemEl.tuple {k:Nat} (h:SemEl G K es ts) (hn:es.length.ble 1000=true):SemE G K (.Tuple es k pos) (tupT ts):=SemE.tuple h (Nat.le_of_ble_eq_true hn)
theorem SemEl.list (ow:Bool) (h:SemEl G K es ts) (hn:es.length.ble 1000=true):SemE G K (.List es pos) (listT ow ts):=SemE.list ow h (Nat.le_of_ble_eq_true hn)
theorem SemEl.callB {id:String} {o:List V→Tr V} (h:SemEl G K es ts) (hn:es.all plainE=true) (hk:K.sc.names.lookup x=some .globalImplicit) (hg:BG G x (.builtin id)) (hd:(x==("__debug__" : Str))=false) {n:Nat}
    (ho:SemF G K.lv (.builtin id) n o) (hl:es.length=n):SemE G K (.Call (.Name x p) es [] pos) (fnT ts o):=by subst hl; exact SemE.callB h (ns_of hn) hk hg hd ho
theorem SemEl.callTy {id:String} {o:List V→Tr V} (h:SemEl G K es ts) (hn:es.all plainE=true) (hk:K.sc.names.lookup x=some .globalImplicit) (hg:BG G x (.type id)) (hd:(x==("__debug__" : Str))=false) {n:Nat}
    (ho:SemF G K.lv (.type id) n o) (hl:es.length=n):SemE G K (.Call (.Name x p) es [] pos) (fnT ts o):=by subst hl; exact SemE.callTy h (ns_of hn) hk hg hd ho
theorem SemEl.callH {n m:Nat} {R:FnR} (H:HasF G K.lv x n m R) (h:SemEl G K es ts) (hn:es.all plainE=true) (hk:K.sc.names.lookup x=some .globalImplicit) (hd:(x==("__debug__" : Str))=false) (hl:es.length=n) :
    SemE G K (.Call (.Name x p) es [] pos) (fnT ts (callO m R)):=SemE.callH H h (ns_of hn) hk hd hl
theorem SemEl.lm {id:String} {f:StepK} (h1:SemE G K o t) (h2:SemEl G K es ts) (hn:es.all plainE=true) (hb:∀ env,attributeBase o name env (eval o env)=eval o env) (hl:(apos.endLine==pos.line)=true) (hz:es.length.blt 29=true)
    (slot:Slot "list" name id) (ty:typeOf (.builtin id)=pure (.type "method_descriptor")) {n:Nat} (hf:SemM G K.lv id n f) (he:es.length=n):SemE G K (.Call (.Attribute o name apos) es [] pos) (lmT t ts f):=by
  subst he; exact SemE.lm h1 h2 (ns_of hn) hb hl (by simpa [Nat.blt_eq] using hz) slot ty hf
theorem SemEl.dm {f:V→List V→Tr V} (h1:SemE G K o t) (h2:SemEl G K es ts) (hn:es.all plainE=true) (hb:∀ env,attributeBase o "get" env (eval o env)=eval o env) (hl:(apos.endLine==pos.line)=true) (hz:es.length.blt 29=true) {n:Nat} (hf:SemD G K.lv n f) (he:es.length=n) :
    SemE G K (.Call (.Attribute o "get" apos) es [] pos) (dmT t ts f):=by
  subst he; exact SemE.dm h1 h2 (ns_of hn) hb hl (by simpa [Nat.blt_eq] using hz) hf
end
noncomputable def clsBody:Stmt→List Stmt:=stx [] (fun _ _ _ _=>[]) fun b=>b
noncomputable abbrev stI:Stmt:=(clsBody (stAt 58)).getD 0 (.Pass ⟨0,0,0,0⟩)
noncomputable abbrev bodyI:List Stmt:=bodyOf stI
noncomputable abbrev scopeI:Scope:=scopeOf stI
noncomputable def ATTR:List Str:=["name", "key", "imports", "rows", "data_size", "words", "data_fixups", "fixups", "entries", "pointers", "maps", "commands", "body"]
structure PG (G:Gl) (F:Frag) (fI:Addr) (fdI:FuncData):Prop where
  c_MASK:GC G "MASK" (.int 4294967295)
  c_SIGN:GC G "SIGN" (.int 2147483648)
  c_END_OF_COMMAND:GC G "END_OF_COMMAND" (.int 9)
  c_WORD:GC G "WORD" (.int 4294967296)
  c_FRAME:GC G "FRAME" (.int 11)
  c_STATIC:GC G "STATIC" (.int 13)
  c_STACK:GC G "STACK" (.int 14)
  c_LINK:GC G "LINK" (.int 15)
  c_ANY:GC G "ANY" (.tuple [.str "any"])
  c_DATA:GC G "DATA" (.tuple [.str "data"])
  b_len:BG G "len" (.builtin "len")
  b_abs:BG G "abs" (.builtin "abs")
  b_sorted:BG G "sorted" (.builtin "sorted")
  b_range:BG G "range" (.type "range")
  b_tuple:BG G "tuple" (.type "tuple")
  b_dict:BG G "dict" (.type "dict")
  b_list:BG G "list" (.type "list")
  cls:Cls G F ATTR
  maker:Mk G F fI fdI
  c_cls:G.mg "ObjectFile" = some (.ref G.C)
  i_sc:fdI.scope=scopeI
  i_body:fdI.body = .stmts bodyI
  i_bind:∀ vs:List Value,vs.length=3→bindArgs fdI ⟨vs,[]⟩=pure ((["self", "name", "key"]:List Str).zip vs)
namespace Cw
noncomputable abbrev Tb (α:Type):=List (Str×Nat×α)
noncomputable def look {α:Type} (l:Tb α) (x:Str) (n:Nat):Option α:=List.rec none (fun q _ t=>bif q.1==x&&q.2.1==n then some q.2.2 else t) l
noncomputable def AllT {α:Type} (p:Str→Nat→α→Prop) (l:Tb α):Prop:=List.rec True (fun q _ t=>p q.1 q.2.1 q.2.2∧t) l
theorem look_ok {α:Type} {p:Str→Nat→α→Prop} {x:Str} {n:Nat} {a:α} {l:Tb α} (h:AllT p l) (e:look l x n=some a):p x n a:=by
  induction l with
  | nil=>exact absurd e nofun
  | cons q r ih=>
    cases hb:(q.1==x&&q.2.1==n) with
    | false=>
      refine ih h.2 (Eq.trans ?_ e)
      show _=bif _ then _ else _
      rw [hb]; rfl
    | true=>
      have e:some q.2.2=some a:=by
        refine Eq.trans ?_ e
        show _=bif _ then _ else _
        rw [hb]; rfl
      have hb:=Bool.and_eq_true_iff.mp hb
      simp only [← eq_of_beq hb.1,← eq_of_beq hb.2,← Option.some.inj e]
      exact h.1
theorem AllT.app {α:Type} {p:Str→Nat→α→Prop} {l r:Tb α} (h:AllT p l) (h':AllT p r):AllT p (l++r):=by
  induction l with
  | nil=>exact h'
  | cons q l ih=>exact ⟨h.1,ih h.2⟩
structure Comp where
  E:Sk→Expr→Tr V
  B:Sk→Expr→Tr Bool
  S:Sk→Stmt→Tr Fl
structure Cfg where
  H:Pos→Nat
  F:Tb (List (Tr V)→Tr V)
structure Sound (G:Gl) (lv:Nat) (c:Comp):Prop where
  E:∀ K e,K.lv=lv→SemE G K e (c.E K e)
  B:∀ K e,K.lv=lv→SemB G K e (c.B K e)
  S:∀ K e,K.lv=lv→SemS G K e (c.S K e)
section
variable {G:Gl} {K:Sk} {lv:Nat} {c:Comp}
noncomputable def botO:Op2:=fun _ _ _ _=>False
noncomputable def binO (k:Nat):Operator→Op2
  | .Add=>match k with
    | 0=>addI
    | 1=>addL false
    | _=>addL true
  | .Sub=>subI
  | .Mult=>match k with
    | 0=>mulI
    | _=>mulL true
  | .FloorDiv=>divI
  | .Mod=>modI
  | .BitAnd=>andI
  | .BitXor=>xorI
  | .RShift=>shrI
  | _=>botO
theorem botO_ok {m:Value→Value→Sem Value}:SemO G lv m botO:=fun _ _ _ _ _ _ _ _ _ _ _ _ _ _ h=>h.elim
theorem binO_ok (k:Nat) (o:Operator):SemO G lv (binaryOp o) (binO k o):=by
  cases o with
  | Add=>match k with
    | 0=>exact addI_ok
    | 1=>exact addL_ok false
    | _+2=>exact addL_ok true
  | Sub=>exact subI_ok
  | Mult=>match k with
    | 0=>exact mulI_ok
    | _+1=>exact mulL_ok true
  | FloorDiv=>exact divI_ok
  | Mod=>exact modI_ok
  | BitAnd=>exact andI_ok
  | BitXor=>exact xorI_ok
  | RShift=>exact shrI_ok
  | _=>exact botO_ok
noncomputable def cmpO (k:Nat):CmpOp→Op2
  | .Eq=>eqO
  | .NotEq=>match k with
    | 0=>neO
    | _=>neS
  | .Lt=>icO fun a b=>decide (a<b)
  | .Gt=>icO fun a b=>decide (b<a)
  | .LtE=>icO fun a b=>decide (a≤b)
  | .GtE=>icO fun a b=>decide (b≤a)
  | .In=>inO
  | .NotIn=>niO
  | .Is=>isO
  | .IsNot=>isnO
theorem cmpO_ok (k:Nat) (o:CmpOp):SemO G lv (compareOp o) (cmpO k o):=by
  cases o with
  | Eq=>exact eqO_ok
  | NotEq=>match k with
    | 0=>exact neO_ok
    | _+1=>exact neS_ok
  | Lt=>exact ltO_ok
  | Gt=>exact gtO_ok
  | LtE=>exact leO_ok
  | GtE=>exact geO_ok
  | In=>exact inO_ok
  | NotIn=>exact niO_ok
  | Is=>exact isO_ok
  | IsNot=>exact isnO_ok
section
variable {α β:Type} {d f0:β} {f1:α→β} {f2:α→α→β} {f3:α→α→α→β} {P:List α→β→Prop}
noncomputable def ls4 (d f0:β) (f1:α→β) (f2:α→α→β) (f3:α→α→α→β) (l:List α):β:=l.casesOn f0 fun a l=>l.casesOn (f1 a) fun b l=>l.casesOn (f2 a b) fun c l=>l.casesOn (f3 a b c) fun _ _=>d
theorem ls4_ok (h:∀ l,P l d) (h0:P [] f0) (h1:∀ a,P [a] (f1 a)) (h2:∀ a b,P [a,b] (f2 a b)) (h3:∀ a b c,P [a,b,c] (f3 a b c)) (l:List α):P l (ls4 d f0 f1 f2 f3 l):=by
  rcases l with _ | ⟨a,_ | ⟨b,_ | ⟨c,_ | ⟨e,l⟩⟩⟩⟩
  · exact h0
  · exact h1 a
  · exact h2 a b
  · exact h3 a b c
  · exact h _
noncomputable def one (d:β) (f1:α→β):List α→β:=ls4 d d f1 (fun _ _=>d) fun _ _ _=>d
theorem one_ok (h:∀ l,P l d) (h1:∀ a,P [a] (f1 a)):∀ l,P l (one d f1 l):=ls4_ok h (h _) h1 (fun _ _=>h _) fun _ _ _=>h _
end
noncomputable def sm:Expr→Bool:=ex false (fun _ _ _=>true) (fun _ _ _ _=>true) (fun _ _ _=>true) (fun _ _ _ _=>true) (fun _ _ _=>true) (fun _ _ _ _=>false) (fun _ _ _ _ _=>false) (fun _ _ _ _=>true) (fun _ _ _ _=>true) (fun _ _ _=>true) (fun _ _ _=>true) (fun _ _ _=>true) (fun _ _=>true) (fun _ _=>true) (fun _ _ _=>true) (fun _ _ _ _=>false)
structure Sm (e:Expr):Prop where
  sw:∀ tg l env,swapsWith e tg l env=pure false
  fs:∀ env x,foldedSetIterable e env x=pure x
  bi:∀ op,behindInMarks op e=false
  ns:NotSlice e
theorem Sm.of {e:Expr} (sw:∀ tg l env,swapsWith e tg l env=pure false) (fs:∀ env x,foldedSetIterable e env x=pure x) (bi:∀ op,behindInMarks op e=false) (ns:NotSlice e):true=true→Sm e:=fun _=>⟨sw,fs,bi,ns⟩
theorem sm_ok {e:Expr}:sm e=true→Sm e:=by
  refine ex_ok (P:=fun e b=>b=true→Sm e) ?_ ?_ ?_ ?_ ?_ ?_ ?_ ?_ ?_ ?_ ?_ ?_ ?_ ?_ ?_ ?_ ?_ e<;>intros<;>first | contradiction | exact .of (fun _ _ _=>rfl) (fun _ _=>rfl) (fun _=>rfl) (fun _ _=>rfl) (by assumption)
noncomputable def nc:Expr→Bool:=ex false (fun _ _ _=>true) (fun _ _ _ _=>true) (fun _ _ _=>true) (fun _ _ _ _=>true) (fun _ _ _=>true) (fun _ _ _ _=>false) (fun _ _ _ _ _=>false) (fun _ _ _ _=>true) (fun _ _ _ _=>false) (fun _ _ _=>true) (fun _ _ _=>true) (fun _ _ _=>true) (fun _ _=>true) (fun _ _=>true) (fun _ _ _=>false) (fun _ _ _ _=>false)
structure Nc (e:Expr):Prop where
  ab:∀ n env,attributeBase e n env (eval e env)=eval e env
  ss:∀ es k p env,swappedStores [.Tuple es k p] e env=pure none
theorem Nc.of {e:Expr} (ab:∀ n env,attributeBase e n env (eval e env)=eval e env) (ss:∀ es k p env,swappedStores [.Tuple es k p] e env=pure none):true=true→Nc e:=fun _=>⟨ab,ss⟩
theorem nc_ok {e:Expr}:nc e=true→Nc e:=by
  refine ex_ok (P:=fun e b=>b=true→Nc e) ?_ ?_ ?_ ?_ ?_ ?_ ?_ ?_ ?_ ?_ ?_ ?_ ?_ ?_ ?_ ?_ ?_ e<;>intros<;>first | contradiction | exact .of (fun _ _=>rfl) (fun _ _ _ _=>rfl) (by assumption)
theorem gd {α:Type} {P:Tr α→Prop} {t:Tr α} {b:Bool} (h0:P botT) (h:b=true→P t):P (bif b then t else botT):=by
  cases b with
  | false=>exact h0
  | true=>exact h rfl
theorem gdE {t:Tr V} {b:Bool} {e:Expr} (h:b=true→SemE G K e t):SemE G K e (bif b then t else botT):=gd SemE.bot h
theorem gdB {t:Tr Bool} {b:Bool} {e:Expr} (h:b=true→SemB G K e t):SemB G K e (bif b then t else botT):=gd SemB.bot h
theorem gdS {t:Tr Fl} {b:Bool} {e:Stmt} (h:b=true→SemS G K e t):SemS G K e (bif b then t else botT):=gd SemS.bot h
noncomputable def dbg:Str := "__debug__"
noncomputable def CST:Tb PyData:=[("MASK",0,.int 4294967295),("SIGN",0,.int 2147483648),("END_OF_COMMAND",0,.int 9),("WORD",0,.int 4294967296),("FRAME",0,.int 11),("STATIC",0,.int 13),("STACK",0,.int 14),("LINK",0,.int 15),("ANY",0,.tuple [.str "any"]),("DATA",0,.tuple [.str "data"])]
noncomputable def nameC (K:Sk) (x:Str):Tr V:=bif x==dbg then botT else
  bif K.slots[K.slots.idxOf x]?==some x then nameT (K.slots.idxOf x) else bif K.sc.names.lookup x==some .globalImplicit then (match look CST x 0 with | some d=>litT d | none=>botT) else botT
theorem nameC_ok {p:Pos} {x:Str} (hC:AllT (fun x _ d=>GC G x d) CST):SemE G K (.Name x p) (nameC K x):=by
  unfold nameC
  cases hd:x==dbg with
  | true=>exact SemE.bot
  | false=>
    cases h:K.slots[K.slots.idxOf x]?==some x with
    | true=>exact SemE.name (eq_of_beq h) hd
    | false=>
      refine gdE fun h'=>?_
      cases e:look CST x 0 with
      | none=>exact SemE.bot
      | some d=>exact SemE.glob (eq_of_beq h') (look_ok hC e) hd
noncomputable def litC:Const→Tr V
  | .int i=>litT (.int i)
  | .str s=>litT (.str s)
  | .bool b=>litT (.bool b)
  | .none=>litT .none
  | _=>botT
theorem litC_ok {k:Nat} {p:Pos} (x:Const):SemE G K (.Constant x k p) (litC x):=by
  cases x<;>first | exact SemE.bot | exact SemE.cInt | exact SemE.cStr | exact SemE.cBool | exact SemE.cNone
noncomputable def stoB (K:Sk) (x:Str):Bool:=K.slots[K.slots.idxOf x]?==some x&&(K.sc.names.lookup x==some .local||K.wr)
theorem stoB_ok {x:Str} (h:stoB K x=true):Sto K x (K.slots.idxOf x):=by
  have h:=Bool.and_eq_true_iff.mp h
  exact ⟨eq_of_beq h.1,(Bool.or_eq_true_iff.mp h.2).imp eq_of_beq id⟩
theorem el_ok {f:Expr→Tr V} (h:∀ e,SemE G K e (f e)) {es:List Expr} (hn:es.all plainE=true):SemEl G K es (es.map f):=by
  induction es with
  | nil=>exact SemEl.nil
  | cons e r ih=>
    have hn:=Bool.and_eq_true_iff.mp (List.all_cons▸hn)
    exact SemEl.cons (h e) (ih hn.2) hn.1
noncomputable def Cal (G:Gl) (lv:Nat) (x:Str) (n:Nat) (o:List (Tr V)→Tr V):Prop:=∀ (K:Sk) (es:List Expr) (ts:List (Tr V)) (p pos:Pos),K.lv=lv→SemEl G K es ts→es.all plainE=true→K.sc.names.lookup x=some .globalImplicit→(x==dbg)=false→es.length=n →
  SemE G K (.Call (.Name x p) es [] pos) (o ts)
theorem Cal.fn {x:Str} {n m:Nat} {R:FnR} (H:HasF G lv x n m R):Cal G lv x n (fun ts=>fnT ts (callO m R)):=fun K es ts p pos e h hn hk hd hl=>by
  subst e; exact SemEl.callH H h hn hk hd hl
theorem Cal.b {x:Str} {n:Nat} {id:String} {o:List V→Tr V} (hg:BG G x (.builtin id)) (ho:SemF G lv (.builtin id) n o):Cal G lv x n (fun ts=>fnT ts o):=fun K es ts p pos e h hn hk hd hl=>by
  subst e; exact SemEl.callB h hn hk hg hd ho hl
theorem Cal.ty {x:Str} {n:Nat} {id:String} {o:List V→Tr V} (hg:BG G x (.type id)) (ho:SemF G lv (.type id) n o):Cal G lv x n (fun ts=>fnT ts o):=fun K es ts p pos e h hn hk hd hl=>by
  subst e; exact SemEl.callTy h hn hk hg hd ho hl
noncomputable def BLT:Tb (List (Tr V)→Tr V):=[("len",1,fun ts=>fnT ts lenO),("abs",1,fun ts=>fnT ts absO),("range",1,fun ts=>fnT ts rngO),("tuple",1,fun ts=>fnT ts tupO),("dict",1,fun ts=>fnT ts dictD),("list",1,fun ts=>fnT ts (listO true)),("sorted",1,fun ts=>fnT ts (srtO false))]
theorem blt_ok {F:Frag} {fI:Addr} {fdI:FuncData} (P:PG G F fI fdI):AllT (Cal G lv) BLT:=
  ⟨.b P.b_len lenO_ok,.b P.b_abs absO_ok,.ty P.b_range rngO_ok,.ty P.b_tuple tupO_ok,.ty P.b_dict dictD_ok,.ty P.b_list (listO_ok true),.b P.b_sorted (srtO_ok false),trivial⟩
theorem cst_ok {F:Frag} {fI:Addr} {fdI:FuncData} (P:PG G F fI fdI):AllT (fun x _ d=>GC G x d) CST:=
  ⟨P.c_MASK,P.c_SIGN,P.c_END_OF_COMMAND,P.c_WORD,P.c_FRAME,P.c_STATIC,P.c_STACK,P.c_LINK,P.c_ANY,P.c_DATA,trivial⟩
theorem obj_ok {F:Frag} {fI:Addr} {fdI:FuncData} (P:PG G F fI fdI) {slots:List Str} {T:Tr Fl} {lv':Nat} (sh:Shape scopeI ["self", "name", "key"] slots) (hs:SemSs G ⟨lv',scopeI,slots,true⟩ bodyI T) (hlv:lv'+2≤lv) :
    Cal G lv "ObjectFile" 2 (fun ts=>makeT ts T (slots.length - 3)):=fun K es ts p pos e h hn hk hd hl=>by
  subst e
  have hs':SemSs G ⟨lv',fdI.scope,slots,true⟩ bodyI T:=by rw [P.i_sc]; exact hs
  have sh':Shape fdI.scope ["self", "name", "key"] slots:=by rw [P.i_sc]; exact sh
  exact SemE.make P.maker P.c_cls sh' P.i_body h (ns_of hn) hk hd (by rw [hl]; rfl) P.i_bind hs' hlv
noncomputable def Met (G:Gl) (lv:Nat) (m:Str) (n:Nat) (o:Tr V→List (Tr V)→Tr V):Prop:=∀ (K:Sk) (e:Expr) (t:Tr V) (es:List Expr) (ts:List (Tr V)) (p pos:Pos),K.lv=lv→SemE G K e t→SemEl G K es ts→es.all plainE=true→nc e=true→(p.endLine==pos.line)=true→es.length.blt 29=true→es.length=n →
  SemE G K (.Call (.Attribute e m p) es [] pos) (o t ts)
theorem Met.l {m:Str} {n:Nat} {id:String} {f:StepK} (slot:Slot "list" m id) (ty:typeOf (.builtin id)=pure (.type "method_descriptor")) (hf:SemM G lv id n f):Met G lv m n (fun t ts=>lmT t ts f):=fun K e t es ts p pos l h1 h2 hn hb hl hz he=>by
  subst l; exact SemEl.lm h1 h2 hn ((nc_ok hb).ab _) hl hz slot ty hf he
theorem Met.d {n:Nat} {f:V→List V→Tr V} (hf:SemD G lv n f):Met G lv "get" n (fun t ts=>dmT t ts f):=fun K e t es ts p pos l h1 h2 hn hb hl hz he=>by
  subst l; exact SemEl.dm h1 h2 hn ((nc_ok hb).ab _) hl hz hf he
noncomputable def MTH:Tb (Tr V→List (Tr V)→Tr V):=[("append",1,fun t ts=>lmT t ts appS),("reverse",0,fun t ts=>lmT t ts revS),("insert",2,fun t ts=>lmT t ts insS),("pop",0,fun t ts=>lmT t ts popS),("pop",1,fun t ts=>lmT t ts popS),("get",1,fun t ts=>dmT t ts get1),("get",2,fun t ts=>dmT t ts get2)]
theorem mth_ok:AllT (Met G lv) MTH:=
  ⟨.l F.slot_list_append F.type_list_append appS_ok,.l F.slot_list_reverse F.type_list_reverse revS_ok,.l F.slot_list_insert F.type_list_insert insS_ok,.l F.slot_list_pop F.type_list_pop popS_ok0,.l F.slot_list_pop F.type_list_pop popS_ok1,.d get1_ok,.d get2_ok,trivial⟩
noncomputable abbrev B0:Tr V:=botT
noncomputable def dictC (f:Expr→Tr V) (tk:Bool) (ks:List (Option Expr)) (vs:List Expr):Tr V:=bif ks.isEmpty&&vs.isEmpty then nilD tk else
  one B0 (fun k=>Option.casesOn k B0 fun k=>one B0 (fun v=>dict1T (f k) (f v)) vs) ks
theorem dictC_ok {f:Expr→Tr V} (h:∀ e,SemE G K e (f e)) (tk:Bool) (ks:List (Option Expr)) (vs:List Expr) (p:Pos):SemE G K (.Dict ks vs p) (dictC f tk ks vs):=by
  unfold dictC
  cases hb:ks.isEmpty&&vs.isEmpty with
  | true=>
    have hb:=Bool.and_eq_true_iff.mp hb
    rw [List.isEmpty_iff.mp hb.1,List.isEmpty_iff.mp hb.2]
    exact SemE.dict0 tk
  | false=>
    refine one_ok (P:=fun ks t=>SemE G K (.Dict ks vs p) t) (fun _=>SemE.bot) (fun k=>?_) ks
    cases k with
    | none=>exact SemE.bot
    | some k=>exact one_ok (P:=fun vs t=>SemE G K (.Dict _ vs p) t) (fun _=>SemE.bot) (fun v=>SemE.dict1 (h _) (h _)) vs
noncomputable def slC (f:Expr→Tr V) (k:Nat) (a:Expr) (l u s:Option Expr):Tr V:=Option.casesOn s (Option.casesOn l (Option.casesOn u B0 fun u=>op2T (f a) (f u) (bif k==2 then strTo else slTo (k==1))) fun l=>Option.casesOn u (bif k==0 then op2T (f a) (f l) strFrom else botT) fun _=>B0) fun _=>B0
theorem slC_ok {f:Expr→Tr V} (h:∀ e,SemE G K e (f e)) (k:Nat) (a:Expr) (l u s:Option Expr) (p q:Pos):SemE G K (.Subscript a (.Slice l u s p) q) (slC f k a l u s):=by
  cases s with
  | some s=>exact SemE.bot
  | none=>
    cases l with
    | none=>
      cases u with
      | none=>exact SemE.bot
      | some u=>
        show SemE G K _ (op2T _ _ (bif k==2 then strTo else slTo (k==1)))
        cases k==2 with
        | true=>exact SemE.strTo (h _) (h _)
        | false=>exact SemE.sliceTo _ (h _) (h _)
    | some l=>
      cases u with
      | some u=>exact SemE.bot
      | none=>exact gdE fun _=>SemE.strFrom (h _) (h _)
noncomputable def ex5 {β:Type} (d:β) (fN:Str→Pos→β) (fA:Expr→Str→Pos→β) (fS:Expr→Expr→Pos→β) (fT:List Expr→Nat→Pos→β) (fZ:Option Expr→Option Expr→Option Expr→Pos→β) (fL:Expr→List Comprehension→Scope→Pos→β):Expr→β:=
  ex d (fun _ _ _=>d) (fun _ _ _ _=>d) (fun _ _ _=>d) (fun _ _ _ _=>d) (fun _ _ _=>d) fL (fun _ _ _ _ _=>d) (fun _ _ _ _=>d) (fun _ _ _ _=>d) (fun _ _ _=>d) fA fS fN (fun _ _=>d) fT fZ
theorem ex5_ok {β:Type} {d:β} {fN fA fS fT fZ fL} {P:Expr→β→Prop} (h0:∀ e,P e d) (hN:∀ x p,P (.Name x p) (fN x p)) (hA:∀ e n p,P (.Attribute e n p) (fA e n p)) (hS:∀ a i p,P (.Subscript a i p) (fS a i p)) (hT:∀ es k p,P (.Tuple es k p) (fT es k p)) (hZ:∀ l u s p,P (.Slice l u s p) (fZ l u s p))
    (hL:∀ e gs sc p,P (.ListComp e gs sc p) (fL e gs sc p)) (e:Expr):P e (ex5 d fN fA fS fT fZ fL e):=
  ex_ok h0 (fun _ _ _=>h0 _) (fun _ _ _ _=>h0 _) (fun _ _ _=>h0 _) (fun _ _ _ _=>h0 _) (fun _ _ _=>h0 _) hL (fun _ _ _ _ _=>h0 _) (fun _ _ _ _=>h0 _) (fun _ _ _ _=>h0 _) (fun _ _ _=>h0 _) hA hS hN (fun _ _=>h0 _) hT hZ e
noncomputable def ex3 {β:Type} (d:β) (fN:Str→Pos→β) (fA:Expr→Str→Pos→β) (fT:List Expr→Nat→Pos→β):Expr→β:=ex5 d fN fA (fun _ _ _=>d) fT (fun _ _ _ _=>d) fun _ _ _ _=>d
theorem ex3_ok {β:Type} {d:β} {fN fA fT} {P:Expr→β→Prop} (h0:∀ e,P e d) (hN:∀ x p,P (.Name x p) (fN x p)) (hA:∀ e n p,P (.Attribute e n p) (fA e n p)) (hT:∀ es k p,P (.Tuple es k p) (fT es k p)):∀ e,P e (ex3 d fN fA fT e):=
  ex5_ok h0 hN hA (fun _ _ _=>h0 _) hT (fun _ _ _ _=>h0 _) fun _ _ _ _=>h0 _
noncomputable def subC (f:Expr→Tr V) (k:Nat) (a i:Expr):Tr V:=let d:=bif sm i then op2T (f a) (f i) subO else botT; ex5 d (fun _ _=>d) (fun _ _ _=>d) (fun _ _ _=>d) (fun _ _ _=>d) (fun l u s _=>slC f k a l u s) (fun _ _ _ _=>d) i
theorem subC_ok {f:Expr→Tr V} (h:∀ e,SemE G K e (f e)) (k:Nat) (a i:Expr) (p:Pos):SemE G K (.Subscript a i p) (subC f k a i):=
  have d:∀ e,e=i→SemE G K (.Subscript a e p) (bif sm i then op2T (f a) (f i) subO else botT):=fun e he=>by
    subst he; exact gdE fun hb=>SemE.sub (h _) (h _) (sm_ok hb).ns
  ex5_ok (P:=fun e t=>e=i→SemE G K (.Subscript a e p) t) d (fun _ _=>d _) (fun _ _ _=>d _) (fun _ _ _=>d _) (fun _ _ _=>d _) (fun _ _ _ _ _=>slC_ok h _ _ _ _ _ _ _) (fun _ _ _ _=>d _) i rfl
noncomputable def callC (q:Cfg) (f:Expr→Tr V) (K:Sk) (es:List Expr) (pos:Pos) (g:Expr):Tr V:=bif es.all plainE then ex3 B0
  (fun x p=>bif K.sc.names.lookup x==some .globalImplicit&&!(x==dbg) then Option.casesOn (look q.F x es.length) B0 fun o=>o (es.map f) else botT)
  (fun e m p=>bif nc e&&(p.endLine==pos.line&&es.length.blt 29) then Option.casesOn (look MTH m es.length) B0 fun o=>o (f e) (es.map f) else botT) (fun _ _ _=>B0) g else botT
theorem callC_ok {q:Cfg} {f:Expr→Tr V} (hF:AllT (Cal G lv) q.F) (l:K.lv=lv) (h:∀ e,SemE G K e (f e)) (g:Expr) (es:List Expr) (p:Pos):SemE G K (.Call g es [] p) (callC q f K es p g):=by
  refine gdE fun hn=>ex3_ok (P:=fun g t=>SemE G K (.Call g es [] p) t) (fun _=>SemE.bot) (fun x _=>gdE fun hb=>?_) (fun e m _=>gdE fun hb=>?_) (fun _ _ _=>SemE.bot) g
  · have hb:=Bool.and_eq_true_iff.mp hb
    cases e:look q.F x es.length with
    | none=>exact SemE.bot
    | some o=>exact look_ok hF e K es _ _ _ l (el_ok h hn) hn (eq_of_beq hb.1) (Bool.not_eq_true' _▸hb.2) rfl
  · have hb:=Bool.and_eq_true_iff.mp hb
    have hz:=Bool.and_eq_true_iff.mp hb.2
    cases e:look MTH m es.length with
    | none=>exact SemE.bot
    | some o=>exact look_ok mth_ok e K _ _ es _ _ _ l (h _) (el_ok h hn) hn hb.1 hz.1 hz.2 rfl
noncomputable def capOf (K:Sk) (sc:Scope) (rv:Bool):List (Str×Nat):=let l:=sc.names.filterMap fun p=>bif p.2==.free then some (p.1,K.slots.idxOf p.1) else none; bif rv then l.reverse else l
noncomputable def okC (K:Sk) (scope:Scope) (x:Str) (cap:List (Str×Nat)):Bool:=decide (scope.kind = .function∧(∀ y∈scope.names,y.2≠.cell)∧(∀ y∈scope.names,y.2 = .local→scope.names.lookup y.1=some .local)∧scope.names.lookup x=some .local ∧
    (∀ y∈scope.names,y.2 = .free→y.1∈K.slots∧K.sc.names.lookup y.1=some .cell)∧(∀ p∈cap,scope.names.lookup p.1=some .free∧K.slots[p.2]?=some p.1)∧(x :: cap.map (·.1)).Nodup)
theorem okC_ok {scope:Scope} {x:Str} {cap:List (Str×Nat)} (h:okC K scope x cap=true):CompOk K scope x cap:=
  let h:=of_decide_eq_true h
  ⟨h.1,h.2.1,h.2.2.1,h.2.2.2.1,h.2.2.2.2.1,h.2.2.2.2.2.1,h.2.2.2.2.2.2⟩
noncomputable def tstC (c:Comp) (K:Sk):List Expr→Tr Bool:=ls4 botT yesT (c.B K) (fun _ _=>botT) fun _ _ _=>botT
theorem SemQ.bot {es:List Expr}:SemQ G K es botT:=fun _ _ _ _ _ _ _ _ h=>h.elim
theorem tstC_ok (h:Sound G lv c) (e:K.lv=lv) (es:List Expr):SemQ G K es (tstC c K es):=
  ls4_ok (P:=fun es t=>SemQ G K es t) (fun _=>SemQ.bot) SemQ.nil (fun a=>SemQ.one (h.B K a e)) (fun _ _=>SemQ.bot) (fun _ _ _=>SemQ.bot) es
noncomputable def genC {α:Type} (c:Comp) (K:Sk) (scope:Scope) (cap:List (Str×Nat)) (k:Tr V→Tr Bool→Sk→Tr α):List Comprehension→Tr α:=one botT fun g=>
  ex3 botT (fun x _=>bif g.is_async==0&&(sm g.iter&&okC K scope x cap) then k (c.E K g.iter) (tstC c (KC K scope x cap) g.ifs) (KC K scope x cap) else botT) (fun _ _ _=>botT) (fun _ _ _=>botT) g.target
theorem genC_ok {α:Type} {P:List Comprehension→Tr α→Prop} {scope:Scope} {cap:List (Str×Nat)} {k:Tr V→Tr Bool→Sk→Tr α} (h0:∀ gs,P gs botT)
    (h:∀ x px iter ifs,sm iter=true→CompOk K scope x cap→P [⟨.Name x px,iter,ifs,0⟩] (k (c.E K iter) (tstC c (KC K scope x cap) ifs) (KC K scope x cap))):∀ gs:List Comprehension,P gs (genC c K scope cap k gs):=
  one_ok h0 fun ⟨t,iter,ifs,z⟩=>ex3_ok (P:=fun t' u=>P [⟨t',iter,ifs,z⟩] u) (fun _=>h0 _) (fun x p=>gd (P:=fun u=>P [⟨.Name x p,iter,ifs,z⟩] u) (h0 _) fun hb=>by
    have hb:=Bool.and_eq_true_iff.mp hb
    have hz:=Bool.and_eq_true_iff.mp hb.2
    cases eq_of_beq hb.1
    exact h _ _ _ _ hz.1 (okC_ok hz.2)) (fun _ _ _=>h0 _) (fun _ _ _=>h0 _) t
noncomputable def cE (q:Cfg) (c:Comp) (K:Sk):Expr→Tr V:=ex B0
  (fun o es _=>bif o==.And then ls4 B0 B0 (fun _=>B0) (fun a b=>and2T (c.E K a) (c.E K b)) (fun a b d=>and3T (c.E K a) (c.E K b) (c.E K d)) es else ls4 B0 B0 (fun _=>B0) (fun a b=>or2T (c.E K a) (c.E K b)) (fun _ _ _=>B0) es)
  (fun a o b p=>op2T (c.E K a) (c.E K b) (binO (q.H p) o)) (fun o a _=>bif o==.USub then negT (c.E K a) else botT) (fun t a b _=>ifT (c.B K t) (c.E K a) (c.E K b)) (fun ks vs p=>dictC (c.E K) (q.H p==1) ks vs)
  (fun elt gs sc p=>genC c K sc (capOf K sc false) (fun it tst K'=>lcT (q.H p==1) it tst (c.E K' elt) (capOf K sc false)) gs) (fun k v gs sc p=>genC c K sc (capOf K sc (q.H p==1)) (fun it tst K'=>dcT it tst (c.E K' k) (c.E K' v) (capOf K sc (q.H p==1))) gs)
  (fun a os bs p=>one B0 (fun o=>one B0 (fun b=>bif sm b then op2T (c.E K a) (c.E K b) (cmpO (q.H p) o) else botT) bs) os) (fun g es kw p=>bif kw.isEmpty then callC q (c.E K) K es p g else botT) (fun x _ _=>litC x)
  (fun e n _=>bif decide (n∈ATTR)&&nc e then getT (c.E K e) n else botT) (fun a i p=>subC (c.E K) (q.H p) a i) (fun x _=>nameC K x) (fun es p=>bif es.all plainE&&es.length.ble 1000 then listT (q.H p==1) (es.map (c.E K)) else botT)
  (fun es _ _=>bif es.all plainE&&es.length.ble 1000 then tupT (es.map (c.E K)) else botT) (fun _ _ _ _=>B0)
structure Good (G:Gl) (lv:Nat) (q:Cfg):Prop where
  F:AllT (Cal G lv) q.F
  C:AllT (fun x _ d=>GC G x d) CST
  cls:∃ F:Frag,Cls G F ATTR
theorem and_ok {f:Expr→Tr V} (E:∀ e,SemE G K e (f e)) (o:BoolOp) (es:List Expr) (p:Pos):SemE G K (.BoolOp o es p) (bif o==.And then ls4 B0 B0 (fun _=>B0) (fun a b=>and2T (f a) (f b)) (fun a b d=>and3T (f a) (f b) (f d)) es else ls4 B0 B0 (fun _=>B0) (fun a b=>or2T (f a) (f b)) (fun _ _ _=>B0) es):=by
  cases o with
  | And=>exact ls4_ok (P:=fun es t=>SemE G K (.BoolOp .And es p) t) (fun _=>SemE.bot) SemE.bot (fun _=>SemE.bot) (fun _ _=>SemE.and2 (E _) (E _)) (fun _ _ _=>SemE.and3 (E _) (E _) (E _)) es
  | Or=>exact ls4_ok (P:=fun es t=>SemE G K (.BoolOp .Or es p) t) (fun _=>SemE.bot) SemE.bot (fun _=>SemE.bot) (fun _ _=>SemE.or2 (E _) (E _)) (fun _ _ _=>SemE.bot) es
theorem cE_ok {q:Cfg} (g:Good G lv q) (h:Sound G lv c) (l:K.lv=lv):∀ e,SemE G K e (cE q c K e):=
  have E:=fun e=>h.E K e l
  ex_ok (P:=fun e t=>SemE G K e t) (fun _=>SemE.bot) (and_ok E) (fun _ _ _ _=>SemE.bin (E _) (E _) (binO_ok _ _)) (fun _ _ _=>gdE fun hb=>by rw [eq_of_beq hb]; exact SemE.neg (E _)) (fun _ _ _ _=>SemE.ifExp (h.B _ _ l) (E _) (E _)) (fun _ _ _=>dictC_ok E _ _ _ _)
    (fun _ gs _ _=>genC_ok (P:=fun gs t=>SemE G K (.ListComp _ gs _ _) t) (fun _=>SemE.bot) (fun x _ _ _ hi ok=>SemE.lc _ ok (E _) (tstC_ok (K:=KC K _ x _) h l _) (h.E _ _ l) (sm_ok hi).fs) gs)
    (fun _ _ gs _ _=>genC_ok (P:=fun gs t=>SemE G K (.DictComp _ _ gs _ _) t) (fun _=>SemE.bot) (fun x _ _ _ hi ok=>SemE.dc ok (E _) (tstC_ok (K:=KC K _ x _) h l _) (h.E _ _ l) (h.E _ _ l) (sm_ok hi).fs) gs)
    (fun _ os bs _=>one_ok (P:=fun os t=>SemE G K (.Compare _ os _ _) t) (fun _=>SemE.bot) (fun _=>one_ok (P:=fun bs t=>SemE G K (.Compare _ _ bs _) t) (fun _=>SemE.bot) (fun _=>gdE fun hb=>SemE.cmp (E _) (E _) (cmpO_ok _ _) ((sm_ok hb).bi _)) bs) os)
    (fun _ _ _ _=>gdE fun hb=>by rw [List.isEmpty_iff.mp hb]; exact callC_ok g.F l E _ _ _) (fun _ _ _=>litC_ok _)
    (fun _ _ _=>gdE fun hb=>SemE.attr g.cls.choose_spec (E _) (of_decide_eq_true (Bool.and_eq_true_iff.mp hb).1) ((nc_ok (Bool.and_eq_true_iff.mp hb).2).ab _)) (fun _ _ _=>subC_ok E _ _ _ _) (fun _ _=>nameC_ok g.C)
    (fun _ _=>gdE fun hb=>SemEl.list _ (el_ok E (Bool.and_eq_true_iff.mp hb).1) (Bool.and_eq_true_iff.mp hb).2) (fun _ _ _=>gdE fun hb=>SemEl.tuple (el_ok E (Bool.and_eq_true_iff.mp hb).1) (Bool.and_eq_true_iff.mp hb).2) (fun _ _ _ _=>SemE.bot)
noncomputable abbrev B1:Tr Bool:=botT
noncomputable def cB (q:Cfg) (c:Comp) (K:Sk):Expr→Tr Bool:=ex B1 (fun o es _=>bif o==.And then andT (es.map (c.B K)) else orT (es.map (c.B K))) (fun _ _ _ _=>B1) (fun o a _=>bif o==.Not then notT (c.B K a) else botT) (fun _ _ _ _=>B1) (fun _ _ _=>B1) (fun _ _ _ _=>B1) (fun _ _ _ _ _=>B1)
  (fun a os bs p=>ls4 B1 B1 (fun o=>one B1 (fun b=>bif sm b then tstT (op2T (c.E K a) (c.E K b) (cmpO (q.H p) o)) else botT) bs) (fun o1 o2=>ls4 B1 B1 (fun _=>B1) (fun b d=>bif sm d then chainT (c.E K a) (c.E K b) (c.E K d) (cmpO 0 o1) (cmpO 0 o2) else botT) (fun _ _ _=>B1) bs) (fun _ _ _=>B1) os)
  (fun g es kw p=>tstT (c.E K (.Call g es kw p))) (fun _ _ _=>B1) (fun e n p=>tstT (c.E K (.Attribute e n p))) (fun a i p=>tstT (c.E K (.Subscript a i p))) (fun x p=>tstT (c.E K (.Name x p))) (fun _ _=>B1) (fun _ _ _=>B1) (fun _ _ _ _=>B1)
theorem cB_ok {q:Cfg} (h:Sound G lv c) (l:K.lv=lv):∀ e,SemB G K e (cB q c K e):=
  have E:=fun e=>h.E K e l
  have B:=fun e=>h.B K e l
  ex_ok (P:=fun e t=>SemB G K e t) (fun _=>SemB.bot) (fun o es _=>by
    refine SemB.all ?_
    cases o with
    | And=>induction es with
      | nil=>exact SemAll.andNil
      | cons a r ih=>exact SemAll.and (B a) ih
    | Or=>induction es with
      | nil=>exact SemAll.orNil
      | cons a r ih=>exact SemAll.or (B a) ih) (fun _ _ _ _=>SemB.bot) (fun _ _ _=>gdB fun hb=>by rw [eq_of_beq hb]; exact SemB.not (B _)) (fun _ _ _ _=>SemB.bot) (fun _ _ _=>SemB.bot) (fun _ _ _ _=>SemB.bot) (fun _ _ _ _ _=>SemB.bot)
    (fun a os bs p=>ls4_ok (P:=fun os t=>SemB G K (.Compare a os bs p) t) (fun _=>SemB.bot) SemB.bot (fun _=>one_ok (P:=fun bs t=>SemB G K (.Compare a _ bs p) t) (fun _=>SemB.bot) (fun _=>gdB fun hb=>SemB.cmp (E _) (E _) (cmpO_ok _ _) ((sm_ok hb).bi _)) bs)
      (fun _ _=>ls4_ok (P:=fun bs t=>SemB G K (.Compare a _ bs p) t) (fun _=>SemB.bot) SemB.bot (fun _=>SemB.bot) (fun _ _=>gdB fun hb=>SemB.chain (E _) (E _) (E _) (cmpO_ok _ _) (cmpO_ok _ _) ((sm_ok hb).bi _)) (fun _ _ _=>SemB.bot) bs) (fun _ _ _=>SemB.bot) os)
    (fun _ _ _ _=>SemB.of (E _) fun _ _=>rfl) (fun _ _ _=>SemB.bot) (fun _ _ _=>SemB.of (E _) fun _ _=>rfl) (fun _ _ _=>SemB.of (E _) fun _ _=>rfl) (fun _ _=>SemB.of (E _) fun _ _=>rfl) (fun _ _=>SemB.bot) (fun _ _ _=>SemB.bot) (fun _ _ _ _=>SemB.bot)
noncomputable abbrev B2:Tr Fl:=botT
noncomputable def ni (K:Sk):Expr→Nat:=ex3 0 (fun x _=>K.slots.idxOf x) (fun _ _ _=>0) fun _ _ _=>0
noncomputable def nOk (K:Sk):Expr→Bool:=ex3 false (fun x _=>stoB K x) (fun _ _ _=>false) fun _ _ _=>false
theorem names_ok {es:List Expr} (h:es.all (nOk K)=true):SemN G K es (es.map (ni K)):=by
  induction es with
  | nil=>exact SemN.nil
  | cons e r ih=>
    have h:=Bool.and_eq_true_iff.mp (List.all_cons▸h)
    exact ex3_ok (P:=fun e b=>b=true→SemN G K (e :: r) (ni K e :: r.map (ni K))) (fun _ h=>by cases h) (fun x p hx=>SemN.cons (stoB_ok hx) (ih h.2)) (fun _ _ _ h=>by cases h) (fun _ _ _ h=>by cases h) e h.1
theorem sw_no {e:Expr} {p:Pos} {x:Str} {l:Nat} (h:(K.sc.names.lookup x==some .local)=false) (env:Env) (he:env.scope=K.sc):swapsWith e (some (.Name x p)) l env=pure false:=by
  have h':(env.kindOf x==some .local)=false:=by unfold Env.kindOf; rw [he]; exact h
  unfold swapsWith
  split
  · show pure (env.blockKind==.function&&env.kindOf x==some .local&&_&&_)=_
    simp only [h',Bool.and_false,Bool.false_and,Bool.false_and]
  · rfl
theorem sw_yes {elt:Expr} {gs:List Comprehension} {scope:Scope} {cp p:Pos} {x:Str} {l:Nat} (h:(K.sc.names.lookup x==some .local)=true) (hk:K.sc.kind = .function) (hs:(p.line==cp.line&&!(scope.names.any fun (n,k)=>n==x&&(k==.local||k==.cell)))=true) (env:Env) (he:env.scope=K.sc) :
    swapsWith (.ListComp elt gs scope cp) (some (.Name x p)) l env=pure true:=by
  show pure (env.blockKind==.function&&env.kindOf x==some .local&&p.line==cp.line&&!(scope.names.any fun (n,k)=>n==x&&(k==.local||k==.cell)))=_
  delta Env.kindOf Env.blockKind
  rw [he,h,hk,Bool.and_assoc,hs]; rfl
noncomputable def asC (q:Cfg) (c:Comp) (K:Sk) (e:Expr):Expr→Tr Fl:=ex5 B2
  (fun x p=>bif stoB K x then (bif sm e||!(K.sc.names.lookup x==some .local) then asgT (K.slots.idxOf x) (c.E K e) else ex5 B2 (fun _ _=>B2) (fun _ _ _=>B2) (fun _ _ _=>B2) (fun _ _ _=>B2) (fun _ _ _ _=>B2)
    (fun elt gs sc cp=>bif decide (K.sc.kind = .function)&&(p.line==cp.line&&!(sc.names.any fun (n,k)=>n==x&&(k==.local||k==.cell))) then genC c K sc (capOf K sc false) (fun it tst K'=>asgT (K.slots.idxOf x) (lcT (q.H cp==1) it tst (c.E K' elt) (capOf K sc false))) gs else botT) e) else botT)
  (fun o n _=>bif sm e&&decide (n∈ATTR) then atrT (c.E K e) (c.E K o) n else botT) (fun a i _=>bif sm e then setT (c.E K e) (c.E K a) (c.E K i) else botT) (fun ts _ _=>bif sm e&&(nc e&&ts.all (nOk K)) then unpT (ts.map (ni K)) (c.E K e) else botT) (fun _ _ _ _=>B2) fun _ _ _ _=>B2
theorem asC_ok {q:Cfg} (g:Good G lv q) (h:Sound G lv c) (l:K.lv=lv) (e:Expr) (p:Pos):∀ t,SemS G K (.Assign [t] e p) (asC q c K e t):=
  have E:=fun e=>h.E K e l
  ex5_ok (P:=fun t u=>SemS G K (.Assign [t] e p) u) (fun _=>SemS.bot) (fun x xp=>gdS fun hx=>by
    have hx:=stoB_ok hx
    cases hb:(sm e||!(K.sc.names.lookup x==some .local)) with
    | true=>exact SemS.assign (E _) hx fun env he=>(Bool.or_eq_true_iff.mp hb).elim (fun hb=>(sm_ok hb).sw _ _ _) fun hb=>sw_no (Bool.not_eq_true' _▸hb) env he
    | false=>exact ex5_ok (P:=fun e t=>SemS G K (.Assign [.Name x xp] e p) t) (fun _=>SemS.bot) (fun _ _=>SemS.bot) (fun _ _ _=>SemS.bot) (fun _ _ _=>SemS.bot) (fun _ _ _=>SemS.bot) (fun _ _ _ _=>SemS.bot) (fun elt gs sc cp=>gdS fun hd=>by
        have hd:=Bool.and_eq_true_iff.mp hd
        refine genC_ok (P:=fun gs t=>SemS G K (.Assign [.Name _ _] (.ListComp _ gs _ _) _) t) (fun _=>SemS.bot) (fun x' _ _ _ hi ok=>SemS.assignLc _ ok (E _) (tstC_ok (K:=KC K _ x' _) h l _) (h.E _ _ l) hx (sm_ok hi).fs (sw_yes ?_ (of_decide_eq_true hd.1) hd.2)) gs
        exact Bool.not_eq_false' _▸(Bool.or_eq_false_iff.mp hb).2) e)
  (fun _ _ _=>gdS fun hb=>SemS.setAttr g.cls.choose_spec (E _) (E _) (of_decide_eq_true (Bool.and_eq_true_iff.mp hb).2) fun _=>(sm_ok (Bool.and_eq_true_iff.mp hb).1).sw _ _ _) (fun _ _ _=>gdS fun hb=>SemS.setItem (E _) (E _) (E _) fun _ _=>(sm_ok hb).sw _ _ _)
  (fun ts _ _=>gdS fun hb=>by
    have hb:=Bool.and_eq_true_iff.mp hb
    have hz:=Bool.and_eq_true_iff.mp hb.2
    exact SemS.unpack (E _) (names_ok hz.2) (fun _=>by unfold swapsWithSole; exact (sm_ok hb.1).sw _ _ _) ((nc_ok hz.1).ss _ _ _)) (fun _ _ _ _=>SemS.bot) fun _ _ _ _=>SemS.bot
noncomputable def cSs (q:Cfg) (c:Comp) (K:Sk) (b:List Stmt):Tr Fl:=List.rec B2 (fun s r t=>bif q.H s.pos==2 then botT else bif r.isEmpty then c.S K s else seqT (c.S K s) t) b
theorem cSs_ok0 {q:Cfg} (h:Sound G lv c) (l:K.lv=lv) (b:List Stmt):SemSs G K b (cSs q c K b):=by
  induction b with
  | nil=>exact SemSs.bot
  | cons s r ih=>
    show SemSs G K (s :: r) (bif q.H s.pos==2 then botT else bif r.isEmpty then c.S K s else seqT (c.S K s) (cSs q c K r))
    cases q.H s.pos==2 with
    | true=>exact SemSs.bot
    | false=>
      cases r with
      | nil=>exact SemSs.one (h.S K s l)
      | cons=>exact SemSs.cons (h.S K s l) ih
noncomputable def cSk (q:Cfg) (c:Comp) (K:Sk) (k:Bool) (b:List Stmt):Tr Fl:=bif k then botT else bif b.isEmpty then skipT else cSs q c K b
theorem cSk_ok {q:Cfg} (h:Sound G lv c) (l:K.lv=lv) (k:Bool) (b:List Stmt):SemSs G K b (cSk q c K k b):=by
  cases k with
  | true=>exact SemSs.bot
  | false=>
    cases b with
    | nil=>exact SemSs.nil
    | cons=>exact cSs_ok0 h l _
noncomputable def cS (q:Cfg) (c:Comp) (K:Sk) (s:Stmt):Tr Fl:=Stmt.casesOn (motive_2:=fun _=>Tr Fl) s (fun _ _ _ _ _ _ _ _ _ _=>B2) (fun _ _ _ _ _ _ _ _ _ _=>B2) (fun _ _ _ _ _ _ _ _ _ _ _=>B2) (fun v p=>Option.casesOn v B2 fun e=>bif q.H p==1 then ghostT (retT (c.E K e)) else retT (c.E K e)) (fun _ _=>B2)
  (fun ts e p=>one B2 (asC q c K e) ts) (fun _ _ _ _ _ _ _=>B2) (fun t o e p=>ex3 B2 (fun x _=>bif o==.Add&&(stoB K x&&K.sc.names.lookup x==some .local) then augT (K.slots.idxOf x) (c.E K e) else botT) (fun _ _ _=>B2) (fun _ _ _=>B2) t) (fun _ _ _ _ _=>B2)
  (fun t i b z p=>bif z.isEmpty&&sm i then ex3 B2 (fun x _=>bif stoB K x then forT (c.E K i) (.one (K.slots.idxOf x)) (cSk q c K (q.H p==1) b) else botT) (fun _ _ _=>B2) (fun ts _ _=>bif ts.all (nOk K) then forT (c.E K i) (.many (ts.map (ni K))) (cSk q c K (q.H p==1) b) else botT) t else botT) (fun _ _ _ _ _=>B2)
  (fun t b z _=>bif z.isEmpty then whileT (c.B K t) (cSk q c K false b) else botT) (fun t a b p=>ifT (c.B K t) (cSk q c K (q.H p==1) a) (cSk q c K false b)) (fun _ _ _=>B2) (fun _ _ _=>B2) (fun _ _ _=>B2) (fun _ _ _=>B2) (fun _ _ _ _ _=>B2) (fun _ _ _ _ _=>B2) (fun _ _ _=>B2) (fun _ _=>B2) (fun _ _ _ _=>B2) (fun _ _=>B2) (fun _ _=>B2)
  (fun e _=>bif sm e then exprT (c.E K e) else botT) (fun _=>B2) (fun _=>B2) (fun _=>contT)
theorem cS_ok {q:Cfg} (g:Good G lv q) (h:Sound G lv c) (l:K.lv=lv) (s:Stmt):SemS G K s (cS q c K s):=by
  have E:=fun e=>h.E K e l
  cases s with
  | Return v p=>cases v with
    | none=>exact SemS.bot
    | some e=>
      show SemS G K _ (bif q.H p==1 then _ else _)
      cases q.H p==1 with
      | true=>exact SemS.ghost (SemS.ret (E _))
      | false=>exact SemS.ret (E _)
  | Assign ts e p=>exact one_ok (P:=fun ts t=>SemS G K (.Assign ts e p) t) (fun _=>SemS.bot) (asC_ok g h l e p) ts
  | AugAssign t o e p=>
    refine ex3_ok (P:=fun t u=>SemS G K (.AugAssign t o e p) u) (fun _=>SemS.bot) (fun x _=>gdS fun hb=>?_) (fun _ _ _=>SemS.bot) (fun _ _ _=>SemS.bot) t
    have hb:=Bool.and_eq_true_iff.mp hb
    have hz:=Bool.and_eq_true_iff.mp hb.2
    rw [eq_of_beq hb.1]
    exact SemS.augAdd (E _) (stoB_ok hz.1) (eq_of_beq hz.2)
  | For t i b z p=>
    refine gdS fun hb=>?_
    have hb:=Bool.and_eq_true_iff.mp hb
    simp only [List.isEmpty_iff.mp hb.1]
    exact ex3_ok (P:=fun t u=>SemS G K (.For t i b [] p) u) (fun _=>SemS.bot) (fun x _=>gdS fun hx=>SemS.for (E _) (SemT.one (stoB_ok hx)) (cSk_ok h l _ _) (sm_ok hb.2).fs) (fun _ _ _=>SemS.bot) (fun ts _ _=>gdS fun hx=>SemS.for (E _) (SemT.many (names_ok hx)) (cSk_ok h l _ _) (sm_ok hb.2).fs) t
  | While t b z p=>exact gdS fun hb=>by simp only [List.isEmpty_iff.mp hb]; exact SemS.while (h.B _ _ l) (cSk_ok h l _ _)
  | If t a b p=>exact SemS.if' (h.B _ _ l) (cSk_ok h l _ _) (cSk_ok h l _ _)
  | Expr e p=>exact gdS fun hb=>SemS.expr (E _) fun _=>(sm_ok hb).sw _ _ _
  | Continue=>exact SemS.cont
  | _=>exact SemS.bot
noncomputable def comp (q:Cfg) (n:Nat):Comp:=Nat.rec ⟨fun _ _=>botT,fun _ _=>botT,fun _ _=>botT⟩ (fun _ c=>⟨cE q c,cB q c,cS q c⟩) n
theorem comp_ok {q:Cfg} (g:Good G lv q) (n:Nat):Sound G lv (comp q n):=by
  induction n with
  | zero=>exact ⟨fun _ _ _=>SemE.bot,fun _ _ _=>SemB.bot,fun _ _ _=>SemS.bot⟩
  | succ n ih=>exact ⟨fun _ e l=>cE_ok g ih l e,fun _ e l=>cB_ok ih l e,fun _ e l=>cS_ok g ih l e⟩
end
end Cw
section
open Cw
noncomputable def HTS:List (Nat×Nat):=[(48004031,1),(54004024,2),(73004055,1),(80012014,1),(97028037,2),(98015024,2),(104008039,1),(109012020,1),(113004038,1),(116004031,1),(130011054,1),(135011013,1),(149004019,1),(165004046,1),(171004041,1),(174004018,1),(177004028,1),(204013023,1),(220004056,1),(240011018,1),(248039060,1),(262008044,1),(268013015,1),(277013015,1),(291012014,1),(307012014,1),(330022024,1),(338010012,1),(345010018,1),(351012014,1),(389012040,1),(390012103,2),(405016092,1),(406015076,1),(419020086,1),(426011044,1),(434019021,1),(434046056,1),(444010012,1),(464013027,1),(468016018,1),(478018061,1),(484004080,1)]
noncomputable def hintAt (p:Pos):Nat:=(HTS.lookup ((p.line * 1000+p.col) * 1000+p.endCol)).getD 0
noncomputable def fr (x:Str) (n m:Nat) (R:FnR):Str×Nat×(List (Tr V)→Tr V):=(x,n,fun ts=>fnT ts (callO m R))
structure WSs (G:Gl) (K:Sk) (e:List Stmt) (T:Tr Fl):Prop where h:SemSs G K e T
theorem walked {G:Gl} {F:Frag} {fI:Addr} {fdI:FuncData} (P:PG G F fI fdI) {K:Sk} {b:List Stmt} {T:Tr Fl} (fs:Tb (List (Tr V)→Tr V)) (hf:AllT (Cal G K.lv) fs) (e:cSs ⟨hintAt,fs++BLT⟩ (comp ⟨hintAt,fs++BLT⟩ 20) K b=T):WSs G K b T:=
  ⟨e▸cSs_ok0 (comp_ok ⟨hf.app (blt_ok P),cst_ok P,F,P.cls⟩ 20) rfl b⟩
theorem Shape.by {sc:Scope} {names slots:List Str} (h1:sc.kind = .function) (h2:sc.isCoroutine=false) (h3:sc.isGenerator=false) (h4:slots.Nodup) (h5:names <+: slots)
    (h6:∀ x∈slots,sc.names.lookup x=some .local∨sc.names.lookup x=some .cell):Shape sc names slots:=
  ⟨h1,h2,h3,h4,h5,fun x hx=>(h6 x hx).imp id fun h=>⟨h,fun L=>cellsFrom_some _ _ _ (.inl h)⟩⟩
noncomputable def S_flagged:List Str:=["result", "c", "v", "h"]
theorem sh_flagged:Shape (scopeAt 4) ["result", "c", "v", "h"] S_flagged:=Shape.by rfl rfl rfl (by decide) (by decide) (by decide +kernel)
noncomputable def T_flagged:Tr Fl:=(retT (tupT [(nameT 0),(op2T (nameT 0) (litT (.int 31)) shrI),(ifT (tstT (op2T (nameT 0) (litT (.int 0)) eqO)) (litT (.int 1)) (litT (.int 0))),(nameT 1),(nameT 2),(nameT 3)]))
theorem walk_flagged {G:Gl} {F:Frag} {fI:Addr} {fdI:FuncData} (P:PG G F fI fdI) {lv:Nat}:WSs G ⟨lv,scopeAt 4,S_flagged,true⟩ (bodyAt 4) (T_flagged):=walked P [] trivial (by kernel_rfl)
noncomputable def S_add:List Str:=["x", "y", "total", "result", "c", "v"]
theorem sh_add:Shape (scopeAt 5) ["x", "y"] S_add:=Shape.by rfl rfl rfl (by decide) (by decide) (by decide +kernel)
noncomputable def T_add (R_flagged:FnR):Tr Fl:=(seqT (asgT 2 (op2T (nameT 0) (nameT 1) addI))
  (seqT (asgT 3 (op2T (nameT 2) (litT (.int 4294967295)) andI))
  (seqT (asgT 4 (op2T (nameT 2) (litT (.int 32)) shrI))
  (seqT (asgT 5 (op2T (op2T (op2T (nameT 0) (nameT 3) xorI) (op2T (nameT 1) (nameT 3) xorI) andI) (litT (.int 31)) shrI))
  (retT (fnT [(nameT 3),(nameT 4),(nameT 5)] (callO 0 R_flagged)))))))
theorem walk_add {G:Gl} {F:Frag} {fI:Addr} {fdI:FuncData} (P:PG G F fI fdI) {lv:Nat} {R_flagged:FnR} (h_flagged:HasF G lv "flagged" 3 0 R_flagged):WSs G ⟨lv,scopeAt 5,S_add,true⟩ (bodyAt 5) (T_add R_flagged):=walked P [fr "flagged" 3 0 R_flagged] ⟨.fn h_flagged,trivial⟩ (by kernel_rfl)
noncomputable def S_sub:List Str:=["x", "y", "result", "c", "v"]
theorem sh_sub:Shape (scopeAt 6) ["x", "y"] S_sub:=Shape.by rfl rfl rfl (by decide) (by decide) (by decide +kernel)
noncomputable def T_sub (R_flagged:FnR):Tr Fl:=(seqT (asgT 2 (op2T (op2T (nameT 0) (nameT 1) subI) (litT (.int 4294967295)) andI))
  (seqT (asgT 3 (ifT (tstT (op2T (nameT 0) (nameT 1) (icO fun a b=>decide (a<b)))) (litT (.int 1)) (litT (.int 0))))
  (seqT (asgT 4 (op2T (op2T (op2T (nameT 0) (nameT 1) xorI) (op2T (nameT 0) (nameT 2) xorI) andI) (litT (.int 31)) shrI))
  (retT (fnT [(nameT 2),(nameT 3),(nameT 4)] (callO 0 R_flagged))))))
theorem walk_sub {G:Gl} {F:Frag} {fI:Addr} {fdI:FuncData} (P:PG G F fI fdI) {lv:Nat} {R_flagged:FnR} (h_flagged:HasF G lv "flagged" 3 0 R_flagged):WSs G ⟨lv,scopeAt 6,S_sub,true⟩ (bodyAt 6) (T_sub R_flagged):=walked P [fr "flagged" 3 0 R_flagged] ⟨.fn h_flagged,trivial⟩ (by kernel_rfl)
noncomputable def S_operate:List Str:=["name", "x", "y"]
theorem sh_operate:Shape (scopeAt 13) ["name", "x", "y"] S_operate:=Shape.by rfl rfl rfl (by decide) (by decide) (by decide +kernel)
noncomputable def T_operate (R_add R_sub:FnR):Tr Fl:=(seqT (ifT (tstT (op2T (nameT 0) (litT (.str "MOV")) eqO)) botT skipT)
  (seqT (ifT (tstT (op2T (nameT 0) (litT (.str "ADD")) eqO)) (retT (fnT [(nameT 1),(nameT 2)] (callO 0 R_add))) skipT)
  (seqT (ifT (tstT (op2T (nameT 0) (litT (.str "SUB")) eqO)) (retT (fnT [(nameT 1),(nameT 2)] (callO 0 R_sub))) skipT)
  botT)))
theorem walk_operate {G:Gl} {F:Frag} {fI:Addr} {fdI:FuncData} (P:PG G F fI fdI) {lv:Nat} {R_add R_sub:FnR} (h_add:HasF G lv "add" 2 0 R_add) (h_sub:HasF G lv "sub" 2 0 R_sub):WSs G ⟨lv,scopeAt 13,S_operate,true⟩ (bodyAt 13) (T_operate R_add R_sub):=walked P [fr "add" 2 0 R_add,fr "sub" 2 0 R_sub] ⟨.fn h_add,.fn h_sub,trivial⟩ (by kernel_rfl)
noncomputable def S_target_of:List Str:=["row", "index"]
theorem sh_target_of:Shape (scopeAt 16) ["row", "index"] S_target_of:=Shape.by rfl rfl rfl (by decide) (by decide) (by decide +kernel)
noncomputable def T_target_of:Tr Fl:=(retT (op2T (op2T (nameT 1) (litT (.int 1)) addI) (op2T (nameT 0) (litT (.int 2)) subO) addI))
theorem walk_target_of {G:Gl} {F:Frag} {fI:Addr} {fdI:FuncData} (P:PG G F fI fdI) {lv:Nat}:WSs G ⟨lv,scopeAt 16,S_target_of,true⟩ (bodyAt 16) (T_target_of):=walked P [] trivial (by kernel_rfl)
noncomputable def S_falls_through:List Str:=["row", "name"]
theorem sh_falls_through:Shape (scopeAt 17) ["row"] S_falls_through:=Shape.by rfl rfl rfl (by decide) (by decide) (by decide +kernel)
noncomputable def T_falls_through:Tr Fl:=(seqT (asgT 1 (op2T (nameT 0) (litT (.int 0)) subO))
  (seqT (ifT (orT [(tstT (op2T (nameT 1) (litT (.str "B")) eqO)),(tstT (op2T (nameT 1) (litT (.str "BR")) eqO))]) (retT (op2T (op2T (nameT 0) (litT (.int 1)) subO) (litT (.str "AL")) neO)) skipT)
  (seqT (ifT (andT [(tstT (op2T (nameT 1) (litT (.str "TRAP")) eqO)),(tstT (op2T (op2T (nameT 0) (litT (.int 1)) subO) (litT (.str "AL")) eqO))]) botT skipT)
  (retT (litT (.bool true))))))
theorem walk_falls_through {G:Gl} {F:Frag} {fI:Addr} {fdI:FuncData} (P:PG G F fI fdI) {lv:Nat}:WSs G ⟨lv,scopeAt 17,S_falls_through,true⟩ (bodyAt 17) (T_falls_through):=walked P [] trivial (by kernel_rfl)
noncomputable def S_can_jump:List Str:=["row"]
theorem sh_can_jump:Shape (scopeAt 18) ["row"] S_can_jump:=Shape.by rfl rfl rfl (by decide) (by decide) (by decide +kernel)
noncomputable def T_can_jump:Tr Fl:=(retT (op2T (op2T (nameT 0) (litT (.int 1)) subO) (litT (.str "NV")) neO))
theorem walk_can_jump {G:Gl} {F:Frag} {fI:Addr} {fdI:FuncData} (P:PG G F fI fdI) {lv:Nat}:WSs G ⟨lv,scopeAt 18,S_can_jump,true⟩ (bodyAt 18) (T_can_jump):=walked P [] trivial (by kernel_rfl)
noncomputable def S_successors:List Str:=["rows", "index", "row", "found", "target"]
theorem sh_successors:Shape (scopeAt 19) ["rows", "index"] S_successors:=Shape.by rfl rfl rfl (by decide) (by decide) (by decide +kernel)
noncomputable def T_successors (R_falls_through R_can_jump R_target_of:FnR):Tr Fl:=(seqT (asgT 2 (op2T (nameT 0) (nameT 1) subO))
  (seqT (asgT 3 (listT true []))
  (seqT (ifT (andT [(tstT (fnT [(nameT 2)] (callO 0 R_falls_through))),(tstT (op2T (op2T (nameT 1) (litT (.int 1)) addI) (fnT [(nameT 0)] lenO) (icO fun a b=>decide (a<b))))]) (exprT (lmT (nameT 3) [(op2T (nameT 1) (litT (.int 1)) addI)] appS)) skipT)
  (seqT (ifT (andT [(tstT (op2T (op2T (nameT 2) (litT (.int 0)) subO) (litT (.str "B")) eqO)),(tstT (fnT [(nameT 2)] (callO 0 R_can_jump)))]) (seqT (asgT 4 (fnT [(nameT 2),(nameT 1)] (callO 0 R_target_of)))
  (ifT (andT [(tstT (op2T (litT (.int 0)) (nameT 4) (icO fun a b=>decide (a≤b)))),(tstT (op2T (nameT 4) (fnT [(nameT 0)] lenO) (icO fun a b=>decide (a<b)))),(tstT (op2T (nameT 4) (nameT 3) niO))]) (exprT (lmT (nameT 3) [(nameT 4)] appS)) skipT)) skipT)
  (retT (fnT [(nameT 3)] (srtO false)))))))
theorem walk_successors {G:Gl} {F:Frag} {fI:Addr} {fdI:FuncData} (P:PG G F fI fdI) {lv:Nat} {R_falls_through R_can_jump R_target_of:FnR} (h_falls_through:HasF G lv "falls_through" 1 0 R_falls_through) (h_can_jump:HasF G lv "can_jump" 1 0 R_can_jump) (h_target_of:HasF G lv "target_of" 2 0 R_target_of):WSs G ⟨lv,scopeAt 19,S_successors,true⟩ (bodyAt 19) (T_successors R_falls_through R_can_jump R_target_of):=walked P [fr "falls_through" 1 0 R_falls_through,fr "can_jump" 1 0 R_can_jump,fr "target_of" 2 0 R_target_of] ⟨.fn h_falls_through,.fn h_can_jump,.fn h_target_of,trivial⟩ (by kernel_rfl)
noncomputable def S_calculations:List Str:=[]
theorem sh_calculations:Shape (scopeAt 21) [] S_calculations:=Shape.by rfl rfl rfl (by decide) (by decide) (by decide +kernel)
noncomputable def T_calculations:Tr Fl:=(retT (tupT [(litT (.str "LSL")),(litT (.str "ASR")),(litT (.str "ROR")),(litT (.str "AND")),(litT (.str "ANN")),(litT (.str "IOR")),(litT (.str "XOR")),(litT (.str "ADD")),(litT (.str "SUB")),(litT (.str "MUL")),(litT (.str "DIV"))]))
theorem walk_calculations {G:Gl} {F:Frag} {fI:Addr} {fdI:FuncData} (P:PG G F fI fdI) {lv:Nat}:WSs G ⟨lv,scopeAt 21,S_calculations,true⟩ (bodyAt 21) (T_calculations):=walked P [] trivial (by kernel_rfl)
noncomputable def S_is_load:List Str:=["row"]
theorem sh_is_load:Shape (scopeAt 22) ["row"] S_is_load:=Shape.by rfl rfl rfl (by decide) (by decide) (by decide +kernel)
noncomputable def T_is_load:Tr Fl:=(retT (or2T (op2T (op2T (nameT 0) (litT (.int 0)) subO) (litT (.str "LDR")) eqO) (op2T (op2T (nameT 0) (litT (.int 0)) subO) (litT (.str "LDB")) eqO)))
theorem walk_is_load {G:Gl} {F:Frag} {fI:Addr} {fdI:FuncData} (P:PG G F fI fdI) {lv:Nat}:WSs G ⟨lv,scopeAt 22,S_is_load,true⟩ (bodyAt 22) (T_is_load):=walked P [] trivial (by kernel_rfl)
noncomputable def S_base_name:List Str:=["row", "name"]
theorem sh_base_name:Shape (scopeAt 23) ["row"] S_base_name:=Shape.by rfl rfl rfl (by decide) (by decide) (by decide +kernel)
noncomputable def T_base_name (R_calculations:FnR):Tr Fl:=(seqT (asgT 1 (op2T (nameT 0) (litT (.int 0)) subO))
  (seqT (ifT (tstT (op2T (nameT 1) (fnT [] (callO 0 R_calculations)) inO)) (retT (nameT 1)) skipT)
  (seqT (ifT (andT [(tstT (op2T (op2T (nameT 1) (negT (litT (.int 1))) strFrom) (litT (.str "I")) eqO)),(tstT (op2T (op2T (nameT 1) (negT (litT (.int 1))) strTo) (fnT [] (callO 0 R_calculations)) inO))]) (retT (op2T (nameT 1) (negT (litT (.int 1))) strTo)) skipT)
  (retT (litT (.str ""))))))
theorem walk_base_name {G:Gl} {F:Frag} {fI:Addr} {fdI:FuncData} (P:PG G F fI fdI) {lv:Nat} {R_calculations:FnR} (h_calculations:HasF G lv "calculations" 0 0 R_calculations):WSs G ⟨lv,scopeAt 23,S_base_name,true⟩ (bodyAt 23) (T_base_name R_calculations):=walked P [fr "calculations" 0 0 R_calculations] ⟨.fn h_calculations,trivial⟩ (by kernel_rfl)
noncomputable def S_own_addresses:List Str:=["o", "found", "row", "kind", "module", "entry"]
theorem sh_own_addresses:Shape (scopeAt 25) ["o"] S_own_addresses:=Shape.by rfl rfl rfl (by decide) (by decide) (by decide +kernel)
noncomputable def T_own_addresses:Tr Fl:=(seqT (asgT 1 (nilD false))
  (seqT (forT (getT (nameT 0) "fixups") (.many [2,3,4,5]) (ifT (andT [(tstT (op2T (nameT 3) (litT (.str "addr")) eqO)),(tstT (op2T (nameT 4) (litT (.int 0)) eqO))]) botT skipT))
  (retT (nameT 1))))
theorem walk_own_addresses {G:Gl} {F:Frag} {fI:Addr} {fdI:FuncData} (P:PG G F fI fdI) {lv:Nat}:WSs G ⟨lv,scopeAt 25,S_own_addresses,true⟩ (bodyAt 25) (T_own_addresses):=walked P [] trivial (by kernel_rfl)
noncomputable def S_object_starts:List Str:=["o", "found", "kind", "offset", "name", "held", "row"]
theorem sh_object_starts:Shape (scopeAt 27) ["o"] S_object_starts:=Shape.by rfl rfl rfl (by decide) (by decide) (by decide +kernel)
noncomputable def T_object_starts (R_own_addresses:FnR):Tr Fl:=(seqT (asgT 1 (listT true [(getT (nameT 0) "body")]))
  (seqT (forT (getT (nameT 0) "entries") (.many [2,3]) (ifT (tstT (op2T (nameT 2) (litT (.str "code")) eqO)) (exprT (lmT (nameT 1) [(nameT 3)] appS)) skipT))
  (seqT (forT (getT (nameT 0) "commands") (.one 4) botT)
  (seqT (asgT 5 (fnT [(nameT 0)] (callO 0 R_own_addresses)))
  (seqT (forT (nameT 5) (.one 6) botT)
  (retT (fnT [(nameT 1)] (srtO false))))))))
theorem walk_object_starts {G:Gl} {F:Frag} {fI:Addr} {fdI:FuncData} (P:PG G F fI fdI) {lv:Nat} {R_own_addresses:FnR} (h_own_addresses:HasF G lv "own_addresses" 1 0 R_own_addresses):WSs G ⟨lv,scopeAt 27,S_object_starts,true⟩ (bodyAt 27) (T_object_starts R_own_addresses):=walked P [fr "own_addresses" 1 0 R_own_addresses] ⟨.fn h_own_addresses,trivial⟩ (by kernel_rfl)
noncomputable def S_signed:List Str:=["word"]
theorem sh_signed:Shape (scopeAt 36) ["word"] S_signed:=Shape.by rfl rfl rfl (by decide) (by decide) (by decide +kernel)
noncomputable def T_signed:Tr Fl:=(retT (ifT (tstT (op2T (nameT 0) (op2T (litT (.int 4294967296)) (litT (.int 2)) divI) (icO fun a b=>decide (b≤a)))) (op2T (nameT 0) (litT (.int 4294967296)) subI) (nameT 0)))
theorem walk_signed {G:Gl} {F:Frag} {fI:Addr} {fdI:FuncData} (P:PG G F fI fdI) {lv:Nat}:WSs G ⟨lv,scopeAt 36,S_signed,true⟩ (bodyAt 36) (T_signed):=walked P [] trivial (by kernel_rfl)
noncomputable def S_first_state:List Str:=["regs"]
theorem sh_first_state:Shape (scopeAt 37) [] S_first_state:=Shape.by rfl rfl rfl (by decide) (by decide) (by decide +kernel)
noncomputable def T_first_state:Tr Fl:=(seqT (asgT 0 (lcT true (fnT [(litT (.int 16))] rngO) yesT (tupT [(litT (.str "entry")),(nameT 0)]) []))
  (seqT (setT (tupT [(litT (.str "frame")),(litT (.int 0))]) (nameT 0) (litT (.int 14)))
  (seqT (setT (tupT [(litT (.str "number")),(litT (.int 0))]) (nameT 0) (litT (.int 13)))
  (retT (tupT [(fnT [(nameT 0)] tupO),(nilD false)])))))
theorem walk_first_state {G:Gl} {F:Frag} {fI:Addr} {fdI:FuncData} (P:PG G F fI fdI) {lv:Nat}:WSs G ⟨lv,scopeAt 37,S_first_state,true⟩ (bodyAt 37) (T_first_state):=walked P [] trivial (by kernel_rfl)
noncomputable def S_joined:List Str:=["first", "second", "regs", "number", "same", "words", "place"]
theorem sh_joined:Shape (scopeAt 38) ["first", "second"] S_joined:=Shape.by rfl rfl rfl (by decide) (by decide) (by decide +kernel)
noncomputable def T_joined:Tr Fl:=(seqT (asgT 2 (listT true []))
  (seqT (forT (fnT [(litT (.int 16))] rngO) (.one 3) (seqT (asgT 4 (op2T (op2T (op2T (nameT 0) (litT (.int 0)) subO) (nameT 3) subO) (op2T (op2T (nameT 1) (litT (.int 0)) subO) (nameT 3) subO) eqO))
  (exprT (lmT (nameT 2) [(ifT (tstT (nameT 4)) (op2T (op2T (nameT 0) (litT (.int 0)) subO) (nameT 3) subO) (litT (.tuple [.str "any"])))] appS))))
  (seqT (asgT 5 (nilD false))
  (seqT (forT (op2T (nameT 0) (litT (.int 1)) subO) (.one 6) (ifT (tstT (op2T (dmT (op2T (nameT 1) (litT (.int 1)) subO) [(nameT 6),(litT (.tuple [.str "any"]))] get2) (op2T (op2T (nameT 0) (litT (.int 1)) subO) (nameT 6) subO) eqO)) (setT (op2T (op2T (nameT 0) (litT (.int 1)) subO) (nameT 6) subO) (nameT 5) (nameT 6)) skipT))
  (retT (tupT [(fnT [(nameT 2)] tupO),(nameT 5)]))))))
theorem walk_joined {G:Gl} {F:Frag} {fI:Addr} {fdI:FuncData} (P:PG G F fI fdI) {lv:Nat}:WSs G ⟨lv,scopeAt 38,S_joined,true⟩ (bodyAt 38) (T_joined):=walked P [] trivial (by kernel_rfl)
noncomputable def S_moved:List Str:=["value", "amount"]
theorem sh_moved:Shape (scopeAt 39) ["value", "amount"] S_moved:=Shape.by rfl rfl rfl (by decide) (by decide) (by decide +kernel)
noncomputable def T_moved:Tr Fl:=(seqT (ifT (tstT (op2T (op2T (nameT 0) (litT (.int 0)) subO) (litT (.str "frame")) eqO)) (retT (tupT [(litT (.str "frame")),(op2T (op2T (nameT 0) (litT (.int 1)) subO) (nameT 1) addI)])) skipT)
  (seqT (ifT (tstT (op2T (op2T (nameT 0) (litT (.int 0)) subO) (litT (.str "number")) eqO)) (retT (tupT [(litT (.str "number")),(op2T (op2T (op2T (nameT 0) (litT (.int 1)) subO) (nameT 1) addI) (litT (.int 4294967296)) modI)])) skipT)
  (seqT (ifT (tstT (op2T (op2T (nameT 0) (litT (.int 0)) subO) (litT (.str "data")) eqO)) botT skipT)
  (retT (litT (.tuple [.str "any"]))))))
theorem walk_moved {G:Gl} {F:Frag} {fI:Addr} {fdI:FuncData} (P:PG G F fI fdI) {lv:Nat}:WSs G ⟨lv,scopeAt 39,S_moved,true⟩ (bodyAt 39) (T_moved):=walked P [] trivial (by kernel_rfl)
noncomputable def S_operated:List Str:=["name", "left", "right", "found"]
theorem sh_operated:Shape (scopeAt 40) ["name", "left", "right"] S_operated:=Shape.by rfl rfl rfl (by decide) (by decide) (by decide +kernel)
noncomputable def T_operated (R_operate R_signed R_moved:FnR):Tr Fl:=(seqT (ifT (andT [(tstT (op2T (op2T (nameT 1) (litT (.int 0)) subO) (litT (.str "number")) eqO)),(tstT (op2T (op2T (nameT 2) (litT (.int 0)) subO) (litT (.str "number")) eqO))]) (seqT (asgT 3 (fnT [(nameT 0),(op2T (nameT 1) (litT (.int 1)) subO),(op2T (nameT 2) (litT (.int 1)) subO)] (callO 0 R_operate)))
  (retT (ifT (tstT (op2T (nameT 3) (litT .none) isO)) (litT (.tuple [.str "any"])) (tupT [(litT (.str "number")),(op2T (nameT 3) (litT (.int 0)) subO)])))) skipT)
  (seqT (ifT (andT [(tstT (op2T (nameT 0) (litT (.str "ADD")) eqO)),(tstT (op2T (op2T (nameT 2) (litT (.int 0)) subO) (litT (.str "number")) eqO))]) (retT (fnT [(nameT 1),(fnT [(op2T (nameT 2) (litT (.int 1)) subO)] (callO 0 R_signed))] (callO 0 R_moved))) skipT)
  (seqT (ifT (andT [(tstT (op2T (nameT 0) (litT (.str "ADD")) eqO)),(tstT (op2T (op2T (nameT 1) (litT (.int 0)) subO) (litT (.str "number")) eqO))]) (retT (fnT [(nameT 2),(fnT [(op2T (nameT 1) (litT (.int 1)) subO)] (callO 0 R_signed))] (callO 0 R_moved))) skipT)
  (seqT (ifT (andT [(tstT (op2T (nameT 0) (litT (.str "SUB")) eqO)),(tstT (op2T (op2T (nameT 2) (litT (.int 0)) subO) (litT (.str "number")) eqO))]) (retT (fnT [(nameT 1),(op2T (litT (.int 0)) (fnT [(op2T (nameT 2) (litT (.int 1)) subO)] (callO 0 R_signed)) subI)] (callO 0 R_moved))) skipT)
  (retT (litT (.tuple [.str "any"])))))))
theorem walk_operated {G:Gl} {F:Frag} {fI:Addr} {fdI:FuncData} (P:PG G F fI fdI) {lv:Nat} {R_operate R_signed R_moved:FnR} (h_operate:HasF G lv "operate" 3 0 R_operate) (h_signed:HasF G lv "signed" 1 0 R_signed) (h_moved:HasF G lv "moved" 2 0 R_moved):WSs G ⟨lv,scopeAt 40,S_operated,true⟩ (bodyAt 40) (T_operated R_operate R_signed R_moved):=walked P [fr "operate" 3 0 R_operate,fr "signed" 1 0 R_signed,fr "moved" 2 0 R_moved] ⟨.fn h_operate,.fn h_signed,.fn h_moved,trivial⟩ (by kernel_rfl)
noncomputable def S_result_value:List Str:=["row", "regs", "is_fixed", "name", "operation", "right"]
theorem sh_result_value:Shape (scopeAt 41) ["row", "regs", "is_fixed"] S_result_value:=Shape.by rfl rfl rfl (by decide) (by decide) (by decide +kernel)
noncomputable def T_result_value (R_base_name R_operated:FnR):Tr Fl:=(seqT (asgT 3 (op2T (nameT 0) (litT (.int 0)) subO))
  (seqT (ifT (tstT (nameT 2)) botT skipT)
  (seqT (ifT (tstT (op2T (nameT 3) (litT (.str "MOV")) eqO)) (retT (op2T (nameT 1) (op2T (nameT 0) (litT (.int 3)) subO) subO)) skipT)
  (seqT (ifT (tstT (op2T (nameT 3) (litT (.str "MOVI")) eqO)) (retT (tupT [(litT (.str "number")),(op2T (op2T (nameT 0) (litT (.int 3)) subO) (litT (.int 4294967296)) modI)])) skipT)
  (seqT (ifT (tstT (op2T (nameT 3) (litT (.str "MOVH")) eqO)) botT skipT)
  (seqT (asgT 4 (fnT [(nameT 0)] (callO 0 R_base_name)))
  (seqT (ifT (tstT (op2T (nameT 4) (litT (.str "")) eqO)) botT skipT)
  (seqT (asgT 5 (tupT [(litT (.str "number")),(op2T (op2T (nameT 0) (litT (.int 3)) subO) (litT (.int 4294967296)) modI)]))
  (seqT (ifT (tstT (op2T (nameT 4) (nameT 3) eqO)) botT skipT)
  (retT (fnT [(nameT 4),(op2T (nameT 1) (op2T (nameT 0) (litT (.int 2)) subO) subO),(nameT 5)] (callO 0 R_operated))))))))))))
theorem walk_result_value {G:Gl} {F:Frag} {fI:Addr} {fdI:FuncData} (P:PG G F fI fdI) {lv:Nat} {R_base_name R_operated:FnR} (h_base_name:HasF G lv "base_name" 1 0 R_base_name) (h_operated:HasF G lv "operated" 3 0 R_operated):WSs G ⟨lv,scopeAt 41,S_result_value,true⟩ (bodyAt 41) (T_result_value R_base_name R_operated):=walked P [fr "base_name" 1 0 R_base_name,fr "operated" 3 0 R_operated] ⟨.fn h_base_name,.fn h_operated,trivial⟩ (by kernel_rfl)
noncomputable def S_frame_place:List Str:=["row", "regs", "base"]
theorem sh_frame_place:Shape (scopeAt 42) ["row", "regs"] S_frame_place:=Shape.by rfl rfl rfl (by decide) (by decide) (by decide +kernel)
noncomputable def T_frame_place:Tr Fl:=(seqT (asgT 2 (op2T (nameT 1) (op2T (nameT 0) (litT (.int 2)) subO) subO))
  (seqT (ifT (tstT (op2T (op2T (nameT 2) (litT (.int 0)) subO) (litT (.str "frame")) neO)) (retT (litT .none)) skipT)
  (retT (op2T (op2T (nameT 2) (litT (.int 1)) subO) (op2T (nameT 0) (litT (.int 3)) subO) addI))))
theorem walk_frame_place {G:Gl} {F:Frag} {fI:Addr} {fdI:FuncData} (P:PG G F fI fdI) {lv:Nat}:WSs G ⟨lv,scopeAt 42,S_frame_place,true⟩ (bodyAt 42) (T_frame_place):=walked P [] trivial (by kernel_rfl)
noncomputable def S_stored_words:List Str:=["row", "regs", "words", "place", "width", "kept", "other"]
theorem sh_stored_words:Shape (scopeAt 43) ["row", "regs", "words"] S_stored_words:=Shape.by rfl rfl rfl (by decide) (by decide) (by decide +kernel)
noncomputable def T_stored_words (R_frame_place:FnR):Tr Fl:=(seqT (asgT 3 (fnT [(nameT 0),(nameT 1)] (callO 0 R_frame_place)))
  (seqT (ifT (tstT (op2T (nameT 3) (litT .none) isO)) (retT (nameT 2)) skipT)
  (seqT (asgT 4 (ifT (tstT (op2T (op2T (nameT 0) (litT (.int 0)) subO) (litT (.str "STR")) eqO)) (litT (.int 4)) (litT (.int 1))))
  (seqT (asgT 5 (nilD false))
  (seqT (forT (nameT 2) (.one 6) (ifT (orT [(tstT (op2T (op2T (nameT 6) (litT (.int 4)) addI) (nameT 3) (icO fun a b=>decide (a≤b)))),(tstT (op2T (op2T (nameT 3) (nameT 4) addI) (nameT 6) (icO fun a b=>decide (a≤b))))]) (setT (op2T (nameT 2) (nameT 6) subO) (nameT 5) (nameT 6)) skipT))
  (seqT (ifT (tstT (op2T (op2T (nameT 0) (litT (.int 0)) subO) (litT (.str "STR")) eqO)) (setT (op2T (nameT 1) (op2T (nameT 0) (litT (.int 1)) subO) subO) (nameT 5) (nameT 3)) skipT)
  (retT (nameT 5))))))))
theorem walk_stored_words {G:Gl} {F:Frag} {fI:Addr} {fdI:FuncData} (P:PG G F fI fdI) {lv:Nat} {R_frame_place:FnR} (h_frame_place:HasF G lv "frame_place" 2 0 R_frame_place):WSs G ⟨lv,scopeAt 43,S_stored_words,true⟩ (bodyAt 43) (T_stored_words R_frame_place):=walked P [fr "frame_place" 2 0 R_frame_place] ⟨.fn h_frame_place,trivial⟩ (by kernel_rfl)
noncomputable def S_control_words:List Str:=["words", "kept", "place"]
theorem sh_control_words:Shape (scopeAt 44) ["words"] S_control_words:=Shape.by rfl rfl rfl (by decide) (by decide) (by decide +kernel)
noncomputable def T_control_words:Tr Fl:=(seqT (asgT 1 (nilD false))
  (seqT (forT (nameT 0) (.one 2) (ifT (tstT (op2T (nameT 2) (negT (litT (.int 8))) (icO fun a b=>decide (b≤a)))) (setT (op2T (nameT 0) (nameT 2) subO) (nameT 1) (nameT 2)) skipT))
  (retT (nameT 1))))
theorem walk_control_words {G:Gl} {F:Frag} {fI:Addr} {fdI:FuncData} (P:PG G F fI fdI) {lv:Nat}:WSs G ⟨lv,scopeAt 44,S_control_words,true⟩ (bodyAt 44) (T_control_words):=walked P [] trivial (by kernel_rfl)
noncomputable def S_called_state:List Str:=["regs", "words", "behind", "number", "kept"]
theorem sh_called_state:Shape (scopeAt 45) ["regs", "words"] S_called_state:=Shape.by rfl rfl rfl (by decide) (by decide) (by decide +kernel)
noncomputable def T_called_state (R_control_words:FnR):Tr Fl:=(seqT (asgT 2 (op2T (listT false [(litT (.tuple [.str "any"]))]) (litT (.int 16)) (mulL true)))
  (seqT (forT (tupT [(litT (.int 11)),(litT (.int 13)),(litT (.int 14))]) (.one 3) (setT (op2T (nameT 0) (nameT 3) subO) (nameT 2) (nameT 3)))
  (seqT (asgT 4 (nilD false))
  (seqT (ifT (tstT (op2T (op2T (op2T (nameT 0) (litT (.int 14)) subO) (litT (.int 0)) subO) (litT (.str "frame")) eqO)) (asgT 4 (fnT [(nameT 1)] (callO 0 R_control_words))) skipT)
  (retT (tupT [(fnT [(nameT 2)] tupO),(nameT 4)]))))))
theorem walk_called_state {G:Gl} {F:Frag} {fI:Addr} {fdI:FuncData} (P:PG G F fI fdI) {lv:Nat} {R_control_words:FnR} (h_control_words:HasF G lv "control_words" 1 0 R_control_words):WSs G ⟨lv,scopeAt 45,S_called_state,true⟩ (bodyAt 45) (T_called_state R_control_words):=walked P [fr "control_words" 1 0 R_control_words] ⟨.fn h_control_words,trivial⟩ (by kernel_rfl)
noncomputable def S_is_call:List Str:=["row"]
theorem sh_is_call:Shape (scopeAt 46) ["row"] S_is_call:=Shape.by rfl rfl rfl (by decide) (by decide) (by decide +kernel)
noncomputable def T_is_call:Tr Fl:=(retT (or2T (op2T (op2T (nameT 0) (litT (.int 0)) subO) (litT (.str "BL")) eqO) (op2T (op2T (nameT 0) (litT (.int 0)) subO) (litT (.str "BLR")) eqO)))
theorem walk_is_call {G:Gl} {F:Frag} {fI:Addr} {fdI:FuncData} (P:PG G F fI fdI) {lv:Nat}:WSs G ⟨lv,scopeAt 46,S_is_call,true⟩ (bodyAt 46) (T_is_call):=walked P [] trivial (by kernel_rfl)
noncomputable def S_may_collect:List Str:=["row"]
theorem sh_may_collect:Shape (scopeAt 47) ["row"] S_may_collect:=Shape.by rfl rfl rfl (by decide) (by decide) (by decide +kernel)
noncomputable def T_may_collect (R_is_call:FnR):Tr Fl:=(retT (or2T (fnT [(nameT 0)] (callO 0 R_is_call)) (and3T (op2T (op2T (nameT 0) (litT (.int 0)) subO) (litT (.str "TRAP")) eqO) (op2T (op2T (nameT 0) (litT (.int 2)) subO) (litT (.int 0)) eqO) (op2T (op2T (nameT 0) (litT (.int 3)) subO) (litT (.int 1)) eqO))))
theorem walk_may_collect {G:Gl} {F:Frag} {fI:Addr} {fdI:FuncData} (P:PG G F fI fdI) {lv:Nat} {R_is_call:FnR} (h_is_call:HasF G lv "is_call" 1 0 R_is_call):WSs G ⟨lv,scopeAt 47,S_may_collect,true⟩ (bodyAt 47) (T_may_collect R_is_call):=walked P [fr "is_call" 1 0 R_is_call] ⟨.fn h_is_call,trivial⟩ (by kernel_rfl)
noncomputable def S_state_behind:List Str:=["row", "state", "is_fixed", "regs", "words", "name", "value", "place", "changed"]
theorem sh_state_behind:Shape (scopeAt 48) ["row", "state", "is_fixed"] S_state_behind:=Shape.by rfl rfl rfl (by decide) (by decide) (by decide +kernel)
noncomputable def T_state_behind (R_is_call R_called_state R_stored_words R_is_load R_frame_place R_result_value:FnR):Tr Fl:=(seqT (unpT [3,4] (nameT 1))
  (seqT (asgT 5 (op2T (nameT 0) (litT (.int 0)) subO))
  (seqT (ifT (tstT (fnT [(nameT 0)] (callO 0 R_is_call))) (retT (fnT [(nameT 3),(nameT 4)] (callO 0 R_called_state))) skipT)
  (seqT (ifT (tstT (op2T (nameT 5) (litT (.str "TRAP")) eqO)) botT skipT)
  (seqT (ifT (orT [(tstT (op2T (nameT 5) (litT (.str "B")) eqO)),(tstT (op2T (nameT 5) (litT (.str "BR")) eqO))]) (retT (nameT 1)) skipT)
  (seqT (ifT (orT [(tstT (op2T (nameT 5) (litT (.str "STR")) eqO)),(tstT (op2T (nameT 5) (litT (.str "STB")) eqO))]) (retT (tupT [(nameT 3),(ifT (tstT (nameT 2)) (nameT 4) (fnT [(nameT 0),(nameT 3),(nameT 4)] (callO 0 R_stored_words)))])) skipT)
  (seqT (asgT 6 (litT (.tuple [.str "any"])))
  (seqT (ifT (tstT (fnT [(nameT 0)] (callO 0 R_is_load))) (seqT (asgT 7 (fnT [(nameT 0),(nameT 3)] (callO 0 R_frame_place)))
  (ifT (andT [(tstT (op2T (nameT 5) (litT (.str "LDR")) eqO)),(notT (tstT (nameT 2))),(tstT (op2T (nameT 7) (litT .none) isnO))]) (asgT 6 (dmT (nameT 4) [(nameT 7),(litT (.tuple [.str "any"]))] get2)) skipT)) (asgT 6 (fnT [(nameT 0),(nameT 3),(nameT 2)] (callO 0 R_result_value))))
  (seqT (asgT 8 (fnT [(nameT 3)] (listO true)))
  (seqT (setT (nameT 6) (nameT 8) (op2T (nameT 0) (litT (.int 1)) subO))
  (retT (tupT [(fnT [(nameT 8)] tupO),(nameT 4)]))))))))))))
theorem walk_state_behind {G:Gl} {F:Frag} {fI:Addr} {fdI:FuncData} (P:PG G F fI fdI) {lv:Nat} {R_is_call R_called_state R_stored_words R_is_load R_frame_place R_result_value:FnR} (h_is_call:HasF G lv "is_call" 1 0 R_is_call) (h_called_state:HasF G lv "called_state" 2 0 R_called_state) (h_stored_words:HasF G lv "stored_words" 3 0 R_stored_words) (h_is_load:HasF G lv "is_load" 1 0 R_is_load) (h_frame_place:HasF G lv "frame_place" 2 0 R_frame_place) (h_result_value:HasF G lv "result_value" 3 0 R_result_value):WSs G ⟨lv,scopeAt 48,S_state_behind,true⟩ (bodyAt 48) (T_state_behind R_is_call R_called_state R_stored_words R_is_load R_frame_place R_result_value):=walked P [fr "is_call" 1 0 R_is_call,fr "called_state" 2 0 R_called_state,fr "stored_words" 3 0 R_stored_words,fr "is_load" 1 0 R_is_load,fr "frame_place" 2 0 R_frame_place,fr "result_value" 3 0 R_result_value] ⟨.fn h_is_call,.fn h_called_state,.fn h_stored_words,.fn h_is_load,.fn h_frame_place,.fn h_result_value,trivial⟩ (by kernel_rfl)
noncomputable def S_states_of:List Str:=["rows", "start", "fixed", "states", "work", "place", "behind", "target", "new"]
theorem sh_states_of:Shape (scopeAt 49) ["rows", "start", "fixed"] S_states_of:=Shape.by rfl rfl rfl (by decide) (by decide) (by decide +kernel)
noncomputable def T_states_of (R_first_state R_state_behind R_successors R_joined:FnR):Tr Fl:=(seqT (asgT 3 (dict1T (nameT 1) (fnT [] (callO 0 R_first_state))))
  (seqT (asgT 4 (listT true [(nameT 1)]))
  (seqT (whileT (tstT (op2T (fnT [(nameT 4)] lenO) (litT (.int 0)) (icO fun a b=>decide (b<a)))) (seqT (asgT 5 (lmT (nameT 4) [] popS))
  (seqT (asgT 6 (fnT [(op2T (nameT 0) (nameT 5) subO),(op2T (nameT 3) (nameT 5) subO),(op2T (nameT 5) (nameT 2) inO)] (callO 0 R_state_behind)))
  (forT (fnT [(nameT 0),(nameT 5)] (callO 0 R_successors)) (.one 7) (seqT (asgT 8 (nameT 6))
  (seqT (ifT (tstT (op2T (nameT 7) (nameT 3) inO)) (asgT 8 (fnT [(op2T (nameT 3) (nameT 7) subO),(nameT 6)] (callO 0 R_joined))) skipT)
  (ifT (orT [(tstT (op2T (nameT 7) (nameT 3) niO)),(tstT (op2T (nameT 8) (op2T (nameT 3) (nameT 7) subO) neS))]) (seqT (setT (nameT 8) (nameT 3) (nameT 7))
  (exprT (lmT (nameT 4) [(nameT 7)] appS))) skipT)))))))
  (retT (nameT 3)))))
theorem walk_states_of {G:Gl} {F:Frag} {fI:Addr} {fdI:FuncData} (P:PG G F fI fdI) {lv:Nat} {R_first_state R_state_behind R_successors R_joined:FnR} (h_first_state:HasF G lv "first_state" 0 0 R_first_state) (h_state_behind:HasF G lv "state_behind" 3 0 R_state_behind) (h_successors:HasF G lv "successors" 2 0 R_successors) (h_joined:HasF G lv "joined" 2 0 R_joined):WSs G ⟨lv,scopeAt 49,S_states_of,true⟩ (bodyAt 49) (T_states_of R_first_state R_state_behind R_successors R_joined):=walked P [fr "first_state" 0 0 R_first_state,fr "state_behind" 3 0 R_state_behind,fr "successors" 2 0 R_successors,fr "joined" 2 0 R_joined] ⟨.fn h_first_state,.fn h_state_behind,.fn h_successors,.fn h_joined,trivial⟩ (by kernel_rfl)
noncomputable def S_procedure_starts:List Str:=["o", "found", "row", "away", "kind", "module", "entry", "place"]
theorem sh_procedure_starts:Shape (scopeAt 50) ["o"] S_procedure_starts:=Shape.by rfl rfl rfl (by decide) (by decide) (by decide +kernel)
noncomputable def T_procedure_starts (R_object_starts R_is_table:FnR):Tr Fl:=(seqT (asgT 1 (nilD false))
  (seqT (forT (fnT [(nameT 0)] (callO 0 R_object_starts)) (.one 2) (setT (litT (.bool true)) (nameT 1) (nameT 2)))
  (seqT (asgT 3 (nilD false))
  (seqT (forT (getT (nameT 0) "fixups") (.many [2,4,5,6]) (ifT (tstT (op2T (nameT 4) (litT (.str "call")) eqO)) (setT (litT (.bool true)) (nameT 3) (nameT 2)) skipT))
  (seqT (forT (fnT [(fnT [(getT (nameT 0) "rows")] lenO)] rngO) (.one 7) (seqT (asgT 2 (op2T (getT (nameT 0) "rows") (nameT 7) subO))
  (ifT (andT [(tstT (op2T (op2T (nameT 2) (litT (.int 0)) subO) (litT (.str "BL")) eqO)),(tstT (op2T (nameT 7) (nameT 3) niO))]) botT skipT)))
  (retT (lcT false (fnT [(nameT 1)] (srtO false)) (andT [(chainT (litT (.int 0)) (nameT 0) (fnT [(getT (nameT 1) "rows")] lenO) (icO fun a b=>decide (a≤b)) (icO fun a b=>decide (a<b))),(notT (tstT (fnT [(getT (nameT 1) "rows"),(nameT 0)] (callO 0 R_is_table))))]) (nameT 0) [("o",0)])))))))
theorem walk_procedure_starts {G:Gl} {F:Frag} {fI:Addr} {fdI:FuncData} (P:PG G F fI fdI) {lv:Nat} {R_object_starts R_is_table:FnR} (h_object_starts:HasF G lv "object_starts" 1 0 R_object_starts) (h_is_table:HasF G lv "is_table" 2 0 R_is_table):WSs G ⟨lv,scopeAt 50,S_procedure_starts,true⟩ (bodyAt 50) (T_procedure_starts R_object_starts R_is_table):=walked P [fr "object_starts" 1 0 R_object_starts,fr "is_table" 2 0 R_is_table] ⟨.fn h_object_starts,.fn h_is_table,trivial⟩ (by kernel_rfl)
noncomputable def S_is_table:List Str:=["rows", "place"]
theorem sh_is_table:Shape (scopeAt 51) ["rows", "place"] S_is_table:=Shape.by rfl rfl rfl (by decide) (by decide) (by decide +kernel)
noncomputable def T_is_table:Tr Fl:=(retT (op2T (op2T (op2T (nameT 0) (nameT 1) subO) (litT (.int 0)) subO) (litT (.str "B")) eqO))
theorem walk_is_table {G:Gl} {F:Frag} {fI:Addr} {fdI:FuncData} (P:PG G F fI fdI) {lv:Nat}:WSs G ⟨lv,scopeAt 51,S_is_table,true⟩ (bodyAt 51) (T_is_table):=walked P [] trivial (by kernel_rfl)
noncomputable def S_return_faults:List Str:=["place", "regs", "faults"]
theorem sh_return_faults:Shape (scopeAt 52) ["place", "regs"] S_return_faults:=Shape.by rfl rfl rfl (by decide) (by decide) (by decide +kernel)
noncomputable def T_return_faults:Tr Fl:=(seqT (asgT 2 (listT true []))
  (seqT (ifT (tstT (op2T (op2T (nameT 1) (litT (.int 14)) subO) (tupT [(litT (.str "frame")),(litT (.int 0))]) neO)) (exprT (lmT (nameT 2) [(tupT [(nameT 0),(litT (.str "stack_pointer"))])] appS)) skipT)
  (seqT (ifT (tstT (op2T (op2T (nameT 1) (litT (.int 11)) subO) (tupT [(litT (.str "entry")),(litT (.int 11))]) neO)) (exprT (lmT (nameT 2) [(tupT [(nameT 0),(litT (.str "frame_pointer"))])] appS)) skipT)
  (seqT (ifT (tstT (op2T (op2T (nameT 1) (litT (.int 15)) subO) (tupT [(litT (.str "entry")),(litT (.int 15))]) neO)) (exprT (lmT (nameT 2) [(tupT [(nameT 0),(litT (.str "link"))])] appS)) skipT)
  (retT (nameT 2))))))
theorem walk_return_faults {G:Gl} {F:Frag} {fI:Addr} {fdI:FuncData} (P:PG G F fI fdI) {lv:Nat}:WSs G ⟨lv,scopeAt 52,S_return_faults,true⟩ (bodyAt 52) (T_return_faults):=walked P [] trivial (by kernel_rfl)
noncomputable def S_call_faults:List Str:=["place", "regs", "faults", "stack"]
theorem sh_call_faults:Shape (scopeAt 53) ["place", "regs"] S_call_faults:=Shape.by rfl rfl rfl (by decide) (by decide) (by decide +kernel)
noncomputable def T_call_faults:Tr Fl:=(seqT (asgT 2 (listT true []))
  (seqT (ifT (tstT (op2T (op2T (nameT 1) (litT (.int 11)) subO) (tupT [(litT (.str "frame")),(litT (.int 0))]) neO)) (exprT (lmT (nameT 2) [(tupT [(nameT 0),(litT (.str "frame_pointer"))])] appS)) skipT)
  (seqT (asgT 3 (op2T (nameT 1) (litT (.int 14)) subO))
  (seqT (ifT (orT [(tstT (op2T (op2T (nameT 3) (litT (.int 0)) subO) (litT (.str "frame")) neO)),(tstT (op2T (op2T (nameT 3) (litT (.int 1)) subO) (negT (litT (.int 8))) (icO fun a b=>decide (b<a)))),(tstT (op2T (op2T (op2T (nameT 3) (litT (.int 1)) subO) (litT (.int 4)) modI) (litT (.int 0)) neO))]) (exprT (lmT (nameT 2) [(tupT [(nameT 0),(litT (.str "stack_pointer"))])] appS)) skipT)
  (retT (nameT 2))))))
theorem walk_call_faults {G:Gl} {F:Frag} {fI:Addr} {fdI:FuncData} (P:PG G F fI fdI) {lv:Nat}:WSs G ⟨lv,scopeAt 53,S_call_faults,true⟩ (bodyAt 53) (T_call_faults):=walked P [] trivial (by kernel_rfl)
noncomputable def S_fixed_rows:List Str:=["o", "found", "row", "kind", "module", "entry"]
theorem sh_fixed_rows:Shape (scopeAt 54) ["o"] S_fixed_rows:=Shape.by rfl rfl rfl (by decide) (by decide) (by decide +kernel)
noncomputable def T_fixed_rows:Tr Fl:=(seqT (asgT 1 (nilD false))
  (seqT (forT (getT (nameT 0) "fixups") (.many [2,3,4,5]) (setT (litT (.bool true)) (nameT 1) (nameT 2)))
  (retT (nameT 1))))
theorem walk_fixed_rows {G:Gl} {F:Frag} {fI:Addr} {fdI:FuncData} (P:PG G F fI fdI) {lv:Nat}:WSs G ⟨lv,scopeAt 54,S_fixed_rows,true⟩ (bodyAt 54) (T_fixed_rows):=walked P [] trivial (by kernel_rfl)
noncomputable def S_frame_faults:List Str:=["o", "fixed", "found", "start", "states", "place", "row", "regs", "faults", "fault"]
theorem sh_frame_faults:Shape (scopeAt 55) ["o"] S_frame_faults:=Shape.by rfl rfl rfl (by decide) (by decide) (by decide +kernel)
noncomputable def T_frame_faults (R_fixed_rows R_procedure_starts R_states_of R_return_faults R_is_call R_call_faults:FnR):Tr Fl:=(seqT (asgT 1 (fnT [(nameT 0)] (callO 0 R_fixed_rows)))
  (seqT (asgT 2 (nilD true))
  (seqT (forT (fnT [(nameT 0)] (callO 0 R_procedure_starts)) (.one 3) (seqT (asgT 4 (fnT [(getT (nameT 0) "rows"),(nameT 3),(nameT 1)] (callO 0 R_states_of)))
  (forT (nameT 4) (.one 5) (seqT (asgT 6 (op2T (getT (nameT 0) "rows") (nameT 5) subO))
  (seqT (asgT 7 (op2T (op2T (nameT 4) (nameT 5) subO) (litT (.int 0)) subO))
  (seqT (asgT 8 (listT false []))
  (seqT (ifT (andT [(tstT (op2T (op2T (nameT 6) (litT (.int 0)) subO) (litT (.str "BR")) eqO)),(tstT (op2T (op2T (nameT 6) (litT (.int 2)) subO) (litT (.int 15)) eqO))]) (asgT 8 (fnT [(nameT 5),(nameT 7)] (callO 0 R_return_faults))) (ifT (tstT (fnT [(nameT 6)] (callO 0 R_is_call))) (asgT 8 (fnT [(nameT 5),(nameT 7)] (callO 0 R_call_faults))) skipT))
  (forT (nameT 8) (.one 9) (setT (litT (.bool true)) (nameT 2) (nameT 9))))))))))
  (retT (fnT [(nameT 2)] (srtO false))))))
theorem walk_frame_faults {G:Gl} {F:Frag} {fI:Addr} {fdI:FuncData} (P:PG G F fI fdI) {lv:Nat} {R_fixed_rows R_procedure_starts R_states_of R_return_faults R_is_call R_call_faults:FnR} (h_fixed_rows:HasF G lv "fixed_rows" 1 0 R_fixed_rows) (h_procedure_starts:HasF G lv "procedure_starts" 1 0 R_procedure_starts) (h_states_of:HasF G lv "states_of" 3 0 R_states_of) (h_return_faults:HasF G lv "return_faults" 2 0 R_return_faults) (h_is_call:HasF G lv "is_call" 1 0 R_is_call) (h_call_faults:HasF G lv "call_faults" 2 0 R_call_faults):WSs G ⟨lv,scopeAt 55,S_frame_faults,true⟩ (bodyAt 55) (T_frame_faults R_fixed_rows R_procedure_starts R_states_of R_return_faults R_is_call R_call_faults):=walked P [fr "fixed_rows" 1 0 R_fixed_rows,fr "procedure_starts" 1 0 R_procedure_starts,fr "states_of" 3 0 R_states_of,fr "return_faults" 2 0 R_return_faults,fr "is_call" 1 0 R_is_call,fr "call_faults" 2 0 R_call_faults] ⟨.fn h_fixed_rows,.fn h_procedure_starts,.fn h_states_of,.fn h_return_faults,.fn h_is_call,.fn h_call_faults,trivial⟩ (by kernel_rfl)
noncomputable def S_map_faults:List Str:=["o", "fixed", "found", "start", "states", "place", "stack", "offset", "below"]
theorem sh_map_faults:Shape (scopeAt 56) ["o"] S_map_faults:=Shape.by rfl rfl rfl (by decide) (by decide) (by decide +kernel)
noncomputable def T_map_faults (R_fixed_rows R_procedure_starts R_states_of R_may_collect:FnR):Tr Fl:=(seqT (asgT 1 (fnT [(nameT 0)] (callO 0 R_fixed_rows)))
  (seqT (asgT 2 (nilD true))
  (seqT (forT (fnT [(nameT 0)] (callO 0 R_procedure_starts)) (.one 3) (seqT (asgT 4 (fnT [(getT (nameT 0) "rows"),(nameT 3),(nameT 1)] (callO 0 R_states_of)))
  (forT (nameT 4) (.one 5) (seqT (ifT (orT [(tstT (op2T (op2T (nameT 5) (litT (.int 1)) addI) (getT (nameT 0) "maps") niO)),(notT (tstT (fnT [(op2T (getT (nameT 0) "rows") (nameT 5) subO)] (callO 0 R_may_collect))))]) contT skipT)
  (seqT (asgT 6 (op2T (op2T (op2T (nameT 4) (nameT 5) subO) (litT (.int 0)) subO) (litT (.int 14)) subO))
  (forT (op2T (getT (nameT 0) "maps") (op2T (nameT 5) (litT (.int 1)) addI) subO) (.one 7) (seqT (asgT 8 (and2T (op2T (op2T (nameT 6) (litT (.int 0)) subO) (litT (.str "frame")) eqO) (op2T (nameT 7) (op2T (nameT 6) (litT (.int 1)) subO) (icO fun a b=>decide (a<b)))))
  (ifT (orT [(tstT (nameT 8)),(tstT (op2T (nameT 7) (tupT [(negT (litT (.int 4))),(negT (litT (.int 8)))]) inO)),(tstT (op2T (op2T (nameT 7) (litT (.int 4)) modI) (litT (.int 0)) neO))]) (setT (litT (.bool true)) (nameT 2) (tupT [(op2T (nameT 5) (litT (.int 1)) addI),(nameT 7)])) skipT))))))))
  (retT (fnT [(nameT 2)] (srtO false))))))
theorem walk_map_faults {G:Gl} {F:Frag} {fI:Addr} {fdI:FuncData} (P:PG G F fI fdI) {lv:Nat} {R_fixed_rows R_procedure_starts R_states_of R_may_collect:FnR} (h_fixed_rows:HasF G lv "fixed_rows" 1 0 R_fixed_rows) (h_procedure_starts:HasF G lv "procedure_starts" 1 0 R_procedure_starts) (h_states_of:HasF G lv "states_of" 3 0 R_states_of) (h_may_collect:HasF G lv "may_collect" 1 0 R_may_collect):WSs G ⟨lv,scopeAt 56,S_map_faults,true⟩ (bodyAt 56) (T_map_faults R_fixed_rows R_procedure_starts R_states_of R_may_collect):=walked P [fr "fixed_rows" 1 0 R_fixed_rows,fr "procedure_starts" 1 0 R_procedure_starts,fr "states_of" 3 0 R_states_of,fr "may_collect" 1 0 R_may_collect] ⟨.fn h_fixed_rows,.fn h_procedure_starts,.fn h_states_of,.fn h_may_collect,trivial⟩ (by kernel_rfl)
noncomputable def S__law_figures:List Str:=["script", "row", "cell", "rest", "lap"]
theorem sh__law_figures:Shape (scopeAt 60) ["script"] S__law_figures:=Shape.by rfl rfl rfl (by decide) (by decide) (by decide +kernel)
noncomputable def T__law_figures:Tr Fl:=(seqT (asgT 1 (listT true []))
  (seqT (forT (op2T (nameT 0) (litT (.int 40)) (slTo false)) (.one 2) (seqT (asgT 3 (op2T (op2T (fnT [(nameT 2)] absO) (litT (.int 2)) mulI) (ifT (tstT (op2T (nameT 2) (litT (.int 0)) (icO fun a b=>decide (a<b)))) (litT (.int 1)) (litT (.int 0))) addI))
  (forT (fnT [(litT (.int 40))] rngO) (.one 4) (ifT (orT [(tstT (op2T (nameT 4) (litT (.int 0)) eqO)),(tstT (op2T (nameT 3) (litT (.int 0)) (icO fun a b=>decide (b<a))))]) (seqT (exprT (lmT (nameT 1) [(op2T (nameT 3) (litT (.int 120)) modI)] appS))
  (asgT 3 (op2T (nameT 3) (litT (.int 120)) divI))) skipT))))
  (seqT (asgT 1 (op2T (nameT 1) (litT (.int 90)) (slTo true)))
  (seqT (exprT (lmT (nameT 1) [] revS))
  (retT (nameT 1))))))
theorem walk__law_figures {G:Gl} {F:Frag} {fI:Addr} {fdI:FuncData} (P:PG G F fI fdI) {lv:Nat}:WSs G ⟨lv,scopeAt 60,S__law_figures,true⟩ (bodyAt 60) (T__law_figures):=walked P [] trivial (by kernel_rfl)
noncomputable def S__law_draw:List Str:=["row", "most"]
theorem sh__law_draw:Shape (scopeAt 61) ["row", "most"] S__law_draw:=Shape.by rfl rfl rfl (by decide) (by decide) (by decide +kernel)
noncomputable def T__law_draw:Tr Fl:=(retT (ifT (tstT (op2T (nameT 0) (listT false []) neO)) (op2T (lmT (nameT 0) [] popS) (nameT 1) modI) (litT (.int 0))))
theorem walk__law_draw {G:Gl} {F:Frag} {fI:Addr} {fdI:FuncData} (P:PG G F fI fdI) {lv:Nat}:WSs G ⟨lv,scopeAt 61,S__law_draw,true⟩ (bodyAt 61) (T__law_draw):=walked P [] trivial (by kernel_rfl)
noncomputable def S__law_body:List Str:=["row", "room", "steps", "lap", "kind", "many"]
theorem sh__law_body:Shape (scopeAt 62) ["row", "room"] S__law_body:=Shape.by rfl rfl rfl (by decide) (by decide) (by decide +kernel)
noncomputable def T__law_body (R__law_draw:FnR):Tr Fl:=(seqT (asgT 2 (listT true []))
  (seqT (forT (fnT [(fnT [(nameT 0),(litT (.int 9))] (callO 1 R__law_draw))] rngO) (.one 3) (seqT (asgT 4 (fnT [(nameT 0),(litT (.int 7))] (callO 1 R__law_draw)))
  (ifT (tstT (op2T (nameT 4) (litT (.int 2)) (icO fun a b=>decide (a<b)))) (exprT (lmT (nameT 2) [(tupT [(litT (.str "BL")),(litT (.str "AL")),(litT (.int 0)),(litT (.int 0))])] appS)) (ifT (tstT (op2T (nameT 4) (litT (.int 2)) eqO)) (exprT (lmT (nameT 2) [(tupT [(litT (.str "STR")),(fnT [(nameT 0),(litT (.int 4))] (callO 1 R__law_draw)),(litT (.int 11)),(op2T (negT (litT (.int 12))) (op2T (litT (.int 4)) (fnT [(nameT 0),(litT (.int 3))] (callO 1 R__law_draw)) mulI) subI)])] appS)) (ifT (tstT (op2T (nameT 4) (litT (.int 3)) eqO)) (exprT (lmT (nameT 2) [(tupT [(litT (.str "LDR")),(fnT [(nameT 0),(litT (.int 4))] (callO 1 R__law_draw)),(litT (.int 11)),(op2T (negT (litT (.int 12))) (op2T (litT (.int 4)) (fnT [(nameT 0),(litT (.int 3))] (callO 1 R__law_draw)) mulI) subI)])] appS)) (ifT (tstT (op2T (nameT 4) (litT (.int 4)) eqO)) (exprT (lmT (nameT 2) [(tupT [(litT (.str "B")),(litT (.str "EQ")),(litT (.int 0)),(litT (.int 1))])] appS)) (ifT (tstT (op2T (nameT 4) (litT (.int 5)) eqO)) (seqT (asgT 5 (op2T (litT (.int 4)) (op2T (litT (.int 1)) (fnT [(nameT 0),(litT (.int 3))] (callO 1 R__law_draw)) addI) mulI))
  (seqT (exprT (lmT (nameT 2) [(tupT [(litT (.str "SUBI")),(litT (.int 14)),(litT (.int 14)),(nameT 5)])] appS))
  (seqT (ifT (tstT (op2T (fnT [(nameT 0),(litT (.int 3))] (callO 1 R__law_draw)) (litT (.int 0)) (icO fun a b=>decide (b<a)))) (exprT (lmT (nameT 2) [(tupT [(litT (.str "BL")),(litT (.str "AL")),(litT (.int 0)),(litT (.int 0))])] appS)) skipT)
  (exprT (lmT (nameT 2) [(tupT [(litT (.str "ADDI")),(litT (.int 14)),(litT (.int 14)),(nameT 5)])] appS))))) (exprT (lmT (nameT 2) [(tupT [(litT (.str "MOVI")),(fnT [(nameT 0),(litT (.int 4))] (callO 1 R__law_draw)),(litT (.int 0)),(fnT [(nameT 0),(litT (.int 50))] (callO 1 R__law_draw))])] appS)))))))))
  (retT (nameT 2))))
theorem walk__law_body {G:Gl} {F:Frag} {fI:Addr} {fdI:FuncData} (P:PG G F fI fdI) {lv:Nat} {R__law_draw:FnR} (h__law_draw:HasF G lv "_law_draw" 2 1 R__law_draw):WSs G ⟨lv,scopeAt 62,S__law_body,true⟩ (bodyAt 62) (T__law_body R__law_draw):=walked P [fr "_law_draw" 2 1 R__law_draw] ⟨.fn h__law_draw,trivial⟩ (by kernel_rfl)
noncomputable def S__law_spoil:List Str:=["row", "steps", "way", "spot", "name", "first", "second", "last"]
theorem sh__law_spoil:Shape (scopeAt 63) ["row", "steps"] S__law_spoil:=Shape.by rfl rfl rfl (by decide) (by decide) (by decide +kernel)
noncomputable def T__law_spoil (R__law_draw:FnR):Tr Fl:=(seqT (asgT 2 (fnT [(nameT 0),(litT (.int 9))] (callO 1 R__law_draw)))
  (seqT (asgT 3 (fnT [(nameT 0),(fnT [(nameT 1)] lenO)] (callO 1 R__law_draw)))
  (ifT (tstT (op2T (nameT 2) (litT (.int 1)) eqO)) (exprT (lmT (nameT 1) [(nameT 3)] popS)) (ifT (tstT (op2T (nameT 2) (litT (.int 2)) eqO)) (exprT (lmT (nameT 1) [(nameT 3),(op2T (listT false [(tupT [(litT (.str "ADDI")),(litT (.int 14)),(litT (.int 14)),(litT (.int 4))]),(tupT [(litT (.str "MOV")),(litT (.int 11)),(litT (.int 0)),(litT (.int 14))]),(tupT [(litT (.str "MOVI")),(litT (.int 15)),(litT (.int 0)),(litT (.int 3))]),(tupT [(litT (.str "STR")),(litT (.int 2)),(litT (.int 11)),(negT (litT (.int 4)))])]) (fnT [(nameT 0),(litT (.int 4))] (callO 1 R__law_draw)) subO)] insS)) (ifT (tstT (op2T (nameT 2) (litT (.int 3)) eqO)) (seqT (unpT [4,5,6,7] (op2T (nameT 1) (nameT 3) subO))
  (ifT (tstT (op2T (nameT 4) (listT false [(litT (.str "SUBI")),(litT (.str "LDR")),(litT (.str "STR"))]) inO)) (setT (tupT [(nameT 4),(nameT 5),(nameT 6),(op2T (nameT 7) (op2T (listT false [(litT (.int 2)),(litT (.int 4)),(negT (litT (.int 4)))]) (fnT [(nameT 0),(litT (.int 3))] (callO 1 R__law_draw)) subO) addI)]) (nameT 1) (nameT 3)) skipT)) (ifT (tstT (op2T (nameT 2) (litT (.int 4)) eqO)) (seqT (unpT [4,5,6,7] (op2T (nameT 1) (nameT 3) subO))
  (ifT (tstT (op2T (nameT 4) (listT false [(litT (.str "LDR")),(litT (.str "STR")),(litT (.str "MOV"))]) inO)) (setT (tupT [(nameT 4),(op2T (listT false [(litT (.int 15)),(litT (.int 11)),(litT (.int 14)),(litT (.int 3))]) (fnT [(nameT 0),(litT (.int 4))] (callO 1 R__law_draw)) subO),(nameT 6),(nameT 7)]) (nameT 1) (nameT 3)) skipT)) skipT))))))
theorem walk__law_spoil {G:Gl} {F:Frag} {fI:Addr} {fdI:FuncData} (P:PG G F fI fdI) {lv:Nat} {R__law_draw:FnR} (h__law_draw:HasF G lv "_law_draw" 2 1 R__law_draw):WSs G ⟨lv,scopeAt 63,S__law_spoil,true⟩ (bodyAt 63) (T__law_spoil R__law_draw):=walked P [fr "_law_draw" 2 1 R__law_draw] ⟨.fn h__law_draw,trivial⟩ (by kernel_rfl)
noncomputable def S__law_procedure:List Str:=["row", "room", "steps", "end", "spot", "aim"]
theorem sh__law_procedure:Shape (scopeAt 64) ["row"] S__law_procedure:=Shape.by rfl rfl rfl (by decide) (by decide) (by decide +kernel)
noncomputable def T__law_procedure (R__law_draw R__law_body R__law_spoil:FnR):Tr Fl:=(seqT (asgT 1 (op2T (litT (.int 8)) (op2T (litT (.int 4)) (op2T (litT (.int 3)) (fnT [(nameT 0),(litT (.int 4))] (callO 1 R__law_draw)) addI) mulI) addI))
  (seqT (asgT 2 (listT false [(tupT [(litT (.str "STR")),(litT (.int 15)),(litT (.int 14)),(negT (litT (.int 4)))]),(tupT [(litT (.str "STR")),(litT (.int 11)),(litT (.int 14)),(negT (litT (.int 8)))]),(tupT [(litT (.str "MOV")),(litT (.int 11)),(litT (.int 0)),(litT (.int 14))]),(tupT [(litT (.str "SUBI")),(litT (.int 14)),(litT (.int 14)),(nameT 1)])]))
  (seqT (asgT 2 (op2T (nameT 2) (fnT [(nameT 0),(nameT 1)] (callO 1 R__law_body)) (addL false)))
  (seqT (asgT 2 (op2T (nameT 2) (listT false [(tupT [(litT (.str "MOV")),(litT (.int 14)),(litT (.int 0)),(litT (.int 11))]),(tupT [(litT (.str "LDR")),(litT (.int 15)),(litT (.int 14)),(negT (litT (.int 4)))]),(tupT [(litT (.str "LDR")),(litT (.int 11)),(litT (.int 14)),(negT (litT (.int 8)))]),(tupT [(litT (.str "BR")),(litT (.str "AL")),(litT (.int 15)),(litT (.int 0))])]) (addL true)))
  (seqT (exprT (fnT [(nameT 0),(nameT 2)] (callO 2 R__law_spoil)))
  (seqT (ifT (tstT (op2T (op2T (nameT 2) (negT (litT (.int 1))) subO) (tupT [(litT (.str "BR")),(litT (.str "AL")),(litT (.int 15)),(litT (.int 0))]) neO)) (exprT (lmT (nameT 2) [(tupT [(litT (.str "BR")),(litT (.str "AL")),(litT (.int 15)),(litT (.int 0))])] appS)) skipT)
  (seqT (asgT 3 (ifT (tstT (op2T (fnT [(nameT 2)] lenO) (litT (.int 4)) (icO fun a b=>decide (b<a)))) (op2T (fnT [(nameT 2)] lenO) (litT (.int 4)) subI) (op2T (fnT [(nameT 2)] lenO) (litT (.int 1)) subI)))
  (seqT (forT (fnT [(fnT [(nameT 2)] lenO)] rngO) (.one 4) (ifT (tstT (op2T (op2T (nameT 2) (nameT 4) subO) (tupT [(litT (.str "B")),(litT (.str "EQ")),(litT (.int 0)),(litT (.int 1))]) eqO)) (seqT (asgT 5 (ifT (tstT (op2T (nameT 3) (nameT 4) (icO fun a b=>decide (b<a)))) (nameT 3) (op2T (fnT [(nameT 2)] lenO) (litT (.int 1)) subI)))
  (setT (tupT [(litT (.str "B")),(litT (.str "EQ")),(op2T (op2T (nameT 5) (nameT 4) subI) (litT (.int 1)) subI),(litT (.int 0))]) (nameT 2) (nameT 4))) skipT))
  (retT (nameT 2))))))))))
theorem walk__law_procedure {G:Gl} {F:Frag} {fI:Addr} {fdI:FuncData} (P:PG G F fI fdI) {lv:Nat} {R__law_draw R__law_body R__law_spoil:FnR} (h__law_draw:HasF G lv "_law_draw" 2 1 R__law_draw) (h__law_body:HasF G lv "_law_body" 2 1 R__law_body) (h__law_spoil:HasF G lv "_law_spoil" 2 2 R__law_spoil):WSs G ⟨lv,scopeAt 64,S__law_procedure,true⟩ (bodyAt 64) (T__law_procedure R__law_draw R__law_body R__law_spoil):=walked P [fr "_law_draw" 2 1 R__law_draw,fr "_law_body" 2 1 R__law_body,fr "_law_spoil" 2 2 R__law_spoil] ⟨.fn h__law_draw,.fn h__law_body,.fn h__law_spoil,trivial⟩ (by kernel_rfl)
noncomputable def S__law_after:List Str:=["step", "state", "regs", "words", "name", "first", "second", "last", "spot", "many"]
theorem sh__law_after:Shape (scopeAt 65) ["step", "state"] S__law_after:=Shape.by rfl rfl rfl (by decide) (by decide) (by decide +kernel)
noncomputable def T__law_after:Tr Fl:=(seqT (asgT 2 (fnT [(op2T (nameT 1) (litT (.int 0)) subO)] (listO true)))
  (seqT (asgT 3 (fnT [(op2T (nameT 1) (litT (.int 1)) subO)] dictD))
  (seqT (unpT [4,5,6,7] (nameT 0))
  (seqT (ifT (tstT (op2T (nameT 4) (litT (.str "BL")) eqO)) (seqT (asgT 3 (dcT (nameT 3) (andT [(tstT (op2T (nameT 0) (negT (litT (.int 8))) (icO fun a b=>decide (b≤a)))),(tstT (op2T (op2T (op2T (nameT 2) (litT (.int 14)) subO) (litT (.int 0)) subO) (litT (.str "top")) eqO))]) (nameT 0) (op2T (nameT 1) (nameT 0) subO) [("words",3),("regs",2)]))
  (asgT 2 (lcT true (fnT [(litT (.int 16))] rngO) yesT (ifT (tstT (op2T (nameT 0) (listT false [(litT (.int 11)),(litT (.int 13)),(litT (.int 14))]) inO)) (op2T (nameT 1) (nameT 0) subO) (litT (.str "?"))) [("regs",2)]))) (ifT (tstT (op2T (nameT 4) (litT (.str "MOV")) eqO)) (setT (op2T (nameT 2) (nameT 7) subO) (nameT 2) (nameT 5)) (ifT (tstT (op2T (nameT 4) (listT false [(litT (.str "ADDI")),(litT (.str "SUBI"))]) inO)) (seqT (asgT 9 (ifT (tstT (op2T (nameT 4) (litT (.str "ADDI")) eqO)) (nameT 7) (negT (nameT 7))))
  (setT (ifT (tstT (op2T (op2T (op2T (nameT 2) (nameT 6) subO) (litT (.int 0)) subO) (litT (.str "top")) eqO)) (tupT [(litT (.str "top")),(op2T (op2T (op2T (nameT 2) (nameT 6) subO) (litT (.int 1)) subO) (nameT 9) addI)]) (litT (.str "?"))) (nameT 2) (nameT 5))) (ifT (tstT (op2T (nameT 4) (litT (.str "MOVI")) eqO)) (setT (tupT [(litT (.str "plain")),(nameT 7)]) (nameT 2) (nameT 5)) (ifT (tstT (op2T (nameT 4) (listT false [(litT (.str "LDR")),(litT (.str "STR"))]) inO)) (seqT (asgT 8 (ifT (tstT (op2T (op2T (op2T (nameT 2) (nameT 6) subO) (litT (.int 0)) subO) (litT (.str "top")) eqO)) (op2T (op2T (op2T (nameT 2) (nameT 6) subO) (litT (.int 1)) subO) (nameT 7) addI) (litT .none)))
  (ifT (tstT (op2T (nameT 4) (litT (.str "LDR")) eqO)) (setT (dmT (nameT 3) [(nameT 8),(litT (.str "?"))] get2) (nameT 2) (nameT 5)) (ifT (tstT (op2T (nameT 8) (litT .none) isnO)) (seqT (asgT 3 (dcT (nameT 3) (tstT (op2T (fnT [(op2T (nameT 0) (nameT 2) subI)] absO) (litT (.int 4)) (icO fun a b=>decide (b≤a)))) (nameT 0) (op2T (nameT 1) (nameT 0) subO) [("words",3),("spot",8)]))
  (setT (op2T (nameT 2) (nameT 5) subO) (nameT 3) (nameT 8))) skipT))) skipT)))))
  (retT (tupT [(nameT 2),(nameT 3)]))))))
theorem walk__law_after {G:Gl} {F:Frag} {fI:Addr} {fdI:FuncData} (P:PG G F fI fdI) {lv:Nat}:WSs G ⟨lv,scopeAt 65,S__law_after,true⟩ (bodyAt 65) (T__law_after):=walked P [] trivial (by kernel_rfl)
noncomputable def S__law_joined:List Str:=["one", "two", "regs"]
theorem sh__law_joined:Shape (scopeAt 66) ["one", "two"] S__law_joined:=Shape.by rfl rfl rfl (by decide) (by decide) (by decide +kernel)
noncomputable def T__law_joined:Tr Fl:=(seqT (asgT 2 (lcT false (fnT [(litT (.int 16))] rngO) yesT (ifT (tstT (op2T (op2T (op2T (nameT 1) (litT (.int 0)) subO) (nameT 0) subO) (op2T (op2T (nameT 2) (litT (.int 0)) subO) (nameT 0) subO) eqO)) (op2T (op2T (nameT 1) (litT (.int 0)) subO) (nameT 0) subO) (litT (.str "?"))) [("one",0),("two",1)]))
  (retT (tupT [(nameT 2),(dcT (op2T (nameT 0) (litT (.int 1)) subO) (tstT (op2T (dmT (op2T (nameT 2) (litT (.int 1)) subO) [(nameT 0)] get1) (op2T (op2T (nameT 1) (litT (.int 1)) subO) (nameT 0) subO) eqO)) (nameT 0) (op2T (op2T (nameT 1) (litT (.int 1)) subO) (nameT 0) subO) [("one",0),("two",1)])])))
theorem walk__law_joined {G:Gl} {F:Frag} {fI:Addr} {fdI:FuncData} (P:PG G F fI fdI) {lv:Nat}:WSs G ⟨lv,scopeAt 66,S__law_joined,true⟩ (bodyAt 66) (T__law_joined):=walked P [] trivial (by kernel_rfl)
noncomputable def S__law_states:List Str:=["steps", "start", "regs", "ahead", "spot", "step", "ways", "way", "behind"]
theorem sh__law_states:Shape (scopeAt 67) ["steps", "start"] S__law_states:=Shape.by rfl rfl rfl (by decide) (by decide) (by decide +kernel)
noncomputable def T__law_states (R__law_after R__law_joined:FnR):Tr Fl:=(seqT (asgT 2 (lcT true (fnT [(litT (.int 16))] rngO) yesT (tupT [(litT (.str "own")),(nameT 0)]) []))
  (seqT (setT (tupT [(litT (.str "top")),(litT (.int 0))]) (nameT 2) (litT (.int 14)))
  (seqT (setT (tupT [(litT (.str "plain")),(litT (.int 0))]) (nameT 2) (litT (.int 13)))
  (seqT (asgT 3 (dict1T (nameT 1) (tupT [(nameT 2),(nilD false)])))
  (seqT (asgT 4 (nameT 1))
  (seqT (whileT (tstT (op2T (nameT 4) (fnT [(nameT 0)] lenO) (icO fun a b=>decide (a<b)))) (seqT (ifT (tstT (op2T (nameT 4) (nameT 3) inO)) (seqT (asgT 5 (op2T (nameT 0) (nameT 4) subO))
  (seqT (asgT 6 (ifT (tstT (op2T (op2T (nameT 5) (litT (.int 0)) subO) (litT (.str "BR")) eqO)) (listT true []) (listT true [(op2T (nameT 4) (litT (.int 1)) addI)])))
  (seqT (ifT (tstT (op2T (op2T (nameT 5) (litT (.int 0)) subO) (litT (.str "B")) eqO)) (exprT (lmT (nameT 6) [(op2T (op2T (nameT 4) (litT (.int 1)) addI) (op2T (nameT 5) (litT (.int 2)) subO) addI)] appS)) skipT)
  (forT (nameT 6) (.one 7) (seqT (asgT 8 (fnT [(nameT 5),(op2T (nameT 3) (nameT 4) subO)] (callO 0 R__law_after)))
  (setT (ifT (tstT (op2T (nameT 7) (nameT 3) inO)) (fnT [(op2T (nameT 3) (nameT 7) subO),(nameT 8)] (callO 0 R__law_joined)) (nameT 8)) (nameT 3) (nameT 7))))))) skipT)
  (augT 4 (litT (.int 1)))))
  (retT (nameT 3))))))))
theorem walk__law_states {G:Gl} {F:Frag} {fI:Addr} {fdI:FuncData} (P:PG G F fI fdI) {lv:Nat} {R__law_after R__law_joined:FnR} (h__law_after:HasF G lv "_law_after" 2 0 R__law_after) (h__law_joined:HasF G lv "_law_joined" 2 0 R__law_joined):WSs G ⟨lv,scopeAt 67,S__law_states,true⟩ (bodyAt 67) (T__law_states R__law_after R__law_joined):=walked P [fr "_law_after" 2 0 R__law_after,fr "_law_joined" 2 0 R__law_joined] ⟨.fn h__law_after,.fn h__law_joined,trivial⟩ (by kernel_rfl)
noncomputable def S__law_told:List Str:=["step", "state", "at", "regs", "due"]
theorem sh__law_told:Shape (scopeAt 68) ["step", "state", "at"] S__law_told:=Shape.by rfl rfl rfl (by decide) (by decide) (by decide +kernel)
noncomputable def T__law_told:Tr Fl:=(seqT (asgT 3 (op2T (nameT 1) (litT (.int 0)) subO))
  (seqT (asgT 4 (listT true []))
  (seqT (ifT (tstT (op2T (op2T (nameT 0) (litT (.int 0)) subO) (litT (.str "BR")) eqO)) (seqT (ifT (tstT (op2T (op2T (nameT 3) (litT (.int 14)) subO) (tupT [(litT (.str "top")),(litT (.int 0))]) neO)) (exprT (lmT (nameT 4) [(tupT [(nameT 2),(litT (.str "stack_pointer"))])] appS)) skipT)
  (seqT (ifT (tstT (op2T (op2T (nameT 3) (litT (.int 11)) subO) (tupT [(litT (.str "own")),(litT (.int 11))]) neO)) (exprT (lmT (nameT 4) [(tupT [(nameT 2),(litT (.str "frame_pointer"))])] appS)) skipT)
  (ifT (tstT (op2T (op2T (nameT 3) (litT (.int 15)) subO) (tupT [(litT (.str "own")),(litT (.int 15))]) neO)) (exprT (lmT (nameT 4) [(tupT [(nameT 2),(litT (.str "link"))])] appS)) skipT))) skipT)
  (seqT (ifT (tstT (op2T (op2T (nameT 0) (litT (.int 0)) subO) (litT (.str "BL")) eqO)) (seqT (ifT (tstT (op2T (op2T (nameT 3) (litT (.int 11)) subO) (tupT [(litT (.str "top")),(litT (.int 0))]) neO)) (exprT (lmT (nameT 4) [(tupT [(nameT 2),(litT (.str "frame_pointer"))])] appS)) skipT)
  (ifT (orT [(tstT (op2T (op2T (op2T (nameT 3) (litT (.int 14)) subO) (litT (.int 0)) subO) (litT (.str "top")) neO)),(tstT (op2T (op2T (op2T (nameT 3) (litT (.int 14)) subO) (litT (.int 1)) subO) (negT (litT (.int 8))) (icO fun a b=>decide (b<a)))),(tstT (op2T (op2T (op2T (op2T (nameT 3) (litT (.int 14)) subO) (litT (.int 1)) subO) (litT (.int 4)) modI) (litT (.int 0)) neO))]) (exprT (lmT (nameT 4) [(tupT [(nameT 2),(litT (.str "stack_pointer"))])] appS)) skipT)) skipT)
  (retT (nameT 4))))))
theorem walk__law_told {G:Gl} {F:Frag} {fI:Addr} {fdI:FuncData} (P:PG G F fI fdI) {lv:Nat}:WSs G ⟨lv,scopeAt 68,S__law_told,true⟩ (bodyAt 68) (T__law_told):=walked P [] trivial (by kernel_rfl)
noncomputable def S_init:List Str:=["self", "name", "key"]
theorem sh_init:Shape scopeI ["self", "name", "key"] S_init:=Shape.by rfl rfl rfl (by decide) (by decide) (by decide +kernel)
noncomputable def T_init:Tr Fl:=(seqT (atrT (nameT 1) (nameT 0) "name")
  (seqT (atrT (nameT 2) (nameT 0) "key")
  (seqT (atrT (listT false []) (nameT 0) "imports")
  (seqT (atrT (listT false []) (nameT 0) "rows")
  (seqT (atrT (litT (.int 0)) (nameT 0) "data_size")
  (seqT (atrT (listT false []) (nameT 0) "words")
  (seqT (atrT (listT false []) (nameT 0) "data_fixups")
  (seqT (atrT (listT true []) (nameT 0) "fixups")
  (seqT (atrT (listT false []) (nameT 0) "entries")
  (seqT (atrT (listT false []) (nameT 0) "pointers")
  (seqT (atrT (nilD false) (nameT 0) "maps")
  (seqT (atrT (nilD false) (nameT 0) "commands")
  (atrT (litT (.int 0)) (nameT 0) "body")))))))))))))
theorem walk_init {G:Gl} {F:Frag} {fI:Addr} {fdI:FuncData} (P:PG G F fI fdI) {lv:Nat}:WSs G ⟨lv,scopeI,S_init,true⟩ bodyI T_init:=walked P [] trivial (by kernel_rfl)
noncomputable def S_law:List Str:=["script", "row", "first", "second", "o", "due", "words_due", "at", "start", "steps", "states", "low", "spot"]
theorem sh_law:Shape (scopeAt 69) ["script"] S_law:=Shape.by rfl rfl rfl (by decide) (by decide) (by decide +kernel)
noncomputable def T_law (R__law_figures R__law_procedure R__law_draw R__law_states R__law_told R_frame_faults R_map_faults:FnR):Tr Fl:=(seqT (asgT 1 (fnT [(nameT 0)] (callO 0 R__law_figures)))
  (seqT (asgT 2 (fnT [(nameT 1)] (callO 1 R__law_procedure)))
  (seqT (asgT 3 (ifT (tstT (op2T (fnT [(nameT 1),(litT (.int 2))] (callO 1 R__law_draw)) (litT (.int 1)) eqO)) (fnT [(nameT 1)] (callO 1 R__law_procedure)) (listT false [])))
  (seqT (asgT 4 (makeT [(litT (.str "M")),(litT (.int 5))] T_init 0))
  (seqT (atrT (listT false [(tupT [(litT (.str "A")),(litT (.int 9))])]) (nameT 4) "imports")
  (seqT (atrT (op2T (nameT 2) (nameT 3) (addL false)) (nameT 4) "rows")
  (seqT (ifT (tstT (op2T (nameT 3) (listT false []) neO)) (atrT (listT false [(tupT [(litT (.str "code")),(fnT [(nameT 2)] lenO)])]) (nameT 4) "entries") skipT)
  (seqT (asgT 5 (listT false []))
  (seqT (asgT 6 (listT true []))
  (seqT (forT (fnT [(fnT [(getT (nameT 4) "rows")] lenO)] rngO) (.one 7) (ifT (tstT (op2T (op2T (op2T (getT (nameT 4) "rows") (nameT 7) subO) (litT (.int 0)) subO) (litT (.str "BL")) eqO)) (seqT (exprT (lmT (getT (nameT 4) "fixups") [(tupT [(nameT 7),(litT (.str "call")),(litT (.int 1)),(litT (.int 1))])] appS))
  (setT (op2T (listT false [(listT false [(negT (litT (.int 12))),(litT (.int 8))]),(listT false [(negT (litT (.int 4)))]),(listT false [(litT (.int 0)),(negT (litT (.int 8))),(negT (litT (.int 14)))]),(listT false [(negT (litT (.int 16))),(negT (litT (.int 40))),(litT (.int 4))]),(listT false [])]) (fnT [(nameT 1),(litT (.int 5))] (callO 1 R__law_draw)) subO) (getT (nameT 4) "maps") (op2T (nameT 7) (litT (.int 1)) addI))) skipT))
  (seqT (forT (listT false [(tupT [(litT (.int 0)),(nameT 2)]),(tupT [(fnT [(nameT 2)] lenO),(nameT 3)])]) (.many [8,9]) (seqT (asgT 10 (fnT [(op2T (getT (nameT 4) "rows") (op2T (nameT 8) (fnT [(nameT 9)] lenO) addI) (slTo false)),(nameT 8)] (callO 0 R__law_states)))
  (forT (fnT [(nameT 10)] (srtO false)) (.one 7) (seqT (ifT (orT [(tstT (op2T (nameT 7) (op2T (nameT 8) (fnT [(nameT 9)] lenO) addI) (icO fun a b=>decide (b≤a)))),(tstT (op2T (nameT 9) (listT false []) eqO))]) contT skipT)
  (seqT (asgT 5 (op2T (nameT 5) (fnT [(op2T (getT (nameT 4) "rows") (nameT 7) subO),(op2T (nameT 10) (nameT 7) subO),(nameT 7)] (callO 0 R__law_told)) (addL false)))
  (ifT (tstT (op2T (op2T (op2T (getT (nameT 4) "rows") (nameT 7) subO) (litT (.int 0)) subO) (litT (.str "BL")) eqO)) (seqT (asgT 11 (op2T (op2T (op2T (nameT 10) (nameT 7) subO) (litT (.int 0)) subO) (litT (.int 14)) subO))
  (forT (op2T (getT (nameT 4) "maps") (op2T (nameT 7) (litT (.int 1)) addI) subO) (.one 12) (ifT (orT [(tstT (op2T (nameT 12) (listT false [(negT (litT (.int 4))),(negT (litT (.int 8)))]) inO)),(tstT (op2T (op2T (nameT 12) (litT (.int 4)) modI) (litT (.int 0)) neO)),(andT [(tstT (op2T (op2T (nameT 11) (litT (.int 0)) subO) (litT (.str "top")) eqO)),(tstT (op2T (nameT 12) (op2T (nameT 11) (litT (.int 1)) subO) (icO fun a b=>decide (a<b))))])]) (exprT (lmT (nameT 6) [(tupT [(op2T (nameT 7) (litT (.int 1)) addI),(nameT 12)])] appS)) skipT))) skipT))))))
  (ghostT (retT (and2T (op2T (fnT [(nameT 4)] (callO 0 R_frame_faults)) (fnT [(nameT 5)] (srtO false)) eqO) (op2T (fnT [(nameT 4)] (callO 0 R_map_faults)) (fnT [(nameT 6)] (srtO false)) eqO)))))))))))))))
theorem walk_law {G:Gl} {F:Frag} {fI:Addr} {fdI:FuncData} (P:PG G F fI fdI) {lv:Nat} {R__law_figures R__law_procedure R__law_draw R__law_states R__law_told R_frame_faults R_map_faults:FnR} (h__law_figures:HasF G lv "_law_figures" 1 0 R__law_figures) (h__law_procedure:HasF G lv "_law_procedure" 1 1 R__law_procedure) (h__law_draw:HasF G lv "_law_draw" 2 1 R__law_draw) (h__law_states:HasF G lv "_law_states" 2 0 R__law_states) (h__law_told:HasF G lv "_law_told" 3 0 R__law_told) (h_frame_faults:HasF G lv "frame_faults" 1 0 R_frame_faults) (h_map_faults:HasF G lv "map_faults" 1 0 R_map_faults) (hlv:0+2≤lv):WSs G ⟨lv,scopeAt 69,S_law,true⟩ (bodyAt 69) (T_law R__law_figures R__law_procedure R__law_draw R__law_states R__law_told R_frame_faults R_map_faults):=walked P [fr "_law_figures" 1 0 R__law_figures,fr "_law_procedure" 1 1 R__law_procedure,fr "_law_draw" 2 1 R__law_draw,fr "_law_states" 2 0 R__law_states,fr "_law_told" 3 0 R__law_told,fr "frame_faults" 1 0 R_frame_faults,fr "map_faults" 1 0 R_map_faults,("ObjectFile",2,fun ts=>makeT ts T_init (S_init.length - 3))] ⟨.fn h__law_figures,.fn h__law_procedure,.fn h__law_draw,.fn h__law_states,.fn h__law_told,.fn h_frame_faults,.fn h_map_faults,obj_ok P sh_init (walk_init (lv:=0) P).h hlv,trivial⟩ (by kernel_rfl)
end
noncomputable abbrev QF:=Fl→St→Prop
section
variable {t r o l a b m:Tr V} {ts:List (Tr V)} {p q:Tr Fl} {Q:QF} {R:QV} {B:QB} {st:St} {ρ:List V} {μ:List Cell} {i k:Nat} {y z w:V} {x d:PyData} {xs zs:List PyData} {kvs:List (PyData×PyData)} {ys:List V} {n j:Int} {s:Str} {v:Bool}
theorem e_g0 {α:Type} {y d:α} {l:List α}:(y :: l).getD 0 d=y:=rfl
theorem e_g1 {α:Type} {y d:α} {l:List α} {n:Nat}:(y :: l).getD (n+1) d=l.getD n d:=rfl
@[simp] theorem e_seq:seqT p q Q st=p (seqK q Q) st:=rfl
@[simp] theorem e_seqK1:seqK q Q .next st=q Q st:=Stop.eq
@[simp] theorem e_seqK2:seqK q Q .cont st=Q .cont st:=rfl
@[simp] theorem e_seqK3:seqK q Q (.ret y) st=Q (.ret y) st:=rfl
@[simp] theorem e_loopK1 {k:St→Prop}:loopK Q k .next st=k st:=rfl
@[simp] theorem e_loopK2 {k:St→Prop}:loopK Q k .cont st=k st:=rfl
@[simp] theorem e_loopK3 {k:St→Prop}:loopK Q k (.ret y) st=Q (.ret y) st:=rfl
@[simp] theorem e_asg:asgT i t Q st=t (asgK i Q) st:=rfl
@[simp] theorem e_asgK:asgK i Q y ⟨ρ,μ⟩=Q .next ⟨ρ.set i y,μ⟩:=rfl
@[simp] theorem e_ret:retT t Q st=t (retK Q) st:=rfl
@[simp] theorem e_retK:retK Q y st=Q (.ret y) st:=rfl
@[simp] theorem e_cont:contT Q st=Q .cont st:=rfl
@[simp] theorem e_skip:skipT Q st=Q .next st:=rfl
@[simp] theorem e_expr:exprT t Q st=t (exprK Q) st:=rfl
@[simp] theorem e_exprK:exprK Q y st=Q .next st:=rfl
@[simp] theorem e_name:nameT i R ⟨ρ,μ⟩=nmK (ρ.getD i .u) R ⟨ρ,μ⟩:=rfl
@[simp] theorem e_nm1:nmK (.d x) R st=R (.d x) st:=rfl
@[simp] theorem e_nm2:nmK (.own k) R st=R (.own k) st:=rfl
@[simp] theorem e_nm3:nmK (.inst k) R st=R (.inst k) st:=rfl
@[simp] theorem e_nm4 {fs:List (Str×PyData)}:nmK (.ob fs) R st=R (.ob fs) st:=rfl
@[simp] theorem e_lit:litT x R st=R (.d x) st:=rfl
@[simp] theorem e_neg:negT t R st=t (negK R) st:=rfl
@[simp] theorem e_negK:negK R (.d (.int n)) st=R (.d (.int (-n))) st:=rfl
variable {P:List V→St→Prop} {D:PyData→St→Prop} {L:List PyData→St→Prop}
@[simp] theorem e_evs0:evsT [] P st=P [] st:=rfl
@[simp] theorem e_evs1:evsT (t :: ts) P st=t (evsK (evsT ts) P) st:=rfl
@[simp] theorem e_evsK {eT:Tr (List V)}:evsK eT P y st=eT (evsK2 y P) st:=rfl
@[simp] theorem e_evsK2:evsK2 y P ys st=P (y :: ys) st:=rfl
noncomputable def asDC (q:Option Cell) (k:Nat) (D:PyData→St→Prop) (st:St):Prop:=onC q (fun xs=>D (.list xs) (st.fz k (.list xs))) (fun xs=>D (.dict xs) (st.fz k (.dict xs))) fun _=>False
@[simp] theorem e_asD1:asD (.d x) D st=D x st:=rfl
@[simp] theorem e_asD2:asD (.own k) D ⟨ρ,μ⟩=asDC μ[k]? k D ⟨ρ,μ⟩:=rfl
@[simp] theorem e_asDC1:asDC (some (.list xs)) k D st=D (.list xs) (st.fz k (.list xs)):=rfl
@[simp] theorem e_asDC2:asDC (some (.dict kvs)) k D st=D (.dict kvs) (st.fz k (.dict kvs)):=rfl
@[simp] theorem e_fz:St.fz k x ⟨ρ,μ⟩=⟨ρ.map (V.fz k x),(μ.set k .dead).map (Cell.fz k x)⟩:=rfl
@[simp] theorem e_fz1:V.fz k x (.d d) = .d d:=rfl
@[simp] theorem e_fz2:V.fz k x (.own i)=if i=k then .d x else .own i:=rfl
@[simp] theorem e_fz3:V.fz k x (.inst i) = .inst i:=rfl
@[simp] theorem e_fz4:V.fz k x .u = .u:=rfl
@[simp] theorem e_fz5 {fs:List (Str×PyData)}:V.fz k x (.ob fs) = .ob fs:=rfl
@[simp] theorem e_fz6:Cell.fz k x (.list xs) = .list xs:=rfl
@[simp] theorem e_fz7:Cell.fz k x (.dict kvs) = .dict kvs:=rfl
@[simp] theorem e_fz8:Cell.fz k x .dead = .dead:=rfl
@[simp] theorem e_fz9 {tk:List (List Ky×PyData)}:Cell.fz k x (.tdict tk) = .tdict tk:=rfl
@[simp] theorem e_fz10:V.fz k x (.rng i) = .rng i:=rfl
@[simp] theorem e_asDs0:asDs [] L st=L [] st:=rfl
@[simp] theorem e_asDs1:asDs (y :: ys) L st=asD y (asDsK (asDs ys) L) st:=rfl
@[simp] theorem e_asDsK {aT:(List PyData→St→Prop)→St→Prop}:asDsK aT L x st=aT (asDsK2 x L) st:=rfl
@[simp] theorem e_asDsK2:asDsK2 x L xs st=L (x :: xs) st:=rfl
@[simp] theorem e_tup:tupT ts R st=evsT ts (tupK R) st:=rfl
@[simp] theorem e_tupK:tupK R ys st=asDs ys (tupK2 R) st:=rfl
@[simp] theorem e_tupK2:tupK2 R xs st=R (.d (.tuple xs)) st:=Stop.eq
@[simp] theorem e_list:listT v ts R st=evsT ts (listK v R) st:=rfl
@[simp] theorem e_listK:listK v R ys st=asDs ys (listK2 v R) st:=rfl
@[simp] theorem e_listK2:listK2 v R xs st=newlT v xs R st:=Stop.eq
@[simp] theorem e_newl1:newlT true xs R ⟨ρ,μ⟩=R (.own μ.length) ⟨ρ,μ++[.list xs]⟩:=rfl
@[simp] theorem e_newl2:newlT false xs R st=R (.d (.list xs)) st:=rfl
@[simp] theorem e_nilD1:nilD true R ⟨ρ,μ⟩=R (.own μ.length) ⟨ρ,μ++[.tdict []]⟩:=rfl
@[simp] theorem e_nilD2:nilD false R ⟨ρ,μ⟩=R (.own μ.length) ⟨ρ,μ++[.dict []]⟩:=rfl
@[simp] theorem e_tst:tstT t B st=t (tstK B) st:=rfl
@[simp] theorem e_tstK:tstK B (.d (.bool v)) st=B v st:=rfl
variable {bs:List (Tr Bool)} {c:Tr Bool} {X Y:Tr Fl} {U W:Tr V}
@[simp] theorem e_and0:andT [] B st=B true st:=rfl
@[simp] theorem e_and1:andT (c :: bs) B st=c (andK (andT bs) B) st:=rfl
@[simp] theorem br_t {p q:Prop}:br true p q=p:=rfl
@[simp] theorem br_f {p q:Prop}:br false p q=q:=rfl
@[simp] theorem e_andK1:andK c B true st=c B st:=rfl
@[simp] theorem e_andK2:andK c B false st=B false st:=rfl
@[simp] theorem e_or0:orT [] B st=B false st:=rfl
@[simp] theorem e_or1:orT (c :: bs) B st=c (orK (orT bs) B) st:=rfl
@[simp] theorem e_orK1:orK c B true st=B true st:=rfl
@[simp] theorem e_orK2:orK c B false st=c B st:=rfl
@[simp] theorem e_not:notT c B st=c (notK B) st:=rfl
@[simp] theorem e_notK:notK B v st=B (!v) st:=rfl
@[simp] theorem e_and2:and2T l r R st=l (and2K r R) st:=rfl
@[simp] theorem e_and2K1:and2K r R (.d (.bool true)) st=r R st:=rfl
@[simp] theorem e_and2K2:and2K r R (.d (.bool false)) st=R (.d (.bool false)) st:=rfl
@[simp] theorem e_or2:or2T l r R st=l (or2K r R) st:=rfl
@[simp] theorem e_or2K1:or2K r R (.d (.bool true)) st=R (.d (.bool true)) st:=rfl
@[simp] theorem e_or2K2:or2K r R (.d (.bool false)) st=r R st:=rfl
@[simp] theorem e_and3:and3T l m r R st=and2T l (and2T m r) R st:=rfl
@[simp] theorem e_if1:ifT c X Y Q st=c (ifK X Y Q) st:=rfl
@[simp] theorem e_if2:ifT c U W R st=c (ifK U W R) st:=rfl
@[simp] theorem e_ifK1:ifK X Y Q true st=X Q st:=rfl
@[simp] theorem e_ifK2:ifK X Y Q false st=Y Q st:=rfl
@[simp] theorem e_ifV1:ifK U W R true st=U R st:=rfl
@[simp] theorem e_ifV2:ifK U W R false st=W R st:=rfl
variable {f g:Op2}
@[simp] theorem e_op2:op2T l r f R st=l (op2K r f R) st:=rfl
@[simp] theorem e_op2K:op2K r f R y st=r (op2K2 y f R) st:=rfl
@[simp] theorem e_op2K2:op2K2 y f R z st=f y z R st:=rfl
@[simp] theorem e_ch:chainT a b t f g B st=a (chK1 b t f g B) st:=rfl
@[simp] theorem e_chK1:chK1 b t f g B y st=b (chK2 y t f g B) st:=rfl
@[simp] theorem e_chK2:chK2 z t f g B y st=f z y (chK3 y t g B) st:=rfl
@[simp] theorem e_chK3:chK3 y t g B (.d (.bool true)) st=t (chK4 y g B) st:=rfl
@[simp] theorem e_chK3':chK3 y t g B (.d (.bool false)) st=B false st:=rfl
@[simp] theorem e_chK4:chK4 y g B z st=g y z (tstK B) st:=rfl
@[simp] theorem e_addI:addI (.d (.int n)) (.d (.int j)) R st=R (.d (.int (n+j))) st:=propext ⟨fun h=>h.2,fun h=>⟨trivial,h⟩⟩
@[simp] theorem e_subI:subI (.d (.int n)) (.d (.int j)) R st=R (.d (.int (n - j))) st:=propext ⟨fun h=>h.2,fun h=>⟨trivial,h⟩⟩
@[simp] theorem e_andI:andI (.d (.int n)) (.d (.int j)) R st=R (.d (.int (Builtin.bitAnd n j))) st:=propext ⟨fun h=>h.2,fun h=>⟨trivial,h⟩⟩
@[simp] theorem e_xorI:xorI (.d (.int n)) (.d (.int j)) R st=R (.d (.int (Builtin.bitXor n j))) st:=propext ⟨fun h=>h.2,fun h=>⟨trivial,h⟩⟩
@[simp low] theorem e_mulI:mulI (.d (.int n)) (.d (.int j)) R st=((j.natAbs<2^60∨n.natAbs<2^60)∧R (.d (.int (n * j))) st):=rfl
@[simp low] theorem e_divI:divI (.d (.int n)) (.d (.int j)) R st=((0<j∧j<2^60)∧R (.d (.int (n.fdiv j))) st):=rfl
@[simp low] theorem e_modI:modI (.d (.int n)) (.d (.int j)) R st=(j≠0∧R (.d (.int (n.fmod j))) st):=rfl
@[simp low] theorem e_shrI:shrI (.d (.int n)) (.d (.int j)) R st=(0≤j∧R (.d (.int (n.fdiv (2^j.toNat)))) st):=rfl
@[simp] theorem e_ic {h:Int→Int→Bool}:icO h (.d (.int n)) (.d (.int j)) R st=R (.d (.bool (h n j))) st:=rfl
@[simp low] theorem e_eqO:eqO (.d x) (.d d) R st=(okd x=true∧okd d=true∧R (.d (.bool (x.eqv d))) st):=rfl
@[simp low] theorem e_neO:neO (.d x) (.d d) R st=(okd x=true∧okd d=true∧R (.d (.bool (!x.eqv d))) st):=rfl
noncomputable def neOC (q:Option Cell) (d:PyData) (R:QV) (st:St):Prop:=onC q (fun xs=>okd (.list xs)=true∧okd d=true∧R (.d (.bool (!(PyData.list xs).eqv d))) st) (fun xs=>okd (.dict xs)=true∧okd d=true∧R (.d (.bool (!(PyData.dict xs).eqv d))) st) fun _=>False
@[simp low] theorem e_neO2:neO (.own k) (.d d) R ⟨ρ,μ⟩=neOC μ[k]? d R ⟨ρ,μ⟩:=onO_pk _
@[simp low] theorem e_neOC:neOC (some (.list xs)) d R st=(okd (.list xs)=true∧okd d=true∧R (.d (.bool (!(PyData.list xs).eqv d))) st):=rfl
@[simp] theorem e_isO:isO (.d x) (.d .none) R st=R (.d (.bool (isNo x))) st:=rfl
@[simp] theorem e_isnO:isnO (.d x) (.d .none) R st=R (.d (.bool (!isNo x))) st:=rfl
noncomputable def inC (q:Option Cell) (x:PyData) (K:Bool→Prop):Prop:=onC q (fun xs=>okd x=true∧PyData.canLayAll0 xs=true∧K (xs.any fun y=>y.eqv x)) (fun kvs=>∃ q,kyOf x=some q∧K (dlook kvs q).isSome) fun _=>False
theorem isIn_own {K:Bool→Prop}:isIn (.d x) (.own k) ⟨ρ,μ⟩ K=inC μ[k]? x K:=onO_pk _
noncomputable def inK (R:QV) (st:St):Bool→Prop:=fun t=>R (.d (.bool t)) st
noncomputable def niK (R:QV) (st:St):Bool→Prop:=fun t=>R (.d (.bool (!t))) st
@[simp] theorem e_inK:inK R st v=R (.d (.bool v)) st:=rfl
@[simp] theorem e_niK:niK R st v=R (.d (.bool (!v))) st:=rfl
@[simp low] theorem e_inO1:inO (.d x) (.d (.list xs)) R st=(okd x=true∧PyData.canLayAll0 xs=true∧R (.d (.bool (xs.any fun y=>y.eqv x))) st):=rfl
@[simp low] theorem e_inO2:inO (.d x) (.d (.tuple xs)) R st=(okd x=true∧PyData.canLayAll0 xs=true∧R (.d (.bool (xs.any fun y=>y.eqv x))) st):=rfl
@[simp] theorem e_inO3:inO (.d x) (.own k) R ⟨ρ,μ⟩=inC μ[k]? x (inK R ⟨ρ,μ⟩):=isIn_own
@[simp low] theorem e_inO4:inO (.d x) (.d (.dict kvs)) R st=∃ q,kyOf x=some q∧R (.d (.bool (dlook kvs q).isSome)) st:=rfl
@[simp low] theorem e_niO1:niO (.d x) (.d (.list xs)) R st=(okd x=true∧PyData.canLayAll0 xs=true∧R (.d (.bool (!(xs.any fun y=>y.eqv x)))) st):=rfl
@[simp low] theorem e_niO2:niO (.d x) (.d (.tuple xs)) R st=(okd x=true∧PyData.canLayAll0 xs=true∧R (.d (.bool (!(xs.any fun y=>y.eqv x)))) st):=rfl
@[simp] theorem e_niO3:niO (.d x) (.own k) R ⟨ρ,μ⟩=inC μ[k]? x (niK R ⟨ρ,μ⟩):=isIn_own
@[simp low] theorem e_niO4:niO (.d x) (.d (.dict kvs)) R st=∃ q,kyOf x=some q∧R (.d (.bool (!(dlook kvs q).isSome))) st:=rfl
@[simp low] theorem e_inC1 {K:Bool→Prop}:inC (some (.list xs)) x K=(okd x=true∧PyData.canLayAll0 xs=true∧K (xs.any fun y=>y.eqv x)):=rfl
@[simp low] theorem e_inC2 {K:Bool→Prop}:inC (some (.dict kvs)) x K=(∃ q,kyOf x=some q∧K (dlook kvs q).isSome):=rfl
@[simp low] theorem e_sub1:subO (.d (.list xs)) (.d (.int n)) R st=(-(2^62)<n∧n<2^62∧∃ z,pick xs n=some z∧R (.d z) st):=rfl
@[simp low] theorem e_sub2:subO (.d (.tuple xs)) (.d (.int n)) R st=(-(2^62)<n∧n<2^62∧∃ z,pick xs n=some z∧R (.d z) st):=rfl
@[simp low] theorem e_sub3:subO (.d (.dict kvs)) (.d x) R st=(∃ q z,kyOf x=some q∧dlook kvs q=some z∧R (.d z) st):=rfl
@[simp low] theorem e_sub4:subO (.d (.str s)) (.d (.int n)) R st=(n=0∧∃ c,s.cps[0]?=some c∧R (.d (.str ⟨#[c]⟩)) st):=rfl
noncomputable def subC (q:Option Cell) (x:PyData) (D:PyData→Prop):Prop:=onC q (fun xs=>onI x fun i => -(2^62)<i∧i<2^62∧∃ z,pick xs i=some z∧D z) (fun kvs=>∃ q z,kyOf x=some q∧dlook kvs q=some z∧D z) fun _=>False
noncomputable def subK (R:QV) (st:St):PyData→Prop:=fun z=>R (.d z) st
@[simp] theorem e_subK:subK R st x=R (.d x) st:=rfl
@[simp] theorem e_sub5:subO (.own k) (.d x) R ⟨ρ,μ⟩=subC μ[k]? x (subK R ⟨ρ,μ⟩):=onO_pk _
@[simp low] theorem e_subC1 {D:PyData→Prop}:subC (some (.list xs)) (.int n) D=(-(2^62)<n∧n<2^62∧∃ z,pick xs n=some z∧D z):=rfl
@[simp low] theorem e_subC2 {D:PyData→Prop}:subC (some (.dict kvs)) x D=(∃ q z,kyOf x=some q∧dlook kvs q=some z∧D z):=rfl
@[simp low] theorem e_strFrom:strFrom (.d (.str s)) (.d (.int n)) R st=(s.length≤1000∧R (.d (.str (Txt.slice s (some n) none))) st):=rfl
@[simp low] theorem e_strTo:strTo (.d (.str s)) (.d (.int n)) R st=(s.length≤1000∧R (.d (.str (Txt.slice s none (some n)))) st):=rfl
@[simp low] theorem e_addL:addL v (.d (.list xs)) (.d (.list zs)) R st=(xs.length+zs.length≤2^20∧newlT v (xs++zs) R st):=rfl
@[simp low] theorem e_mulL:mulL v (.d (.list [x])) (.d (.int n)) R st=(0≤n∧n≤1000∧newlT v (List.replicate n.toNat x) R st):=rfl
@[simp low] theorem e_slTo:slTo v (.d (.list xs)) (.d (.int n)) R st=(0≤n∧xs.length≤2^20∧newlT v (xs.take n.toNat) R st):=rfl
variable {h:List V→Tr V}
@[simp] theorem e_fn:fnT ts h R st=evsT ts (fnK h R) st:=rfl
@[simp] theorem e_fnK:fnK h R ys st=h ys R st:=rfl
@[simp low] theorem e_len1:lenO [.d (.list xs)] R st=(xs.length≤2^20∧R (.d (.int xs.length)) st):=rfl
@[simp low] theorem e_len2:lenO [.d (.tuple xs)] R st=(xs.length≤2^20∧R (.d (.int xs.length)) st):=rfl
noncomputable def lenC (q:Option Cell) (R:QV) (st:St):Prop:=onCL q fun xs=>xs.length≤2^20∧R (.d (.int xs.length)) st
@[simp] theorem e_len3:lenO [.own k] R ⟨ρ,μ⟩=lenC μ[k]? R ⟨ρ,μ⟩:=onO_pk _
@[simp low] theorem e_lenC:lenC (some (.list xs)) R st=(xs.length≤2^20∧R (.d (.int xs.length)) st):=rfl
@[simp] theorem e_abs:absO [.d (.int n)] R st=R (.d (.int (if n<0 then -n else n))) st:=rfl
@[simp] theorem e_rng:rngO [.d (.int n)] R st=(0≤n∧R (.rng n.toNat) st):=rfl
@[simp low] theorem e_listO1:listO v [.d (.list xs)] R st=(xs.length≤2^20∧newlT v xs R st):=rfl
@[simp low] theorem e_listO2:listO v [.d (.tuple xs)] R st=(xs.length≤2^20∧newlT v xs R st):=rfl
noncomputable def tupC (q:Option Cell) (R:QV) (st:St):Prop:=onCL q fun xs=>xs.length≤2^20∧R (.d (.tuple xs)) st
@[simp] theorem e_tupO1:tupO [.own k] R ⟨ρ,μ⟩=tupC μ[k]? R ⟨ρ,μ⟩:=onO_pk _
@[simp low] theorem e_tupC:tupC (some (.list xs)) R st=(xs.length≤2^20∧R (.d (.tuple xs)) st):=rfl
@[simp low] theorem e_dictD:dictD [.d (.dict kvs)] R st=(kvs.length≤2^20∧R (.d (.dict kvs)) st):=rfl
variable {e:StepK}
noncomputable def lmC (q:Option Cell) (k:Nat) (ts:List (Tr V)) (f:StepK) (R:QV) (st:St):Prop:=onCL q fun _=>evsT ts (lmK2 k f R) st
@[simp] theorem e_lm:lmT o ts e R st=o (lmK ts e R) st:=rfl
@[simp] theorem e_lmK:lmK ts e R (.own k) ⟨ρ,μ⟩=lmC μ[k]? k ts e R ⟨ρ,μ⟩:=rfl
@[simp] theorem e_lmC:lmC (some (.list xs)) k ts e R st=evsT ts (lmK2 k e R) st:=rfl
@[simp] theorem e_lmK2:lmK2 k e R ys st=e k ys R st:=rfl
noncomputable def appC (q:Option Cell) (k:Nat) (x:PyData) (R:QV) (st:St):Prop:=onCL q fun xs=>xs.length≤2^20∧R (.d .none) (setC st k (.list (xs++[x])))
noncomputable def appK (k:Nat) (R:QV):PyData→St→Prop:=fun x st'=>appC st'.μ[k]? k x R st'
@[simp] theorem e_app:appS k [y] R st=asD y (appK k R) st:=rfl
@[simp] theorem e_appK:appK k R x ⟨ρ,μ⟩=appC μ[k]? k x R ⟨ρ,μ⟩:=rfl
@[simp low] theorem e_appC:appC (some (.list xs)) k x R ⟨ρ,μ⟩=(xs.length≤2^20∧R (.d .none) ⟨ρ,μ.set k (.list (xs++[x]))⟩):=rfl
noncomputable def popC (q:Option Cell) (k:Nat) (R:QV) (st:St):Prop:=onCL q fun xs=>xs.length≤2^20∧∃ z,xs.getLast?=some z∧R (.d z) (setC st k (.list xs.dropLast))
@[simp] theorem e_pop1:popS k [] R ⟨ρ,μ⟩=popC μ[k]? k R ⟨ρ,μ⟩:=rfl
@[simp low] theorem e_popC:popC (some (.list xs)) k R ⟨ρ,μ⟩=(xs.length≤2^20∧∃ z,xs.getLast?=some z∧R (.d z) ⟨ρ,μ.set k (.list xs.dropLast)⟩):=rfl
noncomputable def popI (q:Option Cell) (k:Nat) (i:Int) (R:QV) (st:St):Prop:=onCL q fun xs=>xs.length≤2^20∧0≤i∧∃ z,xs[i.toNat]?=some z∧R (.d z) (setC st k (.list (xs.eraseIdx i.toNat)))
@[simp] theorem e_pop2:popS k [.d (.int n)] R ⟨ρ,μ⟩=popI μ[k]? k n R ⟨ρ,μ⟩:=rfl
@[simp low] theorem e_popI:popI (some (.list xs)) k n R ⟨ρ,μ⟩=(xs.length≤2^20∧0≤n∧∃ z,xs[n.toNat]?=some z∧R (.d z) ⟨ρ,μ.set k (.list (xs.eraseIdx n.toNat))⟩):=rfl
noncomputable def revC (q:Option Cell) (k:Nat) (R:QV) (st:St):Prop:=onCL q fun xs=>xs.length≤2^20∧R (.d .none) (setC st k (.list xs.reverse))
@[simp] theorem e_rev:revS k [] R ⟨ρ,μ⟩=revC μ[k]? k R ⟨ρ,μ⟩:=rfl
@[simp low] theorem e_revC:revC (some (.list xs)) k R ⟨ρ,μ⟩=(xs.length≤2^20∧R (.d .none) ⟨ρ,μ.set k (.list xs.reverse)⟩):=rfl
noncomputable def insC (q:Option Cell) (k:Nat) (i:Int) (x:PyData) (R:QV) (st:St):Prop:=onCL q fun xs=>xs.length≤2^20∧0≤i∧i≤xs.length∧R (.d .none) (setC st k (.list (xs.take i.toNat++x :: xs.drop i.toNat)))
@[simp] theorem e_ins:insS k [.d (.int n),.d x] R ⟨ρ,μ⟩=insC μ[k]? k n x R ⟨ρ,μ⟩:=rfl
@[simp low] theorem e_insC:insC (some (.list xs)) k n x R ⟨ρ,μ⟩=(xs.length≤2^20∧0≤n∧n≤xs.length∧R (.d .none) ⟨ρ,μ.set k (.list (xs.take n.toNat++x :: xs.drop n.toNat))⟩):=rfl
noncomputable def setCK (q:Option Cell) (k:Nat) (i:V) (x:PyData) (Q:QF) (st1:St):Prop:=onC q (fun xs=>onDI i fun n=>0≤n∧n<xs.length∧xs.length≤2^20∧Q .next (setC st1 k (.list (xs.set n.toNat x))))
  (fun kvs=>onD i fun z=>∃ q,kyOf z=some q∧kvs.length≤2^20∧Q .next (setC st1 k (.dict (dput kvs q x)))) fun kvs=>onDT i fun zs=>∃ qs,kyL zs=some qs∧kvs.length≤2^20∧Q .next (setC st1 k (.tdict (tput kvs qs x)))
noncomputable def setK4 (b n:V) (Q:QF):PyData→St→Prop:=fun x st1=>onOwn b fun k=>setCK st1.μ[k]? k n x Q st1
@[simp] theorem e_set:setT t o r Q st=t (setK1 o r Q) st:=rfl
@[simp] theorem e_setK1:setK1 o r Q y st=o (setK2 y r Q) st:=rfl
@[simp] theorem e_setK2:setK2 y r Q z st=r (setK3 y z Q) st:=rfl
@[simp] theorem e_setK3:setK3 y z Q w st=asD y (setK4 z w Q) st:=rfl
@[simp] theorem e_setK4:setK4 (.own k) w Q x ⟨ρ,μ⟩=setCK μ[k]? k w x Q ⟨ρ,μ⟩:=rfl
@[simp low] theorem e_setC1:setCK (some (.list xs)) k (.d (.int n)) x Q ⟨ρ,μ⟩=(0≤n∧n<xs.length∧xs.length≤2^20∧Q .next ⟨ρ,μ.set k (.list (xs.set n.toNat x))⟩):=rfl
@[simp low] theorem e_setC2:setCK (some (.dict kvs)) k (.d (.int n)) x Q ⟨ρ,μ⟩=(kvs.length≤2^20∧Q .next ⟨ρ,μ.set k (.dict (dput kvs (.int n) x))⟩):=
  propext ⟨fun z1=>kEA z1 fun q e h=>by cases e; exact h,fun h=>⟨_,rfl,h⟩⟩
@[simp low] theorem e_setC3 {tk:List (List Ky×PyData)}:setCK (some (.tdict tk)) k (.d (.tuple zs)) x Q ⟨ρ,μ⟩=(∃ qs,kyL zs=some qs∧tk.length≤2^20∧Q .next ⟨ρ,μ.set k (.tdict (tput tk qs x))⟩):=rfl
@[simp] theorem e_aug:augT i t Q ⟨ρ,μ⟩=augV i (ρ.getD i .u) t Q ⟨ρ,μ⟩:=rfl
@[simp] theorem e_augV:augV i (.d (.int n)) t Q st=t (augK i n Q) st:=rfl
@[simp] theorem e_augK:augK i n Q (.d (.int j)) ⟨ρ,μ⟩=Q .next ⟨ρ.set i (.d (.int (n+j))),μ⟩:=rfl
variable {is:List Nat}
@[simp] theorem e_unp:unpT is t Q st=t (unpK is Q) st:=rfl
@[simp low] theorem e_unpK:unpK is Q (.d (.tuple xs)) st=(xs.length=is.length∧Q .next (puts is xs st)):=rfl
@[simp] theorem e_puts1:puts (i :: is) (x :: xs) ⟨ρ,μ⟩=puts is xs ⟨ρ.set i (.d x),μ⟩:=rfl
@[simp] theorem e_puts0:puts [] xs st=st:=by cases xs<;>rfl
variable {tg:Tg}
noncomputable def itK (L:List PyData→St→Prop):PyData→St→Prop:=fun x st'=>∃ xs,its x=some xs∧xs.length≤2^20∧L xs st'
@[simp] theorem e_for:forT t tg p Q st=t (forK0 tg p Q) st:=rfl
@[simp] theorem e_forK0:forK0 tg p Q y st=itV y (forK tg p Q) st:=rfl
@[simp low] theorem e_it1:itV (.rng k) L st=(k≤2^20∧L (rngL k) st):=rfl
@[simp] theorem e_it2:itV (.d x) L st=itK L x st:=rfl
@[simp] theorem e_it3:itV (.own k) L ⟨ρ,μ⟩=asDC μ[k]? k (itK L) ⟨ρ,μ⟩:=rfl
@[simp low] theorem e_itK1:itK L (.list xs) st=(xs.length≤2^20∧L xs st):=propext ⟨fun z2=>kEA z2 fun _ e h=>by cases e; exact h,fun h=>⟨_,rfl,h⟩⟩
@[simp low] theorem e_itK2:itK L (.tuple xs) st=(xs.length≤2^20∧L xs st):=propext ⟨fun z3=>kEA z3 fun _ e h=>by cases e; exact h,fun h=>⟨_,rfl,h⟩⟩
@[simp low] theorem e_itK3:itK L (.dict kvs) st=((kvs.map (·.1)).length≤2^20∧L (kvs.map (·.1)) st):=propext ⟨fun z4=>kEA z4 fun _ e h=>by cases e; exact h,fun h=>⟨_,rfl,h⟩⟩
theorem forK_of (I:Nat→St→Prop) (h0:I 0 st) (h1:∀ i z st3,xs[i]?=some z→I i st3→∃ st4,tg.bind z st3=some st4∧p (loopK Q (Sh st.μ.length (I (i+1)))) st4) (h2:∀ st3,I xs.length st3→Q .next st3):forK tg p Q xs st:=⟨I,h0,h1,h2⟩
theorem forK_st (S:Nat→St) (h0:S 0=st) (h1:∀ i z,xs[i]?=some z→∃ st4,tg.bind z (S i)=some st4∧p (loopK Q (Sh st.μ.length (·=S (i+1)))) st4) (h2:Q .next (S xs.length)):forK tg p Q xs st:=
  ⟨fun i s=>s=S i,h0.symm,fun i z st3 e h=>by subst h; exact h1 i z e,fun st3 h=>by subst h; exact h2⟩
@[simp] theorem e_bind1:Tg.bind (.one i) x ⟨ρ,μ⟩=some ⟨ρ.set i (.d x),μ⟩:=rfl
noncomputable def fg:List V→List V→Prop
  | [],[]=>True
  | y :: ys,z :: zs=>(y = .u∨y=z)∧fg ys zs
  | _,_=>False
theorem fg_len:∀ {ys zs:List V},fg ys zs→ys.length=zs.length
  | [],[],_=>rfl
  | _ :: _,_ :: _,h=>by simp [fg_len h.2]
  | [],_ :: _,h=>h.elim
  | _ :: _,[],h=>h.elim
theorem fg_at:∀ {ys zs:List V} (i:Nat) (y:V),fg ys zs→ys[i]?=some y→y≠.u→zs[i]?=some y
  | [],[],_,_,_,e,_=>by simp at e
  | a :: ys,b :: zs,0,y,h,e,hu=>by
    simp at e; subst e
    rcases h.1 with h | h
    · exact absurd h hu
    · simp [h]
  | a :: ys,b :: zs,i+1,y,h,e,hu=>by
    simp at e; exact fg_at i y h.2 e hu
  | [],_ :: _,_,_,h,_,_=>h.elim
  | _ :: _,[],_,_,h,_,_=>h.elim
noncomputable def lts (n:Nat):List V→Prop
  | []=>True
  | y :: ys=>y.lt n∧lts n ys
theorem lts_at {n:Nat}:∀ {ys:List V},lts n ys→∀ y∈ys,y.lt n
  | [],_,_,h=>by cases h
  | a :: ys,h,y,hy=>by
    rcases List.mem_cons.mp hy with rfl | hy
    · exact h.1
    · exact lts_at h.2 y hy
theorem Sh.mk (ρ':List V) (n:Nat) {b:Nat} {P:St→Prop} (hb:b≤n) (hf:fg ρ' ρ) (hl:lts n ρ') (hq:∀ q∈μ.take n,q.lt n) (h:P ⟨ρ',μ.take n⟩):Sh b P ⟨ρ,μ⟩:=
  .inr ⟨⟨ρ',μ.take n⟩,⟨n,hb,rfl,fg_len hf,fun i y=>fg_at i y hf,lts_at hl,hq⟩,h⟩
theorem flat_lt {q:Cell} {n:Nat} (h:q.flat=true):q.lt n:=by cases q<;>simp_all [Cell.flat,Cell.lt]
noncomputable def finK (m:Nat) (x:PyData) (qs':List Cell):PyData→St→Prop:=fun x' st2=>x'=x∧st2.μ.take m=qs'
variable {qs:List Cell}
@[simp] theorem e_fin1:finP k (.d x) qs (.ret y) st=asD y (finK k x qs) st:=rfl
@[simp] theorem e_fin2:finP k (.d x) qs .next st=finK k x qs .none st:=rfl
@[simp] theorem e_finK:finK k x qs d ⟨ρ,μ⟩=(d=x∧μ.take k=qs):=rfl
noncomputable def finN (m:Nat) (xs:List PyData) (qs':List Cell) (j:Nat) (st:St):Prop:=m≤j∧st.μ[j]?=some (.list xs)∧st.μ.take m=qs'
@[simp] theorem e_fin3:finP k (.new xs) qs (.ret (.own i)) st=finN k xs qs i st:=propext ⟨fun z6=>kEA z6 fun j e h=>by cases e; exact h,fun h=>⟨_,rfl,h⟩⟩
@[simp] theorem e_finN:finN k xs qs i ⟨ρ,μ⟩=(k≤i∧μ[i]?=some (.list xs)∧μ.take k=qs):=rfl
variable {u:V→List V→Tr V}
@[simp] theorem e_dm:dmT o ts u R st=o (dmK ts u R) st:=rfl
@[simp] theorem e_dmK1:dmK ts u R (.d (.dict kvs)) st=evsT ts (dmK2 (.d (.dict kvs)) u R) st:=rfl
noncomputable def dmC (q:Option Cell) (k:Nat) (ts:List (Tr V)) (f:V→List V→Tr V) (R:QV) (st:St):Prop:=onC q (fun _=>False) (fun kvs=>evsT ts (dmK2 (.own k) f R) st) fun _=>False
@[simp] theorem e_dmK2:dmK ts u R (.own k) ⟨ρ,μ⟩=dmC μ[k]? k ts u R ⟨ρ,μ⟩:=onO_pk _
@[simp] theorem e_dmC:dmC (some (.dict kvs)) k ts u R st=evsT ts (dmK2 (.own k) u R) st:=rfl
@[simp] theorem e_dmK3:dmK2 y u R ys st=u y ys R st:=rfl
noncomputable def orV (o:Option PyData) (y:V):V:=match o with | some z=>.d z | none=>y
@[simp low] theorem e_get1:get1 (.d (.dict kvs)) [.d x] R st=(∃ q,kyOf x=some q∧R (orV (dlook kvs q) (.d .none)) st):=rfl
@[simp low] theorem e_get2:get2 (.d (.dict kvs)) [.d x,y] R st=(∃ q,kyOf x=some q∧R (orV (dlook kvs q) y) st):=rfl
noncomputable def getC (q:Option Cell) (x:PyData) (y:V) (R:QV) (st:St):Prop:=onC q (fun _=>False) (fun kvs=>∃ q,kyOf x=some q∧R (orV (dlook kvs q) y) st) fun _=>False
@[simp] theorem e_get2':get2 (.own k) [.d x,y] R ⟨ρ,μ⟩=getC μ[k]? x y R ⟨ρ,μ⟩:=onO_pk _
@[simp low] theorem e_getC:getC (some (.dict kvs)) x y R st=(∃ q,kyOf x=some q∧R (orV (dlook kvs q) y) st):=rfl
@[simp] theorem e_fld:getT t s R st=t (fldK s R) st:=rfl
@[simp] theorem e_fldK1 {fs:List (Str×PyData)}:fldK s R (.ob fs) st=(∃ x,fs.lookup s=some x∧R (.d x) st):=rfl
noncomputable def fldC (q:Option Cell) (n:Str) (R:QV) (st:St):Prop:=match q with
  | some (.ns fs)=>∃ y,fs.lookup n=some y∧R y st
  | _=>False
@[simp] theorem e_fldK2:fldK s R (.inst k) ⟨ρ,μ⟩=fldC μ[k]? s R ⟨ρ,μ⟩:=rfl
@[simp] theorem e_fldC {fs:List (Str×V)}:fldC (some (.ns fs)) s R st=(∃ y,fs.lookup s=some y∧R y st):=rfl
variable {cap:List (Str×Nat)}
@[simp] theorem e_lc:lcT v t c r cap R st=t (lcK0 v c r cap R) st:=rfl
@[simp] theorem e_lcK0:lcK0 v c r cap R y st=itV y (lcK v c r cap R) st:=rfl
@[simp] theorem e_dc:dcT t c l r cap R st=t (dcK0 c l r cap R) st:=rfl
@[simp] theorem e_dcK0:dcK0 c l r cap R y st=itV y (dcK c l r cap R) st:=rfl
@[simp] theorem e_yes:yesT B st=B true st:=rfl
@[simp] theorem e_d1:dict1T l r R ⟨ρ,μ⟩=l (d1K r μ.length R) ⟨ρ,μ++[.dict []]⟩:=rfl
@[simp] theorem e_d1K:d1K r k R (.d x) st=r (d1K2 (.d x) k R) st:=rfl
@[simp] theorem e_d1K2:d1K2 (.d x) k R z st=asD z (d1K3 x k R) st:=rfl
@[simp] theorem e_d1K3:d1K3 x k R d ⟨ρ,μ⟩=(∃ q,kyOf x=some q∧μ[k]?=some (.dict [])∧R (.own k) ⟨ρ,μ.set k (.dict [(kD q,d)])⟩):=rfl
@[simp] theorem e_srt1:srtO v [.d (.list xs)] R st=srtK v xs R st:=rfl
@[simp] theorem e_srt2:srtO v [.own k] R ⟨ρ,μ⟩=srtC μ[k]? v R ⟨ρ,μ⟩:=rfl
@[simp] theorem e_srt3:srtO v [.d (.dict kvs)] R st=srtK v (kvs.map (·.1)) R st:=rfl
@[simp] theorem e_srtC1:srtC (some (.list xs)) v R st=srtK v xs R st:=rfl
@[simp] theorem e_srtC2:srtC (some (.dict kvs)) v R st=srtK v (kvs.map (·.1)) R st:=rfl
@[simp] theorem e_srtC3 {tk:List (List Ky×PyData)}:srtC (some (.tdict tk)) v R st=srtK v (tkeys tk) R st:=rfl
@[simp] theorem e_make:makeT ts p k R st=evsT ts (mkK p k R) st:=rfl
@[simp] theorem e_mkK:mkK p k R ys ⟨ρ,μ⟩=((∀ q∈μ,q.alive=true)∧p (mkF μ.length ρ R) ⟨.inst μ.length :: ys++List.replicate k .u,μ++[.ns []]⟩):=rfl
@[simp] theorem e_mkF {ρ':List V}:mkF k ρ R .next ⟨ρ',μ⟩=((∀ q∈μ,q.alive=true)∧R (.inst k) ⟨ρ,μ⟩):=propext ⟨fun h=>h.2,fun h=>⟨rfl,h⟩⟩
noncomputable def atrC (q:Option Cell) (k:Nat) (n:Str) (y:V) (Q:QF) (st:St):Prop:=match q with
  | some (.ns fs)=>y≠.u∧fs.length≤100∧Q .next (setC st k (.ns ((n,y) :: fs)))
  | _=>False
@[simp] theorem e_atr:atrT t o s Q st=t (atrK1 o s Q) st:=rfl
@[simp] theorem e_atrK1:atrK1 o s Q y st=o (atrK2 s y Q) st:=rfl
@[simp] theorem e_atrK2:atrK2 s y Q (.inst k) ⟨ρ,μ⟩=atrC μ[k]? k s y Q ⟨ρ,μ⟩:=rfl
@[simp] theorem e_atrC {fs:List (Str×V)}:atrC (some (.ns fs)) k s y Q ⟨ρ,μ⟩=(y≠.u∧fs.length≤100∧Q .next ⟨ρ,μ.set k (.ns ((s,y) :: fs))⟩):=rfl
@[simp] theorem e_pick4 {α:Type} {a b c d e:α} {l:List α}:pick (a :: b :: c :: d :: e :: l) 4=some e:=rfl
theorem e_ibeq {i j:Int}:(i==j)=decide (i=j):=by by_cases h:i=j<;>rfl
@[simp] theorem e_pick0 {α:Type} {a:α} {l:List α}:pick (a :: l) 0=some a:=rfl
@[simp] theorem e_pick1 {α:Type} {a b:α} {l:List α}:pick (a :: b :: l) 1=some b:=rfl
@[simp] theorem e_pick2 {α:Type} {a b c:α} {l:List α}:pick (a :: b :: c :: l) 2=some c:=rfl
@[simp] theorem e_pick3 {α:Type} {a b c d:α} {l:List α}:pick (a :: b :: c :: d :: l) 3=some d:=rfl
@[simp] theorem e_put:St.put ⟨ρ,μ⟩ i y=⟨ρ.set i y,μ⟩:=rfl
@[simp] theorem e_gt:St.get ⟨ρ,μ⟩ i=ρ.getD i .u:=rfl
@[simp] theorem e_st0 {a b c:Nat} {ds:List V}:st0 a ds b c qs=⟨(List.range a).map .own++ds++List.replicate b (.d .none)++List.replicate c .u,qs⟩:=rfl
end
theorem sEq {a b:String}:(Str.ofString a=Str.ofString b)↔a=b:=by
  constructor
  · intro h
    simp only [Str.ofString_eq_toList,Str.ofString_eq_toList] at h
    have h1:a.toList.map Char.toNat=b.toList.map Char.toNat:=by simpa using h
    have h2:a.toList=b.toList:=(List.map_inj_right (fun x y e=>Char.ext (UInt32.toNat_inj.mp e))).mp h1
    exact String.toList_inj.mp h2
  · intro h; exact congrArg _ (h)
theorem sOk {a:String}:PyData.strOk (Str.ofString a)=true:=by
  rw [Str.ofString_eq_toList]
  unfold PyData.strOk
  simp only [List.all_toArray,List.all_eq_true]
  intro x hx
  refine kEA (List.mem_map.mp hx) fun c _ z3=>?_
  subst z3
  have:=c.valid
  simp only [Char.toNat,decide_eq_true_eq]
  refine Or.elim this (fun h=>?_) (fun z4=>?_)
  · have:c.val.toNat<0xd800:=h
    exact Nat.le_trans (by assumption) (by decide)
  · refine kA z4 fun _ h=>?_
    exact h
theorem sBeq {a b:String}:(Str.ofString a==Str.ofString b)=(a==b):=by
  rw [Bool.eq_iff_iff,beq_iff_eq,beq_iff_eq,sEq]
section
variable {t r o l a b m:Tr V} {ts:List (Tr V)} {p q:Tr Fl} {Q:QF} {R:QV} {st:St} {ρ:List V} {μ:List Cell} {i k:Nat} {y z w:V} {x x0 x1 x2 x3 d:PyData} {xs zs:List PyData} {kvs:List (PyData×PyData)} {ys:List V} {n j:Int} {s:Str} {v:Bool} {L:List PyData→St→Prop} {D:PyData→Prop} {K:Bool→Prop} {is:List Nat}
theorem cnd {X A B:Prop} (e:X=(A∧B)) (h:A):X=B:=e.trans (propext (and_iff_right h))
noncomputable def gt:Option PyData→PyData
  | some z=>z
  | none=>.none
@[simp] theorem gt_some:gt (some x)=x:=rfl
theorem cndE {X:Prop} {o:Option PyData} {P:PyData→Prop} (e:X=∃ z,o=some z∧P z) (h:o.isSome=true):X=P (gt o):=by
  rw [e]
  cases o with
  | none=>cases h
  | some z=>exact propext ⟨fun z7=>kEA z7 fun _ e h=>by cases e; exact h,fun h=>⟨_,rfl,h⟩⟩
theorem bbI {X:Prop} {n:Int} (h1 : -4611686018427387904<n) (h2:n<4611686018427387904) (e:X=(-(2^62)<n∧n<2^62∧B)):X=B:=cnd (cnd e h1) h2
@[simp high] theorem c_div (h1:0<j) (h2:j<1152921504606846976):divI (.d (.int n)) (.d (.int j)) R st=R (.d (.int (n.fdiv j))) st:=cnd e_divI ⟨h1,h2⟩
@[simp high] theorem c_mod (h:j≠0):modI (.d (.int n)) (.d (.int j)) R st=R (.d (.int (n.fmod j))) st:=cnd e_modI h
@[simp high] theorem c_shr (h:0≤j):shrI (.d (.int n)) (.d (.int j)) R st=R (.d (.int (n.fdiv (2^j.toNat)))) st:=cnd e_shrI h
@[simp high] theorem ok_str {a:String}:okd (.str (Str.ofString a))=true:=by unfold okd; simp only [PyData.canLay0,sOk]; rfl
@[simp high] theorem ok_int:okd (.int n)=true:=by unfold okd; simp only [PyData.canLay0]; rfl
@[simp 20000] theorem c_eqS {a b:String}:eqO (.d (.str (Str.ofString a))) (.d (.str (Str.ofString b))) R st=R (.d (.bool (a==b))) st:=by
  refine (cnd (cnd e_eqO ok_str) ok_str).trans ?_
  simp only [PyData.eqv,sBeq]
@[simp 20000] theorem c_neS {a b:String}:neO (.d (.str (Str.ofString a))) (.d (.str (Str.ofString b))) R st=R (.d (.bool (!(a==b)))) st:=by
  refine (cnd (cnd e_neO ok_str) ok_str).trans ?_
  simp only [PyData.eqv,sBeq]
@[simp 20000] theorem c_eqI:eqO (.d (.int n)) (.d (.int j)) R st=R (.d (.bool (decide (n=j)))) st:=by
  refine (cnd (cnd e_eqO ok_int) ok_int).trans ?_
  rfl
@[simp 20000] theorem c_neI:neO (.d (.int n)) (.d (.int j)) R st=R (.d (.bool (!decide (n=j)))) st:=by
  refine (cnd (cnd e_neO ok_int) ok_int).trans ?_
  rfl
@[simp high] theorem c_eq (h1:okd x=true) (h2:okd d=true):eqO (.d x) (.d d) R st=R (.d (.bool (x.eqv d))) st:=cnd (cnd e_eqO h1) h2
@[simp high] theorem c_ne (h1:okd x=true) (h2:okd d=true):neO (.d x) (.d d) R st=R (.d (.bool (!x.eqv d))) st:=cnd (cnd e_neO h1) h2
@[simp high] theorem c_neC (h1:okd (.list xs)=true) (h2:okd d=true):neOC (some (.list xs)) d R st=R (.d (.bool (!(PyData.list xs).eqv d))) st:=cnd (cnd e_neOC h1) h2
@[simp high] theorem c_in1 (h1:okd x=true) (h2:PyData.canLayAll0 xs=true):inO (.d x) (.d (.list xs)) R st=R (.d (.bool (xs.any fun y=>y.eqv x))) st:=cnd (cnd e_inO1 h1) h2
@[simp high] theorem c_in2 (h1:okd x=true) (h2:PyData.canLayAll0 xs=true):inO (.d x) (.d (.tuple xs)) R st=R (.d (.bool (xs.any fun y=>y.eqv x))) st:=cnd (cnd e_inO2 h1) h2
@[simp high] theorem c_ni1 (h1:okd x=true) (h2:PyData.canLayAll0 xs=true):niO (.d x) (.d (.list xs)) R st=R (.d (.bool (!(xs.any fun y=>y.eqv x)))) st:=cnd (cnd e_niO1 h1) h2
@[simp high] theorem c_ni2 (h1:okd x=true) (h2:PyData.canLayAll0 xs=true):niO (.d x) (.d (.tuple xs)) R st=R (.d (.bool (!(xs.any fun y=>y.eqv x)))) st:=cnd (cnd e_niO2 h1) h2
@[simp high] theorem ok_ts {a:String}:okd (.tuple [.str (Str.ofString a)])=true:=by unfold okd; simp only [PyData.canLay0,PyData.canLayAll0,PyData.canLay0,sOk]; rfl
@[simp high] theorem ok_tsi {a:String}:okd (.tuple [.str (Str.ofString a),.int n])=true:=by unfold okd; simp only [PyData.canLay0,PyData.canLayAll0,PyData.canLay0,sOk]; rfl
theorem lay_str {a:String}:PyData.canLay0 (.str (Str.ofString a))=true:=by rw [PyData.canLay0,sOk]
theorem lay_all2 (h1:x.canLay0=true) (h2:d.canLay0=true):PyData.canLayAll0 [x,d]=true:=by simp only [PyData.canLayAll0,PyData.canLayAll0,PyData.canLayAll0,h1,h2]; rfl
theorem lay_all3 (h0:x0.canLay0=true) (h1:x.canLay0=true) (h2:d.canLay0=true):PyData.canLayAll0 [x0,x,d]=true:=by rw [PyData.canLayAll0,lay_all2 h1 h2,h0]; rfl
theorem lay_int:PyData.canLay0 (.int n)=true:=by rw [PyData.canLay0]
@[simp] theorem c_inS {a b:String}:(PyData.str (Str.ofString a)).eqv (.str (Str.ofString b))=(a==b):=by rw [PyData.eqv,sBeq]
@[simp] theorem c_inI:(PyData.int n).eqv (.int j)=decide (n=j):=by rfl
theorem eqv_tsi {a b:String} {n j:Int}:(PyData.tuple [.str (Str.ofString a),.int n]).eqv (.tuple [.str (Str.ofString b),.int j])=(a==b&&decide (n=j)):=by
  rw [PyData.eqv,PyData.eqvAll,PyData.eqvAll,PyData.eqvAll,c_inS,c_inI,Bool.and_true]
@[simp 20000] theorem c_inS2 {a b c:String}:inO (.d (.str (Str.ofString a))) (.d (.list [.str (Str.ofString b),.str (Str.ofString c)])) R st=R (.d (.bool (b==a||c==a))) st:=by
  simp only [c_in1 ok_str (lay_all2 lay_str lay_str),List.any_cons,List.any_cons,List.any_nil,c_inS,c_inS,Bool.or_false]
@[simp 20000] theorem c_inS3 {a b c e:String}:inO (.d (.str (Str.ofString a))) (.d (.list [.str (Str.ofString b),.str (Str.ofString c),.str (Str.ofString e)])) R st=R (.d (.bool (b==a||(c==a||e==a)))) st:=by
  simp only [c_in1 ok_str (lay_all3 lay_str lay_str lay_str),List.any_cons,List.any_cons,List.any_cons,List.any_nil,c_inS,c_inS,c_inS,Bool.or_false]
@[simp 20000] theorem c_inI2 {n a b:Int}:inO (.d (.int n)) (.d (.list [.int a,.int b])) R st=R (.d (.bool (decide (a=n)||decide (b=n)))) st:=by
  simp only [c_in1 ok_int (lay_all2 lay_int lay_int),List.any_cons,List.any_cons,List.any_nil,c_inI,c_inI,Bool.or_false]
@[simp 20000] theorem c_inT2 {n a b:Int}:inO (.d (.int n)) (.d (.tuple [.int a,.int b])) R st=R (.d (.bool (decide (a=n)||decide (b=n)))) st:=by
  simp only [c_in2 ok_int (lay_all2 lay_int lay_int),List.any_cons,List.any_cons,List.any_nil,c_inI,c_inI,Bool.or_false]
@[simp 20000] theorem c_inI3 {n a b c:Int}:inO (.d (.int n)) (.d (.list [.int a,.int b,.int c])) R st=R (.d (.bool (decide (a=n)||(decide (b=n)||decide (c=n))))) st:=by
  simp only [c_in1 ok_int (lay_all3 lay_int lay_int lay_int),List.any_cons,List.any_cons,List.any_cons,List.any_nil,c_inI,c_inI,c_inI,Bool.or_false]
@[simp high] theorem ok_ssii {a b:String}:okd (.tuple [.str (Str.ofString a),.str (Str.ofString b),.int n,.int j])=true:=by unfold okd; simp only [PyData.canLay0,PyData.canLayAll0,PyData.canLay0,PyData.canLayAll0,PyData.canLay0,sOk,sOk]; rfl
@[simp high] theorem ok_siii {a:String} {i:Int}:okd (.tuple [.str (Str.ofString a),.int i,.int n,.int j])=true:=by unfold okd; simp only [PyData.canLay0,PyData.canLayAll0,PyData.canLay0,sOk]; rfl
@[simp high] theorem ok_nil:okd (.list [])=true:=by unfold okd; simp only [PyData.canLay0,PyData.canLayAll0]; rfl
theorem cndQ {X:Prop} {q0:Ky} {P:Ky→Prop} (e:X=∃ q,some q0=some q∧P q):X=P q0:=e.trans (propext ⟨fun z8=>kEA z8 fun _ e h=>by cases e; exact h,fun h=>⟨_,rfl,h⟩⟩)
@[simp high] theorem c_inD:inO (.d (.int n)) (.d (.dict kvs)) R st=R (.d (.bool (dlook kvs (.int n)).isSome)) st:=cndQ (q0:=.int n) (P:=fun q=>R (.d (.bool (dlook kvs q).isSome)) st) e_inO4
@[simp high] theorem c_niD:niO (.d (.int n)) (.d (.dict kvs)) R st=R (.d (.bool (!(dlook kvs (.int n)).isSome))) st:=cndQ (q0:=.int n) (P:=fun q=>R (.d (.bool (!(dlook kvs q).isSome))) st) e_niO4
@[simp high] theorem c_inC1 (h1:okd x=true) (h2:PyData.canLayAll0 xs=true):inC (some (.list xs)) x K=K (xs.any fun y=>y.eqv x):=cnd (cnd e_inC1 h1) h2
@[simp high] theorem c_inC2:inC (some (.dict kvs)) (.int n) K=K (dlook kvs (.int n)).isSome:=cndQ (q0:=.int n) (P:=fun q=>K (dlook kvs q).isSome) e_inC2
@[simp 20000] theorem c_t0:subO (.d (.tuple (x :: xs))) (.d (.int 0)) R st=R (.d x) st:=cndE (bbI (by decide) (by decide) e_sub2) rfl
@[simp 20000] theorem c_t1:subO (.d (.tuple (x0 :: x :: xs))) (.d (.int 1)) R st=R (.d x) st:=cndE (bbI (by decide) (by decide) e_sub2) rfl
@[simp 20000] theorem c_t2:subO (.d (.tuple (x0 :: x1 :: x :: xs))) (.d (.int 2)) R st=R (.d x) st:=cndE (bbI (by decide) (by decide) e_sub2) rfl
@[simp 20000] theorem c_t3:subO (.d (.tuple (x0 :: x1 :: x2 :: x :: xs))) (.d (.int 3)) R st=R (.d x) st:=cndE (bbI (by decide) (by decide) e_sub2) rfl
@[simp 20000] theorem c_l0:subO (.d (.list (x :: xs))) (.d (.int 0)) R st=R (.d x) st:=cndE (bbI (by decide) (by decide) e_sub1) rfl
@[simp 20000] theorem c_l1:subO (.d (.list (x0 :: x :: xs))) (.d (.int 1)) R st=R (.d x) st:=cndE (bbI (by decide) (by decide) e_sub1) rfl
@[simp 20000] theorem c_l2:subO (.d (.list (x0 :: x1 :: x :: xs))) (.d (.int 2)) R st=R (.d x) st:=cndE (bbI (by decide) (by decide) e_sub1) rfl
@[simp 20000] theorem c_l3:subO (.d (.list (x0 :: x1 :: x2 :: x :: xs))) (.d (.int 3)) R st=R (.d x) st:=cndE (bbI (by decide) (by decide) e_sub1) rfl
@[simp high] theorem c_sub1 (h1 : -4611686018427387904<n) (h2:n<4611686018427387904) (h:(pick xs n).isSome=true):subO (.d (.list xs)) (.d (.int n)) R st=R (.d (gt (pick xs n))) st:=cndE (bbI h1 h2 e_sub1) h
@[simp high] theorem c_sub2 (h1 : -4611686018427387904<n) (h2:n<4611686018427387904) (h:(pick xs n).isSome=true):subO (.d (.tuple xs)) (.d (.int n)) R st=R (.d (gt (pick xs n))) st:=cndE (bbI h1 h2 e_sub2) h
@[simp high] theorem c_subC1 (h1 : -4611686018427387904<n) (h2:n<4611686018427387904) (h:(pick xs n).isSome=true):subC (some (.list xs)) (.int n) D=D (gt (pick xs n)):=cndE (bbI h1 h2 e_subC1) h
theorem cndD {X:Prop} {q0:Ky} {o:Ky→Option PyData} {P:PyData→Prop} (e:X=∃ q z,some q0=some q∧o q=some z∧P z) (h:(o q0).isSome=true):X=P (gt (o q0)):=
  cndE (e.trans (propext ⟨fun z9=>kEEA z9 fun _ z e h=>by cases e; exact ⟨z,h⟩,fun z12=>kE z12 fun z h=>⟨_,z,rfl,h⟩⟩)) h
@[simp high] theorem c_sub3 (h:(dlook kvs (.int n)).isSome=true):subO (.d (.dict kvs)) (.d (.int n)) R st=R (.d (gt (dlook kvs (.int n)))) st:=cndD (q0:=.int n) (o:=dlook kvs) (P:=fun z=>R (.d z) st) e_sub3 h
@[simp high] theorem c_subC2 (h:(dlook kvs (.int n)).isSome=true):subC (some (.dict kvs)) (.int n) D=D (gt (dlook kvs (.int n))):=cndD (q0:=.int n) (o:=dlook kvs) (P:=fun z=>D z) e_subC2 h
@[simp high] theorem c_addL (h:xs.length+zs.length≤1048576):addL v (.d (.list xs)) (.d (.list zs)) R st=newlT v (xs++zs) R st:=cnd e_addL h
@[simp high] theorem c_mulL (h1:0≤n) (h2:n≤1000):mulL v (.d (.list [x])) (.d (.int n)) R st=newlT v (List.replicate n.toNat x) R st:=cnd (cnd e_mulL h1) h2
@[simp high] theorem c_slTo (h1:0≤n) (h2:xs.length≤1048576):slTo v (.d (.list xs)) (.d (.int n)) R st=newlT v (xs.take n.toNat) R st:=cnd (cnd e_slTo h1) h2
@[simp high] theorem c_len1 (h:xs.length≤1048576):lenO [.d (.list xs)] R st=R (.d (.int xs.length)) st:=cnd e_len1 h
@[simp high] theorem c_len2 (h:xs.length≤1048576):lenO [.d (.tuple xs)] R st=R (.d (.int xs.length)) st:=cnd e_len2 h
@[simp high] theorem c_lenC (h:xs.length≤1048576):lenC (some (.list xs)) R st=R (.d (.int xs.length)) st:=cnd e_lenC h
@[simp high] theorem c_listO1 (h:xs.length≤1048576):listO v [.d (.list xs)] R st=newlT v xs R st:=cnd e_listO1 h
@[simp high] theorem c_listO2 (h:xs.length≤1048576):listO v [.d (.tuple xs)] R st=newlT v xs R st:=cnd e_listO2 h
@[simp high] theorem c_tupC (h:xs.length≤1048576):tupC (some (.list xs)) R st=R (.d (.tuple xs)) st:=cnd e_tupC h
@[simp high] theorem c_dictD (h:kvs.length≤1048576):dictD [.d (.dict kvs)] R st=R (.d (.dict kvs)) st:=cnd e_dictD h
@[simp high] theorem c_appC (h:xs.length≤1048576):appC (some (.list xs)) k x R ⟨ρ,μ⟩=R (.d .none) ⟨ρ,μ.set k (.list (xs++[x]))⟩:=cnd e_appC h
@[simp high] theorem c_popC (h:xs.length≤1048576) (h2:xs.getLast?.isSome=true):popC (some (.list xs)) k R ⟨ρ,μ⟩=R (.d (gt xs.getLast?)) ⟨ρ,μ.set k (.list xs.dropLast)⟩:=cndE (cnd e_popC h) h2
@[simp high] theorem c_popI (h:xs.length≤1048576) (h0:0≤n) (h2:xs[n.toNat]?.isSome=true):popI (some (.list xs)) k n R ⟨ρ,μ⟩=R (.d (gt xs[n.toNat]?)) ⟨ρ,μ.set k (.list (xs.eraseIdx n.toNat))⟩:=cndE (cnd (cnd e_popI h) h0) h2
@[simp high] theorem c_revC (h:xs.length≤1048576):revC (some (.list xs)) k R ⟨ρ,μ⟩=R (.d .none) ⟨ρ,μ.set k (.list xs.reverse)⟩:=cnd e_revC h
@[simp high] theorem c_insC (h:xs.length≤1048576) (h0:0≤n) (h1:n≤xs.length):insC (some (.list xs)) k n x R ⟨ρ,μ⟩=R (.d .none) ⟨ρ,μ.set k (.list (xs.take n.toNat++x :: xs.drop n.toNat))⟩:=cnd (cnd (cnd e_insC h) h0) h1
@[simp high] theorem c_setC1 (h0:0≤n) (h1:n<xs.length) (h:xs.length≤1048576):setCK (some (.list xs)) k (.d (.int n)) x Q ⟨ρ,μ⟩=Q .next ⟨ρ,μ.set k (.list (xs.set n.toNat x))⟩:=cnd (cnd (cnd e_setC1 h0) h1) h
@[simp high] theorem c_setC2 (h:kvs.length≤1048576):setCK (some (.dict kvs)) k (.d (.int n)) x Q ⟨ρ,μ⟩=Q .next ⟨ρ,μ.set k (.dict (dput kvs (.int n) x))⟩:=cnd e_setC2 h
@[simp high] theorem c_unp (h:xs.length=is.length):unpK is Q (.d (.tuple xs)) st=Q .next (puts is xs st):=cnd e_unpK h
@[simp high] theorem c_it1 (h:k≤1048576):itV (.rng k) L st=L (rngL k) st:=cnd e_it1 h
@[simp high] theorem c_itK1 (h:xs.length≤1048576):itK L (.list xs) st=L xs st:=cnd e_itK1 h
@[simp high] theorem c_itK2 (h:xs.length≤1048576):itK L (.tuple xs) st=L xs st:=cnd e_itK2 h
@[simp high] theorem c_itK3 (h:kvs.length≤1048576):itK L (.dict kvs) st=L (kvs.map (·.1)) st:=cnd e_itK3 (by rw [List.length_map]; exact h)
@[simp high] theorem c_get1:get1 (.d (.dict kvs)) [.d (.int n)] R st=R (orV (dlook kvs (.int n)) (.d .none)) st:=cndQ (q0:=.int n) (P:=fun q=>R (orV (dlook kvs q) (.d .none)) st) e_get1
@[simp high] theorem c_get2:get2 (.d (.dict kvs)) [.d (.int n),y] R st=R (orV (dlook kvs (.int n)) y) st:=cndQ (q0:=.int n) (P:=fun q=>R (orV (dlook kvs q) y) st) e_get2
@[simp high] theorem c_getC:getC (some (.dict kvs)) (.int n) y R st=R (orV (dlook kvs (.int n)) y) st:=cndQ (q0:=.int n) (P:=fun q=>R (orV (dlook kvs q) y) st) e_getC
noncomputable def forU (tg:Tg) (body:Tr Fl) (Q:QF) (n:Nat):List PyData→St→Prop
  | [],st=>Q .next st
  | x :: xs,st=>∃ st4,tg.bind x st=some st4∧body (loopK Q (Sh n (forU tg body Q n xs))) st4
theorem forU_at {tg:Tg} {b:Tr Fl} {n:Nat} {i:Nat} {z:PyData} (h:xs[i]?=some z) (hf:forU tg b Q n (xs.drop i) st):∃ st4,tg.bind z st=some st4∧b (loopK Q (Sh n (forU tg b Q n (xs.drop (i+1))))) st4:=by
  have ⟨hi,hz⟩:=List.getElem?_eq_some_iff.mp h
  rw [List.drop_eq_getElem_cons hi,hz] at hf
  exact hf
theorem forK_U {tg:Tg} {b:Tr Fl} (h:forU tg b Q st.μ.length xs st):forK tg b Q xs st:=
  ⟨fun i=>forU tg b Q st.μ.length (xs.drop i),h,fun _ _ _ hz hf=>forU_at hz hf,fun s hf=>cast (congrArg (fun l=>forU tg b Q st.μ.length l s) List.drop_length) hf⟩
theorem forU_0 {tg:Tg} {b:Tr Fl} {n:Nat} (h:Q .next st):forU tg b Q n [] st:=h
theorem forU_1 {tg:Tg} {b:Tr Fl} {n:Nat} {st4:St} (e:tg.bind x st=some st4) (h:b (loopK Q (Sh n (forU tg b Q n xs))) st4):forU tg b Q n (x :: xs) st:=⟨st4,e,h⟩
noncomputable def kp:Nat→List V→List V
  | 0,ys=>ys.map fun _=>.u
  | _+1,[]=>[]
  | j+1,y :: ys=>y :: kp j ys
noncomputable def V.ltb (n:Nat):V→Bool
  | .own k | .inst k=>Nat.blt k n
  | _=>true
noncomputable def Cell.ltb (n:Nat):Cell→Bool
  | .ns fs=>fs.all fun p=>p.2.ltb n
  | _=>true
theorem V.ltb_lt {n:Nat} {y:V} (h:y.ltb n=true):y.lt n:=by
  cases y with
  | own k=>exact Nat.le_of_ble_eq_true h
  | inst k=>exact Nat.le_of_ble_eq_true h
  | _=>trivial
theorem Cell.ltb_lt {n:Nat} {q:Cell} (h:q.ltb n=true):q.lt n:=by
  cases q with
  | ns fs=>exact fun p hp=>V.ltb_lt (List.all_eq_true.mp h p hp)
  | _=>trivial
theorem fg_kp:∀ (j:Nat) (ys:List V),fg (kp j ys) ys
  | 0,[]=>trivial
  | 0,_ :: ys=>⟨.inl rfl,fg_kp 0 ys⟩
  | _+1,[]=>trivial
  | j+1,_ :: ys=>⟨.inr rfl,fg_kp j ys⟩
theorem lts_all {n:Nat}:∀ {ys:List V},(∀ y∈ys,y.lt n)→lts n ys
  | [],_=>trivial
  | _ :: _,h=>⟨h _ List.mem_cons_self,lts_all fun y hy=>h y (List.mem_cons_of_mem _ hy)⟩
theorem Sh.kp (j n:Nat) {b:Nat} {P:St→Prop} (h:P ⟨Mine.kp j ρ,μ.take n⟩) (hb:Nat.ble b n=true) (hl:(Mine.kp j ρ).all (V.ltb n)=true) (hq:(μ.take n).all (Cell.ltb n)=true):Sh b P ⟨ρ,μ⟩:=
  Sh.mk _ n (Nat.le_of_ble_eq_true hb) (fg_kp j ρ) (lts_all fun y hy=>V.ltb_lt (List.all_eq_true.mp hl y hy)) (fun q hq'=>Cell.ltb_lt (List.all_eq_true.mp hq q hq')) h
theorem Sh.kpQ (j n:Nat) {b:Nat} {P:St→Prop} (h:P ⟨Mine.kp j ρ,μ.take n⟩) (hb:Nat.ble b n=true) (hl:(Mine.kp j ρ).all (V.ltb n)=true) (hq:∀ q∈μ.take n,q.lt n):Sh b P ⟨ρ,μ⟩:=
  Sh.mk _ n (Nat.le_of_ble_eq_true hb) (fg_kp j ρ) (lts_all fun y hy=>V.ltb_lt (List.all_eq_true.mp hl y hy)) hq h
noncomputable def kpm:List Bool→List V→List V
  | [],ys=>ys.map fun _=>.u
  | _ :: _,[]=>[]
  | true :: m,y :: ys=>y :: kpm m ys
  | false :: m,_ :: ys=>.u :: kpm m ys
theorem fg_kpm:∀ (m:List Bool) (ys:List V),fg (kpm m ys) ys
  | [],[]=>trivial
  | [],_ :: ys=>⟨.inl rfl,fg_kpm [] ys⟩
  | true :: _,[]=>trivial
  | false :: _,[]=>trivial
  | true :: m,_ :: ys=>⟨.inr rfl,fg_kpm m ys⟩
  | false :: m,_ :: ys=>⟨.inl rfl,fg_kpm m ys⟩
theorem Sh.kpm (m:List Bool) (n:Nat) {b:Nat} {P:St→Prop} (h:P ⟨Mine.kpm m ρ,μ.take n⟩) (hb:Nat.ble b n=true) (hl:(Mine.kpm m ρ).all (V.ltb n)=true) (hq:(μ.take n).all (Cell.ltb n)=true):Sh b P ⟨ρ,μ⟩:=
  Sh.mk _ n (Nat.le_of_ble_eq_true hb) (fg_kpm m ρ) (lts_all fun y hy=>V.ltb_lt (List.all_eq_true.mp hl y hy)) (fun q hq'=>Cell.ltb_lt (List.all_eq_true.mp hq q hq')) h
noncomputable def notU:V→Bool
  | .u=>false
  | _=>true
theorem notU_ne {y:V} (h:notU y=true):y≠.u:=fun e=>by rw [e] at h; cases h
theorem lcK_mk {ow:Bool} {c:Tr Bool} {cap:List (Str×Nat)} (out:PyData→Option PyData) (h1:μ.all Cell.flat=true) (h2:(cap.all fun p=>notU (ρ.getD p.2 .u))=true)
    (h3:∀ (i:Nat) (z:PyData),xs[i]?=some z→turnL c t (fun z=>cs0 ⟨ρ,μ⟩ cap (.d z)) out z) (h4:newlT ow (xs.filterMap out) R ⟨ρ,μ⟩):lcK ow c t cap R xs ⟨ρ,μ⟩:=
  ⟨fun q hq=>List.all_eq_true.mp h1 q hq,fun p hp=>notU_ne (List.all_eq_true.mp h2 p hp),out,h3,h4⟩
theorem dcK_mk {c:Tr Bool} {cap:List (Str×Nat)} (out:PyData→Option (Ky×PyData)) (h1:μ.all Cell.flat=true) (h2:(cap.all fun p=>notU (ρ.getD p.2 .u))=true)
    (h3:∀ (i:Nat) (z:PyData),xs[i]?=some z→turnD c t r (fun z=>cs0 ⟨ρ,μ⟩ cap (.d z)) out z) (h4:R (.own μ.length) ⟨ρ,μ++[.dict (dacc (xs.filterMap out))]⟩):dcK c t r cap R xs ⟨ρ,μ⟩:=
  ⟨fun q hq=>List.all_eq_true.mp h1 q hq,fun p hp=>notU_ne (List.all_eq_true.mp h2 p hp),out,h3,h4⟩
noncomputable def fin0K (x:PyData):PyData→St→Prop:=fun x' _=>x'=x
noncomputable def fin0 (x:PyData):QF:=fun f st=>asD (flV f) (fin0K x) st
theorem fin0_eq:finP 0 (.d x) []=fin0 x:=by
  funext f st
  have e:(fun (x':PyData) (st2:St)=>x'=x∧st2.μ.take 0=[])=fin0K x:=funext fun x'=>funext fun st2=>propext ⟨fun h=>h.1,fun h=>⟨h,rfl⟩⟩
  show asD (flV f) (fun (x':PyData) (st2:St)=>x'=x∧st2.μ.take 0=[]) st=asD (flV f) (fin0K x) st
  rw [e]
@[simp] theorem e_fin0:fin0 x (.ret y) st=asD y (fin0K x) st:=rfl
@[simp] theorem e_fin0n:fin0 x .next st=fin0K x .none st:=rfl
@[simp] theorem e_fin0K:fin0K x d st=(d=x):=rfl
noncomputable def ini:List V→Nat→Nat→List V
  | [],e,u=>List.replicate e (.d .none)++List.replicate u .u
  | y :: ys,e,u=>y :: ini ys e u
@[simp] theorem ini_nil {e u:Nat}:ini [] e u=List.replicate e (.d .none)++List.replicate u .u:=rfl
@[simp] theorem ini_cons {e u:Nat}:ini (y :: ys) e u=y :: ini ys e u:=rfl
theorem ini_eq {e u:Nat}:∀ ys:List V,ys++List.replicate e (.d .none)++List.replicate u .u=ini ys e u
  | []=>rfl
  | y :: ys=>congrArg (y :: ·) (ini_eq ys)
theorem le20 {n:Nat} (h:n≤1000):n≤1048576:=Nat.le_trans h (by decide)
noncomputable def opt (b:Bool) (x:PyData):List PyData:=match b with
  | true=>[x]
  | false=>[]
theorem opt_len {b:Bool}:(opt b x).length≤1:=by cases b; exact Nat.zero_le _; exact Nat.le_refl _
theorem opt_if {α:Type} {P:Prop} [h:Decidable P] {a:α} {f:α→PyData}:(if P then [] else [a]).map f=opt (!decide P) (f a):=by cases h<;>rfl
theorem set_same {α:Type} {l:List α} {k:Nat} {a:α} (h:l[k]?=some a):l.set k a=l:=by
  obtain ⟨hk,e⟩:=List.getElem?_eq_some_iff.mp h
  simp only [← e,List.set_getElem_self]
theorem appIf {b:Bool} (hρ:ρ.getD i .u = .own k) (hμ:μ[k]?=some (.list xs)) (hl:xs.length≤1048576) (ht:∀ R,t R ⟨ρ,μ⟩=R (.d x) ⟨ρ,μ⟩) (h:Q .next ⟨ρ,μ.set k (.list (xs++opt b x))⟩):ifK (exprT (lmT (nameT i) [t] appS)) skipT Q b ⟨ρ,μ⟩:=by
  cases b with
  | true=>
    simp only [e_ifK1,e_expr,e_lm,e_name,hρ,e_nm2,e_lmK,hμ,e_lmC,e_evs1,ht,e_evsK,e_evs0,e_evsK2,e_lmK2,e_app,e_asD1,e_appK,hμ,c_appC hl]
    exact h
  | false=>
    unfold opt at h
    rw [List.append_nil,set_same hμ] at h
    exact h
theorem orB {B:QB} {b c:Bool} (ht:∀ R:QV,t R st=R (.d (.bool c)) st) (h:B (b||c) st):orK (orT [tstT t]) B b st:=by
  cases b with
  | true=>exact h
  | false=>simp only [e_orK2,e_or1,e_tst,ht]; cases c<;>exact h
noncomputable def isS (S:St):St→Prop:=fun s=>s=S
theorem forK_is {tg:Tg} {b:Tr Fl} (S:Nat→St) (h0:S 0=st) (h1:∀ i z,xs[i]?=some z→∃ st4,tg.bind z (S i)=some st4∧b (loopK Q (Sh st.μ.length (isS (S (i+1))))) st4) (h2:Q .next (S xs.length)):forK tg b Q xs st:=
  ⟨fun i s=>s=S i,h0.symm,fun i z st3 e h=>by subst h; exact h1 i z e,fun st3 h=>by subst h; exact h2⟩
theorem orB2 {B:QB} {b c c':Bool} {t':Tr V} (ht:∀ R:QV,t R st=R (.d (.bool c)) st) (ht':∀ R:QV,t' R st=R (.d (.bool c')) st) (h:B (b||(c||c')) st):orK (orT [tstT t,tstT t']) B b st:=by
  cases b with
  | true=>exact h
  | false=>
    simp only [e_orK2,e_or1,e_tst,ht,e_tstK]
    exact orB ht' h
theorem forK_map1 {α:Type} {f:α→PyData} {l:List α} {b:Tr Fl} (S:Nat→St) (h0:S 0=st) (h1:∀ i a,l[i]?=some a→b (loopK Q (Sh st.μ.length (isS (S (i+1))))) ((S i).put k (.d (f a)))) (h2:Q .next (S l.length)):forK (.one k) b Q (l.map f) st:=
  forK_is S h0 (fun i z hz=>by
    rw [List.getElem?_map] at hz
    cases e:l[i]? with
    | none=>rw [e] at hz; cases hz
    | some a=>rw [e] at hz; cases hz; exact ⟨_,rfl,h1 i a e⟩) (by rw [List.length_map]; exact h2)
theorem forK_rng1 {n:Nat} {b:Tr Fl} (S:Nat→St) (h0:S 0=st) (h1:∀ i,i<n→b (loopK Q (Sh st.μ.length (isS (S (i+1))))) ((S i).put k (.d (.int i)))) (h2:Q .next (S n)):forK (.one k) b Q (rngL n) st:=
  forK_map1 S h0 (fun i a e=>by
    have ⟨hi,ha⟩:=List.getElem?_eq_some_iff.mp e
    rw [List.getElem_range] at ha
    subst ha
    exact h1 i (by simpa using hi)) (by rw [List.length_range]; exact h2)
theorem ifK_of {α:Type} {a b:Tr α} {Q:α→St→Prop} {v:Bool} (h1:v=true→a Q st) (h2:v=false→b Q st):ifK a b Q v st:=by
  cases v with
  | true=>exact h1 rfl
  | false=>exact h2 rfl
theorem andB {B:QB} {b c:Bool} (ht:∀ R:QV,t R st=R (.d (.bool c)) st) (h:B (b&&c) st):andK (andT [tstT t]) B b st:=by
  cases b with
  | false=>exact h
  | true=>simp only [e_andK1,e_and1,e_tst,ht]; cases c<;>exact h
@[simp 20000] theorem e_andK0 {B:QB} {b:Bool}:andK (andT []) B b st=B b st:=by cases b<;>rfl
@[simp 20000] theorem e_orK0 {B:QB} {b:Bool}:orK (orT []) B b st=B b st:=by cases b<;>rfl
theorem forK_mapG {α:Type} {f:α→PyData} {l:List α} {tg:Tg} {b:Tr Fl} (S:Nat→St) (h0:S 0=st) (h1:∀ i a,l[i]?=some a→∃ st4,tg.bind (f a) (S i)=some st4∧b (loopK Q (Sh st.μ.length (isS (S (i+1))))) st4) (h2:Q .next (S l.length)):forK tg b Q (l.map f) st:=
  forK_is S h0 (fun i z hz=>by
    rw [List.getElem?_map] at hz
    cases e:l[i]? with
    | none=>rw [e] at hz; cases hz
    | some a=>rw [e] at hz; cases hz; exact h1 i a e) (by rw [List.length_map]; exact h2)
theorem forK_nil {tg:Tg} {b:Tr Fl} (h:Q .next st):forK tg b Q [] st:=forK_U h
theorem orBB {B:QB} {b c c':Bool} {t1 t2:Tr Bool} (h1:∀ B:QB,t1 B st=B c st) (h2:∀ B:QB,t2 B st=B c' st) (h:B (b||(c||c')) st):orK (orT [t1,t2]) B b st:=by
  cases b with
  | true=>exact h
  | false=>
    simp only [e_orK2,e_or1,h1]
    cases c with
    | true=>exact h
    | false=>simp only [e_orK2,e_or1,h2]; cases c'<;>exact h
end
local macro_rules
  | `(tactic| simp! [$as,*])=>`(tactic| simp [e_ibeq,e_g0,e_g1,isNo,kyOf,PyData.canLay0,PyData.canLayAll0,PyData.depth,PyData.depthAll,sEq,sOk,sBeq,stills,asS,fg,lts,V.lt,Tg.bind,-List.getD_eq_getElem?_getD,$as,*])

noncomputable def HT (m n e u:Nat) (T:Tr Fl) (fn:FnR):Prop:=∀ qs ds r qs',fn qs ds r qs'→qs.length=m→ds.length+m=n→(∀ q∈qs,q.flat=true)→(∀ q∈qs',q.flat=true)∧qs'.length=m∧T (finP m r qs') (st0 m ds e u qs)
noncomputable def Pure (P:List V→PyData→Prop):FnR:=fun qs ds r qs'=>qs'=[]∧∃ x,r = .d x∧P ds x
theorem HT.pure {n e u:Nat} {T:Tr Fl} {P:List V→PyData→Prop} (h:∀ ds x,P ds x→ds.length=n→T (finP 0 (.d x) []) ⟨ds++List.replicate e (.d .none)++List.replicate u .u,[]⟩):HT 0 n e u T (Pure P):=by
  rintro qs ds r qs' ⟨rfl,x,rfl,p⟩ h1 h2 h3
  cases List.length_eq_zero_iff.mp h1
  exact ⟨by assumption,rfl,by exact h ds x p h2⟩
theorem callP {P:List V→PyData→Prop} {ys:List V} {Q:V→St→Prop} {st:St}:callO 0 (Pure P) ys Q st↔stills ys (fun ds st1=>∃ x,P ds x∧Q (.d x) st1) st:=by
  constructor
  · rintro ⟨_,h⟩
    refine cast (congrFun (congrArg (stills ys) ?_) st) h
    funext ds st1
    refine propext ⟨?_,?_⟩
    · rintro ⟨_,r,qs',⟨rfl,x,rfl,p⟩,h⟩; exact ⟨x,p,h⟩
    · rintro ⟨x,p,h⟩; exact ⟨by simp,.d x,[],⟨rfl,x,rfl,p⟩,h⟩
  · intro h
    refine ⟨List.nodup_nil,?_⟩
    refine cast (congrFun (congrArg (stills ys) ?_) st) h
    funext ds st1
    refine propext ⟨?_,?_⟩
    · rintro ⟨x,p,h⟩; exact ⟨by simp,.d x,[],⟨rfl,x,rfl,p⟩,h⟩
    · rintro ⟨_,r,qs',⟨rfl,x,rfl,p⟩,h⟩; exact ⟨x,p,h⟩
noncomputable def FnOf {α:Type} (ok:α→Prop) (enc:α→List V) (g:α→PyData):FnR:=Pure fun ds z=>∃ a,ok a∧ds=enc a∧z=g a
theorem FnOf.ht {α:Type} {ok:α→Prop} {enc:α→List V} {g:α→PyData} {n e u:Nat} {T:Tr Fl} (h:∀ a,ok a→T (fin0 (g a)) ⟨ini (enc a) e u,[]⟩):HT 0 n e u T (FnOf ok enc g):=
  HT.pure fun ds z z1 _=>kEAA z1 fun a ha hd hz=>by subst hd hz; simp only [fin0_eq,ini_eq]; exact h a ha
noncomputable def Stl:List V→Prop
  | []=>True
  | .d _ :: r=>Stl r
  | .ob _ :: r=>Stl r
  | _=>False
theorem stills_of:∀ {ys:List V} {Q:List V→St→Prop} {st:St},Stl ys→(stills ys Q st↔Q ys st)
  | [],Q,st,_=>Iff.rfl
  | .d x :: r,Q,st,h=>by
    exact stills_of (ys:=r) h
  | .ob x :: r,Q,st,h=>by
    exact stills_of (ys:=r) h
theorem FnOf.call {α:Type} {ok:α→Prop} {enc:α→List V} {g:α→PyData} {Q:V→St→Prop} {st:St} (a:α) (ha:ok a) (hs:Stl (enc a)) (h:Q (.d (g a)) st):callO 0 (FnOf ok enc g) (enc a) Q st:=
  callP.mpr ((stills_of hs).mpr ⟨_,⟨a,ha,rfl,rfl⟩,h⟩)
noncomputable def flagV (i c v:Int):PyData:=.tuple [.int i,.int (i.fdiv (2^(31:Int).toNat)),.int (if i=0 then 1 else 0),.int c,.int v,.none]
noncomputable def R_flagged:FnR:=FnOf (fun (_:Int×Int×Int)=>True) (fun a=>[.d (.int a.1),.d (.int a.2.1),.d (.int a.2.2)]) fun a=>flagV a.1 a.2.1 a.2.2
theorem t_flagged:HT 0 3 1 0 T_flagged R_flagged:=FnOf.ht fun ⟨i,c,v⟩ _=>by
  by_cases h:i=0<;>simp! [T_flagged,flagV,h]
noncomputable def addV (x y:Int):PyData:=flagV (Builtin.bitAnd (x+y) 4294967295) ((x+y).fdiv (2^(32:Int).toNat)) ((Builtin.bitAnd (Builtin.bitXor x (Builtin.bitAnd (x+y) 4294967295)) (Builtin.bitXor y (Builtin.bitAnd (x+y) 4294967295))).fdiv (2^(31:Int).toNat))
noncomputable def subV (x y:Int):PyData:=flagV (Builtin.bitAnd (x - y) 4294967295) (if x<y then 1 else 0) ((Builtin.bitAnd (Builtin.bitXor x y) (Builtin.bitXor x (Builtin.bitAnd (x - y) 4294967295))).fdiv (2^(31:Int).toNat))
noncomputable def R_add:FnR:=FnOf (fun (_:Int×Int)=>True) (fun a=>[.d (.int a.1),.d (.int a.2)]) fun a=>addV a.1 a.2
noncomputable def R_sub:FnR:=FnOf (fun (_:Int×Int)=>True) (fun a=>[.d (.int a.1),.d (.int a.2)]) fun a=>subV a.1 a.2
noncomputable def R_operate:FnR:=FnOf (fun (_:Bool×Int×Int)=>True) (fun a=>[.d (.str (if a.1 then "ADD" else "SUB")),.d (.int a.2.1),.d (.int a.2.2)]) fun a=>if a.1 then addV a.2.1 a.2.2 else subV a.2.1 a.2.2
theorem t_add:HT 0 2 0 4 (T_add R_flagged) R_add:=FnOf.ht fun ⟨x,y⟩ _=>by
  simp! [T_add]
  exact FnOf.call (_,_,_) trivial trivial rfl
theorem t_sub:HT 0 2 0 3 (T_sub R_flagged) R_sub:=FnOf.ht fun ⟨x,y⟩ _=>by
  by_cases h:x<y<;>simp! [T_sub,h]
  · exact FnOf.call (_,_,_) trivial trivial (by unfold subV; rw [if_pos h]; rfl)
  · exact FnOf.call (_,_,_) trivial trivial (by unfold subV; rw [if_neg h]; rfl)
theorem t_operate:HT 0 3 0 0 (T_operate R_add R_sub) R_operate:=FnOf.ht fun ⟨b,x,y⟩ _=>by
  cases b with
  | true=>
    simp! [T_operate]
    exact FnOf.call (_,_) trivial trivial rfl
  | false=>
    simp! [T_operate]
    exact FnOf.call (_,_) trivial trivial rfl
inductive Row where
  | bl | br
  | b (d:Nat) (e:Int)
  | str (a b:Nat) (k:Int)
  | ldr (a b:Nat) (k:Int)
  | subi (a b:Nat) (k:Int)
  | addi (a b:Nat) (k:Int)
  | movi (a:Nat) (k:Int)
  | mov (a c:Nat)
noncomputable def Row.enc (r:Row):List Int:=Row.casesOn (motive:=fun _=>List Int) r [0] [1] (fun d e=>[2,d,e]) (fun a b k=>[3,a,b,k]) (fun a b k=>[4,a,b,k]) (fun a b k=>[5,a,b,k]) (fun a b k=>[6,a,b,k]) (fun a k=>[7,a,k]) fun a c=>[8,a,c]
noncomputable def Row.dec (l:List Int):Row:=
  let t:=l.getD 0 0; let a:=(l.getD 1 0).toNat; let b:=(l.getD 2 0).toNat; let k:=l.getD 3 0
  if t=0 then .bl else if t=1 then .br else if t=2 then .b a (l.getD 2 0) else if t=3 then .str a b k else if t=4 then .ldr a b k else if t=5 then .subi a b k else if t=6 then .addi a b k else if t=7 then .movi a (l.getD 2 0) else .mov a b
theorem Row.enc_dec (r:Row):Row.dec r.enc=r:=by cases r<;>rfl
noncomputable instance:DecidableEq Row:=fun a b=>decidable_of_iff (a.enc=b.enc) ⟨fun h=>(Row.enc_dec a).symm.trans ((congrArg Row.dec h).trans (Row.enc_dec b)),congrArg _⟩
noncomputable def eRow:Row→PyData
  | .bl=>.tuple [.str "BL",.str "AL",.int 0,.int 0]
  | .br=>.tuple [.str "BR",.str "AL",.int 15,.int 0]
  | .b d e=>.tuple [.str "B",.str "EQ",.int d,.int e]
  | .str a b k=>.tuple [.str "STR",.int a,.int b,.int k]
  | .ldr a b k=>.tuple [.str "LDR",.int a,.int b,.int k]
  | .subi a b k=>.tuple [.str "SUBI",.int a,.int b,.int k]
  | .addi a b k=>.tuple [.str "ADDI",.int a,.int b,.int k]
  | .movi a k=>.tuple [.str "MOVI",.int a,.int 0,.int k]
  | .mov a c=>.tuple [.str "MOV",.int a,.int 0,.int c]
noncomputable def nm:Row→String
  | .bl => "BL" | .br => "BR" | .b .. => "B" | .str .. => "STR" | .ldr .. => "LDR" | .subi .. => "SUBI" | .addi .. => "ADDI" | .movi .. => "MOVI" | .mov .. => "MOV"
noncomputable def x1:Row→PyData
  | .bl=>.str "AL" | .br=>.str "AL" | .b _ _=>.str "EQ" | .str a _ _=>.int a | .ldr a _ _=>.int a | .subi a _ _=>.int a | .addi a _ _=>.int a | .movi a _=>.int a | .mov a _=>.int a
noncomputable def x2:Row→PyData
  | .bl=>.int 0 | .br=>.int 15 | .b d _=>.int d | .str _ b _=>.int b | .ldr _ b _=>.int b | .subi _ b _=>.int b | .addi _ b _=>.int b | .movi _ _=>.int 0 | .mov _ _=>.int 0
noncomputable def x3:Row→Int
  | .bl=>0 | .br=>0 | .b _ e=>e | .str _ _ k=>k | .ldr _ _ k=>k | .subi _ _ k=>k | .addi _ _ k=>k | .movi _ k=>k | .mov _ c=>c
theorem eRow_parts (r:Row):eRow r = .tuple [.str (nm r),x1 r,x2 r,.int (x3 r)]:=by cases r<;>rfl
@[simp 20000] theorem c_row0 {r:Row} {R:QV} {st:St}:subO (.d (eRow r)) (.d (.int 0)) R st=R (.d (.str (Str.ofString (nm r)))) st:=by rw [eRow_parts]; exact c_t0
@[simp 20000] theorem c_row1 {r:Row} {R:QV} {st:St}:subO (.d (eRow r)) (.d (.int 1)) R st=R (.d (x1 r)) st:=by rw [eRow_parts]; exact c_t1
@[simp 20000] theorem c_row2 {r:Row} {R:QV} {st:St}:subO (.d (eRow r)) (.d (.int 2)) R st=R (.d (x2 r)) st:=by rw [eRow_parts]; exact c_t2
@[simp 20000] theorem c_row3 {r:Row} {R:QV} {st:St}:subO (.d (eRow r)) (.d (.int 3)) R st=R (.d (.int (x3 r))) st:=by rw [eRow_parts]; exact c_t3
@[simp high] theorem ok_row (r:Row):okd (eRow r)=true:=by cases r<;>simp [eRow]
noncomputable abbrev rowsD (R:List Row):PyData:=.list (R.map eRow)
noncomputable def Row.ok:Row→Prop
  | .bl=>True
  | .br=>True
  | .b _ _=>True
  | .str a c _=>a<16∧c<16
  | .ldr a c _=>a<16∧c<16
  | .subi a c k=>a<16∧c<16∧-1000≤k∧k≤1000
  | .addi a c k=>a<16∧c<16∧-1000≤k∧k≤1000
  | .movi a _=>a<16
  | .mov a c=>a<16∧c<16
noncomputable def R_target_of:FnR:=FnOf (fun (a:Nat×Int×Nat)=>True) (fun a=>[.d (eRow (.b a.1 a.2.1)),.d (.int a.2.2)]) (fun a=>.int ((a.2.2+1+a.1:Nat):Int))
theorem t_target_of:HT 0 2 0 0 T_target_of R_target_of:=FnOf.ht fun ⟨d,e,i⟩ _=>by
  simp! [T_target_of,eRow]
noncomputable def Row.falls:Row→Bool
  | .br=>false
  | _=>true
noncomputable def R_falls_through:FnR:=FnOf (fun _=>True) (fun r=>[.d (eRow r)]) (fun r=>.bool r.falls)
theorem t_falls_through:HT 0 1 0 1 T_falls_through R_falls_through:=FnOf.ht fun r _=>by
  have other:(nm r == "B")=false→(nm r == "BR")=false→(nm r == "TRAP")=false→T_falls_through (fin0 (.bool true)) ⟨ini [.d (eRow r)] 0 1,[]⟩:=fun h1 h2 h3=>by
    simp! [T_falls_through,eRow_parts,h1,h2,h3]
  cases r with
  | br=>simp! [T_falls_through,eRow]; rfl
  | b d e=>simp! [T_falls_through,eRow]; rfl
  | _=>exact other (by kernel_rfl) (by kernel_rfl) (by kernel_rfl)
noncomputable def R_can_jump:FnR:=FnOf (fun (a:Nat×Int)=>True) (fun a=>[.d (eRow (.b a.1 a.2))]) (fun _=>.bool true)
theorem t_can_jump:HT 0 1 0 0 T_can_jump R_can_jump:=FnOf.ht fun ⟨d,e⟩ _=>by
  simp! [T_can_jump,eRow]
noncomputable def calcsD:PyData:=.tuple [.str "LSL",.str "ASR",.str "ROR",.str "AND",.str "ANN",.str "IOR",.str "XOR",.str "ADD",.str "SUB",.str "MUL",.str "DIV"]
noncomputable def R_calculations:FnR:=FnOf (fun (_:Unit)=>True) (fun _=>[]) (fun _=>calcsD)
theorem t_calculations:HT 0 0 0 0 T_calculations R_calculations:=FnOf.ht fun _ _=>by
  simp! [T_calculations,calcsD]
noncomputable def Row.isLdr:Row→Bool
  | .ldr ..=>true
  | _=>false
noncomputable def R_is_load:FnR:=FnOf (fun _=>True) (fun r=>[.d (eRow r)]) (fun r=>.bool r.isLdr)
theorem nm_LDR (r:Row):(nm r == "LDR")=r.isLdr:=by cases r<;>kernel_rfl
theorem nm_LDB (r:Row):(nm r == "LDB")=false:=by cases r<;>kernel_rfl
theorem t_is_load:HT 0 1 0 0 T_is_load R_is_load:=FnOf.ht fun r _=>by
  simp! [T_is_load,eRow_parts,nm_LDR]
  cases r.isLdr<;>simp! [eRow_parts,nm_LDB]
noncomputable def Row.isBl:Row→Bool
  | .bl=>true
  | _=>false
noncomputable def R_is_call:FnR:=FnOf (fun _=>True) (fun r=>[.d (eRow r)]) (fun r=>.bool r.isBl)
theorem nm_BL (r:Row):(nm r == "BL")=r.isBl:=by cases r<;>kernel_rfl
theorem nm_BLR (r:Row):(nm r == "BLR")=false:=by cases r<;>kernel_rfl
theorem nm_TRAP (r:Row):(nm r == "TRAP")=false:=by cases r<;>kernel_rfl
theorem t_is_call:HT 0 1 0 0 T_is_call R_is_call:=FnOf.ht fun r _=>by
  simp! [T_is_call,eRow_parts,nm_BL]
  cases r.isBl<;>simp! [eRow_parts,nm_BLR]
noncomputable def R_may_collect:FnR:=FnOf (fun _=>True) (fun r=>[.d (eRow r)]) (fun r=>.bool r.isBl)
theorem t_may_collect:HT 0 1 0 0 (T_may_collect R_is_call) R_may_collect:=FnOf.ht fun r _=>by
  simp! [T_may_collect]
  refine FnOf.call r trivial trivial ?_
  cases r.isBl<;>simp! [eRow_parts,nm_TRAP]
theorem sl1:Txt.slice (Str.ofString "SUBI") (some (-1)) none=Str.ofString "I" := by decide +kernel
theorem sl2:Txt.slice (Str.ofString "SUBI") none (some (-1))=Str.ofString "SUB" := by decide +kernel
theorem sl3:Txt.slice (Str.ofString "ADDI") (some (-1)) none=Str.ofString "I" := by decide +kernel
theorem sl4:Txt.slice (Str.ofString "ADDI") none (some (-1))=Str.ofString "ADD" := by decide +kernel
theorem sln1:(Str.ofString "SUBI").length≤1000:=by decide +kernel
theorem sln2:(Str.ofString "ADDI").length≤1000:=by decide +kernel
noncomputable def R_base_name:FnR:=FnOf (fun _=>True) (fun (a:Bool×Nat×Nat×Int)=>[.d (eRow (if a.1 then .addi a.2.1 a.2.2.1 a.2.2.2 else .subi a.2.1 a.2.2.1 a.2.2.2))]) (fun a=>.str (if a.1 then "ADD" else "SUB"))
theorem t_base_name:HT 0 1 0 1 (T_base_name R_calculations) R_base_name:=FnOf.ht fun ⟨t,a,b,k⟩ _=>by
  cases t <;>
  · simp! [T_base_name,eRow]
    refine FnOf.call () trivial trivial ?_
    simp! [calcsD,sl1,sl2,sl3,sl4,sln1,sln2]
    refine FnOf.call () trivial trivial ?_
    simp! [calcsD,sl1,sl2,sl3,sl4,sln1,sln2]
inductive AV where
  | any
  | ent (n:Nat)
  | frm (k:Int)
  | num (k:Int)
  deriving DecidableEq
noncomputable def eP:AV→PyData
  | .any=>.tuple [.str "any"]
  | .ent n=>.tuple [.str "entry",.int n]
  | .frm k=>.tuple [.str "frame",.int k]
  | .num k=>.tuple [.str "number",.int k]
noncomputable def eL:AV→PyData
  | .any=>.str "?"
  | .ent n=>.tuple [.str "own",.int n]
  | .frm k=>.tuple [.str "top",.int k]
  | .num k=>.tuple [.str "plain",.int k]
@[simp high] theorem eP_ok (x:AV):okd (eP x)=true:=by cases x<;>simp [eP]
@[simp high] theorem eL_ok (x:AV):okd (eL x)=true:=by cases x<;>simp [eL]
theorem eP_eqv (x y:AV):(eP x).eqv (eP y)=decide (x=y):=by
  cases x with
  | any=>cases y<;>kernel_rfl
  | ent n=>cases y with
    | ent m=>refine eqv_tsi.trans ?_; simp; norm_cast
    | _=>kernel_rfl
  | frm n=>cases y with
    | frm m=>refine eqv_tsi.trans ?_; simp
    | _=>kernel_rfl
  | num n=>cases y with
    | num m=>refine eqv_tsi.trans ?_; simp
    | _=>kernel_rfl
theorem eL_eqv (x y:AV):(eL x).eqv (eL y)=decide (x=y):=by
  cases x with
  | any=>cases y<;>kernel_rfl
  | ent n=>cases y with
    | ent m=>refine eqv_tsi.trans ?_; simp; norm_cast
    | _=>kernel_rfl
  | frm n=>cases y with
    | frm m=>refine eqv_tsi.trans ?_; simp
    | _=>kernel_rfl
  | num n=>cases y with
    | num m=>refine eqv_tsi.trans ?_; simp
    | _=>kernel_rfl
structure AS where
  r:Nat→AV
  ks:List Int
  v:Int→AV
noncomputable def rE (e:AV→PyData) (r:Nat→AV):List PyData:=(List.range 16).map fun i=>e (r i)
noncomputable def kv {κ:Type} (c:κ→Int) (h:κ→PyData) (ks:List κ):List (PyData×PyData):=ks.map fun k=>(.int (c k),h k)
noncomputable abbrev dE (e:AV→PyData) (s:AS):List (PyData×PyData):=kv id (fun k=>e (s.v k)) s.ks
noncomputable def sP (s:AS):PyData:=.tuple [.tuple (rE eP s.r),.dict (dE eP s)]
noncomputable def sL (s:AS):PyData:=.tuple [.list (rE eL s.r),.dict (dE eL s)]
@[simp 20000] theorem c_sP0 {s:AS} {R:QV} {st:St}:subO (.d (sP s)) (.d (.int 0)) R st=R (.d (.tuple (rE eP s.r))) st:=c_t0
@[simp 20000] theorem c_sP1 {s:AS} {R:QV} {st:St}:subO (.d (sP s)) (.d (.int 1)) R st=R (.d (.dict (dE eP s))) st:=c_t1
@[simp 20000] theorem c_sL0 {s:AS} {R:QV} {st:St}:subO (.d (sL s)) (.d (.int 0)) R st=R (.d (.list (rE eL s.r))) st:=c_t0
@[simp 20000] theorem c_sL1 {s:AS} {R:QV} {st:St}:subO (.d (sL s)) (.d (.int 1)) R st=R (.d (.dict (dE eL s))) st:=c_t1
noncomputable def upd {κ β:Type} [DecidableEq κ] (f:κ→β) (a:κ) (x:β):κ→β:=fun j=>if j=a then x else f j
noncomputable def look (s:AS) (p:Int):AV:=if p∈s.ks then s.v p else .any
theorem rE_len (e:AV→PyData) (r:Nat→AV):(rE e r).length=16:=by simp [rE]
theorem rE_pick {e:AV→PyData} {r:Nat→AV} {i:Int} (h0:0≤i) (h:i<16):pick (rE e r) i=some (e (r i.toNat)):=by
  unfold pick
  rw [if_pos h0]
  unfold rE
  rw [List.getElem?_map,List.getElem?_range (by lia)]
  rfl
theorem rE_set {e:AV→PyData} {r:Nat→AV} {a:Nat} {x:AV} (h:a<16):(rE e r).set a (e x)=rE e (upd r a x):=by
  apply List.ext_getElem?
  intro i
  unfold rE
  rw [List.getElem?_set]
  by_cases hi:i<16
  · rw [List.getElem?_map,List.getElem?_map,List.getElem?_range hi]
    by_cases hia:a=i
    · subst hia; simp [upd,h]
    · simp [hia,upd,Ne.symm hia]
  · have:¬ a=i:=by lia
    simp [this,hi]
@[simp 20000] theorem c_reg {e:AV→PyData} {r:Nat→AV} {i:Int} {R:QV} {st:St} (h0:0≤i) (h:i<16):subO (.d (.tuple (rE e r))) (.d (.int i)) R st=R (.d (e (r i.toNat))) st:=by
  rw [c_sub2 (by lia) (by lia) (by rw [rE_pick h0 h]; rfl),rE_pick h0 h]; rfl
@[simp 20000] theorem c_regL {e:AV→PyData} {r:Nat→AV} {i:Int} {R:QV} {st:St} (h0:0≤i) (h:i<16):subO (.d (.list (rE e r))) (.d (.int i)) R st=R (.d (e (r i.toNat))) st:=by
  rw [c_sub1 (by lia) (by lia) (by rw [rE_pick h0 h]; rfl),rE_pick h0 h]; rfl
@[simp 20000] theorem c_regC {e:AV→PyData} {r:Nat→AV} {i:Int} {D:PyData→Prop} (h0:0≤i) (h:i<16):subC (some (.list (rE e r))) (.int i) D=D (e (r i.toNat)):=by
  rw [c_subC1 (by lia) (by lia) (by rw [rE_pick h0 h]; rfl),rE_pick h0 h]; rfl
@[simp 20000] theorem c_regS {e:AV→PyData} {r:Nat→AV} {i:Int} {x:AV} {k:Nat} {Q:QF} {ρ:List V} {μ:List Cell} (h0:0≤i) (h:i<16):setCK (some (.list (rE e r))) k (.d (.int i)) (e x) Q ⟨ρ,μ⟩=Q .next ⟨ρ,μ.set k (.list (rE e (upd r i.toNat x)))⟩:=by
  rw [c_setC1 h0 (by rw [rE_len]; exact h) (by rw [rE_len]; decide),rE_set (by lia)]
section
variable {κ:Type} [DecidableEq κ] {c:κ→Int} {h:κ→PyData} {ks:List κ}
theorem ke_keys:(kv c h ks).map (·.1)=ks.map fun k=>.int (c k):=by simp [kv]
theorem ke_len:(kv c h ks).length=ks.length:=by simp [kv]
theorem ke_look (hc:∀ a b,c a=c b→a=b) (k:κ):dlook (kv c h ks) (.int (c k))=if k∈ks then some (h k) else none:=by
  delta dlook kv
  induction ks with
  | nil=>rfl
  | cons a l ih=>
    simp only [List.map_cons,List.find?_cons]
    by_cases q:a=k
    · subst q; simp [kyOf]
    · have:¬ c a=c k:=fun e=>q (hc _ _ e)
      have q':¬ k=a:=fun e=>q e.symm
      have e:(kyOf (PyData.int (c a))==some (Ky.int (c k)))=false:=by simp [kyOf,this]
      simp only [e,List.mem_cons,q',false_or]
      exact ih
theorem ke_put (hc:∀ a b,c a=c b→a=b) (k:κ) (x:PyData):dput (kv c h ks) (.int (c k)) x=kv c (upd h k x) (if k∈ks then ks else ks++[k]):=by
  unfold dput
  have e:(kv c h ks).any (fun p=>kyOf p.1==some (Ky.int (c k)))=decide (k∈ks):=by
    rw [Bool.eq_iff_iff]
    simp only [kv,List.any_map,List.any_eq_true,Function.comp,kyOf,beq_iff_eq,Option.some.injEq,Ky.int.injEq,decide_eq_true_eq]
    constructor
    · rintro ⟨a,ha,e⟩; exact hc _ _ e▸ha
    · intro hk; exact ⟨k,hk,rfl⟩
  rw [e]
  by_cases q:k∈ks
  · simp only [q,decide_true,if_true]
    unfold kv
    simp only [List.map_map]
    refine List.map_congr_left fun a ha=>?_
    by_cases qa:a=k
    · subst qa; simp [kyOf,upd]
    · have:¬ c a=c k:=fun e=>qa (hc _ _ e)
      simp [kyOf,upd,qa,this]
  · simp only [q,decide_false]
    unfold kv
    simp only [Bool.false_eq_true,if_false,List.map_append,List.map_cons,List.map_nil]
    congr 1
    · refine List.map_congr_left fun a ha=>?_
      have:¬ a=k:=fun e=>q (e▸ha)
      simp [upd,this]
    · simp [upd,kD]
theorem ke_congr {h':κ→PyData} (e:∀ k∈ks,h k=h' k):kv c h ks=kv c h' ks:=List.map_congr_left fun k hk=>by exact congrArg _ (e k hk)
end
theorem idI:∀ a b:Int,id a=id b→a=b:=fun _ _ e=>e
theorem natI:∀ a b:Nat,(a:Int)=(b:Int)→a=b:=fun _ _ e=>Int.ofNat.inj e
theorem dE_look (e:AV→PyData) (s:AS) (p:Int):dlook (dE e s) (.int p)=if p∈s.ks then some (e (s.v p)) else none:=ke_look (c:=id) idI p
noncomputable def W32:Int:=4294967296
noncomputable def R_signed:FnR:=FnOf (fun (k:Int) => -1000≤k∧k≤1000) (fun k=>[.d (.int (k.fmod 4294967296))]) (fun k=>.int k)
theorem fmod_small {k:Int} (h : -1000≤k∧k≤1000):k.fmod 4294967296=if 0≤k then k else k+4294967296:=by
  split<;>lia
theorem t_signed:HT 0 1 0 0 T_signed R_signed:=FnOf.ht fun k hk=>by
  have:=fmod_small hk
  by_cases h:0≤k
  · rw [if_pos h] at this
    have h2:¬ (2147483648≤k):=by lia
    simp! [T_signed,this,h2]
  · rw [if_neg h] at this
    have h2:2147483648≤k+4294967296:=by lia
    simp! [T_signed,this,h2]
noncomputable def addP (x:AV) (k:Int):AV:=match x with
  | .frm f=>.frm (f+k)
  | .num n=>.num (Builtin.bitAnd (n+k.fmod 4294967296) 4294967295)
  | _=>.any
noncomputable def subP (x:AV) (k:Int):AV:=match x with
  | .frm f=>.frm (f+(0 - k))
  | .num n=>.num (Builtin.bitAnd (n - k.fmod 4294967296) 4294967295)
  | _=>.any
noncomputable def notNum:AV→Prop
  | .num _=>False
  | _=>True
noncomputable def movP (x:AV) (k:Int):AV:=match x with
  | .frm f=>.frm (f+k)
  | _=>.any
noncomputable def R_moved:FnR:=FnOf (fun (a:AV×Int)=>notNum a.1) (fun a=>[.d (eP a.1),.d (.int a.2)]) (fun a=>eP (movP a.1 a.2))
theorem t_moved:HT 0 2 0 0 T_moved R_moved:=FnOf.ht fun ⟨x,k⟩ hx=>by
  cases x with
  | num=>exact hx.elim
  | _=>simp! [T_moved,eP,movP]
noncomputable def R_operated:FnR:=FnOf (fun (a:Bool×AV×Int) => -1000≤a.2.2∧a.2.2≤1000) (fun a=>[.d (.str (if a.1 then "ADD" else "SUB")),.d (eP a.2.1),.d (eP (.num (a.2.2.fmod 4294967296)))])
  (fun a=>eP (if a.1 then addP a.2.1 a.2.2 else subP a.2.1 a.2.2))
theorem call_operate {t:Bool} {x y:Int} {Q:V→St→Prop} {st:St} (h:Q (.d (if t then addV x y else subV x y)) st):callO 0 R_operate [.d (.str (if t then "ADD" else "SUB")),.d (.int x),.d (.int y)] Q st:=FnOf.call (t,_,_) trivial trivial h
theorem t_operated:HT 0 3 0 1 (T_operated R_operate R_signed R_moved) R_operated:=FnOf.ht fun ⟨t,x,k⟩ hk=>by
  cases x with
  | num n=>
    cases t
    · simp! [T_operated,eP]
      refine call_operate (t:=false) ?_
      simp! [subV,flagV,subP,eP]
    · simp! [T_operated,eP]
      refine call_operate (t:=true) ?_
      simp! [addV,flagV,addP,eP]
  | any=>
    cases t
    · simp! [T_operated,eP]
      refine FnOf.call k hk trivial ?_
      simp! []
      refine FnOf.call ((.any:AV),(-k:Int)) trivial trivial ?_
      simp! [subP,movP,eP]
    · simp! [T_operated,eP]
      refine FnOf.call k hk trivial ?_
      simp! []
      refine FnOf.call ((.any:AV),k) trivial trivial ?_
      simp! [addP,movP,eP]
  | ent n=>
    cases t
    · simp! [T_operated,eP]
      refine FnOf.call k hk trivial ?_
      simp! []
      refine FnOf.call ((.ent n:AV),(-k:Int)) trivial trivial ?_
      simp! [subP,movP,eP]
    · simp! [T_operated,eP]
      refine FnOf.call k hk trivial ?_
      simp! []
      refine FnOf.call ((.ent n:AV),k) trivial trivial ?_
      simp! [addP,movP,eP]
  | frm f=>
    cases t
    · simp! [T_operated,eP]
      refine FnOf.call k hk trivial ?_
      simp! []
      refine FnOf.call ((.frm f:AV),(-k:Int)) trivial trivial ?_
      simp! [subP,movP,eP]
    · simp! [T_operated,eP]
      refine FnOf.call k hk trivial ?_
      simp! []
      refine FnOf.call ((.frm f:AV),k) trivial trivial ?_
      rfl
noncomputable def pP (s:AS):Row→AV
  | .mov _ c=>s.r c
  | .movi _ k=>.num (k.fmod 4294967296)
  | .addi _ c k=>addP (s.r c) k
  | .subi _ c k=>subP (s.r c) k
  | _=>.any
noncomputable def isPut:Row→Prop
  | .mov ..=>True
  | .movi ..=>True
  | .addi ..=>True
  | .subi ..=>True
  | _=>False
noncomputable abbrev regP (s:AS):PyData:=.tuple (rE eP s.r)
noncomputable abbrev dicP (s:AS):PyData:=.dict (dE eP s)
theorem nn (a:Nat):(0:Int)≤a:=Int.natCast_nonneg a
theorem pickR {e:AV→PyData} {r:Nat→AV} {a:Nat} (h:a<16):pick (rE e r) (a:Int)=some (e (r a)):=by
  rw [rE_pick (nn a) (by exact Int.ofNat_lt.mpr (by assumption))]; rfl
theorem bnd {a:Nat} (h:a<1000000) : -(2^62)<(a:Int)∧(a:Int)<2^62:=by lia
theorem lt16 {a:Nat} (h:a<16):(a:Int)<16:=Int.ofNat_lt.mpr h
theorem lit4 {j m:Nat} (h:j<m) (hm:m≤1000000) : -(4611686018427387904:Int)<(j:Int)∧(j:Int)<4611686018427387904:=by lia
theorem lit16 {a:Nat} (h:a<16) : -(4611686018427387904:Int)<(a:Int)∧(a:Int)<4611686018427387904:=by lia
noncomputable def R_result_value:FnR:=FnOf (fun (a:Row×AS)=>isPut a.1∧a.1.ok) (fun a=>[.d (eRow a.1),.d (regP a.2),.d (.bool false)]) (fun a=>eP (pP a.2 a.1))
theorem t_result_value:HT 0 3 0 3 (T_result_value R_base_name R_operated) R_result_value:=FnOf.ht fun ⟨r,s⟩ ⟨hp,ho⟩=>by
  cases r with
  | mov a c=>
    have h:=ho.2
    have hb:=lit16 h
    simp! [T_result_value,eRow,pickR h,hb,pP]
  | movi a k=>simp! [T_result_value,eRow,pP,eP]
  | addi a c k=>
    obtain ⟨_,h,hk⟩:=ho
    have hb:=lit16 h
    simp! [T_result_value,eRow]
    refine FnOf.call (true,a,c,k) trivial trivial ?_
    simp! [T_result_value,eRow,pickR h,hb]
    refine FnOf.call (true,s.r c,k) hk trivial ?_
    rfl
  | subi a c k=>
    obtain ⟨_,h,hk⟩:=ho
    have hb:=lit16 h
    simp! [T_result_value,eRow]
    refine FnOf.call (false,a,c,k) trivial trivial ?_
    simp! [T_result_value,eRow,pickR h,hb]
    refine FnOf.call (false,s.r c,k) hk trivial ?_
    rfl
  | _=>exact hp.elim
noncomputable def memr (t:Bool) (a c:Nat) (k:Int):Row:=if t then .str a c k else .ldr a c k
noncomputable def fplace (s:AS) (c:Nat) (k:Int):Option Int:=match s.r c with | .frm f=>some (f+k) | _=>none
noncomputable def eO:Option Int→PyData
  | some p=>.int p
  | none=>.none
noncomputable def R_frame_place:FnR:=FnOf (fun (a:Bool×Nat×Nat×Int×AS)=>a.2.2.1<16) (fun a=>[.d (eRow (memr a.1 a.2.1 a.2.2.1 a.2.2.2.1)),.d (regP a.2.2.2.2)]) (fun a=>eO (fplace a.2.2.2.2 a.2.2.1 a.2.2.2.1))
theorem t_frame_place:HT 0 2 0 1 T_frame_place R_frame_place:=FnOf.ht fun ⟨t,a,c,k,s⟩ h=>by
  have hb:=lit16 h
  cases t<;>cases hs:s.r c<;>simp! [T_frame_place,memr,eRow,pickR h,hb,fplace,hs,eP,eO]
theorem take_next {α:Type} {l:List α} {i:Nat} {x:α} (h:l[i]?=some x):l.take (i+1)=l.take i++[x]:=by
  simp only [List.take_add_one,h]; rfl
theorem key_at {s:List Int} {i:Nat} {z:PyData} (h:(s.map fun k=>PyData.int (id k))[i]?=some z):∃ k,s[i]?=some k∧z = .int k:=by
  rw [List.getElem?_map] at h
  cases e:s[i]? with
  | none=>rw [e] at h; cases h
  | some k=>rw [e] at h; cases h; exact ⟨k,rfl,rfl⟩
theorem key_new {l:List Int} {i:Nat} {k:Int} (hn:l.Nodup) (h:l[i]?=some k):k∉l.take i:=by
  intro hm
  refine kE (List.getElem?_of_mem hm) fun j hj=>?_
  rw [List.getElem?_take] at hj
  split at hj
  · rename_i hlt
    have h1:=(List.getElem?_eq_some_iff.mp h)
    have h2:=(List.getElem?_eq_some_iff.mp hj)
    obtain ⟨q1,e1⟩:=h1
    obtain ⟨q2,e2⟩:=h2
    have:=(List.getElem_inj (h₀:=q2) (h₁:=q1) hn).mp (e2.trans e1.symm)
    lia
  · cases hj
theorem kept_next {l:List Int} {i:Nat} {k:Int} {f:Int→Bool} {h:Int→PyData} (hn:l.Nodup) (e:l[i]?=some k) :
    (f k=true→dput (kv id h ((l.take i).filter f)) (.int k) (h k)=kv id h ((l.take (i+1)).filter f))∧(f k=false→(l.take (i+1)).filter f=(l.take i).filter f):=by
  have hnew:=key_new hn e
  rw [take_next e,List.filter_append]
  constructor
  · intro hf
    rw [show (Ky.int k)=Ky.int (id k) from rfl,ke_put idI,if_neg (fun q=>hnew (List.mem_filter.mp q).1)]
    rw [show ([k].filter f)=[k] by simp [hf]]
    exact ke_congr fun a ha=>by unfold upd; split<;>simp_all
  · intro hf
    rw [show ([k].filter f)=[] by simp [hf]]; simp
theorem filter_len {l:List Int} {i:Nat} {f:Int→Bool} (h:l.length≤1000):((l.take i).filter f).length≤1048576:=by
  have h1:=List.length_filter_le f (l.take i)
  have h2:(l.take i).length≤l.length:=by rw [List.length_take]; lia
  lia
theorem mem_at {l:List Int} {i:Nat} {k:Int} (h:l[i]?=some k):k∈l:=List.mem_of_getElem? h
noncomputable def AS.ok (s:AS):Prop:=s.ks.Nodup∧s.ks.length≤1000
noncomputable def ctl (s:AS):AS:={ s with ks:=s.ks.filter fun k=>decide (-8≤k) }
noncomputable def R_control_words:FnR:=FnOf (fun (s:AS)=>s.ok) (fun s=>[.d (dicP s)]) (fun s=>dicP (ctl s))
theorem t_control_words:HT 0 1 0 2 T_control_words R_control_words:=FnOf.ht fun s z3=>kA z3 fun hn hl=>by
  simp! [T_control_words,ke_keys,ke_len]
  refine ⟨by exact Nat.le_trans (by assumption) (by decide),forK_st (fun i=>⟨[.d (dicP s),.own 0,.u],[.dict (kv id (fun k=>eP (s.v k)) ((s.ks.take i).filter fun k=>decide (-8≤k)))]⟩) (by rfl) (fun i z hz=>?_) ?_⟩
  · refine kEA (key_at (by exact hz)) fun k hk z2=>?_
    subst z2
    refine ⟨_,rfl,?_⟩
    refine kA (kept_next (h:=fun k=>eP (s.v k)) (f:=fun k=>decide (-8≤k)) hn hk) fun k1 k2=>?_
    have hm:=mem_at hk
    have hl':=filter_len (f:=fun k=>decide (-8≤k)) (i:=i) hl
    by_cases q : -8≤k
    · have k1:=k1 (by simpa using q)
      simp! [q,dE_look,hm,ke_len,hl',k1]
      exact Sh.mk [.d (dicP s),.own 0,.u] 1 (by simp) (by simp! []) (by simp! []) (by simp [Cell.lt]) (by rfl)
    · have k2:=k2 (by simpa using q)
      simp! [q,k2]
      exact Sh.mk [.d (dicP s),.own 0,.u] 1 (by simp) (by simp! []) (by simp! []) (by simp [Cell.lt]) (by rfl)
  · simp! [ctl]
noncomputable def fStr (s:AS) (a c:Nat) (k:Int):AS:=match s.r c with
  | .frm f=>⟨s.r,s.ks.filter (fun o=>decide (o+4≤f+k)||decide (f+k+4≤o))++[f+k],upd s.v (f+k) (s.r a)⟩
  | _=>s
theorem put_new {l:List Int} {p:Int} {x:AV} {e:AV→PyData} {v:Int→AV} (h:p∉l):dput (kv id (fun k=>e (v k)) l) (.int p) (e x)=kv id (fun k=>e (upd v p x k)) (l++[p]):=by
  rw [show (Ky.int p)=Ky.int (id p) from rfl,ke_put idI,if_neg h]
  exact ke_congr fun a ha=>by unfold upd; split<;>rfl
theorem fp_memr (s:AS) (a c:Nat) (k:Int):eRow (.str a c k)=eRow (memr true a c k):=rfl
noncomputable def R_stored_words:FnR:=FnOf (fun (x:Nat×Nat×Int×AS)=>x.1<16∧x.2.1<16∧x.2.2.2.ok) (fun x=>[.d (eRow (.str x.1 x.2.1 x.2.2.1)),.d (regP x.2.2.2),.d (dicP x.2.2.2)]) (fun x=>dicP (fStr x.2.2.2 x.1 x.2.1 x.2.2.1))
theorem t_stored_words:HT 0 3 0 4 (T_stored_words R_frame_place) R_stored_words:=FnOf.ht fun ⟨a,c,k,s⟩ ⟨ha,hc,hn,hl⟩=>by
  simp! [T_stored_words]
  refine FnOf.call (true,a,c,k,s) hc trivial ?_
  have hb:=lit16 ha
  have hl:s.ks.length≤1000:=hl
  cases hs:s.r c with
  | frm f=>
    simp! [fplace,hs,eO,eRow,ke_keys,ke_len]
    let F:Int→Bool:=fun o=>decide (o+4≤f+k)||decide (f+k+4≤o)
    refine ⟨by exact Nat.le_trans (by assumption) (by decide),forK_st (fun i=>⟨[.d (eRow (.str a c k)),.d (regP s),.d (dicP s),.d (.int (f+k)),.d (.int 4),.own 0,.u],[.dict (kv id (fun k=>eP (s.v k)) ((s.ks.take i).filter F))]⟩) (by rfl) (fun i z hz=>?_) ?_⟩
    · refine kEA (key_at (by exact hz)) fun o ho z2=>?_
      subst z2
      refine ⟨_,rfl,?_⟩
      refine kA (kept_next (h:=fun k=>eP (s.v k)) (f:=F) hn ho) fun k1 k2=>?_
      have hm:=mem_at ho
      have hl':=filter_len (f:=F) (i:=i) hl
      have fin:∀ w,w=kv id (fun k=>eP (s.v k)) ((s.ks.take (i+1)).filter F)→∀ Q:St→Prop,Q ⟨[.d (eRow (.str a c k)),.d (regP s),.d (dicP s),.d (.int (f+k)),.d (.int 4),.own 0,.u],[.dict (kv id (fun k=>eP (s.v k)) ((s.ks.take (i+1)).filter F))]⟩ →
          Sh 1 Q ⟨[.d (eRow (.str a c k)),.d (regP s),.d (dicP s),.d (.int (f+k)),.d (.int 4),.own 0,.d (.int o)],[.dict w]⟩:=fun w hw Q hq=>by
        subst hw
        exact Sh.mk [.d (eRow (.str a c k)),.d (regP s),.d (dicP s),.d (.int (f+k)),.d (.int 4),.own 0,.u] 1 (by simp) (by simp! []) (by simp! []) (by simp [Cell.lt]) hq
      by_cases q1:o+4≤f+k
      · have k1:=k1 (by simp [F,q1])
        simp! [q1,dE_look,hm,ke_len,hl',k1]
        exact fin _ rfl _ rfl
      · by_cases q2:f+k+4≤o
        · have k1:=k1 (by simp [F,q2])
          simp! [q1,q2,dE_look,hm,ke_len,hl',k1]
          exact fin _ rfl _ rfl
        · have k2:=k2 (by simp [F,q1,q2])
          simp! [q1,q2]
          exact fin _ (by simp only [k2]) _ rfl
    · have hnew:f+k∉s.ks.filter F:=fun hm=>by
        have:=(List.mem_filter.mp hm).2
        simp only [F,Bool.or_eq_true,decide_eq_true_eq] at this
        lia
      have hl':(s.ks.filter F).length≤1048576:=by have:=List.length_filter_le F s.ks; omega
      simp! [eRow,pickR ha,hb,put_new hnew,ke_len,hl']
      simp only [fStr,hs]
      rfl
  | _=>simp! [fplace,hs,eO,eRow,fStr]
theorem rep16:List.replicate 16 (PyData.tuple [.str "any"])=rE eP fun _=>.any:=rfl
noncomputable def fCall (s:AS):AS:=⟨fun j=>if j=11∨j=13∨j=14 then s.r j else .any,match s.r 14 with | .frm _=>s.ks.filter (fun k=>decide (-8≤k)) | _=>[],s.v⟩
noncomputable def R_called_state:FnR:=FnOf (fun (s:AS)=>s.ok) (fun s=>[.d (regP s),.d (dicP s)]) (fun s=>sP (fCall s))
theorem fCall_r (s:AS):rE eP (upd (upd (upd (fun _=>.any) 11 (s.r 11)) 13 (s.r 13)) 14 (s.r 14))=rE eP (fCall s).r:=rfl
theorem t_called_state:HT 0 2 0 3 (T_called_state R_control_words) R_called_state:=FnOf.ht fun s hs=>by
  simp! [T_called_state,rep16]
  refine forK_U (forU_1 rfl ?_)
  simp! [rE_pick,rE_len,rE_set (e:=eP)]
  refine .inl (forU_1 rfl ?_)
  simp! [rE_pick,rE_len,rE_set (e:=eP)]
  refine .inl (forU_1 rfl ?_)
  simp! [rE_pick,rE_len,rE_set (e:=eP)]
  refine .inl (forU_0 ?_)
  simp only [fCall_r]
  cases hq:s.r 14 with
  | frm f=>
    simp! [rE_pick,hq,eP,rE_len]
    refine FnOf.call s hs trivial ?_
    simp! [rE_len,sP]
    simp [ctl,fCall,hq]
  | _=>
    simp! [rE_pick,hq,eP,rE_len,sP]
    simp [fCall,hq,kv]
noncomputable def fP (s:AS):Row→AS
  | .bl=>fCall s
  | .br=>s
  | .b _ _=>s
  | .str a c k=>fStr s a c k
  | .ldr a c k=>{ s with r:=upd s.r a (match s.r c with | .frm f=>look s (f+k) | _=>.any) }
  | .mov a c=>{ s with r:=upd s.r a (pP s (.mov a c)) }
  | .movi a k=>{ s with r:=upd s.r a (pP s (.movi a k)) }
  | .addi a c k=>{ s with r:=upd s.r a (pP s (.addi a c k)) }
  | .subi a c k=>{ s with r:=upd s.r a (pP s (.subi a c k)) }
theorem fStr_r (s:AS) (a c:Nat) (k:Int):(fStr s a c k).r=s.r:=by unfold fStr; split<;>rfl
theorem orLook (e:AV→PyData) (s:AS) (p:Int):orV (dlook (dE e s) (.int p)) (.d (e .any)) = .d (e (look s p)):=by
  rw [dE_look]
  delta look orV
  by_cases h:p∈s.ks<;>simp [h]
theorem orAny (s:AS) (p:Int):orV (dlook (dE eP s) (.int p)) (.d (.tuple [.str "any"])) = .d (eP (look s p)):=orLook eP s p
noncomputable def putPc (r:Row):Nat:=match r with
  | .mov a _ | .movi a _ | .addi a _ _ | .subi a _ _=>a
  | _=>0
noncomputable def R_state_behind:FnR:=FnOf (fun (x:Row×AS)=>x.1.ok∧x.2.ok) (fun x=>[.d (eRow x.1),.d (sP x.2),.d (.bool x.1.isBl)]) (fun x=>sP (fP x.2 x.1))
theorem t_state_behind:HT 0 3 0 6 (T_state_behind R_is_call R_called_state R_stored_words R_is_load R_frame_place R_result_value) R_state_behind:=FnOf.ht fun ⟨r,s⟩ ⟨ho,hs⟩=>by
  cases r with
  | bl=>
    simp! [T_state_behind,eRow,sP,Row.isBl]
    refine FnOf.call Row.bl trivial trivial ?_
    simp! [Row.isBl]
    refine FnOf.call s hs trivial ?_
    rfl
  | br=>
    simp! [T_state_behind,eRow,sP,Row.isBl]
    refine FnOf.call Row.br trivial trivial ?_
    simp! [Row.isBl,sP,fP]
  | b d e=>
    simp! [T_state_behind,eRow,sP,Row.isBl]
    refine FnOf.call (Row.b d e) trivial trivial ?_
    simp! [Row.isBl,sP,fP]
  | str a c k=>
    simp! [T_state_behind,eRow,sP,Row.isBl]
    refine FnOf.call (Row.str a c k) trivial trivial ?_
    simp! [Row.isBl]
    refine FnOf.call (a,c,k,s) ⟨ho.1,ho.2,hs⟩ trivial ?_
    simp! [sP,fP,fStr_r]
  | ldr a c k=>
    have ha:=ho.1
    have ha':(a:Int)<16:=by omega
    simp! [T_state_behind,eRow,sP,Row.isBl]
    refine FnOf.call (Row.ldr a c k) trivial trivial ?_
    simp! [Row.isBl]
    refine FnOf.call (Row.ldr a c k) trivial trivial ?_
    simp! [Row.isLdr]
    refine FnOf.call (false,a,c,k,s) ho.2 trivial ?_
    cases hq:s.r c with
    | frm f=>
      simp! [fplace,hq,eO,orAny,rE_len,rE_set ha,ha,ha']
      simp [sP,fP,hq,dE,id_eq]
    | _=>
      have:=rE_set (e:=eP) (r:=s.r) (x:=.any) ha
      simp only [eP] at this
      simp! [fplace,hq,eO,rE_len,this,ha,ha']
      simp [sP,fP,hq,dE,id_eq]
  | mov a c=>
    have ha:=ho.1
    have hb:=lit16 ha
    have ha':(a:Int)<16:=by omega
    simp! [T_state_behind,eRow,sP,Row.isBl]
    refine FnOf.call (Row.mov a c) trivial trivial ?_
    simp! [Row.isBl]
    refine FnOf.call (Row.mov a c) trivial trivial ?_
    simp! [Row.isLdr]
    refine FnOf.call (Row.mov a c,s) ⟨trivial,ho⟩ trivial ?_
    simp! [rE_len,rE_set ha,ha,ha',sP,fP,dE]
  | movi a k=>
    have ha:a<16:=ho
    have hb:=lit16 ha
    have ha':(a:Int)<16:=by omega
    simp! [T_state_behind,eRow,sP,Row.isBl]
    refine FnOf.call (Row.movi a k) trivial trivial ?_
    simp! [Row.isBl]
    refine FnOf.call (Row.movi a k) trivial trivial ?_
    simp! [Row.isLdr]
    refine FnOf.call (Row.movi a k,s) ⟨trivial,ho⟩ trivial ?_
    simp! [rE_len,rE_set ha,ha,ha',sP,fP,dE]
  | addi a c k=>
    have ha:=ho.1
    have hb:=lit16 ha
    have ha':(a:Int)<16:=by omega
    simp! [T_state_behind,eRow,sP,Row.isBl]
    refine FnOf.call (Row.addi a c k) trivial trivial ?_
    simp! [Row.isBl]
    refine FnOf.call (Row.addi a c k) trivial trivial ?_
    simp! [Row.isLdr]
    refine FnOf.call (Row.addi a c k,s) ⟨trivial,ho⟩ trivial ?_
    simp! [rE_len,rE_set ha,ha,ha',sP,fP,dE]
  | subi a c k=>
    have ha:=ho.1
    have hb:=lit16 ha
    have ha':(a:Int)<16:=by omega
    simp! [T_state_behind,eRow,sP,Row.isBl]
    refine FnOf.call (Row.subi a c k) trivial trivial ?_
    simp! [Row.isBl]
    refine FnOf.call (Row.subi a c k) trivial trivial ?_
    simp! [Row.isLdr]
    refine FnOf.call (Row.subi a c k,s) ⟨trivial,ho⟩ trivial ?_
    simp! [rE_len,rE_set ha,ha,ha',sP,fP,dE]
noncomputable def s0:AS:=⟨fun j=>if j=14 then .frm 0 else if j=13 then .num 0 else .ent j,[],fun _=>.any⟩
theorem rng_at {n i:Nat} {z:PyData} (h:(rngL n)[i]?=some z):i<n∧z = .int i:=by
  unfold rngL at h
  rw [List.getElem?_map] at h
  by_cases hi:i<n
  · rw [List.getElem?_range hi] at h
    exact ⟨hi,by simpa using h.symm⟩
  · rw [List.getElem?_eq_none (by simpa using hi)] at h; cases h
noncomputable def R_first_state:FnR:=FnOf (fun (_:Unit)=>True) (fun _=>[]) (fun _=>sP s0)
noncomputable def fromI (e:Nat→PyData):PyData→Option PyData
  | .int i=>some (e i.toNat)
  | _=>none
theorem filterMap_rng {n:Nat} {e:Nat→PyData}:(rngL n).filterMap (fromI e)=(List.range n).map e:=by
  unfold rngL
  rw [List.filterMap_map,← List.filterMap_eq_map]
  rfl
theorem t_first_state:HT 0 0 0 1 T_first_state R_first_state:=FnOf.ht fun _ _=>by
  simp! [T_first_state]
  refine ⟨by trivial,by simp,fromI fun i=>eP (.ent i),fun i z hz=>?_,?_⟩
  · refine kA (rng_at hz) fun hi z2=>?_
    subst z2
    simp! [turnL,cs0,capsOf,eP,fromI]
  · rw [filterMap_rng]
    have e1:(List.range 16).map (fun i=>eP (.ent i))=rE eP .ent:=rfl
    have h1:=rE_set (e:=eP) (r:=.ent) (a:=14) (x:=.frm 0) (by decide)
    have h2:=rE_set (e:=eP) (r:=upd .ent 14 (.frm 0)) (a:=13) (x:=.num 0) (by decide)
    simp! [rE_len,h1,h2]
    have:upd (upd AV.ent 14 (.frm 0)) 13 (.num 0)=s0.r:=by
      funext j
      dsimp only [upd,s0]
      by_cases h:j=13
      · subst h; rfl
      · simp [h]
    rfl
theorem eP_lay (x:AV):(eP x).canLay0=true:=by have:=eP_ok x; simp only [okd,Bool.and_eq_true] at this; exact this.1
theorem eP_dep (x:AV):(eP x).depth≤16:=by have:=eP_ok x; simp only [okd,Bool.and_eq_true,decide_eq_true_eq] at this; exact this.2
theorem eL_lay (x:AV):(eL x).canLay0=true:=by have:=eL_ok x; simp only [okd,Bool.and_eq_true] at this; exact this.1
theorem eL_dep (x:AV):(eL x).depth≤16:=by have:=eL_ok x; simp only [okd,Bool.and_eq_true,decide_eq_true_eq] at this; exact this.2
noncomputable def joinP (s t:AS):AS:=⟨fun j=>if s.r j=t.r j then s.r j else .any,s.ks.filter fun k=>decide (look t k=s.v k),s.v⟩
theorem rE_next {e:AV→PyData} {r:Nat→AV} {i:Nat} (h:i<16):(rE e r).take (i+1)=(rE e r).take i++[e (r i)]:=by
  refine take_next ?_
  unfold rE
  simp only [List.getElem?_map,List.getElem?_range h]; rfl
theorem rE_all {e:AV→PyData} {r:Nat→AV}:(rE e r).take 16=rE e r:=List.take_of_length_le (by rw [rE_len]; decide)
theorem rE_tl {e:AV→PyData} {r:Nat→AV} {i:Nat}:min i (rE e r).length≤1048576:=by
  rw [rE_len]; lia
theorem rng_len {n:Nat}:(rngL n).length=n:=by simp [rngL]
noncomputable def R_joined:FnR:=FnOf (fun (x:AS×AS)=>x.1.ok∧x.2.ok) (fun x=>[.d (sP x.1),.d (sP x.2)]) (fun x=>sP (joinP x.1 x.2))
theorem t_joined:HT 0 2 0 5 T_joined R_joined:=FnOf.ht fun ⟨s,t⟩ ⟨⟨hn,hl⟩,ht⟩=>by
  simp! [T_joined]
  refine forK_st (fun i=>⟨[.d (sP s),.d (sP t),.own 0,.u,.u,.u,.u],[.list ((rE eP (joinP s t).r).take i)]⟩) (by simp) (fun i z hz=>?_) ?_
  · obtain ⟨hi,rfl⟩:=rng_at hz
    refine ⟨_,rfl,?_⟩
    have hb:=lit16 hi
    have hi':(i:Int)<16:=by exact Int.ofNat_lt.mpr (by assumption)
    have nx:=rE_next (e:=eP) (r:=(joinP s t).r) hi
    have fin:∀ x b,x=eP ((joinP s t).r i)→Sh 1 (fun x=>x=⟨[.d (sP s),.d (sP t),.own 0,.u,.u,.u,.u],[.list ((rE eP (joinP s t).r).take (i+1))]⟩) ⟨[.d (sP s),.d (sP t),.own 0,.d (.int i),.d (.bool b),.u,.u],[.list ((rE eP (joinP s t).r).take i++[x])]⟩:=fun x b hx=>by
      subst hx
      exact Sh.mk [.d (sP s),.d (sP t),.own 0,.u,.u,.u,.u] 1 (by simp) (by simp! []) (by simp! []) (by simp [Cell.lt]) (by simp [nx])
    simp! [sP,rE_pick,hb,hi',eP_lay,eP_dep,eP_eqv,rE_tl]
    by_cases q:s.r i=t.r i
    · simp! [q,rE_pick,hb,hi',rE_tl]
      refine fin _ _ ?_
      simp [joinP,q]
    · simp! [q,rE_pick,hb,hi',rE_tl]
      refine fin _ _ ?_
      simp [joinP,q,eP]
  · simp! [sP,ke_keys,ke_len]
    refine ⟨by exact Nat.le_trans (by assumption) (by decide),forK_st (fun i=>⟨[.d (sP s),.d (sP t),.own 0,.u,.u,.own 1,.u],[.list ((rE eP (joinP s t).r).take 16),.dict (kv id (fun k=>eP (s.v k)) ((s.ks.take i).filter fun k=>decide (look t k=s.v k)))]⟩) (by rfl) (fun i z hz=>?_) ?_⟩
    · refine kEA (key_at (by exact hz)) fun o ho z3=>?_
      subst z3
      refine ⟨_,rfl,?_⟩
      refine kA (kept_next (h:=fun k=>eP (s.v k)) (f:=fun k=>decide (look t k=s.v k)) hn ho) fun k1 k2=>?_
      have hm:=mem_at ho
      have hl':=filter_len (f:=fun k=>decide (look t k=s.v k)) (i:=i) hl
      have fin:∀ w,w=kv id (fun k=>eP (s.v k)) ((s.ks.take (i+1)).filter fun k=>decide (look t k=s.v k))→Sh 2 (fun x=>x=⟨[.d (sP s),.d (sP t),.own 0,.u,.u,.own 1,.u],[.list ((rE eP (joinP s t).r).take 16),.dict (kv id (fun k=>eP (s.v k)) ((s.ks.take (i+1)).filter fun k=>decide (look t k=s.v k)))]⟩)
          ⟨[.d (sP s),.d (sP t),.own 0,.u,.u,.own 1,.d (.int o)],[.list ((rE eP (joinP s t).r).take 16),.dict w]⟩:=fun w hw=>by
        subst hw
        exact Sh.mk [.d (sP s),.d (sP t),.own 0,.u,.u,.own 1,.u] 2 (by simp) (by simp! []) (by simp! []) (by simp [Cell.lt]) (by rfl)
      simp! [sP,dE_look,hm]
      have ol:=orAny t o
      rw [dE_look] at ol
      simp only [ol]
      simp! [eP_lay,eP_dep,eP_eqv]
      by_cases q:look t o=s.v o
      · have k1:=k1 (by simp [q])
        simp! [q,dE_look,hm,ke_len,hl',k1]
        exact fin _ rfl
      · have k2:=k2 (by simp [q])
        simp! [q]
        exact fin _ (by simp only [k2])
    · simp! [rE_all,rE_len]
      rfl
theorem srt_int {xs ys:List Int} {out:List PyData} (hp:xs.Perm ys) (hs:ys.Pairwise (·≤·)) (h:srtG (xs.map .int) out):out=ys.map .int:=by
  have key:∀ l:List PyData,l.Perm (xs.map .int)→∃ zs:List Int,l=zs.map .int∧zs.Perm ys:=by
    intro l hl
    have:∀ l:List PyData,(∀ x∈l,isInt x=true)→∃ zs:List Int,l=zs.map .int:=by
      intro l
      induction l with
      | nil=>intro _; exact ⟨[],rfl⟩
      | cons x r ih=>
        intro hx
        obtain ⟨zs,rfl⟩:=ih fun y hy=>hx y (List.mem_cons_of_mem _ hy)
        have:=hx x List.mem_cons_self
        cases x<;>simp [isInt] at this
        exact ⟨_ :: zs,rfl⟩
    obtain ⟨zs,rfl⟩:=this l fun x hx=>by
      obtain ⟨i,_,rfl⟩:=List.mem_map.mp (hl.subset hx); rfl
    refine ⟨zs,rfl,List.Perm.trans ?_ hp⟩
    have:=hl.map (fun x:PyData=>match x with | .int i=>i | _=>0)
    simpa [List.map_map,Function.comp_def] using this
  rcases h with ⟨h1,h2,_⟩ | ⟨h1,h2,k,h3⟩
  · refine kEA (key out h1) fun zs z10 hz=>?_
    subst z10
    congr 1
    rw [List.pairwise_map] at h2
    exact List.Perm.eq_of_pairwise (fun a b _ _ x y=>Int.le_antisymm x y) (h2.imp fun h=>by simpa [leI] using h) hs hz
  · cases xs with
    | nil=>
      have:ys=[]:=hp.symm.eq_nil
      subst this
      exact h1.eq_nil
    | cons a r=>have:=h3 (.int a) (by simp); simp [isP] at this
theorem srtK_int {xs ys:List Int} {ow:Bool} {R:V→St→Prop} {st:St} (hp:xs.Perm ys) (hs:ys.Pairwise (·≤·)) (hl:xs.length<64) (h:newlT ow (ys.map .int) R st):srtK ow (xs.map .int) R st:=
  ⟨by simpa using hl,.inl fun x hx=>by obtain ⟨i,_,rfl⟩:=List.mem_map.mp hx; rfl,fun out ho=>by rw [srt_int hp hs ho]; exact h⟩
noncomputable def succ1 (r:Row) (i:Nat):List Nat:=match r with
  | .br=>[]
  | .b d _=>if d=0 then [i+1] else [i+1,i+1+d]
  | _=>[i+1]
noncomputable def wayOk (n i:Nat):Row→Prop
  | .br=>True
  | .b d _=>i+1+d<n
  | _=>i+1<n
noncomputable abbrev ndata (l:List Nat):PyData:=.list (l.map fun (n:Nat)=>.int (n:Int))
noncomputable def R_successors:FnR:=FnOf (fun (x:List Row×Nat×Row)=>x.1[x.2.1]?=some x.2.2∧wayOk x.1.length x.2.1 x.2.2∧x.1.length≤1000) (fun x=>[.d (rowsD x.1),.d (.int x.2.1)]) (fun x=>ndata (succ1 x.2.2 x.2.1))
theorem pickN {α:Type} {l:List α} {i:Nat} {x:α} (h:l[i]?=some x):pick l (i:Int)=some x:=by
  unfold pick
  rw [if_pos (nn i)]; exact h
theorem suc_cls (r:Row):r = .br∨(∃ d e,r = .b d e)∨(r.falls=true∧(nm r == "B")=false∧∀ n i,(wayOk n i r→i+1<n)∧succ1 r i=[i+1]):=by
  cases r with
  | br=>exact .inl rfl
  | b d e=>exact .inr (.inl ⟨d,e,rfl⟩)
  | _=>exact .inr (.inr ⟨rfl,by kernel_rfl,fun _ _=>⟨id,rfl⟩⟩)
theorem srtK_nats {l:List Nat} {xs:List PyData} {R:QV} {st:St} (hx:xs=l.map fun (n:Nat)=>.int (n:Int)) (hs:l.Pairwise (·≤·)) (hl:Nat.blt l.length 64=true) (h:R (.d (.list (l.map fun (n:Nat)=>.int (n:Int)))) st):srtK false xs R st:=by
  have e:xs=(l.map Int.ofNat).map .int:=by simp only [hx,List.map_map]; rfl
  rw [e]
  exact srtK_int (ys:=l.map Int.ofNat) (List.Perm.refl _) (List.pairwise_map.mpr (hs.imp Int.ofNat_le.mpr)) (by rw [List.length_map]; exact Nat.le_of_ble_eq_true hl) (by rw [List.map_map]; exact h)
theorem t_successors:HT 0 2 0 3 (T_successors R_falls_through R_can_jump R_target_of) R_successors:=FnOf.ht fun ⟨R,i,r⟩ ⟨hr,hw,hl⟩=>by
  have hl':=le20 hl
  have hb:=lit4 (Nat.lt_of_lt_of_le (List.getElem?_eq_some_iff.mp hr).1 hl) (by decide)
  have hp:pick (R.map eRow) (i:Int)=some (eRow r):=pickN (by simp only [List.getElem?_map,hr]; rfl)
  simp! [T_successors,hp,hb]
  refine FnOf.call r trivial trivial ?_
  rcases suc_cls r with rfl | ⟨d,e,rfl⟩ | ⟨h1,h2,h3⟩
  · simp! [Row.falls,nm]
    exact srtK_nats (l:=[]) rfl .nil rfl rfl
  · have hd:i+1+d<R.length:=hw
    have hi':(i:Int)+1<R.length:=by lia
    have hd':(i:Int)+1+d<R.length:=by exact Int.ofNat_lt.mpr (by assumption)
    have h0:(0:Int)≤i+1+d:=by exact Int.natCast_nonneg _
    simp! [Row.falls,nm,hl',hi']
    refine FnOf.call (d,e) trivial trivial ?_
    simp! []
    refine FnOf.call (d,e,i) trivial trivial ?_
    simp! [h0,hl',hd']
    refine ifK_of (fun h=>?_) fun h=>?_
    · have hd:d≠0:=fun e=>by subst e; simp at h
      simp! []
      exact srtK_nats (l:=[i+1,i+1+d]) rfl (.cons (fun y hy=>by simp only [List.mem_singleton.mp hy]; exact Nat.le_add_right _ _) (List.pairwise_singleton _ _)) rfl (congrArg ndata (if_neg hd).symm)
    · have hd:d=0:=by simp at h; lia
      subst hd
      simp! []
      exact srtK_nats (l:=[i+1]) rfl (List.pairwise_singleton _ _) rfl rfl
  · have hi':(i:Int)+1<R.length:=Int.ofNat_lt.mpr ((h3 _ _).1 hw)
    simp! [h1,h2,hl',hi']
    exact srtK_nats (l:=[i+1]) rfl (List.pairwise_singleton _ _) rfl (congrArg ndata (h3 R.length i).2.symm)
structure Mp where
  ks:List Nat
  f:Nat→AS
noncomputable def Mp.put (m:Mp) (p:Nat) (s:AS):Mp:=⟨if p∈m.ks then m.ks else m.ks++[p],upd m.f p s⟩
noncomputable abbrev eMp (e:AS→PyData) (m:Mp):List (PyData×PyData):=kv (fun n:Nat=>(n:Int)) (fun p=>e (m.f p)) m.ks
structure Wk' where
  m:Mp
  w:List Nat
noncomputable def chg (s t:AS):Bool:=!(PyData.eqvAll (rE eP s.r) (rE eP t.r)&&deq (dE eP s) (dE eP t))
noncomputable def send (b:AS) (x:Wk') (t:Nat):Wk':=
  if t∈x.m.ks then (if chg (joinP (x.m.f t) b) (x.m.f t)=true then ⟨x.m.put t (joinP (x.m.f t) b),x.w++[t]⟩ else x)
  else ⟨x.m.put t b,x.w++[t]⟩
noncomputable def stepW (R:List Row) (x:Wk'):Wk':=match x.w.getLast? with
  | none=>x
  | some p=>(match R[p]? with
    | none=>x
    | some r=>(succ1 r p).foldl (send (fP (x.m.f p) r)) ⟨x.m,x.w.dropLast⟩)
noncomputable def initW (a:Nat):Wk':=⟨⟨[a],fun _=>s0⟩,[a]⟩
noncomputable def itW (R:List Row) (a:Nat):Nat→Wk'
  | 0=>initW a
  | k+1=>stepW R (itW R a k)
noncomputable def RunOk (R:List Row) (x:Wk'):Prop:=(∀ q∈x.m.ks,(x.m.f q).ok)∧x.m.ks.length≤900∧x.w.length≤100000 ∧
  ∀ p,x.w.getLast?=some p→p∈x.m.ks∧p<1000∧∃ r,R[p]?=some r∧r.ok∧wayOk R.length p r∧(fP (x.m.f p) r).ok
structure WIn where
  R:List Row
  a:Nat
  F:List Nat
  N:Nat
structure WIn.ok (x:WIn):Prop where
  len:x.R.length≤900
  run:∀ k≤x.N,RunOk x.R (itW x.R x.a k)
  go:∀ k<x.N,(itW x.R x.a k).w≠[]
  done:(itW x.R x.a x.N).w=[]
  fix:∀ p r,x.R[p]?=some r→(p∈x.F↔r.isBl=true)
noncomputable abbrev fixD (F:List Nat):PyData:=.dict (kv (fun n:Nat=>(n:Int)) (fun _=>.bool true) F)
noncomputable def R_states_of:FnR:=FnOf WIn.ok (fun x=>[.d (rowsD x.R),.d (.int x.a),.d (fixD x.F)]) (fun x=>.dict (eMp sP (itW x.R x.a x.N).m))
theorem eMp_look (e:AS→PyData) (m:Mp) (p:Nat):dlook (eMp e m) (.int (p:Int))=if p∈m.ks then some (e (m.f p)) else none:=ke_look (c:=fun n:Nat=>(n:Int)) natI p
theorem eMp_put (e:AS→PyData) (m:Mp) (p:Nat) (s:AS):dput (eMp e m) (.int (p:Int)) (e s)=eMp e (m.put p s):=by
  rw [ke_put natI]
  exact ke_congr fun a ha=>by delta Mp.put upd; dsimp only; split<;>rfl
theorem fix_look (F:List Nat) (p:Nat):(dlook (kv (fun n:Nat=>(n:Int)) (fun _=>PyData.bool true) F) (.int (p:Int))).isSome=decide (p∈F):=by
  rw [ke_look (c:=fun n:Nat=>(n:Int)) natI p]
  by_cases h:p∈F<;>simp [h]
theorem e_neS {x1 x2:PyData} {k1 k2:List (PyData×PyData)} {R:V→St→Prop} {st:St}:neS (.d (.tuple [x1,.dict k1])) (.d (.tuple [x2,.dict k2])) R st =
  (okd x1=true∧okd x2=true∧okv k1=true∧okv k2=true∧(k1=k2→deq k1 k2=true)∧R (.d (.bool (!(x1.eqv x2&&deq k1 k2)))) st):=rfl
theorem eP_d2 (x:AV):(eP x).depth≤2:=by cases x<;>simp [eP,PyData.depth,PyData.depthAll]
theorem okReg (r:Nat→AV):okd (.tuple (rE eP r))=true:=by
  have:∀ l:List Nat,PyData.canLayAll0 (l.map fun i=>eP (r i))=true∧PyData.depthAll (l.map fun i=>eP (r i))≤2:=by
    intro l
    induction l with
    | nil=>simp [PyData.canLayAll0,PyData.depthAll]
    | cons a l ih=>
      have h1:=eP_lay (r a)
      have h2:=eP_d2 (r a)
      simp only [List.map_cons,PyData.canLayAll0,PyData.depthAll,Bool.and_eq_true]
      exact ⟨⟨h1,ih.1⟩,by lia⟩
  have:=this (List.range 16)
  delta okd rE
  have hd:(PyData.tuple ((List.range 16).map fun i=>eP (r i))).depth≤16:=by
    have h2:=this.2
    exact Nat.lt_of_le_of_lt (by assumption) (by decide)
  simp only [PyData.canLay0,Bool.and_eq_true,decide_eq_true_eq]
  exact ⟨this.1,hd⟩
theorem layReg (r:Nat→AV):PyData.canLayAll0 (rE eP r)=true:=by
  have:=okReg r
  unfold okd at this
  simp only [Bool.and_eq_true,decide_eq_true_eq,PyData.canLay0] at this
  exact this.1
theorem okDic (s:AS):okv (dE eP s)=true:=by
  delta okv dE kv
  simp only [List.all_eq_true]
  intro p hp
  refine kEA (List.mem_map.mp hp) fun k _ z2=>?_
  subst z2
  simp [isInt,eP_ok]
theorem deq_refl {s:AS} (hn:s.ks.Nodup):deq (dE eP s) (dE eP s)=true:=by
  unfold deq
  simp only [Bool.and_eq_true,List.all_eq_true]
  refine ⟨by simp,fun p hp=>?_⟩
  refine kEA (List.mem_map.mp hp) fun k hk z4=>?_
  subst z4
  unfold deq1
  simp only [kyOf,id_eq,dE_look,if_pos hk]
  rw [eP_eqv]; simp
theorem send_ok {b:AS} {x:Wk'} {t:Nat} (hb:b.ok) (h:∀ q∈x.m.ks,(x.m.f q).ok):(∀ q∈(send b x t).m.ks,((send b x t).m.f q).ok)∧(send b x t).m.ks.length≤x.m.ks.length+1∧(send b x t).w.length≤x.w.length+1:=by
  have hp:∀ s:AS,s.ok→(∀ q∈(x.m.put t s).ks,((x.m.put t s).f q).ok)∧(x.m.put t s).ks.length≤x.m.ks.length+1:=fun s hs=>by
    delta Mp.put upd
    dsimp only
    refine ⟨fun q hq=>?_,by split<;>simp⟩
    split
    · exact hs
    · rename_i hne
      refine h q ?_
      split at hq
      · exact hq
      · simpa [hne] using hq
  have hj:t∈x.m.ks→(joinP (x.m.f t) b).ok:=fun ht=>⟨(h t ht).1.filter _,Nat.le_trans (List.length_filter_le _ _) (h t ht).2⟩
  unfold send
  split
  · split
    · exact ⟨(hp _ (hj (by assumption))).1,(hp _ (hj (by assumption))).2,by simp⟩
    · exact ⟨h,by exact Nat.le_succ _,by exact Nat.le_succ _⟩
  · exact ⟨(hp _ hb).1,(hp _ hb).2,by simp⟩
theorem sendL_ok {b:AS} (hb:b.ok):∀ (l:List Nat) {x:Wk'},(∀ q∈x.m.ks,(x.m.f q).ok)→(∀ q∈(l.foldl (send b) x).m.ks,((l.foldl (send b) x).m.f q).ok)∧(l.foldl (send b) x).m.ks.length≤x.m.ks.length+l.length∧(l.foldl (send b) x).w.length≤x.w.length+l.length
  | [],x,h=>⟨h,by simp,by simp⟩
  | t :: l,x,h=>by
    have h1:=send_ok (x:=x) (t:=t) hb h
    have h2:=sendL_ok hb l h1.1
    refine ⟨h2.1,?_,?_⟩<;>simp only [List.foldl_cons,List.length_cons]<;>lia
theorem succ1_len (r:Row) (i:Nat):(succ1 r i).length≤2:=by cases r<;>simp [succ1]; split<;>simp
theorem nat_at {l:List Nat} {i:Nat} {z:PyData} (h:(l.map fun (n:Nat)=>PyData.int (n:Int))[i]?=some z):∃ n:Nat,l[i]?=some n∧z = .int n:=by
  rw [List.getElem?_map] at h
  cases e:l[i]? with
  | none=>rw [e] at h; cases h
  | some k=>rw [e] at h; cases h; exact ⟨k,rfl,rfl⟩
noncomputable def whK (P:St→Prop) (Qn:St→Prop):Bool→St→Prop:=fun b st2=>br b (P st2) (Qn st2)
theorem e_whK1 {P Qn:St→Prop} {st:St}:whK P Qn true st=P st:=br_t
theorem e_whK2 {P Qn:St→Prop} {st:St}:whK P Qn false st=Qn st:=br_f
theorem whileT_st {t:Tr Bool} {body:Tr Fl} {Q:Fl→St→Prop} {st:St} (S:Nat→St) (N:Nat) (h0:S 0=st)
    (h1:∀ k n,k+n=N→t (whK (body (loopK Q (Sh st.μ.length fun st4=>∃ m,m<n∧∃ k',k'+m=N∧st4=S k'))) (Q .next)) (S k)):whileT t body Q st:=
  ⟨fun n s=>∃ k,k+n=N∧s=S k,⟨N,0,by exact Nat.add_comm _ _,h0.symm⟩,fun n st1 z2=>kEA z2 fun k e hs=>by subst hs; exact h1 k n e⟩
theorem neS_sP {j x:AS} {R:V→St→Prop} {st:St} (hx:x.ks.Nodup) (h:R (.d (.bool (chg j x))) st):neS (.d (sP j)) (.d (sP x)) R st:=
  ⟨okReg j.r,okReg x.r,okDic j,okDic x,fun e=>by rw [e]; exact deq_refl hx,h⟩
theorem t_states_of:HT 0 3 0 6 (T_states_of R_first_state R_state_behind R_successors R_joined) R_states_of:=FnOf.ht fun ⟨R,a,F,N⟩ ⟨hlen,hrun,hgo,hdone,hfix⟩=>by
  simp! [T_states_of]
  refine FnOf.call () trivial trivial ?_
  simp! []
  let S:Nat→St:=fun k=>⟨[.d (rowsD R),.d (.int a),.d (fixD F),.own 0,.own 1,.u,.u,.u,.u],[.dict (eMp sP (itW R a k).m),.list ((itW R a k).w.map fun (n:Nat)=>.int (n:Int))]⟩
  refine whileT_st S N rfl fun k n hk=>?_
  refine kAAA (hrun k (Nat.le_of_add_right_le (Nat.le_of_eq hk))) fun h1 h2 h3 h4=>?_
  have hwl:(itW R a k).w.length≤1048576:=Nat.le_trans h3 (by decide)
  show tstT _ _ ⟨[.d (rowsD R),.d (.int a),.d (fixD F),.own 0,.own 1,.u,.u,.u,.u],[.dict (eMp sP (itW R a k).m),.list ((itW R a k).w.map fun (n:Nat)=>.int (n:Int))]⟩
  cases n with
  | zero=>
    subst hk
    have hd:(itW R a k).w=[]:=hdone
    simp! [hd,e_whK2]
  | succ n=>
    have hw:(itW R a k).w≠[]:=hgo k (by show k<N; lia)
    have hpos:=List.length_pos_iff.mpr hw
    obtain ⟨p,hp⟩:∃ p,(itW R a k).w.getLast?=some p:=⟨_,List.getLast?_eq_some_getLast hw⟩
    obtain ⟨hpm,hpl,r,hr,hok,hway,hbok⟩:=h4 p hp
    have hpick:pick (R.map eRow) (p:Int)=some (eRow r):=pickN (by simp only [List.getElem?_map,hr]; rfl)
    have hb:=lit4 hpl (by decide)
    have hf:=fix_look F p
    have hf2:decide (p∈F)=r.isBl:=by have:=hfix p r hr; cases h:r.isBl<;>simp_all
    have hs2:=succ1_len r p
    have hnext:itW R a (k+1)=(succ1 r p).foldl (send (fP ((itW R a k).m.f p) r)) ⟨(itW R a k).m,(itW R a k).w.dropLast⟩:=by
      show stepW R (itW R a k)=_
      unfold stepW
      rw [hp]
      simp only [hr]
    simp! [e_whK1,hwl,hpos,hp,hpick,hb,eMp_look,hpm,hf,hf2]
    refine FnOf.call (r,(itW R a k).m.f p) ⟨hok,h1 p hpm⟩ trivial ?_
    simp! []
    refine FnOf.call (R,p,r) ⟨hr,hway,Nat.le_trans hlen (by decide)⟩ trivial ?_
    simp! []
    refine ⟨Nat.le_trans hs2 (by decide),?_⟩
    let y:Nat→Wk':=fun i=>((succ1 r p).take i).foldl (send (fP ((itW R a k).m.f p) r)) ⟨(itW R a k).m,(itW R a k).w.dropLast⟩
    have hy:∀ i,(∀ q∈(y i).m.ks,((y i).m.f q).ok)∧(y i).m.ks.length≤1048576∧(y i).w.length≤1048576:=fun i=>by
      have h5:=sendL_ok hbok ((succ1 r p).take i) (x:=⟨(itW R a k).m,(itW R a k).w.dropLast⟩) h1
      have h6:((succ1 r p).take i).length≤2:=Nat.le_trans (List.length_take_le' _ _) hs2
      have h7:(itW R a k).w.dropLast.length≤100000:=by rw [List.length_dropLast]; exact Nat.le_trans (Nat.sub_le _ _) h3
      exact ⟨h5.1,Nat.le_trans h5.2.1 (Nat.le_trans (Nat.add_le_add h2 h6) (by decide)),Nat.le_trans h5.2.2 (Nat.le_trans (Nat.add_le_add h7 h6) (by decide))⟩
    let U:Nat→St:=fun i=>⟨[.d (rowsD R),.d (.int a),.d (fixD F),.own 0,.own 1,.d (.int p),.d (sP (fP ((itW R a k).m.f p) r)),.u,.u],[.dict (eMp sP (y i).m),.list ((y i).w.map fun (n:Nat)=>.int (n:Int))]⟩
    refine forK_is U (by rw [← List.map_dropLast]; rfl) (fun i z hz=>?_) ?_
    · refine kEA (nat_at hz) fun q hq z6=>?_
      subst z6
      refine ⟨_,rfl,?_⟩
      have hy1:U (i+1)=⟨[.d (rowsD R),.d (.int a),.d (fixD F),.own 0,.own 1,.d (.int p),.d (sP (fP ((itW R a k).m.f p) r)),.u,.u],[.dict (eMp sP (send (fP ((itW R a k).m.f p) r) (y i) q).m),.list ((send (fP ((itW R a k).m.f p) r) (y i) q).w.map fun (n:Nat)=>.int (n:Int))]⟩:=by
        have:y (i+1)=send (fP ((itW R a k).m.f p) r) (y i) q:=by
          show ((succ1 r p).take (i+1)).foldl (send _) _=_
          simp only [take_next hq,List.foldl_append]; rfl
        show (⟨_,_⟩:St)=_
        rw [this]
      refine kAA (hy i) fun g1 g2 g3=>?_
      rw [hy1]
      show seqT _ _ _ ⟨[.d (rowsD R),.d (.int a),.d (fixD F),.own 0,.own 1,.d (.int p),.d (sP (fP ((itW R a k).m.f p) r)),.d (.int q),.u],[.dict (eMp sP (y i).m),.list ((y i).w.map fun (n:Nat)=>.int (n:Int))]⟩
      by_cases hqm:q∈(y i).m.ks
      · simp! [eMp_look,hqm]
        refine FnOf.call ((y i).m.f q,fP ((itW R a k).m.f p) r) ⟨g1 q hqm,hbok⟩ trivial ?_
        simp! [eMp_look,hqm]
        refine neS_sP (g1 q hqm).1 ?_
        cases hc:chg (joinP ((y i).m.f q) (fP ((itW R a k).m.f p) r)) ((y i).m.f q) with
        | true=>
          simp! [ke_len,g2,g3,eMp_put]
          refine Sh.kp 7 2 ?_ rfl rfl rfl
          unfold send
          rw [if_pos hqm,if_pos hc,List.map_append]
          rfl
        | false=>
          refine Sh.kp 7 2 ?_ rfl rfl rfl
          unfold send
          rw [if_pos hqm,if_neg (by rw [hc]; decide)]
          rfl
      · simp! [eMp_look,hqm,ke_len,g2,g3,eMp_put]
        refine Sh.kp 7 2 ?_ rfl rfl rfl
        unfold send
        simp only [if_neg hqm,List.map_append]
        rfl
    · simp! []
      refine Sh.kp 5 2 ⟨n,Nat.lt_succ_self n,k+1,by lia,?_⟩ rfl rfl rfl
      have hyN:y (succ1 r p).length=itW R a (k+1):=by
        show ((succ1 r p).take _).foldl _ _=_
        simp only [List.take_length,hnext]
      rw [hyN]
      rfl
noncomputable def fixE (p:Nat):PyData:=.tuple [.int p,.str "call",.int 1,.int 1]
noncomputable def entE (p:Nat):PyData:=.tuple [.str "code",.int p]
structure Ob where
  fs:List (Str×PyData)
  R:List Row
  B:List Nat
  S:List Nat
  ms:List Nat
  mf:Nat→List Int
noncomputable abbrev mapsD (o:Ob):PyData:=.dict (kv (fun n:Nat=>(n:Int)) (fun p=>.list ((o.mf p).map .int)) o.ms)
structure Ob.ok (o:Ob):Prop where
  rows:o.fs.lookup ("rows" : Str)=some (rowsD o.R)
  fixups:o.fs.lookup ("fixups" : Str)=some (.list (o.B.map fixE))
  entries:o.fs.lookup ("entries" : Str)=some (.list (o.S.map entE))
  commands:o.fs.lookup ("commands" : Str)=some (.dict [])
  body:o.fs.lookup ("body" : Str)=some (.int 0)
  maps:o.fs.lookup ("maps" : Str)=some (mapsD o)
  len:o.R.length≤900
  Bl:o.B.length≤900
  Bn:o.B.Nodup
  Bf:∀ p r,o.R[p]?=some r→(p∈o.B↔r.isBl=true)
  Sl:o.S.length≤1
  Sp:(0 :: o.S).Pairwise (·<·)
  Sr:∀ a∈0 :: o.S,∃ r,o.R[a]?=some r∧(∀ d e,r≠.b d e)
theorem listE_at {α:Type} {l:List α} {e:α→PyData} {i:Nat} {z:PyData} (h:(l.map e)[i]?=some z):∃ x,l[i]?=some x∧z=e x:=by
  rw [List.getElem?_map] at h
  cases e:l[i]? with
  | none=>rw [e] at h; cases h
  | some k=>rw [e] at h; cases h; exact ⟨k,rfl,rfl⟩
noncomputable def R_own_addresses:FnR:=FnOf Ob.ok (fun o=>[.ob o.fs]) (fun _=>.dict [])
theorem t_own_addresses:HT 0 1 0 5 T_own_addresses R_own_addresses:=FnOf.ht fun o ho=>by
  simp! [T_own_addresses,ho.fixups]
  refine ⟨Nat.le_trans ho.Bl (by decide),forK_mapG (fun _=>⟨[.ob o.fs,.own 0,.u,.u,.u,.u],[.dict []]⟩) rfl (fun i p hp=>⟨_,rfl,?_⟩) ?_⟩
  · simp! []
    exact Sh.kp 2 1 rfl rfl rfl rfl
  · simp! []
noncomputable def R_object_starts:FnR:=FnOf Ob.ok (fun o=>[.ob o.fs]) (fun o=>ndata (0 :: o.S))
theorem starts_le {o:Ob} (ho:o.ok):(0 :: o.S).Pairwise (·≤·):=ho.Sp.imp Nat.le_of_lt
theorem t_object_starts:HT 0 1 0 6 (T_object_starts R_own_addresses) R_object_starts:=FnOf.ht fun o ho=>by
  have hSl:=ho.Sl
  simp! [T_object_starts,ho.body,ho.entries]
  refine ⟨Nat.le_trans hSl (by decide),forK_mapG (fun i=>⟨[.ob o.fs,.own 0,.u,.u,.u,.u,.u],[.list ((0 :: o.S.take i).map fun (n:Nat)=>.int (n:Int))]⟩) rfl (fun i p hp=>⟨_,rfl,?_⟩) ?_⟩
  · have hl:min i o.S.length+1≤1048576:=Nat.succ_le_succ (Nat.le_trans (Nat.min_le_right _ _) (Nat.le_trans hSl (by decide)))
    simp! [entE,hl]
    refine Sh.kp 2 1 ?_ rfl rfl rfl
    rw [← List.map_take,take_next hp,List.map_append,List.map_take]
    rfl
  · rw [List.take_length]
    simp! [ho.commands]
    refine forK_nil ?_
    simp! []
    refine FnOf.call o ho trivial ?_
    simp! []
    refine forK_nil ?_
    simp! []
    exact srtK_nats (l:=0 :: o.S) rfl (starts_le ho) (Nat.ble_eq_true_of_le (Nat.le_trans (Nat.succ_le_succ (Nat.succ_le_succ hSl)) (by decide))) rfl
noncomputable def Row.isB:Row→Bool
  | .b ..=>true
  | _=>false
noncomputable def R_is_table:FnR:=FnOf (fun (x:List Row×Nat×Row)=>x.1[x.2.1]?=some x.2.2∧x.1.length≤900) (fun x=>[.d (rowsD x.1),.d (.int x.2.1)]) (fun x=>.bool x.2.2.isB)
theorem row_pick {R:List Row} {i:Nat} {r:Row} (h:R[i]?=some r):pick (R.map eRow) (i:Int)=some (eRow r):=pickN (by simp only [List.getElem?_map,h]; rfl)
theorem row_bnd {R:List Row} {i:Nat} {r:Row} (h:R[i]?=some r) (hl:R.length≤900):(-(4611686018427387904:Int)<(i:Int)∧(i:Int)<4611686018427387904)∧i<R.length:=by
  have:=(List.getElem?_eq_some_iff.mp h).1
  lia
theorem nm_B (r:Row):(nm r == "B")=r.isB:=by cases r<;>kernel_rfl
theorem t_is_table:HT 0 2 0 0 T_is_table R_is_table:=FnOf.ht fun ⟨R,i,r⟩ ⟨h,hl⟩=>by
  have hp:pick (R.map eRow) (i:Int)=some (eRow r):=row_pick h
  have hb:=(row_bnd h hl).1
  simp! [T_is_table,hp,hb,nm_B]
noncomputable def R_fixed_rows:FnR:=FnOf Ob.ok (fun o=>[.ob o.fs]) (fun o=>fixD o.B)
theorem natkey_new {l:List Nat} {i:Nat} {k:Nat} (hn:l.Nodup) (h:l[i]?=some k):k∉l.take i:=by
  intro hm
  refine kE (List.getElem?_of_mem hm) fun j hj=>?_
  rw [List.getElem?_take] at hj
  split at hj
  · rename_i hlt
    obtain ⟨q1,e1⟩:=List.getElem?_eq_some_iff.mp h
    obtain ⟨q2,e2⟩:=List.getElem?_eq_some_iff.mp hj
    have:=(List.getElem_inj (h₀:=q2) (h₁:=q1) hn).mp (e2.trans e1.symm)
    lia
  · cases hj
noncomputable abbrev fixK (F:List Nat):List (PyData×PyData):=kv (fun n:Nat=>(n:Int)) (fun _=>.bool true) F
theorem fix_put {l:List Nat} {i k:Nat} (hn:l.Nodup) (h:l[i]?=some k):dput (fixK (l.take i)) (.int (k:Int)) (.bool true)=fixK (l.take (i+1)):=by
  have:=ke_put (c:=fun n:Nat=>(n:Int)) (h:=fun _=>PyData.bool true) (ks:=l.take i) natI k (.bool true)
  rw [if_neg (natkey_new hn h),← take_next h] at this
  rw [this]
  exact ke_congr fun a _=>by unfold upd; split<;>rfl
theorem t_fixed_rows:HT 0 1 0 5 T_fixed_rows R_fixed_rows:=FnOf.ht fun o ho=>by
  have hBl:=Nat.le_trans ho.Bl (by decide:_≤1048576)
  simp! [T_fixed_rows,ho.fixups]
  refine ⟨hBl,forK_mapG (fun i=>⟨[.ob o.fs,.own 0,.u,.u,.u,.u],[.dict (fixK (o.B.take i))]⟩) rfl (fun i p hp=>⟨_,rfl,?_⟩) ?_⟩
  · have hl:min i o.B.length≤1048576:=Nat.le_trans (Nat.min_le_right _ _) hBl
    simp! [ke_len,hl,fix_put ho.Bn hp]
    exact Sh.kp 2 1 rfl rfl rfl rfl
  · simp! []
noncomputable def R_procedure_starts:FnR:=FnOf Ob.ok (fun o=>[.ob o.fs]) (fun o=>ndata (0 :: o.S))
theorem t_procedure_starts:HT 0 1 0 7 (T_procedure_starts R_object_starts R_is_table) R_procedure_starts:=FnOf.ht fun o ho=>by
  have hSl:=ho.Sl
  have hBl:=Nat.le_trans ho.Bl (by decide:_≤1048576)
  have hRl':=Nat.le_trans ho.len (by decide:_≤1048576)
  have hSn:(0 :: o.S).Nodup:=ho.Sp.imp Nat.ne_of_lt
  have hS20:=Nat.le_trans (Nat.succ_le_succ hSl) (by decide:_≤1048576)
  simp! [T_procedure_starts]
  refine FnOf.call o ho trivial ?_
  simp! []
  refine ⟨Nat.le_trans hSl (by decide),forK_map1 (f:=fun (n:Nat)=>.int (n:Int)) (l:=0 :: o.S) (fun i=>⟨[.ob o.fs,.own 0,.u,.u,.u,.u,.u,.u],[.dict (fixK ((0 :: o.S).take i))]⟩) rfl (fun i p hp=>?_) ?_⟩
  · have hl:min i (o.S.length+1)≤1048576:=Nat.le_trans (Nat.min_le_right _ _) hS20
    simp! [ke_len,hl,fix_put hSn hp]
    exact Sh.kp 2 1 rfl rfl rfl rfl
  · rw [List.take_length]
    simp! [ho.fixups]
    refine ⟨hBl,forK_mapG (fun i=>⟨[.ob o.fs,.own 0,.u,.own 1,.u,.u,.u,.u],[.dict (fixK (0 :: o.S)),.dict (fixK (o.B.take i))]⟩) rfl (fun i p hp=>⟨_,rfl,?_⟩) ?_⟩
    · have hl:min i o.B.length≤1048576:=Nat.le_trans (Nat.min_le_right _ _) hBl
      simp! [ke_len,hl,fix_put ho.Bn hp]
      exact Sh.kpm [true,true,false,true] 2 rfl rfl rfl rfl
    · rw [List.take_length]
      simp! [ho.rows,hRl']
      refine forK_rng1 (fun i=>⟨[.ob o.fs,.own 0,.u,.own 1,.u,.u,.u,.u],[.dict (fixK (0 :: o.S)),.dict (fixK o.B)]⟩) rfl (fun i hi=>?_) ?_
      · have hr:=List.getElem?_eq_getElem hi
        have hb:=(row_bnd hr ho.len).1
        have hm:=(ho.Bf i _ hr).mpr
        have hf:=fix_look o.B i
        simp! [ho.rows,row_pick hr,hb,nm_BL]
        cases hbl:(o.R[i]).isBl with
        | true=>
          have hm:=hm hbl
          refine andB (c:=false) (fun R=>by simp! [hf,hm]) ?_
          exact Sh.kpm [true,true,false,true] 2 rfl rfl rfl rfl
        | false=>
          exact Sh.kpm [true,true,false,true] 2 rfl rfl rfl rfl
      · simp! []
        refine srtK_nats (l:=0 :: o.S) ke_keys (starts_le ho) (Nat.ble_eq_true_of_le (Nat.le_trans (Nat.succ_le_succ (Nat.succ_le_succ hSl)) (by decide))) ?_
        simp! []
        refine ⟨Nat.le_trans hSl (by decide),lcK_mk some rfl rfl (fun i z hz=>?_) ?_⟩
        · refine kEA (nat_at (l:=0 :: o.S) hz) fun a ha z2=>?_
          subst z2
          refine kEA (ho.Sr a (List.mem_of_getElem? ha)) fun r hr hnb=>?_
          have h0:(0:Int)≤a:=nn a
          have hlt':(a:Int)<o.R.length:=Int.ofNat_lt.mpr (row_bnd hr ho.len).2
          have:r.isB=false:=by cases r<;>first | rfl | exact absurd rfl (hnb _ _)
          simp! [turnL,cs0,capsOf,ho.rows,hlt',h0,hRl']
          refine FnOf.call (o.R,a,r) ⟨hr,ho.len⟩ trivial ?_
          simp! [this]
        · simp! [List.filterMap_some]
noncomputable def spOk:AV→Bool
  | .frm k=>decide (k≤-8)&&decide (k.fmod 4=0)
  | _=>false
noncomputable def rtags (r:Nat→AV):List Str:=(if r 14 = .frm 0 then [] else [("stack_pointer" : Str)])++(if r 11 = .ent 11 then [] else [("frame_pointer" : Str)])++(if r 15 = .ent 15 then [] else [("link" : Str)])
noncomputable def ctags (r:Nat→AV):List Str:=(if r 11 = .frm 0 then [] else [("frame_pointer" : Str)])++(if spOk (r 14)=true then [] else [("stack_pointer" : Str)])
noncomputable def flt (p:Nat) (t:Str):PyData:=.tuple [.int p,.str t]
theorem ePf {k:Int}:eP (.frm k) = .tuple [.str "frame",.int k]:=rfl
theorem ePn {k:Int}:eP (.num k) = .tuple [.str "number",.int k]:=rfl
theorem ePe {k:Nat}:eP (.ent k) = .tuple [.str "entry",.int k]:=rfl
theorem ePa:eP .any = .tuple [.str "any"]:=rfl
theorem eqvF (x:AV) (k:Int):(eP x).eqv (.tuple [.str "frame",.int k])=decide (x = .frm k):=eP_eqv x (.frm k)
theorem eqvE (x:AV) (k:Nat):(eP x).eqv (.tuple [.str "entry",.int k])=decide (x = .ent k):=eP_eqv x (.ent k)
theorem eqvE11 (x:AV):(eP x).eqv (.tuple [.str "entry",.int 11])=decide (x = .ent 11):=eP_eqv x (.ent 11)
theorem eqvE15 (x:AV):(eP x).eqv (.tuple [.str "entry",.int 15])=decide (x = .ent 15):=eP_eqv x (.ent 15)
noncomputable def R_return_faults:FnR:=FnOf (fun (x:Nat×AS)=>True) (fun x=>[.d (.int x.1),.d (regP x.2)]) (fun x=>.list ((rtags x.2.r).map (flt x.1)))
theorem t_return_faults:HT 0 2 0 1 T_return_faults R_return_faults:=FnOf.ht fun ⟨p,s⟩ _=>by
  simp! [T_return_faults,eqvF]
  refine appIf (x:=flt p "stack_pointer") rfl rfl (Nat.zero_le _) (fun R=>by simp! [flt]) ?_
  simp! [eqvE11]
  refine appIf (x:=flt p "frame_pointer") rfl rfl (Nat.le_trans opt_len (by decide)) (fun R=>by simp! [flt]) ?_
  simp! [eqvE15]
  refine appIf (x:=flt p "link") rfl rfl (by rw [List.length_append]; exact Nat.le_trans (Nat.add_le_add opt_len opt_len) (by decide)) (fun R=>by simp! [flt]) ?_
  simp! [rtags,opt_if]
theorem spOk_or {k:Int}:(decide (-8<k)||!decide (k.fmod 4=0))=!spOk (.frm k):=by
  by_cases h:k≤-8
  · rw [decide_eq_false (Int.not_lt.mpr h)]; show _=!(decide (k≤-8)&&_); rw [decide_eq_true h]; rfl
  · rw [decide_eq_true (Int.not_le.mp h)]; show _=!(decide (k≤-8)&&_); rw [decide_eq_false h]; rfl
noncomputable def R_call_faults:FnR:=FnOf (fun (x:Nat×AS)=>True) (fun x=>[.d (.int x.1),.d (regP x.2)]) (fun x=>.list ((ctags x.2.r).map (flt x.1)))
theorem t_call_faults:HT 0 2 0 2 T_call_faults R_call_faults:=FnOf.ht fun ⟨p,s⟩ _=>by
  simp! [T_call_faults,eqvF]
  refine appIf (x:=flt p "frame_pointer") rfl rfl (Nat.zero_le _) (fun R=>by simp! [flt]) ?_
  simp! []
  cases hq:s.r 14 with
  | frm k=>
    simp! [ePf]
    refine orB (c:=!decide (k.fmod 4=0)) (fun R=>by simp! []) ?_
    rw [spOk_or]
    refine appIf (x:=flt p "stack_pointer") rfl rfl (Nat.le_trans opt_len (by decide)) (fun R=>by simp! [flt]) ?_
    simp! [ctags,hq,opt_if]
  | _=>
    simp! [ePn,ePe,ePa]
    refine ⟨Nat.le_trans opt_len (by decide),?_⟩
    simp [ctags,spOk,hq,opt_if,flt]
noncomputable abbrev Kds (l:List (List Ky)):List (List Ky×PyData):=l.map fun k=>(k,.bool true)
noncomputable def addK (l:List (List Ky)) (k:List Ky):List (List Ky):=if k∈l then l else l++[k]
theorem tput_add (l:List (List Ky)) (k:List Ky):tput (Kds l) k (.bool true)=Kds (addK l k):=by
  delta tput addK
  have e:(Kds l).any (fun p=>decide (p.1=k))=decide (k∈l):=by
    rw [Bool.eq_iff_iff]
    simp only [List.any_map,List.any_eq_true,Function.comp,decide_eq_true_eq]
    constructor
    · rintro ⟨a,ha,e⟩; exact e▸ha
    · intro hk; exact ⟨k,hk,rfl⟩
  rw [e]
  by_cases q:k∈l
  · simp only [q,decide_true,if_true]
    rw [List.map_map]
    refine List.map_congr_left fun a ha=>?_
    by_cases qa:a=k
    · subst qa; simp
    · simp [qa]
  · simp [q]
theorem addK_len (l:List (List Ky)) (k:List Ky):(addK l k).length≤l.length+1:=by unfold addK; split<;>simp
theorem addKs_len:∀ (ks l:List (List Ky)),(ks.foldl addK l).length≤l.length+ks.length
  | [],l=>by simp
  | k :: ks,l=>by
    have h1:=addKs_len ks (addK l k)
    have h2:=addK_len l k
    simp only [List.foldl_cons,List.length_cons]
    lia
noncomputable def fkey (p:Nat) (t:Str):List Ky:=[.int p,.str t]
noncomputable def rowTags (r:Row) (regs:Nat→AV):List Str:=match r with
  | .br=>rtags regs
  | .bl=>ctags regs
  | _=>[]
noncomputable def tagsAt (R:List Row) (m:Mp) (p:Nat):List Str:=match R[p]? with
  | some r=>rowTags r (m.f p).r
  | none=>[]
theorem tagsAt_len (R:List Row) (m:Mp) (p:Nat):(tagsAt R m p).length≤3:=by
  delta tagsAt rowTags
  split
  · split
    · unfold rtags; split<;>split<;>split<;>trivial
    · unfold ctags; split<;>split<;>trivial
    · simp
  · simp
noncomputable def placeK (R:List Row) (m:Mp) (p:Nat):List (List Ky):=(tagsAt R m p).map (fkey p)
noncomputable def startK (R:List Row) (m:Mp):List (List Ky):=m.ks.flatMap (placeK R m)
structure FF where
  o:Ob
  N:Nat→Nat
noncomputable def FF.m (x:FF) (a:Nat):Mp:=(itW x.o.R a (x.N a)).m
noncomputable def FF.keys (x:FF):List (List Ky):=(0 :: x.o.S).flatMap fun a=>startK x.o.R (x.m a)
structure FF.ok (x:FF):Prop where
  o:x.o.ok
  run:∀ a∈0 :: x.o.S,WIn.ok ⟨x.o.R,a,x.o.B,x.N a⟩
  pl:∀ a∈0 :: x.o.S,∀ p∈(x.m a).ks,p<x.o.R.length
noncomputable abbrev kdat (l:List (List Ky)):List PyData:=l.map fun k=>.tuple (k.map kD)
theorem tkeys_Kds (l:List (List Ky)):tkeys (Kds l)=kdat l:=by simp [tkeys]
noncomputable def R_frame_faults:FnR:=Pure fun ds z=>∃ x:FF,x.ok∧ds=[.ob x.o.fs]∧(x.keys.foldl addK []).length<64∧(kdat (x.keys.foldl addK [])).Nodup∧(∃ k,∀ y∈kdat (x.keys.foldl addK []),isP k y=true) ∧
  ∃ zs,z = .list zs∧∀ out,srtG (kdat (x.keys.foldl addK [])) out→out=zs
theorem flatMap_next {α β:Type} {l:List α} {i:Nat} {x:α} {f:α→List β} (h:l[i]?=some x):(l.take (i+1)).flatMap f=(l.take i).flatMap f++f x:=by
  simp only [take_next h]; simp
theorem addKs_ge:∀ (ks l:List (List Ky)),l.length≤(ks.foldl addK l).length
  | [],l=>by simp
  | k :: ks,l=>by
    have h1:=addKs_ge ks (addK l k)
    have h2:l.length≤(addK l k).length:=by unfold addK; split<;>simp
    exact Nat.le_trans (by assumption) (by assumption)
theorem pre_len {a b l:List (List Ky)} (h:a <+: b):(a.foldl addK l).length≤(b.foldl addK l).length:=by
  obtain ⟨t,rfl⟩:=h
  rw [List.foldl_append]
  exact addKs_ge _ _
theorem split_at {α:Type} {l:List α} {i:Nat} {x:α} (h:l[i]?=some x):l=l.take i++x :: l.drop (i+1):=by
  obtain ⟨h1,h2⟩:=List.getElem?_eq_some_iff.mp h
  subst h2
  simp only [← List.drop_eq_getElem_cons h1,List.take_append_drop]
theorem flat_pre {α β:Type} {l:List α} {i:Nat} {x:α} {f:α→List β} {p:List β} (h:l[i]?=some x) (hp:p <+: f x):(l.take i).flatMap f++p <+: l.flatMap f:=by
  refine kE hp fun t ht=>?_
  refine ⟨t++(l.drop (i+1)).flatMap f,?_⟩
  conv=>rhs; rw [split_at h]
  simp only [List.flatMap_append,List.flatMap_cons,← ht]
  simp
theorem kyL_flt (p:Nat) (t:Str):kyL [.int p,.str t]=some (fkey p t):=rfl
theorem run_ok {x:FF} (h:x.ok) {a:Nat} (ha:a∈0 :: x.o.S):RunOk x.o.R (itW x.o.R a (x.N a)):=(h.run a ha).run (x.N a) (Nat.le_refl _)
theorem flat_one {α β:Type} (l:List α) (f:α→β):(l.flatMap fun t=>[f t])=l.map f:=by
  induction l with
  | nil=>rfl
  | cons a l ih=>simp [ih]
theorem pre_all {β:Type} (l:List β) (i:Nat):l.take i <+: l:=List.take_prefix i l
theorem row_cls (r:Row):r = .br∨r = .bl∨((nm r == "BR")=false∧r.isBl=false∧∀ g,rowTags r g=[]):=by
  cases r with
  | br=>exact .inl rfl
  | bl=>exact .inr (.inl rfl)
  | _=>exact .inr (.inr ⟨by kernel_rfl,rfl,fun _=>rfl⟩)
noncomputable def gF {α:Type} (l:List α) (f:α→List (List Ky)) (l0:List (List Ky)) (i:Nat):List (List Ky):=((l.take i).flatMap f).foldl addK l0
theorem gF_next {α:Type} {l:List α} {f:α→List (List Ky)} {l0:List (List Ky)} {i:Nat} {a:α} (h:l[i]?=some a):gF l f l0 (i+1)=(f a).foldl addK (gF l f l0 i):=by
  unfold gF; simp only [flatMap_next h,List.foldl_append]
theorem gF_end {α:Type} {l:List α} {f:α→List (List Ky)} {l0:List (List Ky)}:gF l f l0 l.length=(l.flatMap f).foldl addK l0:=by
  unfold gF; rw [List.take_length]
theorem gF_le {α:Type} {l:List α} {f:α→List (List Ky)} {l0 p:List (List Ky)} {i:Nat} {a:α} (h:l[i]?=some a) (hp:p <+: f a):(p.foldl addK (gF l f l0 i)).length≤((l.flatMap f).foldl addK l0).length:=by
  unfold gF; rw [← List.foldl_append]; exact pre_len (flat_pre h hp)
theorem gF_at {α:Type} {l:List α} {f:α→List (List Ky)} {l0:List (List Ky)} {i:Nat} {a:α} (h:l[i]?=some a):(gF l f l0 i).length≤((l.flatMap f).foldl addK l0).length:=gF_le (p:=[]) h List.nil_prefix
noncomputable def FF.g (x:FF) (i:Nat):List (List Ky):=gF (0 :: x.o.S) (fun a=>startK x.o.R (x.m a)) [] i
noncomputable def FF.h (x:FF) (i a j:Nat):List (List Ky):=gF (x.m a).ks (placeK x.o.R (x.m a)) (x.g i) j
noncomputable def FF.k (x:FF) (i a j p:Nat) (r:Row) (k:Nat):List (List Ky):=gF (rowTags r ((x.m a).f p).r) (fun t=>[fkey p t]) (x.h i a j) k
section
variable {x:FF} {i a j p k:Nat} {r:Row} {t:Str}
theorem FF.g_end:x.g (x.o.S.length+1)=x.keys.foldl addK []:=gF_end (l:=0 :: x.o.S)
theorem FF.g_next (h:(0 :: x.o.S)[i]?=some a):x.g (i+1)=x.h i a (x.m a).ks.length:=(gF_next h).trans gF_end.symm
theorem FF.tags (hr:x.o.R[p]?=some r):placeK x.o.R (x.m a) p=(rowTags r ((x.m a).f p).r).map (fkey p):=by delta placeK tagsAt; rw [hr]
theorem FF.h_next (hj:(x.m a).ks[j]?=some p) (hr:x.o.R[p]?=some r):x.h i a (j+1)=x.k i a j p r (rowTags r ((x.m a).f p).r).length:=
  ((gF_next hj).trans (by simp only [FF.tags hr,← flat_one]; rfl)).trans gF_end.symm
theorem FF.k_next (ht:(rowTags r ((x.m a).f p).r)[k]?=some t):x.k i a j p r (k+1)=addK (x.k i a j p r k) (fkey p t):=gF_next ht
theorem FF.k_len (hl:(x.keys.foldl addK []).length<64) (h:(0 :: x.o.S)[i]?=some a) (hj:(x.m a).ks[j]?=some p) (hr:x.o.R[p]?=some r) (ht:(rowTags r ((x.m a).f p).r)[k]?=some t):(x.k i a j p r k).length≤1048576:=by
  refine Nat.le_trans (gF_at ht) ?_
  rw [flat_one,← FF.tags hr]
  refine Nat.le_trans (gF_le hj (List.prefix_refl _)) ?_
  exact Nat.le_trans (gF_le h (List.prefix_refl _)) (Nat.le_trans (Nat.le_of_lt hl) (by decide))
theorem FF.tags_len (hr:x.o.R[p]?=some r):(rowTags r ((x.m a).f p).r).length≤1048576:=by
  have h:=tagsAt_len x.o.R (x.m a) p
  unfold tagsAt at h
  rw [hr] at h
  exact Nat.le_trans h (by decide)
end
theorem row_at {R:List Row} {p:Nat} (h:p<R.length):R[p]?=some R[p]:=List.getElem?_eq_getElem h
theorem t_frame_faults:HT 0 1 0 9 (T_frame_faults R_fixed_rows R_procedure_starts R_states_of R_return_faults R_is_call R_call_faults) R_frame_faults:=HT.pure fun ds z ⟨x,hx,hd,hl,hn,hp,zs,hz,hu⟩ _=>by
  subst hd hz
  have ho:=hx.o
  have last:∀ {i a j p:Nat} {r:Row} {d1 d2:PyData} {Q:Fl→St→Prop},(0 :: x.o.S)[i]?=some a→(x.m a).ks[j]?=some p→x.o.R[p]?=some r →
      Q .next ⟨[.ob x.o.fs,.d (fixD x.o.B),.own 0,.d (.int a),.d (.dict (eMp sP (x.m a))),.d (.int p),.d d1,.d d2,.d (.list ((rowTags r ((x.m a).f p).r).map (flt p))),.u],[.tdict (Kds (x.h i a (j+1)))]⟩ →
      forK (.one 9) (setT (litT (.bool true)) (nameT 2) (nameT 9)) Q ((rowTags r ((x.m a).f p).r).map (flt p)) ⟨[.ob x.o.fs,.d (fixD x.o.B),.own 0,.d (.int a),.d (.dict (eMp sP (x.m a))),.d (.int p),.d d1,.d d2,.d (.list ((rowTags r ((x.m a).f p).r).map (flt p))),.u],[.tdict (Kds (x.h i a j))]⟩:=fun {i a j p r d1 d2 Q} hi hj hr hQ=>
    forK_map1 (fun k=>⟨[.ob x.o.fs,.d (fixD x.o.B),.own 0,.d (.int a),.d (.dict (eMp sP (x.m a))),.d (.int p),.d d1,.d d2,.d (.list ((rowTags r ((x.m a).f p).r).map (flt p))),.u],[.tdict (Kds (x.k i a j p r k))]⟩) rfl (fun k t ht=>by
      simp! [flt,kyL_flt,FF.k_len hl hi hj hr ht,tput_add]
      rw [FF.k_next ht]
      exact Sh.kp 9 1 rfl rfl rfl rfl) (by rw [← FF.h_next hj hr]; exact hQ)
  simp! [T_frame_faults]
  refine FnOf.call x.o ho trivial ?_
  simp! []
  refine FnOf.call x.o ho trivial ?_
  simp! []
  refine ⟨Nat.le_trans ho.Sl (by decide),forK_map1 (f:=fun (n:Nat)=>.int (n:Int)) (l:=0 :: x.o.S) (fun i=>⟨[.ob x.o.fs,.d (fixD x.o.B),.own 0,.u,.u,.u,.u,.u,.u,.u],[.tdict (Kds (x.g i))]⟩) rfl (fun i a hi=>?_) ?_⟩
  · simp! [ho.rows]
    refine FnOf.call (⟨x.o.R,a,x.o.B,x.N a⟩:WIn) (hx.run a (List.mem_of_getElem? hi)) trivial ?_
    show asgK _ _ (.d (.dict (eMp sP (x.m a)))) _
    simp! [ke_keys]
    refine ⟨Nat.le_trans (run_ok hx (List.mem_of_getElem? hi)).2.1 (by decide),forK_map1 (fun j=>⟨[.ob x.o.fs,.d (fixD x.o.B),.own 0,.d (.int a),.d (.dict (eMp sP (x.m a))),.u,.u,.u,.u,.u],[.tdict (Kds (x.h i a j))]⟩) rfl (fun j p hj=>?_) ?_⟩
    · have hpm:=List.mem_of_getElem? hj
      have hr:=row_at (hx.pl a (List.mem_of_getElem? hi) p hpm)
      have hb:=(row_bnd hr ho.len).1
      rcases row_cls (x.o.R[p]'(hx.pl a (List.mem_of_getElem? hi) p hpm)) with e | e | ⟨e1,e2,e3⟩
      · rw [e] at hr
        have hpk:=row_pick hr
        simp! [ho.rows,hpk,hb,eMp_look,hpm,sP,eRow]
        refine FnOf.call (p,(x.m a).f p) trivial trivial ?_
        simp! []
        exact ⟨FF.tags_len hr,last hi hj hr (Sh.kp 5 1 rfl rfl rfl rfl)⟩
      · rw [e] at hr
        have hpk:=row_pick hr
        simp! [ho.rows,hpk,hb,eMp_look,hpm,sP,eRow]
        refine FnOf.call Row.bl trivial trivial ?_
        simp! [Row.isBl]
        refine FnOf.call (p,(x.m a).f p) trivial trivial ?_
        simp! []
        exact ⟨FF.tags_len hr,last hi hj hr (Sh.kp 5 1 rfl rfl rfl rfl)⟩
      · have last:=fun {d1 d2 Q}=>last (d1:=d1) (d2:=d2) (Q:=Q) hi hj hr
        rw [e3] at last
        have hpk:=(row_pick hr).trans (congrArg some (eRow_parts _))
        simp! [ho.rows,hpk,hb,eMp_look,hpm,sP,e1]
        rw [← eRow_parts]
        refine FnOf.call _ trivial trivial ?_
        simp! [e2]
        exact last (Sh.kp 5 1 rfl rfl rfl rfl)
    · exact Sh.kp 3 1 (by rw [FF.g_next hi]; rfl) rfl rfl rfl
  · rw [show (0 :: x.o.S).length=x.o.S.length+1 from rfl,FF.g_end]
    simp! []
    rw [tkeys_Kds]
    refine ⟨by rw [List.length_map]; exact hl,.inr ⟨hn,hp⟩,fun out ho=>?_⟩
    rw [hu out ho]
    trivial
noncomputable def bad (v:AV) (o:Int):Bool:=(match v with | .frm k=>decide (o<k) | _=>false)||decide (o = -4)||decide (o = -8)||!decide (o.fmod 4=0)
noncomputable def mkey (p:Nat) (o:Int):List Ky:=[.int ((p:Int)+1),.int o]
noncomputable def offK (v:AV) (p:Nat) (o:Int):List (List Ky):=if bad v o=true then [mkey p o] else []
noncomputable def placeM (x:Ob) (m:Mp) (p:Nat):List (List Ky):=if p∈x.B∧p+1∈x.ms then (x.mf (p+1)).flatMap (offK ((m.f p).r 14) p) else []
noncomputable def startM (x:Ob) (m:Mp):List (List Ky):=m.ks.flatMap (placeM x m)
noncomputable def FF.mkeys (x:FF):List (List Ky):=(0 :: x.o.S).flatMap fun a=>startM x.o (x.m a)
noncomputable def R_map_faults:FnR:=Pure fun ds z=>∃ x:FF,x.ok∧(∀ q,(x.o.mf q).length≤100)∧ds=[.ob x.o.fs]∧(x.mkeys.foldl addK []).length<64∧(kdat (x.mkeys.foldl addK [])).Nodup∧(∃ k,∀ y∈kdat (x.mkeys.foldl addK []),isP k y=true) ∧
  ∃ zs,z = .list zs∧∀ out,srtG (kdat (x.mkeys.foldl addK [])) out→out=zs
theorem maps_look (x:Ob) (p:Nat):dlook (kv (fun n:Nat=>(n:Int)) (fun p=>PyData.list ((x.mf p).map .int)) x.ms) (.int ((p:Int)+1))=if p+1∈x.ms then some (.list ((x.mf (p+1)).map .int)) else none:=by
  have:=ke_look (c:=fun n:Nat=>(n:Int)) (h:=fun p=>PyData.list ((x.mf p).map .int)) (ks:=x.ms) natI (p+1)
  simpa using this
theorem kyL_m (p:Nat) (o:Int):kyL [.int ((p:Int)+1),.int o]=some (mkey p o):=rfl
theorem bad_eq {v:AV} {t:Int} {w:Bool} (h:w=match v with | .frm k=>decide (t<k) | _=>false):(w||((decide (-4=t)||decide (-8=t))||!decide (t.fmod 4=0)))=bad v t:=by
  unfold bad
  rw [← h,decide_eq_decide.mpr (eq_comm (a := -4)),decide_eq_decide.mpr (eq_comm (a := -8)),Bool.or_assoc,Bool.or_assoc,Bool.or_assoc]
noncomputable def FF.gm (x:FF) (i:Nat):List (List Ky):=gF (0 :: x.o.S) (fun a=>startM x.o (x.m a)) [] i
noncomputable def FF.hm (x:FF) (i a j:Nat):List (List Ky):=gF (x.m a).ks (placeM x.o (x.m a)) (x.gm i) j
noncomputable def FF.km (x:FF) (i a j p k:Nat):List (List Ky):=gF (x.o.mf (p+1)) (offK (((x.m a).f p).r 14) p) (x.hm i a j) k
section
variable {x:FF} {i a j p k:Nat} {t:Int}
theorem FF.gm_end:x.gm (x.o.S.length+1)=x.mkeys.foldl addK []:=gF_end (l:=0 :: x.o.S)
theorem FF.gm_next (h:(0 :: x.o.S)[i]?=some a):x.gm (i+1)=x.hm i a (x.m a).ks.length:=(gF_next h).trans gF_end.symm
theorem FF.places (h:p∈x.o.B∧p+1∈x.o.ms):placeM x.o (x.m a) p=(x.o.mf (p+1)).flatMap (offK (((x.m a).f p).r 14) p):=by unfold placeM; exact if_pos h
theorem FF.hm_next (hj:(x.m a).ks[j]?=some p) (h:p∈x.o.B∧p+1∈x.o.ms):x.hm i a (j+1)=x.km i a j p (x.o.mf (p+1)).length:=
  ((gF_next hj).trans (by simp only [FF.places h]; rfl)).trans gF_end.symm
theorem FF.hm_same (hj:(x.m a).ks[j]?=some p) (h:¬ (p∈x.o.B∧p+1∈x.o.ms)):x.hm i a (j+1)=x.hm i a j:=
  (gF_next hj).trans (by simp only [placeM]; rw [if_neg h]; rfl)
theorem FF.km_next (ht:(x.o.mf (p+1))[k]?=some t):x.km i a j p (k+1)=(offK (((x.m a).f p).r 14) p t).foldl addK (x.km i a j p k):=gF_next ht
theorem FF.km_len (hl:(x.mkeys.foldl addK []).length<64) (hi:(0 :: x.o.S)[i]?=some a) (hj:(x.m a).ks[j]?=some p) (h:p∈x.o.B∧p+1∈x.o.ms) (ht:(x.o.mf (p+1))[k]?=some t):(x.km i a j p k).length≤1048576:=by
  refine Nat.le_trans (gF_at ht) ?_
  rw [← FF.places h]
  refine Nat.le_trans (gF_le hj (List.prefix_refl _)) ?_
  exact Nat.le_trans (gF_le hi (List.prefix_refl _)) (Nat.le_trans (Nat.le_of_lt hl) (by decide))
end
theorem t_map_faults:HT 0 1 0 8 (T_map_faults R_fixed_rows R_procedure_starts R_states_of R_may_collect) R_map_faults:=HT.pure fun ds z ⟨x,hx,hmf,hd,hl,hn,hp,zs,hz,hu⟩ _=>by
  subst hd hz
  have ho:=hx.o
  have two:∀ {i a j p k:Nat} {t:Int} {w:Bool} {Q:Fl→St→Prop},(x.km i a j p k).length≤1048576→(x.o.mf (p+1))[k]?=some t→(w=match ((x.m a).f p).r 14 with | .frm k=>decide (t<k) | _=>false) →
      (∀ y,Q .next ⟨[.ob x.o.fs,.d (fixD x.o.B),.own 0,.d (.int a),.d (.dict (eMp sP (x.m a))),.d (.int p),.d (eP (((x.m a).f p).r 14)),.d (.int t),.d y],[.tdict (Kds (x.km i a j p (k+1)))]⟩) →
      ifT (orT [tstT (nameT 8),tstT (op2T (nameT 7) (tupT [negT (litT (PyData.int 4)),negT (litT (PyData.int 8))]) inO),tstT (op2T (op2T (nameT 7) (litT (PyData.int 4)) modI) (litT (PyData.int 0)) neO)])
        (setT (litT (PyData.bool true)) (nameT 2) (tupT [op2T (nameT 5) (litT (PyData.int 1)) addI,nameT 7])) skipT Q ⟨[.ob x.o.fs,.d (fixD x.o.B),.own 0,.d (.int a),.d (.dict (eMp sP (x.m a))),.d (.int p),.d (eP (((x.m a).f p).r 14)),.d (.int t),.d (.bool w)],[.tdict (Kds (x.km i a j p k))]⟩:=fun {i a j p k t w Q} hl2 ht hw hQ=>by
    refine orB2 (c:=decide (-4=t)||decide (-8=t)) (c':=!decide (t.fmod 4=0)) (fun R=>by simp! []) (fun R=>by simp! []) ?_
    rw [bad_eq hw]
    refine ifK_of (fun hb=>?_) fun hb=>?_
    · simp! [kyL_m,hl2,tput_add]
      have:=hQ (.bool w)
      rw [FF.km_next ht] at this
      unfold offK at this
      rw [if_pos hb] at this
      exact this
    · have:=hQ (.bool w)
      rw [FF.km_next ht] at this
      unfold offK at this
      rw [if_neg (by rw [hb]; decide)] at this
      exact this
  simp! [T_map_faults]
  refine FnOf.call x.o ho trivial ?_
  simp! []
  refine FnOf.call x.o ho trivial ?_
  simp! []
  refine ⟨Nat.le_trans ho.Sl (by decide),forK_map1 (f:=fun (n:Nat)=>.int (n:Int)) (l:=0 :: x.o.S) (fun i=>⟨[.ob x.o.fs,.d (fixD x.o.B),.own 0,.u,.u,.u,.u,.u,.u],[.tdict (Kds (x.gm i))]⟩) rfl (fun i a hi=>?_) ?_⟩
  · simp! [ho.rows]
    refine FnOf.call (⟨x.o.R,a,x.o.B,x.N a⟩:WIn) (hx.run a (List.mem_of_getElem? hi)) trivial ?_
    show asgK _ _ (.d (.dict (eMp sP (x.m a)))) _
    simp! [ke_keys]
    refine ⟨Nat.le_trans (run_ok hx (List.mem_of_getElem? hi)).2.1 (by decide),forK_map1 (fun j=>⟨[.ob x.o.fs,.d (fixD x.o.B),.own 0,.d (.int a),.d (.dict (eMp sP (x.m a))),.u,.u,.u,.u],[.tdict (Kds (x.hm i a j))]⟩) rfl (fun j p hj=>?_) ?_⟩
    · have hpm:=List.mem_of_getElem? hj
      have hr:=row_at (hx.pl a (List.mem_of_getElem? hi) p hpm)
      have hpk:=row_pick hr
      have hb:=(row_bnd hr ho.len).1
      have hmk:=maps_look x.o p
      by_cases hpB:p∈x.o.B∧p+1∈x.o.ms
      · have hm3:(x.o.mf (p+1)).length≤1048576:=Nat.le_trans (hmf (p+1)) (by decide)
        simp! [ho.rows,ho.maps,hmk,hpB.2,hpk,hb]
        refine FnOf.call _ trivial trivial ?_
        simp! [(ho.Bf p _ hr).mp hpB.1,eMp_look,hpm,ho.maps,hmk,hpB.2,hm3]
        refine forK_map1 (fun k=>⟨[.ob x.o.fs,.d (fixD x.o.B),.own 0,.d (.int a),.d (.dict (eMp sP (x.m a))),.d (.int p),.d (eP (((x.m a).f p).r 14)),.u,.u],[.tdict (Kds (x.km i a j p k))]⟩) rfl (fun k t ht=>?_) ?_
        · have two:=fun {w Q}=>two (w:=w) (Q:=Q) (FF.km_len hl hi hj hpB ht) ht
          generalize ifT (orT _) _ _=I at two ⊢
          cases hq:((x.m a).f p).r 14 with
          | frm k=>
            rw [hq] at two
            simp! [ePf]
            exact two rfl fun _=>Sh.kp 7 1 rfl rfl rfl rfl
          | _=>
            rw [hq] at two
            simp! [ePn,ePe,ePa]
            exact two rfl fun _=>Sh.kp 7 1 rfl rfl rfl rfl
        · exact Sh.kp 5 1 (by rw [FF.hm_next hj hpB]; rfl) rfl rfl rfl
      · rw [FF.hm_same hj hpB]
        by_cases hms:p+1∈x.o.ms
        · have hbl:(x.o.R[p]'(hx.pl a (List.mem_of_getElem? hi) p hpm)).isBl=false:=Bool.eq_false_iff.mpr fun h=>hpB ⟨(ho.Bf p _ hr).mpr h,hms⟩
          simp! [ho.rows,ho.maps,hmk,hms,hpk,hb]
          refine FnOf.call _ trivial trivial ?_
          simp! [hbl]
          exact Sh.kp 5 1 rfl rfl rfl rfl
        · simp! [ho.rows,ho.maps,hmk,hms]
          exact Sh.kp 5 1 rfl rfl rfl rfl
    · exact Sh.kp 3 1 (by rw [FF.gm_next hi]; rfl) rfl rfl rfl
  · rw [show (0 :: x.o.S).length=x.o.S.length+1 from rfl,FF.gm_end]
    simp! []
    rw [tkeys_Kds]
    refine ⟨by rw [List.length_map]; exact hl,.inr ⟨hn,hp⟩,fun out ho=>?_⟩
    rw [hu out ho]
    trivial
noncomputable abbrev nats (l:List Nat):List PyData:=l.map fun (n:Nat)=>.int (n:Int)
noncomputable def cF (l:List Nat):Cell:=.list (nats l.reverse)
noncomputable def hd (l:List Nat) (m:Nat):Nat:=l.headD 0 % m
noncomputable def R_draw:FnR:=fun qs ds r qs'=>∃ (l:List Nat) (m:Nat),0<m∧l.length≤1000∧qs=[cF l]∧ds=[.d (.int m)]∧r = .d (.int (hd l m))∧qs'=[cF l.tail]
theorem lay_nats (l:List Nat):PyData.canLayAll0 (nats l)=true∧PyData.depthAll (nats l)≤1:=by
  induction l with
  | nil=>decide
  | cons a l ih=>
    exact ⟨ih.1,by have:=ih.2; simp only [nats] at this; assumption⟩
theorem dep_nats (l:List Nat):PyData.depthAll (nats l)≤15:=Nat.le_trans (lay_nats l).2 (by decide)
theorem nat_fmod (a b:Nat):(a:Int).fmod (b:Int)=((a % b:Nat):Int):=by
  rw [Int.fmod_eq_emod_of_nonneg _ (nn b)]; simp
theorem nat_fdiv (a b:Nat):(a:Int).fdiv (b:Int)=((a / b:Nat):Int):=by
  rw [Int.fdiv_eq_ediv_of_nonneg _ (nn b)]; simp
theorem t_draw:HT 1 2 0 0 T__law_draw R_draw:=by
  rintro qs ds r qs' ⟨l,m,hm,hl,rfl,rfl,rfl,rfl⟩ _ _ _
  refine ⟨by simp [Cell.flat,cF],rfl,?_⟩
  have hm':¬ (m:Int)=0:=by lia
  have hm2:¬ m=0:=by exact Nat.ne_of_gt (by assumption)
  cases l with
  | nil=>
    simp! [T__law_draw,okd,PyData.eqv,PyData.eqvAll,cF,List.range_succ,hd]
  | cons x l=>
    have h1:=(lay_nats (x :: l).reverse).1
    have h2:=dep_nats (x :: l).reverse
    have h3:l.length+1≤1048576:=by simp at hl; exact Nat.lt_of_le_of_lt (by assumption) (by decide)
    simp at h1 h2
    have h4:(PyData.eqvAll (nats l.reverse++[.int x]) [])=false:=by
      cases hq:nats l.reverse<;>rfl
    simp only [nats,List.map_reverse] at h4
    simp! [T__law_draw,okd,PyData.eqv,PyData.eqvAll,cF,List.range_succ,hd,h1,h2,h3,h4,hm',hm2,nat_fmod]
theorem cF_flat (l:List Nat):(cF l).flat=true:=rfl
theorem cF_lt (l:List Nat) (n:Nat):(cF l).lt n:=trivial
theorem fz_cF (k:Nat) (x:PyData) (l:List Nat):Cell.fz k x (cF l)=cF l:=rfl
theorem draw_call {k m:Nat} {l:List Nat} {Q:V→St→Prop} {ρ:List V} {μ:List Cell} (hm:0<m) (hl:l.length≤1000) (hk:μ[k]?=some (cF l)) (h:Q (.d (.int (hd l m))) ⟨ρ,μ.set k (cF l.tail)⟩):callO 1 R_draw [.own k,.d (.int m)] Q ⟨ρ,μ⟩:=by
  refine ⟨by simp,fun q hq=>⟨cF l,by simp at hq; subst hq; exact hk,rfl⟩,.d (.int (hd l m)),[cF l.tail],⟨l,m,hm,hl,?_,rfl,rfl,rfl⟩,h⟩
  simp [cellsAt,hk]
theorem draw0 {m:Nat} {l:List Nat} {Q:V→St→Prop} {ρ:List V} {μ:List Cell} (hm:0<m) (hl:l.length≤1000) (h:Q (.d (.int (hd l m))) ⟨ρ,cF l.tail :: μ⟩):callO 1 R_draw [.own 0,.d (.int m)] Q ⟨ρ,cF l :: μ⟩:=
  draw_call hm hl rfl h
theorem tl_len {l:List Nat} (h:l.length≤1000):l.tail.length≤1000:=by rw [List.length_tail]; exact Nat.le_trans (Nat.sub_le _ _) h
noncomputable def lapF (l:List Nat):List Row×List Nat:=
  let k:=hd l 7
  let l1:=l.tail
  if k<2 then ([.bl],l1)
  else if k=2 then ([.str (hd l1 4) 11 (-12 - 4 * (hd l1.tail 3:Int))],l1.tail.tail)
  else if k=3 then ([.ldr (hd l1 4) 11 (-12 - 4 * (hd l1.tail 3:Int))],l1.tail.tail)
  else if k=4 then ([.b 0 1],l1)
  else if k=5 then (.subi 14 14 (4 * (1+(hd l1 3:Int))) :: (if 0<hd l1.tail 3 then [.bl] else [])++[.addi 14 14 (4 * (1+(hd l1 3:Int)))],l1.tail.tail)
  else ([.movi (hd l1 4) (hd l1.tail 50:Int)],l1.tail.tail)
theorem lapF0 {l:List Nat} (h:hd l 7=0):lapF l=([.bl],l.tail):=by simp [lapF,h]
theorem lapF1 {l:List Nat} (h:hd l 7=1):lapF l=([.bl],l.tail):=by simp [lapF,h]
theorem lapF2 {l:List Nat} (h:hd l 7=2):lapF l=([.str (hd l.tail 4) 11 (-12 - 4 * (hd l.tail.tail 3:Int))],l.tail.tail.tail):=by simp [lapF,h]
theorem lapF3 {l:List Nat} (h:hd l 7=3):lapF l=([.ldr (hd l.tail 4) 11 (-12 - 4 * (hd l.tail.tail 3:Int))],l.tail.tail.tail):=by simp [lapF,h]
theorem lapF4 {l:List Nat} (h:hd l 7=4):lapF l=([.b 0 1],l.tail):=by simp [lapF,h]
theorem lapF5 {l:List Nat} (h:hd l 7=5):lapF l=(.subi 14 14 (4 * (1+(hd l.tail 3:Int))) :: (if 0<hd l.tail.tail 3 then [.bl] else [])++[.addi 14 14 (4 * (1+(hd l.tail 3:Int)))],l.tail.tail.tail):=by simp [lapF,h]
theorem lapF6 {l:List Nat} (h:hd l 7=6):lapF l=([.movi (hd l.tail 4) (hd l.tail.tail 50:Int)],l.tail.tail.tail):=by simp [lapF,h]
noncomputable def bodyIt (l:List Nat):Nat→List Row×List Nat
  | 0=>([],l)
  | i+1=>((bodyIt l i).1++(lapF (bodyIt l i).2).1,(lapF (bodyIt l i).2).2)
noncomputable def bodyF (l:List Nat):List Row×List Nat:=bodyIt l.tail (hd l 9)
theorem lapF_len (l:List Nat):(lapF l).1.length≤3∧(lapF l).2.length≤l.length:=by
  unfold lapF
  dsimp only
  split
  · simp
  · split
    · simp; omega
    · split
      · simp; omega
      · split
        · simp
        · split
          · split<;>simp<;>omega
          · simp; omega
theorem bodyIt_len (l:List Nat) (i:Nat):(bodyIt l i).1.length≤3 * i∧(bodyIt l i).2.length≤l.length:=by
  induction i with
  | zero=>simp [bodyIt]
  | succ i ih=>
    have:=lapF_len (bodyIt l i).2
    simp only [bodyIt,List.length_append]
    lia
noncomputable def R_body:FnR:=fun qs ds r qs'=>∃ (l:List Nat) (room:Int),l.length≤1000∧qs=[cF l]∧ds=[.d (.int room)]∧r = .d (rowsD (bodyF l).1)∧qs'=[cF (bodyF l).2]
theorem hd_lt (l:List Nat) {m:Nat} (h:0<m):hd l m<m:=Nat.mod_lt _ h
theorem seven {k:Nat} (h:k<7):k=0∨k=1∨k=2∨k=3∨k=4∨k=5∨k=6:=by revert k; decide
theorem optBl {n:Nat}:(if 0<n then [Row.bl] else []).map eRow=opt (decide (0<n)) (eRow .bl):=by by_cases h:0<n<;>simp [h,opt]
theorem t_body:HT 1 2 0 4 (T__law_body R_draw) R_body:=by
  rintro qs ds r qs' ⟨l,room,hl,rfl,rfl,rfl,rfl⟩ _ _ _
  refine ⟨by simp [Cell.flat,cF],rfl,?_⟩
  have h9:=hd_lt l (m:=9) (by decide)
  let U:Nat→St:=fun i=>⟨[.own 0,.d (.int room),.own 1,.u,.u,.u],[cF (bodyIt l.tail i).2,.list ((bodyIt l.tail i).1.map eRow)]⟩
  simp! [T__law_body,List.range_succ]
  refine draw0 (m:=9) (by decide) hl ?_
  simp! []
  refine ⟨Nat.le_trans (Nat.le_of_lt h9) (by decide),forK_is U rfl (fun i z hz=>?_) ?_⟩
  · refine kA (rng_at hz) fun hi z2=>?_
    subst z2
    obtain ⟨b1,b2⟩:=bodyIt_len l.tail i
    have b4:(bodyIt l.tail i).2.length≤1000:=Nat.le_trans b2 (tl_len hl)
    have r3:(bodyIt l.tail i).1.length+1+1≤1048576:=by lia
    have e:bodyIt l.tail (i+1)=((bodyIt l.tail i).1++(lapF (bodyIt l.tail i).2).1,(lapF (bodyIt l.tail i).2).2):=rfl
    have b5:=tl_len b4
    have b6:=tl_len b5
    have r2:=Nat.le_of_succ_le r3
    have r1:=Nat.le_of_succ_le r2
    have fin:∀ {d y5 y6:V} {rows' l' xs},lapF (bodyIt l.tail i).2=(rows',l')→xs=(bodyIt l.tail i).1.map eRow++rows'.map eRow→V.ltb 2 d=true→V.ltb 2 y5=true→Sh 2 (isS (U (i+1))) ⟨[.own 0,.d (.int room),.own 1,d,y5,y6],[cF l',.list xs]⟩:=fun h hx _ _=>
      Sh.kp 3 2 (by show _=(⟨_,[cF (bodyIt l.tail (i+1)).2,.list ((bodyIt l.tail (i+1)).1.map eRow)]⟩:St); simp only [e,h,List.map_append,hx]; rfl) rfl rfl rfl
    refine ⟨_,rfl,?_⟩
    show seqT _ _ _ ⟨[.own 0,.d (.int room),.own 1,.d (.int i),.u,.u],[cF (bodyIt l.tail i).2,.list ((bodyIt l.tail i).1.map eRow)]⟩
    clear_value U
    clear e b1 b2
    generalize (bodyIt l.tail i).1=rows at *
    generalize (bodyIt l.tail i).2=l1 at *
    simp! []
    refine draw0 (m:=7) (by decide) b4 ?_
    rcases seven (hd_lt l1 (m:=7) (by decide)) with hk | hk | hk | hk | hk | hk | hk<;>rw [hk]
    · simp! [r1]
      exact fin (lapF0 hk) rfl rfl rfl
    · simp! [r1]
      exact fin (lapF1 hk) rfl rfl rfl
    · simp! []
      refine draw0 (m:=4) (by decide) b5 ?_
      refine draw0 (m:=3) (by decide) b6 ?_
      simp! [r1]
      exact fin (lapF2 hk) rfl rfl rfl
    · simp! []
      refine draw0 (m:=4) (by decide) b5 ?_
      refine draw0 (m:=3) (by decide) b6 ?_
      simp! [r1]
      exact fin (lapF3 hk) rfl rfl rfl
    · simp! [r1]
      exact fin (lapF4 hk) rfl rfl rfl
    · simp! []
      refine draw0 (m:=3) (by decide) b5 ?_
      have h3:=hd_lt l1.tail (m:=3) (by decide)
      simp! [r1]
      refine draw0 (m:=3) (by decide) b6 ?_
      have r4:rows.length+((opt (decide (0<hd l1.tail.tail 3)) (eRow .bl)).length+1)≤1048576:=Nat.le_trans (Nat.add_le_add_left (Nat.succ_le_succ opt_len) _) r3
      refine appIf (x:=eRow .bl) rfl rfl (by simp only [List.length_append,List.length_map]; exact r2) (fun R=>by simp! [eRow]) ?_
      simp! [r4]
      refine fin (lapF5 hk) ?_ rfl rfl
      simp [optBl,eRow]
    · simp! []
      refine draw0 (m:=4) (by decide) b5 ?_
      refine draw0 (m:=50) (by decide) b6 ?_
      simp! [r1]
      exact fin (lapF6 hk) rfl rfl rfl
  · simp only [rng_len]
    show seqK _ _ _ ⟨[.own 0,.d (.int room),.own 1,.u,.u,.u],[cF (bodyIt l.tail (hd l 9)).2,.list ((bodyIt l.tail (hd l 9)).1.map eRow)]⟩
    simp! [fz_cF,bodyF]
noncomputable def insR:Nat→Row
  | 0=>.addi 14 14 4
  | 1=>.mov 11 14
  | 2=>.movi 15 3
  | _=>.str 2 11 (-4)
noncomputable def offR:Nat→Int
  | 0=>2
  | 1=>4
  | _ => -4
noncomputable def regR:Nat→Nat
  | 0=>15
  | 1=>11
  | 2=>14
  | _=>3
noncomputable def edit3 (r:Row) (o:Int):Option Row:=match r with
  | .subi a c k=>some (.subi a c (k+o))
  | .ldr a c k=>some (.ldr a c (k+o))
  | .str a c k=>some (.str a c (k+o))
  | _=>none
noncomputable def edit4 (r:Row) (n:Nat):Option Row:=match r with
  | .ldr a c k=>some (.ldr n c k)
  | .str a c k=>some (.str n c k)
  | .mov a c=>some (.mov n c)
  | _=>none
noncomputable def spoilF (l:List Nat) (s:List Row):List Row×List Nat:=
  let spot:=hd l.tail s.length
  let l2:=l.tail.tail
  if hd l 9=1 then (s.eraseIdx spot,l2)
  else if hd l 9=2 then (s.take spot++insR (hd l2 4) :: s.drop spot,l2.tail)
  else if hd l 9=3 then (match s[spot]?.bind fun r=>edit3 r (offR (hd l2 3)) with | some r=>(s.set spot r,l2.tail) | none=>(s,l2))
  else if hd l 9=4 then (match s[spot]?.bind fun r=>edit4 r (regR (hd l2 4)) with | some r=>(s.set spot r,l2.tail) | none=>(s,l2))
  else (s,l2)
theorem map_erase (s:List Row) (i:Nat):(s.eraseIdx i).map eRow=(s.map eRow).eraseIdx i:=by
  induction s generalizing i with
  | nil=>rfl
  | cons a s ih=>cases i with
    | zero=>rfl
    | succ i=>simp [ih]
theorem map_set (s:List Row) (i:Nat) (r:Row):(s.set i r).map eRow=(s.map eRow).set i (eRow r):=by
  induction s generalizing i with
  | nil=>rfl
  | cons a s ih=>cases i with
    | zero=>rfl
    | succ i=>simp [ih]
noncomputable def rowC (s:List Row):Cell:=.list (s.map eRow)
noncomputable def R_spoil:FnR:=fun qs ds r qs'=>∃ (l:List Nat) (s:List Row),l.length≤1000∧s.length≤900∧s≠[]∧qs=[cF l,rowC s]∧ds=[]∧r = .d .none∧qs'=[cF (spoilF l s).2,rowC (spoilF l s).1]
noncomputable def any3 (a b c:String) (r:Row):Bool:=a==nm r||(b==nm r||c==nm r)
theorem edit3_is (r:Row) (o:Int):(any3 "SUBI" "LDR" "STR" r=false∧edit3 r o=none)∨(any3 "SUBI" "LDR" "STR" r=true∧∃ r',edit3 r o=some r'∧PyData.tuple [.str (nm r),x1 r,x2 r,.int (x3 r+o)]=eRow r'):=by
  cases r<;>first | exact .inr ⟨by kernel_rfl,_,rfl,rfl⟩ | exact .inl ⟨by kernel_rfl,rfl⟩
theorem edit4_is (r:Row) (n:Nat):(any3 "LDR" "STR" "MOV" r=false∧edit4 r n=none)∨(any3 "LDR" "STR" "MOV" r=true∧∃ r',edit4 r n=some r'∧PyData.tuple [.str (nm r),.int n,x2 r,.int (x3 r)]=eRow r'):=by
  cases r<;>first | exact .inr ⟨by kernel_rfl,_,rfl,rfl⟩ | exact .inl ⟨by kernel_rfl,rfl⟩
theorem three {j:Nat} {P:Nat→Prop} (h:j<3) (h0:P 0) (h1:P 1) (h2:P 2):P j:=by
  have:j=0∨j=1∨j=2:=by revert j; decide
  rcases this with rfl | rfl | rfl<;>assumption
theorem four {j:Nat} {P:Nat→Prop} (h:j<4) (h0:P 0) (h1:P 1) (h2:P 2) (h3:P 3):P j:=by
  have:j=0∨j=1∨j=2∨j=3:=by revert j; decide
  rcases this with rfl | rfl | rfl | rfl<;>assumption
theorem pk_off {j:Nat} (h:j<3):pick [PyData.int 2,.int 4,.int (-4)] j=some (.int (offR j)):=three (P:=fun (j:Nat)=>pick [PyData.int 2,.int 4,.int (-4)] j=some (.int (offR j))) h rfl rfl rfl
theorem pk_reg {j:Nat} (h:j<4):pick [PyData.int 15,.int 11,.int 14,.int 3] j=some (.int (regR j)):=four (P:=fun (j:Nat)=>pick [PyData.int 15,.int 11,.int 14,.int 3] j=some (.int (regR j))) h rfl rfl rfl rfl
theorem pk_ins {j:Nat} (h:j<4):pick [PyData.tuple [.str "ADDI",.int 14,.int 14,.int 4],.tuple [.str "MOV",.int 11,.int 0,.int 14],.tuple [.str "MOVI",.int 15,.int 0,.int 3],.tuple [.str "STR",.int 2,.int 11,.int (-4)]] j=some (eRow (insR j)):=
  four (P:=fun (j:Nat)=>pick [PyData.tuple [.str "ADDI",.int 14,.int 14,.int 4],.tuple [.str "MOV",.int 11,.int 0,.int 14],.tuple [.str "MOVI",.int 15,.int 0,.int 3],.tuple [.str "STR",.int 2,.int 11,.int (-4)]] j=some (eRow (insR j))) h rfl rfl rfl rfl
theorem t_spoil:HT 2 2 0 6 (T__law_spoil R_draw) R_spoil:=by
  rintro qs ds r qs' ⟨l,s,hl,hs,hne,rfl,rfl,rfl,rfl⟩ _ _ _
  refine ⟨by simp [Cell.flat,cF,rowC],rfl,?_⟩
  have hpos:0<s.length:=List.length_pos_iff.mpr hne
  have hl1:=tl_len hl
  have hl2:=tl_len hl1
  have hs':s.length≤1048576:=Nat.le_trans hs (by decide)
  have hsp:=hd_lt l.tail hpos
  have h3:=hd_lt l.tail.tail (m:=3) (by decide)
  have h4:=hd_lt l.tail.tail (m:=4) (by decide)
  have hb3:=lit4 h3 (by decide)
  have hb4:=lit4 h4 (by decide)
  have hp3:=pk_off h3
  have hp4:=pk_reg h4
  have hpi:=pk_ins h4
  obtain ⟨r,hr⟩:∃ r,s[hd l.tail s.length]?=some r:=⟨_,List.getElem?_eq_getElem hsp⟩
  have hpk:=(row_pick hr).trans (congrArg some (eRow_parts r))
  have hb:=lit4 hsp (Nat.le_trans hs (by decide))
  have hspl':((hd l.tail s.length:Nat):Int)<s.length:=Int.ofNat_lt.mpr hsp
  have hspl:=Int.le_of_lt hspl'
  have hk:hd l 9=1∨hd l 9=2∨hd l 9=3∨hd l 9=4∨hd l 9≠1∧hd l 9≠2∧hd l 9≠3∧hd l 9≠4:=by
    generalize hd l 9=k
    match k with
    | 1=>exact .inl rfl
    | 2=>exact .inr (.inl rfl)
    | 3=>exact .inr (.inr (.inl rfl))
    | 4=>exact .inr (.inr (.inr (.inl rfl)))
    | 0=>exact .inr (.inr (.inr (.inr (by decide))))
    | n+5=>exact .inr (.inr (.inr (.inr (by simp))))
  simp! [T__law_spoil,List.range_succ]
  refine draw0 (m:=9) (by decide) hl ?_
  simp! [rowC,hs']
  refine draw0 (m:=s.length) hpos hl1 ?_
  rcases hk with h | h | h | h | ⟨e1,e2,e3,e4⟩
  · have hF:spoilF l s=(s.eraseIdx (hd l.tail s.length),l.tail.tail):=if_pos h
    rw [h,hF]
    simp! [hr,hs',hspl']
    exact (map_erase s _).symm
  · have hF:spoilF l s=(s.take (hd l.tail s.length)++insR (hd l.tail.tail 4) :: s.drop (hd l.tail s.length),l.tail.tail.tail):=by unfold spoilF; rw [h]; rfl
    rw [h,hF]
    simp! [hs']
    refine draw0 (m:=4) (by decide) hl2 ?_
    simp! [hs',hspl,hpi,hb4]
  · rw [h]
    simp! [hpk,hb]
    refine Or.elim (edit3_is r (offR (hd l.tail.tail 3))) (fun z1=>?_) (fun z2=>?_)
    · refine kA z1 fun ha hE=>?_
      have hF:spoilF l s=(s,l.tail.tail):=by unfold spoilF; rw [h]; simp only [hr,Option.bind_some,hE]; rfl
      rw [hF,show ("SUBI" == nm r||("LDR" == nm r || "STR" == nm r))=_ from ha]
      trivial
    · refine kAEA z2 fun ha r' hE hR=>?_
      have hF:spoilF l s=(s.set (hd l.tail s.length) r',l.tail.tail.tail):=by unfold spoilF; rw [h]; simp only [hr,Option.bind_some,hE]; rfl
      rw [hF,show ("SUBI" == nm r||("LDR" == nm r || "STR" == nm r))=_ from ha]
      simp! []
      refine draw0 (m:=3) (by decide) hl2 ?_
      simp! [hb3,hp3,hR,hs',hspl']
  · rw [h]
    simp! [hpk,hb]
    refine Or.elim (edit4_is r (regR (hd l.tail.tail 4))) (fun z3=>?_) (fun z4=>?_)
    · refine kA z3 fun ha hE=>?_
      have hF:spoilF l s=(s,l.tail.tail):=by unfold spoilF; rw [h]; simp only [hr,Option.bind_some,hE]; rfl
      rw [hF,show ("LDR" == nm r||("STR" == nm r || "MOV" == nm r))=_ from ha]
      trivial
    · refine kAEA z4 fun ha r' hE hR=>?_
      have hF:spoilF l s=(s.set (hd l.tail s.length) r',l.tail.tail.tail):=by unfold spoilF; rw [h]; simp only [hr,Option.bind_some,hE]; rfl
      simp only [hF,show ("LDR" == nm r||("STR" == nm r || "MOV" == nm r))=_ from ha]
      simp! []
      refine draw0 (m:=4) (by decide) hl2 ?_
      simp! [hb4,hp4,hR,hs',hspl']
  · have hF:spoilF l s=(s,l.tail.tail):=by unfold spoilF; rw [if_neg e1,if_neg e2,if_neg e3,if_neg e4]
    rw [hF]
    have f1:((hd l 9:Nat):Int)≠1:=fun e=>e1 (Int.ofNat.inj e)
    have f2:((hd l 9:Nat):Int)≠2:=fun e=>e2 (Int.ofNat.inj e)
    have f3:((hd l 9:Nat):Int)≠3:=fun e=>e3 (Int.ofNat.inj e)
    have f4:((hd l 9:Nat):Int)≠4:=fun e=>e4 (Int.ofNat.inj e)
    simp! [f1,f2,f3,f4]
noncomputable def proR (room:Int):List Row:=[.str 15 14 (-4),.str 11 14 (-8),.mov 11 14,.subi 14 14 room]
noncomputable def epiR:List Row:=[.mov 14 11,.ldr 15 14 (-4),.ldr 11 14 (-8),.br]
noncomputable def closed (s:List Row):List Row:=if s.getLast?=some .br then s else s++[.br]
noncomputable def endOf (s:List Row):Nat:=if 4<s.length then s.length - 4 else s.length - 1
noncomputable def aimR (s:List Row) (i:Nat) (r:Row):Row:=if r = .b 0 1 then .b ((if i<endOf s then endOf s else s.length - 1) - i - 1) 0 else r
noncomputable def aimed (s:List Row):List Row:=s.mapIdx (aimR s)
noncomputable def roomF (l:List Nat):Int:=8+4 * (3+(hd l 4:Int))
noncomputable def rawF (l:List Nat):List Row:=proR (roomF l)++(bodyF l.tail).1++epiR
noncomputable def procF (l:List Nat):List Row×List Nat:=
  let q:=spoilF (bodyF l.tail).2 (rawF l)
  (aimed (closed q.1),q.2)
noncomputable def R_proc:FnR:=fun qs ds r qs'=>∃ l:List Nat,l.length≤1000∧qs=[cF l]∧ds=[]∧r = .d (rowsD (procF l).1)∧qs'=[cF (procF l).2]
theorem hl_bodyF {l:List Nat} (h:l.length≤1000):(bodyF l).2.length≤1000∧(bodyF l).1.length≤24:=by
  have h1:=bodyIt_len l.tail (hd l 9)
  have h2:=hd_lt l (m:=9) (by omega)
  have h3:=tl_len h
  unfold bodyF
  omega
theorem spoil_len (l:List Nat) (s:List Row):(spoilF l s).1.length≤s.length+1∧s.length≤(spoilF l s).1.length+1∧(spoilF l s).2.length≤l.length:=by
  unfold spoilF
  dsimp only
  have ht:l.tail.tail.length≤l.length:=by simp; omega
  have ht2:l.tail.tail.tail.length≤l.length:=by simp; omega
  split
  · refine ⟨?_,?_,ht⟩<;>simp only [List.length_eraseIdx]<;>split<;>omega
  · split
    · refine ⟨?_,?_,ht2⟩<;>simp only [List.length_append,List.length_cons,List.length_take,List.length_drop]<;>omega
    · split
      · split
        · exact ⟨by simp,by simp,ht2⟩
        · exact ⟨by simp,by simp,ht⟩
      · split
        · split
          · exact ⟨by simp,by simp,ht2⟩
          · exact ⟨by simp,by simp,ht⟩
        · exact ⟨by simp,by simp,ht⟩
theorem body_call {l:List Nat} {room:Int} {Q:V→St→Prop} {ρ:List V} {μ:List Cell} (hl:l.length≤1000) (h:Q (.d (rowsD (bodyF l).1)) ⟨ρ,cF (bodyF l).2 :: μ⟩):callO 1 R_body [.own 0,.d (.int room)] Q ⟨ρ,cF l :: μ⟩:=
  ⟨by simp,fun q hq=>⟨cF l,by simp at hq; subst hq; rfl,rfl⟩,_,_,⟨l,room,hl,rfl,rfl,rfl,rfl⟩,h⟩
theorem spoil_call {l:List Nat} {s:List Row} {xs:List PyData} {Q:V→St→Prop} {ρ:List V} {μ:List Cell} (hl:l.length≤1000) (hs:s.length≤900) (hn:s≠[]) (hx:xs=s.map eRow) (h:Q (.d .none) ⟨ρ,cF (spoilF l s).2 :: rowC (spoilF l s).1 :: μ⟩):callO 2 R_spoil [.own 0,.own 1] Q ⟨ρ,cF l :: .list xs :: μ⟩:=by
  subst hx
  exact ⟨by simp,fun q hq=>by simp at hq; rcases hq with rfl | rfl<;>exact ⟨_,rfl,rfl⟩,_,_,⟨l,s,hl,hs,hn,rfl,rfl,rfl,rfl⟩,h⟩
theorem eqv_row (r:Row):(eRow r).eqv (eRow .br)=decide (r = .br):=by
  cases r<;>kernel_rfl
theorem eqv_row2 (r:Row):(eRow r).eqv (eRow (.b 0 1))=decide (r = .b 0 1):=by
  cases r with
  | b d e=>simp! [eRow,PyData.eqv,PyData.eqvAll]
  | _=>kernel_rfl
theorem row_ok (r:Row):(eRow r).canLay0=true∧(eRow r).depth≤16:=by
  cases r<;>simp! [eRow]
theorem eqv_br (r:Row):(eRow r).eqv (.tuple [.str "BR",.str "AL",.int 15,.int 0])=decide (r = .br):=eqv_row r
theorem eqv_b01 (r:Row):(eRow r).eqv (.tuple [.str "B",.str "EQ",.int 0,.int 1])=decide (r = .b 0 1):=eqv_row2 r
theorem pick_last {s:List Row} {r:Row} (h:s.getLast?=some r):pick (s.map eRow) (-1)=some (eRow r):=by
  have hne:s≠[]:=by intro e; subst e; cases h
  have hpos:0<s.length:=List.length_pos_iff.mpr hne
  unfold pick
  rw [if_neg (by omega),if_pos (by simp; omega)]
  rw [List.getLast?_eq_getElem?] at h
  have e:((-1:Int)+(s.map eRow).length).toNat=s.length - 1:=by simp; omega
  rw [e,List.getElem?_map,h]; rfl
noncomputable def part (c:List Row) (i:Nat):List Row:=c.mapIdx fun j r=>if j<i then aimR c j r else r
theorem part_zero (c:List Row):part c 0=c:=by
  apply List.ext_getElem?
  intro i
  simp [part]
theorem part_all (c:List Row):part c c.length=aimed c:=by
  apply List.ext_getElem?
  intro i
  unfold part aimed
  rw [List.getElem?_mapIdx,List.getElem?_mapIdx]
  by_cases h:i<c.length
  · simp [h]
  · simp [h]
theorem part_len (c:List Row) (i:Nat):(part c i).length=c.length:=by simp [part]
theorem part_at {c:List Row} {i:Nat} {r:Row} (h:c[i]?=some r):(part c i)[i]?=some r:=by
  unfold part
  rw [List.getElem?_mapIdx,h]
  simp
theorem part_next {c:List Row} {i:Nat} {r:Row} (h:c[i]?=some r):(part c i).set i (aimR c i r)=part c (i+1):=by
  have hlt:=(List.getElem?_eq_some_iff.mp h).1
  apply List.ext_getElem?
  intro j
  rw [List.getElem?_set]
  by_cases q:i=j
  · subst q
    unfold part
    simp [hlt,List.getElem?_mapIdx]
    have:=(List.getElem?_eq_some_iff.mp h).2
    rw [this]
  · rw [if_neg q]
    unfold part
    rw [List.getElem?_mapIdx,List.getElem?_mapIdx]
    cases hj:c[j]? with
    | none=>rfl
    | some x=>
      simp only [Option.map_some]
      by_cases q2:j<i
      · rw [if_pos q2,if_pos (by omega)]
      · rw [if_neg q2,if_neg (by omega)]
theorem part_same {c:List Row} {i:Nat} {r:Row} (h:c[i]?=some r) (e:aimR c i r=r):part c (i+1)=part c i:=by
  rw [← part_next h,e]
  have hp:=part_at h
  have hlt:=(List.getElem?_eq_some_iff.mp hp).1
  apply List.ext_getElem?
  intro j
  rw [List.getElem?_set]
  by_cases q:i=j
  · subst q; rw [if_pos rfl,if_pos hlt,hp]
  · rw [if_neg q]
theorem pick_part {c:List Row} {i:Nat} (h:i<c.length):pick ((part c i).map eRow) (i:Int)=some (eRow c[i]):=row_pick (part_at (List.getElem?_eq_getElem h))
theorem part_aim {c:List Row} {i:Nat} (h:i<c.length) (q:c[i] = .b 0 1):(part c (i+1)).map eRow=((part c i).map eRow).set i (.tuple [.str "B",.str "EQ",.int (((if i<endOf c then endOf c else c.length - 1) - i - 1:Nat):Int),.int 0]):=by
  have:=part_next (List.getElem?_eq_getElem h)
  rw [← this,map_set]
  unfold aimR
  rw [if_pos q]
  rfl
theorem proc_rest {l3:List Nat} {room:Int} {c:List Row} (c1:7≤c.length) (c2:c.length≤34) (c3:c.getLast?=some .br) :
    seqT (asgT 3 (ifT (tstT (op2T (fnT [nameT 2] lenO) (litT (PyData.int 4)) (icO fun a b=>decide (b<a)))) (op2T (fnT [nameT 2] lenO) (litT (PyData.int 4)) subI) (op2T (fnT [nameT 2] lenO) (litT (PyData.int 1)) subI)))
      (seqT (forT (fnT [fnT [nameT 2] lenO] rngO) (Tg.one 4) (ifT (tstT (op2T (op2T (nameT 2) (nameT 4) subO) (tupT [litT (PyData.str (Str.ofString "B")),litT (PyData.str (Str.ofString "EQ")),litT (PyData.int 0),litT (PyData.int 1)]) eqO))
        (seqT (asgT 5 (ifT (tstT (op2T (nameT 3) (nameT 4) (icO fun a b=>decide (b<a)))) (nameT 3) (op2T (fnT [nameT 2] lenO) (litT (PyData.int 1)) subI)))
          (setT (tupT [litT (PyData.str (Str.ofString "B")),litT (PyData.str (Str.ofString "EQ")),op2T (op2T (nameT 5) (nameT 4) subI) (litT (PyData.int 1)) subI,litT (PyData.int 0)]) (nameT 2) (nameT 4))) skipT)) (retT (nameT 2)))
      (finP 1 (RV.d (rowsD (aimed c))) [cF l3]) ⟨[.own 0,.d (.int room),.own 1,.u,.u,.u],[cF l3,.list (c.map eRow)]⟩:=by
  have c4:c.length≤1048576:=Nat.le_trans c2 (by decide)
  have c6:(4:Int)<c.length:=by omega
  have hend:endOf c=c.length - 4:=if_pos (by omega)
  have q4:∀ i,i<endOf c→(c.length:Int) - 4 - i - 1=((endOf c - i - 1:Nat):Int):=fun i h=>by omega
  have q5:∀ i,i<c.length - 1→(c.length:Int) - 1 - i - 1=((c.length - 1 - i - 1:Nat):Int):=fun i h=>by omega
  have q3:∀ i,i<endOf c↔(i:Int)<(c.length:Int) - 4:=fun i=>by omega
  simp! [c4,c6]
  refine forK_rng1 (fun i=>⟨[.own 0,.d (.int room),.own 1,.d (.int ((c.length:Int) - 4)),.u,.u],[cF l3,.list ((part c i).map eRow)]⟩) (by rw [part_zero]) (fun i hi=>?_) ?_
  · have hpk:=pick_part hi
    have hb:=lit4 hi (Nat.le_trans c2 (by decide))
    have hpl:=part_len c i
    have hi':(i:Int)<c.length:=Int.ofNat_lt.mpr hi
    simp! [hpk,hb,eqv_b01]
    refine ifK_of (fun h=>?_) fun h=>?_
    · have q:=of_decide_eq_true h
      have hne:i<c.length - 1:=Nat.lt_of_le_of_ne (Nat.le_sub_one_of_lt hi) fun e=>by
        rw [List.getLast?_eq_getElem?,← e,List.getElem?_eq_getElem hi,q] at c3; cases c3
      have hst:=part_aim hi q
      by_cases q2:i<endOf c
      · rw [if_pos q2] at hst
        simp! [(q3 i).mp q2,q4 i q2,hpl,hi',c4]
        exact Sh.kp 4 2 (by rw [hst]; rfl) rfl rfl rfl
      · rw [if_neg q2] at hst
        simp! [mt (q3 i).mpr q2,q5 i hne,hpl,hi',c4]
        exact Sh.kp 4 2 (by rw [hst]; rfl) rfl rfl rfl
    · simp! []
      exact Sh.kp 4 2 (by rw [part_same (List.getElem?_eq_getElem hi) (if_neg (of_decide_eq_false h))]; rfl) rfl rfl rfl
  · rw [part_all]
    simp! [fz_cF]
theorem t_proc:HT 1 1 0 5 (T__law_procedure R_draw R_body R_spoil) R_proc:=by
  rintro qs ds r qs' ⟨l,hl,rfl,rfl,rfl,rfl⟩ _ _ _
  refine ⟨by simp [Cell.flat,cF],rfl,?_⟩
  have h4:=hd_lt l (m:=4) (by decide)
  have hl1:=tl_len hl
  have hroom:(3+(hd l 4:Int)).natAbs<2^60:=by omega
  have hb:=hl_bodyF hl1
  have hraw:rawF l=proR (roomF l)++(bodyF l.tail).1++epiR:=rfl
  have hrlen:(rawF l).length=(bodyF l.tail).1.length+8:=by rw [hraw,List.length_append,List.length_append]; show 4+_+4=_; omega
  have hrn':rawF l≠[]:=fun e=>by rw [e] at hrlen; cases hrlen
  have g:=spoil_len (bodyF l.tail).2 (rawF l)
  have hproc:procF l=(aimed (closed (spoilF (bodyF l.tail).2 (rawF l)).1),(spoilF (bodyF l.tail).2 (rawF l)).2):=rfl
  simp! [T__law_procedure,List.range_succ]
  refine draw0 (m:=4) (by decide) hl ?_
  simp! []
  refine body_call hl1 ?_
  simp! []
  refine ⟨by omega,by omega,spoil_call hb.1 (by omega) hrn' (by simp [hraw,proR,epiR,eRow,roomF]) ?_⟩
  rw [hproc]
  revert g
  generalize (spoilF (bodyF l.tail).2 (rawF l)).1=s
  generalize (spoilF (bodyF l.tail).2 (rawF l)).2=l3
  intro g
  have g5:7≤s.length:=by omega
  have g6:s.length≤33:=by omega
  obtain ⟨r,hr⟩:∃ r,s.getLast?=some r:=⟨_,List.getLast?_eq_some_getLast (by intro e; rw [e] at g5; simp at g5)⟩
  simp! [rowC,pick_last hr,eqv_br]
  refine ifK_of (fun h=>?_) fun h=>?_
  · have q:r≠.br:=fun e=>by rw [e] at h; cases h
    rw [show closed s=s++[.br] from if_neg fun e=>q (Option.some.inj (hr.symm.trans e))]
    simp! [-e_seqK1,Nat.le_trans g6 (by decide:_≤1048576)]
    have:=proc_rest (l3:=l3) (room:=8+4 * (3+(hd l 4:Int))) (c:=s++[.br]) (by rw [List.length_append]; exact Nat.le_succ_of_le g5) (by rw [List.length_append]; exact Nat.succ_le_succ g6) List.getLast?_concat
    rw [List.map_append] at this
    exact Stop.mk this
  · have q:r = .br:=by simp at h; exact h
    rw [show closed s=s from if_pos (by rw [hr,q])]
    exact Stop.mk (proc_rest g5 (Nat.le_succ_of_le g6) (by rw [hr,q]))
noncomputable def slC (q:Option Cell) (n:Int) (v:Bool) (R:V→St→Prop) (st:St):Prop:=match q with
  | some (.list xs)=>0≤n∧xs.length≤2^20∧newlT v (xs.take n.toNat) R st
  | _=>False
theorem sl_own {v:Bool} {k:Nat} {n:Int} {R:V→St→Prop} {ρ:List V} {μ:List Cell}:slTo v (.own k) (.d (.int n)) R ⟨ρ,μ⟩=slC μ[k]? n v R ⟨ρ,μ⟩:=by
  delta slTo slC pk
  dsimp only
  cases μ[k]? with
  | none=>rfl
  | some q=>cases q<;>rfl
theorem sl_C {v:Bool} {n:Int} {xs:List PyData} {R:V→St→Prop} {st:St}:slC (some (.list xs)) n v R st=(0≤n∧xs.length≤2^20∧newlT v (xs.take n.toNat) R st):=(rfl)
noncomputable def cellR (c:Int):Nat:=c.natAbs * 2+(if c<0 then 1 else 0)
noncomputable def dIt (r:Nat):Nat→List Nat×Nat
  | 0=>([],r)
  | i+1=>if i=0∨0<(dIt r i).2 then ((dIt r i).1++[(dIt r i).2 % 120],(dIt r i).2 / 120) else dIt r i
noncomputable def digF (r:Nat):List Nat:=(dIt r 40).1
noncomputable def figF (ns:List Int):List Nat:=((ns.take 40).flatMap fun c=>digF (cellR c)).take 90
theorem dIt_len (r i:Nat):(dIt r i).1.length≤i:=by
  induction i with
  | zero=>simp [dIt]
  | succ i ih=>
    simp only [dIt]
    split
    · simp; omega
    · exact Nat.le_succ_of_le (by assumption)
noncomputable def R_figures:FnR:=fun qs ds r qs'=>∃ ns:List Int,ns.length≤1000∧qs=[]∧ds=[.d (.list (ns.map .int))]∧r = .new (nats (figF ns).reverse)∧qs'=[]
theorem figF_len (ns:List Int):(figF ns).length≤90:=by unfold figF; rw [List.length_take]; lia
theorem gath {α β:Type} (l:List α) (f:α→List β) (c:Nat) (hf:∀ x,(f x).length≤c):∃ D:Nat→List β,D 0=[]∧(∀ i x,l[i]?=some x→D (i+1)=D i++f x)∧D l.length=l.flatMap f∧∀ i,(D i).length≤c * i:=by
  refine ⟨fun i=>(l.take i).flatMap f,rfl,fun i x h=>flatMap_next h,by simp,fun i=>?_⟩
  have:∀ l:List α,(l.flatMap f).length≤c * l.length:=by
    intro l
    induction l with
    | nil=>simp
    | cons a l ih=>
      have:=hf a
      simp only [List.flatMap_cons,List.length_append,List.length_cons,Nat.mul_add]
      lia
  refine Nat.le_trans (this (l.take i)) (Nat.mul_le_mul_left c ?_)
  rw [List.length_take]; lia
theorem lap_b (k p2:Nat):(decide (k=0)||decide ((0:Int)<p2))=decide (k=0∨0<p2):=by
  simp only [Bool.decide_or]
  congr 1<;>exact decide_eq_decide.mpr (by simp)
noncomputable def pkB (x:Bool) (a b:Int):Int:=match x with | true=>a | false=>b
theorem ifLitI {a b:Int} {R:QV} {x:Bool} {st:St}:ifK (litT (.int a)) (litT (.int b)) R x st=R (.d (.int (pkB x a b))) st:=by cases x<;>rfl
theorem abs_b (c:Int):∃ x:Bool,decide (c<0)=x∧(if c<0 then -c else c) * 2+pkB x 1 0=((cellR c:Nat):Int):=by
  unfold cellR
  by_cases q:c<0
  · exact ⟨true,decide_eq_true q,by rw [if_pos q,if_pos q]; show _ * 2+1=_; lia⟩
  · exact ⟨false,decide_eq_false q,by rw [if_neg q,if_neg q]; show _ * 2+0=_; lia⟩
theorem t_figures:HT 0 1 0 4 T__law_figures R_figures:=by
  rintro qs ds r qs' ⟨ns,hl,rfl,rfl,rfl,rfl⟩ _ _ _
  refine ⟨by simp,rfl,?_⟩
  have hl':ns.length≤1048576:=by exact Nat.le_trans (by assumption) (by decide)
  refine kEAAA (gath (ns.take 40) (fun c=>digF (cellR c)) 40 (fun c=>dIt_len _ _)) fun D hD0 hDs hDe hDl=>?_
  have h40:(ns.take 40).length≤40:=List.length_take_le _ _
  let S:Nat→St:=fun i=>⟨[.d (.list (ns.map .int)),.own 0,.u,.u,.u],[.list (nats (D i))]⟩
  simp! [T__law_figures,hl']
  refine ⟨by lia,forK_is S (by show (⟨_,[.list (nats (D 0))]⟩:St)=_; rw [hD0]; rfl) (fun i z hz=>?_) ?_⟩
  · obtain ⟨c,hc,rfl⟩:∃ c,(ns.take 40)[i]?=some c∧z = .int c:=listE_at (by rw [List.map_take]; exact hz)
    have hi40:i<40:=Nat.lt_of_lt_of_le (List.getElem?_eq_some_iff.mp hc).1 h40
    have hd1:=hDl i
    have hS:S (i+1)=⟨[.d (.list (ns.map .int)),.own 0,.u,.u,.u],[.list (nats (D i++digF (cellR c)))]⟩:=by show (⟨_,_⟩:St)=_; rw [hDs i c hc]
    refine kEA (abs_b c) fun x hx habs=>?_
    let U:Nat→St:=fun k=>⟨[.d (.list (ns.map .int)),.own 0,.d (.int c),.d (.int ((dIt (cellR c) k).2:Int)),.u],[.list (nats (D i++(dIt (cellR c) k).1))]⟩
    have inner:∀ {Q:Fl→St→Prop},Q .next (U 40)→forK (.one 4) (ifT (orT [tstT (op2T (nameT 4) (litT (PyData.int 0)) eqO),tstT (op2T (nameT 3) (litT (PyData.int 0)) (icO fun a b=>decide (b<a)))])
        (seqT (exprT (lmT (nameT 1) [op2T (nameT 3) (litT (PyData.int 120)) modI] appS)) (asgT 3 (op2T (nameT 3) (litT (PyData.int 120)) divI))) skipT)
        Q (rngL 40) ⟨[.d (.list (ns.map .int)),.own 0,.d (.int c),.d (.int (cellR c)),.u],[.list (nats (D i))]⟩:=fun {Q} hQ=>by
      refine forK_is U (by show (⟨_,[.list (nats (D i++[]))]⟩:St)=_; simp only [List.append_nil]; rfl) (fun k z hz=>?_) (by rw [rng_len]; exact hQ)
      refine kA (rng_at hz) fun hk z2=>?_
      subst z2
      have hkl:=dIt_len (cellR c) k
      have hl2:(D i).length+(dIt (cellR c) k).1.length≤1048576:=by lia
      have e:dIt (cellR c) (k+1)=if k=0∨0<(dIt (cellR c) k).2 then ((dIt (cellR c) k).1++[(dIt (cellR c) k).2 % 120],(dIt (cellR c) k).2 / 120) else dIt (cellR c) k:=rfl
      refine ⟨_,rfl,?_⟩
      show ifT _ _ _ _ ⟨[.d (.list (ns.map .int)),.own 0,.d (.int c),.d (.int ((dIt (cellR c) k).2:Int)),.d (.int k)],[.list (nats (D i++(dIt (cellR c) k).1))]⟩
      simp! []
      refine orB (c:=decide ((0:Int)<(dIt (cellR c) k).2)) (fun R=>by rfl) ?_
      rw [show (decide (k=0)||_)=_ from lap_b k _]
      by_cases hc:k=0∨0<(dIt (cellR c) k).2
      · have hU:U (k+1)=⟨[.d (.list (ns.map .int)),.own 0,.d (.int c),.d (.int ((((dIt (cellR c) k).2 / 120:Nat)):Int)),.u],[.list (nats (D i++((dIt (cellR c) k).1++[(dIt (cellR c) k).2 % 120])))]⟩:=by show (⟨_,_⟩:St)=_; rw [e,if_pos hc]
        rw [decide_eq_true hc]
        simp! [hl2]
        refine Sh.kp 4 1 ?_ rfl rfl rfl
        refine Eq.trans ?_ hU.symm
        simp only [nats,List.map_append,List.map_append]
        show (⟨[_,_,_,.d (.int ((((dIt (cellR c) k).2:Nat):Int).fdiv ((120:Nat):Int))),_],[.list (_++(_++[.int ((((dIt (cellR c) k).2:Nat):Int).fmod ((120:Nat):Int))]))]⟩:St)=_
        simp only [nat_fdiv,nat_fmod]
        rfl
      · have hU:U (k+1)=U k:=by show (⟨_,_⟩:St)=⟨_,_⟩; rw [e,if_neg hc]
        rw [decide_eq_false hc,hU]
        refine Sh.kp 4 1 ?_ rfl rfl rfl
        show _=(⟨_,[.list (nats (_++_))]⟩:St)
        simp only [nats,List.map_append]
        rfl
    refine ⟨_,rfl,?_⟩
    show seqT _ _ _ ⟨[.d (.list (ns.map .int)),.own 0,.d (.int c),.u,.u],[.list (nats (D i))]⟩
    rw [hS]
    simp! [hx,ifLitI]
    rw [habs]
    refine inner ?_
    refine Sh.kp 2 1 ?_ rfl rfl rfl
    rw [← List.map_append]
    rfl
  · have hDl2:=hDl (ns.take 40).length
    have hlen:(D (ns.take 40).length).length≤1048576:=by lia
    have e:(List.take 40 (List.map PyData.int ns)).length=(ns.take 40).length:=by rw [← List.map_take,List.length_map]
    simp only [e]
    unfold figF
    rw [← hDe]
    show seqK _ _ _ ⟨[.d (.list (ns.map .int)),.own 0,.u,.u,.u],[.list (nats (D (ns.take 40).length))]⟩
    generalize D (ns.take 40).length=L at *
    simp! [sl_own,sl_C,hlen]
    lia
theorem qStr:Str.ofString "?" = ⟨#[63]⟩:=by decide +kernel
noncomputable def kindL:AV→String
  | .any => "?"
  | .ent _ => "own"
  | .frm _ => "top"
  | .num _ => "plain"
theorem subL0 {x:AV} {R:V→St→Prop} {st:St}:subO (.d (eL x)) (.d (.int 0)) R st=R (.d (.str (Str.ofString (kindL x)))) st:=by
  cases x with
  | any=>
    simp only [eL,e_sub4,kindL,qStr]
    simp
  | _=>simp! [eL,kindL]
theorem eLf {k:Int}:eL (.frm k) = .tuple [.str "top",.int k]:=rfl
theorem eLn {k:Int}:eL (.num k) = .tuple [.str "plain",.int k]:=rfl
theorem eLe {k:Nat}:eL (.ent k) = .tuple [.str "own",.int k]:=rfl
theorem eLa:eL .any = .str "?" := rfl
noncomputable def isTop:AV→Bool
  | .frm _=>true
  | _=>false
theorem kindTop (x:AV):(kindL x == "top")=isTop x:=by cases x<;>kernel_rfl
theorem dacc_go (f:Int→Bool) (e:Int→PyData):∀ (l l0:List Int),(l0++l).Nodup→(l.filterMap fun i=>if f i=true then some (Ky.int i,e i) else none).foldl (fun a p=>dput a p.1 p.2) (kv id e l0)=kv id e (l0++l.filter f)
  | [],l0,_=>by simp
  | a :: l,l0,h=>by
    have ha:a∉l0:=fun q=>by
      rw [List.nodup_append] at h
      exact h.2.2 a q a List.mem_cons_self rfl
    by_cases q:f a=true
    · have e1:dput (kv id e l0) (.int a) (e a)=kv id e (l0++[a]):=by
        rw [show (Ky.int a)=Ky.int (id a) from rfl,ke_put idI,if_neg ha]
        exact ke_congr fun b _=>by unfold upd; split<;>simp_all
      have:=dacc_go f e l (l0++[a]) (by simpa using h)
      simp only [List.filterMap_cons,q,if_true,List.foldl_cons,e1,List.filter_cons]
      simp only [this]; simp
    · have:=dacc_go f e l l0 (by
        rw [List.nodup_append] at h ⊢
        exact ⟨h.1,(List.nodup_cons.mp h.2.1).2,fun x hx y hy=>h.2.2 x hx y (List.mem_cons_of_mem _ hy)⟩)
      simp only [List.filterMap_cons,q,List.filter_cons]
      exact this
noncomputable def outW (f:Int→Bool) (e:Int→PyData):PyData→Option (Ky×PyData)
  | .int i=>if f i=true then some (.int i,e i) else none
  | _=>none
theorem outW_turn {f:Int→Bool} {e:Int→PyData} {k:Int} {o:Option PyData} (h:o=some (e k)):br (f k) (∃ x,o=some x∧∃ q,PyData.int k=kD q∧outW f e (.int k)=some (q,x)) (outW f e (.int k)=none):=by
  cases hf:f k with
  | true=>exact ⟨_,h,.int k,rfl,if_pos hf⟩
  | false=>exact if_neg (by rw [hf]; decide)
theorem dacc_filter (f:Int→Bool) (e:Int→PyData) {l:List Int} (h:l.Nodup):dacc ((l.map fun k=>PyData.int k).filterMap (outW f e))=kv id e (l.filter f):=by
  rw [List.filterMap_map,show (outW f e ∘ fun k=>PyData.int k)=fun i=>if f i=true then some (Ky.int i,e i) else none from rfl]
  have:=dacc_go f e l [] (by exact h)
  exact this
noncomputable def joinL (s t:AS):AS:=⟨fun j=>if s.r j=t.r j then s.r j else .any,s.ks.filter fun k=>decide (k∈t.ks∧t.v k=s.v k),s.v⟩
noncomputable def R_law_joined:FnR:=FnOf (fun (x:AS×AS)=>x.1.ok∧x.2.ok) (fun x=>[.d (sL x.1),.d (sL x.2)]) (fun x=>sL (joinL x.1 x.2))
theorem fromI_at (e:Nat→PyData) (i:Nat):fromI e (.int (i:Int))=some (e i):=by simp [fromI]
theorem ok_none:okd .none=true:=by unfold okd; rw [PyData.canLay0]; rfl
theorem none_eqv (x:AV):PyData.none.eqv (eL x)=false:=by cases x<;>rfl
theorem t_law_joined:HT 0 2 0 1 T__law_joined R_law_joined:=FnOf.ht fun ⟨s,t⟩ ⟨⟨hn,hl⟩,ht⟩=>by
  simp! [T__law_joined]
  refine lcK_mk (fromI fun i=>eL ((joinL s t).r i)) rfl rfl (fun i z hz=>?_) ?_
  · obtain ⟨hi,rfl⟩:=rng_at hz
    have hi':=lt16 hi
    simp only [turnL]
    simp! [cs0,capsOf,sL,hi',eL_eqv,fromI_at,joinL]
    by_cases q:s.r i=t.r i
    · simp! [q,hi']
    · simp! [q,eLa]
  · rw [filterMap_rng]
    simp! [sL,ke_keys]
    refine ⟨le20 hl,dcK_mk (outW (fun k=>decide (k∈t.ks∧t.v k=s.v k)) fun k=>eL (s.v k)) rfl rfl (fun i z hz=>?_) ?_⟩
    · refine kEA (key_at (s:=s.ks) (by exact hz)) fun k hk z3=>?_
      subst z3
      have hm:=mem_at hk
      dsimp only [turnD]
      simp! [cs0,capsOf,sL,dE_look,hm,orV]
      by_cases q:k∈t.ks
      · simp! [q,eL_eqv]
        by_cases q2:t.v k=s.v k
        · simp! [q,q2,dE_look,hm,outW]
          rfl
        · simp! [q,q2,outW]
      · simp! [q,ok_none,none_eqv,outW]
    · rw [dacc_filter _ _ hn]
      simp! []
      exact ⟨rfl,by simp [joinL]⟩
noncomputable def fL (s:AS):Row→AS
  | .bl=>fCall s
  | .br=>s
  | .b _ _=>s
  | .str a c k=>fStr s a c k
  | .ldr a c k=>{ s with r:=upd s.r a (match s.r c with | .frm f=>look s (f+k) | _=>.any) }
  | .mov a c=>{ s with r:=upd s.r a (s.r c) }
  | .movi a k=>{ s with r:=upd s.r a (.num k) }
  | .addi a c k=>{ s with r:=upd s.r a (movP (s.r c) k) }
  | .subi a c k=>{ s with r:=upd s.r a (movP (s.r c) (-k)) }
theorem e_getN {kvs:List (PyData×PyData)} {y:V} {R:V→St→Prop} {st:St}:(∃ q,kyOf PyData.none=some q∧R (orV (dlook kvs q) y) st)=R (orV (dlook kvs .none) y) st:=by
  simp [kyOf]
theorem dE_none (e:AV→PyData) (s:AS):dlook (dE e s) .none=none:=by
  show ((kv id (fun k=>e (s.v k)) s.ks).find? fun p=>kyOf p.1==some Ky.none).map (·.2)=none
  rw [Option.map_eq_none_iff,List.find?_eq_none]
  intro p hp
  refine kEA (List.mem_map.mp hp) fun k _ z2=>?_
  subst z2
  simp [kyOf]
theorem fCall_ks (s:AS):(fCall s).ks=s.ks.filter fun k=>decide (-8≤k)&&isTop (s.r 14):=by
  cases h:s.r 14<;>simp [fCall,isTop,h]
theorem orQ (s:AS) (p:Int):orV (dlook (dE eL s) (.int p)) (.d (.str "?")) = .d (eL (look s p)):=orLook eL s p
theorem abs4 (o p:Int):decide (4≤if o - p<0 then -(o - p) else o - p)=(decide (o+4≤p)||decide (p+4≤o)):=by
  by_cases h1:o+4≤p<;>by_cases h2:p+4≤o<;>by_cases h3:o - p<0<;>simp [h1,h2,h3]<;>lia
noncomputable def R_law_after:FnR:=FnOf (fun (x:Row×AS)=>x.1.ok∧x.2.ok) (fun x=>[.d (eRow x.1),.d (sL x.2)]) (fun x=>sL (fL x.2 x.1))
@[simp 20000] theorem law_ret {y0 y1:V} {ρ:List V} {xs:List PyData} {kv:List (PyData×PyData)} {x:PyData}:seqK (retT (tupT [nameT 2,nameT 3])) (fin0 x) .next ⟨y0 :: y1 :: .own 0 :: .d (.dict kv) :: ρ,[.list xs]⟩=(PyData.tuple [.list xs,.dict kv]=x):=by simp! []
@[simp 20000] theorem law_add {y0 y1 y3 y4 y7 y8:V} {ρ:List V} {a c:Nat} {m:Int} {r:Nat→AV} {Q:QF} (ha:a<16) (hc:c<16) :
    setT (ifT (tstT (op2T (op2T (op2T (nameT 2) (nameT 6) subO) (litT (.int 0)) subO) (litT (.str "top")) eqO)) (tupT [(litT (.str "top")),(op2T (op2T (op2T (nameT 2) (nameT 6) subO) (litT (.int 1)) subO) (nameT 9) addI)]) (litT (.str "?"))) (nameT 2) (nameT 5) Q
      ⟨y0 :: y1 :: .own 0 :: y3 :: y4 :: .d (.int a) :: .d (.int c) :: y7 :: y8 :: .d (.int m) :: ρ,[.list (rE eL r)]⟩ =
    Q .next ⟨y0 :: y1 :: .own 0 :: y3 :: y4 :: .d (.int a) :: .d (.int c) :: y7 :: y8 :: .d (.int m) :: ρ,[.list (rE eL (upd r a (movP (r c) m)))]⟩:=by
  simp! [lt16 hc,subL0,kindTop]
  cases hq:r c with
  | frm f=>
    have h:=@c_regS eL r a (.frm (f+m)) 0
    simp only [eLf] at h
    simp! [isTop,lt16 hc,hq,eLf,h,lt16 ha,movP]
  | _=>
    have h:=@c_regS eL r a .any 0
    simp only [eLa] at h
    simp! [isTop,h,lt16 ha,movP]
@[simp 20000] theorem law_spot {y0 y1 y3 y4 y5 y8:V} {ρ:List V} {c:Nat} {k:Int} {s:AS} {Q:QF} (hc:c<16) :
    asgT 8 (ifT (tstT (op2T (op2T (op2T (nameT 2) (nameT 6) subO) (litT (.int 0)) subO) (litT (.str "top")) eqO)) (op2T (op2T (op2T (nameT 2) (nameT 6) subO) (litT (.int 1)) subO) (nameT 7) addI) (litT .none)) Q
      ⟨y0 :: y1 :: .own 0 :: y3 :: y4 :: y5 :: .d (.int c) :: .d (.int k) :: y8 :: ρ,[.list (rE eL s.r)]⟩ =
    Q .next ⟨y0 :: y1 :: .own 0 :: y3 :: y4 :: y5 :: .d (.int c) :: .d (.int k) :: .d (eO (fplace s c k)) :: ρ,[.list (rE eL s.r)]⟩:=by
  simp! [lt16 hc,subL0,kindTop]
  cases hq:s.r c with
  | frm f=>simp! [isTop,lt16 hc,hq,eLf,fplace,eO]
  | _=>simp! [isTop,hq,fplace,eO]
noncomputable def kyO:Option Int→Ky
  | some p=>.int p
  | none=>.none
@[simp 20000] theorem c_getO {o:Option Int} {kvs:List (PyData×PyData)} {y:V} {R:QV} {st:St}:get2 (.d (.dict kvs)) [.d (eO o),y] R st=R (orV (dlook kvs (kyO o)) y) st:=by
  cases o with
  | none=>exact cndQ (q0:=.none) (P:=fun q=>R (orV (dlook kvs q) y) st) e_get2
  | some p=>exact c_get2
theorem law_ld {s:AS} {c:Nat} {k:Int}:orV (dlook (dE eL s) (kyO (fplace s c k))) (.d (.str "?")) = .d (eL (match s.r c with | .frm f=>look s (f+k) | _=>.any)):=by
  unfold fplace
  cases s.r c with
  | frm f=>exact orQ s (f+k)
  | _=>show orV (dlook (dE eL s) .none) _=_; simp only [dE_none]; rfl
theorem eO_no {o:Option Int}:isNo (eO o)=o.isNone:=by cases o<;>rfl
theorem in_call (i:Nat):(decide ((11:Int)=i)||(decide ((13:Int)=i)||decide ((14:Int)=i)))=decide (i=11∨i=13∨i=14):=by
  have e:∀ n:Nat,decide ((n:Int)=i)=decide (i=n):=fun n=>decide_eq_decide.mpr ⟨fun h=>(Int.ofNat.inj h).symm,fun h=>congrArg Int.ofNat h.symm⟩
  simp only [Bool.decide_or,Bool.decide_or,← e,← e,← e]
  rfl
theorem t_law_after:HT 0 2 0 8 T__law_after R_law_after:=FnOf.ht fun ⟨r,s⟩ ⟨ho,hs⟩=>by
  have hl':=le20 hs.2
  simp! [T__law_after,eRow_parts,rE_len,ke_len,hl']
  cases r with
  | bl=>
    simp! [nm,rE_len,ke_len,hl',ke_keys]
    refine dcK_mk (outW (fun k=>decide (-8≤k)&&isTop (s.r 14)) fun k=>eL (s.v k)) rfl rfl (fun i z hz=>?_) ?_
    · refine kEA (key_at (s:=s.ks) (by exact hz)) fun k hk z4=>?_
      subst z4
      simp only [turnD]
      simp! [cs0,capsOf]
      refine andB (c:=isTop (s.r 14)) (fun R=>by simp! [subL0,kindTop]) ⟨rfl,?_⟩
      exact outW_turn (f:=fun k=>decide (-8≤k)&&isTop (s.r 14)) (by rw [dE_look,if_pos (mem_at hk)])
    · rw [dacc_filter _ _ hs.1]
      simp! []
      refine lcK_mk (fromI fun i=>eL ((fCall s).r i)) rfl rfl (fun i z hz=>?_) ?_
      · obtain ⟨hi,rfl⟩:=rng_at hz
        simp only [turnL]
        simp! [cs0,capsOf,fromI_at]
        rw [in_call]
        refine ifK_of (fun h=>?_) fun h=>?_
        · simp! [lt16 hi]
          exact congrArg eL (if_pos (of_decide_eq_true h))
        · simp! []
          exact (congrArg eL (if_neg (of_decide_eq_false h))).trans eLa
      · simp only [filterMap_rng]
        simp! []
        show _=PyData.tuple [.list (rE eL (fCall s).r),.dict (kv id (fun k=>eL (s.v k)) (fCall s).ks)]
        simp only [fCall_ks]
        rfl
  | br=>simp! [nm]; rfl
  | b d e=>simp! [nm]; rfl
  | mov a c=>simp! [nm,x1,x3,lt16 ho.1,lt16 ho.2]; rfl
  | movi a k=>
    have h:=@c_regS eL s.r a (.num k) 0
    simp only [eLn] at h
    simp! [nm,x1,x3,h,lt16 (show a<16 from ho)]; rfl
  | addi a c k=>simp! [nm,x1,x2,x3,ho.1,ho.2.1]; rfl
  | subi a c k=>simp! [nm,x1,x2,x3,ho.1,ho.2.1]; rfl
  | ldr a c k=>simp! [nm,x1,x2,x3,ho.2,law_ld,lt16 ho.1]; rfl
  | str a c k=>
    simp! [nm,x1,x2,x3,ho.2]
    cases hq:s.r c with
    | frm f=>
      have e:fplace s c k=some (f+k):=by unfold fplace; simp only [hq]
      have hl2:(s.ks.filter fun o=>decide (o+4≤f+k)||decide (f+k+4≤o)).length≤1048576:=Nat.le_trans (List.length_filter_le _ _) hl'
      have hnew:f+k∉s.ks.filter fun o=>decide (o+4≤f+k)||decide (f+k+4≤o):=fun hm=>by
        have:=(List.mem_filter.mp hm).2
        simp only [Bool.or_eq_true,decide_eq_true_eq] at this
        lia
      rw [e]
      simp! [eO,ke_keys,ke_len,hl']
      refine dcK_mk (outW (fun o=>decide (o+4≤f+k)||decide (f+k+4≤o)) fun k=>eL (s.v k)) rfl rfl (fun i z hz=>?_) ?_
      · refine kEA (key_at (s:=s.ks) (by exact hz)) fun o hk z7=>?_
        subst z7
        simp only [turnD]
        simp! [cs0,capsOf,abs4]
        exact outW_turn (f:=fun o=>decide (o+4≤f+k)||decide (f+k+4≤o)) (by rw [dE_look,if_pos (mem_at hk)])
      · rw [dacc_filter _ _ hs.1]
        simp! [lt16 ho.1,ke_len,hl2,put_new hnew]
        show _=sL (fStr s a c k)
        unfold fStr
        simp only [hq]
        rfl
    | _=>
      have e:fplace s c k=none:=by unfold fplace; simp only [hq]
      rw [e]
      simp! [eO]
      show _=sL (fStr s a c k)
      unfold fStr
      simp only [hq]
      rfl
noncomputable def R_law_told:FnR:=FnOf (fun (x:Row×AS×Nat)=>True) (fun x=>[.d (eRow x.1),.d (sL x.2.1),.d (.int x.2.2)]) (fun x=>.list ((rowTags x.1 x.2.1.r).map (flt x.2.2)))
theorem eqvT (x:AV) (k:Int):(eL x).eqv (.tuple [.str "top",.int k])=decide (x = .frm k):=eL_eqv x (.frm k)
theorem eqvO11 (x:AV):(eL x).eqv (.tuple [.str "own",.int 11])=decide (x = .ent 11):=eL_eqv x (.ent 11)
theorem eqvO15 (x:AV):(eL x).eqv (.tuple [.str "own",.int 15])=decide (x = .ent 15):=eL_eqv x (.ent 15)
theorem t_law_told:HT 0 3 0 2 T__law_told R_law_told:=FnOf.ht fun ⟨r,s,p⟩ _=>by
  simp! [T__law_told,sL,eRow_parts]
  cases r with
  | br=>
    simp! [nm,eqvT]
    refine appIf (x:=flt p "stack_pointer") rfl rfl (Nat.zero_le _) (fun R=>by simp! [flt]) ?_
    simp! [eqvO11]
    refine appIf (x:=flt p "frame_pointer") rfl rfl (Nat.le_trans opt_len (by decide)) (fun R=>by simp! [flt]) ?_
    simp! [eqvO15]
    refine appIf (x:=flt p "link") rfl rfl (by rw [List.length_append]; exact Nat.le_trans (Nat.add_le_add opt_len opt_len) (by decide)) (fun R=>by simp! [flt]) ?_
    simp! [rowTags,rtags,opt_if,nm]
  | bl=>
    simp! [nm,eqvT]
    refine appIf (x:=flt p "frame_pointer") rfl rfl (Nat.zero_le _) (fun R=>by simp! [flt]) ?_
    simp! []
    cases hq:s.r 14 with
    | frm k=>
      simp! [hq,eLf,subL0]
      refine orB (c:=!decide (k.fmod 4=0)) (fun R=>by simp! [hq,eLf]) ?_
      rw [spOk_or]
      refine appIf (x:=flt p "stack_pointer") rfl rfl (Nat.le_trans opt_len (by decide)) (fun R=>by simp! [flt]) ?_
      simp! [rowTags,ctags,hq,opt_if]
    | _=>
      simp! [hq,subL0,kindTop,isTop]
      refine ⟨Nat.le_trans opt_len (by decide),?_⟩
      simp [rowTags,ctags,spOk,hq,opt_if,flt]
  | _=>simp! [nm,rowTags]
noncomputable def sendL (b:AS) (m:Mp) (t:Nat):Mp:=m.put t (if t∈m.ks then joinL (m.f t) b else b)
noncomputable def waysL (r:Row) (i:Nat):List Nat:=match r with
  | .br=>[]
  | .b d _=>[i+1,i+1+d]
  | _=>[i+1]
noncomputable def lawStep (R:List Row) (p:Nat) (m:Mp):Mp:=if p∈m.ks then (match R[p]? with | some r=>(waysL r p).foldl (sendL (fL (m.f p) r)) m | none=>m) else m
noncomputable def lawIt (R:List Row) (a:Nat):Nat→Mp
  | 0=>⟨[a],fun _=>s0⟩
  | k+1=>lawStep R (a+k) (lawIt R a k)
structure LIn where
  R:List Row
  a:Nat
structure LIn.ok (x:LIn):Prop where
  len:x.R.length≤900
  le:x.a≤x.R.length
  run:∀ k,x.a+k<x.R.length→(∀ q∈(lawIt x.R x.a k).ks,((lawIt x.R x.a k).f q).ok)∧(lawIt x.R x.a k).ks.length≤900 ∧
    ∀ r,x.R[x.a+k]?=some r→r.ok∧(x.a+k∈(lawIt x.R x.a k).ks→(fL ((lawIt x.R x.a k).f (x.a+k)) r).ok)
noncomputable def R_law_states:FnR:=FnOf LIn.ok (fun x=>[.d (rowsD x.R),.d (.int x.a)]) (fun x=>.dict (eMp sL (lawIt x.R x.a (x.R.length - x.a))))
theorem sendL_ok1 {b:AS} {m:Mp} {t:Nat} (hb:b.ok) (h:∀ q∈m.ks,(m.f q).ok):(∀ q∈(sendL b m t).ks,((sendL b m t).f q).ok)∧(sendL b m t).ks.length≤m.ks.length+1:=by
  have hs:(if t∈m.ks then joinL (m.f t) b else b).ok:=by
    split
    · rename_i ht
      exact ⟨(h t ht).1.filter _,Nat.le_trans (List.length_filter_le _ _) (h t ht).2⟩
    · exact hb
  unfold sendL
  generalize (if t∈m.ks then joinL (m.f t) b else b)=s at *
  delta Mp.put upd
  dsimp only
  refine ⟨fun q hq=>?_,by split<;>simp⟩
  split
  · exact hs
  · rename_i hne
    refine h q ?_
    split at hq
    · exact hq
    · simpa [hne] using hq
theorem sendLs_ok {b:AS} (hb:b.ok):∀ (l:List Nat) {m:Mp},(∀ q∈m.ks,(m.f q).ok)→(∀ q∈(l.foldl (sendL b) m).ks,((l.foldl (sendL b) m).f q).ok)∧(l.foldl (sendL b) m).ks.length≤m.ks.length+l.length
  | [],x,h=>⟨h,by simp⟩
  | t :: l,x,h=>by
    have h1:=sendL_ok1 (m:=x) (t:=t) hb h
    have h2:=sendLs_ok hb l h1.1
    refine ⟨h2.1,?_⟩
    simp only [List.foldl_cons,List.length_cons]; lia
theorem sendLs_keep {b:AS} {p:Nat}:∀ (l:List Nat) {m:Mp},p∉l→((l.foldl (sendL b) m).f p=m.f p)∧(p∈m.ks→p∈(l.foldl (sendL b) m).ks)
  | [],m,_=>⟨rfl,fun h=>h⟩
  | t :: l,m,h=>by
    have h1:p≠t:=fun e=>h (by simp [e])
    have h2:=sendLs_keep (b:=b) l (m:=sendL b m t) (fun q=>h (List.mem_cons_of_mem _ q))
    refine ⟨h2.1.trans ?_,fun hp=>h2.2 ?_⟩
    · simp [sendL,Mp.put,upd,h1]
    · delta sendL Mp.put
      dsimp only
      split
      · exact hp
      · exact List.mem_append_left _ hp
theorem waysL_gt (r:Row) (p:Nat):∀ t∈waysL r p,p<t:=by
  intro t ht
  unfold waysL at ht
  split at ht
  · cases ht
  · simp at ht; lia
  · simp at ht; lia
theorem waysL_len (r:Row) (p:Nat):(waysL r p).length≤2:=by unfold waysL; split<;>simp
theorem ways_cls (r:Row) (p:Nat):r = .br∨(∃ d e,r = .b d e)∨((nm r == "BR")=false∧(nm r == "B")=false∧waysL r p=[p+1]):=by
  cases r with
  | br=>exact .inl rfl
  | b d e=>exact .inr (.inl ⟨d,e,rfl⟩)
  | _=>exact .inr (.inr ⟨by kernel_rfl,by kernel_rfl,rfl⟩)
theorem law_loop {R:List Row} {a p:Nat} {r:Row} {m:Mp} {xs:List PyData} {Q:Fl→St→Prop} (q1:∀ q∈m.ks,(m.f q).ok) (q2:m.ks.length≤900) (q4:r.ok) (q5:(fL (m.f p) r).ok) (hpm:p∈m.ks) (hx:xs=nats (waysL r p))
    (hQ:Q .next ⟨[.d (rowsD R),.d (.int a),.d (.list (rE eL s0.r)),.own 1,.d (.int (p:Int)),.d (eRow r),.d (.list xs),.u,.u],[.dead,.dict (eMp sL ((waysL r p).foldl (sendL (fL (m.f p) r)) m)),.dead,.dead]⟩) :
    forK (.one 7) (seqT (asgT 8 (fnT [nameT 5,op2T (nameT 3) (nameT 4) subO] (callO 0 R_law_after)))
      (setT (ifT (tstT (op2T (nameT 7) (nameT 3) inO)) (fnT [op2T (nameT 3) (nameT 7) subO,nameT 8] (callO 0 R_law_joined)) (nameT 8)) (nameT 3) (nameT 7)))
      Q xs ⟨[.d (rowsD R),.d (.int a),.d (.list (rE eL s0.r)),.own 1,.d (.int (p:Int)),.d (eRow r),.d (.list xs),.u,.u],[.dead,.dict (eMp sL m),.dead,.dead]⟩:=by
  subst hx
  refine forK_map1 (fun j=>⟨[.d (rowsD R),.d (.int a),.d (.list (rE eL s0.r)),.own 1,.d (.int (p:Int)),.d (eRow r),.d (.list (nats (waysL r p))),.u,.u],[.dead,.dict (eMp sL (((waysL r p).take j).foldl (sendL (fL (m.f p) r)) m)),.dead,.dead]⟩) rfl (fun j t ht=>?_) (by rw [List.take_length]; exact hQ)
  have hyo:=sendLs_ok q5 ((waysL r p).take j) q1
  have hyk:=sendLs_keep (b:=fL (m.f p) r) ((waysL r p).take j) (m:=m) (p:=p) fun q=>absurd (waysL_gt r p p (List.mem_of_mem_take q)) (Nat.lt_irrefl _)
  have o3:=Nat.le_trans hyo.2 (Nat.le_trans (Nat.add_le_add q2 (Nat.le_trans (List.length_take_le' _ _) (waysL_len r p))) (by decide:_≤1048576))
  simp only [take_next ht,List.foldl_append]
  show seqT _ _ (loopK Q (Sh 4 (isS ⟨_,[.dead,.dict (eMp sL (sendL _ _ t)),.dead,.dead]⟩))) ⟨[.d (rowsD R),.d (.int a),.d (.list (rE eL s0.r)),.own 1,.d (.int (p:Int)),.d (eRow r),.d (.list (nats (waysL r p))),.d (.int t),.u],[.dead,.dict (eMp sL (((waysL r p).take j).foldl (sendL (fL (m.f p) r)) m)),.dead,.dead]⟩
  revert hyo hyk o3
  generalize ((waysL r p).take j).foldl (sendL (fL (m.f p) r)) m=yj
  intro hyo hyk o3
  simp! [eMp_look,hyk.2 hpm,hyk.1]
  refine FnOf.call (r,m.f p) ⟨q4,q1 p hpm⟩ trivial ?_
  by_cases htm:t∈yj.ks
  · simp! [eMp_look,htm]
    refine FnOf.call (yj.f t,fL (m.f p) r) ⟨hyo.1 t htm,q5⟩ trivial ?_
    simp! [ke_len,o3,eMp_put]
    exact Sh.kp 7 4 (by unfold sendL; rw [if_pos htm]; rfl) rfl rfl rfl
  · simp! [eMp_look,htm,ke_len,o3,eMp_put]
    exact Sh.kp 7 4 (by unfold sendL; rw [if_neg htm]; rfl) rfl rfl rfl
noncomputable def at2 (a k:Nat):Nat:=a+k
theorem t_law_states:HT 0 2 0 7 (T__law_states R_law_after R_law_joined) R_law_states:=FnOf.ht fun ⟨R,a⟩ ⟨hlen,hle,hrun⟩=>by
  have hlen':R.length≤1048576:=Nat.le_trans hlen (by decide)
  have h1:=rE_set (e:=eL) (r:=.ent) (a:=14) (x:=.frm 0) (by decide)
  have h2:=rE_set (e:=eL) (r:=upd .ent 14 (.frm 0)) (a:=13) (x:=.num 0) (by decide)
  let S:Nat→St:=fun k=>⟨[.d (rowsD R),.d (.int a),.d (.list (rE eL s0.r)),.own 1,.d (.int ((at2 a k:Nat):Int)),.u,.u,.u,.u],[.dead,.dict (eMp sL (lawIt R a k)),.dead]⟩
  have hfin:∀ {k n:Nat} {y5 y6 y7 y8:V} {μ:List Cell} {m:Mp},lawStep R (a+k) (lawIt R a k)=m→k+(n+1)=R.length - a→μ.take 3=[.dead,.dict (eMp sL m),.dead] →
      Sh 3 (fun st4=>∃ m,m<n+1∧∃ k',k'+m=R.length - a∧st4=S k') ⟨[.d (rowsD R),.d (.int a),.d (.list (rE eL s0.r)),.own 1,.d (.int ((at2 a k:Nat)+1:Int)),y5,y6,y7,y8],μ⟩:=fun {k n y5 y6 y7 y8 μ m} hm hk h=>
    Sh.kp 5 3 ⟨n,Nat.lt_succ_self n,k+1,(Nat.succ_add_eq_add_succ k n).trans hk,by rw [← hm] at h; exact congrArg (St.mk _) h⟩ rfl rfl (by rw [h]; rfl)
  simp! [T__law_states]
  refine lcK_mk (fromI fun i=>eL (.ent i)) rfl rfl (fun i z hz=>?_) ?_
  · obtain ⟨hi,rfl⟩:=rng_at hz
    simp! [turnL,cs0,capsOf,eL,fromI]
  · simp only [filterMap_rng,show (List.range 16).map (fun i=>eL (.ent i))=rE eL .ent from rfl]
    simp! [rE_len,h1,h2]
    refine whileT_st S (R.length - a) rfl fun k n hk=>?_
    cases n with
    | zero=>
      have hkN:at2 a k=R.length:=by unfold at2; lia
      show tstT _ _ ⟨[.d (rowsD R),.d (.int a),.d (.list (rE eL s0.r)),.own 1,.d (.int ((at2 a k:Nat):Int)),.u,.u,.u,.u],[.dead,.dict (eMp sL (lawIt R a k)),.dead]⟩
      rw [hkN,show R.length - a=k from hk.symm]
      simp! [hlen',e_whK2]
    | succ n=>
      have hlt:at2 a k<R.length:=by unfold at2; lia
      have hlt':=Int.ofNat_lt.mpr hlt
      have hq:=hrun k hlt
      have hr:R[at2 a k]?=some R[at2 a k]:=List.getElem?_eq_getElem hlt
      have hpk:=row_pick hr
      have hb:=(row_bnd hr hlen).1
      show tstT _ _ ⟨[.d (rowsD R),.d (.int a),.d (.list (rE eL s0.r)),.own 1,.d (.int ((at2 a k:Nat):Int)),.u,.u,.u,.u],[.dead,.dict (eMp sL (lawIt R a k)),.dead]⟩
      by_cases hpm:at2 a k∈(lawIt R a k).ks
      · have q4:=(hq.2.2 _ hr).1
        have q5:=(hq.2.2 _ hr).2 hpm
        have hls:lawStep R (at2 a k) (lawIt R a k)=(waysL R[at2 a k] (at2 a k)).foldl (sendL (fL ((lawIt R a k).f (at2 a k)) R[at2 a k])) (lawIt R a k):=by unfold lawStep; rw [if_pos hpm,hr]
        simp! [hlen',hlt',e_whK1,eMp_look,hpm,hpk,hb]
        rcases ways_cls R[at2 a k] (at2 a k) with e | ⟨d,e',e⟩ | ⟨e1,e2,e3⟩
        · simp! [e,nm]
          rw [← e]
          refine law_loop hq.1 hq.2.1 q4 q5 hpm (by rw [e]; rfl) ?_
          simp! []
          exact hfin hls hk rfl
        · simp! [e,nm,x2]
          simp only [← e]
          refine law_loop hq.1 hq.2.1 q4 q5 hpm (by rw [e]; rfl) ?_
          simp! []
          exact hfin hls hk rfl
        · simp! [e1,e2]
          refine law_loop hq.1 hq.2.1 q4 q5 hpm (by rw [e3]; rfl) ?_
          simp! []
          exact hfin hls hk rfl
      · have hls:lawStep R (at2 a k) (lawIt R a k)=lawIt R a k:=by unfold lawStep; exact if_neg hpm
        simp! [hlen',hlt',e_whK1,eMp_look,hpm]
        exact hfin hls hk rfl
noncomputable def cv:AV→AV
  | .num _=>.any
  | x=>x
structure Cs where
  r:Nat→AV
  w:Int→AV
theorem Cs.eq {x y:Cs} (h1:∀ j,x.r j=y.r j) (h2:∀ p,x.w p=y.w p):x=y:=by
  cases x; cases y
  congr 1
  · exact funext h1
  · exact funext h2
noncomputable def col (s:AS):Cs:=⟨fun j=>if j<16 then cv (s.r j) else .any,fun p=>cv (look s p)⟩
noncomputable def jX (x y:Cs):Cs:=⟨fun j=>if x.r j=y.r j then x.r j else .any,fun p=>if x.w p=y.w p then x.w p else .any⟩
noncomputable def fX (x:Cs):Row→Cs
  | .bl=>⟨fun j=>if j=11∨j=13∨j=14 then x.r j else .any,fun p=>if isTop (x.r 14)=true∧-8≤p then x.w p else .any⟩
  | .br=>x
  | .b _ _=>x
  | .str a c k=>(match x.r c with | .frm f=>⟨x.r,fun p=>if p=f+k then x.r a else if p+4≤f+k∨f+k+4≤p then x.w p else .any⟩ | _=>x)
  | .ldr a c k=>⟨upd x.r a (match x.r c with | .frm f=>x.w (f+k) | _=>.any),x.w⟩
  | .mov a c=>⟨upd x.r a (x.r c),x.w⟩
  | .movi a _=>⟨upd x.r a .any,x.w⟩
  | .addi a c k=>⟨upd x.r a (movP (x.r c) k),x.w⟩
  | .subi a c k=>⟨upd x.r a (movP (x.r c) (-k)),x.w⟩
theorem col_r {s:AS} {c:Nat} (h:c<16):(col s).r c=cv (s.r c):=if_pos h
theorem col_upd {s:AS} {a:Nat} {v:AV} (h:a<16):col { s with r:=upd s.r a v }=⟨upd (col s).r a (cv v),(col s).w⟩:=by
  refine Cs.eq (fun j=>?_) fun p=>rfl
  dsimp only [col,upd]
  by_cases q:j=a
  · subst q; simp [h]
  · simp [q]
theorem cv_mov (x:AV) (k:Int):cv (movP x k)=movP (cv x) k:=by cases x<;>rfl
theorem cv_add (x:AV) (k:Int):cv (addP x k)=movP (cv x) k:=by cases x<;>rfl
theorem cv_sub (x:AV) (k:Int):cv (subP x k)=movP (cv x) (-k):=by cases x<;>simp [subP,movP,cv]
theorem col_ldr (s:AS) {c:Nat} (k:Int) (h:c<16):cv (match s.r c with | .frm f=>look s (f+k) | _=>.any)=(match (col s).r c with | .frm f=>(col s).w (f+k) | _=>.any):=by
  rw [col_r h]
  cases s.r c<;>simp [cv,col]
theorem top_cv (x:AV):isTop (cv x)=isTop x:=by cases x<;>rfl
theorem col_call (s:AS):col (fCall s)=fX (col s) .bl:=by
  refine Cs.eq (fun j=>?_) fun p=>?_
  · simp only [col,fCall,fX]
    by_cases q:j=11∨j=13∨j=14
    · have:j<16:=by lia
      simp [q,this]
    · rw [if_neg q]
      split<;>rfl
  · have h14:(col s).r 14=cv (s.r 14):=col_r (by decide)
    simp only [fX,h14,top_cv]
    show cv (look (fCall s) p)=_
    unfold look
    rw [fCall_ks]
    by_cases q1:isTop (s.r 14)=true<;>by_cases q2 : -8≤p<;>by_cases q3:p∈s.ks<;>simp [q1,q2,q3,col,look,fCall,cv]
theorem col_str (s:AS) {a c:Nat} (k:Int) (ha:a<16) (hc:c<16):col (fStr s a c k)=fX (col s) (.str a c k):=by
  rw [fX,col_r hc]
  cases hq:s.r c with
  | frm f=>
    simp only [cv]
    refine Cs.eq (fun j=>?_) fun p=>?_
    · simp [col,fStr,hq]
    · simp only [col_r ha]
      show cv (look (fStr s a c k) p)=_
      have e:look (fStr s a c k) p=if p=f+k then s.r a else if p+4≤f+k∨f+k+4≤p then look s p else .any:=by
        delta look fStr
        rw [hq]
        simp only [List.mem_append,List.mem_filter,List.mem_singleton,Bool.or_eq_true,decide_eq_true_eq,upd]
        by_cases q1:p=f+k
        · simp [q1]
        · by_cases q2:p+4≤f+k∨f+k+4≤p
          · by_cases q3:p∈s.ks<;>simp [q1,q2,q3]
          · simp [q1,q2]
      rw [e]
      split
      · rfl
      · split<;>rfl
  | _=>simp [cv,fStr,hq]
theorem col_fP (s:AS) {r:Row} (h:r.ok):col (fP s r)=fX (col s) r:=by
  cases r with
  | bl=>exact col_call s
  | br=>rfl
  | b d e=>rfl
  | str a c k=>exact col_str s k h.1 h.2
  | ldr a c k=>
    dsimp only [fP]
    rw [col_upd h.1]
    exact congrArg (fun x=>(⟨upd (col s).r a x,(col s).w⟩:Cs)) (col_ldr s k h.2)
  | mov a c=>
    simp only [fP,pP]
    rw [col_upd h.1]
    simp only [fX,col_r h.2]
  | movi a k=>
    simp only [fP,pP]
    rw [col_upd h]; rfl
  | addi a c k=>
    simp only [fP,pP]
    rw [col_upd h.1,cv_add]
    simp only [fX,col_r h.2.1]
  | subi a c k=>
    simp only [fP,pP]
    rw [col_upd h.1,cv_sub]
    simp only [fX,col_r h.2.1]
theorem col_fL (s:AS) {r:Row} (h:r.ok):col (fL s r)=fX (col s) r:=by
  cases r with
  | bl=>exact col_call s
  | br=>rfl
  | b d e=>rfl
  | str a c k=>exact col_str s k h.1 h.2
  | ldr a c k=>
    dsimp only [fL]
    rw [col_upd h.1]
    exact congrArg (fun x=>(⟨upd (col s).r a x,(col s).w⟩:Cs)) (col_ldr s k h.2)
  | mov a c=>
    simp only [fL]
    rw [col_upd h.1]
    simp only [fX,col_r h.2]
  | movi a k=>
    simp only [fL]
    rw [col_upd h]; rfl
  | addi a c k=>
    simp only [fL]
    rw [col_upd h.1,cv_mov]
    simp only [fX,col_r h.2.1]
  | subi a c k=>
    simp only [fL]
    rw [col_upd h.1,cv_mov]
    simp only [fX,col_r h.2.1]
theorem cv_join (x y:AV):cv (if x=y then x else .any)=if cv x=cv y then cv x else .any:=by
  by_cases h:x=y
  · simp [h]
  · rw [if_neg h]
    cases x<;>cases y<;>simp_all [cv]
theorem col_joinP (s t:AS):col (joinP s t)=jX (col s) (col t):=by
  refine Cs.eq (fun j=>?_) fun p=>?_
  · simp only [col,joinP,jX]
    by_cases q:j<16
    · simp only [if_pos q]; exact cv_join _ _
    · simp [q]
  · simp only [jX]
    show cv (look (joinP s t) p)=if cv (look s p)=cv (look t p) then cv (look s p) else .any
    rw [← cv_join]
    congr 1
    unfold look joinP
    simp only [List.mem_filter,decide_eq_true_eq]
    by_cases q:p∈s.ks
    · simp only [q,true_and,if_true]
      by_cases q2:look t p=s.v p
      · rw [if_pos q2,if_pos (by unfold look at q2; exact q2.symm)]
      · rw [if_neg q2,if_neg (by unfold look at q2; exact fun h=>q2 h.symm)]
    · simp only [q,false_and,if_false]
      split<;>simp
theorem col_joinL (s t:AS):col (joinL s t)=jX (col s) (col t):=by
  refine Cs.eq (fun j=>?_) fun p=>?_
  · simp only [col,joinL,jX]
    by_cases q:j<16
    · simp only [if_pos q]; exact cv_join _ _
    · simp [q]
  · simp only [jX]
    show cv (look (joinL s t) p)=if cv (look s p)=cv (look t p) then cv (look s p) else .any
    rw [← cv_join]
    congr 1
    delta look joinL
    simp only [List.mem_filter,decide_eq_true_eq]
    by_cases q:p∈s.ks
    · by_cases q1:p∈t.ks
      · simp only [q,q1,true_and,if_true]
        by_cases q2:t.v p=s.v p
        · rw [if_pos q2,if_pos q2.symm]
        · rw [if_neg q2,if_neg (fun h=>q2 h.symm)]
      · simp only [q,q1,true_and,false_and,if_true,if_false]
        split
        · rename_i h; exact h.symm
        · rfl
    · simp only [q,false_and,if_false]
      split<;>simp
noncomputable def leR (x y:Cs):Prop:=∀ j,x.r j = .any∨x.r j=y.r j
noncomputable def leW (x y:Cs):Prop:=∀ p,x.w p = .any∨x.w p=y.w p
noncomputable def leC (x y:Cs):Prop:=leR x y∧leW x y
theorem leC.refl (x:Cs):leC x x:=⟨fun _=>.inr rfl,fun _=>.inr rfl⟩
theorem leR.trans {x y z:Cs} (h1:leR x y) (h2:leR y z):leR x z:=fun j=>by
  rcases h1 j with h | h
  · exact .inl h
  · rw [h]; exact h2 j
theorem leW.trans {x y z:Cs} (h1:leW x y) (h2:leW y z):leW x z:=fun j=>by
  rcases h1 j with h | h
  · exact .inl h
  · rw [h]; exact h2 j
theorem leC.trans {x y z:Cs} (h1:leC x y) (h2:leC y z):leC x z:=⟨h1.1.trans h2.1,h1.2.trans h2.2⟩
theorem leR.anti {x y:Cs} (h1:leR x y) (h2:leR y x):∀ j,x.r j=y.r j:=fun j=>by
  refine Or.elim (h1 j) (fun h=>?_) (fun h=>?_)
  · refine Or.elim (h2 j) (fun h'=>?_) (fun h'=>?_)
    · simp only [h,h']
    · exact h'.symm
  · exact h
theorem leC.anti {x y:Cs} (h1:leC x y) (h2:leC y x):x=y:=Cs.eq (leR.anti h1.1 h2.1) fun j=>by
  refine Or.elim (h1.2 j) (fun h=>?_) (fun h=>?_)
  · refine Or.elim (h2.2 j) (fun h'=>?_) (fun h'=>?_)
    · simp only [h,h']
    · exact h'.symm
  · exact h
theorem jX_l (x y:Cs):leC (jX x y) x:=⟨fun j=>by unfold jX; dsimp only; split<;>simp,fun j=>by unfold jX; dsimp only; split<;>simp⟩
theorem jX_r (x y:Cs):leC (jX x y) y:=⟨fun j=>by unfold jX; dsimp only; split<;>simp_all,fun j=>by unfold jX; dsimp only; split<;>simp_all⟩
theorem jX_R {x y z:Cs} (h1:leR z x) (h2:leR z y):leR z (jX x y):=fun j=>by
  unfold jX; dsimp only
  rcases h1 j with h | h
  · exact .inl h
  · refine Or.elim (h2 j) (fun h'=>?_) (fun h'=>?_)
    · exact .inl h'
    · rw [if_pos (h.symm.trans h')]; exact .inr h
theorem jX_W {x y z:Cs} (h1:leW z x) (h2:leW z y):leW z (jX x y):=fun j=>by
  unfold jX; dsimp only
  rcases h1 j with h | h
  · exact .inl h
  · refine Or.elim (h2 j) (fun h'=>?_) (fun h'=>?_)
    · exact .inl h'
    · rw [if_pos (h.symm.trans h')]; exact .inr h
theorem jX_C {x y z:Cs} (h1:leC z x) (h2:leC z y):leC z (jX x y):=⟨jX_R h1.1 h2.1,jX_W h1.2 h2.2⟩
theorem jX_self (x:Cs):jX x x=x:=Cs.eq (fun j=>if_pos rfl) fun p=>if_pos rfl
theorem upd_le {x y:Nat→AV} {a:Nat} {u v:AV} (h:∀ j,x j = .any∨x j=y j) (hu:u = .any∨u=v):∀ j,upd x a u j = .any∨upd x a u j=upd y a v j:=fun j=>by
  unfold upd; split
  · exact hu
  · exact h j
theorem mov_le {u v:AV} (k:Int) (h:u = .any∨u=v):movP u k = .any∨movP u k=movP v k:=by
  rcases h with h | h
  · subst h; exact .inl rfl
  · rw [h]; exact .inr rfl
noncomputable def isStr':Row→Bool
  | .str ..=>true
  | _=>false
theorem fX_mono {x y:Cs} {r:Row} (h:leC x y) (hr:isStr' r=false):leC (fX x r) (fX y r):=by
  refine kA h fun h1 h2=>?_
  cases r with
  | bl=>
    refine ⟨fun j=>?_,fun p=>?_⟩
    · simp only [fX]
      split
      · exact h1 j
      · exact .inl rfl
    · simp only [fX]
      rcases h1 14 with h | h
      · rw [h]; left; rfl
      · rw [h]
        split
        · exact h2 p
        · exact .inl rfl
  | br=>exact ⟨h1,h2⟩
  | b d e=>exact ⟨h1,h2⟩
  | str a c k=>cases hr
  | ldr a c k=>
    refine ⟨upd_le h1 ?_,h2⟩
    rcases h1 c with h | h
    · rw [h]; exact .inl rfl
    · rw [h]
      split
      · exact h2 _
      · exact .inl rfl
  | mov a c=>exact ⟨upd_le h1 (h1 c),h2⟩
  | movi a k=>exact ⟨upd_le h1 (.inl rfl),h2⟩
  | addi a c k=>exact ⟨upd_le h1 (mov_le _ (h1 c)),h2⟩
  | subi a c k=>exact ⟨upd_le h1 (mov_le _ (h1 c)),h2⟩
theorem fX_strR (x:Cs) (a c:Nat) (k:Int):(fX x (.str a c k)).r=x.r:=by unfold fX; dsimp only; split<;>rfl
theorem fX_strC {x y:Cs} {a c:Nat} {k:Int} (h:leC x y) (e:x.r c=y.r c):leC (fX x (.str a c k)) (fX y (.str a c k)):=by
  simp only [fX,e]
  split
  · refine ⟨h.1,fun p=>?_⟩
    dsimp only
    split
    · exact h.1 a
    · split
      · exact h.2 p
      · exact .inl rfl
  · exact h
noncomputable def wr:Row→Nat
  | .ldr a _ _=>a
  | .mov a _=>a
  | .movi a _=>a
  | .addi a _ _=>a
  | .subi a _ _=>a
  | _=>16
structure Proc (R:List Row) (a n:Nat):Prop where
  n7:7≤n
  le:a+n≤R.length
  ok:∀ p,a≤p→p<a+n→∃ r,R[p]?=some r∧r.ok
  last:R[a+n - 1]?=some .br
  way:∀ p r,a≤p→p+1<a+n→R[p]?=some r→r≠.br∧∀ d e,r = .b d e→p+1+d=if p<a+n - 4 then a+n - 4 else a+n - 1
  str:∀ q,a+n - 4≤q→q+2<a+n→∀ x c k,R[q]?=some (.str x c k)→c=11∧(∃ x c k,R[a]?=some (.str x c k))∧(∃ x c k,R[a+1]?=some (.str x c k))∧R[a+2]?=some (.mov 11 14) ∧
    ∀ p r,a+3≤p→p<q→R[p]?=some r→wr r≠11
theorem mem_ways {r:Row} {i t:Nat}:t∈waysL r i↔t∈succ1 r i:=by
  cases r with
  | b d e=>
    dsimp only [waysL,succ1]
    by_cases h:d=0
    · subst h; simp
    · simp [h]
  | _=>rfl
section
variable {R:List Row} {a n:Nat}
theorem Proc.row (P:Proc R a n) {p:Nat} {r:Row} (h1:a≤p) (h2:p<a+n) (hr:R[p]?=some r):r.ok:=by
  refine kEA (P.ok p h1 h2) fun r' h hk=>?_
  rw [hr] at h; cases h; exact hk
theorem Proc.ways (P:Proc R a n) {p t:Nat} {r:Row} (h1:a≤p) (h2:p<a+n) (hr:R[p]?=some r) (ht:t∈waysL r p):p+1<a+n∧p<t∧t<a+n∧(t=p+1∨((∃ d e,r = .b d e)∧((t=a+n - 4∧p<a+n - 4)∨t=a+n - 1))):=by
  by_cases hl:p+1<a+n
  · refine kA (P.way p r h1 hl hr) fun w1 w2=>?_
    have h0:0<a+n:=Nat.lt_of_le_of_lt (Nat.zero_le _) h2
    refine ⟨hl,waysL_gt r p t ht,?_⟩
    cases r with
    | br=>exact absurd rfl w1
    | b d e=>
      rcases List.mem_cons.mp ht with h | h
      · exact ⟨h▸hl,.inl h⟩
      have h:=(List.mem_singleton.mp h).trans (w2 d e rfl)
      by_cases q:p<a+n - 4
      · rw [if_pos q] at h
        exact ⟨h▸Nat.sub_lt h0 (by decide),.inr ⟨⟨d,e,rfl⟩,.inl ⟨h,q⟩⟩⟩
      · rw [if_neg q] at h
        exact ⟨h▸Nat.sub_lt h0 (by decide),.inr ⟨⟨d,e,rfl⟩,.inr h⟩⟩
    | _=>exact ⟨(List.mem_singleton.mp ht).symm▸hl,.inl (List.mem_singleton.mp ht)⟩
  · have e:p+1=a+n:=Nat.le_antisymm h2 (Nat.le_of_not_lt hl)
    have:=P.last
    rw [← e,Nat.add_sub_cancel,hr] at this
    rw [Option.some.inj this] at ht
    exact absurd ht List.not_mem_nil
theorem Proc.next (P:Proc R a n) {p:Nat} {r:Row} (h1:a≤p) (h2:p+1<a+n) (hr:R[p]?=some r):p+1∈waysL r p:=by
  refine kA (P.way p r h1 h2 hr) fun w1 _=>?_
  cases r<;>simp [waysL]
  exact absurd rfl w1
noncomputable def Glb (B:Nat→Cs) (W:Nat→Nat→Prop) (t:Nat) (x:Cs):Prop:=(∀ i,W i t→leC x (B i))∧∀ z,(∀ i,W i t→leC z (B i))→leC z x
structure GI (a:Nat) (B:Nat→Cs) (W:Nat→Nat→Prop) (m:Mp):Prop where
  g:∀ t∈m.ks,t≠a→Glb B W t (col (m.f t))
  k:∀ i t,W i t→t∈m.ks
  k':∀ t∈m.ks,t=a∨∃ i,W i t
  fa:m.f a=s0
  ma:a∈m.ks
  nd:m.ks.Nodup
theorem GI.send {B:Nat→Cs} {W:Nat→Nat→Prop} {m:Mp} {b:AS} {i t:Nat} (h:GI a B W m) (hb:col b=B i) (ht:t≠a):GI a B (fun i' t'=>W i' t'∨(i'=i∧t'=t)) (sendL b m t):=by
  have hks:∀ q,q∈(sendL b m t).ks↔q∈m.ks∨q=t:=fun q=>by
    delta sendL Mp.put
    dsimp only
    by_cases hm:t∈m.ks
    · rw [if_pos hm]
      exact ⟨.inl,fun h=>by rcases h with h | rfl; exact h; exact hm⟩
    · rw [if_neg hm]; simp
  have hfo:∀ q,q≠t→(sendL b m t).f q=m.f q:=fun q hq=>by simp [sendL,Mp.put,upd,hq]
  have hft:(sendL b m t).f t=if t∈m.ks then joinL (m.f t) b else b:=by simp [sendL,Mp.put,upd]
  refine ⟨fun q hq hqa=>?_,fun i' t' hw=>?_,fun q hq=>?_,?_,(hks a).mpr (.inl h.ma),?_⟩
  · by_cases e:q=t
    · subst e
      rw [hft]
      by_cases hm:q∈m.ks
      · rw [if_pos hm,col_joinL,hb]
        refine kA (h.g q hm hqa) fun g1 g2=>?_
        refine ⟨fun i' hw=>?_,fun z hz=>jX_C (g2 z fun i' hw=>hz i' (.inl hw)) (hz i (.inr ⟨rfl,rfl⟩))⟩
        rcases hw with hw | ⟨rfl,_⟩
        · exact (jX_l _ _).trans (g1 i' hw)
        · exact jX_r _ _
      · rw [if_neg hm,hb]
        refine ⟨fun i' hw=>?_,fun z hz=>hz i (.inr ⟨rfl,rfl⟩)⟩
        rcases hw with hw | ⟨rfl,_⟩
        · exact absurd (h.k i' q hw) hm
        · exact leC.refl _
    · rw [hfo q e]
      have hqm:q∈m.ks:=by
        rcases (hks q).mp hq with h | h
        · exact h
        · exact absurd h e
      refine kA (h.g q hqm hqa) fun g1 g2=>?_
      refine ⟨fun i' hw=>?_,fun z hz=>g2 z fun i' hw=>hz i' (.inl hw)⟩
      refine Or.elim hw (fun hw=>?_) (fun z3=>?_)
      · exact g1 i' hw
      · refine kA z3 fun _ hw=>?_
        exact absurd hw e
  · rcases hw with hw | ⟨_,rfl⟩
    · exact (hks t').mpr (.inl (h.k i' t' hw))
    · exact (hks t').mpr (.inr rfl)
  · rcases (hks q).mp hq with hq | rfl
    · refine Or.elim (h.k' q hq) (fun h=>?_) (fun z6=>?_)
      · exact .inl h
      · refine kE z6 fun i' h=>?_
        exact .inr ⟨i',.inl h⟩
    · exact .inr ⟨i,.inr ⟨rfl,rfl⟩⟩
  · rw [hfo a (Ne.symm ht)]; exact h.fa
  · delta sendL Mp.put
    dsimp only
    split
    · exact h.nd
    · rename_i hm
      rw [List.nodup_append]
      exact ⟨h.nd,by simp,fun x hx y hy e=>hm (by simp at hy; subst hy; subst e; exact hx)⟩
theorem GI.congr {B:Nat→Cs} {W W':Nat→Nat→Prop} {m:Mp} (h:GI a B W m) (e:∀ i t,W i t↔W' i t):GI a B W' m:=by
  have:W=W':=by funext i t; exact propext (e i t)
  rw [← this]; exact h
theorem GI.sends {B:Nat→Cs} {b:AS} {i:Nat} (hb:col b=B i):∀ (l:List Nat) {W:Nat→Nat→Prop} {m:Mp},GI a B W m→(∀ t∈l,t≠a)→GI a B (fun i' t'=>W i' t'∨(i'=i∧t'∈l)) (l.foldl (sendL b) m)
  | [],W,m,h,_=>h.congr fun i t=>by simp
  | t :: l,W,m,h,ht=>by
    have h1:=h.send hb (ht t (by simp))
    have h2:=GI.sends hb l h1 fun t' h'=>ht t' (List.mem_cons_of_mem _ h')
    exact h2.congr fun i' t'=>by
      rw [List.mem_cons]
      constructor
      · rintro ((h | ⟨h,h'⟩) | ⟨h,h'⟩)
        · exact .inl h
        · exact .inr ⟨h,.inl h'⟩
        · exact .inr ⟨h,.inr h'⟩
      · rintro (h | ⟨h,h' | h'⟩)
        · exact .inl (.inl h)
        · exact .inl (.inr ⟨h,h'⟩)
        · exact .inr ⟨h,h'⟩
noncomputable def Sz (a:Nat) (m:Mp):Prop:=∀ q∈m.ks,(m.f q).ks.Nodup∧(m.f q).ks.length≤q - a
theorem fStr_sz {s:AS} {x c:Nat} {k:Int} (h:s.ks.Nodup):(fStr s x c k).ks.Nodup∧(fStr s x c k).ks.length≤s.ks.length+1:=by
  unfold fStr
  split
  · rename_i f hf
    refine ⟨?_,?_⟩
    · rw [List.nodup_append]
      refine ⟨h.filter _,by simp,fun y hy z hz e=>?_⟩
      simp at hz; subst hz; subst e
      have:=(List.mem_filter.mp hy).2
      simp only [Bool.or_eq_true,decide_eq_true_eq] at this
      lia
    · have:=List.length_filter_le (fun o=>decide (o+4≤f+k)||decide (f+k+4≤o)) s.ks
      simp only [List.length_append,List.length_cons,List.length_nil]
      exact Nat.lt_succ_of_le (by assumption)
  · exact ⟨h,by exact Nat.le_succ _⟩
theorem fCall_sz {s:AS} (h:s.ks.Nodup):(fCall s).ks.Nodup∧(fCall s).ks.length≤s.ks.length+1:=by
  rw [fCall_ks]
  exact ⟨h.filter _,Nat.le_trans (List.length_filter_le _ _) (by exact Nat.le_succ _)⟩
theorem fL_sz {s:AS} (r:Row) (h:s.ks.Nodup):(fL s r).ks.Nodup∧(fL s r).ks.length≤s.ks.length+1:=by
  cases r with
  | bl=>exact fCall_sz h
  | str x c k=>exact fStr_sz h
  | _=>exact ⟨h,Nat.le_succ _⟩
theorem fP_sz {s:AS} (r:Row) (h:s.ks.Nodup):(fP s r).ks.Nodup∧(fP s r).ks.length≤s.ks.length+1:=by
  cases r with
  | bl=>exact fCall_sz h
  | str x c k=>exact fStr_sz h
  | _=>exact ⟨h,Nat.le_succ _⟩
theorem Sz.send {m:Mp} {b:AS} {t:Nat} (h:Sz a m) (hb:b.ks.Nodup∧b.ks.length≤t - a):Sz a (sendL b m t):=by
  have hs:(if t∈m.ks then joinL (m.f t) b else b).ks.Nodup∧(if t∈m.ks then joinL (m.f t) b else b).ks.length≤t - a:=by
    split
    · rename_i ht
      exact ⟨(h t ht).1.filter _,Nat.le_trans (List.length_filter_le _ _) (h t ht).2⟩
    · exact hb
  unfold sendL
  generalize (if t∈m.ks then joinL (m.f t) b else b)=s at *
  intro q hq
  delta Mp.put upd at *
  dsimp only at *
  split
  · rename_i e; subst e; exact hs
  · rename_i hne
    refine h q ?_
    split at hq
    · exact hq
    · simpa [hne] using hq
theorem Sz.sends {b:AS} {p:Nat} (hb:b.ks.Nodup∧b.ks.length≤p+1 - a):∀ (l:List Nat) {m:Mp},Sz a m→(∀ t∈l,p<t)→Sz a (l.foldl (sendL b) m)
  | [],m,h,_=>h
  | t :: l,m,h,ht=>Sz.sends hb l (h.send ⟨hb.1,by have:=ht t (by simp); omega⟩) fun t' h'=>ht t' (List.mem_cons_of_mem _ h')
noncomputable def WayL (R:List Row) (a k:Nat):Nat→Nat→Prop:=fun i t=>a≤i∧i<a+k∧∃ r,R[i]?=some r∧t∈waysL r i
theorem law_keep (P:Proc R a n) (i:Nat):∀ k k',k≤k'→i≤a+k→(lawIt R a k').f i=(lawIt R a k).f i:=by
  intro k k' hk hi
  induction k' with
  | zero=>
    have:k=0:=by lia
    subst this; rfl
  | succ k' ih=>
    by_cases e:k=k'+1
    · subst e; rfl
    · simp only [← ih (by lia)]
      show (lawStep R (a+k') (lawIt R a k')).f i=_
      unfold lawStep
      split
      · split
        · rename_i r hr
          exact (sendLs_keep _ fun q=>by have:=waysL_gt r (a+k') i q; lia).1
        · rfl
      · rfl
noncomputable def lawM (R:List Row) (a n:Nat):Mp:=lawIt R a n
noncomputable def lawX (R:List Row) (a n:Nat) (i:Nat):Cs:=col ((lawM R a n).f i)
noncomputable def lawB (R:List Row) (a n:Nat) (i:Nat):Cs:=match R[i]? with
  | some r=>fX (lawX R a n i) r
  | none=>lawX R a n i
theorem law_inv (P:Proc R a n) (k:Nat) (hk:k≤n):GI a (lawB R a n) (WayL R a k) (lawIt R a k)∧Sz a (lawIt R a k):=by
  induction k with
  | zero=>
    refine ⟨⟨fun t ht hta=>absurd (List.mem_singleton.mp ht) hta,fun i t h=>absurd h.2.1 (Nat.not_lt_of_le h.1),fun t ht=>.inl (List.mem_singleton.mp ht),rfl,List.mem_singleton.mpr rfl,List.pairwise_singleton _ _⟩,fun q hq=>?_⟩
    simp [lawIt] at hq; subst hq; simp [lawIt,s0]
  | succ k ih=>
    refine kA (ih (Nat.le_of_succ_le hk)) fun h1 h2=>?_
    refine kEA (P.ok (a+k) (Nat.le_add_right a k) (Nat.add_lt_add_left hk a)) fun r hr hok=>?_
    have hpm:a+k∈(lawIt R a k).ks:=by
      cases k with
      | zero=>exact h1.ma
      | succ k=>
        refine kEA (P.ok (a+k) (Nat.le_add_right a k) (Nat.add_lt_add_left (Nat.lt_of_succ_lt hk) a)) fun r' hr' _=>?_
        exact h1.k (a+k) (a+(k+1)) ⟨Nat.le_add_right a k,Nat.lt_succ_self _,r',hr',P.next (Nat.le_add_right a k) (Nat.add_lt_add_left (n:=k+1) hk a) hr'⟩
    have e:lawIt R a (k+1)=(waysL r (a+k)).foldl (sendL (fL ((lawIt R a k).f (a+k)) r)) (lawIt R a k):=by
      show lawStep R (a+k) (lawIt R a k)=_
      unfold lawStep
      rw [if_pos hpm,hr]
    have hb:col (fL ((lawIt R a k).f (a+k)) r)=lawB R a n (a+k):=by
      rw [col_fL _ hok]
      delta lawB lawX lawM
      simp only [hr,law_keep P (a+k) k n (Nat.le_of_succ_le hk) (Nat.le_refl _)]
    rw [e]
    refine ⟨(h1.sends hb _ fun t ht=>Nat.ne_of_gt (Nat.lt_of_le_of_lt (Nat.le_add_right a k) (waysL_gt r (a+k) t ht))).congr fun i t=>⟨?_,?_⟩,h2.sends (p:=a+k) ?_ _ (waysL_gt r (a+k))⟩
    · rintro (⟨w1,w2,w3⟩ | ⟨rfl,w⟩)
      · exact ⟨w1,Nat.lt_succ_of_lt w2,w3⟩
      · exact ⟨Nat.le_add_right a k,Nat.lt_succ_self _,r,hr,w⟩
    · rintro ⟨w1,w2,r',w3,w4⟩
      by_cases q:i=a+k
      · rw [q] at w3 w4
        exact .inr ⟨q,Option.some.inj (w3.symm.trans hr)▸w4⟩
      · exact .inl ⟨w1,Nat.lt_of_le_of_ne (Nat.le_of_lt_succ w2) q,r',w3,w4⟩
    · have h3:=h2 (a+k) hpm
      have h4:=fL_sz r h3.1
      exact ⟨h4.1,by lia⟩
end
structure Ref (R:List Row) (a n:Nat) (X:Nat→Cs):Prop where
  P:Proc R a n
  x0:X a=col s0
  le:∀ p t r,a≤p→p<a+n→R[p]?=some r→t∈waysL r p→leC (X t) (fX (X p) r)
  gl:∀ t,a<t→t<a+n→∀ z,(∀ p r,a≤p→p<a+n→R[p]?=some r→t∈waysL r p→leC z (fX (X p) r))→leC z (X t)
section
variable {R:List Row} {a n:Nat} {X:Nat→Cs}
theorem Proc.three (P:Proc R a n):a+3≤a+n - 4:=Nat.le_sub_of_add_le (Nat.add_le_add_left P.n7 a)
theorem Proc.low (P:Proc R a n) {p t:Nat} {r:Row} (h1:a≤p) (h2:p<a+n) (hr:R[p]?=some r) (ht:t∈waysL r p) (h:t<a+n - 4):t=p+1:=by
  rcases (P.ways h1 h2 hr ht).2.2.2 with e | ⟨_,⟨e,_⟩ | e⟩
  · exact e
  · exact absurd e (Nat.ne_of_lt h)
  · exact absurd e (Nat.ne_of_lt (Nat.lt_of_lt_of_le h (Nat.sub_le_sub_left (by decide) _)))
theorem law_keys (P:Proc R a n) (t:Nat):t∈(lawM R a n).ks↔a≤t∧t<a+n:=by
  refine kA (law_inv P n (Nat.le_refl _)) fun h _=>?_
  constructor
  · intro ht
    refine Or.elim (h.k' t ht) (fun z2=>?_) (fun z3=>?_)
    · subst z2
      exact ⟨Nat.le_refl _,Nat.lt_add_of_pos_right (Nat.lt_of_lt_of_le (by decide) P.n7)⟩
    · refine kEAAEA z3 fun i w1 w2 r w3 w4=>?_
      have:=P.ways w1 w2 w3 w4
      exact ⟨Nat.le_of_lt (Nat.lt_of_le_of_lt w1 this.2.1),this.2.2.1⟩
  · rintro ⟨h1,h2⟩
    refine Or.elim (Nat.eq_or_lt_of_le h1) (fun z4=>?_) (fun h1=>?_)
    · subst z4
      exact h.ma
    · obtain ⟨t,rfl⟩:=Nat.exists_eq_succ_of_ne_zero (Nat.ne_of_gt (Nat.lt_of_le_of_lt (Nat.zero_le _) h1))
      have h1:=Nat.le_of_lt_succ h1
      refine kEA (P.ok t h1 (Nat.lt_of_succ_lt h2)) fun r hr _=>?_
      exact h.k t (t+1) ⟨h1,Nat.lt_of_succ_lt h2,r,hr,P.next h1 h2 hr⟩
theorem law_ref (P:Proc R a n):Ref R a n (lawX R a n):=by
  refine kA (law_inv P n (Nat.le_refl _)) fun h _=>?_
  have hB:∀ p r,R[p]?=some r→lawB R a n p=fX (lawX R a n p) r:=fun p r hr=>by unfold lawB; rw [hr]
  refine ⟨P,?_,fun p t r h1 h2 hr ht=>?_,fun t h1 h2 z hz=>?_⟩
  · show col ((lawIt R a n).f a)=_
    exact congrArg _ (h.fa)
  · have hw:=P.ways h1 h2 hr ht
    simp only [← hB p r hr]
    exact (h.g t ((law_keys P t).mpr ⟨by omega,hw.2.2.1⟩) (by omega)).1 p ⟨h1,h2,r,hr,ht⟩
  · refine (h.g t ((law_keys P t).mpr ⟨by exact Nat.le_of_lt (by assumption),h2⟩) (by exact Nat.ne_of_gt (by assumption))).2 z fun i z6=>kAAEA z6 fun w1 w2 r w3 w4=>?_
    simp only [hB i r w3]
    exact hz i r w1 w2 w3 w4
theorem Ref.single (F:Ref R a n X) {p:Nat} (h1:a≤p) (h2:p+1<a+n - 4) {r:Row} (hr:R[p]?=some r):X (p+1)=fX (X p) r:=by
  have h3:p+1<a+n:=Nat.lt_of_lt_of_le h2 (Nat.sub_le _ _)
  refine leC.anti (F.le p _ r h1 (Nat.lt_of_succ_lt h3) hr (F.P.next h1 h3 hr)) (F.gl _ (Nat.lt_succ_of_le h1) h3 _ fun p' r' w1 w2 w3 w4=>?_)
  cases Nat.succ.inj (F.P.low w1 w2 w3 w4 h2)
  cases Option.some.inj (hr.symm.trans w3)
  exact leC.refl _
noncomputable def Late (R:List Row) (a n q:Nat):Prop:=a+n - 4≤q∧q+2<a+n∧∃ x c k,R[q]?=some (.str x c k)
noncomputable def Vd (R:List Row) (a n:Nat) (X:Nat→Cs) (t:Nat) (x:Cs):Prop:=(t<a+n - 4→x=X t)∧∀ q,Late R a n q→a+3≤t→t≤q→x.r 11 = .frm 0
theorem keep11 {x:Cs} {r:Row} (h:wr r≠11):(fX x r).r 11=x.r 11:=by
  cases r with
  | bl=>rfl
  | br=>rfl
  | b d e=>rfl
  | str y c k=>rw [fX_strR]
  | ldr y c k=>exact if_neg (Ne.symm h)
  | mov y c=>exact if_neg (Ne.symm h)
  | movi y k=>exact if_neg (Ne.symm h)
  | addi y c k=>exact if_neg (Ne.symm h)
  | subi y c k=>exact if_neg (Ne.symm h)
theorem Ref.sp2 (F:Ref R a n X) {q:Nat} (hq:Late R a n q):(X (a+2)).r 14 = .frm 0:=by
  refine kAAEEE hq fun q1 q2 x c k q3=>?_
  refine kAAA (F.P.str q q1 q2 x c k q3) fun _ z8 z9 _=>?_
  refine kEEE z8 fun x1 c1 k1 e1=>?_
  refine kEEE z9 fun x2 c2 k2 e2=>?_
  have h1:=F.single (Nat.le_refl a) (Nat.lt_of_lt_of_le (Nat.add_lt_add_left (by decide) a) F.P.three) e1
  have h2:=F.single (Nat.le_succ a) (Nat.lt_of_lt_of_le (Nat.lt_succ_self _) F.P.three) e2
  simp only [h2,fX_strR,h1,fX_strR,F.x0]
  rfl
theorem Proc.nob (P:Proc R a n) {p q d:Nat} {e:Int} (hq:Late R a n q) (h1:a≤p) (hp:p<a+3):R[p]?≠some (.b d e):=fun hr=>by
  refine kAAEEE hq fun q1 q2 x c k q3=>?_
  have S:=P.str q q1 q2 x c k q3
  refine kE (Nat.exists_eq_add_of_le h1) fun j z7=>?_
  subst z7
  match j,Nat.lt_of_add_lt_add_left hp,hr with
  | 0,_,hr=>obtain ⟨_,_,_,e⟩:=S.2.1; exact Row.noConfusion (Option.some.inj (e.symm.trans hr))
  | 1,_,hr=>obtain ⟨_,_,_,e⟩:=S.2.2.1; exact Row.noConfusion (Option.some.inj (e.symm.trans hr))
  | 2,_,hr=>exact Row.noConfusion (Option.some.inj (S.2.2.2.1.symm.trans hr))
  | _+3,q,_=>exact absurd q (Nat.not_lt_of_le (Nat.le_add_left 3 _))
theorem Late.mov (P:Proc R a n) {q:Nat} (hq:Late R a n q):R[a+2]?=some (.mov 11 14)∧∀ p r,a+3≤p→p<q→R[p]?=some r→wr r≠11:=by
  refine kAAEEE hq fun q1 q2 x c k q3=>?_
  exact (P.str q q1 q2 x c k q3).2.2.2
theorem Ref.step11 (F:Ref R a n X) {p t q:Nat} {r:Row} {y:Cs} (h1:a≤p) (h2:p<a+n) (hr:R[p]?=some r) (ht:t∈waysL r p) (hv:Vd R a n X p y) (hq:Late R a n q) (h3:a+3≤t) (h4:t≤q):(fX y r).r 11 = .frm 0:=by
  have w:=F.P.ways h1 h2 hr ht
  by_cases hp:a+3≤p
  · rw [keep11 ((hq.mov F.P).2 p r hp (Nat.lt_of_lt_of_le w.2.1 h4) hr)]
    exact hv.2 q hq hp (Nat.le_trans (Nat.le_of_lt w.2.1) h4)
  have hp:=Nat.lt_of_not_le hp
  rcases w.2.2.2 with rfl | ⟨⟨d,e,rfl⟩,_⟩
  · obtain rfl:=Nat.le_antisymm (Nat.le_of_lt_succ hp) (Nat.le_of_succ_le_succ h3)
    simp only [hv.1 (Nat.lt_of_lt_of_le (Nat.lt_succ_self _) F.P.three),← Option.some.inj ((hq.mov F.P).1.symm.trans hr)]
    exact F.sp2 hq
  · exact absurd hr (F.P.nob hq h1 hp)
theorem Ref.vd (F:Ref R a n X):∀ t,a≤t→t<a+n→Vd R a n X t (X t):=by
  intro t
  induction t using Nat.strongRecOn with
  | _ t ih=>
    intro h1 h2
    refine ⟨fun _=>rfl,fun q hq h3 h4=>?_⟩
    have:=F.gl t (by lia) h2 ⟨upd (fun _=>.any) 11 (.frm 0),fun _=>.any⟩ fun p r w1 w2 w3 w4=>?_
    · refine Or.elim (this.1 11) (fun h=>?_) (fun h=>?_)
      · cases h
      · exact h.symm
    · have hw:=F.P.ways w1 w2 w3 w4
      have h11:=F.step11 w1 w2 w3 w4 (ih p hw.2.1 w1 w2) hq h3 h4
      refine ⟨fun j=>?_,fun _=>.inl rfl⟩
      unfold upd
      dsimp only
      by_cases e:j=11
      · subst e; rw [if_pos rfl,h11]; exact .inr rfl
      · rw [if_neg e]; exact .inl rfl
noncomputable def Ab (R:List Row) (a n:Nat) (X:Nat→Cs) (t:Nat) (x:Cs):Prop:=leR (X t) x∧(t≠a+n - 1→leW (X t) x)∧Vd R a n X t x
theorem Ref.ab_step (F:Ref R a n X) {p t:Nat} {r:Row} {y:Cs} (h1:a≤p) (h2:p<a+n) (hr:R[p]?=some r) (ht:t∈waysL r p) (hy:Ab R a n X p y):Ab R a n X t (fX y r):=by
  have P:=F.P
  refine kAAA (P.ways h1 h2 hr ht) fun w1 w2 w3 _=>?_
  refine kAA hy fun y1 y2 y3=>?_
  have hle:=F.le p t r h1 h2 hr ht
  have hV:Vd R a n X t (fX y r):=by
    refine ⟨fun h=>?_,fun q hq h3 h4=>F.step11 h1 h2 hr ht y3 hq h3 h4⟩
    obtain rfl:=P.low h1 h2 hr ht h
    exact (congrArg (fX · r) (y3.1 (Nat.lt_trans w2 h))).trans (F.single h1 h hr).symm
  have hyC:leC (X p) y:=⟨y1,y2 (Nat.ne_of_lt (Nat.lt_sub_of_add_lt w1))⟩
  by_cases hpe:p<a+n - 4
  · rw [← y3.1 hpe] at hle
    exact ⟨hle.1,fun _=>hle.2,hV⟩
  have hpe:=Nat.le_of_not_lt hpe
  cases hs:isStr' r with
  | false=>
    have:=hle.trans (fX_mono hyC hs)
    exact ⟨this.1,fun _=>this.2,hV⟩
  | true=>
    cases r with
    | str x c k=>
      by_cases hl:p+2<a+n
      · have hq:Late R a n p:=⟨hpe,hl,x,c,k,hr⟩
        have e11:=(P.str p hpe hl x c k hr).1
        subst e11
        have h3:=Nat.le_trans P.three hpe
        have:=hle.trans (fX_strC hyC (((F.vd p h1 h2).2 p hq h3 (Nat.le_refl _)).trans (y3.2 p hq h3 (Nat.le_refl _)).symm))
        exact ⟨this.1,fun _=>this.2,hV⟩
      · refine ⟨fun j=>?_,fun h=>absurd (Nat.le_antisymm (Nat.le_sub_one_of_lt w3) (Nat.sub_le_of_le_add (Nat.le_trans (Nat.le_of_not_lt hl) (Nat.succ_le_succ w2)))) h,hV⟩
        have:=hle.1 j
        rw [fX_strR] at this ⊢
        rcases this with h | h
        · exact .inl h
        · rw [h]; exact y1 j
    | _=>cases hs
theorem Ab.join {t:Nat} {x y:Cs} (h1:Ab R a n X t x) (h2:Ab R a n X t y):Ab R a n X t (jX x y):=by
  refine ⟨jX_R h1.1 h2.1,fun h=>jX_W (h1.2.1 h) (h2.2.1 h),fun h=>?_,fun q hq h3 h4=>?_⟩
  · simp only [h1.2.2.1 h,h2.2.2.1 h,jX_self]
  · have e1:=h1.2.2.2 q hq h3 h4
    have e2:=h2.2.2.2 q hq h3 h4
    simp [jX,e1,e2]
end
noncomputable def ht (s:AS):Nat:=((List.range 16).filter fun j=>decide (s.r j≠.any)).length+s.ks.length
theorem flen {α:Type} {p q:α→Bool}:∀ (l:List α),(∀ x∈l,p x=true→q x=true)→(l.filter p).length≤(l.filter q).length∧((l.filter q).length≤(l.filter p).length→∀ x∈l,q x=true→p x=true)
  | [],_=>by simp
  | a :: l,h=>by
    refine kA (flen l fun x hx=>h x (List.mem_cons_of_mem _ hx)) fun h1 h2=>?_
    have ha:=h a List.mem_cons_self
    cases hp:p a<;>cases hq:q a
    · simp only [List.filter_cons,hp,hq,Bool.false_eq_true,if_false]
      refine ⟨h1,fun e x hx hx'=>?_⟩
      rcases List.mem_cons.mp hx with rfl | hx
      · rw [hq] at hx'; cases hx'
      · exact h2 e x hx hx'
    · simp only [List.filter_cons,hp,hq,Bool.false_eq_true,if_false,if_true,List.length_cons]
      exact ⟨by exact Nat.le_succ_of_le (by assumption),fun e=>by exact absurd (by assumption) (Nat.not_lt_of_le (by assumption))⟩
    · rw [ha hp] at hq; cases hq
    · simp only [List.filter_cons,hp,hq,if_true,List.length_cons]
      refine ⟨by exact Nat.lt_succ_of_le (by assumption),fun e x hx hx'=>?_⟩
      rcases List.mem_cons.mp hx with rfl | hx
      · exact hp
      · exact h2 (by exact Nat.le_of_lt_succ (by assumption)) x hx hx'
theorem ht_join (s b:AS) (hn:s.ks.Nodup):ht (joinP s b)≤ht s∧(chg (joinP s b) s=true→ht (joinP s b)<ht s):=by
  have h1:=flen (p:=fun j=>decide ((joinP s b).r j≠.any)) (q:=fun j=>decide (s.r j≠.any)) (List.range 16) fun j _ h=>by
    simp only [decide_eq_true_eq] at h ⊢
    intro e
    have:(joinP s b).r j = .any:=by
      simp only [joinP]; split
      · exact e
      · rfl
    exact h this
  have h2:(joinP s b).ks.length≤s.ks.length:=List.length_filter_le _ _
  refine ⟨by unfold ht; omega,fun hc=>?_⟩
  by_cases hlt:ht (joinP s b)<ht s
  · exact hlt
  · exfalso
    unfold ht at hlt
    have e1:=h1.2 (by omega)
    have hks:(joinP s b).ks=s.ks:=by
      have:s.ks.length=(joinP s b).ks.length:=by omega
      exact List.filter_eq_self.mpr (List.length_filter_eq_length_iff.mp this.symm)
    have hr:∀ j∈List.range 16,(joinP s b).r j=s.r j:=fun j hj=>by
      have:=e1 j hj
      by_cases q:s.r j = .any
      · have:(joinP s b).r j = .any:=by
          simp only [joinP]; split
          · exact q
          · rfl
        simp only [this,q]
      · have h3:=this (by simp [q])
        simp only [decide_eq_true_eq] at h3
        simp only [joinP] at h3 ⊢
        split
        · rfl
        · rename_i h4; rw [if_neg h4] at h3; exact absurd rfl h3
    have hre:rE eP (joinP s b).r=rE eP s.r:=List.map_congr_left fun j hj=>by exact congrArg _ (hr j hj)
    have hde:dE eP (joinP s b)=dE eP s:=by
      show kv id (fun k=>eP (s.v k)) (joinP s b).ks=_
      exact congrArg _ (hks)
    unfold chg at hc
    simp only [hre,hde,deq_refl hn] at hc
    have hl:=layReg s.r
    have:=PySem.SeqAt.eqv_refl (.tuple (rE eP s.r)) (by exact hl)
    simp only [PyData.eqv] at this
    rw [this] at hc
    cases hc
theorem eqvAll_map:∀ (l:List Nat) (f g:Nat→AV),PyData.eqvAll (l.map fun i=>eP (f i)) (l.map fun i=>eP (g i))=true→∀ i∈l,f i=g i
  | [],f,g,_=>by simp
  | a :: l,f,g,h=>by
    simp only [List.map_cons,PyData.eqvAll,Bool.and_eq_true,eP_eqv,decide_eq_true_eq] at h
    intro i hi
    rcases List.mem_cons.mp hi with rfl | hi
    · exact h.1
    · exact eqvAll_map l f g h.2 i hi
theorem chg_no {s b:AS} (h:¬ chg (joinP s b) s=true):col (joinP s b)=col s:=by
  have h':(PyData.eqvAll (rE eP (joinP s b).r) (rE eP s.r)&&deq (dE eP (joinP s b)) (dE eP s))=true:=by
    unfold chg at h
    cases hq:(PyData.eqvAll (rE eP (joinP s b).r) (rE eP s.r)&&deq (dE eP (joinP s b)) (dE eP s)) with
    | true=>rfl
    | false=>rw [hq] at h; simp at h
  simp only [Bool.and_eq_true] at h'
  have hr:=eqvAll_map (List.range 16) _ _ h'.1
  have hlen:(joinP s b).ks.length=s.ks.length:=by
    have:=h'.2
    unfold deq at this
    simp only [Bool.and_eq_true,beq_iff_eq] at this
    simpa [ke_len] using this.1
  have hks:(joinP s b).ks=s.ks:=List.filter_eq_self.mpr (List.length_filter_eq_length_iff.mp hlen)
  refine Cs.eq (fun j=>?_) fun p=>?_
  · simp only [col]
    split
    · exact congrArg _ (hr j (List.mem_range.mpr (by assumption)))
    · rfl
  · show cv (look (joinP s b) p)=cv (look s p)
    unfold look
    rw [hks]; rfl
noncomputable def phi (n:Nat) (m:Mp) (t:Nat):Nat:=if t∈m.ks then ht (m.f t) else 17+n
noncomputable def sumP (a n:Nat) (m:Mp):Nat:=((List.range n).map fun i=>phi n m (a+i)).sum
noncomputable def mu (a n:Nat) (x:Wk'):Nat:=x.w.length+sumP a n x.m
theorem sum_one {f g:Nat→Nat} {k d:Nat}:∀ (l:List Nat),l.Nodup→k∈l→(∀ i∈l,i≠k→f i=g i)→f k+d≤g k→(l.map f).sum+d≤(l.map g).sum
  | [],_,h,_,_=>by cases h
  | a :: l,nd,h,he,hd=>by
    rw [List.nodup_cons] at nd
    simp only [List.map_cons,List.sum_cons]
    by_cases e:a=k
    · subst e
      have:l.map f=l.map g:=List.map_congr_left fun i hi=>he i (List.mem_cons_of_mem _ hi) fun q=>nd.1 (q▸hi)
      rw [this]; lia
    · have h1:=sum_one l nd.2 ((List.mem_cons.mp h).resolve_left (Ne.symm e)) (fun i hi=>he i (List.mem_cons_of_mem _ hi)) hd
      have h2:=he a List.mem_cons_self e
      lia
theorem put_mem {m:Mp} {t:Nat} {s:AS} (q:Nat):q∈(m.put t s).ks↔q∈m.ks∨q=t:=by
  unfold Mp.put
  dsimp only
  by_cases hm:t∈m.ks
  · rw [if_pos hm]
    exact ⟨.inl,fun h=>by rcases h with h | rfl; exact h; exact hm⟩
  · rw [if_neg hm]; simp
theorem put_f {m:Mp} {t:Nat} {s:AS}:(m.put t s).f t=s:=by simp [Mp.put,upd]
theorem put_o {m:Mp} {t q:Nat} {s:AS} (h:q≠t):(m.put t s).f q=m.f q:=by simp [Mp.put,upd,h]
theorem sum_put {a n:Nat} {m:Mp} {t:Nat} {s:AS} (h1:a≤t) (h2:t<a+n) (h:ht s+1≤phi n m t):sumP a n (m.put t s)+1≤sumP a n m:=by
  refine sum_one (k:=t - a) (List.range n) List.nodup_range (List.mem_range.mpr (by omega)) (fun i _ hi=>?_) ?_
  · unfold phi
    have:a+i≠t:=by lia
    rw [put_o this]
    have e:(a+i∈(m.put t s).ks)=(a+i∈m.ks):=by rw [put_mem]; simp [this]
    simp only [e]
  · have e:a+(t - a)=t:=by omega
    rw [e]
    unfold phi at h ⊢
    rw [if_pos ((put_mem t).mpr (.inr rfl)),put_f]
    exact h
theorem put_nd {m:Mp} {t:Nat} {s:AS} (h:m.ks.Nodup):(m.put t s).ks.Nodup:=by
  unfold Mp.put
  dsimp only
  split
  · exact h
  · rename_i hm
    rw [List.nodup_append]
    exact ⟨h,by simp,fun x hx y hy e=>hm (by simp at hy; subst hy; subst e; exact hx)⟩
structure WI (R:List Row) (a n:Nat) (X:Nat→Cs) (C:Nat) (pend:Nat→Nat→Prop) (x:Wk'):Prop where
  rg:∀ t∈x.m.ks,a≤t∧t<a+n
  ma:a∈x.m.ks
  fa:x.m.f a=s0
  nd:x.m.ks.Nodup
  wk:∀ p∈x.w,p∈x.m.ks
  cl:∀ i∈x.m.ks,i∉x.w→∀ r t,R[i]?=some r→t∈waysL r i→¬ pend i t→t∈x.m.ks∧leC (col (x.m.f t)) (fX (col (x.m.f i)) r)
  ab:∀ t∈x.m.ks,Ab R a n X t (col (x.m.f t))
  sz:Sz a x.m
  mu:mu a n x≤C
theorem Sz.put {a:Nat} {m:Mp} {s:AS} {t:Nat} (h:Sz a m) (hs:s.ks.Nodup∧s.ks.length≤t - a):Sz a (m.put t s):=fun q hq=>by
  by_cases e:q=t
  · subst e; rw [put_f]; exact hs
  · rw [put_o e]; exact h q (((put_mem q).mp hq).resolve_right e)
theorem ht_le (s:AS):ht s≤16+s.ks.length:=by
  unfold ht
  have:=List.length_filter_le (fun j=>decide (s.r j≠.any)) (List.range 16)
  simp only [List.length_range] at this
  exact Nat.add_le_add_right (by assumption) _
section
variable {R:List Row} {a n:Nat} {X:Nat→Cs} {C:Nat}
theorem WI.send (F:Ref R a n X) {pend pend':Nat→Nat→Prop} {x:Wk'} {p t:Nat} {r:Row} (h:WI R a n X C pend x) (hp:p∈x.m.ks) (hr:R[p]?=some r) (ht:t∈waysL r p)
    (hpd:∀ i t',pend i t'→pend' i t'∨(i=p∧t'=t)):WI R a n X C pend' (send (fP (x.m.f p) r) x t)∧(send (fP (x.m.f p) r) x t).m.f p=x.m.f p∧p∈(send (fP (x.m.f p) r) x t).m.ks:=by
  have hp1:=(h.rg p hp).1
  have hp2:=(h.rg p hp).2
  have hok:=F.P.row hp1 hp2 hr
  have w:=F.P.ways hp1 hp2 hr ht
  have w2:=w.2.1
  have w3:=w.2.2.1
  have hat:a<t:=Nat.lt_of_le_of_lt hp1 w2
  clear w
  have hne:p≠t:=by exact Nat.ne_of_lt (by assumption)
  have hcol:=col_fP (x.m.f p) hok
  have hab:=F.ab_step hp1 hp2 hr ht (h.ab p hp)
  have hsz:=fP_sz r (h.sz p hp).1
  have hsz2:=(h.sz p hp).2
  simp only [← hcol] at hab
  generalize hb:fP (x.m.f p) r=b at *
  have push:∀ s:AS,leC (col s) (col b)→(t∈x.m.ks→leC (col s) (col (x.m.f t)))→Ab R a n X t (col s)→s.ks.Nodup∧s.ks.length≤t - a→Mine.ht s+1≤phi n x.m t→WI R a n X C pend' ⟨x.m.put t s,x.w++[t]⟩:=fun s s1 s2 s3 s4 s5=>by
    refine ⟨fun q hq=>?_,(put_mem a).mpr (.inl h.ma),?_,put_nd h.nd,fun q hq=>?_,fun i hi hw r' t' hr' ht' hpn=>?_,fun q hq=>?_,h.sz.put s4,?_⟩
    · rcases (put_mem q).mp hq with hq | rfl
      · exact h.rg q hq
      · exact ⟨Nat.le_of_lt hat,w3⟩
    · show (x.m.put t s).f a=s0
      rw [put_o (Nat.ne_of_lt hat)]; exact h.fa
    · refine (put_mem q).mpr ?_
      rcases List.mem_append.mp hq with hq | hq
      · exact .inl (h.wk q hq)
      · exact .inr (by simpa using hq)
    · have hit:i≠t:=fun e=>hw (by simp [e])
      have hiw:i∉x.w:=fun e=>hw (by simp [e])
      have him:i∈x.m.ks:=((put_mem i).mp hi).resolve_right hit
      refine ⟨(put_mem t').mpr ?_,?_⟩
      · by_cases e:t'=t
        · exact .inr e
        · refine .inl (h.cl i him hiw r' t' hr' ht' fun q=>?_).1
          rcases hpd i t' q with q | q
          · exact hpn q
          · exact e q.2
      · show leC (col ((x.m.put t s).f t')) (fX (col ((x.m.put t s).f i)) r')
        rw [put_o hit]
        by_cases e:t'=t
        · subst e
          rw [put_f]
          by_cases q:pend i t'
          · rcases hpd i t' q with q | q
            · exact absurd q hpn
            · obtain ⟨rfl,_⟩:=q
              rw [hr] at hr'; cases hr'
              simp only [← hcol]; exact s1
          · obtain ⟨c1,c2⟩:=h.cl i him hiw r' t' hr' ht' q
            exact (s2 c1).trans c2
        · rw [put_o e]
          refine (h.cl i him hiw r' t' hr' ht' fun q=>?_).2
          rcases hpd i t' q with q | q
          · exact hpn q
          · exact e q.2
    · show Ab R a n X q (col ((x.m.put t s).f q))
      by_cases e:q=t
      · subst e; rw [put_f]; exact s3
      · rw [put_o e]; exact h.ab q (((put_mem q).mp hq).resolve_right e)
    · have hs:=sum_put (a:=a) (n:=n) (Nat.le_of_lt hat) w3 s5
      have:=h.mu
      unfold Mine.mu at this ⊢
      simp only [List.length_append,List.length_cons,List.length_nil]
      lia
  unfold Mine.send
  by_cases hm:t∈x.m.ks
  · rw [if_pos hm]
    have hjb:leC (col (joinP (x.m.f t) b)) (col b):=by rw [col_joinP]; exact jX_r _ _
    have hjt:leC (col (joinP (x.m.f t) b)) (col (x.m.f t)):=by rw [col_joinP]; exact jX_l _ _
    by_cases hc:chg (joinP (x.m.f t) b) (x.m.f t)=true
    · rw [if_pos hc]
      refine ⟨push _ hjb (fun _=>hjt) (by simp only [col_joinP]; exact (h.ab t hm).join hab) ⟨(h.sz t hm).1.filter _,Nat.le_trans (List.length_filter_le _ _) (h.sz t hm).2⟩ ?_,put_o hne,(put_mem p).mpr (.inl hp)⟩
      unfold phi
      rw [if_pos hm]
      exact (ht_join (x.m.f t) b (h.sz t hm).1).2 hc
    · rw [if_neg hc]
      refine ⟨⟨h.rg,h.ma,h.fa,h.nd,h.wk,fun i hi hw r' t' hr' ht' hpn=>?_,h.ab,h.sz,h.mu⟩,rfl,hp⟩
      by_cases q:pend i t'
      · rcases hpd i t' q with q | q
        · exact absurd q hpn
        · obtain ⟨rfl,rfl⟩:=q
          rw [hr] at hr'; cases hr'
          refine ⟨hm,?_⟩
          simp only [← chg_no hc,← hcol]
          exact hjb
      · exact h.cl i hi hw r' t' hr' ht' q
  · rw [if_neg hm]
    refine ⟨push b (leC.refl _) (fun q=>absurd q hm) hab ⟨hsz.1,by omega⟩ ?_,put_o hne,(put_mem p).mpr (.inl hp)⟩
    unfold phi
    rw [if_neg hm]
    have:=ht_le b
    lia
end
section
variable {R:List Row} {a n:Nat} {X:Nat→Cs} {C:Nat}
noncomputable def noP:Nat→Nat→Prop:=fun _ _=>False
theorem WI.mono {C':Nat} {pend:Nat→Nat→Prop} {x:Wk'} (h:WI R a n X C pend x) (hc:C≤C'):WI R a n X C' pend x:=⟨h.rg,h.ma,h.fa,h.nd,h.wk,h.cl,h.ab,h.sz,Nat.le_trans h.mu hc⟩
theorem WI.sends (F:Ref R a n X) {p:Nat} {r:Row} {s:AS} (hr:R[p]?=some r):∀ (l:List Nat) {x:Wk'},WI R a n X C (fun i t'=>i=p∧t'∈l) x→(∀ t∈l,t∈waysL r p)→p∈x.m.ks→x.m.f p=s→WI R a n X C noP (l.foldl (Mine.send (fP s r)) x)
  | [],x,h,_,_,_=>⟨h.rg,h.ma,h.fa,h.nd,h.wk,fun i hi hw r' t' hr' ht' _=>h.cl i hi hw r' t' hr' ht' (fun q=>by simp at q),h.ab,h.sz,h.mu⟩
  | t :: l,x,h,hl,hp,hs=>by
    subst hs
    obtain ⟨h1,h2,h3⟩:=h.send F (pend':=fun i t'=>i=p∧t'∈l) hp hr (hl t (by simp)) fun i t' q=>by
      rcases List.mem_cons.mp q.2 with e | e
      · exact .inr ⟨q.1,e⟩
      · exact .inl ⟨q.1,e⟩
    exact WI.sends F hr l h1 (fun t' ht'=>hl t' (List.mem_cons_of_mem _ ht')) h3 h2
theorem WI.step (F:Ref R a n X) {x:Wk'} (h:WI R a n X C noP x) (hw:x.w≠[]):WI R a n X (C - 1) noP (stepW R x):=by
  obtain ⟨p,hp⟩:∃ p,x.w.getLast?=some p:=⟨_,List.getLast?_eq_some_getLast hw⟩
  have hpw:p∈x.w:=List.mem_of_getLast? hp
  have hpk:=h.wk p hpw
  refine kA (h.rg p hpk) fun hp1 hp2=>?_
  refine kEA (F.P.ok p hp1 hp2) fun r hr hok=>?_
  unfold stepW
  rw [hp]
  simp only [hr]
  have hsplit:x.w=x.w.dropLast++[p]:=by
    have h1:=List.dropLast_concat_getLast hw
    rw [List.getLast?_eq_some_getLast hw] at hp
    rw [← Option.some.inj hp]; exact h1.symm
  refine WI.sends F hr (succ1 r p) (x:=⟨x.m,x.w.dropLast⟩) ⟨h.rg,h.ma,h.fa,h.nd,fun q hq=>h.wk q (List.dropLast_subset _ hq),fun i hi hwi r' t' hr' ht' hpn=>?_,h.ab,h.sz,?_⟩ (fun t ht=>mem_ways.mpr ht) hpk rfl
  · refine h.cl i hi (fun q=>?_) r' t' hr' ht' (fun q=>q)
    rw [hsplit] at q
    rcases List.mem_append.mp q with q | q
    · exact hwi q
    · have e:i=p:=by simpa using q
      subst e
      rw [hr] at hr'; cases hr'
      exact hpn ⟨rfl,mem_ways.mp ht'⟩
  · have:=h.mu
    have h1:=congrArg List.length hsplit
    simp only [List.length_append,List.length_cons,List.length_nil] at h1
    unfold Mine.mu at *
    lia
theorem run_all (F:Ref R a n X) (C:Nat):∀ (k:Nat),WI R a n X C noP (itW R a k)→∃ N,k≤N∧(∀ j,k≤j→j<N→(itW R a j).w≠[])∧(itW R a N).w=[]∧∀ j,k≤j→j≤N→WI R a n X C noP (itW R a j):=by
  have nil:∀ {C k:Nat},WI R a n X C noP (itW R a k)→(itW R a k).w=[]→∃ N,k≤N∧(∀ j,k≤j→j<N→(itW R a j).w≠[])∧(itW R a N).w=[]∧∀ j,k≤j→j≤N→WI R a n X C noP (itW R a j):=fun {C k} h hw=>
    ⟨k,Nat.le_refl _,fun j h1 h2=>absurd h2 (Nat.not_lt_of_le h1),hw,fun j h1 h2=>Nat.le_antisymm h1 h2▸h⟩
  induction C with
  | zero=>
    intro k h
    have hmu:=h.mu
    unfold Mine.mu at hmu
    exact nil h (List.length_eq_zero_iff.mp (by lia))
  | succ C ih=>
    intro k h
    by_cases hw:(itW R a k).w=[]
    · exact nil h hw
    refine kEAAA (ih (k+1) (h.step F hw)) fun N n1 n2 n3 n4=>?_
    refine ⟨N,Nat.le_of_succ_le n1,fun j j1 j2=>?_,n3,fun j j1 j2=>?_⟩
    · refine Or.elim (Nat.eq_or_lt_of_le j1) (fun z1=>?_) (fun j1=>?_)
      · subst z1
        exact hw
      · exact n2 j j1 j2
    · refine Or.elim (Nat.eq_or_lt_of_le j1) (fun z2=>?_) (fun j1=>?_)
      · subst z2
        exact h
      · exact (n4 j j1 j2).mono (Nat.le_succ _)
theorem sum_bound {l:List Nat} {c:Nat} (h:∀ x∈l,x≤c):l.sum≤l.length * c:=by
  induction l with
  | nil=>simp
  | cons x l ih=>
    have h1:=ih fun y hy=>h y (List.mem_cons_of_mem _ hy)
    have h2:=h x List.mem_cons_self
    dsimp only [List.sum_cons,List.length_cons,Nat.add_mul]
    lia
theorem WI.init (F:Ref R a n X):WI R a n X (1+n * (17+n)) noP (itW R a 0):=by
  have n7:=F.P.n7
  refine ⟨fun t ht=>?_,by simp [itW,initW],rfl,by simp [itW,initW],fun p hp=>by exact hp,fun i hi hw=>?_,fun t ht=>?_,fun q hq=>?_,?_⟩
  · simp [itW,initW] at ht; lia
  · dsimp only [itW,initW] at hi hw; exact absurd hi hw
  · simp [itW,initW] at ht; subst ht
    show Ab R t n X t (col s0)
    have:=F.vd t (Nat.le_refl _) (by lia)
    simp only [F.x0] at this
    exact ⟨by rw [F.x0]; exact (leC.refl _).1,fun _=>by rw [F.x0]; exact (leC.refl _).2,this⟩
  · simp [itW,initW] at hq; subst hq; simp [itW,initW,s0]
  · delta Mine.mu sumP
    have:∀ x∈(List.range n).map fun i=>phi n (itW R a 0).m (a+i),x≤17+n:=fun x hx=>by
      refine kEA (List.mem_map.mp hx) fun i _ z4=>?_
      subst z4
      unfold phi
      split
      · have:Mine.ht ((itW R a 0).m.f (a+i))≤16:=by
          have:=ht_le s0
          exact this
        lia
      · exact Nat.le_refl _
    have:=sum_bound this
    simp only [List.length_map,List.length_range] at this
    exact Nat.add_le_add_left (by assumption) _
theorem nodup_len:∀ {N:Nat} {l:List Nat},l.Nodup→(∀ x∈l,x<N)→l.length≤N
  | 0,l,_,hb=>by
    cases l with
    | nil=>simp
    | cons x l=>exact absurd (hb x List.mem_cons_self) (by simp)
  | N+1,l,h,hb=>by
    by_cases hm:N∈l
    · have h1:=nodup_len (N:=N) (h.erase N) fun x hx=>by
        have:=(List.Nodup.mem_erase_iff h).mp hx
        have:=hb x this.2
        lia
      rw [List.length_erase_of_mem hm] at h1
      lia
    · have h1:=nodup_len (N:=N) h fun x hx=>by
        have:=hb x hx
        have:x≠N:=fun e=>hm (e▸hx)
        lia
      exact Nat.le_succ_of_le (by assumption)
theorem WI.runOk (F:Ref R a n X) (hl:R.length≤900) (hC:C≤100000) {x:Wk'} (h:WI R a n X C noP x):RunOk R x:=by
  have hle:=F.P.le
  refine ⟨fun q hq=>?_,?_,?_,fun p hp=>?_⟩
  · have h1:=h.sz q hq
    have h2:=h.rg q hq
    exact ⟨h1.1,by lia⟩
  · have:=nodup_len h.nd (N:=a+n) fun q hq=>(h.rg q hq).2
    lia
  · have:=h.mu
    unfold Mine.mu at this
    lia
  · have hpw:p∈x.w:=List.mem_of_getLast? hp
    have hpk:=h.wk p hpw
    refine kA (h.rg p hpk) fun hp1 hp2=>?_
    refine kEA (F.P.ok p hp1 hp2) fun r hr hok=>?_
    have hsz:=fP_sz r (h.sz p hpk).1
    have hsz2:=(h.sz p hpk).2
    refine ⟨hpk,by lia,r,hr,hok,?_,hsz.1,by lia⟩
    have nx:∀ t,t∈waysL r p→t<R.length:=fun t ht=>Nat.lt_of_lt_of_le (F.P.ways hp1 hp2 hr ht).2.2.1 hle
    cases r with
    | br=>trivial
    | b d e=>exact nx _ (List.mem_cons_of_mem _ List.mem_cons_self)
    | _=>exact nx _ List.mem_cons_self
theorem work_eq (F:Ref R a n X) {x:Wk'} (hN:WI R a n X C noP x) (h0:x.w=[]):∀ t,a≤t→t<a+n→t∈x.m.ks∧(t≠a+n - 1→col (x.m.f t)=X t)∧∀ j,(col (x.m.f t)).r j=(X t).r j:=by
  have hw:∀ i,i∉x.w:=fun i=>h0▸List.not_mem_nil
  intro t
  induction t using Nat.strongRecOn with
  | _ t ih=>
    intro h1 h2
    rcases Nat.eq_or_lt_of_le h1 with rfl | h1
    · rw [hN.fa,F.x0]; exact ⟨hN.ma,fun _=>rfl,fun _=>rfl⟩
    have htk:t∈x.m.ks:=by
      refine kE (Nat.exists_eq_succ_of_ne_zero (Nat.ne_of_gt (Nat.lt_of_le_of_lt (Nat.zero_le _) h1))) fun t z2=>?_
      subst z2
      have h1:=Nat.le_of_lt_succ h1
      have h3:=Nat.lt_of_succ_lt h2
      refine kEA (F.P.ok t h1 h3) fun r hr _=>?_
      exact (hN.cl t (ih t (Nat.lt_succ_self t) h1 h3).1 (hw _) r _ hr (F.P.next h1 h2 hr) id).1
    have hup:leC (col (x.m.f t)) (X t):=F.gl t h1 h2 _ fun p r' w1 w2 w3 w4=>by
      have v:=F.P.ways w1 w2 w3 w4
      have i:=ih p v.2.1 w1 w2
      rw [← i.2.1 (Nat.ne_of_lt (Nat.lt_sub_of_add_lt v.1))]
      exact (hN.cl p i.1 (hw _) r' t w3 w4 id).2
    have b:=hN.ab t htk
    exact ⟨htk,fun hne=>leC.anti hup ⟨b.1,b.2.1 hne⟩,leR.anti hup.1 b.1⟩
theorem work_ends (F:Ref R a n X) (hl:R.length≤900) (hn:n≤100):∃ N,(∀ k≤N,RunOk R (itW R a k))∧(∀ k<N,(itW R a k).w≠[])∧(itW R a N).w=[] ∧
    (∀ t,t∈(itW R a N).m.ks↔a≤t∧t<a+n)∧(itW R a N).m.ks.Nodup∧∀ t,a≤t→t<a+n→∀ j,(col ((itW R a N).m.f t)).r j=(X t).r j:=by
  refine kEAAA (run_all F _ 0 (WI.init F)) fun N _ n2 n3 n4=>?_
  have hC:1+n * (17+n)≤100000:=Nat.le_trans (Nat.add_le_add_left (Nat.mul_le_mul hn (Nat.add_le_add_left hn 17)) 1) (by decide)
  have hN:=n4 N (Nat.zero_le _) (Nat.le_refl _)
  have main:=work_eq F hN n3
  exact ⟨N,fun k hk=>(n4 k (Nat.zero_le _) hk).runOk F hl hC,fun k hk=>n2 k (Nat.zero_le _) hk,n3,fun t=>⟨hN.rg t,fun h=>(main t h.1 h.2).1⟩,hN.nd,fun t h1 h2=>(main t h1 h2).2.2⟩
end
noncomputable def BRow:Row→Prop
  | .bl=>True
  | .b d e=>d=0∧e=1
  | .str x c _=>x<4∧c=11
  | .ldr x c _=>x<4∧c=11
  | .subi a c k=>a=14∧c=14∧0≤k∧k≤100
  | .addi a c k=>a=14∧c=14∧0≤k∧k≤100
  | .movi x _=>x<4
  | _=>False
noncomputable def tells:Row→Bool
  | .bl=>true
  | .br=>true
  | _=>false
noncomputable def LB (a:List Row):Prop:=(∀ r∈a,BRow r)∧a.countP tells≤1
theorem LB.one {r:Row} (h:BRow r):LB [r]:=⟨fun _ q=>List.mem_singleton.mp q▸h,List.countP_le_length⟩
theorem LB.ite {p:Prop} [Decidable p] {a b:List Row×List Nat} (h1:LB a.1) (h2:LB b.1):LB (if p then a else b).1:=by
  by_cases h:p
  · rw [if_pos h]; exact h1
  · rw [if_neg h]; exact h2
theorem LB.five {k:Int} {p:Prop} [Decidable p] (h:0≤k∧k≤100):LB (.subi 14 14 k :: (if p then [.bl] else [])++[.addi 14 14 k]):=by
  have h2:=(LB.one (r:=.addi 14 14 k) ⟨rfl,rfl,h⟩).1
  by_cases q:p
  · rw [if_pos q]; exact ⟨List.forall_mem_cons.mpr ⟨⟨rfl,rfl,h⟩,List.forall_mem_cons.mpr ⟨trivial,h2⟩⟩,Nat.le_refl 1⟩
  · rw [if_neg q]; exact ⟨List.forall_mem_cons.mpr ⟨⟨rfl,rfl,h⟩,h2⟩,Nat.zero_le 1⟩
theorem lap_both (l:List Nat):LB (lapF l).1:=by
  have h4:hd l.tail 4<4:=hd_lt _ (by decide)
  have h3:hd l.tail 3<3:=hd_lt _ (by decide)
  exact .ite (.one trivial) (.ite (.one ⟨h4,rfl⟩) (.ite (.one ⟨h4,rfl⟩) (.ite (.one ⟨rfl,rfl⟩) (.ite (.five (by lia)) (.one h4)))))
theorem body_rows (l:List Nat):∀ r∈(bodyF l).1,BRow r:=by
  unfold bodyF
  generalize hd l 9=n
  generalize l.tail=l
  induction n with
  | zero=>intro r hr; simp [bodyIt] at hr
  | succ n ih=>
    intro r hr
    refine Or.elim (List.mem_append.mp hr) (fun hr=>?_) (fun hr=>?_)
    · exact ih r hr
    · exact (lap_both _).1 r hr
theorem body_cnt (l:List Nat):(bodyF l).1.countP tells≤8:=by
  have h9:=hd_lt l (m:=9) (by decide)
  unfold bodyF
  generalize hd l 9=n at *
  generalize l.tail=l
  have:(bodyIt l n).1.countP tells≤n:=by
    clear h9
    induction n with
    | zero=>simp [bodyIt]
    | succ n ih=>
      have:=(lap_both (bodyIt l n).2).2
      simp only [bodyIt,List.countP_append]
      lia
  lia
theorem cnt_set:∀ (l:List Row) (i:Nat) (r:Row),tells r=false→(l.set i r).countP tells≤l.countP tells
  | [],i,r,h=>by simp
  | a :: l,0,r,h=>by simp [List.countP_cons,h]
  | a :: l,i+1,r,h=>by
    have:=cnt_set l i r h
    simp only [List.set_cons_succ,List.countP_cons]
    exact Nat.add_le_add_right (by assumption) _
structure Raw (c:List Row) (M:Nat):Prop where
  m4:4≤M
  mu:M≤28
  len:c.length=M+4
  r0:c[0]?=some (.str 15 14 (-4))
  r1:c[1]?=some (.str 11 14 (-8))
  r2:c[2]?=some (.mov 11 14)
  r3:∃ k,c[3]?=some (.subi 14 14 k)∧0≤k∧k≤100
  bd:∀ i r,4≤i→i<M→c[i]?=some r→BRow r
  e0:c[M]?=some (.mov 14 11)
  e1:c[M+1]?=some (.ldr 15 14 (-4))
  e2:c[M+2]?=some (.ldr 11 14 (-8))
  e3:c[M+3]?=some .br
  cnt:c.countP tells≤9
theorem roomF_in (l:List Nat):0≤roomF l∧roomF l≤100:=by
  have:=hd_lt l (m:=4) (by decide)
  unfold roomF; lia
theorem raw_of {k:Int} {b:List Row} (hk:0≤k∧k≤100) (hb:∀ r∈b,BRow r) (hlen:b.length≤24) (hc:b.countP tells≤8):Raw (proR k++b++epiR) (4+b.length):=by
  have hl:(proR k++b).length=4+b.length:=List.length_append
  have hE:∀ i,(proR k++b++epiR)[4+b.length+i]?=epiR[i]?:=fun i=>by
    rw [List.getElem?_append_right (hl▸Nat.le_add_right _ i),hl,Nat.add_sub_cancel_left]
  refine ⟨Nat.le_add_right 4 _,Nat.add_le_add_left hlen 4,List.length_append.trans (congrArg (· + 4) hl),rfl,rfl,rfl,⟨k,rfl,hk⟩,fun i r h1 h2 hr=>?_,hE 0,hE 1,hE 2,hE 3,?_⟩
  · rw [List.getElem?_append_left (hl.symm▸h2),List.getElem?_append_right h1] at hr
    exact hb r (List.mem_of_getElem? hr)
  · simp only [List.countP_append,List.countP_append]
    exact Nat.add_le_add_right ((Nat.zero_add _).symm▸hc:0+b.countP tells≤8) 1
theorem raw_is (l:List Nat):∃ M,Raw (rawF l) M:=by
  have hlen:(bodyF l.tail).1.length≤24:=by
    have h1:=bodyIt_len l.tail.tail (hd l.tail 9)
    have h2:=hd_lt l.tail (m:=9) (by decide)
    unfold bodyF
    lia
  exact ⟨_,raw_of (roomF_in l) (body_rows l.tail) hlen (body_cnt l.tail)⟩
noncomputable def okB (r:Row):Prop:=r.ok∧∀ o:Int,-10≤o→o≤10→∀ r',edit3 r o=some r'→r'.ok
theorem no3 {r:Row} (h:∀ o,edit3 r o=none) (ok:r.ok):okB r:=⟨ok,fun o _ _ r' e=>Option.noConfusion rfl (heq_of_eq ((h o).symm.trans e))⟩
theorem str3 {x y:Nat} {k:Int} (h:x<16∧y<16):okB (.str x y k)∧okB (.ldr x y k):=⟨⟨h,fun _ _ _ _ e=>Option.some.inj e▸h⟩,h,fun _ _ _ _ e=>Option.some.inj e▸h⟩
theorem sub3 {k:Int} (h:0≤k∧k≤100):okB (.subi 14 14 k):=⟨⟨by decide,by decide,by lia,by lia⟩,fun _ _ _ _ e=>Option.some.inj e▸⟨by decide,by decide,by omega,by omega⟩⟩
theorem BRow.okB:∀ {r:Row},BRow r→okB r
  | .bl,_=>no3 (fun _=>rfl) trivial
  | .b _ _,_=>no3 (fun _=>rfl) trivial
  | .str _ _ _,h=>(str3 ⟨Nat.lt_of_lt_of_le h.1 (by decide),h.2▸(by decide:11<16)⟩).1
  | .ldr _ _ _,h=>(str3 ⟨Nat.lt_of_lt_of_le h.1 (by decide),h.2▸(by decide:11<16)⟩).2
  | .subi a c k,h=>by obtain ⟨rfl,rfl,h⟩:=h; exact sub3 h
  | .addi a c k,h=>by
    obtain ⟨rfl,rfl,h1,h2⟩:=h
    exact no3 (fun _=>rfl) ⟨by decide,by decide,by lia,by lia⟩
  | .movi _ _,h=>no3 (fun _=>rfl) (Nat.lt_of_lt_of_le (m:=4) h (by decide):_<16)
section
variable {c:List Row} {M:Nat}
inductive RC (M:Nat):Nat→Row→Prop
  | r0:RC M 0 (.str 15 14 (-4))
  | r1:RC M 1 (.str 11 14 (-8))
  | r2:RC M 2 (.mov 11 14)
  | r3 {k:Int}:0≤k→k≤100→RC M 3 (.subi 14 14 k)
  | bd {i:Nat} {r:Row}:i+4<M→BRow r→RC M (i+4) r
  | e0:RC M M (.mov 14 11)
  | e1:RC M (M+1) (.ldr 15 14 (-4))
  | e2:RC M (M+2) (.ldr 11 14 (-8))
  | e3:RC M (M+3) .br
theorem Raw.cases (h:Raw c M):∀ {i:Nat} {r:Row},c[i]?=some r→RC M i r
  | 0,_,hr=>Option.some.inj (h.r0.symm.trans hr)▸.r0
  | 1,_,hr=>Option.some.inj (h.r1.symm.trans hr)▸.r1
  | 2,_,hr=>Option.some.inj (h.r2.symm.trans hr)▸.r2
  | 3,_,hr=>by
    refine kEAA h.r3 fun k e k1 k2=>?_
    exact Option.some.inj (e.symm.trans hr)▸.r3 k1 k2
  | i+4,r,hr=>by
    by_cases hM:i+4<M
    · exact .bd hM (h.bd _ r (Nat.le_add_left 4 i) hM hr)
    have hlt:=(List.getElem?_eq_some_iff.mp hr).1
    simp only [h.len] at hlt
    refine kE (Nat.exists_eq_add_of_le (Nat.le_of_not_lt hM)) fun k e=>?_
    rw [e] at hr hlt ⊢
    match k,Nat.lt_of_add_lt_add_left hlt with
    | 0,_=>exact Option.some.inj (h.e0.symm.trans hr)▸.e0
    | 1,_=>exact Option.some.inj (h.e1.symm.trans hr)▸.e1
    | 2,_=>exact Option.some.inj (h.e2.symm.trans hr)▸.e2
    | 3,_=>exact Option.some.inj (h.e3.symm.trans hr)▸.e3
    | _+4,q=>exact absurd q (Nat.not_lt_of_le (Nat.le_add_left 4 _))
theorem Raw.okB (h:Raw c M) {i:Nat} {r:Row} (hr:c[i]?=some r):okB r:=by
  cases h.cases hr with
  | r0=>exact (str3 (by decide)).1
  | r1=>exact (str3 (by decide)).1
  | r2=>exact no3 (fun _=>rfl) ⟨by decide,by decide⟩
  | r3 k1 k2=>exact sub3 ⟨k1,k2⟩
  | bd _ hb=>exact hb.okB
  | e0=>exact no3 (fun _=>rfl) ⟨by decide,by decide⟩
  | e1=>exact (str3 (by decide)).2
  | e2=>exact (str3 (by decide)).2
  | e3=>exact no3 (fun _=>rfl) trivial
theorem Raw.br (h:Raw c M) {i:Nat} (hr:c[i]?=some .br):i=M+3:=by
  cases h.cases hr with
  | bd _ h=>exact h.elim
  | e3=>rfl
theorem Raw.jmp (h:Raw c M) {i d:Nat} {e:Int} (hr:c[i]?=some (.b d e)):d=0∧e=1∧4≤i∧i<M:=by
  cases h.cases hr with
  | bd q h=>exact ⟨h.1,h.2,Nat.le_add_left 4 _,q⟩
theorem Raw.st (h:Raw c M) {i x y:Nat} {k:Int} (hr:c[i]?=some (.str x y k)):i<M∧(3≤i→y=11):=by
  have:=h.m4
  cases h.cases hr with
  | r0=>exact ⟨Nat.lt_of_lt_of_le (by decide) this,fun q=>absurd q (by decide)⟩
  | r1=>exact ⟨Nat.lt_of_lt_of_le (by decide) this,fun q=>absurd q (by decide)⟩
  | bd q h=>exact ⟨q,fun _=>h.2⟩
theorem BRow.wr:∀ {r:Row},BRow r→Mine.wr r≠11
  | .bl,_=>by decide
  | .b _ _,_=>(by decide:16≠11)
  | .str _ _ _,_=>(by decide:16≠11)
  | .ldr x _ _,h=>fun e=>Nat.lt_irrefl 11 (Nat.lt_of_lt_of_le (Nat.lt_of_le_of_lt (Nat.le_of_eq e.symm) h.1) (by decide))
  | .movi x _,h=>fun e=>Nat.lt_irrefl 11 (Nat.lt_of_lt_of_le (Nat.lt_of_le_of_lt (Nat.le_of_eq e.symm) h) (by decide))
  | .subi _ _ _,h=>fun e=>absurd (e.symm.trans h.1) (by decide)
  | .addi _ _ _,h=>fun e=>absurd (e.symm.trans h.1) (by decide)
theorem Raw.wr (h:Raw c M) {i:Nat} {r:Row} (hr:c[i]?=some r) (h3:3≤i) (h4:i<M+2):wr r≠11:=by
  cases h.cases hr with
  | r3=>exact (by decide:14≠11)
  | bd _ h=>exact h.wr
  | e0=>exact (by decide:14≠11)
  | e1=>exact (by decide:15≠11)
  | r0=>exact absurd h3 (by decide)
  | r1=>exact absurd h3 (by decide)
  | r2=>exact absurd h3 (by decide)
  | e2=>exact absurd h4 (Nat.lt_irrefl _)
  | e3=>exact absurd h4 (Nat.not_lt_of_le (Nat.le_succ _))
end
structure Spl (c:List Row):Prop where
  n7:7≤c.length
  nu:c.length≤33
  ok:∀ (i:Nat) (r:Row),c[i]?=some r→r.ok
  last:c[c.length - 1]?=some .br
  nobr:∀ (i:Nat),c[i]?=some .br→i=c.length - 1
  jmp:∀ (i d:Nat) (e:Int),c[i]?=some (.b d e)→d=0∧e=1
  fst:∀ (d:Nat) (e:Int),c[0]?≠some (.b d e)
  str:∀ (q:Nat),c.length - 4≤q→q+2<c.length→∀ (x y:Nat) (k:Int),c[q]?=some (.str x y k)→y=11∧(∃ (x y:Nat) (k:Int),c[0]?=some (.str x y k))∧(∃ (x y:Nat) (k:Int),c[1]?=some (.str x y k))∧c[2]?=some (.mov 11 14) ∧
    ∀ (p:Nat) (r:Row),3≤p→p<q→c[p]?=some r→wr r≠11
  cnt:c.countP tells≤9
theorem closed_self {c:List Row} (h:c[c.length - 1]?=some .br):closed c=c:=by
  unfold closed
  rw [List.getLast?_eq_getElem?,if_pos h]
section
variable {c:List Row} {M:Nat}
theorem Raw.n7 (h:Raw c M):7≤M+4:=Nat.add_le_add_right (n:=3) (Nat.le_trans (by decide) h.m4) 4
theorem Raw.nu (h:Raw c M):M+5≤33:=Nat.add_le_add_right h.mu 5
theorem Raw.spl (h:Raw c M):Spl c:=by
  have hl:=h.len
  refine ⟨hl▸h.n7,hl▸Nat.le_of_succ_le h.nu,fun i r hr=>(h.okB hr).1,?_,fun i hr=>?_,fun i d e hr=>⟨(h.jmp hr).1,(h.jmp hr).2.1⟩,fun d e hr=>absurd (h.jmp hr).2.2.1 (by decide),fun q h1 h2 x y k hr=>?_,h.cnt⟩
  · rw [hl]; exact h.e3
  · rw [hl]; exact h.br hr
  · rw [hl] at h1; exact absurd (h.st hr).1 (Nat.not_lt_of_le h1)
noncomputable def Ed (r0 r:Row):Prop:=r≠.br∧(∀ d e,r≠.b d e)∧(∀ x y k,r = .str x y k→∃ x y k,r0 = .str x y k)∧r0≠.br∧tells r=false
theorem Raw.set (h:Raw c M) {sp:Nat} {r0 r':Row} (h0:c[sp]?=some r0) (hok:r'.ok) (hed:Ed r0 r'):Spl (closed (c.set sp r')):=by
  have hsl:=(List.getElem?_eq_some_iff.mp h0).1
  have hsp:sp≠M+3:=fun e=>by rw [e,h.e3] at h0; exact hed.2.2.2.1 (Option.some.inj h0).symm
  have hg:∀ {i:Nat} {r:Row},(c.set sp r')[i]?=some r→(i=sp∧r'=r)∨c[i]?=some r:=fun {i r} hr=>by
    rw [List.getElem?_set] at hr
    by_cases e:sp=i
    · rw [if_pos e,if_pos hsl] at hr
      exact .inl ⟨e.symm,Option.some.inj hr⟩
    · rw [if_neg e] at hr
      exact .inr hr
  have hlast:(c.set sp r')[M+3]?=some .br:=by rw [List.getElem?_set,if_neg hsp]; exact h.e3
  have hlen:(c.set sp r').length=M+4:=List.length_set.trans h.len
  simp only [closed_self (by rw [hlen]; exact hlast)]
  refine ⟨hlen▸h.n7,hlen▸Nat.le_of_succ_le h.nu,fun i r hr=>?_,by rw [hlen]; exact hlast,fun i hr=>?_,fun i d e hr=>?_,fun d e hr=>?_,fun q h1 h2 x y k hr=>?_,Nat.le_trans (cnt_set c sp r' hed.2.2.2.2) h.cnt⟩
  · refine Or.elim (hg hr) (fun z3=>?_) (fun hr=>?_)
    · obtain ⟨_,rfl⟩:=z3
      exact hok
    · exact (h.okB hr).1
  · rw [hlen]
    refine Or.elim (hg hr) (fun z5=>?_) (fun hr=>?_)
    · refine kA z5 fun _ e=>?_
      exact absurd e hed.1
    · exact h.br hr
  · refine Or.elim (hg hr) (fun z6=>?_) (fun hr=>?_)
    · refine kA z6 fun _ e'=>?_
      exact absurd e' (hed.2.1 d e)
    · exact ⟨(h.jmp hr).1,(h.jmp hr).2.1⟩
  · refine Or.elim (hg hr) (fun z7=>?_) (fun hr=>?_)
    · refine kA z7 fun _ e'=>?_
      exact hed.2.1 d e e'
    · exact absurd (h.jmp hr).2.2.1 (by decide)
  · rw [hlen] at h1
    rcases hg hr with ⟨e,e'⟩ | hr
    · refine kEEE (hed.2.2.1 x y k e') fun x y k z10=>?_
      subst z10
      exact absurd (h.st h0).1 (Nat.not_lt_of_le (e▸h1))
    · exact absurd (h.st hr).1 (Nat.not_lt_of_le h1)
theorem er_lt {c:List Row} {sp j:Nat} (h:j<sp):(c.eraseIdx sp)[j]?=c[j]?:=List.getElem?_eraseIdx.trans (if_pos h)
theorem er_ge {c:List Row} {sp j:Nat} (h:sp≤j):(c.eraseIdx sp)[j]?=c[j+1]?:=List.getElem?_eraseIdx.trans (if_neg (Nat.not_lt_of_le h))
theorem er_cases {c:List Row} {r:Row} {sp j:Nat} (h:(c.eraseIdx sp)[j]?=some r):(j<sp∧c[j]?=some r)∨(sp≤j∧c[j+1]?=some r):=by
  by_cases q:j<sp
  · exact .inl ⟨q,(er_lt q).symm.trans h⟩
  · exact .inr ⟨Nat.le_of_not_lt q,(er_ge (Nat.le_of_not_lt q)).symm.trans h⟩
theorem Raw.erase (h:Raw c M) {sp:Nat} (hs:sp<M+4):Spl (closed (c.eraseIdx sp)):=by
  have hl:=h.len
  have h4:=h.m4
  have hu:=h.mu
  have hlen:(c.eraseIdx sp).length=M+3:=by rw [List.length_eraseIdx,if_pos (hl.symm▸hs),hl]; rfl
  by_cases e:sp=M+3
  · have hc:closed (c.eraseIdx sp)=c:=by
      have hge:(c.eraseIdx sp).getLast?≠some .br:=by
        rw [List.getLast?_eq_getElem?,hlen,er_lt (by rw [e]; exact Nat.lt_succ_self _)]
        intro q
        exact Row.noConfusion (Option.some.inj (h.e2.symm.trans q))
      have hla:c.getLast?=some .br:=by rw [List.getLast?_eq_getElem?,hl]; exact h.e3
      unfold closed
      rw [if_neg hge,List.eraseIdx_eq_dropLast (by rw [hl,e])]
      have hne:c≠[]:=fun e=>by rw [e] at hla; cases hla
      rw [List.getLast?_eq_some_getLast hne] at hla
      exact (congrArg (fun r=>c.dropLast++[r]) (Option.some.inj hla)).symm.trans (List.dropLast_concat_getLast hne)
    rw [hc]; exact h.spl
  · have hsp:sp≤M+2:=Nat.le_of_lt_succ (Nat.lt_of_le_of_ne (Nat.le_of_lt_succ hs) e)
    have hlast:(c.eraseIdx sp)[(c.eraseIdx sp).length - 1]?=some .br:=by rw [hlen]; exact (er_ge hsp).trans h.e3
    rw [closed_self hlast]
    refine ⟨by omega,by omega,fun i r hr=>?_,hlast,fun i hr=>?_,fun i d e hr=>?_,fun d e hr=>?_,fun q h1 h2 x y k hr=>?_,Nat.le_trans ((List.eraseIdx_sublist c sp).countP_le) h.cnt⟩
    · rcases er_cases hr with ⟨_,hr⟩ | ⟨_,hr⟩<;>exact (h.okB hr).1
    · rw [hlen]
      refine Or.elim (er_cases hr) (fun z11=>?_) (fun z12=>?_)
      · obtain ⟨a,hr⟩:=z11
        rw [h.br hr] at a
        exact absurd a (Nat.not_lt_of_le (Nat.le_succ_of_le hsp))
      · obtain ⟨_,hr⟩:=z12
        exact Nat.succ.inj (h.br hr)
    · rcases er_cases hr with ⟨_,hr⟩ | ⟨_,hr⟩<;>exact ⟨(h.jmp hr).1,(h.jmp hr).2.1⟩
    · rcases er_cases hr with ⟨_,hr⟩ | ⟨_,hr⟩<;>exact absurd (h.jmp hr).2.2.1 (by decide)
    · rw [hlen] at h1 h2
      have h1:M≤q+1:=Nat.sub_le_iff_le_add.mp h1
      rcases er_cases hr with ⟨a,hr⟩ | ⟨_,hr⟩
      · have f:∀ i,i<3→(c.eraseIdx sp)[i]?=c[i]?:=fun i hi=>er_lt (Nat.lt_of_lt_of_le hi (Nat.le_trans (Nat.le_of_succ_le_succ (Nat.le_trans h4 h1)) (Nat.le_of_lt a)))
        refine ⟨(h.st hr).2 (Nat.le_of_succ_le_succ (Nat.le_trans h4 h1)),⟨_,_,_,(f 0 (by decide)).trans h.r0⟩,⟨_,_,_,(f 1 (by decide)).trans h.r1⟩,(f 2 (by decide)).trans h.r2,fun p r p1 p2 hr'=>?_⟩
        rw [er_lt (Nat.lt_trans p2 a)] at hr'
        exact h.wr hr' p1 (Nat.lt_of_lt_of_le (Nat.lt_trans p2 a) hsp)
      · exact absurd (h.st hr).1 (Nat.not_lt_of_le h1)
theorem ins_lt {c:List Row} {X:Row} {sp j:Nat} (hs:sp≤c.length) (h:j<sp):(c.take sp++X :: c.drop sp)[j]?=c[j]?:=by
  rw [List.getElem?_append_left (by rw [List.length_take,Nat.min_eq_left hs]; exact h),List.getElem?_take,if_pos h]
theorem ins_add {c:List Row} {X:Row} {sp k:Nat} (hs:sp≤c.length):(c.take sp++X :: c.drop sp)[sp+k]?=(X :: c.drop sp)[k]?:=by
  have hl:(c.take sp).length=sp:=by simp only [List.length_take,Nat.min_eq_left hs]
  rw [List.getElem?_append_right (by rw [hl]; exact Nat.le_add_right _ _),hl,Nat.add_sub_cancel_left]
theorem ins_ge {c:List Row} {X:Row} {sp i:Nat} (hs:sp≤c.length) (h:sp≤i):(c.take sp++X :: c.drop sp)[i+1]?=c[i]?:=by
  refine kE (Nat.exists_eq_add_of_le h) fun k z16=>?_
  subst z16
  simp only [Nat.add_assoc,ins_add hs,List.getElem?_cons_succ,List.getElem?_drop]
theorem ins_cases {c:List Row} {X r:Row} {sp j:Nat} (hs:sp≤c.length) (h:(c.take sp++X :: c.drop sp)[j]?=some r):(j<sp∧c[j]?=some r)∨(j=sp∧r=X)∨∃ i,j=i+1∧sp≤i∧c[i]?=some r:=by
  by_cases h1:j<sp
  · exact .inl ⟨h1,(ins_lt hs h1).symm.trans h⟩
  · refine kE (Nat.exists_eq_add_of_le (Nat.le_of_not_lt h1)) fun k z18=>?_
    subst z18
    rw [ins_add hs] at h
    cases k with
    | zero=>cases h; exact .inr (.inl ⟨rfl,rfl⟩)
    | succ k=>
      simp only [List.getElem?_cons_succ,List.getElem?_drop] at h
      exact .inr (.inr ⟨sp+k,rfl,Nat.le_add_right _ _,h⟩)
theorem insR_facts (j:Nat):(insR j).ok∧insR j≠.br∧(∀ d e,insR j≠.b d e)∧tells (insR j)=false∧∀ x y k,insR j = .str x y k→y=11:=by
  match j with
  | 0=>exact ⟨⟨by decide,by decide,by decide,by decide⟩,Row.noConfusion,fun _ _=>Row.noConfusion,rfl,fun _ _ _ e=>by cases e⟩
  | 1=>exact ⟨⟨by decide,by decide⟩,Row.noConfusion,fun _ _=>Row.noConfusion,rfl,fun _ _ _ e=>by cases e⟩
  | 2=>exact ⟨(by decide:15<16),Row.noConfusion,fun _ _=>Row.noConfusion,rfl,fun _ _ _ e=>by cases e⟩
  | _+3=>exact ⟨⟨by decide,by decide⟩,Row.noConfusion,fun _ _=>Row.noConfusion,rfl,fun _ _ _ e=>by cases e; rfl⟩
theorem Raw.ins (h:Raw c M) {sp:Nat} (hs:sp<M+4) (j:Nat):Spl (closed (c.take sp++insR j :: c.drop sp)):=by
  have hsl:sp≤c.length:=Nat.le_of_lt (h.len.symm▸hs)
  have hX:=insR_facts j
  have hlen:(c.take sp++insR j :: c.drop sp).length=M+5:=by
    rw [List.length_append,List.length_cons,List.length_take,List.length_drop,Nat.min_eq_left hsl,h.len,← Nat.add_assoc,Nat.add_sub_of_le (Nat.le_of_lt hs)]
  have hlast:(c.take sp++insR j :: c.drop sp)[M+4]?=some .br:=(ins_ge hsl (Nat.le_of_lt_succ hs)).trans h.e3
  have hcnt:(c.take sp++insR j :: c.drop sp).countP tells≤9:=by
    rw [List.countP_append,List.countP_cons,hX.2.2.2.1]
    have:=h.cnt
    rw [← List.take_append_drop sp c,List.countP_append] at this
    exact this
  have hlast':=hlast
  rw [← show (c.take sp++insR j :: c.drop sp).length - 1=M+4 by rw [hlen]; rfl] at hlast'
  rw [closed_self hlast']
  have h4:=h.m4
  refine ⟨hlen▸Nat.le_succ_of_le h.n7,hlen▸h.nu,fun i r hr=>?_,hlast',fun i hr=>?_,fun i d e hr=>?_,fun d e hr=>?_,fun q h1 h2 x y k hr=>?_,hcnt⟩
  · rcases ins_cases hsl hr with ⟨_,hr⟩ | ⟨_,rfl⟩ | ⟨_,_,_,hr⟩
    · exact (h.okB hr).1
    · exact hX.1
    · exact (h.okB hr).1
  · rw [hlen]
    rcases ins_cases hsl hr with ⟨a,hr⟩ | ⟨_,e⟩ | ⟨i',rfl,_,hr⟩
    · exact absurd (h.br hr▸a) (Nat.not_lt_of_le (Nat.le_of_lt_succ hs))
    · exact absurd e.symm hX.2.1
    · rw [h.br hr]; rfl
  · rcases ins_cases hsl hr with ⟨_,hr⟩ | ⟨_,e'⟩ | ⟨_,_,_,hr⟩
    · exact ⟨(h.jmp hr).1,(h.jmp hr).2.1⟩
    · exact absurd e'.symm (hX.2.2.1 d e)
    · exact ⟨(h.jmp hr).1,(h.jmp hr).2.1⟩
  · rcases ins_cases hsl hr with ⟨_,hr⟩ | ⟨_,e'⟩ | ⟨_,e',_,_⟩
    · exact absurd (h.jmp hr).2.2.1 (by decide)
    · exact absurd e'.symm (hX.2.2.1 d e)
    · cases e'
  · rw [hlen] at h1 h2
    rcases ins_cases hsl hr with ⟨_,hr⟩ | ⟨rfl,e⟩ | ⟨i',rfl,_,hr⟩
    · exact absurd (h.st hr).1 (Nat.not_lt_of_le (Nat.le_of_succ_le h1))
    · have f:∀ i,i<4→(c.take q++insR j :: c.drop q)[i]?=c[i]?:=fun i hi=>ins_lt hsl (Nat.lt_of_lt_of_le hi (Nat.le_trans h4 (Nat.le_of_succ_le h1)))
      refine ⟨hX.2.2.2.2 x y k e.symm,⟨_,_,_,(f 0 (by decide)).trans h.r0⟩,⟨_,_,_,(f 1 (by decide)).trans h.r1⟩,(f 2 (by decide)).trans h.r2,fun p r p1 p2 hr'=>?_⟩
      rw [ins_lt hsl p2] at hr'
      exact h.wr hr' p1 (Nat.lt_of_lt_of_le p2 (Nat.le_of_lt_succ (Nat.lt_of_succ_lt_succ (Nat.lt_of_succ_lt_succ h2))))
    · exact absurd (h.st hr).1 (Nat.not_lt_of_le (Nat.le_of_succ_le_succ h1))
theorem ed3 {r0 r:Row} {o:Int} (h:edit3 r0 o=some r):Ed r0 r:=by
  cases r0<;>first
    | exact Option.noConfusion rfl (heq_of_eq (show (none:Option Row)=some r from h))
    | (obtain rfl:=Option.some.inj h; exact ⟨Row.noConfusion,fun _ _=>Row.noConfusion,fun _ _ _=>Row.noConfusion,Row.noConfusion,rfl⟩)
    | (obtain rfl:=Option.some.inj h; exact ⟨Row.noConfusion,fun _ _=>Row.noConfusion,fun _ _ _ _=>⟨_,_,_,rfl⟩,Row.noConfusion,rfl⟩)
theorem ed4 {r0 r:Row} {n:Nat} (h:edit4 r0 n=some r):Ed r0 r∧(n<16→r0.ok→r.ok):=by
  cases r0<;>first
    | exact Option.noConfusion rfl (heq_of_eq (show (none:Option Row)=some r from h))
    | (obtain rfl:=Option.some.inj h; exact ⟨⟨Row.noConfusion,fun _ _=>Row.noConfusion,fun _ _ _=>Row.noConfusion,Row.noConfusion,rfl⟩,fun a b=>⟨a,b.2⟩⟩)
    | (obtain rfl:=Option.some.inj h; exact ⟨⟨Row.noConfusion,fun _ _=>Row.noConfusion,fun _ _ _ _=>⟨_,_,_,rfl⟩,Row.noConfusion,rfl⟩,fun a b=>⟨a,b.2⟩⟩)
theorem offR_in:∀ n,-10≤offR n∧offR n≤10
  | 0=>by decide
  | 1=>by decide
  | _+2=>(by decide : -10≤(-4:Int)∧(-4:Int)≤10)
theorem regR_lt:∀ n,regR n<16
  | 0=>by decide
  | 1=>by decide
  | 2=>by decide
  | _+3=>(by decide:3<16)
theorem Raw.spoil (h:Raw c M) (l:List Nat):Spl (closed (spoilF l c).1):=by
  have hsp:=hd_lt l.tail (m:=c.length) (h.len.symm▸Nat.succ_pos _)
  have hs:hd l.tail c.length<M+4:=Nat.lt_of_lt_of_eq hsp h.len
  have hself:Spl (closed c):=by rw [closed_self (by rw [h.len]; exact h.e3)]; exact h.spl
  unfold spoilF
  by_cases q:hd l 9=1
  · rw [if_pos q]; exact h.erase hs
  rw [if_neg q]
  by_cases q:hd l 9=2
  · rw [if_pos q]; exact h.ins hs _
  rw [if_neg q]
  by_cases q:hd l 9=3
  · rw [if_pos q]
    cases e:(c[hd l.tail c.length]?.bind fun r=>edit3 r (offR (hd l.tail.tail 3))) with
    | none=>exact hself
    | some r'=>
      refine kEA (Option.bind_eq_some_iff.mp e) fun r0 e1 e2=>?_
      have ho:=offR_in (hd l.tail.tail 3)
      exact h.set e1 ((h.okB e1).2 _ ho.1 ho.2 r' e2) (ed3 e2)
  rw [if_neg q]
  by_cases q:hd l 9=4
  · rw [if_pos q]
    cases e:(c[hd l.tail c.length]?.bind fun r=>edit4 r (regR (hd l.tail.tail 4))) with
    | none=>exact hself
    | some r'=>
      refine kEA (Option.bind_eq_some_iff.mp e) fun r0 e1 e2=>?_
      exact h.set e1 ((ed4 e2).2 (regR_lt _) (h.okB e1).1) (ed4 e2).1
  rw [if_neg q]; exact hself
end
theorem aimed_at (c:List Row) (i:Nat):(aimed c)[i]?=(c[i]?).map (aimR c i):=by
  unfold aimed; rw [List.getElem?_mapIdx]
theorem aimed_len (c:List Row):(aimed c).length=c.length:=by simp [aimed]
theorem aim_no {c:List Row} {i:Nat} {r:Row} (h:r≠.b 0 1):aimR c i r=r:=if_neg h
theorem aim_b {c:List Row} {i:Nat}:aimR c i (.b 0 1) = .b ((if i<endOf c then endOf c else c.length - 1) - i - 1) 0:=if_pos rfl
theorem Spl.proc {c:List Row} (h:Spl c) {R:List Row} {a:Nat} (hR:∀ i,i<c.length→R[a+i]?=(aimed c)[i]?) (hle:a+c.length≤R.length):Proc R a c.length:=by
  have S:∀ {i:Nat} {r:Row},c[i]?=some r→R[a+i]?=some (aimR c i r):=fun {i r} e=>by
    simp only [hR i (List.getElem?_eq_some_iff.mp e).1,aimed_at,e]; rfl
  have K:∀ {i:Nat} {r:Row},i<c.length→R[a+i]?=some r→∃ r0,c[i]?=some r0∧aimR c i r0=r:=fun {i r} hi e=>by
    rw [hR i hi,aimed_at] at e
    exact Option.map_eq_some_iff.mp e
  have T:∀ {i:Nat} {r:Row},c[i]?=some r→r≠.b 0 1→R[a+i]?=some r:=fun e n=>(S e).trans (congrArg some (aim_no n))
  refine kE (Nat.exists_eq_add_of_le' (Nat.le_trans (by decide:4≤7) h.n7)) fun m hm=>?_
  have n7:=h.n7
  have hl:=h.last
  have hs:=h.str
  have hb:=fun i=>h.nobr i
  rw [hm] at hle K n7 hl hs hb ⊢
  have h3:3≤m:=Nat.le_of_add_le_add_right (b:=4) (n7:3+4≤m+4)
  have hend:endOf c=m:=by unfold endOf; rw [hm,if_pos (Nat.lt_add_of_pos_left (Nat.lt_of_lt_of_le (by decide) h3))]; rfl
  refine ⟨n7,hle,fun p h1 h2=>?_,T hl Row.noConfusion,fun p r h1 h2 hr=>?_,fun q h1 h2 x y k hr=>?_⟩
  · refine kE (Nat.exists_eq_add_of_le h1) fun i z20=>?_
    subst z20
    have e:=List.getElem?_eq_getElem (hm.symm▸Nat.lt_of_add_lt_add_left h2)
    refine ⟨_,S e,?_⟩
    by_cases q:c[i]'(hm.symm▸Nat.lt_of_add_lt_add_left h2) = .b 0 1
    · simp only [q,aim_b]; trivial
    · rw [aim_no q]; exact h.ok _ _ e
  · refine kE (Nat.exists_eq_add_of_le h1) fun i z22=>?_
    subst z22
    have hi:i<m+3:=Nat.lt_of_succ_lt_succ (Nat.lt_of_add_lt_add_left (n:=a) h2)
    refine kEA (K (Nat.lt_succ_of_lt hi) hr) fun r0 e0 z24=>?_
    subst z24
    by_cases q:r0 = .b 0 1
    · rw [q,aim_b,hend,hm]
      refine ⟨Row.noConfusion,fun d e he=>?_⟩
      rw [← (Row.b.inj he).1]
      show _=if a+i<a+m then a+m else a+(m+3)
      by_cases q:i<m
      · simp only [if_pos q,if_pos (Nat.add_lt_add_left q a),Nat.sub_sub,Nat.add_assoc,Nat.add_assoc,← Nat.add_assoc i 1,Nat.add_sub_of_le q]
      · simp only [if_neg q,if_neg (fun z=>q (Nat.lt_of_add_lt_add_left z)),Nat.add_sub_cancel (n:=m+3) (m:=1),Nat.sub_sub,Nat.add_assoc,Nat.add_assoc,← Nat.add_assoc i 1,Nat.add_sub_of_le (Nat.succ_le_of_lt hi)]
    · rw [aim_no q]
      refine ⟨fun e=>?_,fun d e he=>?_⟩
      · exact absurd (hb i (e▸e0)) (Nat.ne_of_lt hi)
      · refine kA (h.jmp _ _ _ (he▸e0)) fun z27 z28=>?_
        subst z27
        subst z28
        exact absurd he q
  · refine kE (Nat.exists_eq_add_of_le (Nat.le_trans (Nat.le_add_right a m) h1)) fun i z30=>?_
    subst z30
    have h2:i+2<m+4:=Nat.lt_of_add_lt_add_left (n:=a) h2
    have h1:m≤i:=Nat.le_of_add_le_add_left h1
    have hi:i<m+4:=Nat.lt_of_le_of_lt (Nat.le_add_right i 2) h2
    refine kEA (K hi hr) fun r0 e0 e=>?_
    by_cases q:r0 = .b 0 1
    · simp only [q,aim_b] at e; cases e
    rw [aim_no q] at e
    rw [e] at e0
    refine kAAAA (hs i h1 h2 x y k e0) fun k1 z33 z34 k4 k5=>?_
    refine kEEE z33 fun _ _ _ k2=>?_
    refine kEEE z34 fun _ _ _ k3=>?_
    refine ⟨k1,⟨_,_,_,T k2 Row.noConfusion⟩,⟨_,_,_,T k3 Row.noConfusion⟩,T k4 Row.noConfusion,fun p r p1 p2 hr=>?_⟩
    refine kE (Nat.exists_eq_add_of_le (Nat.le_trans (Nat.le_add_right a 3) p1)) fun j z36=>?_
    subst z36
    have p2:=Nat.lt_of_add_lt_add_left p2
    refine kEA (K (Nat.lt_trans p2 hi) hr) fun r1 e1 z38=>?_
    subst z38
    by_cases q:r1 = .b 0 1
    · simp only [q,aim_b]; exact (by decide:16≠11)
    · rw [aim_no q]; exact k5 j r1 (Nat.le_of_add_le_add_left p1) p2 e1
theorem Spl.aim_cnt {c:List Row}:(aimed c).countP tells=c.countP tells:=by
  have:∀ (l:List Row) (f:Nat→Row→Row),(∀ i r,tells (f i r)=tells r)→(l.mapIdx f).countP tells=l.countP tells:=by
    intro l
    induction l with
    | nil=>intro f _; simp
    | cons a l ih=>
      intro f hf
      simp only [List.mapIdx_cons,List.countP_cons,List.countP_cons,hf,ih _ fun i r=>hf (i+1) r]
  refine this c _ fun i r=>?_
  by_cases q:r = .b 0 1
  · rw [q,aim_b]; rfl
  · exact congrArg _ (aim_no q)
theorem proc_spl (l:List Nat):∃ c,Spl c∧(procF l).1=aimed c:=by
  obtain ⟨M,h⟩:=raw_is l
  exact ⟨_,h.spoil (bodyF l.tail).2,rfl⟩
theorem ltP_irr {k:Bool} {x:PyData} (hx:isP k x=true):ltP x x=false:=by
  refine kEEA (isP_cases hx) fun a y z2 hy=>?_
  subst z2
  rw [ltP_at,if_pos rfl,if_pos ((eq2_iff hy hy).mpr rfl)]
theorem ltP_asy {k:Bool} {x y:PyData} (hx:isP k x=true) (hy:isP k y=true) (h1:ltP x y=true) (h2:ltP y x=true):False:=by
  have:=ltP_tr hx hy hx h1 h2
  rw [ltP_irr hx] at this; cases this
theorem isP_int {k:Bool} {x:PyData} (h:isP k x=true):isInt x=false:=by
  obtain ⟨a,y,rfl,_⟩:=isP_cases h; rfl
theorem srtG_uniq {k:Bool} {xs a b:List PyData} (hx:∀ x∈xs,isP k x=true) (h1:srtG xs a) (h2:srtG xs b):a=b:=by
  have nil:(∀ x∈xs,isInt x=true)→xs=[]:=fun h=>by
    cases xs with
    | nil=>rfl
    | cons x r=>
      have e1:=h x List.mem_cons_self
      rw [isP_int (hx x List.mem_cons_self)] at e1; cases e1
  rcases h1 with ⟨p1,_,q⟩ | ⟨p1,o1,_⟩
  · have:=nil q; subst this
    rcases h2 with ⟨p2,_,_⟩ | ⟨p2,_,_⟩<;>simp only [p1.eq_nil,p2.eq_nil]
  · rcases h2 with ⟨p2,_,q⟩ | ⟨p2,o2,_⟩
    · have:=nil q; subst this
      simp only [p1.eq_nil,p2.eq_nil]
    · refine List.Perm.eq_of_pairwise (fun x y hxa hyb e1 e2=>?_) o1 o2 (p1.trans p2.symm)
      exact (ltP_asy (hx x (p1.subset hxa)) (hx y (p2.subset hyb)) e1 e2).elim
theorem ins_ok {k:Bool} {x:PyData} (hx:isP k x=true):∀ {zs:List PyData},(∀ y∈zs,isP k y=true)→x∉zs→zs.Pairwise (fun a b=>ltP a b=true)→∃ ws:List PyData,ws.Perm (x :: zs)∧ws.Pairwise (fun a b=>ltP a b=true)
  | [],_,_,_=>⟨[x],List.Perm.refl _,by simp⟩
  | y :: r,hz,hn,hp=>by
    rw [List.pairwise_cons] at hp
    have hy:=hz y List.mem_cons_self
    cases h:ltP x y with
    | true=>
      refine ⟨x :: y :: r,List.Perm.refl _,?_⟩
      rw [List.pairwise_cons,List.pairwise_cons]
      refine ⟨fun z hzz=>?_,hp⟩
      refine Or.elim (List.mem_cons.mp hzz) (fun z8=>?_) (fun hzr=>?_)
      · subst z8
        exact h
      · exact ltP_tr hx hy (hz z (List.mem_cons_of_mem _ hzr)) h (hp.1 z hzr)
    | false=>
      have hne:x≠y:=fun e=>hn (e▸List.mem_cons_self)
      have h2:=ltP_tot hx hy hne h
      refine kEA (ins_ok hx (fun z hzr=>hz z (List.mem_cons_of_mem _ hzr)) (fun e=>hn (List.mem_cons_of_mem _ e)) hp.2) fun ws w1 w2=>?_
      refine ⟨y :: ws,(w1.cons y).trans (List.Perm.swap x y r),?_⟩
      rw [List.pairwise_cons]
      refine ⟨fun z hzw=>?_,w2⟩
      refine Or.elim (List.mem_cons.mp (w1.subset hzw)) (fun z9=>?_) (fun hzr=>?_)
      · subst z9
        exact h2
      · exact hp.1 z hzr
theorem srt_ex {k:Bool}:∀ {xs:List PyData},(∀ y∈xs,isP k y=true)→xs.Nodup→∃ ws:List PyData,ws.Perm xs∧ws.Pairwise (fun a b=>ltP a b=true)
  | [],_,_=>⟨[],List.Perm.refl _,List.Pairwise.nil⟩
  | x :: r,hz,hn=>by
    rw [List.nodup_cons] at hn
    refine kEA (srt_ex (fun z hzr=>hz z (List.mem_cons_of_mem _ hzr)) hn.2) fun ws w1 w2=>?_
    refine kEA (ins_ok (hz x List.mem_cons_self) (zs:=ws) (fun y hy=>hz y (List.mem_cons_of_mem _ (w1.subset hy))) (fun e=>hn.1 (w1.subset e)) w2) fun vs v1 v2=>?_
    exact ⟨vs,v1.trans (w1.cons x),v2⟩
theorem srtG_ex {k:Bool} {xs:List PyData} (hx:∀ y∈xs,isP k y=true) (hn:xs.Nodup):∃ zs,srtG xs zs:=by
  refine kEA (srt_ex hx hn) fun ws w1 w2=>?_
  exact ⟨ws,.inr ⟨w1,w2,k,hx⟩⟩
theorem srtG_perm {xs ys out:List PyData} (h:xs.Perm ys) (ho:srtG xs out):srtG ys out:=by
  refine Or.elim ho (fun z10=>?_) (fun z11=>?_)
  · refine kAA z10 fun h1 h2 h3=>?_
    exact .inl ⟨h1.trans h,h2,fun x hx=>h3 x (h.symm.subset hx)⟩
  · refine kAAE z11 fun h1 h2 k h3=>?_
    exact .inr ⟨h1.trans h,h2,k,fun x hx=>h3 x (h.symm.subset hx)⟩
theorem addK_mem {l:List (List Ky)} {k q:List Ky}:q∈addK l k↔q∈l∨q=k:=by
  unfold addK
  by_cases h:k∈l
  · rw [if_pos h]
    exact ⟨.inl,fun e=>by rcases e with e | rfl; exact e; exact h⟩
  · rw [if_neg h]; simp
theorem addKs_mem {q:List Ky}:∀ {ks l:List (List Ky)},q∈ks.foldl addK l↔q∈l∨q∈ks
  | [],l=>by simp
  | k :: ks,l=>by
    simp only [List.foldl_cons,addKs_mem,addK_mem,List.mem_cons]
    constructor
    · rintro ((h | h) | h)
      · exact .inl h
      · exact .inr (.inl h)
      · exact .inr (.inr h)
    · rintro (h | h | h)
      · exact .inl (.inl h)
      · exact .inl (.inr h)
      · exact .inr h
theorem addKs_nd:∀ {ks l:List (List Ky)},l.Nodup→(ks.foldl addK l).Nodup
  | [],l,h=>h
  | k :: ks,l,h=>by
    simp only [List.foldl_cons]
    refine addKs_nd ?_
    unfold addK
    split
    · exact h
    · rename_i hm
      rw [List.nodup_append]
      exact ⟨h,by simp,fun x hx y hy e=>hm (by simp at hy; subst hy; subst e; exact hx)⟩
theorem keys_perm {ks D:List (List Ky)} (hD:D.Nodup) (h:∀ k,k∈ks↔k∈D):(ks.foldl addK []).Perm D:=
  (List.perm_ext_iff_of_nodup (addKs_nd List.nodup_nil) hD).mpr fun k=>by rw [addKs_mem,h k]; simp
theorem kdat_inj {a b:List Ky} (h:PyData.tuple (a.map kD)=PyData.tuple (b.map kD)):a=b:=by
  have h:=PyData.tuple.inj h
  exact (List.map_inj_right (fun x y e=>kD_inj e)).mp h
theorem kdat_nd {D:List (List Ky)} (h:D.Nodup):(kdat D).Nodup:=by
  rw [List.Nodup,List.pairwise_map]
  exact h.imp fun h e=>h (kdat_inj e)
theorem nodup_flat {α β:Type} {f:α→List β}:∀ {l:List α},l.Nodup→(∀ x∈l,(f x).Nodup)→(∀ x y k,k∈f x→k∈f y→x=y)→(l.flatMap f).Nodup
  | [],_,_,_=>by simp
  | a :: l,h,h1,h2=>by
    rw [List.nodup_cons] at h
    rw [List.flatMap_cons,List.nodup_append]
    refine ⟨h1 a List.mem_cons_self,nodup_flat h.2 (fun x hx=>h1 x (List.mem_cons_of_mem _ hx)) h2,fun x hx y hy e=>?_⟩
    subst e
    refine kEA (List.mem_flatMap.mp hy) fun z hz hy=>?_
    have:=h2 a z x hx hy
    subst this
    exact h.1 hz
theorem rtags_nd (r:Nat→AV):(rtags r).Nodup:=by
  unfold rtags
  by_cases h1:r 14 = .frm 0<;>by_cases h2:r 11 = .ent 11<;>by_cases h3:r 15 = .ent 15<;>simp [h1,h2,h3,sEq]
theorem ctags_nd (r:Nat→AV):(ctags r).Nodup:=by
  unfold ctags
  by_cases h1:r 11 = .frm 0<;>by_cases h2:spOk (r 14)=true<;>simp [h1,h2,sEq]
theorem tagsAt_nd (R:List Row) (m:Mp) (p:Nat):(tagsAt R m p).Nodup:=by
  delta tagsAt rowTags
  split
  · split
    · exact rtags_nd _
    · exact ctags_nd _
    · simp
  · simp
theorem fkey_inj {p p':Nat} {t t':Str} (h:fkey p t=fkey p' t'):p=p'∧t=t':=by
  unfold fkey at h
  simp at h
  exact ⟨by lia,h.2⟩
theorem placeK_nd (R:List Row) (m:Mp) (p:Nat):(placeK R m p).Nodup:=by
  unfold placeK
  rw [List.Nodup,List.pairwise_map]
  exact (tagsAt_nd R m p).imp fun h e=>h (fkey_inj e).2
theorem placeK_at {R:List Row} {m:Mp} {p q:Nat} {k:List Ky} (h1:k∈placeK R m p) (h2:k∈placeK R m q):p=q:=by
  refine kEA (List.mem_map.mp h1) fun t _ z13=>?_
  subst z13
  refine kEA (List.mem_map.mp h2) fun t' _ e=>?_
  exact (fkey_inj e).1.symm
theorem placeM_at {o:Ob} {m:Mp} {p:Nat} {k:List Ky} (h:k∈placeM o m p):∃ x∈o.mf (p+1),k=mkey p x:=by
  unfold placeM at h
  split at h
  · refine kEA (List.mem_flatMap.mp h) fun x hx hk=>?_
    unfold offK at hk
    split at hk
    · simp at hk; exact ⟨x,hx,hk⟩
    · cases hk
  · cases h
theorem mkey_inj {p p':Nat} {t t':Int} (h:mkey p t=mkey p' t'):p=p'∧t=t':=by
  unfold mkey at h
  simp at h
  exact ⟨by lia,h.2⟩
theorem placeM_nd (o:Ob) (m:Mp) (p:Nat) (h:(o.mf (p+1)).Nodup):(placeM o m p).Nodup:=by
  unfold placeM
  split
  · refine nodup_flat h (fun x _=>by unfold offK; split<;>simp) fun x y k h1 h2=>?_
    unfold offK at h1 h2
    by_cases q1:bad ((m.f p).r 14) x=true
    · by_cases q2:bad ((m.f p).r 14) y=true
      · rw [if_pos q1] at h1
        rw [if_pos q2] at h2
        simp at h1 h2; exact (mkey_inj (h1.symm.trans h2)).2
      · rw [if_neg q2] at h2; cases h2
    · rw [if_neg q1] at h1; cases h1
  · simp
noncomputable def Sec (R:List Row) (a n:Nat) (m:Mp):List (List Ky):=(List.range' a n).flatMap (placeK R m)
noncomputable def SecM (o:Ob) (a n:Nat) (m:Mp):List (List Ky):=(List.range' a n).flatMap (placeM o m)
theorem cv_frm {x y:AV} (h:cv x=cv y) (k:Int):x = .frm k↔y = .frm k:=by cases x<;>cases y<;>simp_all [cv]
theorem cv_ent {x y:AV} (h:cv x=cv y) (k:Nat):x = .ent k↔y = .ent k:=by cases x<;>cases y<;>simp_all [cv]
theorem cv_sp {x y:AV} (h:cv x=cv y):spOk x=spOk y:=by cases x<;>cases y<;>simp_all [cv,spOk]
theorem cv_bad {x y:AV} (h:cv x=cv y) (o:Int):bad x o=bad y o:=by cases x<;>cases y<;>simp_all [cv,bad]
theorem rowTags_eq {s t:AS} (h:∀ j,(col s).r j=(col t).r j) (r:Row):rowTags r s.r=rowTags r t.r:=by
  have h':∀ j,j<16→cv (s.r j)=cv (t.r j):=fun j hj=>by
    have:=h j
    simp only [col_r hj,col_r hj] at this; exact this
  have e14:=h' 14 (by decide)
  have e11:=h' 11 (by decide)
  have e15:=h' 15 (by decide)
  unfold rowTags
  split
  · unfold rtags
    simp only [cv_frm e14 0,cv_ent e11 11,cv_ent e15 15]
  · unfold ctags
    simp only [cv_frm e11 0,cv_sp e14]
  · rfl
theorem placeK_eq {R:List Row} {m M:Mp} {p:Nat} (h:∀ j,(col (m.f p)).r j=(col (M.f p)).r j):placeK R m p=placeK R M p:=by
  delta placeK tagsAt
  split
  · rw [rowTags_eq h]
  · rfl
theorem placeM_eq {o:Ob} {m M:Mp} {p:Nat} (h:∀ j,(col (m.f p)).r j=(col (M.f p)).r j):placeM o m p=placeM o M p:=by
  have e:=h 14
  have:offK ((m.f p).r 14) p=offK ((M.f p).r 14) p:=by
    funext x
    unfold offK
    rw [cv_bad e]
  unfold placeM
  rw [this]
theorem sec_mem {R:List Row} {a n:Nat} {m M:Mp} {f g:Nat→List (List Ky)} (hk:∀ t,t∈m.ks↔a≤t∧t<a+n) (he:∀ t,a≤t→t<a+n→f t=g t) (k:List Ky):k∈m.ks.flatMap f↔k∈(List.range' a n).flatMap g:=by
  rw [List.mem_flatMap,List.mem_flatMap]
  constructor
  · rintro ⟨t,ht,hx⟩
    obtain ⟨h1,h2⟩:=(hk t).mp ht
    exact ⟨t,List.mem_range'_1.mpr ⟨h1,h2⟩,by rw [← he t h1 h2]; exact hx⟩
  · rintro ⟨t,ht,hx⟩
    obtain ⟨h1,h2⟩:=List.mem_range'_1.mp ht
    exact ⟨t,(hk t).mpr ⟨h1,h2⟩,by rw [he t h1 h2]; exact hx⟩
theorem Proc.take {R:List Row} {a n:Nat} (P:Proc R a n):Proc (R.take (a+n)) a n:=by
  have hg:∀ {p:Nat},p<a+n→(R.take (a+n))[p]?=R[p]?:=fun hp=>by rw [List.getElem?_take,if_pos hp]
  have h0:∀ {i:Nat},i<7→a+i<a+n:=fun h=>Nat.add_lt_add_left (Nat.lt_of_lt_of_le h P.n7) a
  refine ⟨P.n7,by simp only [List.length_take,Nat.min_eq_left P.le]; exact Nat.le_refl _,fun p h1 h2=>(hg h2).symm▸P.ok p h1 h2,(hg (Nat.sub_lt (Nat.lt_of_le_of_lt (Nat.zero_le _) (h0 (i:=0) (by decide))) (by decide))).trans P.last,fun p r h1 h2 hr=>P.way p r h1 h2 ((hg (Nat.lt_of_succ_lt h2)).symm.trans hr),fun q h1 h2 x y k hr=>?_⟩
  have hq:=Nat.lt_of_succ_lt (Nat.lt_of_succ_lt h2)
  have S:=P.str q h1 h2 x y k ((hg hq).symm.trans hr)
  rw [hg (p:=a) (h0 (i:=0) (by decide)),hg (h0 (i:=1) (by decide)),hg (h0 (i:=2) (by decide))]
  exact ⟨S.1,S.2.1,S.2.2.1,S.2.2.2.1,fun p r p1 p2 hr'=>S.2.2.2.2 p r p1 p2 ((hg (Nat.lt_trans p2 hq)).symm.trans hr')⟩
theorem Ref.full {R:List Row} {a n:Nat} {X:Nat→Cs} (P:Proc R a n) (F:Ref (R.take (a+n)) a n X):Ref R a n X:=by
  have hg:∀ p,p<a+n→(R.take (a+n))[p]?=R[p]?:=fun p hp=>by rw [List.getElem?_take,if_pos hp]
  exact ⟨P,F.x0,fun p t r h1 h2 hr ht=>F.le p t r h1 h2 (by rw [hg p h2]; exact hr) ht,fun t h1 h2 z hz=>F.gl t h1 h2 z fun p r w1 w2 w3 w4=>hz p r w1 w2 (by rw [hg p w2] at w3; exact w3) w4⟩
noncomputable def secM (R:List Row) (a n:Nat):Mp:=lawM (R.take (a+n)) a n
theorem sec_ok {R:List Row} {a n:Nat} (P:Proc R a n) (hl:R.length≤900) (hn:n≤100) {F:List Nat} (hF:∀ p r,R[p]?=some r→(p∈F↔r.isBl=true)) :
    ∃ N,WIn.ok ⟨R,a,F,N⟩∧(∀ p∈(itW R a N).m.ks,p<R.length)∧(∀ k,k∈startK R (itW R a N).m↔k∈Sec R a n (secM R a n))∧∀ (o:Ob) k,k∈startM o (itW R a N).m↔k∈SecM o a n (secM R a n):=by
  have Fr:=(law_ref P.take).full P
  refine kEAAAAA (work_ends Fr hl hn) fun N h1 h2 h3 h4 h5 h6=>?_
  have hle:=P.le
  refine ⟨N,⟨hl,h1,h2,h3,hF⟩,fun p hp=>by have:=(h4 p).mp hp; lia,fun k=>sec_mem (R:=R) (M:=secM R a n) h4 (fun t q1 q2=>placeK_eq (h6 t q1 q2)) k,fun o k=>sec_mem (R:=R) (M:=secM R a n) h4 (fun t q1 q2=>placeM_eq (h6 t q1 q2)) k⟩
theorem law_rg {R:List Row} {a n k:Nat} (P:Proc R a n) (hk:k<n) (g:GI a (lawB R a n) (WayL R a k) (lawIt R a k)) {t:Nat} (ht:t∈(lawIt R a k).ks):a≤t∧t<a+n:=by
  refine Or.elim (g.k' t ht) (fun z14=>?_) (fun z15=>?_)
  · subst z14
    exact ⟨Nat.le_refl _,Nat.lt_add_of_pos_right (Nat.lt_of_le_of_lt (Nat.zero_le _) hk)⟩
  · refine kEAAEA z15 fun i w1 w2 r w3 w4=>?_
    have:=P.ways w1 (Nat.lt_trans w2 (Nat.add_lt_add_left hk a)) w3 w4
    exact ⟨Nat.le_of_lt (Nat.lt_of_le_of_lt w1 this.2.1),this.2.2.1⟩
theorem law_lin' {R:List Row} {a n:Nat} (P':Proc R a n) (hl:R.length≤900) (hlen:R.length=a+n):LIn.ok ⟨R,a⟩:=by
  rw [hlen] at hl
  have main:∀ k,k<n→(∀ q∈(lawIt R a k).ks,((lawIt R a k).f q).ok)∧(lawIt R a k).ks.length≤900∧∀ r,R[a+k]?=some r→r.ok∧(a+k∈(lawIt R a k).ks→(fL ((lawIt R a k).f (a+k)) r).ok):=fun k hk=>by
    have g:=law_inv P' k (Nat.le_of_lt hk)
    have hkn:=Nat.add_lt_add_left hk a
    refine ⟨fun q hq=>⟨(g.2 q hq).1,?_⟩,Nat.le_trans (nodup_len g.1.nd (N:=a+n) fun t ht=>(law_rg P' hk g.1 ht).2) hl,fun r hr=>⟨P'.row (Nat.le_add_right a k) hkn hr,fun hm=>⟨(fL_sz r (g.2 _ hm).1).1,?_⟩⟩⟩
    · have h1:=(g.2 q hq).2
      have h2:=(law_rg P' hk g.1 hq).2
      lia
    · have h1:=(g.2 _ hm).2
      have h2:=(fL_sz r (g.2 _ hm).1).2
      lia
  exact ⟨hlen▸hl,hlen▸Nat.le_add_right a n,fun k hk=>main k (Nat.lt_of_add_lt_add_left (hlen▸hk))⟩
theorem law_lin {R:List Row} {a n:Nat} (P:Proc R a n) (hl:R.length≤900):LIn.ok ⟨R.take (a+n),a⟩:=by
  have hle:=P.le
  exact law_lin' P.take (by rw [List.length_take]; lia) (by rw [List.length_take]; lia)
theorem sec_keys {R:List Row} {a n:Nat} (P:Proc R a n):(secM R a n).ks.Perm (List.range' a n):=by
  refine kA (law_inv P.take n (Nat.le_refl _)) fun g1 _=>?_
  refine (List.perm_ext_iff_of_nodup g1.nd List.nodup_range').mpr fun t=>?_
  have:=law_keys P.take t
  rw [List.mem_range'_1]
  exact this
theorem flat_wt {R:List Row} {β:Type} {f:Nat→List β} (hf:∀ p r,R[p]?=some r→(f p).length≤if tells r=true then 3 else 0):∀ (S:List Row) (a:Nat),(∀ i,i<S.length→R[a+i]?=S[i]?)→((List.range' a S.length).flatMap f).length≤3 * S.countP tells
  | [],a,_=>by simp
  | r :: S,a,h=>by
    have h0:=hf a r (by have:=h 0 (by simp); exact this)
    have h1:=flat_wt hf S (a+1) fun i hi=>by
      have:=h (i+1) (by simpa using hi)
      simp only [show a+1+i=a+(i+1) by lia,this]; rfl
    simp only [List.length_cons,List.range'_succ,List.flatMap_cons,List.length_append,List.countP_cons]
    split at h0
    · rename_i q; rw [if_pos q]; lia
    · rename_i q; rw [if_neg q]; lia
theorem placeK_len {R:List Row} {m:Mp} {p:Nat} {r:Row} (hr:R[p]?=some r):(placeK R m p).length≤if tells r=true then 3 else 0:=by
  unfold placeK
  simp only [List.length_map]
  have h3:=tagsAt_len R m p
  cases r with
  | bl=>exact h3
  | br=>exact h3
  | _=>unfold tagsAt; simp only [hr]; simp [rowTags,tells]
theorem placeM_len {o:Ob} {m:Mp} {p:Nat} {r:Row} (hr:o.R[p]?=some r) (hB:p∈o.B↔r.isBl=true) (h3:(o.mf (p+1)).length≤3):(placeM o m p).length≤if tells r=true then 3 else 0:=by
  unfold placeM
  split
  · rename_i h
    have:=hB.mp h.1
    have ht:tells r=true:=by cases r<;>first | rfl | cases this
    rw [if_pos ht]
    refine Nat.le_trans ?_ h3
    have:∀ l:List Int,(l.flatMap (offK ((m.f p).r 14) p)).length≤l.length:=by
      intro l
      induction l with
      | nil=>simp
      | cons x l ih=>
        simp only [List.flatMap_cons,List.length_append,List.length_cons]
        have:(offK ((m.f p).r 14) p x).length≤1:=by unfold offK; split<;>simp
        lia
    exact this _
  · simp
noncomputable def lawB4:Tr Fl:=(ifT (orT [(tstT (op2T (nameT 12) (listT false [(negT (litT (.int 4))),(negT (litT (.int 8)))]) inO)),(tstT (op2T (op2T (nameT 12) (litT (.int 4)) modI) (litT (.int 0)) neO)),(andT [(tstT (op2T (op2T (nameT 11) (litT (.int 0)) subO) (litT (.str "top")) eqO)),(tstT (op2T (nameT 12) (op2T (nameT 11) (litT (.int 1)) subO) (icO fun a b=>decide (a<b))))])]) (exprT (lmT (nameT 6) [(tupT [(op2T (nameT 7) (litT (.int 1)) addI),(nameT 12)])] appS)) skipT)
noncomputable def lawB3 (R__law_told:FnR):Tr Fl:=(seqT (ifT (orT [(tstT (op2T (nameT 7) (op2T (nameT 8) (fnT [(nameT 9)] lenO) addI) (icO fun a b=>decide (b≤a)))),(tstT (op2T (nameT 9) (listT false []) eqO))]) contT skipT) (seqT (asgT 5 (op2T (nameT 5) (fnT [(op2T (getT (nameT 4) "rows") (nameT 7) subO),(op2T (nameT 10) (nameT 7) subO),(nameT 7)] (callO 0 R__law_told)) (addL false))) (ifT (tstT (op2T (op2T (op2T (getT (nameT 4) "rows") (nameT 7) subO) (litT (.int 0)) subO) (litT (.str "BL")) eqO)) (seqT (asgT 11 (op2T (op2T (op2T (nameT 10) (nameT 7) subO) (litT (.int 0)) subO) (litT (.int 14)) subO)) (forT (op2T (getT (nameT 4) "maps") (op2T (nameT 7) (litT (.int 1)) addI) subO) (.one 12) lawB4)) skipT)))
noncomputable def lawB1 (R__law_draw:FnR):Tr Fl:=(ifT (tstT (op2T (op2T (op2T (getT (nameT 4) "rows") (nameT 7) subO) (litT (.int 0)) subO) (litT (.str "BL")) eqO)) (seqT (exprT (lmT (getT (nameT 4) "fixups") [(tupT [(nameT 7),(litT (.str "call")),(litT (.int 1)),(litT (.int 1))])] appS)) (setT (op2T (listT false [(listT false [(negT (litT (.int 12))),(litT (.int 8))]),(listT false [(negT (litT (.int 4)))]),(listT false [(litT (.int 0)),(negT (litT (.int 8))),(negT (litT (.int 14)))]),(listT false [(negT (litT (.int 16))),(negT (litT (.int 40))),(litT (.int 4))]),(listT false [])]) (fnT [(nameT 1),(litT (.int 5))] (callO 1 R__law_draw)) subO) (getT (nameT 4) "maps") (op2T (nameT 7) (litT (.int 1)) addI))) skipT)
noncomputable def lawB2 (R__law_states R__law_told:FnR):Tr Fl:=(seqT (asgT 10 (fnT [(op2T (getT (nameT 4) "rows") (op2T (nameT 8) (fnT [(nameT 9)] lenO) addI) (slTo false)),(nameT 8)] (callO 0 R__law_states))) (forT (fnT [(nameT 10)] (srtO false)) (.one 7) (lawB3 R__law_told)))
noncomputable def lawE (R_frame_faults R_map_faults:FnR):Tr Fl:=(ghostT (retT (and2T (op2T (fnT [(nameT 4)] (callO 0 R_frame_faults)) (fnT [(nameT 5)] (srtO false)) eqO) (op2T (fnT [(nameT 4)] (callO 0 R_map_faults)) (fnT [(nameT 6)] (srtO false)) eqO))))
noncomputable def law2 (R__law_draw R__law_states R__law_told R_frame_faults R_map_faults:FnR):Tr Fl:=(seqT (asgT 5 (listT false [])) (seqT (asgT 6 (listT true [])) (seqT (forT (fnT [(fnT [(getT (nameT 4) "rows")] lenO)] rngO) (.one 7) (lawB1 R__law_draw)) (seqT (forT (listT false [(tupT [(litT (.int 0)),(nameT 2)]),(tupT [(fnT [(nameT 2)] lenO),(nameT 3)])]) (.many [8,9]) (lawB2 R__law_states R__law_told)) (lawE R_frame_faults R_map_faults)))))
noncomputable def law3 (R__law_draw R__law_states R__law_told R_frame_faults R_map_faults:FnR):Tr Fl:=(seqT (asgT 4 (makeT [(litT (.str "M")),(litT (.int 5))] T_init 0)) (seqT (atrT (listT false [(tupT [(litT (.str "A")),(litT (.int 9))])]) (nameT 4) "imports") (seqT (atrT (op2T (nameT 2) (nameT 3) (addL false)) (nameT 4) "rows") (seqT (ifT (tstT (op2T (nameT 3) (listT false []) neO)) (atrT (listT false [(tupT [(litT (.str "code")),(fnT [(nameT 2)] lenO)])]) (nameT 4) "entries") skipT) (law2 R__law_draw R__law_states R__law_told R_frame_faults R_map_faults)))))
theorem law_split {R__law_figures R__law_procedure R__law_draw R__law_states R__law_told R_frame_faults R_map_faults:FnR}:T_law R__law_figures R__law_procedure R__law_draw R__law_states R__law_told R_frame_faults R_map_faults=(seqT (asgT 1 (fnT [(nameT 0)] (callO 0 R__law_figures))) (seqT (asgT 2 (fnT [(nameT 1)] (callO 1 R__law_procedure))) (seqT (asgT 3 (ifT (tstT (op2T (fnT [(nameT 1),(litT (.int 2))] (callO 1 R__law_draw)) (litT (.int 1)) eqO)) (fnT [(nameT 1)] (callO 1 R__law_procedure)) (listT false []))) (law3 R__law_draw R__law_states R__law_told R_frame_faults R_map_faults)))):=rfl
noncomputable def okV:V→Prop
  | .d _=>True
  | .own k=>k=2∨k=3∨k=4
  | _=>False
structure NSok (fs:List (Str×V)) (R:List Row) (E:List PyData):Prop where
  rows:fs.lookup ("rows" : Str)=some (.d (rowsD R))
  fixups:fs.lookup ("fixups" : Str)=some (.own 2)
  entries:fs.lookup ("entries" : Str)=some (.d (.list E))
  commands:fs.lookup ("commands" : Str)=some (.own 4)
  body:fs.lookup ("body" : Str)=some (.d (.int 0))
  maps:fs.lookup ("maps" : Str)=some (.own 3)
  all:∀ p∈fs,okV p.2
noncomputable def mapL:Nat→List Int
  | 0=>[-12,8]
  | 1=>[-4]
  | 2=>[0,-8,-14]
  | 3=>[-16,-40,4]
  | _=>[]
theorem mapL_len (n:Nat):(mapL n).length≤3:=by unfold mapL; split<;>trivial
theorem mapL_nd (n:Nat):(mapL n).Nodup:=by unfold mapL; split<;>trivial
noncomputable def blAt (R:List Row) (i:Nat):Bool:=match R[i]? with
  | some r=>r.isBl
  | none=>false
noncomputable def blP (R:List Row) (i:Nat):List Nat:=(List.range i).filter (blAt R)
noncomputable def mIt (R:List Row) (l:List Nat):Nat→(Nat→List Int)×List Nat
  | 0=>(fun _=>[],l)
  | i+1=>if blAt R i=true then (upd (mIt R l i).1 (i+1) (mapL (hd (mIt R l i).2 5)),(mIt R l i).2.tail) else mIt R l i
theorem mIt_len (R:List Row) (l:List Nat) (i:Nat):(mIt R l i).2.length≤l.length∧∀ p,((mIt R l i).1 p).length≤3∧((mIt R l i).1 p).Nodup:=by
  induction i with
  | zero=>exact ⟨Nat.le_refl _,fun p=>by simp [mIt]⟩
  | succ i ih=>
    simp only [mIt]
    split
    · refine ⟨by dsimp only; rw [List.length_tail]; omega,fun p=>?_⟩
      dsimp only
      unfold upd
      split
      · exact ⟨mapL_len _,mapL_nd _⟩
      · exact ih.2 p
    · exact ih
theorem blP_next (R:List Row) (i:Nat):blP R (i+1)=if blAt R i=true then blP R i++[i] else blP R i:=by
  unfold blP
  simp only [List.range_succ,List.filter_append]
  by_cases h:blAt R i=true<;>simp [h]
theorem blP_lt {R:List Row} {i p:Nat} (h:p∈blP R i):p<i:=by
  have:=(List.mem_filter.mp h).1
  simpa using this
theorem blP_len (R:List Row) (i:Nat):(blP R i).length≤i:=by
  have:=List.length_filter_le (blAt R) (List.range i)
  simpa [blP] using this
noncomputable abbrev mpK (R:List Row) (i:Nat):List Nat:=(blP R i).map (· + 1)
noncomputable abbrev mpD (mf:Nat→List Int) (ks:List Nat):List (PyData×PyData):=kv (fun n:Nat=>(n:Int)) (fun p=>.list ((mf p).map .int)) ks
theorem mp_put {R:List Row} {i:Nat} {mf:Nat→List Int} {v:List Int}:dput (mpD mf (mpK R i)) (.int ((i:Int)+1)) (.list (v.map .int))=mpD (upd mf (i+1) v) (mpK R i++[i+1]):=by
  have hn:i+1∉mpK R i:=fun h=>by
    refine kEA (List.mem_map.mp h) fun p hp e=>?_
    have:=blP_lt hp; lia
  have:=ke_put (c:=fun n:Nat=>(n:Int)) (h:=fun p=>PyData.list ((mf p).map .int)) (ks:=mpK R i) natI (i+1) (.list (v.map .int))
  rw [if_neg hn] at this
  refine this.trans (ke_congr fun a _=>?_)
  unfold upd
  split<;>rfl
section
variable {ns:List Int} {F S:List Row} {R:List Row} {fs:List (Str×V)} {E:List PyData}
theorem six_lt (hNS:NSok fs R E) {c0:Cell} {a d:List PyData} {b c:List (PyData×PyData)} (h0:c0.lt 6):∀ q∈[c0,.ns fs,.list a,.dict b,.dict c,.list d].take 6,q.lt 6:=fun q hq=>by
  have hns:(Cell.ns fs).lt 6:=fun p hp=>by
    have:=hNS.all p hp
    revert this
    cases p.2 with
    | own k=>
      intro h
      show k<6
      rcases h with rfl | rfl | rfl<;>decide
    | d x=>exact fun _=>trivial
    | _=>exact fun h=>h.elim
  rcases List.mem_cons.mp hq with rfl | hq
  · exact h0
  rcases List.mem_cons.mp hq with rfl | hq
  · exact hns
  rcases List.mem_cons.mp hq with rfl | hq
  · trivial
  rcases List.mem_cons.mp hq with rfl | hq
  · trivial
  rcases List.mem_cons.mp hq with rfl | hq
  · trivial
  simp only [List.mem_singleton.mp hq]; trivial
theorem pk_map {j:Nat} (h:j<5):pick [PyData.list [.int (-12),.int 8],.list [.int (-4)],.list [.int 0,.int (-8),.int (-14)],.list [.int (-16),.int (-40),.int 4],.list []] (j:Int)=some (.list ((mapL j).map .int)):=by
  have:j=0∨j=1∨j=2∨j=3∨j=4:=by revert j; decide
  rcases this with rfl | rfl | rfl | rfl | rfl<;>rfl
theorem loop1 (hNS:NSok fs R E) (hR:R.length≤900) {l:List Nat} (hl:l.length≤1000) {Q:Fl→St→Prop}
    (hQ:Q .next ⟨[.d (.list (ns.map .int)),.own 0,.d (rowsD F),.d (rowsD S),.inst 1,.d (.list []),.own 5,.u,.u,.u,.u,.u,.u],[cF (mIt R l R.length).2,.ns fs,.list ((blP R R.length).map fixE),.dict (mpD (mIt R l R.length).1 (mpK R R.length)),.dict [],.list []]⟩) :
    forK (.one 7) (lawB1 R_draw) Q (rngL R.length) ⟨[.d (.list (ns.map .int)),.own 0,.d (rowsD F),.d (rowsD S),.inst 1,.d (.list []),.own 5,.u,.u,.u,.u,.u,.u],[cF l,.ns fs,.list [],.dict [],.dict [],.list []]⟩:=by
  refine forK_rng1 (fun i=>⟨[.d (.list (ns.map .int)),.own 0,.d (rowsD F),.d (rowsD S),.inst 1,.d (.list []),.own 5,.u,.u,.u,.u,.u,.u],[cF (mIt R l i).2,.ns fs,.list ((blP R i).map fixE),.dict (mpD (mIt R l i).1 (mpK R i)),.dict [],.list []]⟩) rfl (fun i hi=>?_) hQ
  have hr:R[i]?=some R[i]:=List.getElem?_eq_getElem hi
  have hpk:=row_pick hr
  have hb:=(row_bnd hr hR).1
  have hbl:blAt R i=(R[i]).isBl:=by unfold blAt; rw [hr]
  have hl5:(mIt R l i).2.length≤1000:=Nat.le_trans (mIt_len R l i).1 hl
  have hB2:(blP R i).length≤1048576:=by have:=blP_len R i; lia
  have h5:=hd_lt (mIt R l i).2 (m:=5) (by decide)
  have hb5:=lit4 h5 (by decide)
  have hmp:=mp_put (R:=R) (i:=i) (mf:=(mIt R l i).1) (v:=mapL (hd (mIt R l i).2 5))
  have hmx:mIt R l (i+1)=if blAt R i=true then (upd (mIt R l i).1 (i+1) (mapL (hd (mIt R l i).2 5)),(mIt R l i).2.tail) else mIt R l i:=rfl
  have hnx:=blP_next R i
  have hkk:mpK R (i+1)=(blP R (i+1)).map (· + 1):=rfl
  rw [hbl] at hmx hnx
  unfold lawB1
  simp! [hNS.rows,hpk,hb,nm_BL]
  refine ifK_of (fun h=>?_) fun h=>?_
  · rw [h,if_pos rfl] at hmx hnx
    simp! [hNS.fixups,hB2]
    refine draw0 (m:=5) (by decide) hl5 ?_
    simp! [hNS.maps,ke_len,hB2,hb5,pk_map h5,hmp]
    refine Sh.kpQ 7 6 ?_ rfl rfl (six_lt hNS trivial)
    simp only [hkk,hmx,hnx,List.map_append,List.map_append]
    rfl
  · rw [h,if_neg Bool.false_ne_true] at hmx hnx
    simp only [hkk,hmx,hnx]
    exact Sh.kpQ 7 6 rfl rfl rfl (six_lt hNS trivial)
end
section
noncomputable def kd (l:List (List Ky)):List PyData:=kdat l
set_option genInjectivity false in
structure LS where
  ns:List Int
  F:List Row
  S:List Row
  fs:List (Str×V)
  l:List Nat
  o:Ob
  a:Nat
  n:Nat
  T:List Row
  M:Mp
  ys:List Nat
noncomputable abbrev LS.ρ (x:LS) (D:List (List Ky)) (y7 y10 y11 y12:V):List V:=[.d (.list (x.ns.map .int)),.own 0,.d (rowsD x.F),.d (rowsD x.S),.inst 1,.d (.list (kd D)),.own 5,y7,.d (.int x.a),.d (rowsD x.T),y10,y11,y12]
noncomputable abbrev LS.μ (x:LS) (W:List (List Ky)):List Cell:=[cF x.l,.ns x.fs,.list (x.o.B.map fixE),.dict (mpD x.o.mf x.o.ms),.dict [],.list (kd W)]
structure LS.ok (x:LS) (E:List PyData):Prop where
  ns:NSok x.fs x.o.R E
  hR:x.o.R.length≤900
  n:x.T.length=x.n
  nl:x.n≤900
  lin:LIn.ok ⟨x.o.R.take (x.a+x.n),x.a⟩
  M:lawIt (x.o.R.take (x.a+x.n)) x.a ((x.o.R.take (x.a+x.n)).length - x.a)=x.M
  ys:x.M.ks.Perm x.ys
  srt:x.ys.Pairwise (·≤·)
  yl:x.ys.length<64
  ylo:∀ p∈x.ys,x.a≤p
  yin:∀ p∈x.ys,p<x.a+x.n→p<x.o.R.length
  Bf:∀ p r,x.o.R[p]?=some r→(p∈x.o.B↔r.isBl=true)
  ms:∀ p,p∈x.o.B→p+1∈x.o.ms
  mf:∀ q,(x.o.mf q).length≤3
noncomputable def dK (x:LS) (p:Nat):List (List Ky):=if p<x.a+x.n then placeK x.o.R x.M p else []
noncomputable def dM (x:LS) (p:Nat):List (List Ky):=if p<x.a+x.n then placeM x.o x.M p else []
theorem kdat_app (a b:List (List Ky)):kd a++kd b=kd (a++b):=by simp [kd,kdat]
theorem kdat_len (a:List (List Ky)):(kd a).length=a.length:=by simp [kd,kdat]
theorem kdat_flt (p:Nat) (ts:List Str):ts.map (flt p)=kd (ts.map (fkey p)):=by simp [kd,kdat,flt,fkey,kD]
theorem ls_lt {x:LS} {E:List PyData} (h:x.ok E) (W:List (List Ky)):∀ q∈(x.μ W).take 6,q.lt 6:=six_lt h.ns trivial
noncomputable def bel (v:AV) (o:Int):Bool:=match v with
  | .frm k=>decide (o<k)
  | _=>false
theorem bad_top {x:AV} {o:Int}:((decide (-4=o)||decide (-8=o))||(!decide (o.fmod 4=0)||(isTop x&&bel x o)))=bad x o:=by
  have e:(isTop x&&bel x o)=bel x o:=by cases x<;>rfl
  rw [e,← bad_eq (w:=bel x o) rfl,← Bool.or_assoc,Bool.or_comm]
theorem turn4 {x:LS} {E:List PyData} (h:x.ok E) {D W:List (List Ky)} {p:Nat} {v:AV} {o:Int} {y10:V} (hW:W.length≤1048576) {Q:Fl→St→Prop}
    (hQ:Q .next ⟨x.ρ D (.d (.int p)) y10 (.d (eL v)) (.d (.int o)),x.μ (W++offK v p o)⟩) :
    lawB4 Q ⟨x.ρ D (.d (.int p)) y10 (.d (eL v)) (.d (.int o)),x.μ W⟩:=by
  have hW':(kd W).length≤1048576:=by rw [kdat_len]; exact hW
  unfold lawB4
  simp! []
  refine orBB (c:=!decide (o.fmod 4=0)) (c':=isTop v&&bel v o) (fun B=>by simp! []) (fun B=>?_) ?_
  · simp! [subL0,kindTop]
    cases v with
    | frm k=>simp! [isTop,eLf,bel]
    | _=>rfl
  · rw [bad_top]
    unfold offK at hQ
    refine ifK_of (fun hb=>?_) fun hb=>?_
    · rw [if_pos hb,show x.μ (W++[mkey p o])=[cF x.l,.ns x.fs,.list (x.o.B.map fixE),.dict (mpD x.o.mf x.o.ms),.dict [],.list (kd W++[.tuple [.int ((p:Int)+1),.int o]])] from congrArg (fun w=>[cF x.l,.ns x.fs,.list (x.o.B.map fixE),.dict (mpD x.o.mf x.o.ms),.dict [],.list w]) (kdat_app W [mkey p o]).symm] at hQ
      simp! [hW']
      exact hQ
    · rw [if_neg (by rw [hb]; decide),List.append_nil] at hQ
      exact hQ
theorem offK_len (v:AV) (p:Nat) (o:Int):(offK v p o).length≤1:=by unfold offK; split; exact Nat.le_refl 1; exact Nat.zero_le 1
theorem inner4 {x:LS} {E:List PyData} (h:x.ok E) {D W:List (List Ky)} {p:Nat} {v:AV} {y10:V} (hW:W.length≤900) {Q:Fl→St→Prop}
    (hQ:Q .next ⟨x.ρ D (.d (.int p)) y10 (.d (eL v)) .u,x.μ (W++(x.o.mf (p+1)).flatMap (offK v p))⟩) (hy:V.ltb 6 y10=true) :
    forK (.one 12) lawB4 Q ((x.o.mf (p+1)).map .int) ⟨x.ρ D (.d (.int p)) y10 (.d (eL v)) .u,x.μ W⟩:=by
  refine kEAAA (gath (x.o.mf (p+1)) (offK v p) 1 (offK_len v p)) fun G g0 gs ge gl=>?_
  have hm:=h.mf (p+1)
  refine forK_map1 (fun k=>⟨x.ρ D (.d (.int p)) y10 (.d (eL v)) .u,x.μ (W++G k)⟩) (by simp only [g0,List.append_nil]) (fun k o ho=>?_) (by rw [ge]; exact hQ)
  have hk:=(List.getElem?_eq_some_iff.mp ho).1
  have hgl:=gl k
  refine turn4 h (by rw [List.length_append]; lia) ?_
  rw [gs k o ho,← List.append_assoc,e_loopK1]
  refine Sh.mk (x.ρ D (.d (.int p)) y10 (.d (eL v)) .u) 6 (Nat.le_refl 6) (fg_kp 12 (x.ρ D (.d (.int p)) y10 (.d (eL v)) (.d (.int o)))) (lts_all fun y hy'=>V.ltb_lt ?_) (ls_lt h _) rfl
  have:(x.ρ D (.d (.int p)) y10 (.d (eL v)) .u).all (V.ltb 6)=true:=by
    show (true&&(true&&(true&&(true&&(true&&(true&&(true&&(true&&(true&&(true&&(V.ltb 6 y10&&true)))))))))))=true
    rw [hy]; rfl
  exact List.all_eq_true.mp this y hy'
theorem lay_rows (S:List Row):PyData.canLayAll0 (S.map eRow)=true∧PyData.depthAll (S.map eRow)≤15:=by
  have hd:∀ r:Row,(eRow r).depth≤2:=fun r=>by cases r<;>simp [eRow,PyData.depth,PyData.depthAll]
  induction S with
  | nil=>decide
  | cons r S ih=>
    have h1:=(row_ok r).1
    have h2:=hd r
    simp only [List.map_cons,PyData.canLayAll0,PyData.depthAll,Bool.and_eq_true]
    exact ⟨⟨h1,ih.1⟩,by have:=ih.2; lia⟩
theorem rows_nil {S:List Row} (h:S≠[]):PyData.eqvAll (S.map eRow) []=false:=by
  cases S with
  | nil=>exact absurd rfl h
  | cons r S=>rfl
@[simp high] theorem ok_rows {S:List Row}:okd (.list (S.map eRow))=true:=by
  have h:=lay_rows S
  unfold okd
  simp only [PyData.canLay0,h.1,PyData.depth]
  exact decide_eq_true (Nat.succ_le_succ h.2)
theorem rows_nilE {S:List Row} (h:S≠[]):(PyData.list (S.map eRow)).eqv (.list [])=false:=by rw [PyData.eqv]; exact rows_nil h
theorem turn3 {x:LS} {E:List PyData} (h:x.ok E) {D W:List (List Ky)} {p:Nat} (hD:D.length≤900) (hW:W.length≤900) (hp:p∈x.ys) {Q:Fl→St→Prop}
    (hQ:∀ f y11,f = .next∨f = .cont→V.lt 6 y11→Q f ⟨x.ρ (D++dK x p) (.d (.int p)) (.d (.dict (eMp sL x.M))) y11 .u,x.μ (W++dM x p)⟩) :
    lawB3 R_law_told Q ⟨x.ρ D (.d (.int p)) (.d (.dict (eMp sL x.M))) .u .u,x.μ W⟩:=by
  have hT:x.T.length≤1048576:=by
    have:=h.nl
    rw [h.n]; exact Nat.le_trans (by assumption) (by decide)
  have hn:=h.n
  unfold lawB3
  by_cases hlt:p<x.a+x.n
  · have hlt':¬ ((x.a:Int)+x.T.length≤p):=by lia
    have hpR:=h.yin p hp hlt
    obtain ⟨r,hr⟩:∃ r,x.o.R[p]?=some r:=⟨_,List.getElem?_eq_getElem hpR⟩
    have hpk:=row_pick hr
    have hb:=(row_bnd hr h.hR).1
    have hpm:p∈x.M.ks:=h.ys.symm.subset hp
    have hlo:=h.ylo p hp
    have hTn:x.T≠[]:=fun e=>by rw [e] at hn; simp at hn; lia
    have htl:=tagsAt_len x.o.R x.M p
    have hta:tagsAt x.o.R x.M p=rowTags r (x.M.f p).r:=by unfold tagsAt; rw [hr]
    have hpK:placeK x.o.R x.M p=(rowTags r (x.M.f p).r).map (fkey p):=by unfold placeK; exact congrArg _ (hta)
    have e1:dK x p=(rowTags r (x.M.f p).r).map (fkey p):=by unfold dK; rw [if_pos hlt,hpK]
    have e2:dM x p=placeM x.o x.M p:=by unfold dM; exact if_pos hlt
    have hkd:kd D++(rowTags r (x.M.f p).r).map (flt p)=kd (D++dK x p):=by simp only [e1,kdat_flt,kdat_app]
    rw [hta] at htl
    have hkl:(kd D).length≤900:=by rw [kdat_len]; exact hD
    have hlD:(kd D).length+(rowTags r (x.M.f p).r).length≤1048576:=by lia
    simp! [hT,hlt',rows_nilE hTn,h.ns.rows,hpk,hb,eMp_look,hpm]
    refine FnOf.call (r,x.M.f p,p) trivial trivial ?_
    have hBf:=h.Bf p _ hr
    simp! [hlD,hkd,h.ns.rows,hpk,hb,nm_BL]
    refine ifK_of (fun hbl=>?_) fun hbl=>?_
    · have hpB:=hBf.mpr hbl
      have hpm2:=h.ms p hpB
      have hm4:(x.o.mf (p+1)).length≤1048576:=Nat.le_trans (h.mf (p+1)) (by decide)
      rw [e2,show placeM x.o x.M p=(x.o.mf (p+1)).flatMap (offK ((x.M.f p).r 14) p) from if_pos ⟨hpB,hpm2⟩] at hQ
      simp! [eMp_look,hpm,h.ns.maps,maps_look x.o p,hpm2,hm4]
      exact inner4 h (Nat.le_trans hW (by decide)) (hQ .next _ (.inl rfl) (by cases (x.M.f p).r 14<;>trivial)) rfl
    · rw [e2,show placeM x.o x.M p=[] from if_neg fun q=>Bool.eq_false_iff.mp hbl (hBf.mp q.1),List.append_nil] at hQ
      exact hQ .next .u (.inl rfl) trivial
  · have hlt':(x.a:Int)+x.T.length≤p:=by lia
    have e1:dK x p=[]:=by unfold dK; exact if_neg hlt
    have e2:dM x p=[]:=by unfold dM; exact if_neg hlt
    have:=hQ .cont .u (.inr rfl) trivial
    simp only [e1,e2,List.append_nil,List.append_nil] at this
    simp! [hT,hlt']
    exact this
end
theorem dK_len (x:LS) (p:Nat):(dK x p).length≤3:=by
  unfold dK
  split
  · unfold placeK; rw [List.length_map]; exact tagsAt_len _ _ _
  · simp
theorem dM_len {x:LS} {E:List PyData} (h:x.ok E) (p:Nat):(dM x p).length≤3:=by
  unfold dM
  split
  · unfold placeM
    split
    · refine Nat.le_trans ?_ (h.mf (p+1))
      have:∀ l:List Int,(l.flatMap (offK ((x.M.f p).r 14) p)).length≤l.length:=by
        intro l
        induction l with
        | nil=>simp
        | cons y l ih=>
          simp only [List.flatMap_cons,List.length_append,List.length_cons]
          have:(offK ((x.M.f p).r 14) p y).length≤1:=by unfold offK; split<;>simp
          lia
      exact this _
    · simp
  · simp
theorem sec2 {x:LS} {E:List PyData} (h:x.ok E) {D W:List (List Ky)} (hD:D.length≤300) (hW:W.length≤300) {Q:Fl→St→Prop}
    (hQ:Q .next ⟨x.ρ (D++x.ys.flatMap (dK x)) .u (.d (.dict (eMp sL x.M))) .u .u,x.μ (W++x.ys.flatMap (dM x))⟩) :
    lawB2 R_law_states R_law_told Q ⟨x.ρ D .u .u .u .u,x.μ W⟩:=by
  have hT:x.T.length≤1048576:=by
    have:=h.nl
    rw [h.n]; exact Nat.le_trans (by assumption) (by decide)
  have hn:=h.n
  have hR:=h.hR
  have hRl:x.o.R.length≤1048576:=by exact Nat.le_trans (by assumption) (by decide)
  have ht:((x.a:Int)+(x.T.length:Int)).toNat=x.a+x.n:=by lia
  have h0:(0:Int)≤(x.a:Int)+(x.T.length:Int):=by exact Int.natCast_nonneg _
  unfold lawB2
  simp! [h.ns.rows,hT,hRl,ht,h0]
  rw [← List.map_take]
  refine FnOf.call (⟨x.o.R.take (x.a+x.n),x.a⟩:LIn) h.lin trivial ?_
  rw [h.M]
  simp! [ke_keys]
  have e1:(x.M.ks.map fun (k:Nat)=>PyData.int (k:Int))=(x.M.ks.map fun (k:Nat)=>(k:Int)).map .int:=by simp
  rw [e1]
  have hyl:=h.yl
  refine srtK_int (ys:=x.ys.map fun (k:Nat)=>(k:Int)) (h.ys.map _) ?_ ?_ ?_
  · rw [List.pairwise_map]
    exact h.srt.imp fun h=>by exact Int.ofNat_le.mpr (by assumption)
  · simp only [List.length_map,h.ys.length_eq]; exact hyl
  · simp! []
    refine ⟨by lia,?_⟩
    refine kEAAA (gath x.ys (dK x) 3 (dK_len x)) fun G g0 gs ge gl=>?_
    refine kEAAA (gath x.ys (dM x) 3 (dM_len h)) fun H h0' hs he hl=>?_
    refine forK_st (fun j=>⟨x.ρ (D++G j) .u (.d (.dict (eMp sL x.M))) .u .u,x.μ (W++H j)⟩) (by simp [g0,h0']) (fun j z hz=>?_) ?_
    · obtain ⟨p,hp,rfl⟩:∃ p,x.ys[j]?=some p∧z = .int (p:Int):=by
        refine kEA (listE_at (l:=x.ys) (e:=fun p=>PyData.int (p:Int)) (by exact hz)) fun p hp hz=>?_
        exact ⟨p,hp,hz⟩
      refine ⟨_,rfl,?_⟩
      have hj:=(List.getElem?_eq_some_iff.mp hp).1
      have g1:=gl j
      have h1:=hl j
      refine turn3 h (by rw [List.length_append]; lia) (by rw [List.length_append]; lia) (List.mem_of_getElem? hp) fun f y11 hf hy=>?_
      simp only [List.append_assoc,List.append_assoc,← gs j p hp,← hs j p hp]
      have hsh:=Sh.mk (P:=fun s=>s=⟨x.ρ (D++G (j+1)) .u (.d (.dict (eMp sL x.M))) .u .u,x.μ (W++H (j+1))⟩) (b:=6) (ρ:=x.ρ (D++G (j+1)) (.d (.int p)) (.d (.dict (eMp sL x.M))) y11 .u) (μ:=x.μ (W++H (j+1)))
        (x.ρ (D++G (j+1)) .u (.d (.dict (eMp sL x.M))) .u .u) 6 (by simp) (by simp! []) (by simp! []) (ls_lt h _) rfl
      refine Or.elim hf (fun z1=>?_) (fun z2=>?_)
      · subst z1
        exact hsh
      · subst z2
        exact hsh
    · simp only [show (List.map (PyData.int ∘ fun (k:Nat)=>(k:Int)) x.ys).length=x.ys.length by simp,ge,he]
      exact hQ
noncomputable def tod (F2 M3:PyData):V→PyData
  | .d x=>x
  | .own k=>if k=2 then F2 else if k=3 then M3 else .dict []
  | _=>.none
theorem fz_tod {F2 M3:PyData} {y:V} (h:okV y):V.fz 4 (.dict []) (V.fz 3 M3 (V.fz 2 F2 y)) = .d (tod F2 M3 y):=by
  cases y with
  | d x=>rfl
  | own k=>
    rcases h with rfl | rfl | rfl<;>rfl
  | _=>exact h.elim
theorem lay_all {l:List PyData} (h:∀ x∈l,x.canLay0=true∧x.depth≤2):PyData.canLayAll0 l=true∧PyData.depthAll l≤2:=by
  induction l with
  | nil=>simp [PyData.canLayAll0,PyData.depthAll]
  | cons x l ih=>
    refine kA (h x List.mem_cons_self) fun h1 h2=>?_
    refine kA (ih fun y hy=>h y (List.mem_cons_of_mem _ hy)) fun i1 i2=>?_
    simp only [PyData.canLayAll0,PyData.depthAll,Bool.and_eq_true]
    exact ⟨⟨h1,i1⟩,by lia⟩
theorem okd_all {l:List PyData} (h:∀ x∈l,x.canLay0=true∧x.depth≤2):okd (.list l)=true∧(PyData.list l).eqv (.list l)=true:=by
  refine kA (lay_all h) fun h1 h2=>?_
  refine ⟨?_,PySem.SeqAt.eqv_refl _ (by simpa [PyData.canLay0] using h1)⟩
  unfold okd
  simp only [Bool.and_eq_true,decide_eq_true_eq]
  refine ⟨by simpa [PyData.canLay0] using h1,?_⟩
  simp only [PyData.depth]; exact Nat.lt_of_le_of_lt (by assumption) (by decide)
structure Same (ks D:List (List Ky)) (k:Bool):Prop where
  nd:D.Nodup
  len:D.length<64
  mem:∀ q,q∈ks↔q∈D
  isp:∀ q∈D,isP k (.tuple (q.map kD))=true
  lay:∀ q∈D,(PyData.tuple (q.map kD)).canLay0=true∧(PyData.tuple (q.map kD)).depth≤2
theorem Same.ok {ks D:List (List Ky)} {k:Bool} (h:Same ks D k):(ks.foldl addK []).length<64∧(kdat (ks.foldl addK [])).Nodup∧(∀ y∈kdat (ks.foldl addK []),isP k y=true) ∧
    (kdat D).Nodup∧(∀ y∈kdat D,isP k y=true)∧∃ zs,(∀ out,srtG (kdat (ks.foldl addK [])) out→out=zs)∧(∀ out,srtG (kdat D) out→out=zs)∧okd (.list zs)=true∧(PyData.list zs).eqv (.list zs)=true:=by
  have hp:=keys_perm h.nd h.mem
  have hpk:(kdat (ks.foldl addK [])).Perm (kdat D):=hp.map _
  have hD:∀ y∈kdat D,isP k y=true:=fun y hy=>by
    refine kEA (List.mem_map.mp hy) fun q hq z2=>?_
    subst z2
    exact h.isp q hq
  have hK:∀ y∈kdat (ks.foldl addK []),isP k y=true:=fun y hy=>hD y (hpk.subset hy)
  have hN:=kdat_nd h.nd
  refine kE (srtG_ex hD hN) fun zs hz=>?_
  have hzl:∀ x∈zs,x.canLay0=true∧x.depth≤2:=fun x hx=>by
    have hx:x∈kdat D:=by
      rcases hz with ⟨p,_⟩ | ⟨p,_⟩<;>exact p.subset hx
    refine kEA (List.mem_map.mp hx) fun q hq z4=>?_
    subst z4
    exact h.lay q hq
  obtain ⟨o1,o2⟩:=okd_all hzl
  refine ⟨by rw [hp.length_eq]; exact h.len,kdat_nd (addKs_nd List.nodup_nil),hK,hN,hD,zs,fun out ho=>srtG_uniq hD (srtG_perm hpk ho) hz,fun out ho=>srtG_uniq hD ho hz,o1,o2⟩
theorem lawE_ok {x:LS} {E:List PyData} (hNS:NSok x.fs x.o.R E) {D W:List (List Ky)} {y8 y9 y10:V} (N:Nat→Nat) (fs':List (Str×PyData)) (hfs:fs'=x.fs.map fun p=>(p.1,tod (.list (x.o.B.map fixE)) (.dict (mpD x.o.mf x.o.ms)) p.2))
    (o:Ob) (ho:o={ x.o with fs:=fs' }) (hok:FF.ok ⟨o,N⟩) (hmf:∀ q,(o.mf q).length≤100) (h1:Same (FF.keys ⟨o,N⟩) D true) (h2:Same (FF.mkeys ⟨o,N⟩) W false) :
    lawE R_frame_faults R_map_faults (finP 0 (.d (.bool true)) []) ⟨[.d (.list (x.ns.map .int)),.own 0,.d (rowsD x.F),.d (rowsD x.S),.inst 1,.d (.list (kd D)),.own 5,.u,.u,.u,.u,.u,.u],x.μ W⟩:=by
  obtain ⟨a1,a2,a3,a4,a5,zs,a6,a7,a8,a9⟩:=h1.ok
  obtain ⟨b1,b2,b3,b4,b5,ws,b6,b7,b8,b9⟩:=h2.ok
  have hof:o.fs=fs':=by exact congrArg _ (ho)
  refine ⟨⟨[.d (.list (x.ns.map .int)),.own 0,.d (rowsD x.F),.d (rowsD x.S),.ob fs',.d (.list (kd D)),.own 5,.u,.u,.u,.u,.u,.u],[cF x.l,.dead,.dead,.dead,.dead,.list (kd W)]⟩,?_,?_⟩
  · refine Fz.own 2 (.list (x.o.B.map fixE)) (.list (x.o.B.map fixE)) rfl rfl ?_
    refine Fz.own 3 (.dict (mpD x.o.mf x.o.ms)) (.dict (mpD x.o.mf x.o.ms)) rfl rfl ?_
    refine Fz.own 4 (.dict []) (.dict []) rfl rfl ?_
    refine Fz.inst 1 fs' ?_ ?_
    · show some (Cell.ns (((x.fs.map fun p=>(p.1,V.fz 2 _ p.2)).map fun p=>(p.1,V.fz 3 _ p.2)).map fun p=>(p.1,V.fz 4 _ p.2)))=_
      simp only [List.map_map,List.map_map,hfs,List.map_map]
      congr 2
      refine List.map_congr_left fun p hp=>?_
      show (p.1,V.fz 4 _ (V.fz 3 _ (V.fz 2 _ p.2)))=_
      rw [fz_tod (hNS.all p hp)]
      rfl
    · exact Fz.refl _
  · simp! []
    refine callP.mpr ((stills_of (by trivial)).mpr ⟨.list zs,⟨⟨o,N⟩,hok,by rw [hof],a1,a2,⟨_,a3⟩,zs,rfl,a6⟩,?_⟩)
    refine ⟨by rw [kdat_len]; exact h1.len,.inr ⟨a4,_,a5⟩,fun out hout=>?_⟩
    rw [a7 out hout]
    simp! [a8,a9]
    refine callP.mpr ((stills_of (by trivial)).mpr ⟨.list ws,⟨⟨o,N⟩,hok,hmf,by rw [hof],b1,b2,⟨_,b3⟩,ws,rfl,b6⟩,?_⟩)
    refine ⟨by rw [kdat_len]; exact h2.len,.inr ⟨b4,_,b5⟩,fun out hout=>?_⟩
    simp only [b7 out hout]
    simp! [b8,b9]
noncomputable abbrev mkO (F S:List Row) (st:List Nat) (l:List Nat):Ob:=⟨[],F++S,blP (F++S) (F++S).length,st,mpK (F++S) (F++S).length,(mIt (F++S) l (F++S).length).1⟩
noncomputable abbrev mkX (ns:List Int) (F S:List Row) (fs:List (Str×V)) (st l:List Nat) (a:Nat) (T:List Row) (M:Mp) (ys:List Nat):LS:=⟨ns,F,S,fs,(mIt (F++S) l (F++S).length).2,mkO F S st l,a,T.length,T,M,ys⟩
theorem law2_ok {ns:List Int} {F S:List Row} {fs:List (Str×V)} {E:List PyData} {l st:List Nat} (hNS:NSok fs (F++S) E) (hl:l.length≤1000) (hR:(F++S).length≤900)
    (M1 M2:Mp) (ys1 ys2:List Nat) (h1:(mkX ns F S fs st l 0 F M1 ys1).ok E) (h2:(mkX ns F S fs st l F.length S M2 ys2).ok E) {Q:Fl→St→Prop}
    (hQ:lawE R_frame_faults R_map_faults Q ⟨[.d (.list (ns.map .int)),.own 0,.d (rowsD F),.d (rowsD S),.inst 1,.d (.list (kd (ys1.flatMap (dK (mkX ns F S fs st l 0 F M1 ys1))++ys2.flatMap (dK (mkX ns F S fs st l F.length S M2 ys2))))),.own 5,.u,.u,.u,.u,.u,.u],
      (mkX ns F S fs st l 0 F M1 ys1).μ (ys1.flatMap (dM (mkX ns F S fs st l 0 F M1 ys1))++ys2.flatMap (dM (mkX ns F S fs st l F.length S M2 ys2)))⟩) :
    law2 R_draw R_law_states R_law_told R_frame_faults R_map_faults Q ⟨[.d (.list (ns.map .int)),.own 0,.d (rowsD F),.d (rowsD S),.inst 1,.u,.u,.u,.u,.u,.u,.u,.u],[cF l,.ns fs,.list [],.dict [],.dict []]⟩:=by
  have hsum:F.length+S.length=(F++S).length:=List.length_append.symm
  have hRl2:F.length+S.length≤1048576:=by omega
  have hFl:F.length≤1048576:=by omega
  unfold law2
  simp! [hNS.rows,hRl2]
  rw [show ((F.length:Int)+(S.length:Int)).toNat=(F++S).length by assumption]
  refine ⟨by exact Int.natCast_nonneg _,by exact Int.ofNat_le.mpr (by assumption),loop1 hNS hR hl ?_⟩
  simp! [hFl]
  refine kEAAA (gath ys1 (dK (mkX ns F S fs st l 0 F M1 ys1)) 3 (dK_len _)) fun G1 g10 g1s g1e g1l=>?_
  refine kEAAA (gath ys1 (dM (mkX ns F S fs st l 0 F M1 ys1)) 3 (dM_len h1)) fun K1 k10 k1s k1e k1l=>?_
  have hyl:=h1.yl
  change ys1.length<64 at hyl
  have hG:=g1l ys1.length
  have hK:=k1l ys1.length
  rw [g1e] at hG
  rw [k1e] at hK
  let D:Nat→List (List Ky):=fun i=>match i with
    | 0=>[]
    | 1=>ys1.flatMap (dK (mkX ns F S fs st l 0 F M1 ys1))
    | _=>ys1.flatMap (dK (mkX ns F S fs st l 0 F M1 ys1))++ys2.flatMap (dK (mkX ns F S fs st l F.length S M2 ys2))
  let W:Nat→List (List Ky):=fun i=>match i with
    | 0=>[]
    | 1=>ys1.flatMap (dM (mkX ns F S fs st l 0 F M1 ys1))
    | _=>ys1.flatMap (dM (mkX ns F S fs st l 0 F M1 ys1))++ys2.flatMap (dM (mkX ns F S fs st l F.length S M2 ys2))
  refine forK_st (fun i=>⟨[.d (.list (ns.map .int)),.own 0,.d (rowsD F),.d (rowsD S),.inst 1,.d (.list (kd (D i))),.own 5,.u,.u,.u,.u,.u,.u],(mkX ns F S fs st l 0 F M1 ys1).μ (W i)⟩) (by rw [hsum]; rfl) (fun i z hz=>?_) ?_
  · have hz':(i=0∧z = .tuple [.int 0,rowsD F])∨(i=1∧z = .tuple [.int F.length,rowsD S]):=by
      match i,hz with
      | 0,hz=>exact .inl ⟨rfl,by simpa using hz.symm⟩
      | 1,hz=>exact .inr ⟨rfl,by simpa using hz.symm⟩
      | _+2,hz=>simp at hz
    rcases hz' with ⟨rfl,rfl⟩ | ⟨rfl,rfl⟩
    · refine ⟨_,rfl,?_⟩
      refine sec2 (x:=mkX ns F S fs st l 0 F M1 ys1) h1 (D:=[]) (W:=[]) (by simp) (by simp) ?_
      exact Sh.mk (P:=fun s=>s=⟨[.d (.list (ns.map .int)),.own 0,.d (rowsD F),.d (rowsD S),.inst 1,.d (.list (kd (D 1))),.own 5,.u,.u,.u,.u,.u,.u],(mkX ns F S fs st l 0 F M1 ys1).μ (W 1)⟩) (b:=6)
        (ρ:=(mkX ns F S fs st l 0 F M1 ys1).ρ (D 1) .u (.d (.dict (eMp sL M1))) .u .u) (μ:=(mkX ns F S fs st l 0 F M1 ys1).μ (W 1))
        [.d (.list (ns.map .int)),.own 0,.d (rowsD F),.d (rowsD S),.inst 1,.d (.list (kd (D 1))),.own 5,.u,.u,.u,.u,.u,.u] 6 (by simp) (by simp! [D]) (by simp! []) (ls_lt h1 _) rfl
    · refine ⟨_,rfl,?_⟩
      refine sec2 (x:=mkX ns F S fs st l F.length S M2 ys2) h2 (D:=ys1.flatMap (dK (mkX ns F S fs st l 0 F M1 ys1))) (W:=ys1.flatMap (dM (mkX ns F S fs st l 0 F M1 ys1))) (by omega) (by omega) ?_
      exact Sh.mk (P:=fun s=>s=⟨[.d (.list (ns.map .int)),.own 0,.d (rowsD F),.d (rowsD S),.inst 1,.d (.list (kd (D 2))),.own 5,.u,.u,.u,.u,.u,.u],(mkX ns F S fs st l 0 F M1 ys1).μ (W 2)⟩) (b:=6)
        (ρ:=(mkX ns F S fs st l F.length S M2 ys2).ρ (D 2) .u (.d (.dict (eMp sL M2))) .u .u) (μ:=(mkX ns F S fs st l F.length S M2 ys2).μ (W 2))
        [.d (.list (ns.map .int)),.own 0,.d (rowsD F),.d (rowsD S),.inst 1,.d (.list (kd (D 2))),.own 5,.u,.u,.u,.u,.u,.u] 6 (by simp) (by simp! [D]) (by simp! []) (ls_lt h2 _) rfl
  · exact ⟨hQ⟩
theorem tag_ok {R:List Row} {m:Mp} {p:Nat} {t:Str} (h:t∈tagsAt R m p):PyData.strOk t=true:=by
  have hr:∀ r,t∈rtags r→PyData.strOk t=true:=fun r h=>by
    unfold rtags at h
    simp only [List.mem_append] at h
    rcases h with (h | h) | h
    all_goals
      split at h
      · cases h
      · simp at h; subst h; exact sOk
  have hc:∀ r,t∈ctags r→PyData.strOk t=true:=fun r h=>by
    unfold ctags at h
    simp only [List.mem_append] at h
    rcases h with h | h
    all_goals
      split at h
      · cases h
      · simp at h; subst h; exact sOk
  unfold tagsAt rowTags at h
  split at h
  · split at h
    · exact hr _ h
    · exact hc _ h
    · cases h
  · cases h
theorem placeK_sh {R:List Row} {m:Mp} {p:Nat} {k:List Ky} (h:k∈placeK R m p):∃ t,k=fkey p t∧PyData.strOk t=true:=by
  refine kEA (List.mem_map.mp h) fun t ht z2=>?_
  subst z2
  exact ⟨t,rfl,tag_ok ht⟩
theorem two_nd {α:Type} {f g:Nat→List α} {a n m:Nat} (h1:((List.range' a n).flatMap f).Nodup) (h2:((List.range' (a+n) m).flatMap g).Nodup) (hd:∀ p q k,p<a+n→a+n≤q→k∈f p→k∈g q→False):((List.range' a n).flatMap f++(List.range' (a+n) m).flatMap g).Nodup:=by
  rw [List.nodup_append]
  refine ⟨h1,h2,fun x hx y hy e=>?_⟩
  subst e
  refine kEA (List.mem_flatMap.mp hx) fun p hp hx=>?_
  refine kEA (List.mem_flatMap.mp hy) fun q hq hy=>?_
  have:=List.mem_range'_1.mp hp
  have:=List.mem_range'_1.mp hq
  exact hd p q x (by lia) (by lia) hx hy
theorem kdl {p:Nat} {t:Str} (h:PyData.strOk t=true):isP true (.tuple ((fkey p t).map kD))=true∧(PyData.tuple ((fkey p t).map kD)).canLay0=true∧(PyData.tuple ((fkey p t).map kD)).depth≤2:=by
  refine ⟨rfl,?_,?_⟩<;>simp [fkey,kD,PyData.canLay0,PyData.canLayAll0,PyData.depth,PyData.depthAll,h]
theorem kdm {p:Nat} {o:Int}:isP false (.tuple ((mkey p o).map kD))=true∧(PyData.tuple ((mkey p o).map kD)).canLay0=true∧(PyData.tuple ((mkey p o).map kD)).depth≤2:=by
  refine ⟨rfl,?_,?_⟩<;>simp [mkey,kD,PyData.canLay0,PyData.canLayAll0,PyData.depth,PyData.depthAll]
structure Prs (F S:List Row):Prop where
  f:∃ c,Spl c∧F=aimed c
  s:S=[]∨∃ c,Spl c∧S=aimed c
theorem Prs.len {F S:List Row} (h:Prs F S):7≤F.length∧F.length≤33∧S.length≤33∧(S≠[]→7≤S.length)∧F.countP tells≤9∧S.countP tells≤9:=by
  refine kEA h.f fun c hc z4=>?_
  subst z4
  have h1:=hc.n7
  have h2:=hc.nu
  have h3:=hc.cnt
  rw [aimed_len,Spl.aim_cnt]
  refine ⟨h1,h2,?_⟩
  refine Or.elim h.s (fun z5=>?_) (fun z6=>?_)
  · subst z5
    exact ⟨by simp,by trivial,h3,by simp⟩
  · refine kEA z6 fun d hd z8=>?_
    subst z8
    have h4:=hd.n7
    have h5:=hd.nu
    have h6:=hd.cnt
    rw [aimed_len,Spl.aim_cnt]
    exact ⟨h5,fun _=>h4,h3,h6⟩
theorem Prs.p1 {F S:List Row} (h:Prs F S):Proc (F++S) 0 F.length:=by
  refine kEA h.f fun c hc z10=>?_
  subst z10
  simp only [aimed_len]
  refine hc.proc (fun i hi=>?_) (by simp only [List.length_append,aimed_len]; simp)
  simp only [Nat.zero_add,List.getElem?_append_left (by rw [aimed_len]; exact hi)]
theorem Prs.p2 {F S:List Row} (h:Prs F S) (hS:S≠[]):Proc (F++S) F.length S.length:=by
  rcases h.s with e | ⟨d,hd,rfl⟩
  · exact absurd e hS
  · simp only [aimed_len]
    refine hd.proc (fun i hi=>?_) (by simp only [List.length_append,aimed_len]; exact Nat.le_refl _)
    rw [List.getElem?_append_right (by exact Nat.le_add_right _ _)]
    congr 1; simp
theorem Spl.f0 {c:List Row} (h:Spl c):∃ r,(aimed c)[0]?=some r∧∀ d e,r≠.b d e:=by
  have e:=List.getElem?_eq_getElem (Nat.lt_of_lt_of_le (by decide:0<7) h.n7)
  refine ⟨_,(aimed_at c 0).trans (congrArg (Option.map _) e),fun d e' he=>?_⟩
  by_cases q:c[0]'(Nat.lt_of_lt_of_le (by decide:0<7) h.n7) = .b 0 1
  · exact h.fst _ _ (q▸e)
  · rw [aim_no q] at he; exact h.fst _ _ (he▸e)
theorem Prs.fst {F S:List Row} (h:Prs F S):∃ r,(F++S)[0]?=some r∧∀ d e,r≠.b d e:=by
  refine kEA h.f fun c hc z13=>?_
  subst z13
  refine kEA hc.f0 fun r e h'=>?_
  exact ⟨r,(List.getElem?_append_left (List.getElem?_eq_some_iff.mp e).1).trans e,h'⟩
theorem Prs.snd {F S:List Row} (h:Prs F S) (hS:S≠[]):∃ r,(F++S)[F.length]?=some r∧∀ d e,r≠.b d e:=by
  rcases h.s with e | ⟨c,hc,rfl⟩
  · exact absurd e hS
  · refine kEA hc.f0 fun r e h'=>?_
    refine ⟨r,?_,h'⟩
    rw [List.getElem?_append_right (Nat.le_refl _),Nat.sub_self]
    exact e
theorem blP_all {R:List Row} {p:Nat} {r:Row} (hr:R[p]?=some r):p∈blP R R.length↔r.isBl=true:=by
  unfold blP
  have hlt:=(List.getElem?_eq_some_iff.mp hr).1
  have e:blAt R p=r.isBl:=by unfold blAt; rw [hr]
  simp only [List.mem_filter,List.mem_range,e]
  exact ⟨fun h=>h.2,fun h=>⟨hlt,h⟩⟩
theorem range_le (a n:Nat):(List.range' a n).Pairwise (·≤·):=by
  induction n generalizing a with
  | zero=>simp
  | succ n ih=>
    rw [List.range'_succ,List.pairwise_cons]
    exact ⟨fun x hx=>by have:=List.mem_range'_1.mp hx; lia,ih (a+1)⟩
theorem sec_LS {ns:List Int} {F S:List Row} {fs:List (Str×V)} {st l:List Nat} {E:List PyData} (hNS:NSok fs (F++S) E) (h:Prs F S) {a:Nat} {T:List Row} (P:Proc (F++S) a T.length) (hT:T.length≤33) :
    (mkX ns F S fs st l a T (secM (F++S) a T.length) (List.range' a T.length)).ok E:=by
  have hl:=h.len
  have hle:=P.le
  have hR:(F++S).length≤900:=by rw [List.length_append]; lia
  refine ⟨hNS,hR,rfl,by show T.length≤900; exact Nat.le_trans (by assumption) (by decide),law_lin P hR,?_,sec_keys P,range_le _ _,by rw [List.length_range']; exact Nat.lt_of_le_of_lt (by assumption) (by decide),fun p hp=>(List.mem_range'_1.mp hp).1,fun p _ hp=>?_,fun p r hr=>blP_all hr,fun p hp=>?_,fun q=>((mIt_len (F++S) l (F++S).length).2 q).1⟩
  · show lawIt ((F++S).take (a+T.length)) a (((F++S).take (a+T.length)).length - a)=lawIt ((F++S).take (a+T.length)) a T.length
    congr 1
    rw [List.length_take]; lia
  · have hp:p<a+T.length:=hp
    exact Nat.lt_of_lt_of_le (by assumption) (by assumption)
  · exact List.mem_map.mpr ⟨p,hp,rfl⟩
theorem sec_LS0 {ns:List Int} {F:List Row} {fs:List (Str×V)} {st l:List Nat} {E:List PyData} (hNS:NSok fs (F++[]) E) (h:Prs F []) :
    (mkX ns F [] fs st l F.length [] ⟨[F.length],fun _=>s0⟩ [F.length]).ok E:=by
  have hl:=h.len
  have hR:(F++[]).length≤900:=by rw [List.append_nil]; omega
  have e:(F++[]).take (F.length+([]:List Row).length)=F:=by simp
  refine ⟨hNS,hR,rfl,by show ([]:List Row).length≤900; simp,?_,?_,List.Perm.refl _,by simp,by simp,fun p hp=>?_,fun p hp hp2=>?_,fun p r hr=>blP_all hr,fun p hp=>?_,fun q=>((mIt_len (F++[]) l (F++[]).length).2 q).1⟩
  · show LIn.ok ⟨(F++[]).take (F.length+([]:List Row).length),F.length⟩
    rw [e]
    exact ⟨by show F.length≤900; omega,Nat.le_refl _,fun k hk=>by have:F.length+k<F.length:=hk; lia⟩
  · show lawIt ((F++[]).take (F.length+([]:List Row).length)) F.length (((F++[]).take (F.length+([]:List Row).length)).length - F.length)=_
    rw [e,Nat.sub_self]; rfl
  · simp at hp; subst hp; exact Nat.le_refl _
  · simp at hp; subst hp
    exact absurd (by assumption) (Nat.lt_irrefl _)
  · exact List.mem_map.mpr ⟨p,hp,rfl⟩
theorem dK_sec {x:LS} {R:List Row} {M:Mp} {a n:Nat} (h1:x.o.R=R) (h2:x.M=M) (h3:x.a=a) (h4:x.n=n):(List.range' a n).flatMap (dK x)=Sec R a n M:=by
  subst h1 h2 h3 h4
  have:∀ l:List Nat,(∀ p∈l,p<x.a+x.n)→l.flatMap (dK x)=l.flatMap (placeK x.o.R x.M):=by
    intro l
    induction l with
    | nil=>intro _; rfl
    | cons p l ih=>
      intro hp
      simp only [List.flatMap_cons,List.flatMap_cons,ih fun q hq=>hp q (List.mem_cons_of_mem _ hq)]
      unfold dK
      rw [if_pos (hp p List.mem_cons_self)]
  exact this _ fun p hp=>(List.mem_range'_1.mp hp).2
theorem dM_sec {x:LS} {M:Mp} {a n:Nat} (h2:x.M=M) (h3:x.a=a) (h4:x.n=n):(List.range' a n).flatMap (dM x)=SecM x.o a n M:=by
  subst h2 h3 h4
  have:∀ l:List Nat,(∀ p∈l,p<x.a+x.n)→l.flatMap (dM x)=l.flatMap (placeM x.o x.M):=by
    intro l
    induction l with
    | nil=>intro _; rfl
    | cons p l ih=>
      intro hp
      simp only [List.flatMap_cons,List.flatMap_cons,ih fun q hq=>hp q (List.mem_cons_of_mem _ hq)]
      unfold dM
      rw [if_pos (hp p List.mem_cons_self)]
  exact this _ fun p hp=>(List.mem_range'_1.mp hp).2
theorem sec_len {R S:List Row} {a:Nat} {m:Mp} (h:∀ i,i<S.length→R[a+i]?=S[i]?) (hc:S.countP tells≤9):(Sec R a S.length m).length≤27:=by
  have:=flat_wt (f:=placeK R m) (R:=R) (fun p r hr=>placeK_len hr) S a h
  unfold Sec
  lia
theorem secM_len {o:Ob} {S:List Row} {a:Nat} {m:Mp} (h:∀ i,i<S.length→o.R[a+i]?=S[i]?) (hc:S.countP tells≤9) (hB:∀ p r,o.R[p]?=some r→(p∈o.B↔r.isBl=true)) (h3:∀ q,(o.mf q).length≤3):(SecM o a S.length m).length≤27:=by
  have:=flat_wt (f:=placeM o m) (R:=o.R) (fun p r hr=>placeM_len hr (hB p r hr) (h3 _)) S a h
  unfold SecM
  lia
theorem ob_ok {F S:List Row} {fs:List (Str×V)} {l st:List Nat} (hNS:NSok fs (F++S) (st.map entE)) (h:Prs F S) (hst:(st=[]∧S=[])∨(st=[F.length]∧S≠[])) {fs':List (Str×PyData)} (hfs:fs'=fs.map fun p=>(p.1,tod (.list ((mkO F S st l).B.map fixE)) (.dict (mpD (mkO F S st l).mf (mkO F S st l).ms)) p.2)) :
    Ob.ok { mkO F S st l with fs:=fs' }:=by
  refine kAAAAA h.len fun l1 l2 l3 l4 l5 l6=>?_
  have hR:(F++S).length≤900:=by rw [List.length_append]; lia
  have lk:∀ (x:Str) y,fs.lookup x=some y→fs'.lookup x=some (tod (.list ((mkO F S st l).B.map fixE)) (.dict (mpD (mkO F S st l).mf (mkO F S st l).ms)) y):=fun x y e=>by
    simp only [hfs,lookup_map,e]; rfl
  have hBl:=blP_len (F++S) (F++S).length
  refine ⟨lk _ _ hNS.rows,lk _ _ hNS.fixups,lk _ _ hNS.entries,lk _ _ hNS.commands,lk _ _ hNS.body,lk _ _ hNS.maps,hR,Nat.le_trans hBl hR,List.nodup_range.filter _,fun p r hr=>blP_all hr,?_,?_,?_⟩
  · show st.length≤1
    rcases hst with ⟨rfl,_⟩ | ⟨rfl,_⟩<;>simp
  · show (0 :: st).Pairwise (·<·)
    rcases hst with ⟨rfl,_⟩ | ⟨rfl,_⟩
    · trivial
    · simp; lia
  · intro a ha
    have ha:a∈0 :: st:=ha
    show ∃ r,(F++S)[a]?=some r∧_
    rcases hst with ⟨rfl,_⟩ | ⟨rfl,hS⟩
    · simp at ha; subst ha; exact h.fst
    · simp at ha
      rcases ha with rfl | rfl
      · exact h.fst
      · exact h.snd hS
theorem sec_sh {R:List Row} {a n:Nat} {m:Mp} {k:List Ky} (hk:k∈Sec R a n m):∃ p t,k=fkey p t∧PyData.strOk t=true:=by
  refine kEA (List.mem_flatMap.mp hk) fun p hp hx=>?_
  refine kEA (placeK_sh hx) fun t e ht=>?_
  exact ⟨p,t,e,ht⟩
theorem secM_sh {o:Ob} {a n:Nat} {m:Mp} {k:List Ky} (hk:k∈SecM o a n m):∃ p t,k=mkey p t:=by
  refine kEA (List.mem_flatMap.mp hk) fun p hp hx=>?_
  refine kEA (placeM_at hx) fun t _ e=>?_
  exact ⟨p,t,e⟩
theorem sec_nd {R:List Row} {a n:Nat} {m:Mp}:(Sec R a n m).Nodup:=nodup_flat List.nodup_range' (fun p _=>placeK_nd R m p) fun p q k h1 h2=>placeK_at h1 h2
theorem secM_nd {o:Ob} {a n:Nat} {m:Mp} (h:∀ q,(o.mf q).Nodup):(SecM o a n m).Nodup:=nodup_flat List.nodup_range' (fun p _=>placeM_nd o m p (h _)) fun p q k h1 h2=>by
  refine kEA (placeM_at h1) fun x _ e1=>?_
  refine kEA (placeM_at h2) fun y _ e2=>?_
  exact (mkey_inj (e1.symm.trans e2)).1
theorem law_mid {ns:List Int} {F S:List Row} {fs:List (Str×V)} {l st:List Nat} (hNS:NSok fs (F++S) (st.map entE)) (h:Prs F S) (hl:l.length≤1000) (hst:(st=[]∧S=[])∨(st=[F.length]∧S≠[])) :
    law2 R_draw R_law_states R_law_told R_frame_faults R_map_faults (finP 0 (.d (.bool true)) []) ⟨[.d (.list (ns.map .int)),.own 0,.d (rowsD F),.d (rowsD S),.inst 1,.u,.u,.u,.u,.u,.u,.u,.u],[cF l,.ns fs,.list [],.dict [],.dict []]⟩:=by
  refine kAAAAA h.len fun l1 l2 l3 l4 l5 l6=>?_
  have hR:(F++S).length≤900:=by rw [List.length_append]; lia
  have hBf:∀ p r,(F++S)[p]?=some r→(p∈blP (F++S) (F++S).length↔r.isBl=true):=fun p r hr=>blP_all hr
  have hmf:∀ q,((mIt (F++S) l (F++S).length).1 q).length≤3:=fun q=>((mIt_len (F++S) l (F++S).length).2 q).1
  have hmn:∀ q,((mIt (F++S) l (F++S).length).1 q).Nodup:=fun q=>((mIt_len (F++S) l (F++S).length).2 q).2
  have hF0:∀ i,i<F.length→(F++S)[0+i]?=F[i]?:=fun i hi=>by rw [Nat.zero_add,List.getElem?_append_left hi]
  have hS0:∀ i,i<S.length→(F++S)[F.length+i]?=S[i]?:=fun i hi=>by
    rw [List.getElem?_append_right (by exact Nat.le_add_right _ _)]
    congr 1; simp
  refine kEAAA (sec_ok h.p1 hR (by exact Nat.le_trans (by assumption) (by decide)) hBf) fun N1 w1 w2 w3 w4=>?_
  have hob:=fun fs' hfs=>ob_ok (l:=l) (fs':=fs') hNS h hst hfs
  rcases hst with ⟨rfl,rfl⟩ | ⟨rfl,hS⟩
  · refine law2_ok (st:=[]) hNS hl hR (secM (F++[]) 0 F.length) ⟨[F.length],fun _=>s0⟩ (List.range' 0 F.length) [F.length] (sec_LS hNS h h.p1 l2) (sec_LS0 hNS h) ?_
    rw [dK_sec (x:=mkX ns F [] fs [] l 0 F (secM (F++[]) 0 F.length) (List.range' 0 F.length)) (R:=F++[]) (M:=secM (F++[]) 0 F.length) (a:=0) (n:=F.length) rfl rfl rfl rfl,dM_sec (x:=mkX ns F [] fs [] l 0 F (secM (F++[]) 0 F.length) (List.range' 0 F.length)) (M:=secM (F++[]) 0 F.length) (a:=0) (n:=F.length) rfl rfl rfl]
    have z1:[F.length].flatMap (dK (mkX ns F [] fs [] l F.length [] ⟨[F.length],fun _=>s0⟩ [F.length]))=[]:=by simp [dK]
    have z2:[F.length].flatMap (dM (mkX ns F [] fs [] l F.length [] ⟨[F.length],fun _=>s0⟩ [F.length]))=[]:=by simp [dM]
    simp only [z1,z2,List.append_nil (Sec (F++[]) 0 F.length (secM (F++[]) 0 F.length)),List.append_nil (SecM (mkX ns F [] fs [] l 0 F (secM (F++[]) 0 F.length) (List.range' 0 F.length)).o 0 F.length (secM (F++[]) 0 F.length))]
    refine lawE_ok (x:=mkX ns F [] fs [] l 0 F (secM (F++[]) 0 F.length) (List.range' 0 F.length)) (y8:=.u) (y9:=.u) (y10:=.u) hNS (fun _=>N1) _ rfl _ rfl ⟨hob _ rfl,fun a ha=>?_,fun a ha=>?_⟩ (fun q=>Nat.le_trans (hmf q) (by decide)) ?_ ?_
    · have ha:a∈[0]:=ha
      simp at ha; subst ha; exact w1
    · have ha:a∈[0]:=ha
      simp at ha; subst ha; exact w2
    · refine ⟨sec_nd,?_,fun q=>?_,fun q hq=>?_,fun q hq=>?_⟩
      · have:=sec_len (m:=secM (F++[]) 0 F.length) hF0 l5; exact Nat.lt_of_le_of_lt (by assumption) (by decide)
      · show q∈[0].flatMap _↔_
        rw [List.flatMap_cons,List.flatMap_nil,List.append_nil]
        exact w3 q
      · obtain ⟨p,t,rfl,ht⟩:=sec_sh hq; exact (kdl ht).1
      · obtain ⟨p,t,rfl,ht⟩:=sec_sh hq; exact (kdl ht).2
    · refine ⟨secM_nd hmn,?_,fun q=>?_,fun q hq=>?_,fun q hq=>?_⟩
      · have:=secM_len (o:=mkO F [] [] l) (m:=secM (F++[]) 0 F.length) hF0 l5 hBf hmf; exact Nat.lt_of_le_of_lt this (by decide)
      · show q∈[0].flatMap _↔_
        rw [List.flatMap_cons,List.flatMap_nil,List.append_nil]
        exact w4 _ q
      · obtain ⟨p,t,rfl⟩:=secM_sh hq; exact kdm.1
      · obtain ⟨p,t,rfl⟩:=secM_sh hq; exact kdm.2
  · refine kEAAA (sec_ok (h.p2 hS) hR (by exact Nat.le_trans (by assumption) (by decide)) hBf) fun N2 v1 v2 v3 v4=>?_
    have hl7:=l4 hS
    refine law2_ok (st:=[F.length]) hNS hl hR (secM (F++S) 0 F.length) (secM (F++S) F.length S.length) (List.range' 0 F.length) (List.range' F.length S.length) (sec_LS hNS h h.p1 l2) (sec_LS hNS h (h.p2 hS) l3) ?_
    simp only [dK_sec (x:=mkX ns F S fs [F.length] l 0 F (secM (F++S) 0 F.length) (List.range' 0 F.length)) (R:=F++S) (M:=secM (F++S) 0 F.length) (a:=0) (n:=F.length) rfl rfl rfl rfl,dM_sec (x:=mkX ns F S fs [F.length] l 0 F (secM (F++S) 0 F.length) (List.range' 0 F.length)) (M:=secM (F++S) 0 F.length) (a:=0) (n:=F.length) rfl rfl rfl,
      dK_sec (x:=mkX ns F S fs [F.length] l F.length S (secM (F++S) F.length S.length) (List.range' F.length S.length)) (R:=F++S) (M:=secM (F++S) F.length S.length) (a:=F.length) (n:=S.length) rfl rfl rfl rfl,dM_sec (x:=mkX ns F S fs [F.length] l F.length S (secM (F++S) F.length S.length) (List.range' F.length S.length)) (M:=secM (F++S) F.length S.length) (a:=F.length) (n:=S.length) rfl rfl rfl]
    have hm0:(if (0:Nat)=0 then N1 else N2)=N1:=if_pos rfl
    have hm1:(if F.length=0 then N1 else N2)=N2:=if_neg (by lia)
    refine lawE_ok (x:=mkX ns F S fs [F.length] l 0 F (secM (F++S) 0 F.length) (List.range' 0 F.length)) (y8:=.u) (y9:=.u) (y10:=.u) hNS (fun a=>if a=0 then N1 else N2) _ rfl _ rfl ⟨hob _ rfl,fun a ha=>?_,fun a ha=>?_⟩ (fun q=>Nat.le_trans (hmf q) (by decide)) ?_ ?_
    · have ha:a∈[0,F.length]:=ha
      simp at ha
      rcases ha with rfl | rfl
      · show WIn.ok ⟨_,_,_,if (0:Nat)=0 then N1 else N2⟩
        rw [hm0]; exact w1
      · show WIn.ok ⟨_,_,_,if F.length=0 then N1 else N2⟩
        rw [hm1]; exact v1
    · have ha:a∈[0,F.length]:=ha
      simp at ha
      rcases ha with rfl | rfl
      · show ∀ p∈(itW (F++S) 0 (if (0:Nat)=0 then N1 else N2)).m.ks,p<(F++S).length
        rw [hm0]; exact w2
      · show ∀ p∈(itW (F++S) F.length (if F.length=0 then N1 else N2)).m.ks,p<(F++S).length
        rw [hm1]; exact v2
    · refine ⟨?_,?_,fun q=>?_,fun q hq=>?_,fun q hq=>?_⟩
      · have:=two_nd (f:=placeK (F++S) (secM (F++S) 0 F.length)) (g:=placeK (F++S) (secM (F++S) F.length S.length)) (a:=0) (n:=F.length) (m:=S.length) sec_nd (by rw [Nat.zero_add]; exact sec_nd) fun p q k h1 h2 k1 k2=>by
          refine kEA (placeK_sh k1) fun t e1 _=>?_
          refine kEA (placeK_sh k2) fun t' e2 _=>?_
          have:=(fkey_inj (e1.symm.trans e2)).1
          omega
        rw [Nat.zero_add] at this; exact this
      · rw [List.length_append]
        have:=sec_len (m:=secM (F++S) 0 F.length) hF0 l5
        have:=sec_len (m:=secM (F++S) F.length S.length) hS0 l6
        lia
      · show q∈[0,F.length].flatMap (fun a=>startK (F++S) (itW (F++S) a (if a=0 then N1 else N2)).m)↔_
        rw [List.flatMap_cons,List.flatMap_cons,List.flatMap_nil,List.append_nil,List.mem_append,List.mem_append,hm0,hm1,w3 q,v3 q]
      · rcases List.mem_append.mp hq with hq | hq
        all_goals obtain ⟨p,t,rfl,ht⟩:=sec_sh hq; exact (kdl ht).1
      · rcases List.mem_append.mp hq with hq | hq
        all_goals obtain ⟨p,t,rfl,ht⟩:=sec_sh hq; exact (kdl ht).2
    · refine ⟨?_,?_,fun q=>?_,fun q hq=>?_,fun q hq=>?_⟩
      · have:=two_nd (f:=placeM (mkO F S [F.length] l) (secM (F++S) 0 F.length)) (g:=placeM (mkO F S [F.length] l) (secM (F++S) F.length S.length)) (a:=0) (n:=F.length) (m:=S.length) (secM_nd hmn) (by rw [Nat.zero_add]; exact secM_nd hmn) fun p q k h1 h2 k1 k2=>by
          refine kEA (placeM_at k1) fun t _ e1=>?_
          refine kEA (placeM_at k2) fun t' _ e2=>?_
          have:=(mkey_inj (e1.symm.trans e2)).1
          omega
        rw [Nat.zero_add] at this; exact this
      · rw [List.length_append]
        have q1:=secM_len (o:=mkO F S [F.length] l) (m:=secM (F++S) 0 F.length) hF0 l5 hBf hmf
        have q2:=secM_len (o:=mkO F S [F.length] l) (m:=secM (F++S) F.length S.length) hS0 l6 hBf hmf
        exact Nat.lt_of_le_of_lt (Nat.add_le_add q1 q2) (by decide)
      · show q∈[0,F.length].flatMap (fun a=>startM _ (itW (F++S) a (if a=0 then N1 else N2)).m)↔_
        rw [List.flatMap_cons,List.flatMap_cons,List.flatMap_nil,List.append_nil,List.mem_append,List.mem_append,hm0,hm1,w4 _ q,v4 _ q]
        exact Iff.rfl
      · rcases List.mem_append.mp hq with hq | hq
        all_goals obtain ⟨p,t,rfl⟩:=secM_sh hq; exact kdm.1
      · rcases List.mem_append.mp hq with hq | hq
        all_goals obtain ⟨p,t,rfl⟩:=secM_sh hq; exact kdm.2
theorem cF_alive (l:List Nat):(cF l).alive=true:=rfl
theorem law3_ok {ns:List Int} {F S:List Row} {l:List Nat} (h:Prs F S) (hl:l.length≤1000) :
    law3 R_draw R_law_states R_law_told R_frame_faults R_map_faults (finP 0 (.d (.bool true)) []) ⟨[.d (.list (ns.map .int)),.own 0,.d (rowsD F),.d (rowsD S),.u,.u,.u,.u,.u,.u,.u,.u,.u],[cF l]⟩:=by
  refine kAAAAA h.len fun l1 l2 l3 l4 l5 l6=>?_
  have hFS:F.length+S.length≤1048576:=by lia
  have hF:F.length≤1048576:=by exact Nat.le_trans (by assumption) (by decide)
  unfold law3
  simp! [T_init,Cell.alive,cF_alive,hFS]
  refine ⟨rfl,?_⟩
  by_cases hS:S=[]
  · subst hS
    simp only [show (rowsD []).eqv (PyData.list [])=true from rfl]
    simp! []
    exact law_mid (st:=[]) ⟨by simp [List.lookup_cons,sBeq],by rfl,by rfl,by rfl,by rfl,by rfl,by simp [okV]⟩ h hl (.inl ⟨rfl,rfl⟩)
  · simp only [rows_nilE hS]
    simp! [hF]
    exact law_mid (st:=[F.length]) ⟨by simp [List.lookup_cons,sBeq],by rfl,by rfl,by rfl,by rfl,by rfl,by simp [okV]⟩ h hl (.inr ⟨rfl,hS⟩)
theorem figures_call {ns:List Int} {Q:V→St→Prop} {st:St} (hl:ns.length≤1000) (h:Q (.own st.μ.length) ⟨st.ρ,st.μ++[cF (figF ns)]⟩):callO 0 R_figures [.d (.list (ns.map .int))] Q st:=
  ⟨List.nodup_nil,(stills_of (ys:=[.d (.list (ns.map .int))]) (by trivial)).mpr ⟨by simp,_,_,⟨ns,hl,rfl,rfl,rfl,rfl⟩,h⟩⟩
theorem proc_call {l:List Nat} {Q:V→St→Prop} {ρ:List V} {μ:List Cell} (hl:l.length≤1000) (h:Q (.d (rowsD (procF l).1)) ⟨ρ,cF (procF l).2 :: μ⟩):callO 1 R_proc [.own 0] Q ⟨ρ,cF l :: μ⟩:=
  ⟨by simp,fun q hq=>⟨cF l,by simp at hq; subst hq; rfl,rfl⟩,_,_,⟨l,hl,rfl,rfl,rfl,rfl⟩,h⟩
theorem procF_len {l:List Nat} (h:l.length≤1000):(procF l).2.length≤1000:=by
  have h1:=(hl_bodyF (tl_len h)).1
  have h2:=(spoil_len (bodyF l.tail).2 (rawF l)).2.2
  exact Nat.le_trans (by assumption) (by assumption)
noncomputable def R_law:FnR:=FnOf (fun (ns:List Int)=>ns.length≤63) (fun ns=>[.d (.list (ns.map .int))]) (fun _=>.bool true)
theorem t_law:HT 0 1 0 12 (T_law R_figures R_proc R_draw R_law_states R_law_told R_frame_faults R_map_faults) R_law:=FnOf.ht fun ns hns=>by
  have hl0:(figF ns).length≤1000:=by have:=figF_len ns; exact Nat.le_trans (by assumption) (by decide)
  simp only [law_split,← fin0_eq]
  refine figures_call (by exact Nat.le_trans (by assumption) (by decide)) ?_
  simp! []
  refine proc_call hl0 ?_
  have hl1:=procF_len hl0
  have hl2:=tl_len hl1
  have s1:=proc_spl (figF ns)
  generalize procF (figF ns)=p1 at *
  simp! []
  refine draw0 (m:=2) (by decide) hl1 ?_
  by_cases q:hd p1.2 2=1
  · have q':((hd p1.2 2:Nat):Int)=1:=by lia
    simp! [q,q']
    refine proc_call hl2 ?_
    have s2:=proc_spl p1.2.tail
    have hl3:=procF_len hl2
    generalize procF p1.2.tail=p2 at *
    simp! []
    exact law3_ok ⟨s1,.inr s2⟩ hl3
  · have q':¬ ((hd p1.2 2:Nat):Int)=1:=by lia
    simp! [q,q']
    exact law3_ok (S:=[]) ⟨s1,.inl rfl⟩ hl2
structure FnI (G:Gl) (i:Nat) (x:Str) (names:List Str) (n e:Nat):Prop where
  ex:∃ a fd,FnAt G x a fd∧fd.scope=scopeAt i∧fd.body = .stmts (bodyAt i)∧∀ (s:Shared) (vs:List Value),(∀ b o,G.h₀.get? b=some o→s.heap.get? b=some o)→vs.length=n→BindsTo s fd ⟨vs,[]⟩ (names.zip (vs++List.replicate e .none))
theorem FnI.has {G:Gl} {i n e m u lv:Nat} {x:Str} {names slots:List Str} {T:Tr Fl} {R:FnR} (F:FnI G i x names n e) (sh:Shape (scopeAt i) names slots) (w:WSs G ⟨lv,scopeAt i,slots,true⟩ (bodyAt i) T) (t:HT m n e u T R) (hl:names.length=n+e) (hu:slots.length - names.length=u):HasF G (lv+1) x n m R:=by
  refine kEEAAA F.ex fun a fd h1 h2 h3 h4=>?_
  subst hu
  exact ⟨a,fd,h1,SemF.fn h1 (by rw [h2]; exact sh) h3 hl h4 (by rw [h2]; exact w.h) t⟩
theorem Room.down {A:Around} {lv lv':Nat} (h:Room A lv') (hl:lv≤lv'):Room A lv:=⟨h.hd,by have:=h.dp; lia,by have:=h.un; lia⟩
theorem HasF.up {G:Gl} {lv lv' n m:Nat} {x:Str} {R:FnR} (h:HasF G lv x n m R) (hl:lv≤lv'):HasF G lv' x n m R:=by
  refine kEEA h fun a fd h1 h2=>?_
  exact ⟨a,fd,h1,fun c A s g st Q ys vs r=>h2 c A s g st Q ys vs (r.down hl)⟩
structure Fns (G:Gl):Prop where
  flagged:FnI G 4 "flagged" ["result", "c", "v", "h"] 3 1
  target_of:FnI G 16 "target_of" ["row", "index"] 2 0
  falls_through:FnI G 17 "falls_through" ["row"] 1 0
  can_jump:FnI G 18 "can_jump" ["row"] 1 0
  calculations:FnI G 21 "calculations" [] 0 0
  is_load:FnI G 22 "is_load" ["row"] 1 0
  own_addresses:FnI G 25 "own_addresses" ["o"] 1 0
  signed:FnI G 36 "signed" ["word"] 1 0
  first_state:FnI G 37 "first_state" [] 0 0
  joined:FnI G 38 "joined" ["first", "second"] 2 0
  moved:FnI G 39 "moved" ["value", "amount"] 2 0
  frame_place:FnI G 42 "frame_place" ["row", "regs"] 2 0
  control_words:FnI G 44 "control_words" ["words"] 1 0
  is_call:FnI G 46 "is_call" ["row"] 1 0
  is_table:FnI G 51 "is_table" ["rows", "place"] 2 0
  return_faults:FnI G 52 "return_faults" ["place", "regs"] 2 0
  call_faults:FnI G 53 "call_faults" ["place", "regs"] 2 0
  fixed_rows:FnI G 54 "fixed_rows" ["o"] 1 0
  l_law_figures:FnI G 60 "_law_figures" ["script"] 1 0
  l_law_draw:FnI G 61 "_law_draw" ["row", "most"] 2 0
  l_law_after:FnI G 65 "_law_after" ["step", "state"] 2 0
  l_law_joined:FnI G 66 "_law_joined" ["one", "two"] 2 0
  l_law_told:FnI G 68 "_law_told" ["step", "state", "at"] 3 0
  add:FnI G 5 "add" ["x", "y"] 2 0
  sub:FnI G 6 "sub" ["x", "y"] 2 0
  successors:FnI G 19 "successors" ["rows", "index"] 2 0
  base_name:FnI G 23 "base_name" ["row"] 1 0
  object_starts:FnI G 27 "object_starts" ["o"] 1 0
  stored_words:FnI G 43 "stored_words" ["row", "regs", "words"] 3 0
  called_state:FnI G 45 "called_state" ["regs", "words"] 2 0
  may_collect:FnI G 47 "may_collect" ["row"] 1 0
  l_law_body:FnI G 62 "_law_body" ["row", "room"] 2 0
  l_law_spoil:FnI G 63 "_law_spoil" ["row", "steps"] 2 0
  l_law_states:FnI G 67 "_law_states" ["steps", "start"] 2 0
  operate:FnI G 13 "operate" ["name", "x", "y"] 3 0
  procedure_starts:FnI G 50 "procedure_starts" ["o"] 1 0
  l_law_procedure:FnI G 64 "_law_procedure" ["row"] 1 0
  operated:FnI G 40 "operated" ["name", "left", "right"] 3 0
  result_value:FnI G 41 "result_value" ["row", "regs", "is_fixed"] 3 0
  state_behind:FnI G 48 "state_behind" ["row", "state", "is_fixed"] 3 0
  states_of:FnI G 49 "states_of" ["rows", "start", "fixed"] 3 0
  frame_faults:FnI G 55 "frame_faults" ["o"] 1 0
  map_faults:FnI G 56 "map_faults" ["o"] 1 0
theorem law_walk {G:Gl} {F:Frag} {fI:Addr} {fdI:FuncData} (P:PG G F fI fdI) (X:Fns G):WSs G ⟨30,scopeAt 69,S_law,true⟩ (bodyAt 69) (T_law R_figures R_proc R_draw R_law_states R_law_told R_frame_faults R_map_faults):=by
  have h_flagged:HasF G 1 "flagged" 3 0 R_flagged:=X.flagged.has sh_flagged (walk_flagged P (lv:=0) ) t_flagged rfl rfl
  have h_target_of:HasF G 1 "target_of" 2 0 R_target_of:=X.target_of.has sh_target_of (walk_target_of P (lv:=0) ) t_target_of rfl rfl
  have h_falls_through:HasF G 1 "falls_through" 1 0 R_falls_through:=X.falls_through.has sh_falls_through (walk_falls_through P (lv:=0) ) t_falls_through rfl rfl
  have h_can_jump:HasF G 1 "can_jump" 1 0 R_can_jump:=X.can_jump.has sh_can_jump (walk_can_jump P (lv:=0) ) t_can_jump rfl rfl
  have h_calculations:HasF G 1 "calculations" 0 0 R_calculations:=X.calculations.has sh_calculations (walk_calculations P (lv:=0) ) t_calculations rfl rfl
  have h_is_load:HasF G 1 "is_load" 1 0 R_is_load:=X.is_load.has sh_is_load (walk_is_load P (lv:=0) ) t_is_load rfl rfl
  have h_own_addresses:HasF G 1 "own_addresses" 1 0 R_own_addresses:=X.own_addresses.has sh_own_addresses (walk_own_addresses P (lv:=0) ) t_own_addresses rfl rfl
  have h_signed:HasF G 1 "signed" 1 0 R_signed:=X.signed.has sh_signed (walk_signed P (lv:=0) ) t_signed rfl rfl
  have h_first_state:HasF G 1 "first_state" 0 0 R_first_state:=X.first_state.has sh_first_state (walk_first_state P (lv:=0) ) t_first_state rfl rfl
  have h_joined:HasF G 1 "joined" 2 0 R_joined:=X.joined.has sh_joined (walk_joined P (lv:=0) ) t_joined rfl rfl
  have h_moved:HasF G 1 "moved" 2 0 R_moved:=X.moved.has sh_moved (walk_moved P (lv:=0) ) t_moved rfl rfl
  have h_frame_place:HasF G 1 "frame_place" 2 0 R_frame_place:=X.frame_place.has sh_frame_place (walk_frame_place P (lv:=0) ) t_frame_place rfl rfl
  have h_control_words:HasF G 1 "control_words" 1 0 R_control_words:=X.control_words.has sh_control_words (walk_control_words P (lv:=0) ) t_control_words rfl rfl
  have h_is_call:HasF G 1 "is_call" 1 0 R_is_call:=X.is_call.has sh_is_call (walk_is_call P (lv:=0) ) t_is_call rfl rfl
  have h_is_table:HasF G 1 "is_table" 2 0 R_is_table:=X.is_table.has sh_is_table (walk_is_table P (lv:=0) ) t_is_table rfl rfl
  have h_return_faults:HasF G 1 "return_faults" 2 0 R_return_faults:=X.return_faults.has sh_return_faults (walk_return_faults P (lv:=0) ) t_return_faults rfl rfl
  have h_call_faults:HasF G 1 "call_faults" 2 0 R_call_faults:=X.call_faults.has sh_call_faults (walk_call_faults P (lv:=0) ) t_call_faults rfl rfl
  have h_fixed_rows:HasF G 1 "fixed_rows" 1 0 R_fixed_rows:=X.fixed_rows.has sh_fixed_rows (walk_fixed_rows P (lv:=0) ) t_fixed_rows rfl rfl
  have h__law_figures:HasF G 1 "_law_figures" 1 0 R_figures:=X.l_law_figures.has sh__law_figures (walk__law_figures P (lv:=0) ) t_figures rfl rfl
  have h__law_draw:HasF G 1 "_law_draw" 2 1 R_draw:=X.l_law_draw.has sh__law_draw (walk__law_draw P (lv:=0) ) t_draw rfl rfl
  have h__law_after:HasF G 1 "_law_after" 2 0 R_law_after:=X.l_law_after.has sh__law_after (walk__law_after P (lv:=0) ) t_law_after rfl rfl
  have h__law_joined:HasF G 1 "_law_joined" 2 0 R_law_joined:=X.l_law_joined.has sh__law_joined (walk__law_joined P (lv:=0) ) t_law_joined rfl rfl
  have h__law_told:HasF G 1 "_law_told" 3 0 R_law_told:=X.l_law_told.has sh__law_told (walk__law_told P (lv:=0) ) t_law_told rfl rfl
  have h_add:HasF G 2 "add" 2 0 R_add:=X.add.has sh_add (walk_add P (lv:=1) (h_flagged.up (by decide))) t_add rfl rfl
  have h_sub:HasF G 2 "sub" 2 0 R_sub:=X.sub.has sh_sub (walk_sub P (lv:=1) (h_flagged.up (by decide))) t_sub rfl rfl
  have h_successors:HasF G 2 "successors" 2 0 R_successors:=X.successors.has sh_successors (walk_successors P (lv:=1) (h_falls_through.up (by decide)) (h_can_jump.up (by decide)) (h_target_of.up (by decide))) t_successors rfl rfl
  have h_base_name:HasF G 2 "base_name" 1 0 R_base_name:=X.base_name.has sh_base_name (walk_base_name P (lv:=1) (h_calculations.up (by decide))) t_base_name rfl rfl
  have h_object_starts:HasF G 2 "object_starts" 1 0 R_object_starts:=X.object_starts.has sh_object_starts (walk_object_starts P (lv:=1) (h_own_addresses.up (by decide))) t_object_starts rfl rfl
  have h_stored_words:HasF G 2 "stored_words" 3 0 R_stored_words:=X.stored_words.has sh_stored_words (walk_stored_words P (lv:=1) (h_frame_place.up (by decide))) t_stored_words rfl rfl
  have h_called_state:HasF G 2 "called_state" 2 0 R_called_state:=X.called_state.has sh_called_state (walk_called_state P (lv:=1) (h_control_words.up (by decide))) t_called_state rfl rfl
  have h_may_collect:HasF G 2 "may_collect" 1 0 R_may_collect:=X.may_collect.has sh_may_collect (walk_may_collect P (lv:=1) (h_is_call.up (by decide))) t_may_collect rfl rfl
  have h__law_body:HasF G 2 "_law_body" 2 1 R_body:=X.l_law_body.has sh__law_body (walk__law_body P (lv:=1) (h__law_draw.up (by decide))) t_body rfl rfl
  have h__law_spoil:HasF G 2 "_law_spoil" 2 2 R_spoil:=X.l_law_spoil.has sh__law_spoil (walk__law_spoil P (lv:=1) (h__law_draw.up (by decide))) t_spoil rfl rfl
  have h__law_states:HasF G 2 "_law_states" 2 0 R_law_states:=X.l_law_states.has sh__law_states (walk__law_states P (lv:=1) (h__law_after.up (by decide)) (h__law_joined.up (by decide))) t_law_states rfl rfl
  have h_operate:HasF G 3 "operate" 3 0 R_operate:=X.operate.has sh_operate (walk_operate P (lv:=2) (h_add.up (by decide)) (h_sub.up (by decide))) t_operate rfl rfl
  have h_procedure_starts:HasF G 3 "procedure_starts" 1 0 R_procedure_starts:=X.procedure_starts.has sh_procedure_starts (walk_procedure_starts P (lv:=2) (h_object_starts.up (by decide)) (h_is_table.up (by decide))) t_procedure_starts rfl rfl
  have h__law_procedure:HasF G 3 "_law_procedure" 1 1 R_proc:=X.l_law_procedure.has sh__law_procedure (walk__law_procedure P (lv:=2) (h__law_draw.up (by decide)) (h__law_body.up (by decide)) (h__law_spoil.up (by decide))) t_proc rfl rfl
  have h_operated:HasF G 4 "operated" 3 0 R_operated:=X.operated.has sh_operated (walk_operated P (lv:=3) (h_operate.up (by decide)) (h_signed.up (by decide)) (h_moved.up (by decide))) t_operated rfl rfl
  have h_result_value:HasF G 5 "result_value" 3 0 R_result_value:=X.result_value.has sh_result_value (walk_result_value P (lv:=4) (h_base_name.up (by decide)) (h_operated.up (by decide))) t_result_value rfl rfl
  have h_state_behind:HasF G 6 "state_behind" 3 0 R_state_behind:=X.state_behind.has sh_state_behind (walk_state_behind P (lv:=5) (h_is_call.up (by decide)) (h_called_state.up (by decide)) (h_stored_words.up (by decide)) (h_is_load.up (by decide)) (h_frame_place.up (by decide)) (h_result_value.up (by decide))) t_state_behind rfl rfl
  have h_states_of:HasF G 7 "states_of" 3 0 R_states_of:=X.states_of.has sh_states_of (walk_states_of P (lv:=6) (h_first_state.up (by decide)) (h_state_behind.up (by decide)) (h_successors.up (by decide)) (h_joined.up (by decide))) t_states_of rfl rfl
  have h_frame_faults:HasF G 8 "frame_faults" 1 0 R_frame_faults:=X.frame_faults.has sh_frame_faults (walk_frame_faults P (lv:=7) (h_fixed_rows.up (by decide)) (h_procedure_starts.up (by decide)) (h_states_of.up (by decide)) (h_return_faults.up (by decide)) (h_is_call.up (by decide)) (h_call_faults.up (by decide))) t_frame_faults rfl rfl
  have h_map_faults:HasF G 8 "map_faults" 1 0 R_map_faults:=X.map_faults.has sh_map_faults (walk_map_faults P (lv:=7) (h_fixed_rows.up (by decide)) (h_procedure_starts.up (by decide)) (h_states_of.up (by decide)) (h_may_collect.up (by decide))) t_map_faults rfl rfl
  exact walk_law P (lv:=30) (h__law_figures.up (by decide)) (h__law_procedure.up (by decide)) (h__law_draw.up (by decide)) (h__law_states.up (by decide)) (h__law_told.up (by decide)) (h_frame_faults.up (by decide)) (h_map_faults.up (by decide)) (by decide)
theorem flv_true {y:Fl} {f:Flow} {st:St} {G:Gl} {h:Heap} {g:Gh} (hf:FlR G h g y f) (hq:finP 0 (.d (.bool true)) [] y st):f = .ret (.bool true):=by
  have hq':asD (flV y) (fun x' st2=>x' = .bool true∧st2.μ.take 0=[]) st:=hq
  cases y with
  | ret y=>
    cases f with
    | ret v=>
      cases y with
      | d x=>
        obtain ⟨rfl,_⟩:=hq'
        exact congrArg _ hf
      | own k=>
        exact onC_ok hq' (fun _ _ h=>nomatch h.1) (fun _ _ h=>nomatch h.1) fun _ _ h=>h.elim
      | _=>exact hq'.elim
    | _=>exact hf.elim
  | _=>cases hq'.1
section
set_option maxHeartbeats 2000000
theorem law_end2 {G:Gl} {F:Frag} {fI:Addr} {fdI:FuncData} (P:PG G F fI fdI) (X:Fns G) {A:Around} {env:Env} {s:Shared} {a:Addr} {ns:List Int} {m:Str→Option Value} (hA:Room A 30) (h1:env.scope=scopeAt 69) (h2:env.locals=G.h₀.objs.size) (h3:env.globals=mainGlobals) (h4:env.builtins=builtinsNs) (h5:env.cells=[])
    (hF:Fr G.h₀ G.h₀.objs.size s.heap m) (hm:m "script" = some (.ref a)) (hr:Rd G.w G.h₀ (.list (ns.map .int)) (.ref a)) (hlen:ns.length≤63) :
    wpAny (model G.prog G.w) A (execs (bodyAt 69) env) (fun f s'=>f = .ret (.bool true)∧(∀ b o,G.h₀.get? b=some o→s'.heap.get? b=some o)∧Rest s s') No s:=by
  have hfree:∀ b o,G.h₀.get? b=some o→b≠G.h₀.objs.size:=fun b o e=>Nat.ne_of_lt (Heap.lt_size e)
  obtain ⟨ol,hol⟩:∃ o,s.heap.get? G.h₀.objs.size=some o:=by obtain ⟨o,es,ep,ho,_⟩:=hF.ns; exact ⟨o,ho⟩
  have hJ:∀ b o,G.h₀.get? b=some o→(Gh.J ⟨[G.h₀.objs.size],[G.h₀.objs.size],[]⟩ s.heap).get? b=some o:=fun b o e=>hide_some.mpr ⟨by simpa using hfree b o e,hF.keep b o e⟩
  have hk:env.kindOf "script" = some .local:=by unfold Env.kindOf; rw [h1]; show (scopeAt 69).names.lookup ("script" : Str)=_; decide +kernel
  have R:RS G ⟨env,S_law,true⟩ ⟨[G.h₀.objs.size],[G.h₀.objs.size],[]⟩ (st0 0 [.d (.list (ns.map .int))] 0 12 []) s.heap:=by
    refine ⟨hJ,fun _ e=>e,fun b hb=>?_,(by show env.locals∈_; rw [h2]; exact List.mem_cons_self),⟨m,fun _=>none,(by show s.heap.Ns env.locals m; rw [h2]; exact hF.ns),fun n b e=>(by rw [show (Cx.env ⟨env,S_law,true⟩).cells=[] from h5] at e; cases e),fun i x y h1 h2 h3=>?_⟩,fun n b e=>(by rw [show (Cx.env ⟨env,S_law,true⟩).cells=[] from h5] at e; cases e),fun n n' b e=>(by rw [show (Cx.env ⟨env,S_law,true⟩).cells=[] from h5] at e; cases e),fun _ n b e=>(by rw [show (Cx.env ⟨env,S_law,true⟩).cells=[] from h5] at e; cases e),rfl,rfl,fun k q b e=>?_,fun j k p q b e=>?_⟩
    · obtain rfl:=List.mem_singleton.mp hb; exact ⟨ol,hol⟩
    · have hi:i=0:=by
        rcases i with _ | i
        · rfl
        · exfalso
          have:y = .u:=by
            have h2':(List.replicate 12 V.u)[i]?=some y:=by simpa [st0] using h2
            exact (List.mem_replicate.mp (List.mem_of_getElem? h2')).2
          exact h3 this
      subst hi
      obtain rfl:("script" : Str)=x:=by simpa [S_law] using h1
      obtain rfl:V.d (.list (ns.map .int))=y:=by simpa [st0] using h2
      refine ⟨.ref a,?_,?_⟩
      · show (if env.kindOf "script" = some .local then m "script" else none)=_
        rw [if_pos hk]; exact hm
      · exact Rd.mono hJ _ hr
    · cases e
    · cases e
  refine kAA (t_law [] [.d (.list (ns.map .int))] (.d (.bool true)) [] ⟨rfl,_,rfl,ns,hlen,rfl,rfl⟩ rfl rfl (fun _ e=>(nomatch e))) fun _ _ hT=>?_
  have hat:At ⟨30,scopeAt 69,S_law,true⟩ ⟨env,S_law,true⟩ A:=
    ⟨⟨(by show env.scope.kind=_; rw [h1]; exact sh_law.kind),h3,h4,sh_law.nd,fun x hx=>.inl (by show env.kindOf x=_; unfold Env.kindOf; rw [h1]; revert x; show ∀ x∈S_law,(scopeAt 69).names.lookup x=_; decide +kernel)⟩,h1,rfl,rfl,hA⟩
  refine wpAny_mono ((law_walk P X).h _ _ s _ _ _ hat R hT) (fun f s' ⟨y,st',g',go,hf,hq⟩=>?_) fun _ _ e=>e.elim
  refine ⟨flv_true hf hq,fun b o e=>?_,go.rest⟩
  exact go.le.same b o (by simpa using hfree b o e) (hF.keep b o e)
end
section
set_option maxHeartbeats 2000000
theorem room_law (e:Env):Room (callerA.deeper e) 30:=⟨rfl,Nat.le_of_ble_eq_true rfl,Nat.le_of_ble_eq_true rfl⟩
theorem law_enter {G:Gl} {F:Frag} {fI:Addr} {fdI:FuncData} (P:PG G F fI fdI) (X:Fns G) {s:Shared} {a fa:Addr} {ns:List Int} {Q:Value→Shared→Prop} {E:Value→Shared→Prop} {fd:FuncData} {o:Obj} (hs:s.heap=G.h₀)
    (ho:s.heap.get? fa=some o) (hd:o.data = .func fd) (hcd:s.heap.CodeRec fd.code fd.qualname) (hb:fd.body = .stmts (bodyAt 69)) (hsc:fd.scope=scopeAt 69) (hgl:fd.globals=mainGlobals) (hbl:fd.builtins=builtinsNs) (hclo:fd.closure=[])
    (hbind:BindsTo s fd ⟨[.ref a],[]⟩ [(("script" : Str),.ref a)]) (hr:Rd G.w G.h₀ (.list (ns.map .int)) (.ref a)) (hlen:ns.length≤63)
    (hq:∀ s',(∀ b o,G.h₀.get? b=some o→s'.heap.get? b=some o)→Rest s s'→Q (.bool true) s'):wpAny (model G.prog G.w) callerA (call (.ref fa) [.ref a]) Q E s:=by
  have hk:fd.scope.names.lookup ("script" : Str)=some .local:=by rw [hsc]; decide +kernel
  refine wpAny_call (call_cellsB (fd:=fd) (by decide) ho hd (by simp only [hs]; exact G.nolimit) hcd hb hbind hclo (fun y hy=>?_) (fun s1 Y=>?_) (by rw [hsc]; exact sh_law.co) (by rw [hsc]; exact sh_law.gen) (by rw [hsc]; exact sh_law.kind))
  · obtain rfl:=List.mem_singleton.mp hy; exact .inl hk
  · have hc:(callEnvC fd s.heap.objs.size fa).cells=[]:=by
      show cellsFrom (s.heap.objs.size+1) fd.scope.names []=[]
      rw [hsc]; kernel_rfl
    have x:=Y.toInCall
    have hloc:(callEnvC fd s.heap.objs.size fa).locals=G.h₀.objs.size:=by rw [← hs]; rfl
    have hfr:Fr G.h₀ G.h₀.objs.size s1.heap (bindL (callEnvC fd s.heap.objs.size fa).kindOf [(("script" : Str),.ref a)] fun _=>none):=⟨by rw [← hloc]; exact x.ns,by rw [← hs]; exact x.keep,Nat.le_refl _⟩
    have hkd:(callEnvC fd s.heap.objs.size fa).kindOf ("script" : Str)=some .local:=hk
    refine wpAny_mono (law_end2 P X (a:=a) (room_law _) hsc hloc hgl hbl hc hfr (by simp [bindL,hkd]) hr hlen) (fun f s2 z1=>kAA z1 fun e k r=>?_) fun _ _ e=>e.elim
    subst e
    refine hq s2 k (Rest.trans ?_ r)
    refine kEE x.same fun h' tk e=>?_
    simp only [e]; exact ⟨rfl,rfl,rfl⟩
end
section
set_option maxHeartbeats 4000000
noncomputable def kfC (x:Str) (t l n r:Nat) (a b c d:Value) (k:Nat):Obj:={ cls:=.type "code",data:=.fields #[.str x t,.str x (t+1),.str "/claim/cut.py" (t+2),.int l 0,.int n 0,.int 0 0,.int 0 0,.int 3 0,.ref r,.bool true,.int 181 0,a,.none,b,c,d,.int k 0,.int l 0,.str "/claim/cut.py" (k+1)] }
noncomputable def kfD (x:Str) (i:Nat) (d:Value) (m:Str) (t c:Nat):FuncData:={ name:=x,qualname:=x,params:=argsOf (stAt i),body:=.stmts (bodyAt i),scope:=scopeAt i,globals:=3,closure:=[],defaults:=d,kwdefaults:=.none,pyModule:=.str m t,code:=.ref c }
noncomputable def kfF (x:Str) (i:Nat) (d:Value) (m:Str) (t c:Nat):Obj:={ cls:=.type "function",data:=.func (kfD x i d m t c) }
noncomputable def kfE (P:Params) (x:Str) (t:Nat) (v:Value):DictEntry:={ hash:=PyData.keyHash P x,key:=.str x t,val:=v }
noncomputable def KF:Params→Frag:=fun P=>[
  (3,{ cls:=Value.type "dict",data:=Data.dict #[kfE P "__name__" 165 (.str "law_pb0358_01" 666),kfE P "__doc__" 166 .none,kfE P "__package__" 167 .none,kfE P "__loader__" 168 (.builtin "__main__.__loader__#opaque"),kfE P "__spec__" 169 .none,kfE P "__annotations__" 170 (.ref 6),kfE P "__builtins__" 171 (.ref 4),kfE P "__file__" 173 (.str "/claim/cut.py" 172),kfE P "__cached__" 174 .none,kfE P "MASK" 190 (.int 4294967295 189),kfE P "SIGN" 192 (.int 2147483648 191),kfE P "to_signed" 199 (.ref 21),kfE P "flagged" 209 (.ref 29),kfE P "add" 221 (.ref 36),kfE P "sub" 232 (.ref 43),kfE P "mul" 243 (.ref 50),kfE P "div" 254 (.ref 57),kfE P "shift_left" 262 (.ref 64),kfE P "shift_arith" 270 (.ref 71),kfE P "rotate" 279 (.ref 78),kfE P "bitwise" 288 (.ref 85),kfE P "operate" 297 (.ref 92),kfE P "END_OF_COMMAND" 301 (.int 9 300),kfE P "target_of" 309 (.ref 99),kfE P "falls_through" 317 (.ref 106),kfE P "can_jump" 324 (.ref 113),kfE P "successors" 335 (.ref 120),kfE P "calculations" 343 (.ref 127),kfE P "is_load" 350 (.ref 134),kfE P "base_name" 358 (.ref 141),kfE P "own_addresses" 372 (.ref 148),kfE P "object_starts" 387 (.ref 155),kfE P "WORD" 391 (.int 4294967296 390),kfE P "FRAME" 393 (.int 11 392),kfE P "STATIC" 395 (.int 13 394),kfE P "STACK" 397 (.int 14 396),kfE P "LINK" 399 (.int 15 398),kfE P "ANY" 401 (.ref 156),kfE P "DATA" 403 (.ref 157),kfE P "signed" 410 (.ref 164),kfE P "first_state" 416 (.ref 169),kfE P "joined" 429 (.ref 176),kfE P "moved" 437 (.ref 183),kfE P "operated" 447 (.ref 190),kfE P "result_value" 459 (.ref 197),kfE P "frame_place" 468 (.ref 204),kfE P "stored_words" 481 (.ref 211),kfE P "control_words" 490 (.ref 218),kfE P "called_state" 501 (.ref 225),kfE P "is_call" 508 (.ref 232),kfE P "may_collect" 515 (.ref 239),kfE P "state_behind" 530 (.ref 246),kfE P "states_of" 545 (.ref 253),kfE P "procedure_starts" 551 (.ref 258),kfE P "is_table" 559 (.ref 265),kfE P "return_faults" 568 (.ref 272),kfE P "call_faults" 578 (.ref 279),kfE P "fixed_rows" 590 (.ref 286),kfE P "frame_faults" 606 (.ref 293),kfE P "map_faults" 621 (.ref 300),kfE P "ObjectFile" 665 (.ref 317),kfE P "_law_figures" 678 (.ref 328),kfE P "_law_draw" 686 (.ref 335),kfE P "_law_body" 698 (.ref 342),kfE P "_law_spoil" 712 (.ref 349),kfE P "_law_procedure" 724 (.ref 356),kfE P "_law_after" 730 (.ref 361),kfE P "_law_joined" 736 (.ref 366),kfE P "_law_states" 742 (.ref 371),kfE P "_law_told" 753 (.ref 378),kfE P "law" 772 (.ref 385)] 71 }),
  (22,{ cls:=Value.type "tuple",data:=Data.seq #[Value.none] }),
  (28,kfC "flagged" 200 6 4 23 (.ref 24) (.ref 25) (.ref 26) (.ref 27) 207),
  (29,kfF "flagged" 4 (.ref 22) "moduleyard.alu" 187 28),
  (35,kfC "add" 210 8 2 30 (.ref 31) (.ref 32) (.ref 33) (.ref 34) 219),
  (36,kfF "add" 5 .none "moduleyard.alu" 187 35),
  (42,kfC "sub" 222 14 2 37 (.ref 38) (.ref 39) (.ref 40) (.ref 41) 230),
  (43,kfF "sub" 6 .none "moduleyard.alu" 187 42),
  (91,kfC "operate" 289 47 3 86 (.ref 87) (.ref 88) (.ref 89) (.ref 90) 295),
  (92,kfF "operate" 13 .none "moduleyard.alu" 187 91),
  (98,kfC "target_of" 302 67 2 93 (.ref 94) (.ref 95) (.ref 96) (.ref 97) 307),
  (99,kfF "target_of" 16 .none "moduleyard.flow" 298 98),
  (105,kfC "falls_through" 310 69 1 100 (.ref 101) (.ref 102) (.ref 103) (.ref 104) 315),
  (106,kfF "falls_through" 17 .none "moduleyard.flow" 298 105),
  (112,kfC "can_jump" 318 76 1 107 (.ref 108) (.ref 109) (.ref 110) (.ref 111) 322),
  (113,kfF "can_jump" 18 .none "moduleyard.flow" 298 112),
  (119,kfC "successors" 325 78 2 114 (.ref 115) (.ref 116) (.ref 117) (.ref 118) 333),
  (120,kfF "successors" 19 .none "moduleyard.flow" 298 119),
  (126,kfC "calculations" 338 89 0 121 (.ref 122) (.ref 123) (.ref 124) (.ref 125) 341),
  (127,kfF "calculations" 21 .none "moduleyard.rowdeps" 336 126),
  (133,kfC "is_load" 344 91 1 128 (.ref 129) (.ref 130) (.ref 131) (.ref 132) 348),
  (134,kfF "is_load" 22 .none "moduleyard.rowdeps" 336 133),
  (140,kfC "base_name" 351 93 1 135 (.ref 136) (.ref 137) (.ref 138) (.ref 139) 356),
  (141,kfF "base_name" 23 .none "moduleyard.rowdeps" 336 140),
  (147,kfC "own_addresses" 361 101 1 142 (.ref 143) (.ref 144) (.ref 145) (.ref 146) 370),
  (148,kfF "own_addresses" 25 .none "moduleyard.remap" 359 147),
  (154,kfC "object_starts" 375 108 1 149 (.ref 150) (.ref 151) (.ref 152) (.ref 153) 385),
  (155,kfF "object_starts" 27 .none "moduleyard.schedule" 373 154),
  (156,{ cls:=Value.type "tuple",data:=Data.seq #[Value.str (Str.ofString "any") 400] }),
  (157,{ cls:=Value.type "tuple",data:=Data.seq #[Value.str (Str.ofString "data") 402] }),
  (163,kfC "signed" 404 127 1 158 (.ref 159) (.ref 160) (.ref 161) (.ref 162) 408),
  (164,kfF "signed" 36 .none "moduleyard.rowkinds" 388 163),
  (168,kfC "first_state" 411 129 0 165 (.ref 166) .none .none (.ref 167) 414),
  (169,kfF "first_state" 37 .none "moduleyard.rowkinds" 388 168),
  (175,kfC "joined" 417 134 2 170 (.ref 171) (.ref 172) (.ref 173) (.ref 174) 427),
  (176,kfF "joined" 38 .none "moduleyard.rowkinds" 388 175),
  (182,kfC "moved" 430 144 2 177 (.ref 178) (.ref 179) (.ref 180) (.ref 181) 435),
  (183,kfF "moved" 39 .none "moduleyard.rowkinds" 388 182),
  (189,kfC "operated" 438 152 3 184 (.ref 185) (.ref 186) (.ref 187) (.ref 188) 445),
  (190,kfF "operated" 40 .none "moduleyard.rowkinds" 388 189),
  (196,kfC "result_value" 448 163 3 191 (.ref 192) (.ref 193) (.ref 194) (.ref 195) 457),
  (197,kfF "result_value" 41 .none "moduleyard.rowkinds" 388 196),
  (203,kfC "frame_place" 460 180 2 198 (.ref 199) (.ref 200) (.ref 201) (.ref 202) 466),
  (204,kfF "frame_place" 42 .none "moduleyard.rowkinds" 388 203),
  (210,kfC "stored_words" 469 185 3 205 (.ref 206) (.ref 207) (.ref 208) (.ref 209) 479),
  (211,kfF "stored_words" 43 .none "moduleyard.rowkinds" 388 210),
  (217,kfC "control_words" 482 197 1 212 (.ref 213) (.ref 214) (.ref 215) (.ref 216) 488),
  (218,kfF "control_words" 44 .none "moduleyard.rowkinds" 388 217),
  (224,kfC "called_state" 491 203 2 219 (.ref 220) (.ref 221) (.ref 222) (.ref 223) 499),
  (225,kfF "called_state" 45 .none "moduleyard.rowkinds" 388 224),
  (231,kfC "is_call" 502 211 1 226 (.ref 227) (.ref 228) (.ref 229) (.ref 230) 506),
  (232,kfF "is_call" 46 .none "moduleyard.rowkinds" 388 231),
  (238,kfC "may_collect" 509 213 1 233 (.ref 234) (.ref 235) (.ref 236) (.ref 237) 513),
  (239,kfF "may_collect" 47 .none "moduleyard.rowkinds" 388 238),
  (245,kfC "state_behind" 516 215 3 240 (.ref 241) (.ref 242) (.ref 243) (.ref 244) 528),
  (246,kfF "state_behind" 48 .none "moduleyard.rowkinds" 388 245),
  (252,kfC "states_of" 531 238 3 247 (.ref 248) (.ref 249) (.ref 250) (.ref 251) 543),
  (253,kfF "states_of" 49 .none "moduleyard.rowkinds" 388 252),
  (257,kfC "procedure_starts" 546 252 1 254 (.ref 255) .none .none (.ref 256) 549),
  (258,kfF "procedure_starts" 50 .none "moduleyard.rowkinds" 388 257),
  (264,kfC "is_table" 552 265 2 259 (.ref 260) (.ref 261) (.ref 262) (.ref 263) 557),
  (265,kfF "is_table" 51 .none "moduleyard.rowkinds" 388 264),
  (271,kfC "return_faults" 560 267 2 266 (.ref 267) (.ref 268) (.ref 269) (.ref 270) 566),
  (272,kfF "return_faults" 52 .none "moduleyard.rowkinds" 388 271),
  (278,kfC "call_faults" 569 276 2 273 (.ref 274) (.ref 275) (.ref 276) (.ref 277) 576),
  (279,kfF "call_faults" 53 .none "moduleyard.rowkinds" 388 278),
  (285,kfC "fixed_rows" 579 284 1 280 (.ref 281) (.ref 282) (.ref 283) (.ref 284) 588),
  (286,kfF "fixed_rows" 54 .none "moduleyard.rowkinds" 388 285),
  (292,kfC "frame_faults" 591 289 1 287 (.ref 288) (.ref 289) (.ref 290) (.ref 291) 604),
  (293,kfF "frame_faults" 55 .none "moduleyard.rowkinds" 388 292),
  (299,kfC "map_faults" 607 305 1 294 (.ref 295) (.ref 296) (.ref 297) (.ref 298) 619),
  (300,kfF "map_faults" 56 .none "moduleyard.rowkinds" 388 299),
  (313,{ cls:=Value.type "code",data:=Data.fields #[Value.str (Str.ofString "__init__") 636,Value.str (Str.ofString "ObjectFile.__init__") 637,Value.str (Str.ofString "/claim/cut.py") 638,Value.int 322 0,Value.int 3 0,Value.int 0 0,Value.int 0 0,Value.int 3 0,Value.ref 308,Value.bool true,Value.int 181 0,Value.ref 309,Value.none,Value.ref 310,Value.ref 311,Value.ref 312,Value.int 642 0,Value.int 322 0,Value.str (Str.ofString "/claim/cut.py") 643] }),
  (314,{ cls:=Value.type "function",data:=Data.func { name:=Str.ofString "__init__",qualname:=Str.ofString "ObjectFile.__init__",params:=argsOf stI,body:=FuncBody.stmts (bodyOf stI),scope:=scopeOf stI,globals:=3,closure:=[],defaults:=Value.none,kwdefaults:=Value.none,pyModule:=Value.str (Str.ofString "moduleyard.objfile") 622,code:=Value.ref 313 } }),
  (316,{ cls:=Value.type "dict",data:=Data.dict #[kfE P "__module__" 631 (.str "moduleyard.objfile" 622),kfE P "__firstlineno__" 635 (.int 320 634),kfE P "__init__" 644 (.ref 314),kfE P "__static_attributes__" 658 (.ref 315),kfE P "__dict__" 660 (.ref 318),kfE P "__weakref__" 662 (.ref 319),kfE P "__doc__" 663 .none] 4 }),
  (317,{ cls:=Value.type "type",data:=Data.cls { name:=Str.ofString "ObjectFile",bases:=[Value.type "object"],mro:=[Value.ref 317,Value.type "object"],ns:=316,qualname:=Str.ofString "ObjectFile" },slots:=#[none,none,some (Value.str (Str.ofString "ObjectFile") 624),some (Value.str (Str.ofString "ObjectFile") 632),some (Value.builtin "object.__new__"),some (Value.bool true)] }),
  (327,kfC "_law_figures" 668 337 1 322 (.ref 323) (.ref 324) (.ref 325) (.ref 326) 676),
  (328,kfF "_law_figures" 60 .none "law_pb0358_01" 666 327),
  (334,kfC "_law_draw" 679 348 2 329 (.ref 330) (.ref 331) (.ref 332) (.ref 333) 684),
  (335,kfF "_law_draw" 61 .none "law_pb0358_01" 666 334),
  (341,kfC "_law_body" 687 350 2 336 (.ref 337) (.ref 338) (.ref 339) (.ref 340) 696),
  (342,kfF "_law_body" 62 .none "law_pb0358_01" 666 341),
  (348,kfC "_law_spoil" 699 371 2 343 (.ref 344) (.ref 345) (.ref 346) (.ref 347) 710),
  (349,kfF "_law_spoil" 63 .none "law_pb0358_01" 666 348),
  (355,kfC "_law_procedure" 713 386 1 350 (.ref 351) (.ref 352) (.ref 353) (.ref 354) 722),
  (356,kfF "_law_procedure" 64 .none "law_pb0358_01" 666 355),
  (360,kfC "_law_after" 725 400 2 357 (.ref 358) .none .none (.ref 359) 728),
  (361,kfF "_law_after" 65 .none "law_pb0358_01" 666 360),
  (365,kfC "_law_joined" 731 422 2 362 (.ref 363) .none .none (.ref 364) 734),
  (366,kfF "_law_joined" 66 .none "law_pb0358_01" 666 365),
  (370,kfC "_law_states" 737 425 2 367 (.ref 368) .none .none (.ref 369) 740),
  (371,kfF "_law_states" 67 .none "law_pb0358_01" 666 370),
  (377,kfC "_law_told" 743 442 3 372 (.ref 373) (.ref 374) (.ref 375) (.ref 376) 751),
  (378,kfF "_law_told" 68 .none "law_pb0358_01" 666 377),
  (384,kfC "law" 754 458 1 379 (.ref 380) (.ref 381) (.ref 382) (.ref 383) 770),
  (385,kfF "law" 69 .none "law_pb0358_01" 666 384)]
noncomputable def KA:List Addr:=[3,22,28,29,35,36,42,43,91,92,98,99,105,106,112,113,119,120,126,127,133,134,140,141,147,148,154,155,156,157,163,164,168,169,175,176,182,183,189,190,196,197,203,204,210,211,217,218,224,225,231,232,238,239,245,246,252,253,257,258,264,265,271,272,278,279,285,286,292,293,299,300,313,314,316,317,327,328,334,335,341,342,348,349,355,356,360,361,365,366,370,371,377,378,384,385]
noncomputable def keepL:List Nat:=[69]
noncomputable def looseL:List Str:=(["MASK", "SIGN", "to_signed", "flagged", "add", "sub", "mul", "div", "shift_left", "shift_arith", "rotate", "bitwise", "operate", "END_OF_COMMAND", "target_of", "falls_through", "can_jump", "successors", "calculations", "is_load", "base_name", "own_addresses", "object_starts", "WORD", "FRAME", "STATIC", "STACK", "LINK", "ANY", "DATA", "signed", "first_state", "joined", "moved", "operated", "result_value", "frame_place", "stored_words", "control_words", "called_state", "is_call", "may_collect", "state_behind", "states_of", "procedure_starts", "is_table", "return_faults", "call_faults", "fixed_rows", "frame_faults", "map_faults", "ObjectFile", "_law_figures", "_law_draw", "_law_body", "_law_spoil", "_law_procedure", "_law_after", "_law_joined", "_law_states", "_law_told"]:List String).map Str.ofString
noncomputable def q:Program:=view PySem.Challenge.pw_pb0358_01 keepL
noncomputable def HK:Hook:=kHook KF KA (fun _=>by kernel_rfl)
noncomputable def tO (l:List Value):Obj:={ cls:=.type "tuple",data:=.seq ⟨l⟩ }
noncomputable def fO (l:List Value):Obj:={ cls:=.none,data:=.fields ⟨l⟩ }
noncomputable def xO (x:Str) (t l r s k:Nat):Obj:={ cls:=.type "code",data:=.fields ⟨[.str x t,.str x (t+1),.str "/claim/cut.py" (t+2),.int l 0,.int 0 0,.int 0 0,.int 0 0,.int 0 0,.ref r,.bool false,.int 181 0,.ref s,.none,.none,.none,.none,.int k 0,.int l 0,.str "/claim/cut.py" (k+1)]⟩ }
noncomputable def yO (c r:Nat) (v:Value):Obj:={ cls:=.type "frame",slots:=⟨[some (.ref c),some (.ref 3),some (.ref r),none,some v,none,some (.ref 0)]⟩ }
noncomputable def gO (x q:Str) (s:Stmt):Obj:={ cls:=.none,data:=.func { name:=x,qualname:=q,params:=argsOf s,body:=.stmts (bodyOf s),scope:=scopeOf s,globals:=0,closure:=[],defaults:=.none,kwdefaults:=.none } }
noncomputable def vN (l:List Str) (t:Nat):List Value:=(l.zipIdx t).map fun x=>.str x.1 x.2
noncomputable def kO (P:Params) (a:Nat):Obj:=((KF P).lookup a).getD (tO [])
noncomputable def kL (P:Params):List DictEntry:=match (kO P 3).data with
  | .dict a _=>a.toList
  | _=>[]
noncomputable def lN (i:Nat):Option (List Str×List Str):=localNames (argsOf (stAt i)) (scopeAt i) (.stmts (bodyAt i))
noncomputable def kh (x:Str) (i:Nat) (d m:Value) (c:Nat):Obj:={ cls:=.type "function",data:=.func { name:=x,qualname:=x,params:=argsOf (stAt i),body:=.stmts (bodyAt i),scope:=scopeAt i,globals:=3,closure:=[],defaults:=d,kwdefaults:=.none,pyModule:=m,code:=.ref c } }
noncomputable def kG (m:Value) (d:Value) (ls:List Nat):Nat→Nat→Nat→List Obj×List Value:=
  ls.foldr (fun l k i a t=>match lN i with
    | some (v,_)=>let r:=k (i+1) (a+7) (t+6+v.length)
      (tO [] :: fO [] :: tO (vN v (t+3)) :: tO [] :: gO (nameOf (stAt i)) (nameOf (stAt i)) (stAt i) :: kfC (nameOf (stAt i)) t l (argsOf (stAt i)).args.length a (.ref (a+1)) (.ref (a+2)) (.ref (a+3)) (.ref (a+4)) (t+3+v.length) :: kh (nameOf (stAt i)) i d m (a+5) :: r.1,.int l 0 :: .int 0 0 :: .ref (a+5) :: r.2)
    | none=>let r:=k (i+1) (a+5) (t+6)
      (tO [] :: fO [] :: gO (nameOf (stAt i)) (nameOf (stAt i)) (stAt i) :: kfC (nameOf (stAt i)) t l (argsOf (stAt i)).args.length a (.ref (a+1)) .none .none (.ref (a+2)) (t+3) :: kh (nameOf (stAt i)) i d m (a+3) :: r.1,.int l 0 :: .int 0 0 :: .ref (a+3) :: r.2)) fun _ _ _=>([],[])
noncomputable def ap (x y:List Obj×List Value):List Obj×List Value:=(x.1++y.1,x.2++y.2)
noncomputable def kC (P:Params):List Obj:=[tO [],{ cls:=.type "builtin_function_or_method",data:=.fields #[.builtin "type.__prepare__",.type "type"] },{ cls:=.type "dict",data:=.dict #[kfE P "__module__" 631 (.str "moduleyard.objfile" 622),kfE P "__qualname__" 633 (.str "ObjectFile" 632),kfE P "__firstlineno__" 635 (.int 320 634),kfE P "__init__" 644 (.ref 314),kfE P "__static_attributes__" 658 (.ref 315)] 5 },tO [],fO [.int 322 0,.int 4 0,.ref 313],xO "ObjectFile" 626 320 304 305 629,yO 306 303 (.str "moduleyard.objfile" 622),tO [],fO [],tO (vN ["self", "name", "key"] 639),tO [],gO "__init__" "ObjectFile.__init__" stI,kO P 313,kO P 314,tO (vN ["body", "commands", "data_fixups", "data_size", "entries", "fixups", "imports", "key", "maps", "name", "pointers", "rows", "words"] 645),kO P 316,kO P 317,{ cls:=.type "getset_descriptor",data:=.fields #[.str "__dict__" 659,.ref 317,.builtin "function.__dict__",.builtin "function.__dict__#set"] },{ cls:=.type "getset_descriptor",data:=.fields #[.str "__weakref__" 661,.ref 317,.builtin "ExceptionGroup.__weakref__",.none] },{ cls:=.type "super",data:=.fields #[.ref 317,.ref 317,.ref 317] },{ cls:=.type "builtin_function_or_method",data:=.fields #[.builtin "object.__init_subclass__",.ref 317] }]
noncomputable abbrev mA:Value:=.str "moduleyard.alu" 187
noncomputable abbrev mF:Value:=.str "moduleyard.flow" 298
noncomputable abbrev mK:Value:=.str "moduleyard.rowkinds" 388
noncomputable abbrev mL:Value:=.str "law_pb0358_01" 666
noncomputable def q1:List Obj×List Value:=ap (kG mA .none [4] 3 15 193) (ap ([tO [.none]],[]) (ap (kG mA (.ref 22) [6] 4 23 200) (kG mA .none [8,14,19,24,30] 5 30 210)))
noncomputable def q2:List Obj×List Value:=ap q1 (ap (kG mA .none [32,34,37,47] 10 65 263) (kG mF .none [67,69,76,78] 16 93 302))
noncomputable def q3:List Obj×List Value:=ap q2 (ap (kG (.str "moduleyard.rowdeps" 336) .none [89,91,93] 21 121 338) (ap (kG (.str "moduleyard.remap" 359) .none [101] 25 142 361) (kG (.str "moduleyard.schedule" 373) .none [108] 27 149 375)))
noncomputable def q4 (P:Params):List Obj×List Value:=ap q3 (ap ([kO P 156,kO P 157],[]) (kG mK .none [127,129,134,144,152] 36 158 404))
noncomputable def q5 (P:Params):List Obj×List Value:=ap (q4 P) (kG mK .none [163,180,185,197,203,211] 41 191 448)
noncomputable def q6 (P:Params):List Obj×List Value:=ap (q5 P) (kG mK .none [213,215,238,252,265] 47 233 509)
noncomputable def q7 (P:Params):List Obj×List Value:=ap (q6 P) (kG mK .none [267,276,284,289,305] 52 266 560)
noncomputable def qc (P:Params):List Obj×List Value:=ap (q7 P) (kC P,[.int 320 0,.int 0 0,.ref 306])
noncomputable def q8 (P:Params):List Obj×List Value:=ap (qc P) (kG mL .none [337,348,350,371] 60 322 668)
noncomputable def q9 (P:Params):List Obj×List Value:=ap (q8 P) (kG mL .none [386,400,422,425,442,458] 64 350 713)
noncomputable def hp (P:Params) (m:Value) (n:Nat) (q:List Obj×List Value):Heap:={ objs:=⟨[boot_o_0 P,boot_o_1 P,boot_o_2 P,{ cls:=.type "dict",data:=.dict ⟨kfE P "__name__" 165 m :: (kL P).tail.take n⟩ (n+1) },boot_o_4 P,boot_o_5 P,boot_o_6 P,boot_o_7 P,boot_o_8 P,boot_o_9 P,boot_o_10 P,tO [],fO q.2,xO "<module>" 182 1 11 12 185,yO 13 3 (.str "__main__" 164)]++q.1⟩ }
noncomputable def hg0 (P:Params):Heap:=hp P (.str "__main__" 164) 8 ([],[])
noncomputable def hg1 (P:Params):Heap:=hp P mA 17 q1
noncomputable def hg2 (P:Params):Heap:=hp P mF 26 q2
noncomputable def hg3 (P:Params):Heap:=hp P (.str "moduleyard.schedule" 373) 31 q3
noncomputable def hg4 (P:Params):Heap:=hp P mK 43 (q4 P)
noncomputable def hg5 (P:Params):Heap:=hp P mK 49 (q5 P)
noncomputable def hg6 (P:Params):Heap:=hp P mK 54 (q6 P)
noncomputable def hg7 (P:Params):Heap:=hp P mK 59 (q7 P)
noncomputable def hg8 (P:Params):Heap:=hp P (.str "moduleyard.objfile" 622) 60 (qc P)
noncomputable def hg9 (P:Params):Heap:=hp P mL 64 (q8 P)
noncomputable def hg10 (P:Params):Heap:=hp P mL 70 (q9 P)
noncomputable abbrev pj:Program:=PySem.Challenge.pw_pb0358_01
noncomputable def en:Env:={ scope:=pj.main.scope,locals:=mainNs,globals:=mainNs,cells:=[],code:=.ref 13,frame:=some 14 }
noncomputable def bd:List Stmt:=behindTheImports pj
noncomputable def cd:Code:=.body bd en
noncomputable abbrev p0:Pos:=⟨0,0,0,0⟩
noncomputable abbrev sh (h:Heap) (t:Nat) (os:OsState):Shared:={ heap:=h,gens:=⟨[]⟩,drawn:={},toks:=t,os:=os }
noncomputable abbrev pS (w:World) (os:OsState) (a m:Nat) (h:Heap) (t:Nat) (p:Pos) (h':Heap) (t':Nat) (p':Pos):Prop:=segRun treeTable pj w 11 (some (.ref 6)) 1 300 (sh h t os) (piecesOf ((bd.drop a).take m) en cd p [topFrame p0])=some (.next,sh h' t' os,cd,p')
theorem pcs {w:World} {os:OsState} {a m N:Nat} {h h':Heap} {t t':Nat} {p p':Pos} {r:Shared} (x:pS w os a m h t p h' t' p') (k:topRun treeTable pj w 11 (some (.ref 6)) N (sh h' t' os) (restOf (bd.drop (a+m)) en cd p' [topFrame p0])=some r):topRun treeTable pj w 11 (some (.ref 6)) (300+N) (sh h t os) (restOf (bd.drop a) en cd p [topFrame p0])=some r:=by
  have y:=piece_app x k
  rwa [← List.drop_drop,List.take_append_drop] at y
theorem r0 (w:World) (os:OsState):pS w os 0 10 (hg0 w.params) 187 p0 (hg1 w.params) 263 ⟨30,0,31,46⟩:=by kernel_rfl
theorem r1 (w:World) (os:OsState):pS w os 10 10 (hg1 w.params) 263 ⟨30,0,31,46⟩ (hg2 w.params) 336 ⟨78,0,87,24⟩:=by kernel_rfl
theorem r2 (w:World) (os:OsState):pS w os 20 8 (hg2 w.params) 336 ⟨78,0,87,24⟩ (hg3 w.params) 388 ⟨108,0,118,24⟩:=by kernel_rfl
theorem r3 (w:World) (os:OsState):pS w os 28 13 (hg3 w.params) 388 ⟨108,0,118,24⟩ (hg4 w.params) 448 ⟨152,0,162,14⟩:=by kernel_rfl
theorem r4 (w:World) (os:OsState):pS w os 41 6 (hg4 w.params) 448 ⟨152,0,162,14⟩ (hg5 w.params) 509 ⟨211,0,212,44⟩:=by kernel_rfl
theorem r5 (w:World) (os:OsState):pS w os 47 5 (hg5 w.params) 509 ⟨211,0,212,44⟩ (hg6 w.params) 560 ⟨265,0,266,32⟩:=by kernel_rfl
theorem r6 (w:World) (os:OsState):pS w os 52 5 (hg6 w.params) 560 ⟨265,0,266,32⟩ (hg7 w.params) 622 ⟨305,0,318,24⟩:=by kernel_rfl
theorem r7 (w:World) (os:OsState):pS w os 57 2 (hg7 w.params) 622 ⟨305,0,318,24⟩ (hg8 w.params) 666 ⟨320,0,335,21⟩:=by kernel_rfl
theorem r8 (w:World) (os:OsState):pS w os 59 5 (hg8 w.params) 666 ⟨320,0,335,21⟩ (hg9 w.params) 713 ⟨371,0,385,82⟩:=by kernel_rfl
theorem r9 (w:World) (os:OsState):pS w os 64 6 (hg9 w.params) 713 ⟨371,0,385,82⟩ (hg10 w.params) 773 ⟨458,0,484,80⟩:=by kernel_rfl
theorem re (w:World) (os:OsState):topRun treeTable pj w 11 (some (.ref 6)) 5 (sh (hg10 w.params) 773 os) (restOf (bd.drop (64+6)) en cd ⟨458,0,484,80⟩ [topFrame p0])=some (sh (hg10 w.params) 773 os):=by kernel_rfl
theorem rb (w:World) (os:OsState):segRun treeTable pj w 11 (some (.ref 6)) 1 9 (sh (hg0 w.params) 187 os) (blockOf bd en cd p0 [topFrame p0])=some (.next,sh (hg0 w.params) 187 os,cd,p0):=by kernel_rfl
theorem ra (w:World) (os:OsState):topGo treeTable pj w 11 (some (.ref 6)) 12 ⟨boot_heap w.params,⟨[]⟩,boot_drawn,boot_toks,os⟩ (topStub pj)=some (sh (hg0 w.params) 187 os,⟨denote treeTable cd,cd,p0,[topFrame p0]⟩):=by kernel_rfl
theorem lb {a b:Bool} (x:a=true) (y:b=true):(a&&b)=true:=by rw [x,y]; rfl
theorem sa1:readsOut pj pj.main.body "vars" = false:=by kernel_rfl
theorem sa2:readsOut pj pj.main.body "dir" = false:=by kernel_rfl
theorem sa3:readsOut pj pj.main.body "locals" = false:=by kernel_rfl
theorem sa4:namesResolve pj=true:=by kernel_rfl
theorem sa5:namesMeet pj pj.main.body (fun _ n=>attrL n)=true:=by kernel_rfl
theorem sa6:looksOpen pj=true:=by
  delta looksOpen
  refine lb (lb (lb (lb (by kernel_rfl) sa4) (by kernel_rfl)) ?_) sa5
  rw [List.filter_cons_of_neg (by rw [sa1]; exact Bool.false_ne_true),List.filter_cons_of_neg (by rw [sa2]; exact Bool.false_ne_true),List.filter_cons_of_neg (by rw [sa3]; exact Bool.false_ne_true)]
  kernel_rfl
theorem sa7:PySem.Challenge.rw_pb0358_01.row.wellSaid=true:=by
  delta OpenRow.wellSaid
  refine lb (lb ?_ (by kernel_rfl)) (by kernel_rfl)
  delta OpenRow.partSaid
  iterate 13 (refine lb ?_ (by kernel_rfl))
  exact sa6
theorem sa8:namesMeet PySem.Challenge.rw_pb0358_01.prog PySem.Challenge.rw_pb0358_01.above (fun _ n=>!PySem.Challenge.rw_pb0358_01.own.contains n)=true:=by kernel_rfl
theorem said:PySem.Challenge.rw_pb0358_01.wellSaid=true:=by
  delta OpenLaw.wellSaid
  refine lb (lb ?_ sa8) (by kernel_rfl)
  iterate 16 (refine lb ?_ (by kernel_rfl))
  exact sa7
theorem left:LeftO pj q looseL (fun s=>xlAt q [] s&&recOk [] s) HK.obs HK.val 4170:=
  LeftO.of_pieces (H₀:=boot_heap) (H₁:=hg10) (boot_open (by kernel_rfl) rfl fun _=>by kernel_rfl) (fun _=>by kernel_rfl)
    (fun w os=>go_top (ra w os) (piece_block (rb w os) (pcs (r0 w os) (pcs (r1 w os) (pcs (r2 w os) (pcs (r3 w os) (pcs (r4 w os) (pcs (r5 w os) (pcs (r6 w os) (pcs (r7 w os) (pcs (r8 w os) (pcs (r9 w os) (re w os)))))))))))))
    rfl (fun _=>by kernel_rfl)
end
section
set_option maxHeartbeats 0
noncomputable def lawD:DefRec:={ name := "law",params:=argsOf (stAt 69),body:=bodyAt 69,scope:=scopeAt 69,pos:={ line:=458,col:=0,endLine:=484,endCol:=80 } }
theorem head (call:WalkO q looseL (XL q []) HK.says PySem.Challenge.rw_pb0358_01.row.toRowW lawD [] fun f vs=>PySem.call f vs):PySem.Challenge.rw_pb0358_01.Holds:=
  holds_law said fun hs=>holds_open (r:=PySem.Challenge.rw_pb0358_01.row) (q:=q) (loose:=looseL) (Xt:=fun s=>xlAt q [] s&&recOk [] s) (XP:=XL q []) (Yf:=HK.obs) (Ya:=HK.val) (YP:=HK.says) (N:=4170) (d:=lawD) (kwd:=[])
    left HK.of HK.keeps (fun s e=>xl_of s (Bool.and_eq_true_iff.mp e).1) XL.keeps (by kernel_rfl) (by kernel_rfl) (by kernel_rfl) (fun s e=>recFacts_of (Bool.and_eq_true_iff.mp e).2) rfl hs (by kernel_rfl) ⟨rfl,rfl,rfl,rfl,rfl,by decide +kernel⟩ (by w_witness2) call
end
section
set_option maxHeartbeats 8000000
noncomputable def AllN:Nat→(List Value→Prop)→Prop
  | 0,P=>P []
  | n+1,P=>∀ v,AllN n fun r=>P (v :: r)
theorem AllN.at {n:Nat} {P:List Value→Prop} (h:AllN n P) {vs:List Value} (e:vs.length=n):P vs:=by
  subst e
  induction vs generalizing P with
  | nil=>exact h
  | cons v r ih=>exact ih (h v)
theorem FnI.of {G:Gl} {K:Frag} {a i n e:Nat} {x m:Str} {names:List Str} {d:Value} {t c:Nat} (X:K.In G.h₀) (h1:nsIn K mainGlobals x=some (some (.ref a))) (h2:K.lookup a=some (kfF x i d m t c)) (h3:codeIn K (.ref c) x=true)
    (h4:AllN n fun vs=>∀ S,peek K S (bindArgs (kfD x i d m t c) ⟨vs,[]⟩)=some (names.zip (vs++List.replicate e .none))):FnI G i x names n e:=
  ⟨a,_,⟨mg_of X G.g h1,⟨_,X _ _ h2,rfl⟩,codeRec_of X h3,rfl,rfl,rfl⟩,rfl,rfl,fun _ _ k hl=>kp_binds (X.keeps k) (h4.at hl)⟩
theorem GC.int {G:Gl} {K:Frag} {x:Str} {i:Int} (X:K.In G.h₀) (h:∃ t,nsIn K mainGlobals x=some (some (.int i t))):GC G x (.int i):=by
  refine kE h fun t h=>?_
  exact ⟨_,mg_of X G.g h,rd_int⟩
theorem GC.tup1 {G:Gl} {K:Frag} {x:Str} {i:Str} {a:Nat} (X:K.In G.h₀) (h:nsIn K mainGlobals x=some (some (.ref a))) (h2:∃ t n,K.lookup a=some (tup #[.str i t] n)):GC G x (.tuple [.str i]):=by
  refine kEE h2 fun t n h2=>?_
  refine ⟨_,mg_of X G.g h,?_⟩
  refine ⟨a,#[.str i t],n,rfl,X _ _ h2,?_⟩
  exact ⟨_,_,rfl,rd_str,by simp only [RdL]⟩
theorem no_of {K:Frag} {C:Addr} {names:List Str} (h:names.map (fun n=>findIn K (.ref C) n)=names.map fun _=>some none):∀ n∈names,findIn K (.ref C) n=some none:=fun n hn=>by
  refine kE (List.getElem?_of_mem hn) fun i hi=>?_
  have:=congrArg (fun l=>l[i]?) h
  simpa [hi] using this
theorem k_flagged {G:Gl} {p:Params} (X:(KF p).In G.h₀):FnI G 4 "flagged" ["result", "c", "v", "h"] 3 1:=.of X (a:=29) (d:=(.ref 22)) (m := "moduleyard.alu") (t:=187) (c:=28) (by kernel_rfl) (by kernel_rfl) (by kernel_rfl) fun a b c S=>by kernel_rfl
theorem k_target_of {G:Gl} {p:Params} (X:(KF p).In G.h₀):FnI G 16 "target_of" ["row", "index"] 2 0:=.of X (a:=99) (d:=.none) (m := "moduleyard.flow") (t:=298) (c:=98) (by kernel_rfl) (by kernel_rfl) (by kernel_rfl) fun a b S=>by kernel_rfl
theorem k_falls_through {G:Gl} {p:Params} (X:(KF p).In G.h₀):FnI G 17 "falls_through" ["row"] 1 0:=.of X (a:=106) (d:=.none) (m := "moduleyard.flow") (t:=298) (c:=105) (by kernel_rfl) (by kernel_rfl) (by kernel_rfl) fun a S=>by kernel_rfl
theorem k_can_jump {G:Gl} {p:Params} (X:(KF p).In G.h₀):FnI G 18 "can_jump" ["row"] 1 0:=.of X (a:=113) (d:=.none) (m := "moduleyard.flow") (t:=298) (c:=112) (by kernel_rfl) (by kernel_rfl) (by kernel_rfl) fun a S=>by kernel_rfl
theorem k_calculations {G:Gl} {p:Params} (X:(KF p).In G.h₀):FnI G 21 "calculations" [] 0 0:=.of X (a:=127) (d:=.none) (m := "moduleyard.rowdeps") (t:=336) (c:=126) (by kernel_rfl) (by kernel_rfl) (by kernel_rfl) fun S=>by kernel_rfl
theorem k_is_load {G:Gl} {p:Params} (X:(KF p).In G.h₀):FnI G 22 "is_load" ["row"] 1 0:=.of X (a:=134) (d:=.none) (m := "moduleyard.rowdeps") (t:=336) (c:=133) (by kernel_rfl) (by kernel_rfl) (by kernel_rfl) fun a S=>by kernel_rfl
theorem k_own_addresses {G:Gl} {p:Params} (X:(KF p).In G.h₀):FnI G 25 "own_addresses" ["o"] 1 0:=.of X (a:=148) (d:=.none) (m := "moduleyard.remap") (t:=359) (c:=147) (by kernel_rfl) (by kernel_rfl) (by kernel_rfl) fun a S=>by kernel_rfl
theorem k_signed {G:Gl} {p:Params} (X:(KF p).In G.h₀):FnI G 36 "signed" ["word"] 1 0:=.of X (a:=164) (d:=.none) (m := "moduleyard.rowkinds") (t:=388) (c:=163) (by kernel_rfl) (by kernel_rfl) (by kernel_rfl) fun a S=>by kernel_rfl
theorem k_first_state {G:Gl} {p:Params} (X:(KF p).In G.h₀):FnI G 37 "first_state" [] 0 0:=.of X (a:=169) (d:=.none) (m := "moduleyard.rowkinds") (t:=388) (c:=168) (by kernel_rfl) (by kernel_rfl) (by kernel_rfl) fun S=>by kernel_rfl
theorem k_joined {G:Gl} {p:Params} (X:(KF p).In G.h₀):FnI G 38 "joined" ["first", "second"] 2 0:=.of X (a:=176) (d:=.none) (m := "moduleyard.rowkinds") (t:=388) (c:=175) (by kernel_rfl) (by kernel_rfl) (by kernel_rfl) fun a b S=>by kernel_rfl
theorem k_moved {G:Gl} {p:Params} (X:(KF p).In G.h₀):FnI G 39 "moved" ["value", "amount"] 2 0:=.of X (a:=183) (d:=.none) (m := "moduleyard.rowkinds") (t:=388) (c:=182) (by kernel_rfl) (by kernel_rfl) (by kernel_rfl) fun a b S=>by kernel_rfl
theorem k_frame_place {G:Gl} {p:Params} (X:(KF p).In G.h₀):FnI G 42 "frame_place" ["row", "regs"] 2 0:=.of X (a:=204) (d:=.none) (m := "moduleyard.rowkinds") (t:=388) (c:=203) (by kernel_rfl) (by kernel_rfl) (by kernel_rfl) fun a b S=>by kernel_rfl
theorem k_control_words {G:Gl} {p:Params} (X:(KF p).In G.h₀):FnI G 44 "control_words" ["words"] 1 0:=.of X (a:=218) (d:=.none) (m := "moduleyard.rowkinds") (t:=388) (c:=217) (by kernel_rfl) (by kernel_rfl) (by kernel_rfl) fun a S=>by kernel_rfl
theorem k_is_call {G:Gl} {p:Params} (X:(KF p).In G.h₀):FnI G 46 "is_call" ["row"] 1 0:=.of X (a:=232) (d:=.none) (m := "moduleyard.rowkinds") (t:=388) (c:=231) (by kernel_rfl) (by kernel_rfl) (by kernel_rfl) fun a S=>by kernel_rfl
theorem k_is_table {G:Gl} {p:Params} (X:(KF p).In G.h₀):FnI G 51 "is_table" ["rows", "place"] 2 0:=.of X (a:=265) (d:=.none) (m := "moduleyard.rowkinds") (t:=388) (c:=264) (by kernel_rfl) (by kernel_rfl) (by kernel_rfl) fun a b S=>by kernel_rfl
theorem k_return_faults {G:Gl} {p:Params} (X:(KF p).In G.h₀):FnI G 52 "return_faults" ["place", "regs"] 2 0:=.of X (a:=272) (d:=.none) (m := "moduleyard.rowkinds") (t:=388) (c:=271) (by kernel_rfl) (by kernel_rfl) (by kernel_rfl) fun a b S=>by kernel_rfl
theorem k_call_faults {G:Gl} {p:Params} (X:(KF p).In G.h₀):FnI G 53 "call_faults" ["place", "regs"] 2 0:=.of X (a:=279) (d:=.none) (m := "moduleyard.rowkinds") (t:=388) (c:=278) (by kernel_rfl) (by kernel_rfl) (by kernel_rfl) fun a b S=>by kernel_rfl
theorem k_fixed_rows {G:Gl} {p:Params} (X:(KF p).In G.h₀):FnI G 54 "fixed_rows" ["o"] 1 0:=.of X (a:=286) (d:=.none) (m := "moduleyard.rowkinds") (t:=388) (c:=285) (by kernel_rfl) (by kernel_rfl) (by kernel_rfl) fun a S=>by kernel_rfl
theorem k_l_law_figures {G:Gl} {p:Params} (X:(KF p).In G.h₀):FnI G 60 "_law_figures" ["script"] 1 0:=.of X (a:=328) (d:=.none) (m := "law_pb0358_01") (t:=666) (c:=327) (by kernel_rfl) (by kernel_rfl) (by kernel_rfl) fun a S=>by kernel_rfl
theorem k_l_law_draw {G:Gl} {p:Params} (X:(KF p).In G.h₀):FnI G 61 "_law_draw" ["row", "most"] 2 0:=.of X (a:=335) (d:=.none) (m := "law_pb0358_01") (t:=666) (c:=334) (by kernel_rfl) (by kernel_rfl) (by kernel_rfl) fun a b S=>by kernel_rfl
theorem k_l_law_after {G:Gl} {p:Params} (X:(KF p).In G.h₀):FnI G 65 "_law_after" ["step", "state"] 2 0:=.of X (a:=361) (d:=.none) (m := "law_pb0358_01") (t:=666) (c:=360) (by kernel_rfl) (by kernel_rfl) (by kernel_rfl) fun a b S=>by kernel_rfl
theorem k_l_law_joined {G:Gl} {p:Params} (X:(KF p).In G.h₀):FnI G 66 "_law_joined" ["one", "two"] 2 0:=.of X (a:=366) (d:=.none) (m := "law_pb0358_01") (t:=666) (c:=365) (by kernel_rfl) (by kernel_rfl) (by kernel_rfl) fun a b S=>by kernel_rfl
theorem k_l_law_told {G:Gl} {p:Params} (X:(KF p).In G.h₀):FnI G 68 "_law_told" ["step", "state", "at"] 3 0:=.of X (a:=378) (d:=.none) (m := "law_pb0358_01") (t:=666) (c:=377) (by kernel_rfl) (by kernel_rfl) (by kernel_rfl) fun a b c S=>by kernel_rfl
theorem k_add {G:Gl} {p:Params} (X:(KF p).In G.h₀):FnI G 5 "add" ["x", "y"] 2 0:=.of X (a:=36) (d:=.none) (m := "moduleyard.alu") (t:=187) (c:=35) (by kernel_rfl) (by kernel_rfl) (by kernel_rfl) fun a b S=>by kernel_rfl
theorem k_sub {G:Gl} {p:Params} (X:(KF p).In G.h₀):FnI G 6 "sub" ["x", "y"] 2 0:=.of X (a:=43) (d:=.none) (m := "moduleyard.alu") (t:=187) (c:=42) (by kernel_rfl) (by kernel_rfl) (by kernel_rfl) fun a b S=>by kernel_rfl
theorem k_successors {G:Gl} {p:Params} (X:(KF p).In G.h₀):FnI G 19 "successors" ["rows", "index"] 2 0:=.of X (a:=120) (d:=.none) (m := "moduleyard.flow") (t:=298) (c:=119) (by kernel_rfl) (by kernel_rfl) (by kernel_rfl) fun a b S=>by kernel_rfl
theorem k_base_name {G:Gl} {p:Params} (X:(KF p).In G.h₀):FnI G 23 "base_name" ["row"] 1 0:=.of X (a:=141) (d:=.none) (m := "moduleyard.rowdeps") (t:=336) (c:=140) (by kernel_rfl) (by kernel_rfl) (by kernel_rfl) fun a S=>by kernel_rfl
theorem k_object_starts {G:Gl} {p:Params} (X:(KF p).In G.h₀):FnI G 27 "object_starts" ["o"] 1 0:=.of X (a:=155) (d:=.none) (m := "moduleyard.schedule") (t:=373) (c:=154) (by kernel_rfl) (by kernel_rfl) (by kernel_rfl) fun a S=>by kernel_rfl
theorem k_stored_words {G:Gl} {p:Params} (X:(KF p).In G.h₀):FnI G 43 "stored_words" ["row", "regs", "words"] 3 0:=.of X (a:=211) (d:=.none) (m := "moduleyard.rowkinds") (t:=388) (c:=210) (by kernel_rfl) (by kernel_rfl) (by kernel_rfl) fun a b c S=>by kernel_rfl
theorem k_called_state {G:Gl} {p:Params} (X:(KF p).In G.h₀):FnI G 45 "called_state" ["regs", "words"] 2 0:=.of X (a:=225) (d:=.none) (m := "moduleyard.rowkinds") (t:=388) (c:=224) (by kernel_rfl) (by kernel_rfl) (by kernel_rfl) fun a b S=>by kernel_rfl
theorem k_may_collect {G:Gl} {p:Params} (X:(KF p).In G.h₀):FnI G 47 "may_collect" ["row"] 1 0:=.of X (a:=239) (d:=.none) (m := "moduleyard.rowkinds") (t:=388) (c:=238) (by kernel_rfl) (by kernel_rfl) (by kernel_rfl) fun a S=>by kernel_rfl
theorem k_l_law_body {G:Gl} {p:Params} (X:(KF p).In G.h₀):FnI G 62 "_law_body" ["row", "room"] 2 0:=.of X (a:=342) (d:=.none) (m := "law_pb0358_01") (t:=666) (c:=341) (by kernel_rfl) (by kernel_rfl) (by kernel_rfl) fun a b S=>by kernel_rfl
theorem k_l_law_spoil {G:Gl} {p:Params} (X:(KF p).In G.h₀):FnI G 63 "_law_spoil" ["row", "steps"] 2 0:=.of X (a:=349) (d:=.none) (m := "law_pb0358_01") (t:=666) (c:=348) (by kernel_rfl) (by kernel_rfl) (by kernel_rfl) fun a b S=>by kernel_rfl
theorem k_l_law_states {G:Gl} {p:Params} (X:(KF p).In G.h₀):FnI G 67 "_law_states" ["steps", "start"] 2 0:=.of X (a:=371) (d:=.none) (m := "law_pb0358_01") (t:=666) (c:=370) (by kernel_rfl) (by kernel_rfl) (by kernel_rfl) fun a b S=>by kernel_rfl
theorem k_operate {G:Gl} {p:Params} (X:(KF p).In G.h₀):FnI G 13 "operate" ["name", "x", "y"] 3 0:=.of X (a:=92) (d:=.none) (m := "moduleyard.alu") (t:=187) (c:=91) (by kernel_rfl) (by kernel_rfl) (by kernel_rfl) fun a b c S=>by kernel_rfl
theorem k_procedure_starts {G:Gl} {p:Params} (X:(KF p).In G.h₀):FnI G 50 "procedure_starts" ["o"] 1 0:=.of X (a:=258) (d:=.none) (m := "moduleyard.rowkinds") (t:=388) (c:=257) (by kernel_rfl) (by kernel_rfl) (by kernel_rfl) fun a S=>by kernel_rfl
theorem k_l_law_procedure {G:Gl} {p:Params} (X:(KF p).In G.h₀):FnI G 64 "_law_procedure" ["row"] 1 0:=.of X (a:=356) (d:=.none) (m := "law_pb0358_01") (t:=666) (c:=355) (by kernel_rfl) (by kernel_rfl) (by kernel_rfl) fun a S=>by kernel_rfl
theorem k_operated {G:Gl} {p:Params} (X:(KF p).In G.h₀):FnI G 40 "operated" ["name", "left", "right"] 3 0:=.of X (a:=190) (d:=.none) (m := "moduleyard.rowkinds") (t:=388) (c:=189) (by kernel_rfl) (by kernel_rfl) (by kernel_rfl) fun a b c S=>by kernel_rfl
theorem k_result_value {G:Gl} {p:Params} (X:(KF p).In G.h₀):FnI G 41 "result_value" ["row", "regs", "is_fixed"] 3 0:=.of X (a:=197) (d:=.none) (m := "moduleyard.rowkinds") (t:=388) (c:=196) (by kernel_rfl) (by kernel_rfl) (by kernel_rfl) fun a b c S=>by kernel_rfl
theorem k_state_behind {G:Gl} {p:Params} (X:(KF p).In G.h₀):FnI G 48 "state_behind" ["row", "state", "is_fixed"] 3 0:=.of X (a:=246) (d:=.none) (m := "moduleyard.rowkinds") (t:=388) (c:=245) (by kernel_rfl) (by kernel_rfl) (by kernel_rfl) fun a b c S=>by kernel_rfl
theorem k_states_of {G:Gl} {p:Params} (X:(KF p).In G.h₀):FnI G 49 "states_of" ["rows", "start", "fixed"] 3 0:=.of X (a:=253) (d:=.none) (m := "moduleyard.rowkinds") (t:=388) (c:=252) (by kernel_rfl) (by kernel_rfl) (by kernel_rfl) fun a b c S=>by kernel_rfl
theorem k_frame_faults {G:Gl} {p:Params} (X:(KF p).In G.h₀):FnI G 55 "frame_faults" ["o"] 1 0:=.of X (a:=293) (d:=.none) (m := "moduleyard.rowkinds") (t:=388) (c:=292) (by kernel_rfl) (by kernel_rfl) (by kernel_rfl) fun a S=>by kernel_rfl
theorem k_map_faults {G:Gl} {p:Params} (X:(KF p).In G.h₀):FnI G 56 "map_faults" ["o"] 1 0:=.of X (a:=300) (d:=.none) (m := "moduleyard.rowkinds") (t:=388) (c:=299) (by kernel_rfl) (by kernel_rfl) (by kernel_rfl) fun a S=>by kernel_rfl
theorem c_MASK {G:Gl} {p:Params} (X:(KF p).In G.h₀):GC G "MASK" (.int 4294967295):=GC.int X ⟨189,by kernel_rfl⟩
theorem c_SIGN {G:Gl} {p:Params} (X:(KF p).In G.h₀):GC G "SIGN" (.int 2147483648):=GC.int X ⟨191,by kernel_rfl⟩
theorem c_END_OF_COMMAND {G:Gl} {p:Params} (X:(KF p).In G.h₀):GC G "END_OF_COMMAND" (.int 9):=GC.int X ⟨300,by kernel_rfl⟩
theorem c_WORD {G:Gl} {p:Params} (X:(KF p).In G.h₀):GC G "WORD" (.int 4294967296):=GC.int X ⟨390,by kernel_rfl⟩
theorem c_FRAME {G:Gl} {p:Params} (X:(KF p).In G.h₀):GC G "FRAME" (.int 11):=GC.int X ⟨392,by kernel_rfl⟩
theorem c_STATIC {G:Gl} {p:Params} (X:(KF p).In G.h₀):GC G "STATIC" (.int 13):=GC.int X ⟨394,by kernel_rfl⟩
theorem c_STACK {G:Gl} {p:Params} (X:(KF p).In G.h₀):GC G "STACK" (.int 14):=GC.int X ⟨396,by kernel_rfl⟩
theorem c_LINK {G:Gl} {p:Params} (X:(KF p).In G.h₀):GC G "LINK" (.int 15):=GC.int X ⟨398,by kernel_rfl⟩
theorem c_ANY {G:Gl} {p:Params} (X:(KF p).In G.h₀):GC G "ANY" (.tuple [.str "any"]):=GC.tup1 X (a:=156) (by kernel_rfl) ⟨_,_,rfl⟩
theorem c_DATA {G:Gl} {p:Params} (X:(KF p).In G.h₀):GC G "DATA" (.tuple [.str "data"]):=GC.tup1 X (a:=157) (by kernel_rfl) ⟨_,_,rfl⟩
theorem b_len {G:Gl} {p:Params} (X:(KF p).In G.h₀):BG G "len" (.builtin "len"):=⟨mg_none_of X G.g (by kernel_rfl),(G.builtins _ (by decide +kernel)).trans (by first | rfl | kernel_rfl)⟩
theorem b_abs {G:Gl} {p:Params} (X:(KF p).In G.h₀):BG G "abs" (.builtin "abs"):=⟨mg_none_of X G.g (by kernel_rfl),(G.builtins _ (by decide +kernel)).trans (by first | rfl | kernel_rfl)⟩
theorem b_sorted {G:Gl} {p:Params} (X:(KF p).In G.h₀):BG G "sorted" (.builtin "sorted"):=⟨mg_none_of X G.g (by kernel_rfl),(G.builtins _ (by decide +kernel)).trans (by first | rfl | kernel_rfl)⟩
theorem b_range {G:Gl} {p:Params} (X:(KF p).In G.h₀):BG G "range" (.type "range"):=⟨mg_none_of X G.g (by kernel_rfl),(G.builtins _ (by decide +kernel)).trans (by first | rfl | kernel_rfl)⟩
theorem b_tuple {G:Gl} {p:Params} (X:(KF p).In G.h₀):BG G "tuple" (.type "tuple"):=⟨mg_none_of X G.g (by kernel_rfl),(G.builtins _ (by decide +kernel)).trans (by first | rfl | kernel_rfl)⟩
theorem b_dict {G:Gl} {p:Params} (X:(KF p).In G.h₀):BG G "dict" (.type "dict"):=⟨mg_none_of X G.g (by kernel_rfl),(G.builtins _ (by decide +kernel)).trans (by first | rfl | kernel_rfl)⟩
theorem b_list {G:Gl} {p:Params} (X:(KF p).In G.h₀):BG G "list" (.type "list"):=⟨mg_none_of X G.g (by kernel_rfl),(G.builtins _ (by decide +kernel)).trans (by first | rfl | kernel_rfl)⟩
theorem pg {G:Gl} {p:Params} (X:(KF p).In G.h₀) (hC:G.C=317):∃ fd,PG G (KF p) 314 fd:=by
  obtain ⟨oc,od,fd,sl,e1,e2,e3,e4,e5,e6,e7,e8⟩:∃ c d fd sl,(KF p).lookup 314=some ⟨c,d,.func fd,sl⟩∧codeIn (KF p) fd.code fd.qualname=true∧fd.globals=mainGlobals∧fd.builtins=builtinsNs∧fd.closure=[]∧fd.scope=scopeI∧fd.body = .stmts bodyI ∧
      ∀ a b c:Value,bindArgs fd ⟨[a,b,c],[]⟩=pure ((["self", "name", "key"]:List Str).zip [a,b,c]):=⟨_,_,_,_,rfl,by kernel_rfl,rfl,rfl,rfl,by kernel_rfl,by kernel_rfl,fun a b c=>by kernel_rfl⟩
  obtain ⟨Gp,Gw,GC,Gh,Gmg,Gmb,Gg,Gb,Gn,Gbu⟩:=G
  subst hC
  exact ⟨fd,{ c_MASK:=c_MASK X,c_SIGN:=c_SIGN X,c_END_OF_COMMAND:=c_END_OF_COMMAND X,c_WORD:=c_WORD X,c_FRAME:=c_FRAME X,c_STATIC:=c_STATIC X,c_STACK:=c_STACK X,c_LINK:=c_LINK X,c_ANY:=c_ANY X,c_DATA:=c_DATA X,b_len:=b_len X,b_abs:=b_abs X,b_sorted:=b_sorted X,b_range:=b_range X,b_tuple:=b_tuple X,b_dict:=b_dict X,b_list:=b_list X,cls:=⟨X,⟨_,rfl,rfl⟩,by kernel_rfl,by kernel_rfl,by kernel_rfl,no_of (by kernel_rfl)⟩,maker:=⟨X,by kernel_rfl,by kernel_rfl,by kernel_rfl,by kernel_rfl,⟨_,X _ _ e1,rfl⟩,codeRec_of X e2,e3,e4,e5⟩,c_cls:=mg_of X Gg (by kernel_rfl),i_sc:=e6,i_body:=e7,i_bind:=fun vs h=>AllN.at (n:=3) (P:=fun vs=>bindArgs fd ⟨vs,[]⟩=pure ((["self", "name", "key"]:List Str).zip vs)) e8 h }⟩
theorem fns {G:Gl} {p:Params} (X:(KF p).In G.h₀):Fns G:=⟨k_flagged X,k_target_of X,k_falls_through X,k_can_jump X,k_calculations X,k_is_load X,k_own_addresses X,k_signed X,k_first_state X,k_joined X,k_moved X,k_frame_place X,k_control_words X,k_is_call X,k_is_table X,k_return_faults X,k_call_faults X,k_fixed_rows X,k_l_law_figures X,k_l_law_draw X,k_l_law_after X,k_l_law_joined X,k_l_law_told X,k_add X,k_sub X,k_successors X,k_base_name X,k_object_starts X,k_stored_words X,k_called_state X,k_may_collect X,k_l_law_body X,k_l_law_spoil X,k_l_law_states X,k_operate X,k_procedure_starts X,k_l_law_procedure X,k_operated X,k_result_value X,k_state_behind X,k_states_of X,k_frame_faults X,k_map_faults X⟩
end
set_option maxHeartbeats 8000000
theorem rdL_ints {w:World} {J:Heap}:∀ {vs:List Value} {xs:List Int},IntsAre vs xs→RdL w J (xs.map .int) vs:=by
  intro vs xs h
  induction xs generalizing vs with
  | nil=>cases vs with
    | nil=>rfl
    | cons v r=>exact absurd (IntsAre.length h) (by simp)
  | cons x r ih=>
    cases vs with
    | nil=>exact absurd (IntsAre.length h) (by simp)
    | cons v t=>
      cases h
      rename_i tk h'
      exact ⟨_,_,rfl,rd_int,ih h'⟩
theorem rd_ints {w:World} {J:Heap} {a:Addr} {vs:List Value} {xs:List Int} {P:Params} (hl:J.IsList a vs.toArray) (hw:Well P J (.ref a) (ofPy (.list (xs.map .int)))) (hI:IntsAre vs xs):Rd w J (.list (xs.map .int)) (.ref a):=by
  refine kEAAE hl fun o ho hc n hd=>?_
  cases hw with
  | list h1 _=>
    rw [h1] at ho
    cases ho
    refine ⟨a,vs.toArray,n,rfl,?_,rdL_ints hI⟩
    rw [h1]
    simp only at hd
    rw [hd]
end Mine
theorem PySem.Challenge.cw_pb0358_01_holds : PySem.Challenge.rw_pb0358_01.Holds :=
  Mine.head (by
  intro w s₀ s₁ mg mb G Y fa o pm cd doc dV kV ho hd hcd hD hmg hg args vals as hpre hlay hrd hwl hlo
  have KX:(Mine.KF w.params).In s₁.heap:=Y
  have T:=G.T
  have hdv:dV = .none:=by rcases hD.pos with ⟨_,e⟩ | ⟨h,_⟩; exact e; exact absurd rfl h
  have hkv:kV = .none:=by rcases hD.kw with ⟨_,e⟩ | ⟨h,_⟩; exact e; exact absurd rfl h
  subst hdv hkv
  wrow_args hpre hlay hrd hwl hlo
  have hL:=‹Heap.IsList _ _ _›
  have hI:=‹IntsAre _ _›
  obtain ⟨fd,P⟩:=Mine.pg (G:=⟨PySem.Challenge.pw_pb0358_01,w,317,s₁.heap,mg,mb,T.g,T.b,T.nolimit,T.builtins⟩) KX rfl
  refine Mine.law_enter P (Mine.fns KX) rfl ho hd hcd rfl rfl rfl rfl rfl (.of_eq (by rfl)) (Mine.rd_ints hL ‹Well _ _ _ _› hI) (by omega) (fun s' h2 h3=>?_)
  exact GoodW.toG ⟨.inl ⟨_,.bool true,[],rfl,fun cls=>rfl,.bool true,by first | kernel_rfl | (exact postW_of (by wrow_shape) (by wtm_val) (by first | rfl | w_fin)),unshared_nil⟩,h2,h3.os,h3.gens.trans hg⟩)
