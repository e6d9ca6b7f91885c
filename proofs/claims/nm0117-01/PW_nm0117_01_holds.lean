import PyProof.Rows.All
import Wide.All
import OpenK.AllK
import Wide.FinOn
import KE.KTryDeepN
import KE.BitLaws
import KE.BytesMake
import PySem.Challenge.RW_nm0117_01
set_option Elab.async false
set_option maxRecDepth 100000
set_option maxHeartbeats 0
set_option compiler.extract_closed false
namespace Nm
open PySem PySem.W PySem.Spec PySem.Calls PyProof.Rows
theorem after_asleep {p : Program} {w : World} {s : Shared} (h : AfterRun p w s) : s.asleep := AfterImport.life h
/-- a look at the stack ahead of the call is one step more, nothing else -/
theorem look_step {p : Program} {w : World} {s : Shared} {k : List (Code × Pos) → Sem Fin} {c : Code} {n : Nat} {o : Outcome} {s' : Shared} (hz : s.asleep) (hq : (⟨.stack k, c, default, []⟩ : Thread).calm = true)
    (h : schedN (denote table) p w n (.single s ⟨.stack k, c, default, []⟩) = .halted o s') : ∃ m, schedN (denote table) p w m (.single s ⟨k [(c, default)], c, default, []⟩) = .halted o s' := by
  cases n with
  | zero => cases h
  | succ n =>
    refine ⟨n, ?_⟩
    have st : step (denote table) p w s ⟨.stack k, c, default, []⟩ = .go s ⟨k [(c, default)], c, default, []⟩ := rfl
    have e : sstep (denote table) p w (.single s ⟨.stack k, c, default, []⟩) = .go (.single s ⟨k [(c, default)], c, default, []⟩) := by
      rcases sstep_single (den := denote table) (prog := p) (w := w) s ⟨.stack k, c, default, []⟩ hq hz with z | z
      · rw [z, st]; rfl
      · rw [st] at z; cases z
    rw [schedN, e] at h
    exact h
theorem holds_look {c : ClaimW} {tree : List Value → Sem Fin} {k : List Value → List (Code × Pos) → Sem Fin} {defs kps : List Str} {writes : Bool} (hk : ∀ vs, k vs [(.builtin "claim.caller" {}, default)] = tree vs)
    (H : c.HoldsOpenBy (fun vs => ⟨.stack (k vs), .builtin "claim.caller" {}, default, []⟩) defs kps writes) : c.HoldsOpenBy (fun vs => ⟨tree vs, .builtin "claim.caller" {}, default, []⟩) defs kps writes := by
  obtain ⟨a, b, H⟩ := H
  refine ⟨a, b, fun w => ⟨(H w).1, fun s hs => ?_⟩⟩
  obtain ⟨s₀, h1, h2, s₁, h3, h4, h5, h6, h7⟩ := (H w).2 s hs
  refine ⟨s₀, h1, h2, s₁, h3, h4, h5, h6, fun args hpre hlay ord hord => ?_⟩
  obtain ⟨vs, s₂, hl, n, o, s', hrun, rest⟩ := h7 args hpre hlay ord hord
  have z : s₂.asleep := Shared.asleep_of_life (s := s) ((layAllW_rest _ _ _ hl).2.2.2.trans (h3.2.1.trans (fence_lifeW h1))) (after_asleep hs)
  obtain ⟨m, hm⟩ := look_step z rfl hrun
  rw [hk] at hm
  exact ⟨vs, s₂, hl, m, o, s', hm, rest⟩
end Nm
namespace Nm
open PySem PySem.W PySem.Spec PySem.Calls PyProof.Rows
open Classical in
/-- the call, where the claim's own caller stands alone on the stack; else a True -/
noncomputable def runD (f : Value) (vs : List Value) : Sem Value := .stack fun st => if st = [(.builtin "claim.caller" {}, default)] then PySem.call f vs else .pure (.bool true)
open Classical in
noncomputable def treeD (name : Str) (vs : List Value) (st : List (Code × Pos)) : Sem Fin :=
  if st = [(.builtin "claim.caller" {}, default)] then (do match ← nsGet mainNs name with
      | some f => do ret (← PySem.call f vs)
      | none => unsupported "claim.caller:no-such-global") else .pure (.done (.ret (.bool true)))
end Nm
namespace NmTop
open PySem PySem.W PySem.Spec PySem.Calls PyProof.Rows Nm
theorem PySem.W.holds_open {r : OpenRow} {q : Program} {loose : List Str} {Xt : Shared → Bool} {XP : (Str → Option Value) → Heap → Prop} {α : Type} {Yf : Shared → α} {Ya : World → α} {YP : World → Heap → Prop} {d : DefRec} {kwd : List (Str × Expr)} {N : Nat}
    (left : LeftO r.prog q loose Xt Yf Ya N) (hY : ∀ w s, Yf s = Ya w → YP w s.heap) (hYk : ∀ w h h', YP w h → (∀ b o, h.get? b = some o → h'.get? b = some o) → YP w h')
    (hX : ∀ s, Xt s = true → XP (s.heap.nsMap mainGlobals) s.heap) (hXk : ∀ mg h h', XP mg h → (∀ b o, h.get? b = some o → h'.get? b = some o) → XP mg h')
    (hdef : defOf q r.name = some (d, kwd)) (hp : r.prog.theDef r.name = some (d.params, d.body, d.scope)) (hk : kwWritten? d.params.kwonlyargs d.params.kw_defaults = some kwd) (hRf : ∀ s, Xt s = true → RecFacts r.records s.heap) (hwr : (!r.writes || r.records.isEmpty) = true)
    (k1 : r.wellSaid = true) (ok : (chainsOk q && opensWell r.prog && (frees r.toRowW && r.within.isEmpty)) = true) (hb : r.prog.bare) (hw : r.toRowW.promised)
    (call : WalkO q loose XP YP r.toRowW d kwd runD) : r.Holds := by
  refine ⟨k1, hw, holds_look (k := treeD r.name) (fun vs => if_pos rfl) (open_anyG (r := r.toRowW) (run := runD) (tree := fun vs => .stack (treeD r.name vs)) left hY hYk hX hXk hRf hwr ok hb hw (fun vs w s mg f Q E hg hf h => ?_) (fun w s hg G n hn => ?_) fun w s₀ s₁ mg mb G Y args vs as hpre hlay L low => ?_)⟩
  · intro Γ p hΓ
    have z := h Γ p hΓ
    unfold runD at z
    rw [Sem.wp_stack] at z ⊢
    unfold treeD
    split at z
    · rename_i e
      rw [if_pos e]
      rw [Sem.wp_bind']
      refine (Sem.wp_nsGet _ _ _ p s hg r.name _).mpr ?_
      rw [hf]
      dsimp only
      rw [Sem.wp_bind']
      exact z
    · rename_i e
      rw [if_neg e]
      exact z
  · obtain rfl : n = r.name := by split at hn <;> simp_all
    exact pinned_of_view hg G hdef hp hk
  · obtain ⟨a, o, pm, cd, doc, dV, kV, h1, h2, h3, h4, h5⟩ := G.fn hdef
    exact ⟨.ref a, h1, call w s₀ s₁ mg mb G Y a o pm cd doc dV kV h2 h3 h4 h5 (defOf_name hdef ▸ h1) L.gens args vs as hpre hlay L.reads L.well (L.low low)⟩
end NmTop
namespace NmTop
open _root_.PySem _root_.PySem.W _root_.PyProof.Rows
local macro_rules | `(tactic| o_law) => `(tactic| refine _root_.PySem.W.holds_law (by decide +kernel) fun said => ?_)
local macro_rules | `(tactic| refine $e:term) => do
  if e.raw.isOfKind `Lean.Parser.Term.app && e.raw[0].isIdent && e.raw[0].getId.eraseMacroScopes == `PySem.W.holds_open then
    `(tactic| (refine' $e; focus (intro w; kernel_rfl)))
  else Lean.Macro.throwUnsupported
open_top hd for PySem.Challenge.rw_nm0117_01
end NmTop
namespace Nm
open PySem PySem.W PySem.Spec PySem.Calls PyProof.Rows
/-- an exception object, with its own dict -/
abbrev excO (C : Addr) (d : Option Addr) (t : Addr) : Obj := { cls := .ref C, dict := d, data := .fields #[.ref t, .none, .none, .none, .bool false, .none] }
abbrev tupO (vs : List Value) : Obj := { cls := .type "tuple", data := .seq vs.toArray }
section
variable {prog : Program} {w : World} {A : Around} {h : Heap} {g : Array GenState} {d : Drawn} {t : Nat} {os : OsState}
variable {nm q : Str} {C N N' : Addr} {bs bm : List Value} {hdct : Bool} {sn : List Str} {sub : List Value} {ab : Bool} {col : Option Bool} {dd : Option Addr} {k0 k1 k2 k3 k5 : Option Value}
theorem exc_new_check {M : Model} {E : Value → Shared → Prop} {rest : List Value} {Q : Unit → Shared → Prop} (hB : (Value.ref C :: bm).contains (.type "Exception") = true)
    (hC : h.get? C = some (excClassObj nm q C N bs bm hdct sn sub ab col dd k0 k1 k2 k3 k5 "Exception.__new__"))
    (hq : Q () ⟨h, g, d, t, os⟩) : wpAny M A (checkBuiltinCall "Exception.__new__" ⟨.ref C :: rest, []⟩) Q E ⟨h, g, d, t, os⟩ := by
  have F := PySem.F.excBase_Exception
  have hstar := F.noStar
  simp only [checkBuiltinCall, F.newKind, F.newSplit, F.newRow]
  repeat (first | refine wpAny_loadPart_at hC ?_ | (refine wpAny_isSubtype_exc hC ?_; rw [hB]) | refine wpAny_staticBase_exc hC ?_ | refine wpAny_madeBy_exc hC ?_ | simp only [bne_self_eq_false, Bool.false_eq_true, if_false] | wp_step)
  exact hq
theorem exc_new_code {R : Result → Shared → Prop} {rest : List Value} (hB : (Value.ref C :: bm).contains (.type "Exception") = true)
    (hA : (Value.ref C :: bm).contains (.type "AttributeError") = false) (hN : (Value.ref C :: bm).contains (.type "NameError") = false)
    (hC : h.get? C = some (excClassObj nm q C N bs bm hdct sn sub ab col dd k0 k1 k2 k3 k5 "Exception.__new__"))
    (hq : R (.ok (.ret (.ref (h.objs.size + 1)))) ⟨(h.push (tupO rest)).push (excO C none h.objs.size), g, d, t, os⟩) (hrest : rest.length ≤ sizeLine) :
    codeAny (model prog w) A (.builtin "Exception.__new__" ⟨.ref C :: rest, []⟩) R ⟨h, g, d, t, os⟩ := by
  have F := PySem.F.excBase_Exception
  have hends := F.ends
  refine codeAny_builtinAt F.entry ?_
  unfold Builtin.«BaseException.__new__»
  refine PySem.wpAt_bind ?_
  show PySem.wpAt _ _ _ (stack >>= _) _ _ _
  refine PySem.wpAt_bind (PySem.wpAt_stack fun p below => PySem.wpAt_of_wpAny ?_)
  wp_walk
  refine PySem.wpAt_of_wpAny ?_
  rw [F.owner]
  repeat (first | with_reducible refine wpAny_madeHere_exc F.canon hC ?_ | with_reducible refine wpAny_loadPart_at hC ?_ | (with_reducible refine wpAny_isSubtype_exc hC ?_; first | rw [hB] | rw [hA] | rw [hN]) | wp_step)
  show R _ _
  rw [Heap.size_push]
  exact hq
theorem exc_call {K : Frag} {R : Result → Shared → Prop} {rest : List Value} {fI : Addr} (X : K.In h) (hB : (Value.ref C :: bm).contains (.type "Exception") = true)
    (hA : (Value.ref C :: bm).contains (.type "AttributeError") = false) (hN : (Value.ref C :: bm).contains (.type "NameError") = false)
    (hC : h.get? C = some (excClassObj nm q C N bs bm hdct sn sub ab col dd k0 k1 k2 k3 k5 "Exception.__new__"))
    (hi : findIn K (.ref C) "__init__" = some (some (.ref fI))) (hf : typeIn K (.ref fI) = some (.type "function")) (hrest : rest.length ≤ sizeLine)
    (hq : codeAny (model prog w) (A.under (.builtin "type.__call__" ⟨.ref C :: rest, []⟩)) (.call (.ref fI) ⟨.ref (h.objs.size + 1) :: rest, []⟩) (InitBack (h.objs.size + 1) R)
      ⟨(h.push (tupO rest)).push (excO C none h.objs.size), g, d, t, os⟩) :
    codeAny (model prog w) A (.call (.ref C) ⟨rest, []⟩) R ⟨h, g, d, t, os⟩ := by
  have F := PySem.F.excBase_Exception
  have f1 := tc_lookup
  have f2 := tc_bind (.ref C)
  have hT : (⟨h, g, d, t, os⟩ : Shared).TypeIs (.ref C) "type" := ⟨_, hC, rfl⟩
  refine codeAny_of_tree ?_
  show wpAny _ _ (callAny (.ref C) _) _ _ _
  repeat (any_goals (first | assumption | with_reducible refine wpAny_loadPart_at hC ?_ | wp_step))
  refine ⟨rfl, ?_⟩
  refine codeAny_call_builtin_at (Code.quiet_builtin _ (by decide +kernel)) entry_typeCall (wpAny_check_type_call_sub hC ?_)
  repeat (first | with_reducible refine wpAny_loadPart_at hC ?_ | with_reducible refine wpAny_madeBy_exc hC ?_ | wp_step)
  refine codeAny_call_builtin_code (Code.quiet_builtin _ F.quiet) (exc_new_check hB hC ?_)
  refine exc_new_code hB hA hN hC ?_ hrest
  show wpAny _ _ _ _ _ _
  have hk : ∀ b o, h.get? b = some o → ((h.push (tupO rest)).push (excO C none h.objs.size)).get? b = some o := fun b o e => Heap.get?_push_of_some _ (Heap.get?_push_of_some _ e)
  have hC₁ := hk _ _ hC
  have hget : ((h.push (tupO rest)).push (excO C none h.objs.size)).get? (h.objs.size + 1) = some (excO C none h.objs.size) := by heap_get
  have hcC : (Value.ref C :: bm).contains (.ref C) = true := by simp
  unfold isInstance
  repeat (first | with_reducible refine wpAny_loadPart_at hget ?_ | (show wpAny _ _ (isSubtype (.ref C) (.ref C)) _ _ _; refine wpAny_isSubtype_exc hC₁ ?_; rw [hcC]) | wp_step)
  show wpAny _ _ (typeLookup (.ref C) _) _ _ _
  refine looks_findIn (M := model prog w) X hi _ _ _ _ hk ?_
  refine wpAny_holding (wpAny_bind ?_)
  refine bind_fn (M := model prog w) X _ hf _ _ _ _ hk ?_
  refine wpAny_bind (wpAny_call ?_)
  refine codeAny_mono hq fun r s' z => ?_
  rcases r with e | (v | _ | _ | _) <;> first | exact z | exact z.elim | skip
  obtain ⟨rfl, z⟩ := z
  wp_walk
  exact z
end
end Nm
namespace Nm
open PySem PySem.W PySem.Spec PySem.Calls PyProof.Rows
section
variable {prog : Program} {w : World} {A : Around} {h : Heap} {g : Array GenState} {d : Drawn} {t : Nat} {os : OsState}
variable {nm q : Str} {C N N' : Addr} {bs bm : List Value} {hdct : Bool} {sn : List Str} {sub : List Value} {ab : Bool} {col : Option Bool} {dd : Option Addr} {k0 k1 k2 k3 k5 : Option Value}
theorem exc_init_check {M : Model} {E : Value → Shared → Prop} {e : Addr} {oe : Obj} {rest : List Value} {Q : Unit → Shared → Prop} (hB : (Value.ref C :: bm).contains (.type "Exception") = true)
    (hC : h.get? C = some (excClassObj nm q C N bs bm hdct sn sub ab col dd k0 k1 k2 k3 k5 "Exception.__new__")) (he : h.get? e = some oe) (hcls : oe.cls = .ref C) (hq : Q () ⟨h, g, d, t, os⟩) :
    wpAny M A (checkBuiltinCall "Exception.__init__" ⟨.ref e :: rest, []⟩) Q E ⟨h, g, d, t, os⟩ := by
  have F := PySem.F.excBase_Exception
  have hshort := F.noStar
  simp only [checkBuiltinCall, F.initKind, F.initSplit, F.initRow]
  repeat (first | (with_reducible refine wpAny_loadPart_at he ?_; rw [hcls]) | with_reducible refine wpAny_loadPart_at hC ?_ | (with_reducible refine wpAny_isSubtype_exc hC ?_; rw [hB]) | wp_step)
  refine wpAny_onRaise ?_
  exact wpAny_of_eq (check_varPos "Exception" _ _ _) hq
theorem exc_init {E : Value → Shared → Prop} {s : Shared} {e t0 : Addr} {od : Option Addr} {rest : List Value} {Q : Value → Shared → Prop} (hB : (Value.ref C :: bm).contains (.type "Exception") = true)
    (hC : s.heap.get? C = some (excClassObj nm q C N bs bm hdct sn sub ab col dd k0 k1 k2 k3 k5 "Exception.__new__")) (he : s.heap.get? e = some (excO C od t0)) (hrest : rest.length ≤ sizeLine)
    (h : Q .none { s with heap := (s.heap.push (tupO rest)).update e (Obj.mapFields (·.setIfInBounds 0 (.ref s.heap.objs.size))) }) :
    wpAny (model prog w) A (call (.builtin "Exception.__init__") (.ref e :: rest)) Q E s := by
  have F := PySem.F.excBase_Exception
  obtain ⟨hh, g, d, t, os⟩ := s
  refine wpAny_call (codeAny_call_builtin F.init.plain F.initEntry (exc_init_check hB hC he rfl ?_))
  unfold Builtin.«BaseException.__init__»
  dsimp only
  rw [if_neg (by simp)]
  unfold newTuple Builtin.BaseException.bexcPut
  have he₁ := Heap.get?_push_of_some (h := hh) (tupO rest) he
  refine wpAny_bind (wpAny_newObj_type (wpAny_bind (wpAny_bind (wpAny_field he₁ rfl (x := .ref t0) rfl (wpAny_bind (wpAny_setField he₁ rfl (Nat.zero_lt_succ _) ?_))))) (by show rest.toArray.size ≤ sizeLine; rw [List.size_toArray]; exact hrest))
  exact wpAny_letGo (wpAny_pure h)
theorem exc_init_K {E : Value → Shared → Prop} {s : Shared} {K : Frag} {h₀ : Heap} {L : Addr} {m : Str → Option Value} {news : List (Addr × Obj)} {news' : Addr → List (Addr × Obj)} {e t0 : Addr} {od : Option Addr} {rest : List Value} {Q : Value → Shared → Prop}
    (F : Fr h₀ L s.heap m) (X₀ : K.In h₀) (N : News h₀ L s.heap news) (hC : K.lookup C = some (excClassObj nm q C N' bs bm hdct sn sub ab col dd k0 k1 k2 k3 k5 "Exception.__new__"))
    (hB : (Value.ref C :: bm).contains (.type "Exception") = true) (U : ∀ tn, Upd e (excO C od t0) (excO C od tn) news (news' tn)) (hrest : rest.length ≤ sizeLine)
    (h : ∀ tn h', Fr h₀ L h' m → News h₀ L h' ((tn, tupO rest) :: news' tn) → (∀ p ∈ news' tn, p.1 < tn) → Q .none { s with heap := h' }) :
    wpAny (model prog w) A (call (.builtin "Exception.__init__") (.ref e :: rest)) Q E s := by
  obtain ⟨pre, post, e1, e2, a, b⟩ := (U s.heap.objs.size).split
  have he : s.heap.get? e = some (excO C od t0) := (N (e, excO C od t0) (by rw [e1]; simp)).1
  refine exc_init hB ((X₀.keeps F.keep) _ _ hC) he hrest ?_
  have F1 := F.push (tupO rest)
  have N1 := N.push F (tupO rest)
  rw [e1] at N1
  have ne : s.heap.objs.size ≠ e := Nat.ne_of_gt (Heap.lt_size he)
  obtain ⟨F2, N2⟩ := news_upd (pre := (s.heap.objs.size, tupO rest) :: pre) (post := post) (d := e) (f := Obj.mapFields (·.setIfInBounds 0 (.ref s.heap.objs.size))) (o' := excO C od s.heap.objs.size) F1 N1
    (fun p hp => by rcases List.mem_cons.mp hp with rfl | hp; exact ne; exact a p hp) b rfl rfl
  refine h _ _ F2 (by rw [e2]; exact N2) (fun p hp => ?_)
  rw [e2] at hp
  rcases List.mem_append.mp hp with hp | hp
  · exact Heap.lt_size (N p (by rw [e1]; exact List.mem_append_left _ hp)).1
  · rcases List.mem_cons.mp hp with rfl | hp
    · exact Heap.lt_size he
    · exact Heap.lt_size (N p (by rw [e1]; exact List.mem_append_right _ (.tail _ hp))).1
end
end Nm
namespace Nm
open PySem PySem.W PySem.Spec PySem.Calls PyProof.Rows PySem.Builtin PySem.Builtin.ObjectAttr
section
variable {prog : Program} {w : World} {A : Around} {E : Value → Shared → Prop} {K : Frag} {C e t L : Addr} {s : Shared} {h₀ : Heap} {m : Str → Option Value} {news : List (Addr × Obj)} {R : Result → Shared → Prop}
/-- the classes along the line let a store pass -/
def lineExc : List Value → Bool
  | .ref _ :: r => lineExc r
  | l => l == [.type "Exception", .type "BaseException", .type "object"]
theorem lineExc_cases : ∀ {l : List Value}, lineExc l = true → (∃ c r, l = .ref c :: r ∧ lineExc r = true) ∨ l = [.type "Exception", .type "BaseException", .type "object"] := by
  intro l e
  unfold lineExc at e
  split at e
  · exact .inl ⟨_, _, rfl, e⟩
  · exact .inr (by simpa using e)
theorem lineExc_pass (self : Value) : ∀ (n : Nat) {l : List Value}, l.length = n → lineExc l = true → refuseLoop self "__setattr__" l = pure ()
  | 0, l, q, e => by rcases lineExc_cases e with ⟨c, r, rfl, _⟩ | rfl <;> cases q
  | n + 1, l, q, e => by
    rcases lineExc_cases e with ⟨c, r, rfl, e⟩ | rfl
    · rw [refuseLoop_ref]; exact lineExc_pass self n (by simpa using q) e
    · exact PySem.F.store_Exception.passes self
theorem lineExc_obj : ∀ (n : Nat) {l : List Value}, l.length = n → lineExc l = true → l.contains (.type "object") = true
  | 0, l, q, e => by rcases lineExc_cases e with ⟨c, r, rfl, _⟩ | rfl <;> cases q
  | n + 1, l, q, e => by
    rcases lineExc_cases e with ⟨c, r, rfl, e⟩ | rfl
    · have := lineExc_obj n (l := r) (by simpa using q) (by assumption)
      simp only [List.contains_cons, this, Bool.or_true]
    · decide
def excOver (K : Frag) (C : Addr) : Bool := (clsIn K C).any fun cd => lineExc cd.mro && cd.hasDict
theorem osaX_open {ox : Obj} {od : Option Obj} {name : Str} {tk : Tok} {v : Value} {x : Addr} (X : K.In s.heap) (I : InstAt s.heap x ox C od) (hp : excOver K C = true) (ht : takerIn K C name = some none)
    (h : ∀ b, wpAny (model prog w) A.in1 (storeInOwnDict (.ref x) (.ref C) (.str name tk) name v b)
      (fun fin s' => match fin with | .done f => R (.ok f) s' | .again c' => c'.quiet = true ∧ codeAny (model prog w) A c' R s') (fun e s' => R (.error e) s') s) :
    codeAny (model prog w) A (.call (.builtin "object.__setattr__") ⟨[.ref x, .str name tk, v], []⟩) R s := by
  have SF := PySem.F.store_object
  obtain ⟨cd, hc, ho⟩ := any_some hp
  obtain ⟨ho, -⟩ := Bool.and_eq_true_iff.mp ho
  have ne : cd.mro.isEmpty = false := by cases q : cd.mro with | nil => rw [q] at ho; exact absurd ho (by decide) | cons _ _ => rfl
  have sub : Looks (model prog w) s.heap (isInstance (.ref x) (.type "object")) true := I.type.andThen (looks_mroIn X (by unfold mroIn; rw [hc, Option.bind_some, if_neg (by rw [ne]; decide), lineExc_obj _ rfl ho]))
  refine codeAny_call_builtin SF.slot.plain SF.entry (@check_slot (model prog w) _ _ s "object.__setattr__" "object" "__setattr__" (.ref x) [.str name tk, v] [] _ SF.kind SF.split sub (SF.args (.ref x) (.str name tk) v) ?_)
  obtain ⟨attr, ha, hr⟩ := Option.bind_eq_some_iff.mp ht
  have hm : Looks (model prog w) s.heap (mroOf (.ref C)) cd.mro := (looks_clsIn X hc).andThen .now
  have L3 : Looks (model prog w) s.heap (storeTaker? attr) none := by
    cases attr with
    | none => cases hr; exact .now
    | some a =>
      obtain ⟨b, hb, hr⟩ := Option.map_eq_some_iff.mp hr
      refine (looks_takesIn X hb).andThen ?_
      cases b
      · exact .now
      · cases hr
  rw [osa_eq, refuse_eq]
  refine wpAny_bind (wpAny_bind (I.type.here (wpAny_bind (hm.here ?_))))
  rw [lineExc_pass _ _ rfl ho]
  refine wpAny_pure (wpAny_bind (I.type.here (wpAny_bind ((looks_findIn X ha).here (wpAny_bind (L3.here ?_))))))
  exact h _
theorem excI0 {h : Heap} (he : h.get? e = some (excO C none t)) : InstAt h e (excO C none t) C none := ⟨he, rfl, rfl, trivial⟩
theorem excI1 {h : Heap} {dx : Addr} {o : Obj} (he : h.get? e = some (excO C (some dx) t)) (hd : h.get? dx = some o) : InstAt h e (excO C (some dx) t) C (some o) := ⟨he, rfl, rfl, hd⟩
theorem osaX_new {name : Str} {tk : Tok} {v : Value} {news' : Addr → List (Addr × Obj)} (F : Fr h₀ L s.heap m) (X₀ : K.In h₀) (N : News h₀ L s.heap news)
    (U : ∀ d, Upd e (excO C none t) (excO C (some d) t) news (news' d)) (hp : excOver K C = true) (ht : takerIn K C name = some none)
    (h : ∀ d h', Fr h₀ L h' m → News h₀ L h' ((d, dictOf [⟨PyData.keyHash w.params name, .str name s.toks, v⟩] 1) :: news' d) → (∀ p ∈ news' d, p.1 < d) → R (.ok (.ret .none)) { s with heap := h', toks := s.toks + 1 }) :
    codeAny (model prog w) A (.call (.builtin "object.__setattr__") ⟨[.ref e, .str name tk, v], []⟩) R s := by
  obtain ⟨pre, post, e1, e2, a, b⟩ := (U s.heap.objs.size).split
  have he : s.heap.get? e = some (excO C none t) := (N (e, excO C none t) (by rw [e1]; simp)).1
  have X := X₀.keeps F.keep
  refine osaX_open X (excI0 he) hp ht fun bb => ?_
  obtain ⟨cd, hc, hd'⟩ := any_some hp
  obtain ⟨-, hd'⟩ := Bool.and_eq_true_iff.mp hd'
  have ne : s.heap.objs.size ≠ e := Nat.ne_of_gt (Heap.lt_size he)
  have F1 := F.push emptyDict
  have N1 := N.push F emptyDict
  rw [e1] at N1
  obtain ⟨F2, N2⟩ := news_upd (pre := (s.heap.objs.size, emptyDict) :: pre) (post := post) (d := e) (f := fun o => { o with dict := some s.heap.objs.size }) (o' := excO C (some s.heap.objs.size) t) F1 N1
    (fun p hp => by rcases List.mem_cons.mp hp with rfl | hp; exact ne; exact a p hp) b rfl rfl
  have D := (N2 (s.heap.objs.size, emptyDict) (by simp)).1
  have ltp : ∀ p ∈ pre ++ (e, excO C (some s.heap.objs.size) t) :: post, p.1 < s.heap.objs.size := fun p hp => by
    rcases List.mem_append.mp hp with hp | hp
    · exact Heap.lt_size (N p (by rw [e1]; exact List.mem_append_left _ hp)).1
    · rcases List.mem_cons.mp hp with rfl | hp
      · exact Heap.lt_size he
      · exact Heap.lt_size (N p (by rw [e1]; exact List.mem_append_right _ (.tail _ hp))).1
  obtain ⟨F3, N3⟩ := news_upd (pre := []) (post := pre ++ (e, excO C (some s.heap.objs.size) t) :: post) (d := s.heap.objs.size) (f := Obj.putName name (PyData.keyHash w.params name) (.str name s.toks) v)
    (o' := dictOf [⟨PyData.keyHash w.params name, .str name s.toks, v⟩] 1) F2 N2 (fun _ hp => nomatch hp) (fun p hp => Nat.ne_of_lt (ltp p hp)) (by exact putName_dict name (PyData.keyHash w.params name) (.str name s.toks) v [] 0) rfl
  have D' := (N3 (s.heap.objs.size, dictOf [⟨PyData.keyHash w.params name, .str name s.toks, v⟩] 1) (by simp)).1
  refine wpAny_bind (wpAny_pure (wpAny_bind (wpAny_bind (wpAny_loadPart he (wpAny_bind ((looks_clsIn X hc).here ?_))))))
  rw [hd']
  refine wpAny_bind (wpAny_alloc (wpAny_bind (wpAny_update (Heap.get?_push_of_some _ he) (wpAny_pure (wpAny_bind (wpAny_pure (wpAny_bind ?_)))))))
  unfold nsSet
  refine wpAny_bind (wpAny_bind (wpAny_askSetting (wpAny_pure (wpAny_bind (wpAny_mkText (wpAny_bind (wpAny_loadPart D ?_)))))))
  refine wpAny_updatePart D ?_
  refine wpAny_bind (wpAny_lookBehind D' (by exact pastItsLine_dict (by rw [sizeLine_eq]; exact Nat.le_of_ble_eq_true rfl)) ?_)
  exact wpAny_pure (h _ _ F3 (by rw [e2]; exact N3) (by rw [e2]; exact ltp))
theorem osaX_old {name : Str} {tk : Tok} {v : Value} {dx : Addr} {es es' : List DictEntry} {n n' : Nat} {news' : List (Addr × Obj)} (F : Fr h₀ L s.heap m) (X₀ : K.In h₀) (N : News h₀ L s.heap news)
    (he : (e, excO C (some dx) t) ∈ news) (U : Upd dx (dictOf es n) (dictOf es' n') news news') (hp : excOver K C = true) (ht : takerIn K C name = some none) (hl : (getL name es).isSome = true)
    (q : (putL name (PyData.keyHash w.params name) (.str name s.toks) v es, putN name es n) = (es', n')) (hz : es'.length ≤ 1000)
    (h : ∀ h', Fr h₀ L h' m → News h₀ L h' news' → R (.ok (.ret .none)) { s with heap := h', toks := s.toks + 1 }) :
    codeAny (model prog w) A (.call (.builtin "object.__setattr__") ⟨[.ref e, .str name tk, v], []⟩) R s := by
  obtain ⟨pre, post, e1, e2, a, b⟩ := U.split
  obtain ⟨q1, q2⟩ := Prod.mk.inj q
  have he' := (N _ he).1
  have X := X₀.keeps F.keep
  subst e1 e2
  have D := (N (dx, dictOf es n) (by simp)).1
  refine osaX_open X (excI1 he' D) hp ht fun bb => ?_
  obtain ⟨cd, hc, hd'⟩ := any_some hp
  obtain ⟨-, hd'⟩ := Bool.and_eq_true_iff.mp hd'
  obtain ⟨F2, N2⟩ := news_upd (f := Obj.putName name (PyData.keyHash w.params name) (.str name s.toks) v) (o' := dictOf es' n') F N a b (by rw [putName_dict, q1, q2]) rfl
  have D' := (N2 (dx, dictOf es' n') (by simp)).1
  refine wpAny_bind (wpAny_pure (wpAny_bind (wpAny_bind (wpAny_loadPart he' (wpAny_bind ((looks_clsIn X hc).here ?_))))))
  rw [hd']
  refine wpAny_pure (a := some dx) (wpAny_bind (wpAny_pure (wpAny_bind ?_)))
  unfold nsSet
  refine wpAny_bind (wpAny_bind (wpAny_askSetting (wpAny_pure (wpAny_bind (wpAny_mkText (wpAny_bind (wpAny_loadPart D ?_)))))))
  dsimp only
  have c : (!es.toArray.any (·.key.isStr name) && es.toArray.any (·.refKey)) = false := by
    unfold getL at hl
    rw [← Array.any_toList, ← Array.any_toList]
    split at hl
    · rename_i en hen
      rw [List.any_eq_true.mpr ⟨en, List.mem_of_find?_eq_some hen, List.find?_some hen⟩]; rfl
    · split at hl
      · cases hl
      · rename_i z; rw [Bool.not_eq_true] at z; rw [show es.toArray.toList = es from rfl, z, Bool.and_false]
  rw [aRefKeyMayBeTheName_at, c]
  refine wpAny_updatePart D ?_
  refine wpAny_bind (wpAny_lookBehind D' (by exact pastItsLine_dict (by rw [List.size_toArray, sizeLine_eq]; omega)) ?_)
  exact wpAny_pure (h _ F2 N2)
theorem setX_new {name : Str} {v : Value} {Q : Unit → Shared → Prop} {news' : Addr → List (Addr × Obj)} (F : Fr h₀ L s.heap m) (X₀ : K.In h₀) (N : News h₀ L s.heap news)
    (U : ∀ d, Upd e (excO C none t) (excO C (some d) t) news (news' d)) (hs : findIn K (.ref C) "__setattr__" = some (some (.builtin "object.__setattr__"))) (hp : excOver K C = true) (ht : takerIn K C name = some none)
    (h : ∀ d h', Fr h₀ L h' m → News h₀ L h' ((d, dictOf [⟨PyData.keyHash w.params name, .str name (s.toks + 1), v⟩] 1) :: news' d) → (∀ p ∈ news' d, p.1 < d) → Q () { s with heap := h', toks := s.toks + 2 }) :
    wpAny (model prog w) A (setAttr (.ref e) name v) Q E s := by
  obtain ⟨pre, post, e1, e2, a, b⟩ := (U s.heap.objs.size).split
  have he : s.heap.get? e = some (excO C none t) := (N (e, excO C none t) (by rw [e1]; simp)).1
  exact set_plain (X₀.keeps F.keep) (excI0 he) hs (osaX_new (s := { s with toks := s.toks + 1 }) F X₀ N U hp ht fun d h' F' N' l => h d h' F' N' l)
theorem setX_old {name : Str} {v : Value} {Q : Unit → Shared → Prop} {dx : Addr} {es es' : List DictEntry} {n n' : Nat} {news' : List (Addr × Obj)} (F : Fr h₀ L s.heap m) (X₀ : K.In h₀) (N : News h₀ L s.heap news)
    (he : (e, excO C (some dx) t) ∈ news) (U : Upd dx (dictOf es n) (dictOf es' n') news news') (hs : findIn K (.ref C) "__setattr__" = some (some (.builtin "object.__setattr__"))) (hp : excOver K C = true) (ht : takerIn K C name = some none) (hl : (getL name es).isSome = true)
    (q : (putL name (PyData.keyHash w.params name) (.str name (s.toks + 1)) v es, putN name es n) = (es', n')) (hz : es'.length ≤ 1000)
    (h : ∀ h', Fr h₀ L h' m → News h₀ L h' news' → Q () { s with heap := h', toks := s.toks + 2 }) :
    wpAny (model prog w) A (setAttr (.ref e) name v) Q E s := by
  obtain ⟨pre, post, e1, e2, a, b⟩ := U.split
  have D := (N (dx, dictOf es n) (by rw [e1]; simp)).1
  exact set_plain (X₀.keeps F.keep) (excI1 (N _ he).1 D) hs (osaX_old (s := { s with toks := s.toks + 1 }) F X₀ N he U hp ht hl q hz fun h' F' N' => h h' F' N')
theorem callX_K {nm q : Str} {N' : Addr} {bs bm : List Value} {hdct : Bool} {sn : List Str} {sub : List Value} {ab : Bool} {col : Option Bool} {dd : Option Addr} {k0 k1 k2 k3 k5 : Option Value} {rest : List Value} {fI : Addr}
    (F : Fr h₀ L s.heap m) (X₀ : K.In h₀) (N : News h₀ L s.heap news) (hC : K.lookup C = some (excClassObj nm q C N' bs bm hdct sn sub ab col dd k0 k1 k2 k3 k5 "Exception.__new__"))
    (hB : (Value.ref C :: bm).contains (.type "Exception") = true) (hA : (Value.ref C :: bm).contains (.type "AttributeError") = false) (hN : (Value.ref C :: bm).contains (.type "NameError") = false)
    (hi : findIn K (.ref C) "__init__" = some (some (.ref fI))) (hf : isFn K (.ref fI) = true) (hrest : rest.length ≤ sizeLine) {Q : Value → Shared → Prop}
    (h : ∀ e t h', Fr h₀ L h' m → News h₀ L h' ((e, excO C none t) :: (t, tupO rest) :: news) → (∀ p ∈ news, p.1 < t) → t < e → (∀ b o, s.heap.get? b = some o → h'.get? b = some o ∧ b < t) →
      codeAny (model prog w) (A.under (.builtin "type.__call__" ⟨.ref C :: rest, []⟩)) (.call (.ref fI) ⟨.ref e :: rest, []⟩) (InitBack e fun r s' => match r with | .ok (.ret v) => Q v s' | .ok _ => False | .error e => E e s') { s with heap := h' }) :
    wpAny (model prog w) A (call (.ref C) rest) Q E s := by
  obtain ⟨hh, g, d, t, os⟩ := s
  have X := X₀.keeps F.keep
  have N2 := (N.push F (tupO rest)).push (F.push _) (excO C none hh.objs.size)
  rw [Heap.size_push] at N2
  refine wpAny_call (exc_call X hB hA hN (X _ _ hC) hi (beq_iff_eq.mp hf) hrest (h _ hh.objs.size _ ((F.push _).push _) N2 (fun p hp => Heap.lt_size (N p hp).1) (Nat.lt_succ_self _) fun b o q => ⟨Heap.get?_push_of_some _ (Heap.get?_push_of_some _ q), Heap.lt_size q⟩))
end
end Nm
namespace Nm
open PySem PySem.W PySem.Spec PySem.Calls PyProof.Rows
section
variable {M : Model} {A : Around} {E : Value → Shared → Prop} {env : Env}
variable {nm q : Str} {C N' : Addr} {bs bm : List Value} {hdct : Bool} {sn : List Str} {sub : List Value} {ab : Bool} {col : Option Bool} {dd : Option Addr} {k0 k1 k2 k3 k5 : Option Value}
/-- what stands behind the raised expression -/
def RaiseEnd (E : Value → Shared → Prop) (v : Value) (s₁ : Shared) : Prop :=
  ∃ (K : Frag) (h₀ : Heap) (L : Addr) (m : Str → Option Value) (news : List (Addr × Obj)) (e C : Addr) (d : Option Addr) (t : Addr) (nm q : Str) (N' : Addr) (bs bm : List Value) (hdct : Bool) (sn : List Str) (sub : List Value) (ab : Bool) (col : Option Bool) (dd : Option Addr) (k0 k1 k2 k3 k5 : Option Value),
    v = .ref e ∧ Fr h₀ L s₁.heap m ∧ K.In h₀ ∧ News h₀ L s₁.heap news ∧ (e, excO C d t) ∈ news ∧ K.lookup C = some (excClassObj nm q C N' bs bm hdct sn sub ab col dd k0 k1 k2 k3 k5 "Exception.__new__") ∧
    (Value.ref C :: bm).contains (.type "BaseException") = true ∧ E (.ref e) s₁
theorem raiseEnd_ {K : Frag} {h₀ : Heap} {L : Addr} {m : Str → Option Value} {news : List (Addr × Obj)} {e : Addr} {d : Option Addr} {t : Addr} {s₁ : Shared} (F : Fr h₀ L s₁.heap m) (X : K.In h₀) (N : News h₀ L s₁.heap news) (he : (e, excO C d t) ∈ news)
    (hC : K.lookup C = some (excClassObj nm q C N' bs bm hdct sn sub ab col dd k0 k1 k2 k3 k5 "Exception.__new__")) (hB : (Value.ref C :: bm).contains (.type "BaseException") = true) (h : E (.ref e) s₁) : RaiseEnd E (.ref e) s₁ :=
  ⟨K, h₀, L, m, news, e, C, d, t, nm, q, N', bs, bm, hdct, sn, sub, ab, col, dd, k0, k1, k2, k3, k5, rfl, F, X, N, he, hC, hB, h⟩
theorem raise_stmt {s : Shared} {x : Sem Value} {Q : Flow → Shared → Prop} (hh : A.handled = none) (h : wpAny M A x (RaiseEnd E) E s) : wpAny M A (raiseStmt env (some x) none) Q E s := by
  unfold raiseStmt
  refine wpAny_bind (wpAny_mono h (fun v s₁ h₁ => ?_) fun _ _ x => x)
  obtain ⟨K, h₀, L, m, news, e, C, d, t, nm, q, N', bs, bm, hdct, sn, sub, ab, col, dd, k0, k1, k2, k3, k5, rfl, F, X, N, he, hC, hB, hE⟩ := h₁
  have hC := (X.keeps F.keep) _ _ hC
  have he := (N _ he).1
  dsimp only at he
  obtain ⟨hp, g, dr, tk, os⟩ := s₁
  repeat (first | with_reducible refine wpAny_loadPart_at he ?_ | with_reducible refine wpAny_loadPart_at hC ?_ | (show wpAny _ _ (isSubtype (.ref C) (.type "BaseException")) _ _ _; refine wpAny_isSubtype_exc hC ?_; rw [hB]) | wp_step)
  exact wpAny_raiseNew_none hh hE
theorem Raise_own {s : Shared} {e : Expr} {pos : Pos} {Q : Flow → Shared → Prop} (hh : A.handled = none) (h : wpAny M A (eval e env) (RaiseEnd E) E s) : wpAny M A (exec (.Raise (some e) none pos) env) Q E s := by
  rw [arm_exec_Raise]
  exact wpAny_bind (wpAny_standAt (raise_stmt hh (wpAny_bind (wpAny_mono h (fun v s' z => wpAny_bind (wpAny_standAt (wpAny_pure z))) fun _ _ z => z))))
end
end Nm
namespace Nm
open PySem PySem.W PySem.Spec PySem.Calls PyProof.Rows
/-- every object that stands keeps its own dict -/
def DK (h h' : Heap) : Prop := ∀ a o, h.get? a = some o → ∃ o', h'.get? a = some o' ∧ o'.dict = o.dict
theorem DK.refl (h : Heap) : DK h h := fun _ o e => ⟨o, e, rfl⟩
theorem DK.trans {h₁ h₂ h₃ : Heap} (x : DK h₁ h₂) (y : DK h₂ h₃) : DK h₁ h₃ := fun a o e =>
  let ⟨o₁, e₁, q₁⟩ := x a o e; let ⟨o₂, e₂, q₂⟩ := y a o₁ e₁; ⟨o₂, e₂, q₂.trans q₁⟩
theorem DK.push (h : Heap) (o : Obj) : DK h (h.push o) := fun _ o' e => ⟨o', Heap.get?_push_of_some _ e, rfl⟩
def MildF (f : Obj → Obj) : Prop := ∀ o, (f o).dict = o.dict ∧ (o.isFreed = false → (f o).isFreed = false)
theorem DK.update (h : Heap) (a : Addr) {f : Obj → Obj} (hf : MildF f) : DK h (h.update a f) := fun b o e => by
  by_cases q : a = b
  · subst q
    exact ⟨f o, Heap.get?_update_self f e ((hf o).2 (Heap.get?_some_iff.mp e).2), (hf o).1⟩
  · exact ⟨o, (Heap.get?_update_ne _ _ _ _ (fun z => q z.symm)).trans e, rfl⟩
inductive Mild {α : Type} : Sem α → Prop
  | pure (a : α) : Mild (.pure a)
  | raise (e : Value) : Mild (.raise e)
  | unsupported (w : String) : Mild (.unsupported w)
  | load {a p k} (h : ∀ o, Mild (k o)) : Mild (.load a p k)
  | update {a p f k} (hf : MildF f) (h : Mild (k ())) : Mild (.update a p f k)
  | alloc {o k} (h : ∀ a, Mild (k a)) : Mild (.alloc o k)
  | ask {k} (h : ∀ x, Mild (k x)) : Mild (.ask k)
  | stack {k} (h : ∀ x, Mild (k x)) : Mild (.stack k)
  | rule {t k} (h : Mild (k ())) : Mild (.rule t k)
  | at {p k} (h : Mild (k ())) : Mild (.at p k)
  | point {l k} (h : Mild (k ())) : Mild (.point l k)
theorem Mild.bind {α β : Type} {m : Sem α} {f : α → Sem β} (x : Mild m) (y : ∀ a, Mild (f a)) : Mild (m >>= f) := by
  show Mild (m.bind f)
  induction x with
  | pure a => exact y a
  | raise e => exact .raise e
  | unsupported w => exact .unsupported w
  | load _ ih => exact .load ih
  | update hf _ ih => exact .update hf ih
  | alloc _ ih => exact .alloc ih
  | ask _ ih => exact .ask ih
  | stack _ ih => exact .stack ih
  | rule _ ih => exact .rule ih
  | «at» _ ih => exact .at ih
  | point _ ih => exact .point ih
theorem Mild.wp {α : Type} {t : Sem α} (x : Mild t) (M : Model) (Γ : PySem.Ctx) (h₀ : Heap) (Q : α → Pos → Shared → Prop) (E : Value → Pos → Shared → Prop) :
    ∀ (p : Pos) (s : Shared), DK h₀ s.heap → Sem.wp M Γ t (fun a p s' => DK h₀ s'.heap → Q a p s') (fun e p s' => DK h₀ s'.heap → E e p s') p s → Sem.wp M Γ t Q E p s := by
  induction x with
  | pure a => intro p s d h; exact h d
  | raise e => intro p s d h; exact h d
  | unsupported w => intro p s d h; exact h
  | load _ ih => intro p s d ⟨o, e, h⟩; exact ⟨o, e, ih o p s d h⟩
  | update hf _ ih => intro p s d ⟨e, h⟩; exact ⟨e, ih p _ (d.trans (DK.update _ _ hf)) h⟩
  | alloc _ ih => intro p s d h; exact ih _ p _ (d.trans (DK.push _ _)) h
  | ask _ ih => intro p s d h; exact ih _ p s d h
  | stack _ ih => intro p s d h; exact ih _ p s d h
  | rule _ ih => intro p s d h; exact ih p s d h
  | «at» _ ih => intro p s d h; exact ih _ s d h
  | point _ ih => intro p s d h; exact ih p s d h
theorem Mild.any {α : Type} {t : Sem α} (x : Mild t) {M : Model} {A : Around} {Q : α → Shared → Prop} {E : Value → Shared → Prop} {s : Shared}
    (h : wpAny M A t (fun a s' => DK s.heap s'.heap → Q a s') (fun e s' => DK s.heap s'.heap → E e s') s) : wpAny M A t Q E s :=
  fun Γ p hΓ => x.wp M Γ s.heap _ _ p s (DK.refl _) (h Γ p hΓ)
theorem mildF_fields (f : Array Value → Array Value) : MildF (Obj.mapFields f) := fun o => by
  obtain ⟨c, d, dt, sl⟩ := o
  cases dt <;> exact ⟨rfl, fun h => h⟩
theorem mildF_slots (g : Obj → Array (Option Value)) : MildF (fun o => { o with slots := g o }) := fun o => by
  obtain ⟨c, d, dt, sl⟩ := o
  cases dt <;> exact ⟨rfl, fun h => h⟩
theorem mild_fieldsOf (v : Value) : Mild (fieldsOf v) := by
  unfold fieldsOf
  split
  · refine Mild.bind (Mild.load fun o => .pure o) fun o => ?_
    split
    · exact .pure _
    · exact .unsupported _
  · exact .unsupported _
theorem mild_field (v : Value) (i : Nat) : Mild (field v i) := by
  unfold field
  refine Mild.bind (mild_fieldsOf v) fun vs => ?_
  split
  · exact .pure _
  · exact .unsupported _
theorem mild_setField (v : Value) (i : Nat) (x : Value) : Mild (setField v i x) := by
  unfold setField
  split
  · unfold updateField
    refine Mild.bind (Mild.load fun o => .pure o) fun o => ?_
    split
    · split
      · exact .update (mildF_fields _) (.pure ())
      · exact .unsupported _
    · exact .unsupported _
  · exact .unsupported _
theorem mild_setFlight (e : Value) (f : Option Addr) : Mild (setFlight e f) := by
  unfold setFlight
  refine Mild.bind (mild_field e 1) fun tb => ?_
  split
  · exact mild_setField _ _ _
  · exact .pure ()
theorem mild_stack : Mild stack := .stack fun x => .pure x
theorem mild_claimsCaller : Mild underTheClaimsCaller := by
  unfold underTheClaimsCaller
  exact Mild.bind mild_stack fun x => .pure _
theorem mild_readyFrames : ∀ l : List Env, Mild (readyFrames l)
  | [] => .pure ()
  | env :: outer => by
    unfold readyFrames
    split
    · refine Mild.bind (Mild.load fun o => .pure o) fun o => ?_
      split
      · exact .pure ()
      · refine Mild.bind ?_ fun im => Mild.bind ?_ fun bk => Mild.bind (.update (mildF_slots _) (.pure ())) fun _ => mild_readyFrames outer
        · unfold behindIsImport
          split
          · exact .pure _
          · split
            · exact .pure _
            · exact Mild.bind (mild_field _ _) fun _ => .pure _
        · unfold keptBack
          split
          · split
            · exact .pure _
            · exact Mild.bind mild_claimsCaller fun _ => .pure _
          · exact .pure _
    · exact .unsupported _
theorem mild_frameOf (env : Env) : Mild (PySem.frameOf env) := by
  unfold PySem.frameOf frameEnvs
  refine Mild.bind (Mild.bind mild_stack fun _ => .pure _) fun l => Mild.bind ?_ fun r => ?_
  · unfold frameObject
    split
    · exact .pure _
    · exact Mild.bind (mild_readyFrames _) fun _ => .pure _
  · split
    · exact .pure _
    · exact .unsupported _
theorem mild_entryPlace (f : Addr) (b : Bool) : Mild (entryPlaceOf f b) := by
  unfold entryPlaceOf
  refine Mild.bind mild_stack fun l => ?_
  split <;> exact .pure _
theorem mild_newFields (vs : List Value) : Mild (newFields "traceback" vs) := by
  unfold newFields newObj newObjAsIs
  dsimp only
  have tail : Mild (do let a ← alloc { cls := Value.type "traceback", dict := none, data := Data.fields vs.toArray }; pure (Value.ref a)) := Mild.bind (Mild.alloc fun a => .pure a) fun _ => .pure _
  split
  · exact Mild.bind (.unsupported _) fun _ => tail
  · exact tail
theorem mild_newEntry (a b c d e : Value) (p : List Value) : Mild (EntryCells.newEntry a b c d e p) := mild_newFields _
theorem mild_noteFrame (e : Value) (env : Env) : Mild (noteFrame e env) := by
  unfold noteFrame
  have rest : ∀ (f : Addr) (head : Value), Mild (do setField e 1 (← EntryCells.newEntry head (← PySem.frameOf env) .none (rawInt f) .none (← entryPlaceOf f (head != .none)))) := fun f head =>
    Mild.bind (mild_frameOf env) fun fr => Mild.bind (mild_entryPlace _ _) fun pl => Mild.bind (mild_newEntry _ _ _ _ _ _) fun t => mild_setField _ _ _
  split
  · refine Mild.bind (mild_field e 1) fun head => ?_
    dsimp only
    split
    · refine Mild.bind (mild_field _ _) fun fl => ?_
      split
      · exact .pure ()
      · exact Mild.bind (mild_setField _ _ _) fun _ => rest _ _
    · exact rest _ _
  · exact .unsupported _
theorem mild_leaving (env : Env) (e : Value) : Mild (leaving env e) := Mild.bind (mild_noteFrame e env) fun _ => mild_setFlight e none
end Nm
namespace Nm
open PySem PySem.W PySem.Spec PySem.Calls PyProof.Rows
def HasD (e dx : Addr) (h : Heap) : Prop := ∃ oe, h.get? e = some oe ∧ oe.dict = some dx
theorem HasD.dk {e dx : Addr} {h h' : Heap} (x : HasD e dx h) (y : DK h h') : HasD e dx h' :=
  let ⟨oe, a, b⟩ := x; let ⟨o', c, d⟩ := y e oe a; ⟨o', c, d.trans b⟩
/-- an exception with its own dict flies out of a frame -/
def RaisedD (base G : Heap) (l : List Env) (e C dx : Addr) (news : List (Addr × Obj)) (h : Heap) : Prop := RaisedSN base G l e (.ref C) news h ∧ HasD e dx h
theorem RaisedD.sub {base G : Heap} {l : List Env} {e C dx : Addr} {news news' : List (Addr × Obj)} {h : Heap} (R : RaisedD base G l e C dx news h) (hs : ∀ p ∈ news', p ∈ news) : RaisedD base G l e C dx news' h := by
  obtain ⟨⟨B, a0, hB, hG, hl, hf⟩, d⟩ := R
  exact ⟨⟨B, a0, hB, hG, fun q hq => hl q (hs q hq), hf⟩, d⟩
def Without (e : Addr) (news news' : List (Addr × Obj)) : Prop := ∀ p ∈ news', p ∈ news ∧ p.1 ≠ e
theorem Without.nil {e : Addr} : Without e [] [] := fun _ h => nomatch h
theorem Without.skip {e : Addr} {o : Obj} {r r' : List (Addr × Obj)} (h : Without e r r') : Without e ((e, o) :: r) r' := fun p hp => ⟨.tail _ (h p hp).1, (h p hp).2⟩
theorem Without.keep {e : Addr} {p : Addr × Obj} {r r' : List (Addr × Obj)} (n : p.1 ≠ e) (h : Without e r r') : Without e (p :: r) (p :: r') := fun q hq => by
  rcases List.mem_cons.mp hq with rfl | hq
  · exact ⟨.head _, n⟩
  · exact ⟨.tail _ (h q hq).1, (h q hq).2⟩
section
variable {M : Model} {A : Around} {E : Value → Shared → Prop} {s' : Shared} {base g g₂ h : Heap} {outer : List Env} {L a e C dx t : Addr} {m : Str → Option Value} {name : Str} {scope : Scope} {cd : Value} {Q : Unit → Shared → Prop} {news news' : List (Addr × Obj)}
theorem leave_firstD (K : Below A base outer g) (F : Fr g L s'.heap m) (N : News g L s'.heap news) (he : (e, excO C (some dx) t) ∈ news) (hn : Without e news news')
    (hQ : ∀ h', RaisedD base g outer e C dx news' h' → g.UpToSlots h' → Q () { s' with heap := h' }) (hk : scope.kind = .function) :
    wpAny M (A.deeper (envOf name scope L a cd)) (leaving (envOf name scope L a cd) (.ref e)) Q E s' := by
  have K' := K.push (name := name) (a := a) (cd := cd) F hk
  have Ne := N _ he
  dsimp only at Ne
  have hin : ∀ env ∈ (envOf name scope L a cd :: outer), ∀ b, env.frame = some b → b ∈ e :: (envOf name scope L a cd :: outer).filterMap (·.frame) := fun env q b hb => .tail _ (List.mem_filterMap.mpr ⟨env, q, hb⟩)
  have out : ∀ b o, s'.heap.get? b = some o → b ≠ e → b ∉ (envOf name scope L a cd :: outer).filterMap (·.frame) → (hideAll s'.heap (e :: (envOf name scope L a cd :: outer).filterMap (·.frame))).get? b = some o := fun b o q n1 n2 => hideAll_get _ q fun hm => by
    rcases List.mem_cons.mp hm with z | z
    · exact n1 z
    · exact n2 z
  have st : base.StaysIn (hideAll s'.heap (e :: (envOf name scope L a cd :: outer).filterMap (·.frame))) := fun b o q => out b o (K'.stays b o q) (fun z => by
    have := K.stays _ _ q; rw [z, Ne.2.2] at this; cases this) fun hm => by rw [(K'.frames.mem hm).1] at q; cases q
  have sg : ∀ b o, g.get? b = some o → b ∉ outer.filterMap (·.frame) → (hideAll s'.heap (e :: (envOf name scope L a cd :: outer).filterMap (·.frame))).get? b = some o := fun b o q nm => out b o (F.keep b o q) (fun z => by
    rw [z, Ne.2.2] at q; cases q) fun hm => by
      rcases kts_mem hm with z | z
      · rw [z, kts_self F] at q; cases q
      · exact nm z
  have hl : ∀ q ∈ news', (hideAll s'.heap (e :: (envOf name scope L a cd :: outer).filterMap (·.frame))).get? q.1 = some q.2 ∧ g.get? q.1 = none ∧ base.get? q.1 = none := fun q hq => by
    obtain ⟨hq, ne⟩ := hn q hq
    refine ⟨out _ _ (N q hq).1 ne fun hm => ?_, (N q hq).2.2, fresh_of_stays K.stays (N q hq).2.2⟩
    obtain ⟨env, h1, hf⟩ := List.mem_filterMap.mp hm
    rcases List.mem_cons.mp h1 with rfl | h1
    · exact (N q hq).2.1 (Option.some.inj hf).symm
    · obtain ⟨o, ho, _⟩ := (K.frames.mem (List.mem_filterMap.mpr ⟨env, h1, hf⟩)).2
      rw [(N q hq).2.2] at ho; cases ho
  have hen : (hideAll s'.heap (e :: (envOf name scope L a cd :: outer).filterMap (·.frame))).get? e = none := hideAll_none _ (.head _)
  refine (mild_leaving _ _).any (wpAny_leaving_firstW (a0 := .ref t) K'.stack (funFrames_hide K'.frames hin) rfl Ne.1 (fun b o hb => of_hideAll _ hb) hen rfl rfl rfl fun h' hL dk => ?_)
  obtain ⟨k1, ⟨_, _, k2⟩, k3, k4⟩ := hL
  exact hQ h' ⟨⟨_, .ref t, st, sg, hl, k1, hen, k2, k3⟩, HasD.dk ⟨_, Ne.1, rfl⟩ dk⟩ ((Heap.UpToSlots.of_keeps F.keep).trans k4)
theorem leave_onD (K : Below A base outer g) (F : Fr g L g₂ m) (R : RaisedD base g₂ (envOf name scope L a cd :: outer) e C dx news s'.heap) (hsm : g₂.UpToSlots s'.heap)
    (hQ : ∀ h', RaisedD base g outer e C dx news h' → g.UpToSlots h' → Q () { s' with heap := h' }) :
    wpAny M (A.deeper (envOf name scope L a cd)) (leaving (envOf name scope L a cd) (.ref e)) Q E s' :=
  (mild_leaving _ _).any (leave_onSN K F R.1 hsm fun h' R' _ U dk => hQ h' ⟨R', R.2.dk dk⟩ U)
end
end Nm
namespace Nm
open PySem PySem.W PySem.Spec PySem.Calls PyProof.Rows
/-- an object of the class C with its own dict -/
def XO (o : Obj) (C dx : Addr) : Prop := o.cls = .ref C ∧ notCls o = true ∧ o.dict = some dx
section
variable {prog : Program} {w : World} {A₀ : Around} {E : Value → Shared → Prop} {s' : Shared} {base g g₀ G : Heap} {outer : List Env} {L a e dx C : Addr} {m : Str → Option Value} {name : Str} {scope : Scope} {cd : Value}
  {n : Str} {b₀ : Stmt} {suite : List Stmt} {pos np : Pos} {rest : List ExceptHandler} {Q : Flow → Shared → Prop} {news : List (Addr × Obj)} {KF : Frag}
  {p : Program} {loose : List Str} {mean : ExcName → Option Value} {mg mb : Str → Option Value} {x : Str}
/-- an exception of an own class is caught by its own class, under a name -/
theorem caughtD (R : RaisedD base G (envOf name scope L a cd :: outer) e C dx news s'.heap) (F : Fr g L G m) (K : Below A₀ base outer g) (hsm : G.UpToSlots s'.heap) (XB : KF.In base) (TB : Top p loose mean mg mb base)
    (D : KtsDicts (outer.filterMap (·.frame)) g) (T0 : KtsTurn (outer.filterMap (·.frame)) g₀ g)
    (ex : nsIn KF mainGlobals x = some (some (.ref C))) (q : ktsIn KF C "BaseException" = true)
    (k : ∀ oe h' g' tk, XO oe C dx → KtsTurn (outer.filterMap (·.frame)) g₀ g' → Fr g' L h' (fun y => if y = n then some (.ref e) else m y) → News g' L h' ((e, oe) :: news) → Below A₀ base outer g' → KF.In g' → Top p loose mean mg mb g' → KtsDicts (outer.filterMap (·.frame)) g' →
      wpAny (model prog w) ((A₀.deeper (envOf name scope L a cd)).mark (some (.ref e))) (execs (b₀ :: suite) (envOf name scope L a cd))
        (fun f s₄ => wpAny (model prog w) (A₀.deeper (envOf name scope L a cd)) (do bindName (envOf name scope L a cd) n .none; unbindBehindTheSuite (envOf name scope L a cd) n pos) (fun _ s₅ => Q f s₅) E s₄)
        (AsSuiteRaised (model prog w) ((A₀.deeper (envOf name scope L a cd)).mark (some (.ref e))) (envOf name scope L a cd) n pos (notedBy (model prog w) ((A₀.deeper (envOf name scope L a cd)).mark (some (.ref e))) (envOf name scope L a cd) (cameBackBy (model prog w) (A₀.deeper (envOf name scope L a cd)) (envOf name scope L a cd) E)))
        { s' with heap := h', toks := tk })
    (hk : scope.kind = .function := by rfl) (hlo : (envOf name scope L a cd).kindOf n = some .local := by rfl) (hx : (envOf name scope L a cd).kindOf x = some .globalImplicit := by rfl) (hd : (x == ("__debug__" : Str)) = false := by decide) :
    wpAny (model prog w) (A₀.deeper (envOf name scope L a cd)) (noteFrame (.ref e) (envOf name scope L a cd))
      (fun _ s₂ => wpAny (model prog w) (A₀.deeper (envOf name scope L a cd)) (setFlight (.ref e) none) (fun _ s₃ =>
        wpAny (model prog w) (A₀.deeper (envOf name scope L a cd)) (handleBy (.ref e) (envOf name scope L a cd) (.ExceptHandler (some (.Name x np)) (some n) (b₀ :: suite) pos :: rest)) Q E s₃) E s₂) E s' := by
  obtain ⟨⟨B, a0, hB, hBG, hl, hfl⟩, HD⟩ := R
  have hL : B.get? L = none := by
    obtain ⟨_, ⟨L', _, hf, hn', _⟩, _⟩ := hfl.2.2.1
    obtain rfl : L = L' := Option.some.inj hf
    exact hn'
  refine (mild_noteFrame _ _).any (wpAny_looks_onW (Around.frames_deeper K.stack) rfl hfl fun h₄ held₄ up₄ dk₄ => ?_)
  have HD₄ := HD.dk dk₄
  refine (mild_setFlight _ _).any (wpAny_landsW held₄ fun h₅ held₅ up₅' dk₅ => ?_)
  have HD₅ := HD₄.dk dk₅
  have up₅ := up₄.trans up₅'
  obtain ⟨g₅, T₅, F₅, K₅⟩ := kts_ground K F hBG held₅.1 (hsm.trans up₅)
  have X₅ : KF.In g₅ := XB.keeps K₅.stays
  have P₅ : TopRead p loose mg mb g₅ := topRead_of (TB.keeps K₅.stays)
  obtain ⟨ob, hob, hobc⟩ := held₅.there
  obtain ⟨nm, q', N, bs, bm, hdct, sn, sub, ab, col, dd, k0, k1, k2, k3, k5, newId, hC, hbase, hbT⟩ := kts_cls X₅ q
  have hC₅ := F₅.keep _ _ hC
  refine wpAny_handleBy_cons (codeAny_handlers_test (name_K F₅ X₅ P₅ ex ?_ hk hx hd)) (by intro q; cases q)
  refine wpAny_excMatches_sub_self hC₅ hob hobc hbase (codeAny_handlers_suite_as ?_)
  refine (mild_setFlight _ _).any (lands_againW held₅ fun h₆ fly₆ up₆ dk₆ => ?_)
  obtain ⟨g₆, T₆, F₆, K₆⟩ := kts_ground K F hBG fly₆.1 ((hsm.trans up₅).trans up₆)
  obtain ⟨oe, ws, hoe, hoec, hoed, hoe0⟩ := fly₆.first
  have HD₆ := HD₅.dk dk₆
  have hxd : oe.dict = some dx := by
    obtain ⟨o', a', b'⟩ := HD₆
    rw [hoe] at a'
    cases a'
    exact b'
  have ne₆ : g₆.get? e = none := T₆.none_ _ (kts_fresh F hBG fly₆.2.1 fun o ho m => by
    obtain ⟨_, o', ho', hd⟩ := K.frames.mem m
    rw [ho] at ho'
    cases ho'
    obtain ⟨sl, hs⟩ := ((hsm.trans up₅).trans up₆) _ _ (F.keep _ _ ho) hd
    rw [hoe] at hs
    cases hs
    exact hd _ hoed)
  have Nl : News g₆ L h₆ news := fun q hq => ⟨fly₆.1 _ _ (hl q hq).1, (fun z => by have := (hl q hq).1; rw [z, hL] at this; cases this), T₆.none_ _ (kts_none F.keep (hl q hq).2.1)⟩
  have N₆ := News.more F₆ Nl hoe (fun es n q => by rw [hoed] at q; cases q) ne₆
  have X₆ : KF.In g₆ := XB.keeps K₆.stays
  have P₆ : Top p loose mean mg mb g₆ := TB.keeps K₆.stays
  have D₆ : KtsDicts (outer.filterMap (·.frame)) g₆ := D.turn T₆
  refine stN F₆ N₆ (fun h₇ F₇ N₇ => ?_) hk hlo
  exact k oe h₇ g₆ _ ⟨hoec, by unfold notCls; rw [hoed], hxd⟩ (T0.trans T₆) F₇ N₇ K₆ X₆ P₆ D₆
end
section
variable {prog : Program} {w : World} {A : Around} {E : Value → Shared → Prop} {s : Shared} {h₀ : Heap} {L e dx C : Addr} {m : Str → Option Value} {K : Frag} {news : List (Addr × Obj)} {oe : Obj}
theorem bgKind : builtinKind "BaseException.__getattribute__" = some .slot := by decide +kernel
theorem bgSplit : splitId "BaseException.__getattribute__" = some ("BaseException", "__getattribute__") := by decide +kernel
def plainGetX (K : Frag) (C : Addr) : Bool := findIn K (.ref C) "__getattribute__" == some (some (.builtin "BaseException.__getattribute__")) && findIn K (.ref C) "__getattr__" == some none && mroIn K C (.type "BaseException") == some true
/-- a field of the caught exception is read -/
theorem getX_value {name : Str} {expr : Bool} {Q : Value → Shared → Prop} {v : Value} {x : Addr} {ox : Obj} {od : Option Obj} (X : K.In s.heap) (I : InstAt s.heap x ox C od) (hg : plainGetX K C = true)
    (hf : findObj K C od name = some (.value v)) (hh : handedIn v = true) (h : Q v { s with toks := s.toks + 1 }) : wpAny (model prog w) A (getAttr (.ref x) name expr) Q E s := by
  obtain ⟨hh', g, d, t, os⟩ := s
  simp only [plainGetX, Bool.and_eq_true, beq_iff_eq] at hg
  obtain ⟨⟨g1, g2⟩, g3⟩ := hg
  have L0 := I.type (M := model prog w)
  have L1 := looks_findIn (M := model prog w) X g1
  have L2 := looks_findIn (M := model prog w) X g2
  have L3 := looks_find (M := model prog w) X I hf
  have sub : Looks (model prog w) hh' (isInstance (.ref x) (.type "BaseException")) true := I.type.andThen (looks_mroIn X g3)
  have f3 := PySem.F.attr_Exception.ga.bind (.ref x)
  have hx0 : (expr && onTheHeap (Value.builtin "BaseException.__getattribute__")) = false := by cases expr <;> rfl
  have hx2 : (onTheHeap (Value.ref C) && Value.builtin "BaseException.__getattribute__" == Value.builtin "object.__getattribute__") = false := by
    rw [show (Value.builtin "BaseException.__getattribute__" == Value.builtin "object.__getattribute__") = false by decide +kernel]; rfl
  unfold getAttr getAttrBy
  refine wpAny_bind (wpAny_mkText (wpAny_holding (wpAny_bind (L0.at (wpAny_bind (L1.at ?_))))))
  dsimp only
  rw [hx2, if_neg (by decide)]
  unfold getAttrByItsOwn hookBefore
  refine wpAny_bind (L2.at ?_)
  unfold callGetattribute
  rw [hx0, if_neg (by decide)]
  refine wpAny_bind (wpAny_attempt (wpAny_holding ?_))
  unfold boundAndCalled
  rw [f3]
  refine wpAny_bind (wpAny_pure ?_)
  show wpAny _ _ (call (.builtin "BaseException.__getattribute__") [.ref x, .str name t]) _ _ _
  refine wpAny_call ?_
  refine codeAny_call_builtin (PySem.F.attr_Exception.ga.plain) PySem.F.entry_bexc_ga (@check_slot (model prog w) _ _ ⟨hh', g, d, t + 1, os⟩ "BaseException.__getattribute__" "BaseException" "__getattribute__" (.ref x) [.str name t] [] _ bgKind bgSplit sub (PySem.F.args_bexc_ga (.ref x) (.str name t)) ?_)
  unfold Builtin.«object.__getattribute__»
  refine wpAny_bind ?_
  show wpAny _ _ (pure (Value.ref x, [Value.str name t])) _ _ _
  refine wpAny_pure ?_
  refine wpAny_bind ?_
  show wpAny _ _ (pure name) _ _ _
  refine wpAny_pure ?_
  refine wpAny_bind (L0.at (wpAny_bind (L3.at ?_)))
  refine wpAny_pure ?_
  show wpAny _ _ (handedOut v) _ _ _
  rw [handedOut_of hh]; exact wpAny_pure h
theorem getX {name : Str} {expr : Bool} {Q : Value → Shared → Prop} {attr : Option Value} {v : Value} {es : List DictEntry} {n : Nat} (F : Fr h₀ L s.heap m) (X₀ : K.In h₀) (N : News h₀ L s.heap news) (x : XO oe C dx) (he : (e, oe) ∈ news) (hd : (dx, dictOf es n) ∈ news)
    (g1 : findIn K (.ref C) "__getattribute__" = some (some (.builtin "BaseException.__getattribute__"))) (g2 : findIn K (.ref C) "__getattr__" = some none) (g3 : mroIn K C (.type "BaseException") = some true) (hh : hasDictIn K C = true) (ha : findIn K (.ref C) name = some attr) (hn : noGet K attr = true) (hl : getL name es = some (some v)) (hv : handedIn v = true) (h : Q v { s with toks := s.toks + 1 }) :
    wpAny (model prog w) A (getAttr (.ref e) name expr) Q E s := by
  have a := (N _ he).1
  have b := (N _ hd).1
  dsimp only at a b
  exact getX_value (X₀.keeps F.keep) ⟨a, x.1, x.2.1, by rw [x.2.2]; exact b⟩ (by simp only [plainGetX, g1, g2, g3]; decide) (findObj_own (od := dictOf es n) hh ha hn hl) hv h
end
/-- into a function whose frame's ground may turn (an exception caught in it) -/
theorem code_defT {prog : Program} {w : World} {A₀ A : Around} {s : Shared} {base h₀ : Heap} {L a : Addr} {m : Str → Option Value} {cn : Str} {cs : Scope} {ccd : Value} {news : List (Addr × Obj)} {K : Frag} {p : Program} {loose : List Str} {mean : ExcName → Option Value} {mg mb : Str → Option Value}
    {R : Result → Shared → Prop} {name qual : Str} {params : Arguments} {body : List Stmt} {scope : Scope} {dV kV doc pm cdv ct oc : Value} {an od : Option Addr} {osl : Array (Option Value)} {f : Addr} {args : Args} {binds : List (Str × Value)}
    (B : Below A₀ base [] h₀) (F : Fr h₀ L s.heap m) (X₀ : K.In h₀) (N : News h₀ L s.heap news) (T : Top p loose mean mg mb h₀) (hA : A.frames = some [envOf cn cs L a ccd])
    (ho : K.lookup f = some ⟨oc, od, .func (fnOf name qual params body scope dV kV doc pm an cdv ct), osl⟩) (hcd : codeIn K cdv qual = true) (hroom : A.depth < recursionLimit)
    (hbind : BindsTo s (fnOf name qual params body scope dV kV doc pm an cdv ct) args binds) (hloc : ∀ y ∈ binds, scope.names.lookup y.1 = some .local)
    (h : ∀ g L' h₁, Fr h₀ L g m → Fr g L' h₁ (fun y => binds.reverse.lookup y) → News g L' h₁ news → Below A base [envOf cn cs L a ccd] g → K.In g → Top p loose mean mg mb g → KtsDicts ([envOf cn cs L a ccd].filterMap (·.frame)) g → GSub s.heap g (news.map (·.1)) →
      wpAny (model prog w) (A.deeper (envOf qual scope L' f cdv)) (execs body (envOf qual scope L' f cdv))
        (fun fl s' => LeaveS0 ([envOf cn cs L a ccd].filterMap (·.frame)) h₀ L m g R (match fl with | .ret v => v | _ => .none) s')
        (fun e s' => wpAny (model prog w) (A.deeper (envOf qual scope L' f cdv)) (leaving (envOf qual scope L' f cdv) e) (fun _ s'' => R (.error e) s'') (fun e' s'' => R (.error e') s'') s')
        { s with heap := h₁, toks := s.toks + binds.length })
    (hck : cs.kind = .function) (hco : scope.isCoroutine = false) (hgen : scope.isGenerator = false) (hk : scope.kind = .function)
    (hcell : ∀ x ∈ scope.names, x.2 ≠ .cell) : codeAny (model prog w) A (.call (.ref f) args) R s := by
  have X := X₀.keeps F.keep
  refine codeAny_call_def (fd := fnOf name qual params body scope dV kV doc pm an cdv ct) (body := body) (binds := binds) hroom (X _ _ ho) rfl (T.nolimit.keeps F.keep) (codeRec_of X hcd) rfl hbind hcell hloc (fun h₁ hns hk₁ => ?_) hco hgen hk
  obtain ⟨oL, es, ep, hLg, hLd, hN, hNs, st, B₂⟩ := kts_enter B F N hA hck
  have nL₀ : h₀.get? L = none := kts_self F
  refine wpAny_mono (h _ s.heap.objs.size h₁ ⟨hN _ hLg, st, F.above⟩ ⟨hns, fun b o e => hk₁ b o (of_hideAll _ e), Nat.le_of_eq (hideAll_size _ _)⟩
    (fun p hp => ⟨hk₁ _ _ (N p hp).1, Nat.ne_of_lt (Heap.lt_size (N p hp).1), hideAll_none _ (List.mem_map_of_mem hp)⟩) B₂ (X₀.keeps st) (T.keeps st) (fun b hb => by
      rcases kts_mem hb with rfl | z
      · exact ⟨oL, es, ep, hLg, hLd⟩
      · simp at z) (fun b o e n => hideAll_get _ e n)) (fun fl s' hl => ?_) fun _ _ y => y
  obtain ⟨g', L', m', news', T', F', N', k⟩ := hl
  obtain ⟨sl, hs⟩ := T'.up hLg
  have keep : ∀ b o, h₀.get? b = some o → g'.get? b = some o := fun b o e => T'.other b o (st b o e) fun q => by
    rcases kts_mem q with z | z
    · rw [z, nL₀] at e; cases e
    · simp at z
  refine k ⟨hNs sl _ (F'.keep _ _ hs), fun b o e => F'.keep b o (keep b o e), F.above⟩ fun p hp => ⟨(N' p hp).1, fun q => ?_, ?_⟩
  · have z := (N' p hp).2.2
    rw [q, hs] at z; cases z
  · cases q : h₀.get? p.1 with
    | none => rfl
    | some o =>
      have z := (N' p hp).2.2
      rw [keep _ _ q] at z; cases z
theorem GSub.turn {h g g' h' : Heap} {as : List Addr} {L L' : Addr} {m' : Str → Option Value} {cn : Str} {cs : Scope} {a : Addr} {ccd : Value} (G : GSub h g as) (T : KtsTurn ([envOf cn cs L a ccd].filterMap (·.frame)) g g') (F : Fr g' L' h' m') : GSub h h' (L :: as) := fun b o e n =>
  F.keep b o (T.other b o (G b o e (fun q => n (.tail _ q))) (fun q => by
    rcases kts_mem q with z | z
    · exact n (z ▸ .head _)
    · simp at z))
end Nm
namespace Nm
open PySem PySem.W PySem.Spec PySem.Calls PyProof.Rows
/-- into a function with cells, its ground known to hold all that is not named -/
theorem code_cellG {prog : Program} {w : World} {A₀ A : Around} {s : Shared} {base h₀ : Heap} {L : Addr} {m : Str → Option Value} {env : Env} {outer : List Env} {news : List (Addr × Obj)} {K : Frag} {p : Program} {loose : List Str} {mean : ExcName → Option Value} {mg mb : Str → Option Value}
    {R : Result → Shared → Prop} {name qual : Str} {params : Arguments} {body : List Stmt} {scope : Scope} {dV kV doc pm cdv ct oc : Value} {an od : Option Addr} {osl : Array (Option Value)} {f : Addr} {args : Args} {binds : List (Str × Value)}
    (B : Below A₀ base outer h₀) (F : Fr h₀ L s.heap m) (X₀ : K.In h₀) (N : News h₀ L s.heap news) (T : Top p loose mean mg mb h₀) (hA : A.frames = some (env :: outer)) (hf : env.frame = some L) (hke : env.scope.kind = .function)
    (ho : K.lookup f = some ⟨oc, od, .func (fnOf name qual params body scope dV kV doc pm an cdv ct), osl⟩) (hcd : codeIn K cdv qual = true) (hroom : A.depth < recursionLimit)
    (hbind : BindsTo s (fnOf name qual params body scope dV kV doc pm an cdv ct) args binds) (hkind : (binds.all fun y => scope.names.lookup y.1 == some .local || scope.names.lookup y.1 == some .cell) = true)
    (hnd : ((cellsFrom 0 scope.names []).map (·.1)).Nodup)
    (h : ∀ g L' h₁ tk cells, Fr h₀ L g m → Fr g L' h₁ (bindL (envOfC qual scope L' f cdv).kindOf binds fun _ => none) → News g L' h₁ (cells ++ news) →
      CellsAre (bindC (envOfC qual scope L' f cdv).kindOf binds fun _ => none) (cellsFrom (L' + 1) scope.names []) cells → Below A base (env :: outer) g → K.In g → Top p loose mean mg mb g → (∀ p ∈ news, p.1 < L') → GSub s.heap g (news.map (·.1)) →
      wpAny (model prog w) (A.deeper (envOfC qual scope L' f cdv)) (execs body (envOfC qual scope L' f cdv))
        (fun fl s' => LeaveK h₀ L m g R (match fl with | .ret v => v | _ => .none) s')
        (fun e s' => wpAny (model prog w) (A.deeper (envOfC qual scope L' f cdv)) (leaving (envOfC qual scope L' f cdv) e) (fun _ s'' => R (.error e) s'') (fun e' s'' => R (.error e') s'') s')
        { s with heap := h₁, toks := tk })
    (hco : scope.isCoroutine = false) (hgen : scope.isGenerator = false) (hk : scope.kind = .function) : codeAny (model prog w) A (.call (.ref f) args) R s := by
  have X := X₀.keeps F.keep
  obtain ⟨FG, BG, st, lv⟩ := groundX (R := R) B F N hA hf hke
  refine codeAny_call_function hroom (X _ _ ho) rfl hco hgen rfl (codeRec_of X hcd) (hbind _ _ _ _ ?_)
  refine wpAny_newFunctionEnv_cells hk ((kindsX hkind) _) fun env' he s' x => ?_
  subst he
  refine ⟨(T.nolimit.keeps F.keep).keeps x.toInCall.keep, codeAny_func ?_⟩
  obtain ⟨h₁, tk, rfl, _⟩ := x.done
  have kp := x.toInCall.keep
  obtain ⟨cells, NC, Y⟩ := Cl.news (h₀ := s.heap) (Nat.le_refl _) fun n c hm => ⟨x.cell n c (lookup_of_mem_nodup (cellsFrom_names scope.names 0 (s.heap.objs.size + 1) [] [] rfl ▸ hnd) hm), x.above n c hm⟩
  have N' : News (hideAll s.heap (news.map (·.1))) s.heap.objs.size h₁ (cells ++ news) := fun p hp => by
    rcases List.mem_append.mp hp with hp | hp
    · refine ⟨(NC p hp).1, (NC p hp).2.1, ?_⟩
      cases q : (hideAll s.heap (news.map (·.1))).get? p.1 with
      | none => rfl
      | some o =>
        have z := of_hideAll _ q
        rw [(NC p hp).2.2] at z; cases z
    · exact ⟨kp _ _ (N p hp).1, Nat.ne_of_lt (Heap.lt_size (N p hp).1), hideAll_none _ (List.mem_map_of_mem hp)⟩
  exact wpAny_mono (h _ s.heap.objs.size h₁ tk cells FG ⟨x.toInCall.ns, fun b o e => kp b o (of_hideAll _ e), Nat.le_of_eq (hideAll_size _ _)⟩ N' Y BG (X₀.keeps st) (T.keeps st) (fun p hp => Heap.lt_size (N p hp).1) (fun b o e n => hideAll_get _ e n)) (fun fl s' hl => lv _ _ hl) fun _ _ y => y
theorem new_of {h g h' : Heap} {as : List Addr} {L' tt : Addr} {o : Obj} {r : List (Addr × Obj)} (G : GSub h g as) (N : News g L' h' ((tt, o) :: r)) (b : Addr) (ob : Obj) (q : h.get? b = some ob) (n : b ∉ as) : @Ne Nat b tt := fun z => by
  have y := (N _ (.head _)).2.2
  dsimp only at y
  have x := G b ob q n
  rw [show b = tt from z, y] at x
  cases x
end Nm
namespace Nm
open PySem PySem.W PySem.Spec PySem.Calls PyProof.Rows
/-- the codes that hold a bytearray's memory while they stand below -/
def holdIds : List String := ["bytearray.__contains__", "bytearray.__mod__", "bytearray.__rmod__", "_struct.pack_into.held", "bytearray.find.held"] ++ Builtin.Bytes.decodersThatHold
def lendless : Code → Bool
  | .builtin id _ => !holdIds.contains id
  | _ => true
def Clean (st : List (Code × Pos)) : Prop := ∀ x ∈ st, lendless x.1 = true
/-- as wpAny, for the stacks that hold no bytearray -/
def wpD {α : Type} (M : Model) (A : Around) (t : Sem α) (Q : α → Shared → Prop) (E : Value → Shared → Prop) (s : Shared) : Prop :=
  ∀ Γ p, Γ.In A → lendless Γ.code = true → Clean Γ.below → Sem.wp M Γ t (fun a _ s' => Q a s') (fun e _ s' => E e s') p s
def codeD (M : Model) (A : Around) (c : Code) (R : Result → Shared → Prop) (s : Shared) : Prop :=
  ∀ Γ p, Γ.code = c → Γ.Below A → Clean Γ.below → wpCode M Γ R p s
section
variable {α β : Type} {M : Model} {A : Around} {E : Value → Shared → Prop} {s : Shared}
theorem wpD_any {t : Sem α} {Q : α → Shared → Prop} (h : wpAny M A t Q E s) : wpD M A t Q E s := fun Γ p hΓ _ _ => h Γ p hΓ
theorem codeD_any {c : Code} {R : Result → Shared → Prop} (h : codeAny M A c R s) : codeD M A c R s := fun Γ p hc hΓ _ => h Γ p hc hΓ
theorem wpD_mono {t : Sem α} {Q Q' : α → Shared → Prop} {E' : Value → Shared → Prop} (h : wpD M A t Q E s) (hQ : ∀ a s, Q a s → Q' a s) (hE : ∀ e s, E e s → E' e s) : wpD M A t Q' E' s :=
  fun Γ p a b c => Sem.wp_mono M Γ t (fun x _ s => hQ x s) (fun x _ s => hE x s) p s (h Γ p a b c)
theorem codeD_mono {c : Code} {R R' : Result → Shared → Prop} (h : codeD M A c R s) (hR : ∀ r s, R r s → R' r s) : codeD M A c R' s :=
  fun Γ p hc hΓ k => wpCode_mono hR (h Γ p hc hΓ k)
theorem wpD_bind {m : Sem α} {f : α → Sem β} {Q : β → Shared → Prop} (h : wpD M A m (fun a s' => wpD M A (f a) Q E s') E s) : wpD M A (m >>= f) Q E s := fun Γ p a b c => by
  rw [Sem.wp_bind']
  exact Sem.wp_mono M Γ m (fun x p' s' h' => h' Γ p' a b c) (fun _ _ _ h' => h') p s (h Γ p a b c)
/-- the first part needs no clean stack -/
theorem wpD_off {m : Sem α} {f : α → Sem β} {Q : β → Shared → Prop} (h : wpAny M A m (fun a s' => wpD M A (f a) Q E s') E s) : wpD M A (m >>= f) Q E s := wpD_bind (wpD_any h)
/-- what follows the first part needs no clean stack -/
theorem wpD_on {m : Sem α} {f : α → Sem β} {Q : β → Shared → Prop} (h : wpD M A m (fun a s' => wpAny M A (f a) Q E s') E s) : wpD M A (m >>= f) Q E s :=
  wpD_bind (wpD_mono h (fun _ _ x => wpD_any x) fun _ _ x => x)
theorem wpD_pure {a : α} {Q : α → Shared → Prop} (h : Q a s) : wpD M A (pure a) Q E s := fun _ _ _ _ _ => h
theorem wpD_onRaise {m : Sem α} {k : Value → Sem Unit} {Q : α → Shared → Prop} (h : wpD M A m Q (fun e s' => wpAny M A (k e) (fun _ s'' => E e s'') E s') s) : wpD M A (m.onRaise k) Q E s := fun Γ p a b c => by
  rw [Sem.wp_onRaise]
  exact Sem.wp_mono M Γ m (fun _ _ _ h' => h') (fun e p' s' h' => h' Γ p' a) p s (h Γ p a b c)
theorem wpD_attempt {m : Sem α} {Q : Except Value α → Shared → Prop} (h : wpD M A m (fun a => Q (.ok a)) (fun e => Q (.error e)) s) : wpD M A m.attempt Q E s :=
  fun Γ p a b c => by rw [Sem.wp_attempt]; exact h Γ p a b c
theorem wpD_holding {vs : List Value} {m : Sem α} {Q : α → Shared → Prop} (h : wpD M A m Q E s) : wpD M A (holding vs m) Q E s :=
  fun Γ p a b c => by rw [Sem.wp_holding]; exact h Γ p a b c
theorem wpD_keep {vs : List Value} {m : Sem α} {Q : α → Shared → Prop} (h : wpD M A m Q E s) : wpD M A (m.keep vs) Q E s :=
  fun Γ p a b c => by rw [Sem.wp_keep]; exact h Γ p a b c
theorem clean_cons {c : Code} {p : Pos} {st : List (Code × Pos)} (h : lendless c = true) (k : Clean st) : Clean ((c, p) :: st) := fun x hx => by
  rcases List.mem_cons.mp hx with rfl | hx
  · exact h
  · exact k x hx
theorem wpD_run {c : Code} {h : Option Value} {Q : Flow → Shared → Prop} (hc : codeD M (A.mark h) c (fun r s' => match r with | .ok f => Q f s' | .error e => E e s') s) (hnb : h ≠ some byPass := by intro x; cases x) : wpD M A (run c h) Q E s :=
  fun Γ p a b k => by rw [Sem.wp_run]; exact hc _ p rfl (a.enter c h p hnb) (clean_cons b k)
theorem wpD_call {f : Value} {pos : List Value} {kw : List (Str × Value)} {Q : Value → Shared → Prop}
    (hc : codeD M A (.call f ⟨pos, kw⟩) (fun r s' => match r with | .ok (.ret v) => Q v s' | .ok _ => False | .error e => E e s') s) : wpD M A (call f pos kw) Q E s :=
  fun Γ p a b k => by rw [Sem.wp_cmd_call]; exact hc _ p rfl (a.enter _ none p (by intro x; cases x)) (clean_cons b k)
theorem codeD_tree {c : Code} {R : Result → Shared → Prop} (hl : lendless c = true)
    (h : wpD M (A.under c) (M.den c) (fun fin s' => match fin with | .done f => R (.ok f) s' | .again c' => c'.quiet = true ∧ codeD M A c' R s') (fun e s' => R (.error e) s') s) : codeD M A c R s := fun Γ p hc hΓ k => by
  rw [wpCode_iff_wp, hc]
  refine Sem.wp_mono M Γ _ (fun fin p' s' h' => ?_) (fun _ _ _ h' => h') p s (h Γ p (hc ▸ hΓ.in) (hc ▸ hl) k)
  cases fin with
  | done f => exact h'
  | again c' => exact ⟨h'.1, h'.2 (Γ.goto c') p' rfl (hΓ.goto c') k⟩
end
section
open PySem.Builtin PySem.Builtin.Bytes
variable {M : Model} {A : Around} {E : Value → Shared → Prop} {s : Shared}
theorem hold_mem {id : String} (h : (!holdIds.contains id) = true) (k : id ∈ holdIds) : False := by
  rw [List.contains_iff_mem.mpr k] at h; cases h
theorem dite_not {c : Prop} {i : Decidable c} {a : c → Bool} {b : ¬ c → Bool} (h : ¬ c) (hb : b h = false) : @dite Bool c i a b = false := by rw [dif_neg h]; exact hb
theorem wpD_exported {self : Value} {Q : Bool → Shared → Prop} (h : Q false s) : wpD M A (exported self) Q E s := fun Γ p a b c => by
  have st := clean_cons (p := p) b c
  unfold exported
  show Q (((Γ.code, p) :: Γ.below).any _) s
  rw [List.any_eq_false.mpr]
  · exact h
  · intro x hx
    have l := st x hx
    obtain ⟨cd, q⟩ := x
    refine Bool.eq_false_iff.mp ?_
    cases cd
    case builtin id as =>
      dsimp only [lendless] at l
      obtain ⟨vs, kw⟩ := as
      have n1 : id ≠ "bytearray.__contains__" := fun z => hold_mem l (by rw [z]; decide)
      have n2 : id ≠ "bytearray.__mod__" := fun z => hold_mem l (by rw [z]; decide)
      have n3 : id ≠ "bytearray.__rmod__" := fun z => hold_mem l (by rw [z]; decide)
      have n4 : id ≠ "_struct.pack_into.held" := fun z => hold_mem l (by rw [z]; decide)
      have n5 : id ≠ "bytearray.find.held" := fun z => hold_mem l (by rw [z]; decide)
      have n6 : decodersThatHold.contains id = false := by
        cases e : decodersThatHold.contains id
        · rfl
        · exact (hold_mem l (List.mem_append_right _ (List.contains_iff_mem.mp e))).elim
      have z : ∀ v, (Bytes.sameRef v self && decodersThatHold.contains id) = false := fun v => by rw [n6, Bool.and_false]
      delta PySem.Builtin.Bytes.exported.match_1
      refine dite_not n1 (dite_not n2 (dite_not n3 (dite_not n4 (dite_not n5 ?_))))
      cases vs with
      | nil => rfl
      | cons v r => exact z v
    all_goals rfl
theorem wpD_exportsOf {a : Addr} {c : Value} {d : Option Addr} {b : Array UInt8} {n : Nat} {sl : Array (Option Value)} {Q : Nat → Shared → Prop} (ho : s.heap.get? a = some ⟨c, d, .bytearray b n, sl⟩) (h : Q n s) : wpAny M A (exportsOf (.ref a)) Q E s := by
  unfold exportsOf
  exact wpAny_bind (wpAny_load ho (wpAny_pure h))
theorem wpD_checkResize {a : Addr} {c : Value} {d : Option Addr} {b : Array UInt8} {sl : Array (Option Value)} {Q : Unit → Shared → Prop} (ho : s.heap.get? a = some ⟨c, d, .bytearray b 0, sl⟩) (h : Q () s) : wpD M A (checkResize (.ref a)) Q E s := by
  unfold checkResize
  refine wpD_bind ?_
  show wpD M A (exported (.ref a) >>= fun r => _) _ E s
  refine wpD_bind (wpD_exported ?_)
  refine wpD_any ?_
  refine wpAny_bind (wpD_exportsOf ho (wpAny_pure ?_))
  exact wpD_pure h
end
end Nm
namespace Nm
open PySem PySem.W PySem.Spec PySem.Calls PyProof.Rows
namespace B
open PySem.Builtin PySem.Builtin.Bytes
theorem look_rel : typeLookup (.type "bytearray") "__release_buffer__" = pure (some (.builtin "bytearray.__release_buffer__")) := by rw [typeLookup_type, builtinLookup_eq_fast]; kernel_rfl
theorem look_buf : typeLookup (.type "bytearray") "__buffer__" = pure (some (.builtin "bytearray.__buffer__")) := by rw [typeLookup_type, builtinLookup_eq_fast]; kernel_rfl
theorem look_bytes : typeLookup (.type "bytearray") "__bytes__" = pure none := by rw [typeLookup_type, builtinLookup_eq_fast]; kernel_rfl
theorem look_index : typeLookup (.type "bytearray") "__index__" = pure none := by rw [typeLookup_type, builtinLookup_eq_fast]; kernel_rfl
theorem look_new : typeLookup (.type "bytearray") "__new__" = pure (some (.builtin "bytearray.__new__")) := by rw [typeLookup_type, builtinLookup_eq_fast]; kernel_rfl
theorem sub_ba : isSubtype (.type "bytearray") (.type "bytearray") = pure true := by rw [isSubtype_type]; kernel_rfl
theorem mro_ba : mroOf (.type "bytearray") = pure [.type "bytearray", .type "object"] := by rw [mroOf_type]; kernel_rfl
theorem slot_init : Slot "bytearray" "__init__" "bytearray.__init__" :=
  .of (owner := "bytearray") (n := "__init__") (by rw [typeLookup_type, builtinLookup_eq_fast]; kernel_rfl) (by decide +kernel) (by decide +kernel) (by decide +kernel)
    (by first | exact .inl (by decide +kernel) | exact .inr (by decide +kernel)) (by rw [isSubtype_type]; kernel_rfl)
theorem called : TypeCalled "bytearray" "bytearray.__new__" "bytearray.__init__" :=
  ⟨by decide +kernel, by decide +kernel, ⟨_, _, mro_ba⟩, madeBy_type mro_ba look_new (by decide +kernel), by decide +kernel, by rw [isSubtype_type]; kernel_rfl, slot_init⟩
theorem entry_init : entryFor table "bytearray.__init__" = some Builtin.«bytearray.__init__» := by first | exact entryFor_of_fast (by kernel_rfl) | exact entryFor_of_tree (by kernel_rfl)
theorem entry_new : entryFor table "bytearray.__new__" = some Builtin.«list.__new__» := entryFor_alias (id' := "list.__new__") (by kernel_rfl) rfl (by decide +kernel) (by kernel_rfl)
theorem entry_append : entryFor table "bytearray.append" = some Builtin.«bytearray.append» := by first | exact entryFor_of_fast (by kernel_rfl) | exact entryFor_of_tree (by kernel_rfl)
theorem entry_extend : entryFor table "bytearray.extend" = some Builtin.«bytearray.extend» := by first | exact entryFor_of_fast (by kernel_rfl) | exact entryFor_of_tree (by kernel_rfl)
theorem entry_loop : entryFor table "bytearray.extend.loop" = some Builtin.«bytearray.extend.loop» := by first | exact entryFor_of_fast (by kernel_rfl) | exact entryFor_of_tree (by kernel_rfl)
theorem entry_end : entryFor table "bytearray.extend.end" = some Builtin.«bytearray.extend.end» := by first | exact entryFor_of_fast (by kernel_rfl) | exact entryFor_of_tree (by kernel_rfl)
theorem typeCall_ba : checkTypeCall "bytearray" ⟨[], []⟩ = pure () := by kernel_rfl
theorem newCall_ba : checkBuiltinCall "bytearray.__new__" ⟨[.type "bytearray"], []⟩ = pure () := by kernel_rfl
theorem plain_new : plainId "bytearray.__new__" = true := by decide +kernel
theorem plain_append : plainId "bytearray.append" = true := by decide +kernel
theorem plain_extend : plainId "bytearray.extend" = true := by decide +kernel
theorem plain_loop : plainId "bytearray.extend.loop" = true := by decide +kernel
theorem plain_end : plainId "bytearray.extend.end" = true := by decide +kernel
set_option maxRecDepth 1000000 in
theorem owner_new : ("bytearray.__new__".splitOn ".__new__").headD "" = "bytearray" := by simp +decide [String.splitOn, String.splitOnAux]
theorem bind_init : bindOptional "bytearray.__init__" "bytearray" ["source", "encoding", "errors"] [] [] = pure [none, none, none] := by kernel_rfl
end B
end Nm
namespace Nm
open PySem PySem.W PySem.Spec PySem.Calls PyProof.Rows
abbrev baO (b : Array UInt8) : Obj := { cls := .type "bytearray", data := .bytearray b }
section
variable {α β : Type} {M : Model} {A : Around} {E : Value → Shared → Prop} {s : Shared}
theorem wpD_no {c : Bool} {a b : Sem α} {Q : α → Shared → Prop} (hc : c = false) (h : wpD M A b Q E s) : wpD M A (if c = true then a else b) Q E s := by subst hc; exact h
theorem wpD_yes {c : Bool} {a b : Sem α} {Q : α → Shared → Prop} (hc : c = true) (h : wpD M A a Q E s) : wpD M A (if c = true then a else b) Q E s := by subst hc; exact h
theorem wpD_eq {t t' : Sem α} {Q : α → Shared → Prop} (e : t = t') (h : wpD M A t' Q E s) : wpD M A t Q E s := e ▸ h
end
section
open PySem.Builtin PySem.Builtin.Bytes
variable {prog : Program} {w : World} {A : Around} {E : Value → Shared → Prop} {s : Shared} {a : Addr} {b : Array UInt8}
theorem ba_type (h : s.heap.get? a = some (baO b)) : s.TypeIs (.ref a) "bytearray" := ⟨_, h, rfl⟩
theorem ba_ownRelease {M : Model} {Q : Bool → Shared → Prop} (h : s.heap.get? a = some (baO b)) (hq : Q false s) : wpAny M A (ownRelease (.ref a)) Q E s := by
  unfold ownRelease slotIsOwn
  refine wpAny_bind (wpAny_bind (wpAny_specialOf (ba_type h) B.look_rel ?_))
  dsimp only
  refine bm_if_false (by decide +kernel) ?_
  rw [show ("bytearray.__release_buffer__".dropRight ("__release_buffer__".length + 1)) = "bytearray" by decide +kernel]
  exact wpAny_isInstance (ba_type h) B.sub_ba (wpAny_pure hq)
theorem ba_payload {M : Model} {Q : Array UInt8 → Shared → Prop} (h : s.heap.get? a = some (baO b)) (hq : Q b s) : wpAny M A (payload (.ref a)) Q E s := by
  unfold payload payload?
  exact wpAny_bind (wpAny_bind (wpAny_load h (wpAny_pure (wpAny_pure hq))))
theorem ba_write {M : Model} {f : Array UInt8 → Array UInt8} {Q : Unit → Shared → Prop} (h : s.heap.get? a = some (baO b)) (hz : (f b).size ≤ sizeLine) (hq : Q () { s with heap := s.heap.update a (Obj.mapBytearray f) }) : wpAny M A (write (.ref a) f) Q E s := by
  show wpAny M A (updateBytearray a f) Q E s
  unfold updateBytearray
  refine wpAny_bind (wpAny_load h ?_)
  refine wpAny_bind (wpAny_update h ?_)
  exact wpAny_lookBehind (o := baO (f b)) (Heap.get?_update_self _ h rfl) (by show (if (f b).size > sizeLine then some "bytearray:memory" else none) = none; rw [if_neg (Nat.not_lt.mpr hz)]) hq
theorem ba_new {Q₁ : Value → Shared → Prop} (h : Q₁ (.ref s.heap.objs.size) { s with heap := s.heap.push (baO #[]) }) :
    codeAny (model prog w) A (.call (.builtin "bytearray.__new__") ⟨[.type "bytearray"], []⟩) (wants Q₁ E) s := by
  refine codeAny_of_tree ?_
  show wpAny _ A.in1 (do checkBuiltinCall "bytearray.__new__" ⟨[.type "bytearray"], []⟩; again (.builtin "bytearray.__new__" ⟨[.type "bytearray"], []⟩)) _ _ s
  refine wpAny_bind (wpAny_of_eq B.newCall_ba (wpAny_pure ⟨plainId_quiet B.plain_new _, codeAny_builtin_stack B.entry_new rfl fun p st => ?_⟩))
  rw [Around.under_plainId B.plain_new _]
  have hsub := B.sub_ba
  have hown := B.owner_new
  obtain ⟨hp, g, d, tk, os⟩ := s
  simp only [hown]
  wp_walk
  exact h
def FinD (M : Model) (A : Around) (R : Result → Shared → Prop) (fin : Fin) (s' : Shared) : Prop :=
  match fin with
  | .done f => R (.ok f) s'
  | .again c' => c'.quiet = true ∧ codeD M A c' R s'
theorem codeD_builtin_at {id : String} {args : Args} {bi : Builtin} {R : Result → Shared → Prop} (hl : lendless (.builtin id args) = true) (hb : entryFor table id = some bi)
    (h : wpD (model prog w) (A.under (.builtin id args)) (bi args) (FinD (model prog w) A R) (fun e s' => R (.error e) s') s) : codeD (model prog w) A (.builtin id args) R s := by
  refine codeD_tree hl ?_
  show wpD _ _ (match entryFor table id with | some b => b args | none => unsupported ((withoutEnding? id "#data").getD id)) _ _ s
  rw [hb]; exact h
theorem codeD_builtin {id : String} {args : Args} {bi : Builtin} {R : Result → Shared → Prop} (hl : lendless (.builtin id args) = true) (hq : plainId id = true) (hb : entryFor table id = some bi)
    (h : wpD (model prog w) A.in1 (bi args) (FinD (model prog w) A R) (fun e s' => R (.error e) s') s) : codeD (model prog w) A (.builtin id args) R s := by
  refine codeD_tree hl ?_
  rw [Around.under_plainId hq args]
  show wpD _ _ (match entryFor table id with | some b => b args | none => unsupported ((withoutEnding? id "#data").getD id)) _ _ s
  rw [hb]; exact h
theorem codeD_call_builtin {id : String} {args : Args} {bi : Builtin} {R : Result → Shared → Prop} (hl : lendless (.builtin id args) = true) (hq : plainId id = true) (hb : entryFor table id = some bi)
    (h : wpAny (model prog w) A.in1 (checkBuiltinCall id args) (fun _ s₁ => wpD (model prog w) A.in1 (bi args) (FinD (model prog w) A R) (fun e s' => R (.error e) s') s₁) (fun e s' => R (.error e) s') s) :
    codeD (model prog w) A (.call (.builtin id) args) R s := by
  refine codeD_tree rfl ?_
  show wpD _ A.in1 (do checkBuiltinCall id args; again (.builtin id args)) _ _ s
  exact wpD_off (wpAny_mono h (fun _ s₁ h₁ => wpD_pure ⟨plainId_quiet hq args, codeD_builtin hl hq hb h₁⟩) fun _ _ x => x)
theorem argsOk_init (a : Value) : argsOk "bytearray.__init__" ⟨[a], []⟩ := by unfold argsOk; kernel_rfl
theorem ba_init {R : Result → Shared → Prop} (h : s.heap.get? a = some (baO b)) (hR : R (.ok (.ret .none)) { s with heap := s.heap.update a (Obj.mapBytearray fun _ => #[]) }) :
    codeD (model prog w) A (.call (.builtin "bytearray.__init__") ⟨[.ref a], []⟩) R s := by
  refine codeD_call_builtin rfl B.slot_init.plain B.entry_init (B.slot_init.check _ _ _ _ _ _ _ _ (ba_type h) (argsOk_init _) ?_)
  unfold Builtin.«bytearray.__init__»
  refine wpD_off (ba_ownRelease h ?_)
  refine wpD_no rfl ?_
  refine wpD_off (wpAny_of_eq B.bind_init ?_)
  refine wpD_off (wpAny_of_eq (a := ()) rfl ?_)
  refine wpD_off (wpAny_of_eq (a := ()) rfl ?_)
  refine wpD_bind ?_
  show wpD _ _ (exported (.ref a) >>= fun r => _) _ _ s
  refine wpD_bind (wpD_exported ?_)
  refine wpD_any ?_
  refine wpAny_bind (wpD_exportsOf h (wpAny_pure ?_))
  refine wpD_off (ba_write h (Nat.zero_le _) ?_)
  refine wpD_any ?_
  exact wpAny_pure hR
/-- bytearray() -/
theorem ba_call {Q : Value → Shared → Prop} (h : Q (.ref s.heap.objs.size) { s with heap := (s.heap.push (baO #[])).update s.heap.objs.size (Obj.mapBytearray fun _ => #[]) }) :
    wpD (model prog w) A (call (.type "bytearray") []) Q E s := by
  obtain ⟨c, tl, hmro⟩ := B.called.mro
  have hmade := B.called.made
  have h1 := B.called.notType
  have h2 := B.called.canCreate
  refine wpD_call (codeD_tree rfl ?_)
  show wpD _ A.in1 (again (.builtin "type.__call__" ⟨[.type "bytearray"], []⟩)) _ _ s
  refine wpD_pure ⟨Code.quiet_builtin _ (by decide +kernel), codeD_builtin_at rfl F.entry_type_call ?_⟩
  rw [Around.under_plain (weight_type_call_type "bytearray" [] []) rfl]
  unfold Builtin.«type.__call__»
  dsimp only
  refine wpD_no h1 ?_
  refine wpD_no h2 ?_
  refine wpD_off (wpAny_of_eq B.typeCall_ba ?_)
  refine wpD_off (wpAny_of_eq hmro ?_)
  refine wpD_no rfl ?_
  refine wpD_off (wpAny_of_eq hmade ?_)
  dsimp only
  refine wpD_off (wpAny_pure ?_)
  have hs : (s.heap.push (baO #[])).get? s.heap.objs.size = some (baO #[]) := Heap.get?_push_size _ rfl
  refine wpD_off (wpAny_holding (wpAny_call (codeAny_mono (ba_new (E := E) (Q₁ := fun v s' => v = .ref s.heap.objs.size ∧ s' = { s with heap := s.heap.push (baO #[]) }) ⟨rfl, rfl⟩) fun r s' hr => ?_)))
  rcases r with e | (v | _ | _ | _)
  case error => exact hr
  all_goals first | exact hr.elim | skip
  obtain ⟨rfl, rfl⟩ := hr
  show wpD _ _ (isInstance (.ref s.heap.objs.size) (.type "bytearray") >>= _) _ _ _
  refine wpD_off (wpAny_isInstance (ba_type hs) B.sub_ba ?_)
  refine wpD_no rfl ?_
  refine wpD_bind (wpD_holding ?_)
  unfold callSpecial?
  refine wpD_off (wpAny_specialOf (ba_type hs) B.slot_init.lookup ?_)
  dsimp only
  refine wpD_holding ?_
  rw [B.slot_init.bind]
  refine wpD_off (wpAny_pure ?_)
  dsimp only
  refine wpD_bind (wpD_call (ba_init hs ?_))
  refine wpD_pure ?_
  exact wpD_any (bm_if_false rfl (wpAny_pure h))
end
end Nm
namespace Nm
open PySem PySem.W PySem.Spec PySem.Calls PyProof.Rows
namespace B
theorem slot_append : Slot "bytearray" "append" "bytearray.append" :=
  .of (owner := "bytearray") (n := "append") (by rw [typeLookup_type, builtinLookup_eq_fast]; kernel_rfl) (by decide +kernel) (by decide +kernel) (by decide +kernel)
    (by first | exact .inl (by decide +kernel) | exact .inr (by decide +kernel)) (by rw [isSubtype_type]; kernel_rfl)
theorem slot_extend : Slot "bytearray" "extend" "bytearray.extend" :=
  .of (owner := "bytearray") (n := "extend") (by rw [typeLookup_type, builtinLookup_eq_fast]; kernel_rfl) (by decide +kernel) (by decide +kernel) (by decide +kernel)
    (by first | exact .inl (by decide +kernel) | exact .inr (by decide +kernel)) (by rw [isSubtype_type]; kernel_rfl)
theorem args_append (a b : Value) : argsOk "bytearray.append" ⟨[a, b], []⟩ := by unfold argsOk; kernel_rfl
theorem args_extend (a b : Value) : argsOk "bytearray.extend" ⟨[a, b], []⟩ := by unfold argsOk; kernel_rfl
end B
section
open PySem.Builtin PySem.Builtin.Bytes
variable {prog : Program} {w : World} {A : Around} {E : Value → Shared → Prop} {s : Shared} {a l : Addr} {b : Array UInt8}
theorem byte_value {M : Model} {n : Int} {t : Tok} {Q : UInt8 → Shared → Prop} (h0 : 0 ≤ n) (h1 : n < 256) (h : Q n.toNat.toUInt8 s) : wpAny M A (byteValue (.int n t)) Q E s := by
  unfold byteValue
  refine wpAny_bind (wpAny_of_eq (rfl : asIndex (.int n t) = pure n) ?_)
  refine bm_if_false (by simp only [Bool.or_eq_false_iff, decide_eq_false_iff_not]; omega) ?_
  exact wpAny_pure h
theorem ba_append {R : Result → Shared → Prop} {n : Int} {t : Tok} (h : s.heap.get? a = some (baO b)) (h0 : 0 ≤ n) (h1 : n < 256) (hz : b.size < sizeLine)
    (hR : R (.ok (.ret .none)) { s with heap := s.heap.update a (Obj.mapBytearray (·.push n.toNat.toUInt8)) }) :
    codeD (model prog w) A (.call (.builtin "bytearray.append") ⟨[.ref a, .int n t], []⟩) R s := by
  refine codeD_call_builtin rfl B.slot_append.plain B.entry_append (B.slot_append.check _ _ _ _ _ _ _ _ (ba_type h) (B.args_append _ _) ?_)
  unfold Builtin.«bytearray.append»
  refine wpD_off (wpAny_of_eq (a := (Value.ref a, Value.int n t)) rfl ?_)
  dsimp only
  refine wpD_off (byte_value h0 h1 ?_)
  refine wpD_bind (wpD_checkResize h ?_)
  refine wpD_off (ba_write h (by rw [Array.size_push]; omega) ?_)
  exact wpD_any (wpAny_pure hR)
theorem ba_loop {R : Result → Shared → Prop} {I S : Addr} {vs : List Value} {ns : List Int} (hh : A.handled = none) (hi : IntsAre vs ns) (hr : ∀ n ∈ ns, 0 ≤ n ∧ n < 256) (hz : b.size + ns.length ≤ sizeLine) (hIS : I ≠ S) (hlI : l ≠ I) (hlS : l ≠ S) (haI : a ≠ I) (haS : a ≠ S) :
    ∀ (k i : Nat) (s : Shared), ns.length - i = k → i ≤ ns.length → s.heap.get? a = some (baO b) → s.heap.IsList l vs.toArray → s.heap.IsListIter I l i → s.heap.get? S = some (baO (byteArr (ns.take i))) →
      (∀ h' k', h'.get? a = some (baO (b ++ byteArr ns)) → (∀ c o, c ≠ a → c ≠ I → c ≠ S → s.heap.get? c = some o → h'.get? c = some o) → R (.ok (.ret .none)) { s with heap := h', toks := k' }) →
      codeD (model prog w) A (.builtin "bytearray.extend.loop" ⟨[.ref a, .ref l, .ref I, .ref S], []⟩) R s := by
  have hlen : vs.length = ns.length := hi.length
  intro k
  induction k with
  | zero =>
    intro i s hk hle ha hl hit hS hR
    have hin : i = ns.length := by omega
    subst hin
    refine codeD_builtin rfl B.plain_loop B.entry_loop ?_
    show wpD _ A.in1 (pyNext (.ref I) >>= _) _ _ s
    refine wpD_off (wpAny_pyNext_list_end hh hit hl (by simp [hlen]) fun h' he => ?_)
    have hS' : h'.get? S = some (baO (byteArr (ns.take ns.length))) := he S _ (Ne.symm hIS) hS
    have ha' : h'.get? a = some (baO b) := he a _ haI ha
    rw [List.take_length] at hS'
    refine wpD_pure ⟨plainId_quiet B.plain_end _, codeD_builtin rfl B.plain_end B.entry_end ?_⟩
    unfold Builtin.«bytearray.extend.end»
    dsimp only
    refine wpD_off (wpAny_point ?_)
    refine wpD_off (ba_payload hS' ?_)
    show wpD _ _ (if (!(byteArr ns).isEmpty) = true then (checkResize (.ref a) >>= fun _ => write (.ref a) (· ++ byteArr ns) >>= fun _ => ret .none) else (write (.ref a) (· ++ byteArr ns) >>= fun _ => ret .none)) _ _ _
    have fin : wpD (model prog w) A.in1 (write (.ref a) (· ++ byteArr ns) >>= fun _ => ret .none) (FinD (model prog w) A R) (fun e s' => R (.error e) s') { s with heap := h' } := by
      refine wpD_off (ba_write ha' (by rw [Array.size_append, byteArr_size]; exact hz) ?_)
      refine wpD_any (wpAny_pure (hR _ _ ?_ ?_))
      · exact Heap.get?_update_self (Obj.mapBytearray (· ++ byteArr ns)) ha' rfl
      · intro c o hca hcI hcS e
        exact (Heap.get?_update_other _ _ (Ne.symm hca)).trans (he c o hcI e)
    by_cases q : (!(byteArr ns).isEmpty) = true
    · rw [if_pos q]; exact wpD_bind (wpD_checkResize ha' fin)
    · rw [if_neg q]; exact fin
  | succ k ih =>
    intro i s hk hle ha hl hit hS hR
    have hlt : i < ns.length := by omega
    obtain ⟨x, hx⟩ : ∃ x, vs[i]? = some x := ⟨vs[i]'(by omega), List.getElem?_eq_getElem (by omega)⟩
    obtain ⟨n, t, rfl, hn⟩ := IntsAre.at hi i x hx
    obtain ⟨h0, h1⟩ := hr n (List.mem_of_getElem? hn)
    refine codeD_builtin rfl B.plain_loop B.entry_loop ?_
    show wpD _ A.in1 (pyNext (.ref I) >>= _) _ _ s
    refine wpD_off (wpAny_pyNext_list_item (x := .int n t) hit hl (by simpa using hx) fun h' hit' hs => ?_)
    have hS' : h'.get? S = some (baO (byteArr (ns.take i))) := (hs.2 S (Ne.symm hIS)).trans hS
    have ha' : h'.get? a = some (baO b) := (hs.2 a haI).trans ha
    refine wpD_off (wpAny_tryCatch (wpAny_holding (byte_value h0 h1 ?_)))
    refine wpD_off (wpAny_letGo ?_)
    have hS₂ : (h'.update S (Obj.mapBytearray (·.push n.toNat.toUInt8))).get? S = some (baO (byteArr (ns.take (i + 1)))) := by
      rw [byteArr_take hn]
      exact Heap.get?_update_self (Obj.mapBytearray (·.push n.toNat.toUInt8)) hS' rfl
    refine wpD_off (ba_write hS' (by rw [Array.size_push, byteArr_size, List.length_take]; omega) ?_)
    refine wpD_pure ⟨plainId_quiet B.plain_loop _, ih (i + 1) { s with heap := h'.update S (Obj.mapBytearray (·.push n.toNat.toUInt8)) } (by omega) hlt ?_ ?_ ?_ hS₂ fun h3 k' ha3 hk3 => ?_⟩
    · exact (Heap.get?_update_other _ _ (Ne.symm haS)).trans ha'
    · exact (hl.extBut hs.extBut hlI).extBut (Heap.SameBut.update ..).extBut hlS
    · exact hit'.extBut (Heap.SameBut.update ..).extBut hIS
    · exact hR h3 k' ha3 fun c o hca hcI hcS e => hk3 c o hca hcI hcS ((Heap.get?_update_other _ _ (Ne.symm hcS)).trans (hs.extBut c o hcI e))
theorem ba_extend {R : Result → Shared → Prop} {vs : List Value} {ns : List Int} (hh : A.handled = none) (ha : s.heap.get? a = some (baO b)) (hl : s.heap.IsList l vs.toArray) (hi : IntsAre vs ns) (hr : ∀ n ∈ ns, 0 ≤ n ∧ n < 256) (hz : b.size + ns.length ≤ sizeLine)
    (hR : ∀ h' k', h'.get? a = some (baO (b ++ byteArr ns)) → (∀ c o, c ≠ a → s.heap.get? c = some o → h'.get? c = some o) → R (.ok (.ret .none)) { s with heap := h', toks := k' }) :
    codeD (model prog w) A (.call (.builtin "bytearray.extend") ⟨[.ref a, .ref l], []⟩) R s := by
  refine codeD_call_builtin rfl B.slot_extend.plain B.entry_extend (B.slot_extend.check _ _ _ _ _ _ _ _ (ba_type ha) (B.args_extend _ _) ?_)
  have hT : s.TypeIs (.ref l) "list" := hl.typeIs
  obtain ⟨ol, hol, hoc, nl, hod⟩ := id hl
  unfold Builtin.«bytearray.extend»
  refine wpD_off (wpAny_of_eq (a := (Value.ref a, Value.ref l)) rfl ?_)
  dsimp only
  refine wpD_off (wpAny_specialOf hT F.bm_no_buffer ?_)
  refine wpD_no rfl ?_
  refine wpD_off (wpAny_tryCatch (wpAny_pyIter_list hl ?_))
  have hl₁ : (s.heap.push { cls := .type "list_iterator", data := .fields #[.ref l, .int 0 0] }).IsList l vs.toArray := hl.push _
  have hT₁ : ({ s with heap := s.heap.push { cls := .type "list_iterator", data := .fields #[.ref l, .int 0 0] } } : Shared).TypeIs (.ref l) "list" := Heap.IsList.typeIs (s := { s with heap := s.heap.push { cls := .type "list_iterator", data := .fields #[.ref l, .int 0 0] } }) hl₁
  refine wpD_off (wpAny_holding ?_)
  unfold Builtin.Bytes.lengthHint
  refine wpAny_bind (wpAny_specialOf hT₁ slot_list_len.lookup ?_)
  dsimp only
  rw [F.bm_split]
  dsimp only
  refine wpAny_bind (wpAny_isInstance hT₁ F.bm_sub_list ?_)
  refine bm_if_false rfl ?_
  refine bm_if_true (by decide +kernel) ?_
  refine wpAny_pure ?_
  refine wpD_off ?_
  unfold Builtin.Bytes.newBytearray
  refine wpAny_newObj_type ?_ (Nat.zero_le _)
  have hI : ((s.heap.push { cls := .type "list_iterator", data := .fields #[.ref l, .int 0 0] }).push { cls := .type "bytearray", data := .bytearray #[] }).IsListIter s.heap.objs.size l 0 :=
    ⟨_, Heap.get?_push_of_some _ (Heap.get?_push_size _ rfl), rfl, rfl⟩
  have hlt : l < s.heap.objs.size := Heap.lt_size hol
  have hat : a < s.heap.objs.size := Heap.lt_size ha
  have hsz : (s.heap.push { cls := .type "list_iterator", data := .fields #[.ref l, .int 0 0] }).objs.size = s.heap.objs.size + 1 := Heap.size_push _ _
  have main := ba_loop (prog := prog) (w := w) (A := A) (R := R) (a := a) (b := b) (l := l) (I := s.heap.objs.size) (S := (s.heap.push { cls := .type "list_iterator", data := .fields #[.ref l, .int 0 0] }).objs.size) hh hi hr hz
    (by rw [hsz]; exact Nat.ne_of_lt (Nat.lt_succ_self _)) (Nat.ne_of_lt hlt) (by rw [hsz]; exact Nat.ne_of_lt (Nat.lt_succ_of_lt hlt)) (Nat.ne_of_lt hat) (by rw [hsz]; exact Nat.ne_of_lt (Nat.lt_succ_of_lt hat))
    ns.length 0 { s with heap := (s.heap.push { cls := .type "list_iterator", data := .fields #[.ref l, .int 0 0] }).push { cls := .type "bytearray", data := .bytearray #[] } } rfl (Nat.zero_le _) (Heap.get?_push_of_some _ (Heap.get?_push_of_some _ ha)) (hl₁.push _) hI (Heap.get?_push_size _ rfl)
    fun h' k ha' hk => hR h' k ha' fun c o hca e => hk c o hca (Nat.ne_of_lt (Heap.lt_size e)) (by rw [hsz]; exact Nat.ne_of_lt (Nat.lt_succ_of_lt (Heap.lt_size e))) (Heap.get?_push_of_some _ (Heap.get?_push_of_some _ e))
  exact wpD_pure ⟨plainId_quiet B.plain_loop _, main⟩
end
end Nm
namespace Nm
open PySem PySem.W PySem.Spec PySem.Calls PyProof.Rows
section
open PySem.Builtin PySem.Builtin.Bytes
variable {prog : Program} {w : World} {A : Around} {E : Value → Shared → Prop} {s : Shared} {a : Addr} {b : Array UInt8}
theorem ba_slotBuf {M : Model} {Q : Bool → Shared → Prop} (h : s.heap.get? a = some (baO b)) (hq : Q true s) : wpAny M A (slotIsOwn (.ref a) "__buffer__") Q E s := by
  unfold slotIsOwn
  refine wpAny_bind (wpAny_specialOf (ba_type h) B.look_buf ?_)
  dsimp only
  refine bm_if_false (by decide +kernel) ?_
  rw [show ("bytearray.__buffer__".dropRight ("__buffer__".length + 1)) = "bytearray" by decide +kernel]
  exact wpAny_isInstance (ba_type h) B.sub_ba hq
theorem ba_buffer {M : Model} {id : String} {Q : Option (Array UInt8) → Shared → Prop} (h : s.heap.get? a = some (baO b)) (hq : Q (some b) s) : wpAny M A (buffer? id (.ref a) true) Q E s := by
  unfold buffer?
  refine wpAny_bind (wpAny_specialOf (ba_type h) B.look_buf ?_)
  dsimp only
  refine wpAny_bind (ba_slotBuf h ?_)
  refine bm_if_false rfl ?_
  refine wpAny_bind (wpAny_specialOf (ba_type h) B.look_buf ?_)
  refine wpAny_bind (ba_ownRelease h ?_)
  refine bm_if_false rfl ?_
  refine wpAny_bind (ba_payload h ?_)
  exact wpAny_pure hq
theorem ba_bytesNew {Q : Value → Shared → Prop} (h : s.heap.get? a = some (baO b)) (hz : b.size ≤ sizeLine) (hQ : Q (.bytes b s.toks) { s with toks := s.toks + 1 }) :
    codeAny (model prog w) A (.call (.builtin "bytes.__new__") ⟨[.type "bytes", .ref a], []⟩) (wants Q E) s := by
  refine codeAny_of_tree ?_
  show wpAny _ A.in1 (do checkBuiltinCall "bytes.__new__" ⟨[.type "bytes", .ref a], []⟩; again (.builtin "bytes.__new__" ⟨[.type "bytes", .ref a], []⟩)) _ _ s
  refine wpAny_bind (wpAny_of_eq (F.bm_newCall _) (wpAny_pure ⟨plainId_quiet F.bm_plain _, codeAny_builtin F.bm_entry ?_⟩))
  rw [Around.under_plainId F.bm_plain _]
  have hT := ba_type h
  unfold Builtin.«bytes.__new__»
  refine wpAny_bind (wpAny_of_eq (a := true) rfl ?_)
  refine bm_if_false rfl ?_
  refine wpAny_bind (wpAny_of_eq F.bm_sub ?_)
  refine bm_if_false rfl ?_
  refine wpAny_bind (wpAny_of_eq (F.bm_bind _) ?_)
  refine wpAny_bind (wpAny_of_eq (a := ()) rfl ?_)
  refine wpAny_bind (wpAny_of_eq (a := ()) rfl ?_)
  refine bm_if_false rfl ?_
  refine wpAny_bind (wpAny_specialOf hT B.look_bytes ?_)
  refine wpAny_bind (wpAny_bind ?_)
  show wpAny _ _ (load a >>= _) _ _ _
  refine wpAny_bind (wpAny_load h ?_)
  refine wpAny_pure (wpAny_pure ?_)
  refine bm_if_false rfl ?_
  refine wpAny_bind (wpAny_specialOf hT B.look_index ?_)
  refine bm_if_true rfl ?_
  first
    | show wpAny _ _ (Builtin.Bytes.buffer? "bytes.__new__" (.ref a) true >>= _) _ _ _
    | (refine wpAny_bind ?_; show wpAny _ _ (Builtin.Bytes.buffer? "bytes.__new__" (.ref a) true >>= _) _ _ _)
  refine wpAny_bind (ba_buffer h ?_)
  dsimp only
  refine wpAny_bind (wpAny_rule ?_)
  refine wpAny_bind (wpAny_mkBytes ?_ hz)
  show wpAny _ _ (if (Value.type "bytes" == Value.type "bytes") = true then _ else _) _ _ _
  refine bm_if_true (by decide) ?_
  first
    | exact wpAny_pure hQ
    | exact wpAny_bind (wpAny_pure (wpAny_pure hQ))
/-- bytes(bytearray) -/
theorem ba_bytes {Q : Value → Shared → Prop} (h : s.heap.get? a = some (baO b)) (hz : b.size ≤ sizeLine) (hQ : Q (.bytes b s.toks) { s with toks := s.toks + 1 }) : wpAny (model prog w) A (call (.type "bytes") [.ref a]) Q E s := by
  refine callType_codes (Q₁ := fun obj s₁ => s₁.TypeIs obj "bytes" ∧ Q obj s₁) F.bm_called (F.bm_typeCall _) F.entry_object_init
    (ba_bytesNew h hz ⟨PySem.W.typeIs_bytes _ _ _, hQ⟩) fun obj s₁ h₁ => ?_
  exact ⟨h₁.1, F.args_object_init_2 obj _, object_init_meets F.bm_called.init.lookup F.bm_called.made (by decide) prog w A.in1 _ s₁ ⟨h₁.1, rfl, h₁.2⟩⟩
end
end Nm
namespace Nm
open PySem PySem.W PySem.Spec PySem.Calls PyProof.Rows
section
variable {α β : Type} {M : Model} {A : Around} {E : Value → Shared → Prop} {s : Shared} {env : Env}
theorem wpD_cons {st : Stmt} {rest : List Stmt} {Q : Flow → Shared → Prop} (h : wpD M A (exec st env) (fun f s' => match f with | .next => wpD M A (execs rest env) Q E s' | f => Q f s') E s) : wpD M A (execs (st :: rest) env) Q E s := by
  rw [execs_cons]
  refine wpD_bind (wpD_mono h (fun f s' z => ?_) fun _ _ x => x)
  cases f <;> first | exact z | exact wpD_pure z
/-- a statement that lends nothing -/
theorem wpD_consOff {st : Stmt} {rest : List Stmt} {Q : Flow → Shared → Prop} (h : wpAny M A (exec st env) (fun f s' => match f with | .next => wpD M A (execs rest env) Q E s' | f => Q f s') E s) : wpD M A (execs (st :: rest) env) Q E s :=
  wpD_cons (wpD_any h)
/-- behind it nothing is lent -/
theorem wpD_consOn {st : Stmt} {rest : List Stmt} {Q : Flow → Shared → Prop} (h : wpD M A (exec st env) (fun f s' => match f with | .next => wpAny M A (execs rest env) Q E s' | f => Q f s') E s) : wpD M A (execs (st :: rest) env) Q E s :=
  wpD_cons (wpD_mono h (fun f s' z => by cases f <;> first | exact wpD_any z | exact z) fun _ _ x => x)
theorem wpD_If {test : Expr} {body orelse : List Stmt} {pos : Pos} {Q : Flow → Shared → Prop} (h : wpD M A (isTrue test env (eval test env)) (fun b s' => wpD M A (if b = true then execs body env else execs orelse env) Q E s') E s) : wpD M A (exec (.If test body orelse pos) env) Q E s := by
  rw [arm_exec_If]
  exact wpD_off (wpAny_standAt (wpD_bind h))
theorem wpD_IfOff {test : Expr} {body orelse : List Stmt} {pos : Pos} {Q : Flow → Shared → Prop} (h : wpAny M A (isTrue test env (eval test env)) (fun b s' => if b = true then wpD M A (execs body env) Q E s' else wpD M A (execs orelse env) Q E s') E s) : wpD M A (exec (.If test body orelse pos) env) Q E s :=
  wpD_If (wpD_any (wpAny_mono h (fun b s' z => by cases b <;> exact z) fun _ _ x => x))
theorem wpD_IfOn {test : Expr} {body orelse : List Stmt} {pos : Pos} {Q : Flow → Shared → Prop} (h : wpD M A (isTrue test env (eval test env)) (fun b s' => if b = true then wpAny M A (execs body env) Q E s' else wpAny M A (execs orelse env) Q E s') E s) : wpD M A (exec (.If test body orelse pos) env) Q E s :=
  wpD_If (wpD_mono h (fun b s' z => by cases b <;> exact wpD_any z) fun _ _ x => x)
theorem wpD_not {x : Expr} {pos : Pos} {whole : Sem Value} {Q : Bool → Shared → Prop} (h : wpD M A (isTrue x env (eval x env)) (fun c s' => Q (!c) s') E s) : wpD M A (isTrue (.UnaryOp .Not x pos) env whole) Q E s := by
  show wpD M A (do return !(← isTrue x env (eval x env))) Q E s
  exact wpD_bind (wpD_mono h (fun c s' h' => wpD_pure h') fun _ _ x => x)
theorem wpD_plain {e : Expr} {whole : Sem Value} {Q : Bool → Shared → Prop} (h : wpD M A whole (fun v s₁ => wpAny M A (truthy v) Q E s₁) E s)
    (he : isTrue e env whole = (do let v ← whole; standAt e.pos; holding [v] (truthy v)) := by rfl) : wpD M A (isTrue e env whole) Q E s := by
  rw [he]
  exact wpD_on (wpD_mono h (fun v s₁ h₁ => wpAny_bind (wpAny_standAt (wpAny_holding h₁))) fun _ _ x => x)
theorem wpD_or {x : Expr} {rest : List Expr} {pos : Pos} {whole : Sem Value} {Q : Bool → Shared → Prop}
    (h : wpD M A (isTrue x env (eval x env)) (fun c s' => if c = true then Q true s' else wpAny M A (isTrue (.BoolOp .Or rest pos) env whole) Q E s') E s) : wpD M A (isTrue (.BoolOp .Or (x :: rest) pos) env whole) Q E s := by
  show wpD M A (do
    match BoolOp.Or, ← isTrue x env (eval x env) with
    | .And, false => pure false
    | .Or, true => pure true
    | _, _ => allTrue .Or rest env) Q E s
  refine wpD_on (wpD_mono h (fun c s' h' => ?_) fun _ _ x => x)
  cases c
  · exact h'
  · exact wpAny_pure h'
theorem wpD_cmp {left : Expr} {ops : List CmpOp} {cs : List Expr} {pos : Pos} {whole : Sem Value} {Q : Bool → Shared → Prop}
    (h : wpD M A (eval left env) (fun v s' => wpAny M A (testChain pos v ops (markedEach ops cs (evalEach cs env))) Q E s') E s) : wpD M A (isTrue (.Compare left ops cs pos) env whole) Q E s := by
  show wpD M A (do testChain pos (← eval left env) ops (markedEach ops cs (evalEach cs env))) Q E s
  exact wpD_on h
theorem wpD_Return {e : Expr} {pos : Pos} {Q : Flow → Shared → Prop} (h : wpD M A (eval e env) (fun v => Q (.ret v)) E s) : wpD M A (exec (.Return (some e) pos) env) Q E s := by
  rw [arm_exec_Return]
  refine wpD_off (wpAny_standAt ?_)
  show wpD M A (do return Flow.ret (← eval e env)) Q E s
  exact wpD_on (wpD_mono h (fun v s₁ h₁ => wpAny_pure h₁) fun _ _ x => x)
theorem wpD_callTail {f : Value} {args : List Value} {kw : List (Str × Value)} {Q : Value → Shared → Prop} {t : Sem Value} (ht : ∀ {Q : Value → Shared → Prop} , wpD M A (call f args kw) Q E s → wpD M A t Q E s) (h : wpD M A (call f args kw) Q E s) :
    wpD M A (t >>= fun r => holding [r] point >>= fun _ => pure r) Q E s :=
  wpD_on (ht (wpD_mono h (fun r s₂ hr => wpAny_bind (wpAny_holding (wpAny_point (wpAny_pure hr)))) fun _ _ x => x))
/-- a call whose callee is no heap object, or one that the machine keeps -/
theorem wpD_callWith {pos : Pos} {f : Value} {first : List Value} {args : List (Bool × Sem Value)} {Q : Value → Shared → Prop} (hp : args.any (·.1) = false)
    (h : wpAny M A (spliced args) (fun vs s₁ => (∀ Q' : Keeper → Shared → Prop, (∀ k, k = .machine ∨ k = .frame → Q' k s₁) → wpAny M A (keeperOf f) Q' E s₁) ∧ wpD M A (call f (first ++ vs)) Q E s₁) E s)
    (he : ∀ {Q' : Args → Shared → Prop}, wpAny M A (spliced args) (fun vs s' => Q' ⟨vs, []⟩ s') E s → wpAny M A (evalArgs f true args []) Q' E s) :
    wpD M A (callWith pos f first args []) Q E s := by
  unfold callWith
  refine wpD_off (wpAny_holding (he (wpAny_mono h (fun vs s₁ h₁ => ?_) fun _ _ x => x)))
  obtain ⟨hk, hc⟩ := h₁
  refine wpD_off (wpAny_standAt ?_)
  simp only [hp, List.any_nil, Bool.or_false]
  refine wpD_off (hk _ fun k hk' => ?_)
  have kept : ∀ {Q : Value → Shared → Prop} (v : Value), wpD M A (call f (first ++ vs)) Q E s₁ → wpD M A (callMarked v f (first ++ vs) []) Q E s₁ := fun v z => by unfold callMarked; exact wpD_keep z
  rcases hk' with rfl | rfl
  · exact wpD_callTail (fun z => z) hc
  · dsimp only
    split
    · exact wpD_callTail (fun z => z) hc
    · exact wpD_callTail (kept _) hc
end
end Nm
namespace Nm
open PySem PySem.W PySem.Spec PySem.Calls PyProof.Rows
section
variable {α β : Type} {M : Model} {A : Around} {E : Value → Shared → Prop} {s : Shared} {env : Env}
theorem wpD_Assign {x : Str} {px pos : Pos} {value : Expr} {Q : Flow → Shared → Prop} (h : wpD M A (eval value env) (fun v s₁ => wpAny M A (storeName env x v) (fun _ => Q .next) E s₁) E s)
    (hs : swapsWith value (some (.Name x px)) pos.line env = pure false := by rfl) : wpD M A (exec (.Assign [.Name x px] value pos) env) Q E s := by
  rw [exec_Assign_Name env x px value pos hs]
  refine wpD_off (wpAny_standAt (wpD_on (wpD_mono h (fun v s₁ h₁ => ?_) fun _ _ x => x)))
  exact wpAny_bind (wpAny_standAt (wpAny_bind (wpAny_bindName (wpAny_mono h₁ (fun _ _ z => wpAny_pure z) fun _ _ x => x))))
theorem wpD_Expr {e : Expr} {pos : Pos} {Q : Flow → Shared → Prop} (h : wpD M A (eval e env) (fun v s' => v = .none ∧ Q .next s') E s)
    (hi : interactive env = false := by rfl) (hs : swapsWith e none pos.line env = pure false := by rfl) : wpD M A (exec (.Expr e pos) env) Q E s := by
  rw [exec_Expr env e pos hi hs]
  refine wpD_off (wpAny_standAt (wpD_on (wpD_mono h (fun v s' h' => ?_) fun _ _ x => x)))
  obtain ⟨rfl, h'⟩ := h'
  rw [dropValue_plain (fun a q => by cases q)]
  exact wpAny_pure h'
theorem wpD_Call {func : Expr} {args : List Expr} {pos : Pos} {Q : Value → Shared → Prop}
    (h : wpAny M A (eval func env) (fun f s₁ => wpD M A (callWith pos f [] (backTo pos (starEach args env)) []) Q E s₁) E s)
    (he : eval (.Call func args [] pos) env = (do callWith pos (← eval func env) [] (backTo pos (starEach args env)) (backToKw pos (keywordEach [] env))) := by rfl) : wpD M A (eval (.Call func args [] pos) env) Q E s := by
  rw [he]; exact wpD_off h
theorem wpD_Method {o : Expr} {name : Str} {apos pos : Pos} {args : List Expr} {pl : Sem Bool} {Q : Value → Shared → Prop}
    (h : wpAny M A (eval o env) (fun ov s₁ => wpAny M A (getMethod ov name pl) (fun fx s₂ => wpD M A (callWith pos fx.1 fx.2 (backTo pos (starEach args env)) []) Q E s₂) E s₁) E s)
    (he : eval (.Call (.Attribute o name apos) args [] pos) env = (do
      let ov ← eval o env
      standAt apos.atName
      let (f, first) ← holding [ov] (getMethod ov name pl)
      callWith pos f first (backTo pos (starEach args env)) []) := by rfl) : wpD M A (eval (.Call (.Attribute o name apos) args [] pos) env) Q E s := by
  rw [he]
  refine wpD_off (wpAny_mono h (fun ov s₁ h₁ => ?_) fun _ _ x => x)
  refine wpD_off (wpAny_standAt (wpD_off (wpAny_holding (wpAny_mono h₁ (fun fx s₂ h₂ => ?_) fun _ _ x => x))))
  exact h₂
theorem keeper_none {f : Value} (hf : ∀ a, f ≠ .ref a) (Q : Keeper → Shared → Prop) (h : Q .machine s) : wpAny M A (keeperOf f) Q E s := by
  unfold keeperOf
  cases f <;> first | exact absurd rfl (hf _) | exact wpAny_pure h
theorem keeper_fn {a : Addr} {o : Obj} {fd : FuncData} (ho : s.heap.get? a = some o) (hd : o.data = .func fd) (Q : Keeper → Shared → Prop) (h : Q .frame s) : wpAny M A (keeperOf (.ref a)) Q E s := by
  unfold keeperOf
  refine wpAny_bind (wpAny_load ho ?_)
  rw [hd]
  exact wpAny_pure h
/-- a call of something that is no heap object -/
theorem wpD_with0 {pos : Pos} {f : Value} {first : List Value} {Q : Value → Shared → Prop} (hf : ∀ a, f ≠ .ref a) (h : wpD M A (call f (first ++ [])) Q E s) : wpD M A (callWith pos f first (backTo pos (starEach [] env)) []) Q E s :=
  wpD_callWith (args := []) rfl (spliced_nil ⟨fun Q' k => keeper_none hf Q' (k _ (.inl rfl)), h⟩) fun z => by
    unfold evalArgs
    refine wpAny_bind (m := spliced [] >>= _) (wpAny_bind (wpAny_mono z (fun vs s' h' => wpAny_pure (wpAny_holding ?_)) fun _ _ x => x))
    exact wpAny_bind (wpAny_pure (wpAny_bind (wpAny_pure (wpAny_pure h'))))
theorem wpD_with1 {pos : Pos} {f : Value} {first : List Value} {e : Expr} {Q : Value → Shared → Prop} (hf : ∀ a, f ≠ .ref a) (h : wpAny M A (eval e env) (fun v s₁ => wpD M A (call f (first ++ [v])) Q E s₁) E s)
    (he : starEach [e] env = [(false, eval e env)] := by rfl) : wpD M A (callWith pos f first (backTo pos (starEach [e] env)) []) Q E s := by
  rw [he]
  exact wpD_callWith (args := [(false, _)]) rfl (spliced_cons (wpAny_mono h (fun v s₁ h₁ => spliced_nil ⟨fun Q' k => keeper_none hf Q' (k _ (.inl rfl)), h₁⟩) fun _ _ x => x)) fun z => evalArgs_plain z
/-- a call of a def with one argument -/
theorem wpD_withFn {pos : Pos} {a : Addr} {first : List Value} {e : Expr} {Q : Value → Shared → Prop} (h : wpAny M A (eval e env) (fun v s₁ => (∃ o fd, s₁.heap.get? a = some o ∧ o.data = .func fd) ∧ wpD M A (call (.ref a) (first ++ [v])) Q E s₁) E s)
    (he : starEach [e] env = [(false, eval e env)] := by rfl) : wpD M A (callWith pos (.ref a) first (backTo pos (starEach [e] env)) []) Q E s := by
  rw [he]
  exact wpD_callWith (args := [(false, _)]) rfl (spliced_cons (wpAny_mono h (fun v s₁ h₁ => spliced_nil ⟨fun Q' k => (fun ⟨o, fd, x, y⟩ => keeper_fn x y Q' (k _ (.inr rfl))) h₁.1, h₁.2⟩) fun _ _ x => x)) fun z => evalArgs_plain z
end
section
variable {prog : Program} {w : World} {A : Around} {E : Value → Shared → Prop} {s : Shared} {env : Env}
theorem wpD_Try {body orelse : List Stmt} {h₀ : ExceptHandler} {hs : List ExceptHandler} {pos : Pos} {Q : Flow → Shared → Prop}
    (h : wpD (model prog w) A (execs body env) (fun f s₁ => match f with | .next => wpAny (model prog w) A (execs orelse env) Q E s₁ | f => Q f s₁)
      (fun e s₁ => wpAny (model prog w) A (noteFrame e env) (fun _ s₂ => wpAny (model prog w) A (setFlight e none) (fun _ s₃ => wpAny (model prog w) A (handleBy e env (h₀ :: hs)) Q E s₃) E s₂) E s₁) s) :
    wpD (model prog w) A (exec (.Try body (h₀ :: hs) orelse [] pos) env) Q E s := by
  rw [arm_exec_Try]
  refine wpD_off (wpAny_standAt ?_)
  unfold tryStmt
  simp only [List.isEmpty_nil, if_true, List.isEmpty_cons, Bool.false_and, Bool.false_eq_true, if_false]
  refine wpD_on (wpD_attempt (wpD_mono h (fun f s₁ h₁ => ?_) fun e s₁ h₁ => ?_))
  · cases f <;> first | exact h₁ | exact wpAny_pure h₁
  · exact wpAny_bind (wpAny_mono h₁ (fun _ _ h₂ => wpAny_bind h₂) fun _ _ x => x)
theorem wpD_noted {α : Type} {m : Sem α} {Q : α → Shared → Prop} (h : wpD (model prog w) A m Q (notedBy (model prog w) A env E) s) : wpD (model prog w) A (m.onRaise fun x => do noteFrame x env; theTreesLotGoes x) Q E s :=
  wpD_onRaise (wpD_mono h (fun _ _ q => q) fun _ _ hx => wpAny_bind (wpAny_mono hx (fun _ _ e => wpAny_theTreesLotGoes e) fun _ _ e => e))
theorem wpD_runOwn {c : Code} {h : Option Value} {Q : Flow → Shared → Prop} (hc : codeD (model prog w) (A.mark h) c (fun r s' => match r with | .ok f => Q f s' | .error e => cameBackBy (model prog w) A env E e s') s) (hnb : h ≠ some byPass := by intro x; cases x) :
    wpD (model prog w) A (runOwn c env h) Q E s := by
  unfold runOwn
  exact wpD_onRaise (wpD_run hc hnb)
/-- a loop over a text's signs, one bytearray growing -/
theorem forStrD {x : Str} {px : Pos} {body : List Stmt} {I f : Addr} {h₀ : Heap} {text : Str} {St : Nat → Heap → Prop} {R : Result → Shared → Prop} {arr : Nat → Array UInt8} {G : Nat → (Str → Option Value) → Prop}
    (W : Walks prog w A I [I] [I] text.cps.size (SignAt text) St) (hx : env.kindOf x = some .local) (hp : (env.scope.kind == .class || (env.scope.kind == .module && env.locals != env.globals)) = false)
    (hS : ∀ i h, St i h → ∃ o, h.get? I = some o) (hL : env.locals ≠ I) (hI : h₀.get? I = none) (hf : f ≠ I)
    (turn : ∀ i c (m : Str → Option Value) t h tk it, text.cps[i]? = some c → G i m → Fr h₀ env.locals h (fun y => if y = x then some (.str ⟨#[c]⟩ t) else m y) → News h₀ env.locals h [(f, baO (arr i)), (I, it)] →
      wpD (model prog w) A (execs body env) (fun fl s' => (fl = .next ∨ fl = .cont) ∧ ∃ h' tk' m', s' = { s with heap := h', toks := tk' } ∧ G (i + 1) m' ∧ Fr h₀ env.locals h' m' ∧ News h₀ env.locals h' [(f, baO (arr (i + 1))), (I, it)]) (notedBy (model prog w) A env fun e s' => R (.error e) s') { s with heap := h, toks := tk })
    (done : ∀ h tk m, G text.cps.size m → Fr h₀ env.locals h m → News h₀ env.locals h [(f, baO (arr text.cps.size))] → R (.ok .next) { s with heap := h, toks := tk }) :
    ∀ (k i : Nat) (h : Heap) (tk : Nat) (m : Str → Option Value), text.cps.size - i = k → i ≤ text.cps.size → St i h → G i m → Fr h₀ env.locals h m → News h₀ env.locals h [(f, baO (arr i))] →
      codeD (model prog w) A (.forLoop (.Name x px) (.ref I) body [] env) R { s with heap := h, toks := tk } := by
  have nextF : ∀ {m : Str → Option Value} {i : Nat} {h h₁ : Heap}, Fr h₀ env.locals h m → News h₀ env.locals h [(f, baO (arr i))] → (∀ b o, b ∉ [I] → h.get? b = some o → h₁.get? b = some o) → Fr h₀ env.locals h₁ m ∧ News h₀ env.locals h₁ [(f, baO (arr i))] := fun F N hk =>
    ⟨⟨F.ns.at' fun o e => hk _ o (fun z => hL (List.mem_singleton.mp z)) e, fun b o e => hk b o (fun z => by rw [List.mem_singleton.mp z, hI] at e; cases e) (F.keep b o e), F.above⟩,
      fun p hp => by
        obtain rfl := List.mem_singleton.mp hp
        exact ⟨hk _ _ (fun z => hf (List.mem_singleton.mp z)) (N _ hp).1, (N _ hp).2⟩⟩
  intro k
  induction k with
  | zero =>
    intro i h tk m hk hle st g F N
    have hin : i = text.cps.size := by omega
    subst hin
    refine codeD_tree rfl (wpD_any ?_)
    show wpAny _ A ((forTurn (.Name x px) (.ref I) body [] env).onRaise (fun x => do noteFrame x env; theTreesLotGoes x)) _ _ _
    refine wpAny_noted ?_
    simp only [forTurn]
    refine wpAny_bind (wpAny_standAt (wpAny_bind (wpAny_onRaise (W.done _ _ _ st fun h₁ tk₁ hk₁ => ?_))))
    obtain ⟨F₁, N₁⟩ := nextF F N hk₁
    exact wpAny_pure ⟨rfl, codeD_any (codeAny_block (wpAny_execs_nil (done h₁ tk₁ m g F₁ N₁)))⟩
  | succ k ih =>
    intro i h tk m hk hle st g F N
    have hlt : i < text.cps.size := by omega
    refine codeD_tree rfl ?_
    show wpD _ A ((forTurn (.Name x px) (.ref I) body [] env).onRaise (fun x => do noteFrame x env; theTreesLotGoes x)) _ _ _
    refine wpD_noted ?_
    simp only [forTurn]
    refine wpD_off (wpAny_standAt (wpD_off (wpAny_onRaise (W.item i _ _ _ hlt st fun v h₁ tk₁ hP st₁ hk₁ => ?_))))
    obtain ⟨c, u, hc, rfl⟩ := hP
    obtain ⟨F₁, N₁⟩ := nextF F N hk₁
    have ht : letOwnedTupleGo (.Name x px) (.ref I) (.str ⟨#[c]⟩ u) = pure () := rfl
    refine wpD_off (wpAny_of_eq ht ?_)
    refine wpD_off (wpAny_assign_Name (wpAny_storeName_local hx F₁.ns (fun h₂ hn₂ hs₂ => ?_) hp))
    have F₂ := F₁.set hn₂ hs₂
    have N₂ := N₁.set hs₂
    obtain ⟨it, hit⟩ := hS _ _ st₁
    have hit₂ : h₂.get? I = some it := (hs₂.2 I (fun z => hL z.symm)).trans hit
    have st₂ : St (i + 1) h₂ := W.frame _ _ _ st₁ fun b hb o e => by
      rw [List.mem_singleton.mp hb] at e ⊢
      exact (hs₂.2 I (fun z => hL z.symm)).trans e
    have N₃ : News h₀ env.locals h₂ [(f, baO (arr i)), (I, it)] := fun p hp => by
      rcases List.mem_cons.mp hp with rfl | hp
      · exact N₂ _ (.head _)
      · rw [List.mem_singleton.mp hp]
        exact ⟨hit₂, Ne.symm hL, hI⟩
    refine wpD_bind (wpD_mono (turn i c m u h₂ _ it hc g F₂ N₃) (fun fl s' z => ?_) fun _ _ x => x)
    obtain ⟨hfl, h', tk', m', rfl, g', F', N'⟩ := z
    have st' : St (i + 1) h' := W.frame _ _ _ st₂ fun b hb o e => by
      rw [List.mem_singleton.mp hb] at e ⊢
      rw [hit₂] at e
      cases e
      exact (N' (I, it) (.tail _ (.head _))).1
    have N'' : News h₀ env.locals h' [(f, baO (arr (i + 1)))] := fun p hp => N' p (by rw [List.mem_singleton.mp hp]; exact .head _)
    have := ih (i + 1) h' tk' m' (by omega) hlt st' g' F' N''
    rcases hfl with rfl | rfl <;> exact wpD_pure ⟨rfl, this⟩
theorem pyIter_text {tx : Tok} {text : Str} {Q : Value → Shared → Prop}
    (hQ : ∀ (o : Obj) (St : Nat → Heap → Prop), (∀ A' : Around, A'.handled = none → Walks prog w A' s.heap.objs.size [s.heap.objs.size] [s.heap.objs.size] text.cps.size (SignAt text) St) → (∀ i h, St i h → ∃ o, h.get? s.heap.objs.size = some o) → St 0 (s.heap.push o) →
      Q (.ref s.heap.objs.size) { s with heap := s.heap.push o }) : wpAny (model prog w) A (pyIter (.str text tx)) Q E s := by
  cases ha : text.cps.all (· < 128)
  · exact wpAny_pyIter_wide ha (hQ _ _ (fun A' hA => Walks.strWide hA _ text tx) (fun _ _ ⟨o, ho, _⟩ => ⟨o, ho⟩) ⟨_, Heap.get?_push_size _ rfl, rfl, rfl⟩)
  · exact wpAny_pyIter_ascii ha (hQ _ _ (fun A' hA => Walks.strAscii hA _ text tx) (fun _ _ ⟨o, ho, _⟩ => ⟨o, ho⟩) ⟨_, Heap.get?_push_size _ rfl, rfl, rfl⟩)
/-- the whole loop -/
theorem For_strD {x : Str} {px pos : Pos} {iter : Expr} {body : List Stmt} {f : Addr} {h₀ : Heap} {text : Str} {Q : Flow → Shared → Prop} {arr : Nat → Array UInt8} {G : Nat → (Str → Option Value) → Prop} (hh : A.handled = none)
    (hx : env.kindOf x = some .local) (hp : (env.scope.kind == .class || (env.scope.kind == .module && env.locals != env.globals)) = false)
    (hiter : wpAny (model prog w) A (eval iter env) (fun v s₁ => ∃ tx h tk m, v = .str text tx ∧ s₁ = { s with heap := h, toks := tk } ∧ G 0 m ∧ Fr h₀ env.locals h m ∧ News h₀ env.locals h [(f, baO (arr 0))]) E s)
    (turn : ∀ i c (m : Str → Option Value) t h tk (I : Addr) it, text.cps[i]? = some c → f ≠ I → G i m → Fr h₀ env.locals h (fun y => if y = x then some (.str ⟨#[c]⟩ t) else m y) → News h₀ env.locals h [(f, baO (arr i)), (I, it)] →
      wpD (model prog w) A (execs body env) (fun fl s' => (fl = .next ∨ fl = .cont) ∧ ∃ h' tk' m', s' = { s with heap := h', toks := tk' } ∧ G (i + 1) m' ∧ Fr h₀ env.locals h' m' ∧ News h₀ env.locals h' [(f, baO (arr (i + 1))), (I, it)]) E { s with heap := h, toks := tk })
    (done : ∀ h tk m, G text.cps.size m → Fr h₀ env.locals h m → News h₀ env.locals h [(f, baO (arr text.cps.size))] → Q .next { s with heap := h, toks := tk })
    (hE : PassesOwn (model prog w) A env E := by passes_own) (hs : ∀ x, foldedSetIterable iter env x = pure x := by intro _; rfl) : wpD (model prog w) A (exec (.For (.Name x px) iter body [] pos) env) Q E s := by
  rw [exec_For]
  refine wpD_off (wpAny_standAt (wpD_off (wpAny_mono hiter (fun v s₁ h₁ => ?_) fun _ _ z => z)))
  obtain ⟨tx, h, tk, m, rfl, rfl, g, F, N⟩ := h₁
  refine wpD_off (wpAny_of_eq (hs _) (wpD_off (wpAny_standAt (wpD_off (wpAny_holding (pyIter_text fun o St hW hS hst => ?_))))))
  refine wpD_runOwn ?_
  have hnew : h₀.get? h.objs.size = none := next_is_new F
  have hlt : env.locals < h.objs.size := F.ns.lt
  refine forStrD (s := s) (I := h.objs.size) (f := f) (arr := arr) (G := G) (hW _ (by rw [Around.mark]; exact hh)) hx hp hS (Nat.ne_of_lt hlt) hnew (Nat.ne_of_lt (Heap.lt_size (N _ (.head _)).1)) ?_ ?_ _ 0 _ _ m rfl (Nat.zero_le _) hst g (F.push o) fun p hp => ⟨Heap.get?_push_of_some _ (N p hp).1, (N p hp).2⟩
  · intro i c m t h₁ tk₁ it hc g₁ F₁ N₁
    exact wpD_mono (turn i c m t h₁ tk₁ _ it hc (Nat.ne_of_lt (Heap.lt_size (N _ (.head _)).1)) g₁ F₁ N₁) (fun _ _ z => z) hE
  · exact done
end
end Nm
namespace Nm
open PySem PySem.W PySem.Spec PySem.Calls PyProof.Rows
section
variable {prog : Program} {w : World} {A : Around} {s : Shared} {R : Result → Shared → Prop}
theorem codeD_func {body : List Stmt} {env : Env}
    (h : wpD (model prog w) (A.deeper env) (execs body env) (fun f s' => R (.ok (.ret (match f with | .ret v => v | _ => .none))) s')
      (fun e s' => wpAny (model prog w) (A.deeper env) (leaving env e) (fun _ s'' => R (.error e) s'') (fun e' s'' => R (.error e') s'') s') s) : codeD (model prog w) A (.func body env) R s := by
  refine codeD_tree rfl ?_
  show wpD _ (A.deeper env) (do point; match ← (execs body env).onRaise (leaving env) with | .ret v => ret v | _ => ret .none) _ _ s
  refine wpD_off (wpAny_point (wpD_on (wpD_onRaise (wpD_mono h (fun f s' h' => ?_) fun _ _ h' => h'))))
  cases f <;> exact wpAny_pure h'
/-- into a def -/
theorem codeD_def {a : Addr} {o : Obj} {fd : FuncData} {body : List Stmt} {args : Args} {binds : List (Str × Value)}
    (hroom : A.depth < recursionLimit) (ho : s.heap.get? a = some o) (hdata : o.data = .func fd) (hlim : s.heap.NoLimit) (hcd : s.heap.CodeRec fd.code fd.qualname) (hbody : fd.body = .stmts body) (hbind : BindsTo s fd args binds)
    (hcell : ∀ x ∈ fd.scope.names, x.2 ≠ .cell) (hloc : ∀ x ∈ binds, fd.scope.names.lookup x.1 = some .local)
    (h : ∀ h₀, h₀.Ns s.heap.objs.size (fun x => binds.reverse.lookup x) → (∀ b o, s.heap.get? b = some o → h₀.get? b = some o) →
      wpD (model prog w) (A.deeper (callEnv fd s.heap.objs.size a)) (execs body (callEnv fd s.heap.objs.size a)) (fun f s' => R (.ok (.ret (match f with | .ret v => v | _ => .none))) s')
        (fun e s' => wpAny (model prog w) (A.deeper (callEnv fd s.heap.objs.size a)) (leaving (callEnv fd s.heap.objs.size a) e) (fun _ s'' => R (.error e) s'') (fun e' s'' => R (.error e') s'') s')
        { s with heap := h₀, toks := s.toks + binds.length })
    (hco : fd.scope.isCoroutine = false) (hgen : fd.scope.isGenerator = false) (hk : fd.scope.kind = .function) : codeD (model prog w) A (.call (.ref a) args) R s := by
  refine codeD_tree rfl ?_
  show wpD _ A.in1 (callAny (.ref a) args) _ _ s
  simp only [callAny]
  refine wpD_off (wpAny_load ho ?_)
  obtain ⟨c, oc, vs, tq, hc, hoc, hdc, hq⟩ := hcd
  simp only [hdata, callFunction, hco, hgen, hbody, hc]
  refine wpD_off (m := field (.ref c) 1) (wpAny_field hoc hdc hq ?_)
  dsimp only
  refine wpD_off (wpAny_pure ?_)
  refine wpD_off (hbind _ _ _ _ ?_)
  rw [← hc]
  refine wpD_off (wpAny_newFunctionEnv hcell hloc (fun h₀ hns₀ hsb₀ => ?_) hk)
  refine wpD_off (wpAny_enterFrame (hlim.fresh _ hsb₀) hroom ?_)
  exact wpD_pure ⟨rfl, codeD_func (h h₀ hns₀ fun b o e => hsb₀.extBut b o (Nat.ne_of_lt (Heap.lt_size e)) (Heap.get?_push_of_some _ e))⟩
end
/-- into a function whose frame's ground may turn -/
theorem code_defD {prog : Program} {w : World} {A₀ A : Around} {s : Shared} {base h₀ : Heap} {L a : Addr} {m : Str → Option Value} {cn : Str} {cs : Scope} {ccd : Value} {news : List (Addr × Obj)} {K : Frag} {p : Program} {loose : List Str} {mean : ExcName → Option Value} {mg mb : Str → Option Value}
    {R : Result → Shared → Prop} {name qual : Str} {params : Arguments} {body : List Stmt} {scope : Scope} {dV kV doc pm cdv ct oc : Value} {an od : Option Addr} {osl : Array (Option Value)} {f : Addr} {args : Args} {binds : List (Str × Value)}
    (B : Below A₀ base [] h₀) (F : Fr h₀ L s.heap m) (X₀ : K.In h₀) (N : News h₀ L s.heap news) (T : Top p loose mean mg mb h₀) (hA : A.frames = some [envOf cn cs L a ccd])
    (ho : K.lookup f = some ⟨oc, od, .func (fnOf name qual params body scope dV kV doc pm an cdv ct), osl⟩) (hcd : codeIn K cdv qual = true) (hroom : A.depth < recursionLimit)
    (hbind : BindsTo s (fnOf name qual params body scope dV kV doc pm an cdv ct) args binds) (hloc : ∀ y ∈ binds, scope.names.lookup y.1 = some .local)
    (h : ∀ g L' h₁, Fr h₀ L g m → Fr g L' h₁ (fun y => binds.reverse.lookup y) → News g L' h₁ news → Below A base [envOf cn cs L a ccd] g → K.In g → Top p loose mean mg mb g → KtsDicts ([envOf cn cs L a ccd].filterMap (·.frame)) g → GSub s.heap g (news.map (·.1)) →
      wpD (model prog w) (A.deeper (envOf qual scope L' f cdv)) (execs body (envOf qual scope L' f cdv))
        (fun fl s' => LeaveS0 ([envOf cn cs L a ccd].filterMap (·.frame)) h₀ L m g R (match fl with | .ret v => v | _ => .none) s')
        (fun e s' => wpAny (model prog w) (A.deeper (envOf qual scope L' f cdv)) (leaving (envOf qual scope L' f cdv) e) (fun _ s'' => R (.error e) s'') (fun e' s'' => R (.error e') s'') s')
        { s with heap := h₁, toks := s.toks + binds.length })
    (hck : cs.kind = .function) (hco : scope.isCoroutine = false) (hgen : scope.isGenerator = false) (hk : scope.kind = .function)
    (hcell : ∀ x ∈ scope.names, x.2 ≠ .cell) : codeD (model prog w) A (.call (.ref f) args) R s := by
  have X := X₀.keeps F.keep
  refine codeD_def (fd := fnOf name qual params body scope dV kV doc pm an cdv ct) (body := body) (binds := binds) hroom (X _ _ ho) rfl (T.nolimit.keeps F.keep) (codeRec_of X hcd) rfl hbind hcell hloc (fun h₁ hns hk₁ => ?_) hco hgen hk
  obtain ⟨oL, es, ep, hLg, hLd, hN, hNs, st, B₂⟩ := kts_enter B F N hA hck
  have nL₀ : h₀.get? L = none := kts_self F
  refine wpD_mono (h _ s.heap.objs.size h₁ ⟨hN _ hLg, st, F.above⟩ ⟨hns, fun b o e => hk₁ b o (of_hideAll _ e), Nat.le_of_eq (hideAll_size _ _)⟩
    (fun p hp => ⟨hk₁ _ _ (N p hp).1, Nat.ne_of_lt (Heap.lt_size (N p hp).1), hideAll_none _ (List.mem_map_of_mem hp)⟩) B₂ (X₀.keeps st) (T.keeps st) (fun b hb => by
      rcases kts_mem hb with rfl | z
      · exact ⟨oL, es, ep, hLg, hLd⟩
      · simp at z) (fun b o e n => hideAll_get _ e n)) (fun fl s' hl => ?_) fun _ _ y => y
  obtain ⟨g', L', m', news', T', F', N', k⟩ := hl
  obtain ⟨sl, hs⟩ := T'.up hLg
  have keep : ∀ b o, h₀.get? b = some o → g'.get? b = some o := fun b o e => T'.other b o (st b o e) fun q => by
    rcases kts_mem q with z | z
    · rw [z, nL₀] at e; cases e
    · simp at z
  refine k ⟨hNs sl _ (F'.keep _ _ hs), fun b o e => F'.keep b o (keep b o e), F.above⟩ fun p hp => ⟨(N' p hp).1, fun q => ?_, ?_⟩
  · have z := (N' p hp).2.2
    rw [q, hs] at z; cases z
  · cases q : h₀.get? p.1 with
    | none => rfl
    | some o =>
      have z := (N' p hp).2.2
      rw [keep _ _ q] at z; cases z
/-- into a function, its ground known -/
theorem code_defGD {prog : Program} {w : World} {A₀ A : Around} {s : Shared} {base h₀ : Heap} {L : Addr} {m : Str → Option Value} {env : Env} {outer : List Env} {news : List (Addr × Obj)} {K : Frag} {p : Program} {loose : List Str} {mean : ExcName → Option Value} {mg mb : Str → Option Value}
    {R : Result → Shared → Prop} {name qual : Str} {params : Arguments} {body : List Stmt} {scope : Scope} {dV kV doc pm cdv ct oc : Value} {an od : Option Addr} {osl : Array (Option Value)} {f : Addr} {args : Args} {binds : List (Str × Value)}
    (B : Below A₀ base outer h₀) (F : Fr h₀ L s.heap m) (X₀ : K.In h₀) (N : News h₀ L s.heap news) (T : Top p loose mean mg mb h₀) (hA : A.frames = some (env :: outer)) (hf : env.frame = some L) (hke : env.scope.kind = .function)
    (ho : K.lookup f = some ⟨oc, od, .func (fnOf name qual params body scope dV kV doc pm an cdv ct), osl⟩) (hcd : codeIn K cdv qual = true) (hroom : A.depth < recursionLimit)
    (hbind : BindsTo s (fnOf name qual params body scope dV kV doc pm an cdv ct) args binds) (hloc : ∀ y ∈ binds, scope.names.lookup y.1 = some .local)
    (h : ∀ g L' h₁, Fr h₀ L g m → Fr g L' h₁ (fun y => binds.reverse.lookup y) → News g L' h₁ news → Below A base (env :: outer) g → K.In g → Top p loose mean mg mb g → GSub s.heap g (news.map (·.1)) →
      wpD (model prog w) (A.deeper (envOf qual scope L' f cdv)) (execs body (envOf qual scope L' f cdv))
        (fun fl s' => LeaveK h₀ L m g R (match fl with | .ret v => v | _ => .none) s')
        (fun e s' => wpAny (model prog w) (A.deeper (envOf qual scope L' f cdv)) (leaving (envOf qual scope L' f cdv) e) (fun _ s'' => R (.error e) s'') (fun e' s'' => R (.error e') s'') s')
        { s with heap := h₁, toks := s.toks + binds.length })
    (hco : scope.isCoroutine = false) (hgen : scope.isGenerator = false) (hk : scope.kind = .function)
    (hcell : ∀ x ∈ scope.names, x.2 ≠ .cell) : codeD (model prog w) A (.call (.ref f) args) R s := by
  obtain ⟨FG, BG, st, lv⟩ := groundX (R := R) B F N hA hf hke
  refine codeD_def (fd := fnOf name qual params body scope dV kV doc pm an cdv ct) (body := body) (binds := binds) hroom ((X₀.keeps F.keep) _ _ ho) rfl (T.nolimit.keeps F.keep) (codeRec_of (X₀.keeps F.keep) hcd) rfl hbind hcell hloc (fun h₁ hns hk₁ => ?_) hco hgen hk
  exact wpD_mono (h _ s.heap.objs.size h₁ FG ⟨hns, fun b o e => hk₁ b o (of_hideAll _ e), Nat.le_of_eq (hideAll_size _ _)⟩
    (fun p hp => ⟨hk₁ _ _ (N p hp).1, Nat.ne_of_lt (Heap.lt_size (N p hp).1), hideAll_none _ (List.mem_map_of_mem hp)⟩) BG (X₀.keeps st) (T.keeps st) (fun b o e n => hideAll_get _ e n)) (fun fl s' hl => lv _ _ hl) fun _ _ y => y
section
variable {prog : Program} {w : World} {A : Around} {E : Value → Shared → Prop} {s : Shared} {h₀ : Heap} {L f I : Addr} {m : Str → Option Value} {it : Obj} {b : Array UInt8}
/-- bytearray() in a frame -/
theorem baNew_K {news : List (Addr × Obj)} {Q : Value → Shared → Prop} (F : Fr h₀ L s.heap m) (N : News h₀ L s.heap news) (h : ∀ f h', Fr h₀ L h' m → News h₀ L h' ((f, baO #[]) :: news) → (∀ b o, s.heap.get? b = some o → @Ne Nat b f) → Q (.ref f) { s with heap := h' }) : wpD (model prog w) A (call (.type "bytearray") []) Q E s := by
  have F1 := F.push (baO #[])
  have N1 := N.push F (baO #[])
  obtain ⟨F2, N2⟩ := news_upd (pre := []) (post := news) (d := s.heap.objs.size) (f := Obj.mapBytearray fun _ => #[]) (o' := baO #[]) F1 N1 (fun _ hp => nomatch hp) (fun p hp => Nat.ne_of_lt (Heap.lt_size (N p hp).1)) rfl rfl
  exact ba_call (h _ _ F2 N2 fun b o q => Nat.ne_of_lt (Heap.lt_size q))
theorem ba_ledger {o : Obj} (N : News h₀ L s.heap [(f, o), (I, it)]) : s.heap.get? f = some o := (N _ (.head _)).1
theorem baAppend_K {n : Int} {t : Tok} {Q : Value → Shared → Prop} (F : Fr h₀ L s.heap m) (N : News h₀ L s.heap [(f, baO b), (I, it)]) (hf : f ≠ I) (h0 : 0 ≤ n) (h1 : n < 256) (hz : b.size < sizeLine)
    (h : ∀ h', Fr h₀ L h' m → News h₀ L h' [(f, baO (b ++ byteArr [n])), (I, it)] → Q .none { s with heap := h' }) : wpD (model prog w) A (call (.builtin "bytearray.append") [.ref f, .int n t]) Q E s := by
  obtain ⟨F2, N2⟩ := news_upd (pre := []) (post := [(I, it)]) (d := f) (f := Obj.mapBytearray (·.push n.toNat.toUInt8)) (o' := baO (b ++ byteArr [n])) F N (fun _ hp => nomatch hp) (fun p hp => by rw [List.mem_singleton.mp hp]; exact Ne.symm hf) (by
    show baO (b.push n.toNat.toUInt8) = baO (b ++ #[n.toNat.toUInt8])
    rw [Array.push_eq_append]) rfl
  exact wpD_call (ba_append (ba_ledger N) h0 h1 hz (h _ F2 N2))
theorem baExtend_K {l : Addr} {vs : List Value} {n : Nat} {ns : List Int} {Q : Value → Shared → Prop} (hh : A.handled = none) (F : Fr h₀ L s.heap m) (N : News h₀ L s.heap [(f, baO b), (I, it)]) (Nl : News h₀ L s.heap [(l, listOf vs.toArray n)]) (hf : f ≠ I) (hi : IntsAre vs ns) (hr : ∀ n ∈ ns, 0 ≤ n ∧ n < 256) (hz : b.size + ns.length ≤ sizeLine)
    (h : ∀ h' tk, Fr h₀ L h' m → News h₀ L h' [(f, baO (b ++ byteArr ns)), (I, it)] → Q .none { s with heap := h', toks := tk }) : wpD (model prog w) A (call (.builtin "bytearray.extend") [.ref f, .ref l]) Q E s := by
  refine wpD_call (ba_extend hh (ba_ledger N) ⟨_, (Nl _ (.head _)).1, rfl, n, rfl⟩ hi hr hz fun h' k ha hk => h h' k ?_ ?_)
  · have hL : L ≠ f := Ne.symm (N _ (.head _)).2.1
    exact ⟨F.ns.at' fun o e => hk _ o hL e, fun b o e => hk b o (fun z => by rw [z, (N _ (.head _)).2.2] at e; cases e) (F.keep b o e), F.above⟩
  · intro p hp
    rcases List.mem_cons.mp hp with rfl | hp
    · exact ⟨ha, (N _ (.head _)).2⟩
    · have z := N p (.tail _ hp)
      rw [List.mem_singleton.mp hp] at z ⊢
      exact ⟨hk _ _ (Ne.symm hf) z.1, z.2⟩
end
end Nm
namespace Nm
open PySem PySem.W PySem.Spec PySem.Calls PyProof.Rows
section
variable {prog : Program} {w : World} {A : Around} {E : Value → Shared → Prop} {s : Shared} {env : Env}
theorem For_strK {x : Str} {px pos : Pos} {iter : Expr} {body : List Stmt} {f : Addr} {h₀ : Heap} {text : Str} {Q : Flow → Shared → Prop} {m₀ : Str → Option Value} (arr : Nat → Array UInt8) (stored : List Str) (P : Nat → Prop) (F : Fr h₀ env.locals s.heap m₀) (N : News h₀ env.locals s.heap [(f, baO (arr 0))]) (hp0 : P 0) (hh : A.handled = none)
    (hx : env.kindOf x = some .local) (hp : (env.scope.kind == .class || (env.scope.kind == .module && env.locals != env.globals)) = false)
    (hiter : wpAny (model prog w) A (eval iter env) (fun v s₁ => ∃ tx, v = .str text tx ∧ s₁ = s) E s)
    (turn : ∀ i c (u : Str → Option Value) t h tk (I : Addr) it, text.cps[i]? = some c → f ≠ I → P i → Fr h₀ env.locals h (fun y => if y = x then some (.str ⟨#[c]⟩ t) else if stored.contains y then u y else m₀ y) → News h₀ env.locals h [(f, baO (arr i)), (I, it)] →
      wpD (model prog w) A (execs body env) (fun fl s' => (fl = .next ∨ fl = .cont) ∧ P (i + 1) ∧ ∃ h' tk' m', s' = { s with heap := h', toks := tk' } ∧ (∀ z, (x :: stored).contains z = false → m' z = m₀ z) ∧ Fr h₀ env.locals h' m' ∧ News h₀ env.locals h' [(f, baO (arr (i + 1))), (I, it)]) E { s with heap := h, toks := tk })
    (done : ∀ h tk (u : Str → Option Value), P text.cps.size → Fr h₀ env.locals h (fun y => if (x :: stored).contains y then u y else m₀ y) → News h₀ env.locals h [(f, baO (arr text.cps.size))] → Q .next { s with heap := h, toks := tk })
    (hE : PassesOwn (model prog w) A env E := by passes_own) (hs : ∀ x, foldedSetIterable iter env x = pure x := by intro _; rfl) : wpD (model prog w) A (exec (.For (.Name x px) iter body [] pos) env) Q E s := by
  refine For_strD (h₀ := h₀) (f := f) (text := text) (arr := arr) (G := fun i m => (∀ z, (x :: stored).contains z = false → m z = m₀ z) ∧ P i) hh hx hp (wpAny_mono hiter (fun v s₁ z => ?_) fun _ _ z => z) ?_ ?_ hE hs
  · obtain ⟨tx, rfl, rfl⟩ := z
    exact ⟨tx, _, _, m₀, rfl, rfl, ⟨fun _ _ => rfl, hp0⟩, F, N⟩
  · rintro i c m t h tk I it hc hf ⟨hm, hP⟩ F₁ N₁
    have e : (fun y => if y = x then some (Value.str ⟨#[c]⟩ t) else m y) = fun y => if y = x then some (Value.str ⟨#[c]⟩ t) else if stored.contains y then m y else m₀ y := by
      funext y
      by_cases q : y = x
      · rw [if_pos q, if_pos q]
      · rw [if_neg q, if_neg q]
        by_cases r : stored.contains y = true
        · rw [if_pos r]
        · rw [if_neg r]
          refine hm y ?_
          rw [List.contains_cons, Bool.or_eq_false_iff]
          exact ⟨beq_eq_false_iff_ne.mpr q, by simpa using r⟩
    rw [e] at F₁
    refine wpD_mono (turn i c m t h tk I it hc hf hP F₁ N₁) (fun fl s' z => ?_) fun _ _ z => z
    obtain ⟨a, b, h', tk', m', e', g, F', N'⟩ := z
    exact ⟨a, h', tk', m', e', ⟨g, b⟩, F', N'⟩
  · rintro h tk m ⟨hm, hP⟩ F₁ N₁
    refine done h tk m hP ?_ N₁
    have e : m = fun y => if (x :: stored).contains y then m y else m₀ y := by
      funext y
      by_cases r : (x :: stored).contains y = true
      · rw [if_pos r]
      · rw [if_neg r]; exact hm y (by simpa using r)
    exact e ▸ F₁
end
theorem byteArr_append (a b : List Int) : byteArr (a ++ b) = byteArr a ++ byteArr b := by
  unfold byteArr
  rw [List.map_append, List.append_toArray]
end Nm
namespace Nm
open PySem PySem.W PySem.Spec PySem.Calls PyProof.Rows
section
variable {M : Model} {A : Around} {E : Value → Shared → Prop} {s : Shared} {env : Env}
theorem wpD_nil {Q : Flow → Shared → Prop} (h : Q .next s) : wpD M A (execs [] env) Q E s := wpD_any (wpAny_execs_nil h)
theorem wpD_ExprV {e : Expr} {pos : Pos} {Q : Flow → Shared → Prop} (h : wpD M A (eval e env) (fun v s' => (∀ a, v ≠ .ref a) ∧ Q .next s') E s)
    (hi : interactive env = false := by rfl) (hs : swapsWith e none pos.line env = pure false := by rfl) : wpD M A (exec (.Expr e pos) env) Q E s := by
  rw [exec_Expr env e pos hi hs]
  refine wpD_off (wpAny_standAt (wpD_on (wpD_mono h (fun v s' h' => ?_) fun _ _ x => x)))
  rw [dropValue_plain h'.1]
  exact wpAny_pure h'.2
theorem wp_app {Γ : PySem.Ctx} (P : Shared → Prop) {Q : Flow → Pos → Shared → Prop} {F : Value → Pos → Shared → Prop} {rest : List Stmt} (k : ∀ p' s', P s' → Sem.wp M Γ (execs rest env) Q F p' s') : ∀ (as : List Stmt) (p : Pos) (s : Shared), Sem.wp M Γ (execs as env) (fun f _ s' => f = .next ∧ P s') F p s → Sem.wp M Γ (execs (as ++ rest) env) Q F p s
  | [], p, s, h => k p s (show _ from h : Flow.next = .next ∧ P s).2
  | st :: as, p, s, h => by
    rw [execs_cons, Sem.wp_bind'] at h
    show Sem.wp M Γ (execs (st :: (as ++ rest)) env) _ _ p s
    rw [execs_cons, Sem.wp_bind']
    refine Sem.wp_mono M Γ _ (fun f p' s' y => ?_) (fun _ _ _ y => y) p s h
    cases f with
    | next => exact wp_app P k as p' s' y
    | cont => exact nomatch (show Flow.cont = .next ∧ P s' from y).1
    | brk => exact nomatch (show Flow.brk = .next ∧ P s' from y).1
    | ret v => exact nomatch (show Flow.ret v = .next ∧ P s' from y).1
/-- some statements first, what holds behind them, then the others -/
theorem wpD_app (P : Shared → Prop) {Q : Flow → Shared → Prop} {as rest : List Stmt} (h : wpAny M A (execs as env) (fun f s' => f = .next ∧ P s') E s) (k : ∀ s', P s' → wpD M A (execs rest env) Q E s') : wpD M A (execs (as ++ rest) env) Q E s :=
  fun Γ p a b c => wp_app P (fun p' s' z => k s' z Γ p' a b c) as p s (h Γ p a)
theorem wpD_three (P : Shared → Prop) {Q : Flow → Shared → Prop} {a b c : Stmt} {rest : List Stmt} (h : wpAny M A (execs [a, b, c] env) (fun f s' => f = .next ∧ P s') E s) (k : ∀ s', P s' → wpD M A (execs rest env) Q E s') : wpD M A (execs (a :: b :: c :: rest) env) Q E s := wpD_app P h k
end
end Nm
namespace Nm
open PySem PySem.W PySem.Spec PySem.Calls PyProof.Rows
section
variable {prog : Program} {w : World} {A : Around} {E : Value → Shared → Prop} {s : Shared} {env : Env}
/-- a loop over a tuple, one other thing changing -/
theorem forTupD {x : Str} {px : Pos} {body : List Stmt} {I t f : Addr} {h₀ : Heap} {items : Array Value} {St : Nat → Heap → Prop} {R : Result → Shared → Prop} {Pr : Nat → Obj → Prop} {G : Nat → (Str → Option Value) → Prop}
    (W : Walks prog w A I [I, t] [I] items.size (fun i v => items[i]? = some v) St) (hx : env.kindOf x = some .local) (hp : (env.scope.kind == .class || (env.scope.kind == .module && env.locals != env.globals)) = false)
    (hS : ∀ i h, St i h → (∃ o, h.get? I = some o) ∧ (∃ o, h.get? t = some o) ∧ h.IsTupleIter I t i) (hL : env.locals ≠ I) (hLt : env.locals ≠ t) (hI : h₀.get? I = none) (ht0 : h₀.get? t = none) (hf : f ≠ I) (hft : f ≠ t) (hIt : t ≠ I)
    (turn : ∀ i v (m : Str → Option Value) h tk o it ot, items[i]? = some v → G i m → Pr i o → Fr h₀ env.locals h (fun y => if y = x then some v else m y) → News h₀ env.locals h [(f, o), (I, it), (t, ot)] →
      wpAny (model prog w) A (execs body env) (fun fl s' => (fl = .next ∨ fl = .cont) ∧ ∃ h' tk' m' o', s' = { s with heap := h', toks := tk' } ∧ G (i + 1) m' ∧ Pr (i + 1) o' ∧ Fr h₀ env.locals h' m' ∧ News h₀ env.locals h' [(f, o'), (I, it), (t, ot)]) (notedBy (model prog w) A env fun e s' => R (.error e) s') { s with heap := h, toks := tk })
    (done : ∀ h tk m o, G items.size m → Pr items.size o → Fr h₀ env.locals h m → News h₀ env.locals h [(f, o)] → R (.ok .next) { s with heap := h, toks := tk }) :
    ∀ (k i : Nat) (h : Heap) (tk : Nat) (m : Str → Option Value) (o : Obj), items.size - i = k → i ≤ items.size → St i h → G i m → Pr i o → Fr h₀ env.locals h m → News h₀ env.locals h [(f, o)] →
      codeD (model prog w) A (.forLoop (.Name x px) (.ref I) body [] env) R { s with heap := h, toks := tk } := by
  have nextF : ∀ {m : Str → Option Value} {o : Obj} {h h₁ : Heap}, Fr h₀ env.locals h m → News h₀ env.locals h [(f, o)] → (∀ b o, b ∉ [I] → h.get? b = some o → h₁.get? b = some o) → Fr h₀ env.locals h₁ m ∧ News h₀ env.locals h₁ [(f, o)] := fun F N hk =>
    ⟨⟨F.ns.at' fun o e => hk _ o (fun z => hL (List.mem_singleton.mp z)) e, fun b o e => hk b o (fun z => by rw [List.mem_singleton.mp z, hI] at e; cases e) (F.keep b o e), F.above⟩,
      fun p hp => by
        obtain rfl := List.mem_singleton.mp hp
        exact ⟨hk _ _ (fun z => hf (List.mem_singleton.mp z)) (N _ hp).1, (N _ hp).2⟩⟩
  intro k
  induction k with
  | zero =>
    intro i h tk m o hk hle st g pr F N
    have hin : i = items.size := by omega
    subst hin
    refine codeD_tree rfl (wpD_any ?_)
    show wpAny _ A ((forTurn (.Name x px) (.ref I) body [] env).onRaise (fun x => do noteFrame x env; theTreesLotGoes x)) _ _ _
    refine wpAny_noted ?_
    simp only [forTurn]
    refine wpAny_bind (wpAny_standAt (wpAny_bind (wpAny_onRaise (W.done _ _ _ st fun h₁ tk₁ hk₁ => ?_))))
    obtain ⟨F₁, N₁⟩ := nextF F N hk₁
    exact wpAny_pure ⟨rfl, codeD_any (codeAny_block (wpAny_execs_nil (done h₁ tk₁ m o g pr F₁ N₁)))⟩
  | succ k ih =>
    intro i h tk m o hk hle st g pr F N
    have hlt : i < items.size := by omega
    refine codeD_tree rfl ?_
    show wpD _ A ((forTurn (.Name x px) (.ref I) body [] env).onRaise (fun x => do noteFrame x env; theTreesLotGoes x)) _ _ _
    refine wpD_noted ?_
    simp only [forTurn]
    refine wpD_off (wpAny_standAt (wpD_off (wpAny_onRaise (W.item i _ _ _ hlt st fun v h₁ tk₁ hP st₁ hk₁ => ?_))))
    obtain ⟨F₁, N₁⟩ := nextF F N hk₁
    refine wpD_off (letGo_tupleiter (hS _ _ st₁).2.2 ?_)
    refine wpD_off (wpAny_assign_Name (wpAny_storeName_local hx F₁.ns (fun h₂ hn₂ hs₂ => ?_) hp))
    have F₂ := F₁.set hn₂ hs₂
    have N₂ := N₁.set hs₂
    obtain ⟨⟨it, hit⟩, ⟨ot, hot⟩, -⟩ := hS _ _ st₁
    have hit₂ : h₂.get? I = some it := (hs₂.2 I (fun z => hL z.symm)).trans hit
    have hot₂ : h₂.get? t = some ot := (hs₂.2 t (fun z => hLt z.symm)).trans hot
    have st₂ : St (i + 1) h₂ := W.frame _ _ _ st₁ fun b hb o e => by
      rcases List.mem_cons.mp hb with rfl | hb
      · exact (hs₂.2 _ (fun z => hL z.symm)).trans e
      · rw [List.mem_singleton.mp hb] at e ⊢
        exact (hs₂.2 t (fun z => hLt z.symm)).trans e
    have N₃ : News h₀ env.locals h₂ [(f, o), (I, it), (t, ot)] := fun p hp => by
      rcases List.mem_cons.mp hp with rfl | hp
      · exact N₂ _ (.head _)
      · rcases List.mem_cons.mp hp with rfl | hp
        · exact ⟨hit₂, Ne.symm hL, hI⟩
        · rw [List.mem_singleton.mp hp]
          exact ⟨hot₂, Ne.symm hLt, ht0⟩
    refine wpD_bind (wpD_mono (wpD_any (turn i v m h₂ _ o it ot hP g pr F₂ N₃)) (fun fl s' z => ?_) fun _ _ x => x)
    obtain ⟨hfl, h', tk', m', o', rfl, g', pr', F', N'⟩ := z
    have st' : St (i + 1) h' := W.frame _ _ _ st₂ fun b hb o e => by
      rcases List.mem_cons.mp hb with rfl | hb
      · rw [hit₂] at e
        cases e
        exact (N' (_, it) (.tail _ (.head _))).1
      · rw [List.mem_singleton.mp hb] at e ⊢
        rw [hot₂] at e
        cases e
        exact (N' (t, ot) (.tail _ (.tail _ (.head _)))).1
    have N'' : News h₀ env.locals h' [(f, o')] := fun p hp => N' p (by rw [List.mem_singleton.mp hp]; exact .head _)
    have := ih (i + 1) h' tk' m' o' (by omega) hlt st' g' pr' F' N''
    rcases hfl with rfl | rfl <;> exact wpD_pure ⟨rfl, this⟩
theorem For_tupD {x : Str} {px pos : Pos} {iter : Expr} {body : List Stmt} {f : Addr} {h₀ : Heap} {items : Array Value} {Q : Flow → Shared → Prop} {Pr : Nat → Obj → Prop} {G : Nat → (Str → Option Value) → Prop} (hh : A.handled = none)
    (hx : env.kindOf x = some .local) (hp : (env.scope.kind == .class || (env.scope.kind == .module && env.locals != env.globals)) = false)
    (hiter : wpAny (model prog w) A (eval iter env) (fun v s₁ => ∃ t ot h tk m o, v = .ref t ∧ s₁ = { s with heap := h, toks := tk } ∧ h.IsTuple t items ∧ @Ne Nat f t ∧ G 0 m ∧ Pr 0 o ∧ Fr h₀ env.locals h m ∧ News h₀ env.locals h [(t, ot), (f, o)]) E s)
    (turn : ∀ i v (m : Str → Option Value) h tk (I t : Addr) o it ot, items[i]? = some v → @Ne Nat f I → @Ne Nat f t → @Ne Nat t I → G i m → Pr i o → Fr h₀ env.locals h (fun y => if y = x then some v else m y) → News h₀ env.locals h [(f, o), (I, it), (t, ot)] →
      wpAny (model prog w) A (execs body env) (fun fl s' => (fl = .next ∨ fl = .cont) ∧ ∃ h' tk' m' o', s' = { s with heap := h', toks := tk' } ∧ G (i + 1) m' ∧ Pr (i + 1) o' ∧ Fr h₀ env.locals h' m' ∧ News h₀ env.locals h' [(f, o'), (I, it), (t, ot)]) (fun _ _ => False) { s with heap := h, toks := tk })
    (done : ∀ h tk m o, G items.size m → Pr items.size o → Fr h₀ env.locals h m → News h₀ env.locals h [(f, o)] → Q .next { s with heap := h, toks := tk })
    (hs : ∀ x, foldedSetIterable iter env x = pure x := by intro _; rfl) : wpD (model prog w) A (exec (.For (.Name x px) iter body [] pos) env) Q E s := by
  rw [exec_For]
  refine wpD_off (wpAny_standAt (wpD_off (wpAny_mono hiter (fun v s₁ h₁ => ?_) fun _ _ z => z)))
  obtain ⟨t, ot, h, tk, m, o, rfl, rfl, ht, hft, g, pr, F, N⟩ := h₁
  have hlt' : t < h.objs.size := Heap.lt_size (N _ (.head _)).1
  refine wpD_off (wpAny_of_eq (hs _) (wpD_off (wpAny_standAt (wpD_off (wpAny_holding (wpAny_pyIter_tuple ht ?_))))))
  refine wpD_runOwn ?_
  have hnew : h₀.get? h.objs.size = none := next_is_new F
  have hlt : env.locals < h.objs.size := F.ns.lt
  refine forTupD (s := s) (I := h.objs.size) (t := t) (f := f) (Pr := Pr) (G := G) (Walks.tuple (by rw [Around.mark]; exact hh) _ t (Nat.ne_of_lt hlt') items) hx hp (fun i h' st => ⟨?_, ?_, st.1⟩) (Nat.ne_of_lt hlt) (Ne.symm (N _ (.head _)).2.1) hnew (N _ (.head _)).2.2 (Nat.ne_of_lt (Heap.lt_size (N _ (.tail _ (.head _))).1)) hft (Nat.ne_of_lt hlt') ?_ ?_ _ 0 _ _ m o rfl (Nat.zero_le _)
    ⟨⟨_, Heap.get?_push_size _ rfl, rfl, rfl⟩, ht.at fun o e => Heap.get?_push_of_some _ e⟩ g pr (F.push _) fun p hp => by
      obtain rfl := List.mem_singleton.mp hp
      exact ⟨Heap.get?_push_of_some _ (N _ (.tail _ (.head _))).1, (N _ (.tail _ (.head _))).2⟩
  · obtain ⟨⟨o, ho, _⟩, _⟩ := st; exact ⟨o, ho⟩
  · obtain ⟨_, o, ho, _⟩ := st; exact ⟨o, ho⟩
  · intro i v m h₁ tk₁ o it ot hc g₁ pr₁ F₁ N₁
    exact wpAny_mono (turn i v m h₁ tk₁ _ t o it ot hc (Nat.ne_of_lt (Heap.lt_size (N _ (.tail _ (.head _))).1)) hft (Nat.ne_of_lt hlt') g₁ pr₁ F₁ N₁) (fun _ _ z => z) fun _ _ z => z.elim
  · exact done
end
end Nm
namespace Nm
open PySem
/-- what a reading comes to: a fault (its words, its place behind the beginning) or a value and its octets -/
inductive Res where
  | fault (why : Str) (at_ : Int)
  | val (v n : Int)
abbrev wEnd : Str := Str.ofString "unexpected end"
abbrev wBig : Str := Str.ofString "integer too large"
abbrev wLong : Str := Str.ofString "integer representation too long"
/-- Cursor.unsigned from the k-th octet on -/
def uGo (bits : Int) : List Int → Nat → Int → Res
  | [], k, _ => .fault wEnd k
  | o :: r, k, f =>
    if bits - 7 * k < 7 ∧ (o % 128).fdiv (2 ^ (bits - 7 * k).toNat) ≠ 0 then .fault wBig 0
    else if bits - 7 * k ≤ 7 ∧ 128 ≤ o then .fault wLong 0
    else if o < 128 then .val (f + o % 128 * 2 ^ (7 * (k : Int)).toNat) (k + 1)
    else uGo bits r (k + 1) (f + o % 128 * 2 ^ (7 * (k : Int)).toNat)
/-- the high bits of the last octet are alike -/
def alike (bits sh o : Int) : Bool := List.any [0, Int.fdiv 127 (2 ^ (bits - sh - 1).toNat)] fun x => x == Int.fdiv (o % 128) (2 ^ (bits - sh - 1).toNat)
/-- Cursor.signed from the k-th octet on -/
def sGo (bits : Int) : List Int → Nat → Int → Res
  | [], k, _ => .fault wEnd k
  | o :: r, k, f =>
    if bits - 7 * k < 7 ∧ alike bits (7 * k) o = false then .fault wBig 0
    else if bits - 7 * k ≤ 7 ∧ 128 ≤ o then .fault wLong 0
    else if o < 128 then .val (if Builtin.bitAnd o 64 ≠ 0 then f + o % 128 * 2 ^ (7 * (k : Int)).toNat - 1 * 2 ^ (7 * (k : Int) + 7).toNat else f + o % 128 * 2 ^ (7 * (k : Int)).toNat) (k + 1)
    else sGo bits r (k + 1) (f + o % 128 * 2 ^ (7 * (k : Int)).toNat)
section
variable {bits o sh f : Int} {r : List Int} {k : Nat} (hs : sh = 7 * (k : Int))
include hs
theorem uGo_big (h1 : bits - sh < 7) (h2 : (o % 128).fdiv (2 ^ (bits - sh).toNat) ≠ 0) : uGo bits (o :: r) k f = .fault wBig 0 := by
  subst hs; rw [uGo, if_pos ⟨h1, h2⟩]
theorem uGo_long (h1 : ¬ (bits - sh < 7 ∧ (o % 128).fdiv (2 ^ (bits - sh).toNat) ≠ 0)) (h2 : bits - sh ≤ 7) (h3 : 128 ≤ o) : uGo bits (o :: r) k f = .fault wLong 0 := by
  subst hs; rw [uGo, if_neg h1, if_pos ⟨h2, h3⟩]
theorem uGo_val (h1 : ¬ (bits - sh < 7 ∧ (o % 128).fdiv (2 ^ (bits - sh).toNat) ≠ 0)) (h3 : o < 128) : uGo bits (o :: r) k f = .val (f + o % 128 * 2 ^ sh.toNat) (k + 1) := by
  subst hs; rw [uGo, if_neg h1, if_neg (by omega), if_pos h3]
theorem uGo_next (h1 : ¬ (bits - sh < 7 ∧ (o % 128).fdiv (2 ^ (bits - sh).toNat) ≠ 0)) (h2 : ¬ bits - sh ≤ 7) (h3 : ¬ o < 128) : uGo bits (o :: r) k f = uGo bits r (k + 1) (f + o % 128 * 2 ^ sh.toNat) := by
  subst hs; rw [uGo, if_neg h1, if_neg (by omega), if_neg h3]
theorem sGo_big (h1 : bits - sh < 7) (h2 : (List.any [0, Int.fdiv 127 (2 ^ (bits - sh - 1).toNat)] fun x => x == Int.fdiv (o % 128) (2 ^ (bits - sh - 1).toNat)) = false) : sGo bits (o :: r) k f = .fault wBig 0 := by
  subst hs; rw [sGo, if_pos ⟨h1, h2⟩]
theorem sGo_h (h1 : ¬ bits - sh < 7 ∨ (List.any [0, Int.fdiv 127 (2 ^ (bits - sh - 1).toNat)] fun x => x == Int.fdiv (o % 128) (2 ^ (bits - sh - 1).toNat)) = true) : ¬ (bits - 7 * (k : Int) < 7 ∧ alike bits (7 * (k : Int)) o = false) := by
  subst hs
  rintro ⟨a, b⟩
  rcases h1 with h | h
  · exact h a
  · unfold alike at b; rw [h] at b; cases b
theorem sGo_long (h1 : ¬ bits - sh < 7 ∨ (List.any [0, Int.fdiv 127 (2 ^ (bits - sh - 1).toNat)] fun x => x == Int.fdiv (o % 128) (2 ^ (bits - sh - 1).toNat)) = true) (h2 : bits - sh ≤ 7) (h3 : 128 ≤ o) : sGo bits (o :: r) k f = .fault wLong 0 := by
  have h9 := sGo_h hs h1
  subst hs; rw [sGo, if_neg h9, if_pos ⟨h2, h3⟩]
theorem sGo_neg (h1 : ¬ bits - sh < 7 ∨ (List.any [0, Int.fdiv 127 (2 ^ (bits - sh - 1).toNat)] fun x => x == Int.fdiv (o % 128) (2 ^ (bits - sh - 1).toNat)) = true) (h3 : o < 128) (h4 : Builtin.bitAnd o 64 ≠ 0) : sGo bits (o :: r) k f = .val (f + o % 128 * 2 ^ sh.toNat - 1 * 2 ^ (sh + 7).toNat) (k + 1) := by
  have h9 := sGo_h hs h1
  subst hs; rw [sGo, if_neg h9, if_neg (by omega), if_pos h3, if_pos h4]
theorem sGo_pos (h1 : ¬ bits - sh < 7 ∨ (List.any [0, Int.fdiv 127 (2 ^ (bits - sh - 1).toNat)] fun x => x == Int.fdiv (o % 128) (2 ^ (bits - sh - 1).toNat)) = true) (h3 : o < 128) (h4 : Builtin.bitAnd o 64 = 0) : sGo bits (o :: r) k f = .val (f + o % 128 * 2 ^ sh.toNat) (k + 1) := by
  have h9 := sGo_h hs h1
  subst hs; rw [sGo, if_neg h9, if_neg (by omega), if_pos h3, if_neg (fun z => z h4)]
theorem sGo_next (h1 : ¬ bits - sh < 7 ∨ (List.any [0, Int.fdiv 127 (2 ^ (bits - sh - 1).toNat)] fun x => x == Int.fdiv (o % 128) (2 ^ (bits - sh - 1).toNat)) = true) (h2 : ¬ bits - sh ≤ 7) (h3 : ¬ o < 128) : sGo bits (o :: r) k f = sGo bits r (k + 1) (f + o % 128 * 2 ^ sh.toNat) := by
  have h9 := sGo_h hs h1
  subst hs; rw [sGo, if_neg h9, if_neg (by omega), if_neg h3]
end
theorem getD_drop {ks : List Int} {j : Nat} (h : j < ks.length) : ks.drop j = ks.getD j 0 :: ks.drop (j + 1) := by
  rw [List.drop_eq_getElem_cons h, List.getD_eq_getElem?_getD, List.getElem?_eq_getElem h]; rfl
/-- the octets from i up to e -/
def cut (ks : List Int) (i e : Int) : List Int := (ks.take e.toNat).drop i.toNat
/-- the state of the reading loop -/
structure USt where
  k : Nat
  f : Int
  at_ : Int
  sh : Int
  tf : Nat
  ts : Nat
  ta : Nat
theorem cut_drop {ks : List Int} {i e : Int} {k : Nat} (hi : 0 ≤ i) (he : e ≤ ks.length) (hk : i + k < e) : (cut ks i e).drop k = ks.getD (i + k).toNat 0 :: (cut ks i e).drop (k + 1) := by
  unfold cut
  rw [List.drop_drop, List.drop_drop]
  have h1 : i.toNat + k = (i + k).toNat := by omega
  have h2 : (i + k).toNat < (ks.take e.toNat).length := by rw [List.length_take]; omega
  rw [show i.toNat + (k + 1) = i.toNat + k + 1 from rfl, h1, getD_drop h2]
  congr 1
  rw [List.getD_eq_getElem?_getD, List.getD_eq_getElem?_getD, List.getElem?_take_of_lt (by omega)]
theorem cut_end {ks : List Int} {i e : Int} {k : Nat} (hi : 0 ≤ i) (hk : ¬ i + k < e) : (cut ks i e).drop k = [] := by
  unfold cut
  rw [List.drop_drop]
  apply List.drop_eq_nil_of_le
  rw [List.length_take]; omega
end Nm
namespace Nm
open PySem PySem.W PySem.Spec PySem.Calls PyProof.Rows
theorem fresh_Pre : True := by w_top off; exact True.intro
/-- a goal that the walk leaves alone -/
def Halt (P : Prop) : Prop := P
theorem Halt.out {P : Prop} (h : Halt P) : P := h
abbrev NLed := List (Addr × Obj)
abbrev NVal := Value
abbrev NStr := Str
abbrev NTok := Tok
theorem meta_exception : typeOf (.type "Exception") = pure (.type "type") := by kernel_rfl
theorem and127 {prog : Program} {w : World} {A : Around} {E : Value → Shared → Prop} {s : Shared} {a : Int} {t u : Tok} {Q : Value → Shared → Prop} (h : Q (.int (a % 128) s.toks) { s with toks := s.toks + 1 }) :
    wpAny (model prog w) A (binaryOp .BitAnd (.int a t) (.int 127 u)) Q E s := and_int (by rw [bitAnd_m7]; exact h)
/-- a call of the value `f` in any frame of a def -/
abbrev CallAt (prog : Program) (w : World) (K : Frag) (p : Program) (loose : List Str) (kd ku : Nat) (f : Addr) (news : NLed) (vs : List NVal)
    (G : Heap → List Env → Heap → Env → Addr → (Str → Option Value) → Shared → (Value → Shared → Prop) → (Value → Shared → Prop) → Prop → Prop) : Prop :=
  ∀ (mean : ExcName → Option Value) (mg mb : Str → Option Value) (dp un : Nat) (gd : Option (List Code)) (cn : Str) (cs : Scope) (a : Addr) (ccd : Value) (cl : List (Str × Addr)) (outer : List Env) (A₀ : Around) (base h₀ : Heap) (L : Addr) (m : Str → Option Value) (s : Shared) (Q E : Value → Shared → Prop),
    Below A₀ base outer h₀ → Fr h₀ L s.heap m → K.In h₀ → News h₀ L s.heap news → Top p loose mean mg mb h₀ → cs.kind = .function → dp + kd < recursionLimit → un + ku < cLine →
    G base outer h₀ (envX cn cs L a ccd cl) L m s Q E (wpAny (model prog w) (ktrTop dp un gd cn cs L a ccd cl outer) (call (.ref f) vs) Q E s)
/-- all that stood and is not named stands yet -/
abbrev Stay (h h' : Heap) (as : List Addr) : Prop := GSub h h' as
theorem Stay.mk {h g h' : Heap} {as : List Addr} {L' : Addr} {m' : Str → Option Value} (G : GSub h g as) (F : Fr g L' h' m') : Stay h h' as := fun b o e n => F.keep b o (G b o e n)
def AllGe (t : Nat) : List Nat → Prop
  | [] => True
  | a :: r => t ≤ a ∧ AllGe t r
theorem AllGe.mem {t : Nat} : ∀ {l : List Nat}, AllGe t l → ∀ a ∈ l, t ≤ a
  | _ :: _, h, _, .head _ => h.1
  | _ :: _, h, a, .tail _ m => h.2.mem a m
theorem Stay.by {h h₁ g h' : Heap} {as : List Addr} {L' : Addr} {m' : Str → Option Value} {t : Nat} (hk : ∀ b o, h.get? b = some o → h₁.get? b = some o ∧ b < t) (G : GSub h₁ g as) (F : Fr g L' h' m') (n : AllGe t as) : Stay h h' [] :=
  fun b o e _ => F.keep b o (G b o (hk b o e).1 fun q => Nat.lt_irrefl _ (Nat.lt_of_lt_of_le (hk b o e).2 (n.mem b q)))
/-- new things beside an old ledger -/
theorem news_cat {h₀ h h' : Heap} {L : Addr} {news add : NLed} (N : News h₀ L h news) (N' : News h₀ L h' add) (S : Stay h h' []) : News h₀ L h' (add ++ news) := fun q hq => by
  rcases List.mem_append.mp hq with hq | hq
  · exact N' q hq
  · exact ⟨S _ _ (N q hq).1 (fun z => nomatch z), (N q hq).2⟩
/-- the exception's dict -/
abbrev exD (w : World) (why : Str) (t1 tw : Tok) (i : Int) (t2 ti : Tok) : Obj :=
  dictOf [⟨PyData.keyHash w.params (Str.ofString "why"), .str (Str.ofString "why") t1, .str why tw⟩, ⟨PyData.keyHash w.params (Str.ofString "at"), .str (Str.ofString "at") t2, .int i ti⟩] 2
local macro_rules | `(tactic| k_all) => `(tactic| assumption)
local macro_rules | `(tactic| ktr_room) => `(tactic| ((try simp only [depth_under_make, depth_under_kw, depth_in1, depth_deeper, depth_caller, depth_mark]); (try dsimp only [ktrTop]); (try simp only [recursionLimit] at *); omega))
local macro_rules | `(tactic| cell_enter) => `(tactic| (refine' code_defG ?k1 ?k2 ?k3 ?k4 ?k5 ?kA ?kF ?kK ?k6 ?k7 ?k8 ?k9 ?kB ?_ ?c2 ?c3 ?c4 ?c5; (case kA | kF => exact rfl); (case kK => first | assumption | exact rfl); (case k1 | k2 | k3 | k4 | k5 => k_asm); (case k6 | k7 => k_is); (case k8 => ktr_room); (case k9 => first | exact BindsTo.of_eq rfl | exact binds_K (by k_in) rfl (by k_is) rfl rfl rfl); (case c5 => decide); (case kB => exact locs rfl); (case c2 | c3 | c4 => exact rfl); k_whole; intro g' L' h' FG' F' N' B' X' T' kG'; (try dsimp only); (try k_lift B'); (try k_fold)))
local macro_rules | `(tactic| walk_at "call ref") => `(tactic| (k_here; refine wpAny_call ?_; k_dflt cell_enter))
local macro_rules | `(tactic| walk_at "call ref") => `(tactic| (k_here; k_dflt (refine' callX_K ?k1 ?k2 ?k3 ?k4 ?k5 ?k6 ?k7 ?k8 ?k9 ?k10 ?_; (case k1 | k2 | k3 => k_asm); (case k4 => k_is); (case k5 | k6 | k7 => decide); (case k8 | k9 => k_is); (case k10 => size_fits); k_whole); intro e' t' h' F' N' l1 l2 kH; (try k_lt l1); (try k_lt2 l2); k_dflt cell_enter))
local macro_rules | `(tactic| walk_at "getMethod type:Exception") => `(tactic| (k_here; refine' method_type ?F ?X ?m (by decide +kernel) ?e ?h ?_; (case F | X => k_asm); (case m => exact meta_exception); (case e => k_dflt k_is); (case h => k_handed)))
local macro_rules | `(tactic| walk_at "call builtin:Exception.__init__") => `(tactic| (k_here; k_dflt (refine' exc_init_K ?k1 ?k2 ?k3 ?k4 ?k5 ?k6 ?k7 ?_; (case k1 | k2 | k3 => k_asm); (case k6 => intro tn; k_upd); (case k4 => k_is); (case k5 => decide); (case k7 => size_fits); k_whole); intro tn' h' F' N' l1; (try k_lt l1)))
local macro_rules | `(tactic| walk_at "setAttr ref") => `(tactic| (k_here; k_dflt (first
  | (refine' setX_new ?k1 ?k2 ?k3 ?k4 ?k5 ?k6 ?k7 ?_; (case k1 | k2 | k3 => k_asm); (case k4 => intro tn; k_upd); (case k5 => k_is); (case k6 => rfl); (case k7 => k_is); k_whole; intro d' h' F' N' l1; (try k_lt l1))
  | (refine' setX_old ?k1 ?k2 ?k3 ?k4 ?k5 ?k6 ?k7 ?k8 ?k9 ?k10 ?k11 ?_; (case k1 | k2 | k3 => k_asm); (case k4 => k_mem); (case k5 => k_upd); (case k6 => k_is); (case k7 => rfl); (case k8 => k_is); (case k9 => k_get); (case k10 => k_put); (case k11 => exact Nat.le_of_ble_eq_true rfl); k_whole; intro h' F' N'))))
local macro_rules | `(tactic| walk_at "exec Raise some none") => `(tactic| (k_here; (refine Raise_own rfl ?_)))
local macro_rules | `(tactic| walk_at "RaiseEnd") => `(tactic| (k_here; k_dflt (refine' raiseEnd_ ?k1 ?k2 ?k3 ?k4 ?k5 ?k6 ?_; (case k1 | k2 | k3 => k_asm); (case k4 => k_mem); (case k5 => k_is); (case k6 => decide); k_whole)))
local macro_rules | `(tactic| walk_at "leaving ref") => `(tactic| (k_here; k_dflt (first
  | (refine' leave_firstD ?k1 ?k2 ?k3 ?k4 ?k5 ?_ ?k6; (case k1 | k2 | k3 => k_asm); (case k4 => k_mem); (case k5 => k_upd); (case k6 => rfl); k_whole)
  | (refine' leave_onD ?k1 ?k2 ?k3 ?k4 ?_; (case k3 | k1 | k4 | k2 => assumption); k_whole)); intro h' R' U'; (try dsimp only at R' U' ⊢)))
local macro_rules | `(tactic| k_upd) => `(tactic| first | exact Without.nil | (refine' Without.skip ?a; (case a => k_upd)) | (refine' Without.keep ?a ?b; (case a => k_ne); (case b => k_upd)))
local macro_rules | `(tactic| walk_at "exec While Constant cons nil") => `(tactic| (refine Halt.out ?_))
local macro_rules | `(tactic| walk_at "binaryOp BitAnd int int") => `(tactic| (refine and127 ?_))
theorem malformed_spec (w : World) (why : NStr) (tw : NTok) (i : Int) (ti : NTok) :
    CallAt PySem.Challenge.rw_nm0117_01.row.prog w (NmTop.hd.heap_1 w.params) NmTop.hd.view_1 (looseW NmTop.hd.view_1 [Str.ofString "text_of"]) 5 20 58 [] [.str why tw, .int i ti]
      (fun _ _ h₀ _ L m s Q _ G =>
        (∀ (e d t : Addr) (t1 t2 : NTok) (h' : Heap) (tk : Nat), Fr h₀ L h' m → News h₀ L h' [(d, exD w why t1 tw i t2 ti), (e, excO 58 (some d) t)] → Stay s.heap h' [] → (∀ (b : Nat) o, s.heap.get? b = some o → @LT.lt Nat _ b e) → @LT.lt Nat _ e d →
          Q (.ref e) { s with heap := h', toks := tk }) → G) := by
  k_fill
  unfold CallAt
  dsimp only
  intro mean mg mb dp un gd cn cs a ccd cl outer A₀ base h₀ L m s Q E iB iF iX iN iT ik id iu hret
  k_steps
  rename (∀ b o, Heap.get? s.heap b = some o → _ ∧ _) => hk
  refine' hret _ _ _ _ _ _ _ ?A (cb_drop ?B ?B2) ?C ?D ?E'
  case A => k_asm
  case B => k_asm
  case B2 => (refine' List.forall_mem_cons.mpr ⟨?_, List.forall_mem_cons.mpr ⟨?_, List.forall_mem_nil _⟩⟩) <;> k_dflt k_mem
  case C =>
    refine Stay.by hk (by k_asm) (by k_asm) ?_
    simp only [List.map_cons, List.map_nil, AllGe, and_true]
    omega
  case D =>
    intro b o q
    exact Nat.lt_trans (hk b o q).2 (by omega)
  case E' => omega
theorem malformed_use {w : World} {why : NStr} {tw : NTok} {i : Int} {ti : NTok} {mean : ExcName → Option Value} {mg mb : Str → Option Value} {dp un : Nat} {gd : Option (List Code)} {cn : Str} {cs : Scope} {a : Addr} {ccd : Value} {cl : List (Str × Addr)} {outer : List Env} {A₀ : Around} {base h₀ : Heap} {L : Addr} {m : Str → Option Value} {s : Shared} {Q E : Value → Shared → Prop} {news : NLed}
    (B : Below A₀ base outer h₀) (F : Fr h₀ L s.heap m) (X : (NmTop.hd.heap_1 w.params).In h₀) (N : News h₀ L s.heap news) (T : Top NmTop.hd.view_1 (looseW NmTop.hd.view_1 [Str.ofString "text_of"]) mean mg mb h₀) (hk : cs.kind = .function) (hd : dp + 5 < recursionLimit) (hu : un + 20 < cLine)
    (ret : ∀ (e d t : Addr) (t1 t2 : NTok) (h' : Heap) (tk : Nat), Fr h₀ L h' m → News h₀ L h' ((d, exD w why t1 tw i t2 ti) :: (e, excO 58 (some d) t) :: news) → (∀ p ∈ news, p.1 < e) → @LT.lt Nat _ e d → Stay s.heap h' [] → Q (.ref e) { s with heap := h', toks := tk }) :
    wpAny (model PySem.Challenge.rw_nm0117_01.row.prog w) (ktrTop dp un gd cn cs L a ccd cl outer) (call (.ref 58) [.str why tw, .int i ti]) Q E s :=
  malformed_spec w why tw i ti mean mg mb dp un gd cn cs a ccd cl outer A₀ base h₀ L m s Q E B F X News.nil T hk hd hu fun e d t t1 t2 h' tk F' N' S l1 l2 =>
    ret e d t t1 t2 h' tk F' (news_cat N N' S) (fun p hp => l1 _ _ (N p hp).1) l2 S
local macro_rules | `(tactic| walk_at "call ref") => `(tactic| (k_here; (with_reducible show wpAny _ _ (call (Value.ref 58) [Value.str _ _, Value.int _ _]) _ _ _); k_dflt (refine' malformed_use ?k1 ?k2 ?k3 ?k4 ?k5 ?k6 ?k7 ?k8 ?_; (case k1 | k2 | k3 | k4 | k5 => k_asm); (case k6 => first | assumption | exact rfl); (case k7 => ktr_room); (case k8 => ktr_units); k_whole); intro e' d' t' t1' t2' h' tk' F' N' l1 l2 kS; (try k_lt l1)))
section
open PySem PySem.W PySem.Spec PySem.Calls PyProof.Rows
/-- what a condition says, and that it changes tokens alone -/
def JoinP (C : Prop) (s : Shared) (b : Bool) (s' : Shared) : Prop := (∃ tk, s' = { s with toks := tk }) ∧ (b = true ↔ C)
theorem JoinP.yes {C : Prop} {s : Shared} {tk : Nat} (h : C) : JoinP C s true { s with toks := tk } := ⟨⟨_, rfl⟩, iff_of_true rfl h⟩
theorem JoinP.no {C : Prop} {s : Shared} {tk : Nat} (h : ¬ C) : JoinP C s false { s with toks := tk } := ⟨⟨_, rfl⟩, iff_of_false Bool.noConfusion h⟩
theorem join_if {M : Model} {A : Around} {E : Value → Shared → Prop} {s : Shared} {t : Sem Bool} {X Y : Shared → Prop} (C : Prop) (h : wpAny M A t (JoinP C s) E s)
    (y : ∀ tk, C → X { s with toks := tk }) (n : ∀ tk, ¬ C → Y { s with toks := tk }) : wpAny M A t (fun b s' => if b = true then X s' else Y s') E s := by
  refine wpAny_mono h (fun b s' q => ?_) (fun _ _ q => q)
  obtain ⟨⟨tk, rfl⟩, e⟩ := q
  by_cases c : C
  · rw [if_pos (e.mpr c)]; exact y tk c
  · rw [if_neg (fun z => c (e.mp z))]; exact n tk c
/-- the same where the condition lays new things on the heap -/
def JoinH (C : Prop) (g : Heap) (L : Addr) (m : Str → Option Value) (news : NLed) (s : Shared) (b : Bool) (s' : Shared) : Prop := (∃ h' tk, s' = { s with heap := h', toks := tk } ∧ Fr g L h' m ∧ News g L h' news) ∧ (b = true ↔ C)
theorem JoinH.yes {C : Prop} {g h' : Heap} {L : Addr} {m : Str → Option Value} {news : NLed} {s : Shared} {tk : Nat} (F : Fr g L h' m) (N : News g L h' news) (h : C) : JoinH C g L m news s true { s with heap := h', toks := tk } := ⟨⟨_, _, rfl, F, N⟩, iff_of_true rfl h⟩
theorem JoinH.no {C : Prop} {g h' : Heap} {L : Addr} {m : Str → Option Value} {news : NLed} {s : Shared} {tk : Nat} (F : Fr g L h' m) (N : News g L h' news) (h : ¬ C) : JoinH C g L m news s false { s with heap := h', toks := tk } := ⟨⟨_, _, rfl, F, N⟩, iff_of_false Bool.noConfusion h⟩
theorem join_ifH {M : Model} {A : Around} {E : Value → Shared → Prop} {s : Shared} {t : Sem Bool} {X Y : Shared → Prop} (C : Prop) {g h₀ : Heap} {L : Addr} {m : Str → Option Value} {news : NLed} (_ : Fr g L h₀ m) (_ : News g L h₀ news) (h : wpAny M A t (JoinH C g L m news s) E s)
    (y : ∀ h' tk, Fr g L h' m → News g L h' news → C → X { s with heap := h', toks := tk }) (n : ∀ h' tk, Fr g L h' m → News g L h' news → ¬ C → Y { s with heap := h', toks := tk }) : wpAny M A t (fun b s' => if b = true then X s' else Y s') E s := by
  refine wpAny_mono h (fun b s' q => ?_) (fun _ _ q => q)
  obtain ⟨⟨h', tk, rfl, F, N⟩, e⟩ := q
  by_cases c : C
  · rw [if_pos (e.mpr c)]; exact y h' tk F N c
  · rw [if_neg (fun z => c (e.mp z))]; exact n h' tk F N c
theorem or_of {a : Prop} {b : Bool} (h : ¬ (a ∧ b = false)) : ¬ a ∨ b = true := by
  cases b
  · exact .inl fun z => h ⟨z, rfl⟩
  · exact .inr rfl
end
section
open PySem PySem.W PySem.Spec PySem.Calls PyProof.Rows
theorem fresh_CPeek : True := by w_top off; exact True.intro
/-- a cursor's dict -/
abbrev curD (h1 h2 h3 : Int) (t1 t2 t3 : Tok) (b : Array UInt8) (tb : Tok) (i : Int) (ti : Tok) (e : Int) (te : Tok) : Obj :=
  dictOf [⟨h1, .str (Str.ofString "octets") t1, .bytes b tb⟩, ⟨h2, .str (Str.ofString "at") t2, .int i ti⟩, ⟨h3, .str (Str.ofString "end") t3, .int e te⟩] 3
theorem peek_spec (w : World) (x dx : Addr) (b : Array UInt8) (ks : List Int) (i e : Int) (h1 h2 h3 : Int) (t1 t2 t3 tb ti te : NTok) (hb : KBw.bInts b = ks) (hz : ks.length ≤ 16777216) (hi : 0 ≤ i) (he : e ≤ ks.length) :
    CallAt PySem.Challenge.rw_nm0117_01.row.prog w (NmTop.hd.heap_1 w.params) NmTop.hd.view_1 (looseW NmTop.hd.view_1 [Str.ofString "text_of"]) 7 30 108
      [(x, instObj 188 dx), (dx, curD h1 h2 h3 t1 t2 t3 b tb i ti e te)] [.ref x]
      (fun base outer h₀ env L m s Q E G =>
        (i < e → ∀ (t : NTok) (h' : Heap) (tk : Nat), Fr h₀ L h' m → News h₀ L h' [(x, instObj 188 dx), (dx, curD h1 h2 h3 t1 t2 t3 b tb i ti e te)] → Stay s.heap h' [x, dx] → Q (.int (ks.getD i.toNat 0) t) { s with heap := h', toks := tk }) →
        (¬ i < e → ∀ (ex d : Addr) (u1 u2 uw ui : NTok) (g₂ h' : Heap) (tk : Nat), Fr h₀ L g₂ m → RaisedD base g₂ (env :: outer) ex 58 d [(d, exD w (Str.ofString "unexpected end") u1 uw i u2 ui), (x, instObj 188 dx), (dx, curD h1 h2 h3 t1 t2 t3 b tb i ti e te)] h' → g₂.UpToSlots h' → Stay s.heap g₂ [x, dx] → E (.ref ex) { s with heap := h', toks := tk }) → G) := by
  k_fill
  unfold CallAt
  dsimp only
  intro mean mg mb dp un gd cn cs a ccd cl outer A₀ base h₀ L m s Q E iB iF iX iN iT ik id iu hret hexc
  refine wpAny_call ?_
  k_dflt cell_enter
  k_steps
  · exact hexc (by omega) _ _ _ _ _ _ _ _ _ (by assumption) (by assumption) (by assumption) (by assumption)
  · exact hret (by omega) _ _ _ (by k_asm) (by k_asm) (Stay.mk (by assumption) (by assumption))
theorem peek_use {w : World} {x dx : Addr} {b : Array UInt8} {ks : List Int} {i e : Int} {h1 h2 h3 : Int} {t1 t2 t3 tb ti te : NTok} {mean : ExcName → Option Value} {mg mb : Str → Option Value} {dp un : Nat} {gd : Option (List Code)} {cn : Str} {cs : Scope} {a : Addr} {ccd : Value} {cl : List (Str × Addr)} {outer : List Env} {A₀ : Around} {base h₀ : Heap} {L : Addr} {m : Str → Option Value} {s : Shared} {Q E : Value → Shared → Prop}
    (B : Below A₀ base outer h₀) (F : Fr h₀ L s.heap m) (X : (NmTop.hd.heap_1 w.params).In h₀) (N : News h₀ L s.heap [(x, instObj 188 dx), (dx, curD h1 h2 h3 t1 t2 t3 b tb i ti e te)]) (T : Top NmTop.hd.view_1 (looseW NmTop.hd.view_1 [Str.ofString "text_of"]) mean mg mb h₀) (hk : cs.kind = .function) (hd : dp + 7 < recursionLimit) (hu : un + 30 < cLine)
    (hb : KBw.bInts b = ks) (hz : ks.length ≤ 16777216) (hi : 0 ≤ i) (he : e ≤ ks.length)
    (ret : i < e → ∀ (t : NTok) (h' : Heap) (tk : Nat), Fr h₀ L h' m → News h₀ L h' [(x, instObj 188 dx), (dx, curD h1 h2 h3 t1 t2 t3 b tb i ti e te)] → Q (.int (ks.getD i.toNat 0) t) { s with heap := h', toks := tk })
    (exc : ¬ i < e → ∀ (ex d : Addr) (u1 u2 uw ui : NTok) (g₂ h' : Heap) (tk : Nat), Fr h₀ L g₂ m → RaisedD base g₂ (envX cn cs L a ccd cl :: outer) ex 58 d [(d, exD w (Str.ofString "unexpected end") u1 uw i u2 ui), (x, instObj 188 dx), (dx, curD h1 h2 h3 t1 t2 t3 b tb i ti e te)] h' → g₂.UpToSlots h' → E (.ref ex) { s with heap := h', toks := tk }) :
    wpAny (model PySem.Challenge.rw_nm0117_01.row.prog w) (ktrTop dp un gd cn cs L a ccd cl outer) (call (.ref 108) [.ref x]) Q E s :=
  peek_spec w x dx b ks i e h1 h2 h3 t1 t2 t3 tb ti te hb hz hi he mean mg mb dp un gd cn cs a ccd cl outer A₀ base h₀ L m s Q E B F X N T hk hd hu
    (fun q t h' tk F' N' _ => ret q t h' tk F' N') (fun q ex d u1 u2 uw ui g₂ h' tk F' R U _ => exc q ex d u1 u2 uw ui g₂ h' tk F' R U)
end
local macro_rules | `(tactic| walk_at "call ref") => `(tactic| (k_here; (with_reducible show wpAny _ _ (call (Value.ref 108) [Value.ref _]) _ _ _); k_dflt (refine' peek_use ?k1 ?k2 ?k3 ?k4 ?k5 ?k6 ?k7 ?k8 ?k9 ?k10 ?k11 ?k12 ?_ ?_; (case k1 | k2 | k3 | k4 | k5 => k_asm); (case k6 => first | assumption | exact rfl); (case k7 => ktr_room); (case k8 => ktr_units); (case k9 => assumption); (case k10 | k11 | k12 => omega))))
section
open PySem PySem.W PySem.Spec PySem.Calls PyProof.Rows
theorem fresh_COctet : True := by w_top off; exact True.intro
theorem octet_spec (w : World) (x dx : Addr) (b : Array UInt8) (ks : List Int) (i e : Int) (h1 h2 h3 : Int) (t1 t2 t3 tb ti te : NTok) (hn : @Ne Nat x dx) (hb : KBw.bInts b = ks) (hz : ks.length ≤ 16777216) (hi : 0 ≤ i) (he : e ≤ ks.length) :
    CallAt PySem.Challenge.rw_nm0117_01.row.prog w (NmTop.hd.heap_1 w.params) NmTop.hd.view_1 (looseW NmTop.hd.view_1 [Str.ofString "text_of"]) 10 40 115
      [(x, instObj 188 dx), (dx, curD h1 h2 h3 t1 t2 t3 b tb i ti e te)] [.ref x]
      (fun base outer h₀ env L m s Q E G =>
        (i < e → ∀ (t ti' : NTok) (h' : Heap) (tk : Nat), Fr h₀ L h' m → News h₀ L h' [(x, instObj 188 dx), (dx, curD h1 h2 h3 t1 t2 t3 b tb (i + 1) ti' e te)] → Stay s.heap h' [x, dx] → Q (.int (ks.getD i.toNat 0) t) { s with heap := h', toks := tk }) →
        (¬ i < e → ∀ (ex d : Addr) (u1 u2 uw ui : NTok) (g₂ h' : Heap) (tk : Nat), Fr h₀ L g₂ m → RaisedD base g₂ (env :: outer) ex 58 d [(d, exD w (Str.ofString "unexpected end") u1 uw i u2 ui), (x, instObj 188 dx), (dx, curD h1 h2 h3 t1 t2 t3 b tb i ti e te)] h' → g₂.UpToSlots h' → Stay s.heap g₂ [x, dx] → E (.ref ex) { s with heap := h', toks := tk }) → G) := by
  k_fill
  unfold CallAt
  dsimp only
  intro mean mg mb dp un gd cn cs a ccd cl outer A₀ base h₀ L m s Q E iB iF iX iN iT ik id iu hret hexc
  refine wpAny_call ?_
  k_dflt cell_enter
  k_steps
  · exact hexc (by omega) _ _ _ _ _ _ _ _ _ (by assumption) (by assumption) (by assumption) (by assumption)
  · exact hret (by omega) _ _ _ _ (by k_asm) (by k_asm) (Stay.mk (by assumption) (by assumption))
end
section
open PySem PySem.W PySem.Spec PySem.Calls PyProof.Rows
theorem fresh_CUns : True := by w_top off; exact True.intro
local macro_rules | `(tactic| walk_at "isTrue BoolOp") => `(tactic| ((with_reducible show wpAny _ _ (PySem.isTrue (Expr.BoolOp _ [_, _] _) _ _) (fun _ _ => ite _ _ _) _ _); refine Halt.out ?_))
theorem unsigned_spec (w : World) (x dx : Addr) (b : Array UInt8) (ks : List Int) (i e bits : Int) (h1 h2 h3 : Int) (t1 t2 t3 tb ti te tbi : NTok) (hn : @Ne Nat x dx) (hb : KBw.bInts b = ks) (hz : ks.length ≤ 16777216) (hi : 0 ≤ i) (hie : i ≤ e) (he : e ≤ ks.length) (hb1 : 1 ≤ bits) (hb2 : bits ≤ 70) :
    CallAt PySem.Challenge.rw_nm0117_01.row.prog w (NmTop.hd.heap_1 w.params) NmTop.hd.view_1 (looseW NmTop.hd.view_1 [Str.ofString "text_of"]) 15 60 136
      [(x, instObj 188 dx), (dx, curD h1 h2 h3 t1 t2 t3 b tb i ti e te)] [.ref x, .int bits tbi]
      (fun base outer h₀ env L m s Q E G =>
        (∀ (v n j : Int) (t ti' : NTok) (h' : Heap) (tk : Nat), uGo bits (cut ks i e) 0 0 = .val v n → j = i + n → Fr h₀ L h' m → News h₀ L h' [(x, instObj 188 dx), (dx, curD h1 h2 h3 t1 t2 t3 b tb j ti' e te)] → Stay s.heap h' [x, dx] → Q (.int v t) { s with heap := h', toks := tk }) →
        (∀ (why : NStr) (at_ ai j : Int), uGo bits (cut ks i e) 0 0 = .fault why at_ → ai = i + at_ → ∀ (ex d : Addr) (u1 u2 uw ui tj : NTok) (g₂ h' : Heap) (tk : Nat), Fr h₀ L g₂ m → RaisedD base g₂ (env :: outer) ex 58 d [(d, exD w why u1 uw ai u2 ui), (x, instObj 188 dx), (dx, curD h1 h2 h3 t1 t2 t3 b tb j tj e te)] h' → g₂.UpToSlots h' → Stay s.heap g₂ [x, dx] → E (.ref ex) { s with heap := h', toks := tk }) → G) := by
  k_fill
  unfold CallAt
  dsimp only
  intro mean mg mb dp un gd cn cs a ccd cl outer A₀ base h₀ L m s Q E iB iF iX iN iT ik id iu hret hexc
  refine wpAny_call ?_
  k_dflt cell_enter
  k_steps
  rename (Fr _ _ _ _) => F9
  rename (News _ _ _ _) => N9
  unfold Halt
  refine' ksw_while (σ := USt) (fun c => [(x, instObj 188 dx), (dx, curD h1 h2 h3 t1 t2 t3 b tb c.at_ c.ta e te)]) (fun c => [(Str.ofString "found", .int c.f c.tf), (Str.ofString "shift", .int c.sh c.ts)]) (fun _ => True) [Str.ofString "found", Str.ofString "shift", Str.ofString "octet", Str.ofString "left"]
    (fun c => c.at_ = i + (c.k : Int) ∧ c.at_ ≤ e ∧ c.sh = 7 * (c.k : Int) ∧ c.sh < bits ∧ uGo bits (cut ks i e) 0 0 = uGo bits ((cut ks i e).drop c.k) c.k c.f) (fun c => ks.length - c.k) ⟨0, 0, i, 0, _, _, _⟩ F9 ?N ?T0 ?H0 ?P0 ?turn ?pE
  case N => exact cb_drop N9 (by refine' List.forall_mem_cons.mpr ⟨?_, List.forall_mem_cons.mpr ⟨?_, List.forall_mem_nil _⟩⟩ <;> k_dflt k_mem)
  case T0 => trivial
  case H0 => refine' List.forall_mem_cons.mpr ⟨?_, List.forall_mem_cons.mpr ⟨?_, List.forall_mem_nil _⟩⟩ <;> rfl
  case P0 => exact ⟨by dsimp only; omega, hie, rfl, by dsimp only; omega, rfl⟩
  case pE => passes_own
  case turn =>
    rintro ⟨k, f, at_, sh, tf, ts, ta⟩ u h9 tk9 - hP F1 N1
    dsimp only at hP N1 ⊢
    dsimp only [kstB] at F1
    obtain ⟨hP0, hP1, hP2, hP4, hP3⟩ := hP
    have hd : at_ < e → (cut ks i e).drop k = ks.getD at_.toNat 0 :: (cut ks i e).drop (k + 1) := fun q => by rw [hP0] at q ⊢; exact cut_drop hi he q
    have hdn : ¬ at_ < e → (cut ks i e).drop k = [] := fun q => by rw [hP0] at q; exact cut_end hi q
    k_steps
    all_goals try
      first
      | (refine' hexc _ _ _ _ (hP3.trans ?z_hv) ?z_ha _ _ _ _ _ _ _ _ _ _ ?z_F ?z_R ?z_U ?z_S
         case z_R => assumption
         case z_F => assumption
         case z_U => assumption
         case z_S => assumption
         case z_hv => first
           | (rw [hdn (by omega)]; rfl)
           | (rw [hd (by omega)]; refine uGo_big hP2 ?q1 ?q2; (case q1 => omega); (case q2 => assumption))
           | (rw [hd (by omega)]; refine uGo_long hP2 ?q1 ?q2 ?q3; (case q1 => (rintro ⟨z1, z2⟩; first | exact z2 (by assumption) | (clear z2; omega))); (case q2 => omega); (case q3 => omega))
         case z_ha => omega)
    unfold Halt
    refine join_if (bits - sh < 7 ∧ (ks.getD at_.toNat 0 % 128).fdiv (2 ^ (bits - sh).toNat) ≠ 0) ?c1 ?y1 ?n1
    case c1 =>
      k_steps
      all_goals first
        | exact JoinP.yes ⟨by assumption, by assumption⟩
        | exact JoinP.no (fun z => absurd z.1 (by assumption))
        | exact JoinP.no (fun z => absurd z.2 (by assumption))
        | exact JoinP.no (fun z => z.2 (by assumption))
    case y1 =>
      intro tk8 c8
      k_steps
      all_goals first
        | (refine' hexc _ _ _ _ (hP3.trans ?z_hv) ?z_ha _ _ _ _ _ _ _ _ _ _ ?z_F ?z_R ?z_U ?z_S
           case z_R => assumption
           case z_F => assumption
           case z_U => assumption
           case z_S => assumption
           case z_hv => first
             | (rw [hdn (by omega)]; rfl)
             | (rw [hd (by omega)]; refine uGo_big hP2 ?q1 ?q2; (case q1 => exact c8.1); (case q2 => exact c8.2))
             | (rw [hd (by omega)]; refine uGo_long hP2 ?q1 ?q2 ?q3; (case q1 => (rintro ⟨z1, z2⟩; first | exact z2 (by assumption) | (clear z2; omega))); (case q2 => omega); (case q3 => omega))
           case z_ha => omega)
    case n1 =>
      intro tk8 c8
      k_steps
      unfold Halt
      refine join_if (bits - sh ≤ 7 ∧ 128 ≤ ks.getD at_.toNat 0) ?c2 ?y2 ?n2
      case c2 =>
        k_steps
        all_goals first
          | exact JoinP.yes ⟨by assumption, by assumption⟩
          | exact JoinP.no (fun z => absurd z.1 (by assumption))
          | exact JoinP.no (fun z => absurd z.2 (by assumption))
      case y2 =>
        intro tk7 c7
        k_steps
        all_goals first
          | (refine' hexc _ _ _ _ (hP3.trans ?z_hv) ?z_ha _ _ _ _ _ _ _ _ _ _ ?z_F ?z_R ?z_U ?z_S
             case z_R => assumption
             case z_F => assumption
             case z_U => assumption
             case z_S => assumption
             case z_hv => first
               | (rw [hdn (by omega)]; rfl)
               | (rw [hd (by omega)]; refine uGo_big hP2 ?q1 ?q2; (case q1 => omega); (case q2 => assumption))
               | (rw [hd (by omega)]; refine uGo_long hP2 ?q1 ?q2 ?q3; (case q1 => exact c8); (case q2 => exact c7.1); (case q3 => exact c7.2))
             case z_ha => omega)
      case n2 =>
        intro tk7 c7
        k_steps
        all_goals first
          | (refine' hret _ _ _ _ _ _ _ (hP3.trans ?z_hv) ?z_hj ?z_F ?z_N ?z_S
             case z_F => k_asm
             case z_N => k_asm
             case z_hv => (rw [hd (by omega)]; refine uGo_val hP2 ?q1 ?q2; (case q1 => exact c8); (case q2 => omega))
             case z_hj => omega
             case z_S => exact Stay.mk (by assumption) (by assumption))
          | (refine' ksw_end (⟨k + 1, f + ks.getD at_.toNat 0 % 128 * 2 ^ sh.toNat, at_ + 1, sh + 7, _, _, _⟩ : USt) ?z_F ?z_N ?z_hn ?z_hf ?z_hk ?z_hr ?z_hp ?z_hm
             case z_F => k_asm
             case z_N => k_asm
             case z_hn => (refine' List.forall_mem_cons.mpr ⟨?_, List.forall_mem_cons.mpr ⟨?_, List.forall_mem_nil _⟩⟩ <;> k_dflt k_mem)
             case z_hf => trivial
             case z_hk => (refine' List.forall_mem_cons.mpr ⟨?_, List.forall_mem_cons.mpr ⟨?_, List.forall_mem_nil _⟩⟩ <;> with_unfolding_all rfl)
             case z_hr => ksw_same
             case z_hp => exact ⟨by dsimp only; omega, by dsimp only; omega, by dsimp only; omega, by dsimp only; omega, hP3.trans (by rw [hd (by omega)]; refine uGo_next hP2 ?q1 ?q2 ?q3; (case q1 => exact c8); (case q2 => omega); (case q3 => omega))⟩
             case z_hm => (dsimp only; omega))
end
section
open PySem PySem.W PySem.Spec PySem.Calls PyProof.Rows
theorem fresh_CSig : True := by w_top off; exact True.intro
local macro_rules | `(tactic| walk_at "isTrue BoolOp") => `(tactic| ((with_reducible show wpAny _ _ (PySem.isTrue (Expr.BoolOp _ [_, _] _) _ _) (fun _ _ => ite _ _ _) _ _); refine Halt.out ?_))
local macro_rules | `(tactic| walk_at "binaryOp RShift int int") => `(tactic| (refine rshift_int ?_ ?_; omega))
local macro_rules | `(tactic| walk_at "binaryOp LShift int int") => `(tactic| (refine lshift_int_small ?_ ?_ ?_ ?_; omega; omega; (have zz := Int.emod_nonneg (0:Int) (show (128:Int) ≠ 0 by decide); omega)))
theorem signed_spec (w : World) (x dx : Addr) (b : Array UInt8) (ks : List Int) (i e bits : Int) (h1 h2 h3 : Int) (t1 t2 t3 tb ti te tbi : NTok) (hn : @Ne Nat x dx) (hb : KBw.bInts b = ks) (hz : ks.length ≤ 16777216) (hi : 0 ≤ i) (hie : i ≤ e) (he : e ≤ ks.length) (hb1 : 1 ≤ bits) (hb2 : bits ≤ 70) :
    CallAt PySem.Challenge.rw_nm0117_01.row.prog w (NmTop.hd.heap_1 w.params) NmTop.hd.view_1 (looseW NmTop.hd.view_1 [Str.ofString "text_of"]) 15 60 143
      [(x, instObj 188 dx), (dx, curD h1 h2 h3 t1 t2 t3 b tb i ti e te)] [.ref x, .int bits tbi]
      (fun base outer h₀ env L m s Q E G =>
        (∀ (v n j : Int) (t ti' : NTok) (h' : Heap) (tk : Nat), sGo bits (cut ks i e) 0 0 = .val v n → j = i + n → Fr h₀ L h' m → News h₀ L h' [(x, instObj 188 dx), (dx, curD h1 h2 h3 t1 t2 t3 b tb j ti' e te)] → Stay s.heap h' [x, dx] → Q (.int v t) { s with heap := h', toks := tk }) →
        (∀ (why : NStr) (at_ ai j : Int), sGo bits (cut ks i e) 0 0 = .fault why at_ → ai = i + at_ → ∀ (ex d : Addr) (u1 u2 uw ui tj : NTok) (g₂ h' : Heap) (tk : Nat), Fr h₀ L g₂ m → RaisedD base g₂ (env :: outer) ex 58 d [(d, exD w why u1 uw ai u2 ui), (x, instObj 188 dx), (dx, curD h1 h2 h3 t1 t2 t3 b tb j tj e te)] h' → g₂.UpToSlots h' → Stay s.heap g₂ [x, dx] → E (.ref ex) { s with heap := h', toks := tk }) → G) := by
  k_fill
  unfold CallAt
  dsimp only
  intro mean mg mb dp un gd cn cs a ccd cl outer A₀ base h₀ L m s Q E iB iF iX iN iT ik id iu hret hexc
  refine wpAny_call ?_
  k_dflt cell_enter
  k_steps
  rename (Fr _ _ _ _) => F9
  rename (News _ _ _ _) => N9
  unfold Halt
  refine' ksw_while (σ := USt) (fun c => [(x, instObj 188 dx), (dx, curD h1 h2 h3 t1 t2 t3 b tb c.at_ c.ta e te)]) (fun c => [(Str.ofString "found", .int c.f c.tf), (Str.ofString "shift", .int c.sh c.ts)]) (fun _ => True) [Str.ofString "found", Str.ofString "shift", Str.ofString "octet", Str.ofString "left"]
    (fun c => c.at_ = i + (c.k : Int) ∧ c.at_ ≤ e ∧ c.sh = 7 * (c.k : Int) ∧ c.sh < bits ∧ sGo bits (cut ks i e) 0 0 = sGo bits ((cut ks i e).drop c.k) c.k c.f) (fun c => ks.length - c.k) ⟨0, 0, i, 0, _, _, _⟩ F9 ?N ?T0 ?H0 ?P0 ?turn ?pE
  case N => exact cb_drop N9 (by refine' List.forall_mem_cons.mpr ⟨?_, List.forall_mem_cons.mpr ⟨?_, List.forall_mem_nil _⟩⟩ <;> k_dflt k_mem)
  case T0 => trivial
  case H0 => refine' List.forall_mem_cons.mpr ⟨?_, List.forall_mem_cons.mpr ⟨?_, List.forall_mem_nil _⟩⟩ <;> rfl
  case P0 => exact ⟨by dsimp only; omega, hie, rfl, by dsimp only; omega, rfl⟩
  case pE => passes_own
  case turn =>
    rintro ⟨k, f, at_, sh, tf, ts, ta⟩ u h9 tk9 - hP F1 N1
    dsimp only at hP N1 ⊢
    dsimp only [kstB] at F1
    obtain ⟨hP0, hP1, hP2, hP4, hP3⟩ := hP
    have hd : at_ < e → (cut ks i e).drop k = ks.getD at_.toNat 0 :: (cut ks i e).drop (k + 1) := fun q => by rw [hP0] at q ⊢; exact cut_drop hi he q
    have hdn : ¬ at_ < e → (cut ks i e).drop k = [] := fun q => by rw [hP0] at q; exact cut_end hi q
    k_steps
    all_goals try
      first
      | (refine' hexc _ _ _ _ (hP3.trans ?z_hv) ?z_ha _ _ _ _ _ _ _ _ _ _ ?z_F ?z_R ?z_U ?z_S
         case z_R =>
           refine' RaisedD.sub ?r1 ?r2
           case r1 => assumption
           case r2 => (refine' List.forall_mem_cons.mpr ⟨?_, List.forall_mem_cons.mpr ⟨?_, List.forall_mem_cons.mpr ⟨?_, List.forall_mem_nil _⟩⟩⟩ <;> k_dflt k_mem)
         case z_F => assumption
         case z_U => assumption
         case z_S => assumption
         case z_hv => first
           | (rw [hdn (by omega)]; rfl)
           | (rw [hd (by omega)]; refine sGo_big hP2 ?q1 ?q2; (case q1 => omega); (case q2 => assumption))
           | (rw [hd (by omega)]; refine sGo_long hP2 ?q1 ?q2 ?q3; (case q1 => first | exact .inr (by assumption) | exact .inl (by assumption)); (case q2 => omega); (case q3 => omega))
         case z_ha => omega)
    unfold Halt
    rename (Fr _ _ _ _) => F8
    rename (News _ _ _ _) => N8
    refine join_ifH (bits - sh < 7 ∧ (List.any [0, Int.fdiv 127 (2 ^ (bits - sh - 1).toNat)] fun x => x == Int.fdiv (ks.getD at_.toNat 0 % 128) (2 ^ (bits - sh - 1).toNat)) = false) F8 N8 ?c1 ?y1 ?n1
    case c1 =>
      k_steps
      all_goals first
        | exact JoinH.no F8 N8 (fun z => absurd z.1 (by assumption))
        | exact JoinH.yes (by assumption) (cb_drop (by k_asm) (by refine' List.forall_mem_cons.mpr ⟨?_, List.forall_mem_cons.mpr ⟨?_, List.forall_mem_nil _⟩⟩ <;> k_dflt k_mem)) ⟨by assumption, by assumption⟩
        | exact JoinH.no (by assumption) (cb_drop (by k_asm) (by refine' List.forall_mem_cons.mpr ⟨?_, List.forall_mem_cons.mpr ⟨?_, List.forall_mem_nil _⟩⟩ <;> k_dflt k_mem)) (fun z => Bool.noConfusion (z.2.symm.trans (by assumption)))
    case y1 =>
      intro h8 tk8 F7 N7 c8
      clear F8 N8
      k_steps
      all_goals first
        | (refine' hexc _ _ _ _ (hP3.trans ?z_hv) ?z_ha _ _ _ _ _ _ _ _ _ _ ?z_F ?z_R ?z_U ?z_S
           case z_R =>
             refine' RaisedD.sub ?r1 ?r2
             case r1 => assumption
             case r2 => (refine' List.forall_mem_cons.mpr ⟨?_, List.forall_mem_cons.mpr ⟨?_, List.forall_mem_cons.mpr ⟨?_, List.forall_mem_nil _⟩⟩⟩ <;> k_dflt k_mem)
           case z_F => assumption
           case z_U => assumption
           case z_S => assumption
           case z_hv => first
             | (rw [hdn (by omega)]; rfl)
             | (rw [hd (by omega)]; refine sGo_big hP2 ?q1 ?q2; (case q1 => exact c8.1); (case q2 => exact c8.2))
             | (rw [hd (by omega)]; refine sGo_long hP2 ?q1 ?q2 ?q3; (case q1 => first | exact .inr (by assumption) | exact .inl (by assumption)); (case q2 => omega); (case q3 => omega))
           case z_ha => omega)
    case n1 =>
      intro h8 tk8 F7 N7 c8
      have c9 := or_of c8
      clear F8 N8 c8
      k_steps
      unfold Halt
      refine join_if (bits - sh ≤ 7 ∧ 128 ≤ ks.getD at_.toNat 0) ?c2 ?y2 ?n2
      case c2 =>
        k_steps
        all_goals first
          | exact JoinP.yes ⟨by assumption, by assumption⟩
          | exact JoinP.no (fun z => absurd z.1 (by assumption))
          | exact JoinP.no (fun z => absurd z.2 (by assumption))
      case y2 =>
        intro tk7 c7
        k_steps
        all_goals first
          | (refine' hexc _ _ _ _ (hP3.trans ?z_hv) ?z_ha _ _ _ _ _ _ _ _ _ _ ?z_F ?z_R ?z_U ?z_S
             case z_R =>
               refine' RaisedD.sub ?r1 ?r2
               case r1 => assumption
               case r2 => (refine' List.forall_mem_cons.mpr ⟨?_, List.forall_mem_cons.mpr ⟨?_, List.forall_mem_cons.mpr ⟨?_, List.forall_mem_nil _⟩⟩⟩ <;> k_dflt k_mem)
             case z_F => assumption
             case z_U => assumption
             case z_S => assumption
             case z_hv => first
               | (rw [hdn (by omega)]; rfl)
               | (rw [hd (by omega)]; refine sGo_big hP2 ?q1 ?q2; (case q1 => omega); (case q2 => assumption))
               | (rw [hd (by omega)]; refine sGo_long hP2 ?q1 ?q2 ?q3; (case q1 => exact c9); (case q2 => exact c7.1); (case q3 => exact c7.2))
             case z_ha => omega)
      case n2 =>
        intro tk7 c7
        k_steps
        all_goals first
          | (refine' hret _ _ _ _ _ _ _ (hP3.trans ?z_hv) ?z_hj ?z_F ?z_N ?z_S
             case z_F => k_asm
             case z_N =>
               refine' cb_drop ?r1 ?r2
               case r1 => k_asm
               case r2 => (refine' List.forall_mem_cons.mpr ⟨?_, List.forall_mem_cons.mpr ⟨?_, List.forall_mem_nil _⟩⟩ <;> k_dflt k_mem)
             case z_hv => first
               | (rw [hd (by omega)]; refine sGo_neg hP2 ?q1 ?q2 ?q3; (case q1 => exact c9); (case q2 => omega); (case q3 => assumption))
               | (rw [hd (by omega)]; refine sGo_pos hP2 ?q1 ?q2 ?q3; (case q1 => exact c9); (case q2 => omega); (case q3 => assumption))
             case z_hj => omega
             case z_S => exact Stay.mk (by assumption) (by assumption))
          | (refine' ksw_end (⟨k + 1, f + ks.getD at_.toNat 0 % 128 * 2 ^ sh.toNat, at_ + 1, sh + 7, _, _, _⟩ : USt) ?z_F ?z_N ?z_hn ?z_hf ?z_hk ?z_hr ?z_hp ?z_hm
             case z_F => k_asm
             case z_N => k_asm
             case z_hn => (refine' List.forall_mem_cons.mpr ⟨?_, List.forall_mem_cons.mpr ⟨?_, List.forall_mem_nil _⟩⟩ <;> k_dflt k_mem)
             case z_hf => trivial
             case z_hk => (refine' List.forall_mem_cons.mpr ⟨?_, List.forall_mem_cons.mpr ⟨?_, List.forall_mem_nil _⟩⟩ <;> with_unfolding_all rfl)
             case z_hr => ksw_same
             case z_hp => exact ⟨by dsimp only; omega, by dsimp only; omega, by dsimp only; omega, by dsimp only; omega, hP3.trans (by rw [hd (by omega)]; refine sGo_next hP2 ?q1 ?q2 ?q3; (case q1 => exact c9); (case q2 => omega); (case q3 => omega))⟩
             case z_hm => (dsimp only; omega))
end
section
open PySem PySem.W PySem.Spec PySem.Calls PyProof.Rows
/-- a call of the value `f` in the frame of the def that the claim calls -/
abbrev CallAt0 (prog : Program) (w : World) (K : Frag) (p : Program) (loose : List Str) (kd ku : Nat) (f : Addr) (news : NLed) (vs : List NVal)
    (G : Heap → Heap → Env → Addr → (Str → Option Value) → Shared → (Value → Shared → Prop) → (Value → Shared → Prop) → Prop → Prop) : Prop :=
  ∀ (mean : ExcName → Option Value) (mg mb : Str → Option Value) (dp un : Nat) (gd : Option (List Code)) (cn : Str) (cs : Scope) (a : Addr) (ccd : Value) (A₀ : Around) (base h₀ : Heap) (L : Addr) (m : Str → Option Value) (s : Shared) (Q E : Value → Shared → Prop),
    K.In base → Top p loose mean mg mb base → Below A₀ base [] h₀ → Fr h₀ L s.heap m → K.In h₀ → News h₀ L s.heap news → Top p loose mean mg mb h₀ → cs.kind = .function → dp + kd < recursionLimit → un + ku < cLine →
    G base h₀ (envX cn cs L a ccd []) L m s Q E (wpAny (model prog w) (ktrTop dp un gd cn cs L a ccd [] []) (call (.ref f) vs) Q E s)
end
section
open PySem PySem.W PySem.Spec PySem.Calls PyProof.Rows
/-- the state behind a loop -/
def WEnd {σ : Type} (h₀ : Heap) (L : Addr) (s : Shared) (Led : σ → NLed) (ps : σ → List (Str × Value)) (stored : List Str) (m₀ : Str → Option Value) (P' : σ → Prop) (f : Flow) (s' : Shared) : Prop :=
  f = .next ∧ ∃ (c : σ) (u : Str → Option Value) (h : Heap) (tk : Nat), s' = { s with heap := h, toks := tk } ∧ P' c ∧ Fr h₀ L h (kstB (fun z => if stored.contains z then u z else m₀ z) (ps c)) ∧ News h₀ L h (Led c)
theorem while_to {σ : Type} {prog : Program} {w : World} {A : Around} {E : Value → Shared → Prop} {s : Shared} {h₀ : Heap} {L : Addr} {env : Env} {Q : Flow → Shared → Prop} {test : Expr} {body : List Stmt} {pos : Pos} {m₀ : Str → Option Value} (Led : σ → NLed) (ps : σ → List (Str × Value)) (stored : List Str) (P P' : σ → Prop) (μ : σ → Nat) (c₀ : σ)
    (F : Fr h₀ L s.heap m₀) (N : News h₀ L s.heap (Led c₀)) (hk : ∀ p ∈ ps c₀, m₀ p.1 = some p.2) (hp : P c₀)
    (turn : ∀ (c : σ) (u : Str → Option Value) h tk, P c → Fr h₀ L h (kstB (fun z => if stored.contains z then u z else m₀ z) (ps c)) → News h₀ L h (Led c) →
      wpAny (model prog w) A (isTrue test env (eval test env)) (fun b s₂ =>
        if b = true then wpAny (model prog w) A (execs body env) (KswPost h₀ L s Led ps (fun _ => True) stored m₀ P μ (WEnd h₀ L s Led ps stored m₀ P') c) E s₂ else WEnd h₀ L s Led ps stored m₀ P' .next s₂) E { s with heap := h, toks := tk })
    (cont : ∀ (c : σ) (u : Str → Option Value) h tk, P' c → Fr h₀ L h (kstB (fun z => if stored.contains z then u z else m₀ z) (ps c)) → News h₀ L h (Led c) → Q .next { s with heap := h, toks := tk })
    (hE : PassesOwn (model prog w) A env E) :
    wpAny (model prog w) A (exec (.While test body [] pos) env) Q E s :=
  wpAny_mono (ksw_while Led ps (fun _ => True) stored P μ c₀ F N trivial hk hp (fun c u h tk _ => turn c u h tk) hE) (fun f s' z => by
    obtain ⟨rfl, c, u, h, tk, rfl, p, F', N'⟩ := z
    exact cont c u h tk p F' N') fun _ _ z => z
/-- the groups that the law reads: how many, and whether the last one says more -/
def dRun (most : Int) : List Int → Nat → Bool → Nat × Bool
  | [], k, mr => (k, mr)
  | o :: r, k, mr => if mr = true ∧ (k : Int) < most then dRun most r (k + 1) (decide (128 ≤ o)) else (k, mr)
theorem dRun_off {most : Int} {l : List Int} {k : Nat} {mr : Bool} (h : mr = false ∨ ¬ (k : Int) < most ∨ l = []) : dRun most l k mr = (k, mr) := by
  cases l with
  | nil => rfl
  | cons o r =>
    rw [dRun, if_neg]
    rintro ⟨a, b⟩
    rcases h with h | h | h
    · rw [h] at a; cases a
    · exact h b
    · cases h
theorem dRun_on {most : Int} {o : Int} {r : List Int} {k : Nat} (h : (k : Int) < most) : dRun most (o :: r) k true = dRun most r (k + 1) (decide (128 ≤ o)) := by
  rw [dRun, if_pos ⟨rfl, h⟩]
structure DSt where
  ys : List Value
  k : Nat
  mr : Bool
end
section
open PySem PySem.W PySem.Spec PySem.Calls PyProof.Rows
section
variable {prog : Program} {w : World} {A : Around} {E : Value → Shared → Prop} {s : Shared} {h₀ : Heap} {L : Addr} {m : Str → Option Value} {news news' : NLed} {l : Addr} {ys : List Value} {n : Nat}
theorem led_list (N : News h₀ L s.heap news) (hm : (l, listOf ys.toArray n) ∈ news) : s.heap.IsList l ys.toArray := ⟨_, (N _ hm).1, rfl, n, rfl⟩
theorem lenL {Q : Value → Shared → Prop} (N : News h₀ L s.heap news) (hm : (l, listOf ys.toArray n) ∈ news) (hz : ys.length ≤ 16384) (h : Q (.int (ys.length : Nat) (s.toks + 1)) { s with toks := s.toks + 1 + 1 }) :
    wpAny (model prog w) A (call (.builtin "len") [.ref l]) Q E s :=
  kun_lenL (led_list N hm) (by rw [List.size_toArray]) (by omega) h
theorem appL {x : Value} {Q : Value → Shared → Prop} (F : Fr h₀ L s.heap m) (N : News h₀ L s.heap news) (U : Upd l (listOf ys.toArray ys.length) (listOf (ys ++ [x]).toArray (ys ++ [x]).length) news news') (hz : ys.length ≤ 16384)
    (h : ∀ h', Fr h₀ L h' m → News h₀ L h' news' → Q .none { s with heap := h' }) : wpAny (model prog w) A (call (.builtin "list.append") [.ref l, x]) Q E s := by
  refine append_K F N (its := ys.toArray) (n := ys.length) ?_ h (by rw [List.size_toArray, sizeLine_eq]; omega)
  rw [List.push_toArray]
  rw [List.length_append] at U
  exact U
end
end
section
open PySem PySem.W PySem.Spec PySem.Calls PyProof.Rows
theorem fd7 (a : Int) : a.fdiv 7 = a / 7 := Int.fdiv_eq_ediv_of_nonneg _ (by decide)
theorem intsSnoc {f : Int → Int} {t : Tok} {ys : List Value} {ks : List Int} {k : Nat} (h : IntsAre ys ((ks.take k).map f)) (q : k < ks.length) : IntsAre (ys ++ [.int (f (ks.getD k 0)) t]) ((ks.take (k + 1)).map f) := by
  rw [List.take_succ_eq_append_getElem q, List.map_append]
  have e : ks.getD k 0 = ks[k] := by rw [List.getD_eq_getElem?_getD, List.getElem?_eq_getElem q]; rfl
  rw [e]
  exact IntsAre.append h (.cons _ _ .nil)
theorem dStep {most : Int} {ks : List Int} {k : Nat} (hk : k < ks.length) (hm : (k : Int) < most) : dRun most (ks.drop k) k true = dRun most (ks.drop (k + 1)) (k + 1) (decide (128 ≤ ks.getD k 0)) := by
  rw [getD_drop hk, dRun_on hm]
end
section
open PySem PySem.W PySem.Spec PySem.Calls PyProof.Rows
/-- the tuple of a reading -/
abbrev resV : Res → NTok → NTok → NTok → List NVal
  | .fault why at_, t1, t2, _ => [.str why t1, .int at_ t2]
  | .val v n, t1, t2, t3 => [.str "" t1, .int v t2, .int n t3]
/-- the number of the first k groups by powers of 128 -/
abbrev gsum (ks : List Int) (k : Nat) : Int := List.sum (List.map (fun j : Int => List.getD (List.map (fun o => Int.fmod o 128) (List.take k ks)) j.toNat 0 * 128 ^ j.toNat) (rangeKs 0 (Int.toNat ((k : Nat) - 0 : Int))))
def dueVal (sg : Bool) (ks : List Int) (k : Nat) : Int := if sg = true ∧ 64 ≤ List.getD (List.map (fun o => Int.fmod o 128) (List.take k ks)) (Int.toNat (-1 + ((List.map (fun o => Int.fmod o 128) (List.take k ks)).length : Nat))) 0 then gsum ks k - 128 ^ Int.toNat (k : Int) else gsum ks k
def dLo (sg : Bool) (bits : Int) : Int := if sg = true then - 2 ^ Int.toNat (bits - 1) else 0
def dHi (sg : Bool) (bits : Int) : Int := if sg = true then 2 ^ Int.toNat (bits - 1) else 2 ^ Int.toNat bits
/-- what the law holds to be due -/
def dueR (sg : Bool) (bits : Int) (ks : List Int) : Res :=
  let q := dRun ((bits + 6).fdiv 7) ks 0 true
  if q.2 = true ∧ (q.1 : Int) < (bits + 6).fdiv 7 then .fault wEnd ks.length
  else if dueVal sg ks q.1 < dLo sg bits ∨ dHi sg bits ≤ dueVal sg ks q.1 then .fault wBig 0
  else if q.2 = true then .fault wLong 0
  else .val (dueVal sg ks q.1) q.1
section
variable {sg : Bool} {bits v n : Int} {ks : List Int} {k : Nat} {mr : Bool} (h : dRun ((bits + 6).fdiv 7) ks 0 true = (k, mr))
include h
theorem due_short (h1 : mr = true) (h2 : (k : Int) < (bits + 6).fdiv 7) (hn : n = ks.length) : dueR sg bits ks = .fault wEnd n := by
  simp only [dueR, h]
  rw [if_pos ⟨h1, h2⟩, hn]
theorem due_big (hb : mr = false ∨ ¬ (k : Int) < (bits + 6).fdiv 7) (hv : dueVal sg ks k = v) (hl : v < dLo sg bits ∨ dHi sg bits ≤ v) : dueR sg bits ks = .fault wBig 0 := by
  simp only [dueR, h]
  rw [if_neg (fun z => hb.elim (fun y => by rw [y] at z; exact absurd z.1 (by decide)) fun y => y z.2), hv, if_pos hl]
theorem due_long (hb : mr = false ∨ ¬ (k : Int) < (bits + 6).fdiv 7) (hv : dueVal sg ks k = v) (hl : ¬ v < dLo sg bits) (hh : ¬ dHi sg bits ≤ v) (hm : mr = true) : dueR sg bits ks = .fault wLong 0 := by
  simp only [dueR, h]
  rw [if_neg (fun z => hb.elim (fun y => by rw [y] at z; exact absurd z.1 (by decide)) fun y => y z.2), hv, if_neg (fun z => z.elim hl hh), if_pos hm]
theorem due_val (hv : dueVal sg ks k = v) (hl : ¬ v < dLo sg bits) (hh : ¬ dHi sg bits ≤ v) (hm : mr = false) : dueR sg bits ks = .val v k := by
  simp only [dueR, h]
  rw [if_neg (fun z => by rw [hm] at z; exact absurd z.1 (by decide)), hv, if_neg (fun z => z.elim hl hh), if_neg (by rw [hm]; decide)]
end
theorem gs_bd (l : List Int) (i : Nat) : 0 ≤ List.getD (List.map (fun o => Int.fmod o 128) l) i 0 ∧ List.getD (List.map (fun o => Int.fmod o 128) l) i 0 < 128 := by
  rw [List.getD_eq_getElem?_getD, List.getElem?_map]
  cases l[i]? with
  | none => exact ⟨by decide, by decide⟩
  | some o => exact ⟨Int.fmod_nonneg_of_pos o (by decide), Int.fmod_lt_of_pos o (by decide)⟩
theorem gs_mul {l : List Int} {i : Nat} {b : Int} : IntMulOk (List.getD (List.map (fun o => Int.fmod o 128) l) i 0) b :=
  IntMulOk.of_left (intBits_le_64 (by have := (gs_bd l i).1; omega) (by have := (gs_bd l i).2; omega))
end
section
local macro_rules | `(tactic| walk_at "idle line") => `(tactic| fail)
local macro_rules | `(tactic| walk_at "idle line") => `(tactic| fail)
open PySem PySem.W PySem.Spec PySem.Calls PyProof.Rows
theorem fresh_CTold : True := by w_top off; exact True.intro
local macro_rules | `(tactic| tb_start) => `(tactic| (refine' code_defT ?k1 ?k2 ?k3 ?k4 ?k5 ?kA ?k6 ?k7 ?k8 ?k9 ?kB ?_ ?cK ?c2 ?c3 ?c4 ?c5; (case kA => exact rfl); (case cK => first | assumption | exact rfl); (case k1 | k2 | k3 | k4 | k5 => k_asm); (case k6 | k7 => k_is); (case k8 => ktr_room); (case k9 => exact BindsTo.of_eq rfl); (case c5 => decide); (case kB => exact locs rfl); (case c2 | c3 | c4 => exact rfl); k_whole; intro g' L' h' FG' F' N' B' X' T' D' kG'; (try dsimp only); (try k_lift B'); (try k_fold)))
local macro_rules | `(tactic| walk_at "noteFrame ref") => `(tactic| (k_here; (rename RaisedD _ _ _ _ _ _ _ _ => rdX); k_dflt (refine' caughtD ?R ?F ?K ?U ?XB ?TB ?D ?T0 ?ex ?q ?_; (case R | F | K | U | XB | TB | D => assumption); (case T0 => first | assumption | exact KtsTurn.refl); (case ex => k_is); (case q => kts_isx); k_whole); intro oe' h' g' tk' xo' T' F' N' K' X' P' D'; (try k_lift K'); (try k_sweep)))
local macro_rules | `(tactic| walk_at "getAttr ref") => `(tactic| (k_here; k_dflt (refine' getX ?k1 ?k2 ?k3 ?k4 ?k5 ?k6 ?k7 ?k71 ?k72 ?k8 ?k9 ?k10 ?k11 ?k12 ?_; (case k4 => assumption); (case k3 | k1 | k2 => k_asm); (case k5 | k6 => k_mem); (case k7 | k71 | k72 | k8 | k9 | k10 => k_is); (case k11 => k_get); (case k12 => k_handed); k_whole)))
theorem Halt.put {P : Prop} (h : P) : Halt P := h
local macro_rules | `(tactic| walk_at "call ref") => `(tactic| ((with_reducible first | show wpAny _ _ (call (Value.ref 136) _) _ _ _ | show wpAny _ _ (call (Value.ref 143) _) _ _ _); refine Halt.out ?_))
def goR (sg : Bool) (bits : Int) (ks : List Int) : Res := if sg then sGo bits ks 0 0 else uGo bits ks 0 0
theorem told_spec (w : World) (x dx : Addr) (b : Array UInt8) (ks : List Int) (i e bits : Int) (sg : Bool) (h1 h2 h3 : Int) (t1 t2 t3 tb ti te tbi : NTok) (hn : @Ne Nat x dx) (hb : KBw.bInts b = ks) (hz : ks.length ≤ 16777216) (hi : 0 ≤ i) (hie : i ≤ e) (he : e ≤ ks.length) (hb1 : 1 ≤ bits) (hb2 : bits ≤ 70) :
    CallAt0 PySem.Challenge.rw_nm0117_01.row.prog w (NmTop.hd.heap_1 w.params) NmTop.hd.view_1 (looseW NmTop.hd.view_1 [Str.ofString "text_of"]) 20 80 245
      [(x, instObj 188 dx), (dx, curD h1 h2 h3 t1 t2 t3 b tb i ti e te)] [.ref x, .int bits tbi, .bool sg]
      (fun base h₀ env L m s Q E G =>
        (∀ (tt : Addr) (u1 u2 u3 : NTok) (h' : Heap) (tk : Nat), Fr h₀ L h' m → News h₀ L h' [(tt, tupO (resV (goR sg bits (cut ks i e)) u1 u2 u3))] → Stay s.heap h' [L, x, dx] → Q (.ref tt) { s with heap := h', toks := tk }) → G) := by
  k_fill
  unfold CallAt0
  dsimp only
  intro mean mg mb dp un gd cn cs a ccd A₀ base h₀ L m s Q E iXB iTB iB iF iX iN iT ik id iu hret
  refine wpAny_call ?_
  k_dflt tb_start
  k_steps
  all_goals try
    refine Halt.put ?_
    first
      | (k_here; (with_reducible show wpAny _ _ (call (Value.ref 136) [Value.ref _, Value.int _ _]) _ _ _); k_dflt (refine' unsigned_spec _ _ _ _ _ _ _ _ _ _ _ _ _ _ _ _ _ _ ?un_k1 ?un_k2 ?un_k3 ?un_k4 ?un_k5 ?un_k6 ?un_k7 ?un_k8 _ _ _ _ _ _ _ _ _ _ _ _ _ _ _ _ _ _ _ _ ?un_kB ?un_kF ?un_kX ?un_kN ?un_kT ?un_kk ?un_kd ?un_ku ?_ ?_; (case un_kN | un_kB | un_kF | un_kX | un_kT => k_asm); (case un_kk => first | assumption | exact rfl); (case un_kd => ktr_room); (case un_ku => ktr_units); (case un_k1 | un_k2 | un_k3 | un_k4 | un_k5 | un_k6 | un_k7 | un_k8 => assumption)))
      | (k_here; (with_reducible show wpAny _ _ (call (Value.ref 143) [Value.ref _, Value.int _ _]) _ _ _); k_dflt (refine' signed_spec _ _ _ _ _ _ _ _ _ _ _ _ _ _ _ _ _ _ ?si_k1 ?si_k2 ?si_k3 ?si_k4 ?si_k5 ?si_k6 ?si_k7 ?si_k8 _ _ _ _ _ _ _ _ _ _ _ _ _ _ _ _ _ _ _ _ ?si_kB ?si_kF ?si_kX ?si_kN ?si_kT ?si_kk ?si_kd ?si_ku ?_ ?_; (case si_kN | si_kB | si_kF | si_kX | si_kT => k_asm); (case si_kk => first | assumption | exact rfl); (case si_kd => ktr_room); (case si_ku => ktr_units); (case si_k1 | si_k2 | si_k3 | si_k4 | si_k5 | si_k6 | si_k7 | si_k8 => assumption)))
  all_goals try k_steps
  all_goals
    first
      | (rename (_ = Res.val _ _) => z_h
         rename (_ = i + _) => z_j)
      | (rename (_ = Res.fault _ _) => z_h
         rename (_ = i + _) => z_j)
    rename (sg = _) => z_s
    have z_r : goR sg bits (cut ks i e) = _ := (by rw [z_s]; rfl : goR sg bits (cut ks i e) = _).trans z_h
    rw [z_r] at hret
    have z_e := (show ∀ x y z : Int, x = y + z → z = x - y from fun x y z q => by omega) _ _ _ z_j
    rw [z_e] at hret
    refine' hret _ _ _ _ _ _ ?z_F (cb_drop ?z_N ?z_N2) ?z_S
    case z_F => assumption
    case z_N => assumption
    case z_N2 => (refine' List.forall_mem_cons.mpr ⟨?_, List.forall_mem_nil _⟩ <;> k_dflt k_mem)
    case z_S =>
      rename (GSub s.heap _ (List.map _ _)) => z_G
      first | exact GSub.turn z_G (by assumption) (by assumption) | exact GSub.turn (cn := cn) (cs := cs) (a := a) (ccd := ccd) z_G KtsTurn.refl (by assumption)
    all_goals exact (0 : Nat)
end
section
open PySem PySem.W PySem.Spec PySem.Calls PyProof.Rows
theorem fresh_CNext : True := by w_top off; exact True.intro
theorem next_spec (w : World) (pen l : Addr) (at_ : Int) (t : NTok) (n : Nat) (vs : List NVal) (ns : List Int) :
    CallAt PySem.Challenge.rw_nm0117_01.row.prog w (NmTop.hd.heap_1 w.params) NmTop.hd.view_1 (looseW NmTop.hd.view_1 [Str.ofString "text_of"]) 5 20 221
      [(pen, listOf [.ref l, .int at_ t].toArray n)] [.ref pen]
      (fun base _ h₀ _ L m s Q _ G => base.IsList l vs.toArray → IntsAre vs ns → ns.length < 2 ^ 62 → 0 ≤ at_ → at_ < 100 →
        (∀ (v : Int) (t t' : NTok) (n' : Nat) (h' : Heap) (tk : Nat), Fr h₀ L h' m → News h₀ L h' [(pen, listOf [.ref l, .int (at_ + 1) t'].toArray n')] → Stay s.heap h' [pen] → Q (.int v t) { s with heap := h', toks := tk }) → G) := by
  k_fill
  unfold CallAt
  dsimp only
  intros
  rename_i hret
  refine wpAny_call ?_
  k_dflt cell_enter
  k_steps
  all_goals exact hret _ _ _ _ _ _ (by k_asm) (by k_asm) (Stay.mk (by assumption) (by assumption))
end
section
open PySem PySem.W PySem.Spec PySem.Calls PyProof.Rows
theorem fresh_CNum : True := by w_top off; exact True.intro
local macro_rules | `(tactic| walk_at "binaryOp FloorDiv int int") => `(tactic| (refine floordiv_int (by decide) ?_ (Or.inl (PyProof.noPylong_small (by decide)))))
local macro_rules | `(tactic| walk_at "binaryOp Pow int int") => `(tactic| (refine pow_int_small ?_ ?_ ?_ ?_; omega; omega; decide))
theorem number_spec (w : World) (x bits : Int) (sg : Bool) (tx tb : NTok) (hb1 : 1 ≤ bits) (hb2 : bits ≤ 70) :
    CallAt PySem.Challenge.rw_nm0117_01.row.prog w (NmTop.hd.heap_1 w.params) NmTop.hd.view_1 (looseW NmTop.hd.view_1 [Str.ofString "text_of"]) 5 20 228
      [] [.int x tx, .int bits tb, .bool sg]
      (fun base _ h₀ _ L m s Q _ G =>
        (∀ (v : Int) (t : NTok) (h' : Heap) (tk : Nat), Fr h₀ L h' m → Stay s.heap h' [] → Q (.int v t) { s with heap := h', toks := tk }) → G) := by
  k_fill
  unfold CallAt
  dsimp only
  intro mean mg mb dp un gd cn cs a ccd cl outer A₀ base h₀ L m s Q E iB iF iX iN iT ik id iu hret
  refine wpAny_call ?_
  k_dflt cell_enter
  cases sg
  all_goals k_steps
  all_goals exact hret _ _ _ _ (by assumption) (Stay.mk (by assumption) (by assumption))
end
section
local macro_rules | `(tactic| walk_at "idle line") => `(tactic| fail)
open PySem PySem.W PySem.Spec PySem.Calls PyProof.Rows
theorem fresh_CGrp : True := by w_top off; exact True.intro
local macro_rules | `(tactic| tb_rel) => `(tactic| (refine' code_cellG ?k1 ?k2 ?k3 ?k4 ?k5 ?kA ?kF ?kK ?k6 ?k7 ?k8 ?k9 ?kB ?kD ?_ ?c2 ?c3 ?c4; (case kA | kF => exact rfl); (case kK => first | assumption | exact rfl); (case k1 | k2 | k3 | k4 | k5 => k_asm); (case k6 | k7 => k_is); (case k8 => ktr_room); (case k9 => exact BindsTo.of_eq rfl); (case kB => exact rfl); (case kD => decide +kernel); (case c2 | c3 | c4 => exact rfl); k_whole; intro g' L' h' tk' cells' FG' F' N' Y' B' X' T' l1 kG'; (try k_lt l1); k_cells Y'; (try simp only [List.cons_append, List.nil_append] at N'); (try dsimp only); (try k_lift B'); (try k_fold)))
theorem pow128_ne (n : Nat) : ((128 : Int) ^ n) ≠ 0 := by
  have : (0 : Int) < 128 ^ n := Int.pow_pos (by decide)
  omega
theorem pow128_log {n : Nat} (h : n ≤ 1000) : ((128 : Int) ^ n).natAbs.log2 < 9000 := by
  have e : ((128 : Int) ^ n).natAbs = 2 ^ (7 * n) := by
    rw [Int.natAbs_pow, Nat.pow_mul]; rfl
  rw [e, Nat.log2_two_pow]; omega
theorem fdiv128 {prog : Program} {w : World} {A : Around} {E : Value → Shared → Prop} {s : Shared} {a : Int} {n : Nat} {t u : Tok} {Q : Value → Shared → Prop} (hn : n ≤ 1000) (h : Q (.int (a.fdiv (128 ^ n)) s.toks) { s with toks := s.toks + 1 }) :
    wpAny (model prog w) A (binaryOp .FloorDiv (.int a t) (.int (128 ^ n) u)) Q E s :=
  floordiv_int (pow128_ne n) h (.inl (PyProof.noPylong_of_log2 (pow128_log hn)))
local macro_rules | `(tactic| walk_at "binaryOp Pow int int") => `(tactic| (refine pow_int_small ?_ ?_ ?_ ?_; ((try (rename (_ ≠ _ ∧ _ ≠ _ ∧ _ ≠ _) => zz1; clear zz1)); (try (rename ((_ ∧ _ ∧ _) ∧ _) => zz2; clear zz2)); omega); ((try (rename (_ ≠ _ ∧ _ ≠ _ ∧ _ ≠ _) => zz1; clear zz1)); (try (rename ((_ ∧ _ ∧ _) ∧ _) => zz2; clear zz2)); omega); decide))
local macro_rules | `(tactic| walk_at "binaryOp FloorDiv int int") => `(tactic| (refine' fdiv128 ?k1 ?_; (case k1 => (try (rename (_ ≠ _ ∧ _ ≠ _ ∧ _ ≠ _) => zz1; clear zz1)); (try (rename ((_ ∧ _ ∧ _) ∧ _) => zz2; clear zz2)); omega)))
theorem groups_spec (w : World) (x many : Int) (tx tb : NTok) (hb1 : 1 ≤ many) (hb2 : many ≤ 11) :
    CallAt PySem.Challenge.rw_nm0117_01.row.prog w (NmTop.hd.heap_1 w.params) NmTop.hd.view_1 (looseW NmTop.hd.view_1 [Str.ofString "text_of"]) 5 20 233
      [] [.int x tx, .int many tb]
      (fun base _ h₀ _ L m s Q _ G =>
        (∀ (l : Addr) (vs : List NVal) (ks : List Int) (h' : Heap) (tk : Nat), IntsAre vs ks → ks.length = many.toNat → (∀ k ∈ ks, 0 ≤ k ∧ k < 256) → (∀ k, ks[ks.length - 1]? = some k → k < 128) → Fr h₀ L h' m → News h₀ L h' [(l, LCg.lst vs)] → Stay s.heap h' [] → (∀ b o, s.heap.get? b = some o → @Ne Nat b l) → Q (.ref l) { s with heap := h', toks := tk }) → G) := by
  k_fill
  unfold CallAt
  dsimp only
  intro mean mg mb dp un gd cn cs a ccd cl outer A₀ base h₀ L m s Q E iB iF iX iN iT ik id iu hret
  refine wpAny_call ?_
  k_dflt tb_rel
  k_steps
  all_goals
    refine' hret _ _ _ _ _ (by assumption) ?z_l ?z_r ?z_t (by assumption) (cb_drop ?z_N ?z_M) ?z_S ?z_W
    case z_l => rw [List.length_map, rangeKs_length]; omega
    case z_r =>
      intro k hk
      obtain ⟨j, hj, rfl⟩ := List.mem_map.mp hk
      have h1 := Int.fmod_nonneg_of_pos (x.fdiv (128 ^ j.toNat)) (show (0 : Int) < 128 by decide)
      have h2 := Int.fmod_lt_of_pos (x.fdiv (128 ^ j.toNat)) (show (0 : Int) < 128 by decide)
      split <;> omega
    case z_t =>
      intro k hk
      have h0 : (rangeKs 0 (many - 0).toNat)[(many - 0).toNat - 1]? = some (many - 1) := by
        unfold rangeKs
        rw [List.getElem?_map, List.getElem?_range (by omega)]
        show some ((0 : Int) + ((((many - 0).toNat - 1 : Nat)) : Int)) = some (many - 1)
        congr 1
        omega
      rw [List.length_map, rangeKs_length, List.getElem?_map, h0] at hk
      have h1 := Option.some.inj hk
      dsimp only at h1
      rw [if_neg (by omega)] at h1
      have h2 := Int.fmod_lt_of_pos (x.fdiv (128 ^ (many - 1).toNat)) (show (0 : Int) < 128 by decide)
      omega
    case z_N => assumption
    case z_M => (refine' List.forall_mem_cons.mpr ⟨?_, List.forall_mem_nil _⟩ <;> k_dflt k_mem)
    case z_S => exact Stay.mk (by assumption) (by assumption)
    case z_W => (rename (GSub s.heap _ (List.map _ _)) => z_G; refine' fun b o q => new_of z_G ?z_N9 b o q (fun z => nomatch z); case z_N9 => assumption)
end
section
open PySem PySem.W PySem.Spec PySem.Calls PyProof.Rows
theorem fresh_CDue : True := by w_top off; exact True.intro
local macro_rules | `(tactic| tb_rel) => `(tactic| (refine' code_cellG ?k1 ?k2 ?k3 ?k4 ?k5 ?kA ?kF ?kK ?k6 ?k7 ?k8 ?k9 ?kB ?kD ?_ ?c2 ?c3 ?c4; (case kA | kF => exact rfl); (case kK => first | assumption | exact rfl); (case k1 | k2 | k3 | k4 | k5 => k_asm); (case k6 | k7 => k_is); (case k8 => ktr_room); (case k9 => exact BindsTo.of_eq rfl); (case kB => exact rfl); (case kD => decide +kernel); (case c2 | c3 | c4 => exact rfl); k_whole; intro g' L' h' tk' cells' FG' F' N' Y' B' X' T' l1 kG'; (try k_lt l1); k_cells Y'; (try simp only [List.cons_append, List.nil_append] at N'); (try dsimp only); (try k_lift B'); (try k_fold)))
local macro_rules | `(tactic| walk_at "exec While BoolOp cons nil") => `(tactic| (refine Halt.out ?_))
local macro_rules | `(tactic| walk_at "call builtin:len") => `(tactic| (k_here; (with_reducible show wpAny _ _ (call (Value.builtin "len") [Value.ref _]) _ _ _); k_dflt (refine' lenL ?k1 ?k2 ?k3 ?_; (case k1 => k_asm); (case k2 => k_mem); (case k3 => (try simp only [List.length_append, List.length_cons, List.length_nil]); omega); k_whole)))
local macro_rules | `(tactic| walk_at "call builtin:list.append") => `(tactic| (k_here; (with_reducible show wpAny _ _ (call (Value.builtin _) [Value.ref _, _]) _ _ _); k_dflt (refine' appL ?k1 ?k2 ?k3 ?k4 ?_; (case k1 | k2 => k_asm); (case k3 => k_upd); (case k4 => (try simp only [List.length_append, List.length_cons, List.length_nil]); omega); k_whole); intro h' F' N'; (try k_sweep)))
local macro_rules | `(tactic| walk_at "binaryOp Mult int int") => `(tactic| (refine PyProof.Rows.mul_int ?_ gs_mul))
local macro_rules | `(tactic| walk_at "binaryOp Pow int int") => `(tactic| (refine pow_int_small ?_ ?_ ?_ ?_; ((try (rename (_ ≠ _ ∧ _ ≠ _ ∧ _ ≠ _) => zz1; clear zz1)); (try (rename ((_ ∧ _ ∧ _) ∧ _) => zz2; clear zz2)); omega); ((try (rename (_ ≠ _ ∧ _ ≠ _ ∧ _ ≠ _) => zz1; clear zz1)); (try (rename ((_ ∧ _ ∧ _) ∧ _) => zz2; clear zz2)); omega); decide))
section
variable {sg : Bool} {bits v : Int} {ks : List Int} {k : Nat}
theorem dV_t (hs : sg = true) (h : 64 ≤ List.getD (List.map (fun o => Int.fmod o 128) (List.take k ks)) (Int.toNat (-1 + ((List.map (fun o => Int.fmod o 128) (List.take k ks)).length : Nat))) 0) : dueVal sg ks k = gsum ks k - 128 ^ Int.toNat (k : Int) := if_pos ⟨hs, h⟩
theorem dV_f (h : ¬ 64 ≤ List.getD (List.map (fun o => Int.fmod o 128) (List.take k ks)) (Int.toNat (-1 + ((List.map (fun o => Int.fmod o 128) (List.take k ks)).length : Nat))) 0) : dueVal sg ks k = gsum ks k := if_neg fun z => h z.2
theorem dV_n (hs : sg = false) : dueVal sg ks k = gsum ks k := if_neg fun z => Bool.noConfusion (hs.symm.trans z.1)
theorem lo_t (hs : sg = true) (h : v < - 2 ^ Int.toNat (bits - 1)) : v < dLo sg bits := by subst hs; exact h
theorem lo_f (hs : sg = false) (h : v < 0) : v < dLo sg bits := by subst hs; exact h
theorem hi_t (hs : sg = true) (h : 2 ^ Int.toNat (bits - 1) ≤ v) : dHi sg bits ≤ v := by subst hs; exact h
theorem hi_f (hs : sg = false) (h : 2 ^ Int.toNat bits ≤ v) : dHi sg bits ≤ v := by subst hs; exact h
theorem nlo_t (hs : sg = true) (h : ¬ v < - 2 ^ Int.toNat (bits - 1)) : ¬ v < dLo sg bits := by subst hs; exact h
theorem nlo_f (hs : sg = false) (h : ¬ v < 0) : ¬ v < dLo sg bits := by subst hs; exact h
theorem nhi_t (hs : sg = true) (h : ¬ 2 ^ Int.toNat (bits - 1) ≤ v) : ¬ dHi sg bits ≤ v := by subst hs; exact h
theorem nhi_f (hs : sg = false) (h : ¬ 2 ^ Int.toNat bits ≤ v) : ¬ dHi sg bits ≤ v := by subst hs; exact h
end
local macro_rules | `(tactic| l_idx) => `(tactic| ((rename (_ ≠ _ ∧ _ ≠ _ ∧ _ ≠ _) => zz1; clear zz1); (try (rename ((_ ∧ _ ∧ _) ∧ _) => zz2; clear zz2)); omega))
local macro_rules | `(tactic| walk_at "isTrue BoolOp") => `(tactic| ((with_reducible show wpAny _ _ (PySem.isTrue (Expr.BoolOp _ [Expr.Name _ _, Expr.Compare (Expr.Call _ _ _ _) _ _ _] _) _ _) (fun _ _ => ite _ _ _) _ _); refine Halt.out ?_))
theorem due_spec (w : World) (l : Addr) (vs : List NVal) (ks : List Int) (bits : Int) (sg : Bool) (nl : Nat) (tb : NTok) (hI : IntsAre vs ks) (hz : ks.length ≤ 12) (hb1 : 1 ≤ bits) (hb2 : bits ≤ 70) (hk : ∀ k ∈ ks, 0 ≤ k ∧ k < 256) :
    CallAt PySem.Challenge.rw_nm0117_01.row.prog w (NmTop.hd.heap_1 w.params) NmTop.hd.view_1 (looseW NmTop.hd.view_1 [Str.ofString "text_of"]) 5 20 238
      [(l, listOf vs.toArray nl)] [.ref l, .int bits tb, .bool sg]
      (fun base _ h₀ _ L m s Q _ G =>
        (∀ (tt : Addr) (u1 u2 u3 : NTok) (h' : Heap) (tk : Nat), Fr h₀ L h' m → News h₀ L h' [(tt, tupO (resV (dueR sg bits ks) u1 u2 u3)), (l, listOf vs.toArray nl)] → Stay s.heap h' [l] → (∀ b o, s.heap.get? b = some o → @Ne Nat b tt) → Q (.ref tt) { s with heap := h', toks := tk }) → G) := by
  k_fill
  unfold CallAt
  dsimp only
  intro mean mg mb dp un gd cn cs a ccd cl outer A₀ base h₀ L m s Q E iB iF iX iN iT ik id iu hret
  refine wpAny_call ?_
  k_dflt tb_rel
  k_steps
  rename (Fr _ _ _ _) => F9
  rename (News _ _ _ _) => N9
  rename (Obj.data _ = Data.cell (some (Value.ref _))) => d9
  unfold Halt
  refine' while_to (σ := DSt) (fun c => [(_, listOf c.ys.toArray c.ys.length), (_, _), (l, listOf vs.toArray nl)]) (fun c => [(Str.ofString "is_more", .bool c.mr)]) [Str.ofString "is_more"]
    (fun c => c.ys.length = c.k ∧ c.k ≤ ks.length ∧ (c.k : Int) ≤ (bits + 6).fdiv 7 ∧ (c.mr = false → 0 < c.k) ∧ IntsAre c.ys ((ks.take c.k).map fun o => o.fmod 128) ∧ dRun ((bits + 6).fdiv 7) ks 0 true = dRun ((bits + 6).fdiv 7) (ks.drop c.k) c.k c.mr)
    (fun c => c.ys.length = c.k ∧ c.k ≤ ks.length ∧ (c.k : Int) ≤ (bits + 6).fdiv 7 ∧ (c.mr = false → 0 < c.k) ∧ IntsAre c.ys ((ks.take c.k).map fun o => o.fmod 128) ∧ dRun ((bits + 6).fdiv 7) ks 0 true = (c.k, c.mr)) (fun c => ks.length - c.k) ⟨[], 0, true⟩ F9 ?N ?H0 ?P0 ?turn ?cont ?pE
  case N => exact N9
  case H0 => refine' List.forall_mem_cons.mpr ⟨?_, List.forall_mem_nil _⟩ <;> rfl
  case P0 => exact ⟨rfl, Nat.zero_le _, by rw [fd7]; dsimp only; omega, (fun z => Bool.noConfusion z), by first | exact True.intro | constructor | rfl, rfl⟩
  case pE => passes_own
  case turn =>
    rintro ⟨ys, k, mr⟩ u h9 tk9 hP F0 N1
    have F1 := F0
    dsimp only at hP N1 ⊢
    dsimp only [kstB] at F1
    clear F9 N9
    obtain ⟨hP0, hP1, hP2, hP5, hP3, hP4⟩ := hP
    have hvl : vs.length = ks.length := hI.length
    k_steps
    · refine' ksw_end (⟨ys ++ [_], k + 1, _⟩ : DSt) ?z_F ?z_N ?z_hn ?z_hf ?z_hk ?z_hr ?z_hp ?z_hm
      case z_F => k_asm
      case z_N => k_asm
      case z_hn => (refine' List.forall_mem_cons.mpr ⟨?_, List.forall_mem_cons.mpr ⟨?_, List.forall_mem_cons.mpr ⟨?_, List.forall_mem_nil _⟩⟩⟩ <;> k_dflt k_mem)
      case z_hf => trivial
      case z_hk => (refine' List.forall_mem_cons.mpr ⟨?_, List.forall_mem_nil _⟩ <;> with_unfolding_all rfl)
      case z_hr => ksw_same
      case z_hp =>
        have hkl : k < ks.length := by omega
        have hmr : mr = true := by assumption
        have hkm : (k : Int) < (bits + 6).fdiv 7 := by omega
        have e1 : ((ys.length : Nat) : Int).toNat = k := by omega
        refine ⟨by simp only [List.length_append, List.length_cons, List.length_nil]; omega, hkl, by dsimp only; omega, fun _ => Nat.succ_pos _, ?_, ?_⟩
        · dsimp only; rw [e1]; exact intsSnoc hP3 hkl
        · dsimp only
          rw [hP4, hmr, dStep hkl hkm]
          refine congrArg (fun j : Nat => dRun ((bits + 6).fdiv 7) (ks.drop (k + 1)) (k + 1) (decide (128 ≤ ks.getD j 0))) ?_
          simp only [List.length_append, List.length_cons, List.length_nil]; omega
      case z_hm => (dsimp only; omega)
    all_goals
      refine' ⟨rfl, (⟨ys, k, mr⟩ : DSt), u, h9, _, rfl, ⟨hP0, hP1, hP2, hP5, hP3, hP4.trans (dRun_off ?z_o)⟩, F0, N1⟩
      case z_o =>
        first
        | exact .inl (by assumption)
        | exact .inr (.inl (by rename (¬ _ < Int.fdiv _ _) => zz; rw [hP0] at zz; exact zz))
        | exact .inr (.inr (List.drop_eq_nil_of_le (by omega)))
  case cont =>
    rintro ⟨ys, k, mr⟩ u h9 tk9 hP F1 N1
    dsimp only at hP N1 ⊢
    dsimp only [kstB] at F1
    clear F9 N9
    obtain ⟨hP0, hP1, hP2, hP5, hP3, hP4⟩ := hP
    subst hP0
    have hvl : vs.length = ks.length := hI.length
    have z_n : ((vs.length : Nat) : Int) = ks.length := by omega
    k_steps
    unfold Halt
    refine join_if (mr = true ∧ (ys.length : Int) < (bits + 6).fdiv 7) ?c1 ?y1 ?n1
    case c1 =>
      k_steps
      all_goals first
        | exact JoinP.yes ⟨by assumption, by assumption⟩
        | exact JoinP.no (fun z => Bool.noConfusion ((by assumption : mr = false).symm.trans z.1))
        | exact JoinP.no (fun z => absurd z.2 (by assumption))
    case y1 =>
      intro tk8 c8
      obtain ⟨c81, c82⟩ := c8
      k_steps
      rw [due_short hP4 c81 c82 z_n] at hret
      refine' hret _ _ _ _ _ _ ?z_F (cb_drop ?z_N ?z_M) ?z_S ?z_W
      case z_F => assumption
      case z_N => assumption
      case z_M => (refine' List.forall_mem_cons.mpr ⟨?_, List.forall_mem_cons.mpr ⟨?_, List.forall_mem_nil _⟩⟩ <;> k_dflt k_mem)
      case z_S => exact Stay.mk (by assumption) (by assumption)
      case z_W =>
        rename (GSub s.heap _ (List.map _ _)) => z_G
        intro b o q
        by_cases e : b = l
        · rename (News _ _ _ _) => z_N9
          have z1 := (iN _ (.head _)).2.2
          subst e
          intro z
          rename (_ ∧ _) => z_l
          omega
        · refine' new_of z_G ?z_N9 b o q (fun z => e (by simpa using z))
          case z_N9 => assumption
      all_goals exact (0 : Nat)
    case n1 =>
      intro tk8 c8
      have zb : mr = false ∨ ¬ (ys.length : Int) < (bits + 6).fdiv 7 := by
        cases mr
        · exact .inl rfl
        · exact .inr fun z => c8 ⟨rfl, z⟩
      have hpos : 0 < ys.length := by
        rcases zb with z | z
        · exact hP5 z
        · rw [fd7] at z; omega
      k_steps
      all_goals first
        | (rw [due_big hP4 zb ?z_v ?z_l] at hret
           case z_v => first | exact dV_t (by assumption) (by assumption) | exact dV_f (by assumption) | exact dV_n (by assumption)
           case z_l => first | exact .inl (lo_t (by assumption) (by assumption)) | exact .inl (lo_f (by assumption) (by assumption)) | exact .inr (hi_t (by assumption) (by assumption)) | exact .inr (hi_f (by assumption) (by assumption)))
        | (rw [due_long hP4 zb ?z_v ?z_l ?z_h (by assumption)] at hret
           case z_v => first | exact dV_t (by assumption) (by assumption) | exact dV_f (by assumption) | exact dV_n (by assumption)
           case z_l => first | exact nlo_t (by assumption) (by assumption) | exact nlo_f (by assumption) (by assumption)
           case z_h => first | exact nhi_t (by assumption) (by assumption) | exact nhi_f (by assumption) (by assumption))
        | (rw [due_val hP4 ?z_v ?z_l ?z_h (by assumption)] at hret
           case z_v => first | exact dV_t (by assumption) (by assumption) | exact dV_f (by assumption) | exact dV_n (by assumption)
           case z_l => first | exact nlo_t (by assumption) (by assumption) | exact nlo_f (by assumption) (by assumption)
           case z_h => first | exact nhi_t (by assumption) (by assumption) | exact nhi_f (by assumption) (by assumption))
      all_goals
        refine' hret _ _ _ _ _ _ ?z_F (cb_drop ?z_N ?z_M) ?z_S ?z_W
        case z_F => assumption
        case z_N => assumption
        case z_M => (refine' List.forall_mem_cons.mpr ⟨?_, List.forall_mem_cons.mpr ⟨?_, List.forall_mem_nil _⟩⟩ <;> k_dflt k_mem)
        case z_S => exact Stay.mk (by assumption) (by assumption)
        case z_W =>
          rename (GSub s.heap _ (List.map _ _)) => z_G
          intro b o q
          by_cases e : b = l
          · rename (News _ _ _ _) => z_N9
            have z1 := (iN _ (.head _)).2.2
            subst e
            intro z
            rename (_ ∧ _) => z_l
            omega
          · refine' new_of z_G ?z_N9 b o q (fun z => e (by simpa using z))
            case z_N9 => assumption
      all_goals exact (0 : Nat)
end
section
open PySem PySem.W PySem.Spec PySem.Calls PyProof.Rows
/-- the number of the first k groups -/
def gG (ks : List Int) : Nat → Int
  | 0 => 0
  | k + 1 => gG ks k + ks.getD k 0 % 128 * 2 ^ (7 * k)
theorem p128 (k : Nat) : (128 : Int) ^ k = 2 ^ (7 * k) := by
  rw [Int.pow_mul]; rfl
theorem gG_bd (ks : List Int) : ∀ k, 0 ≤ gG ks k ∧ gG ks k < 2 ^ (7 * k)
  | 0 => ⟨Int.le_refl _, by show (0 : Int) < 2 ^ 0; decide⟩
  | k + 1 => by
    obtain ⟨a, b⟩ := gG_bd ks k
    have c := Int.emod_nonneg (ks.getD k 0) (show (128 : Int) ≠ 0 by decide)
    have d := Int.emod_lt_of_pos (ks.getD k 0) (show (0 : Int) < 128 by decide)
    have e : (2 : Int) ^ (7 * (k + 1)) = 2 ^ (7 * k) * 128 := by rw [Nat.mul_add, Int.pow_add]; rfl
    have p : (0 : Int) < 2 ^ (7 * k) := Int.pow_pos (by decide)
    simp only [gG, e]
    generalize (2 : Int) ^ (7 * k) = P at *
    generalize ks.getD k 0 % 128 = x at *
    generalize gG ks k = g at *
    refine ⟨?_, ?_⟩
    · have := Int.mul_nonneg c (Int.le_of_lt p)
      omega
    · have h1 : x * P ≤ 127 * P := Int.mul_le_mul_of_nonneg_right (by omega) (Int.le_of_lt p)
      rw [Int.mul_comm P 128]
      omega
theorem take_getD {ks : List Int} {k j : Nat} (h : j < k) : List.getD (List.map (fun o => Int.fmod o 128) (List.take k ks)) j 0 = ks.getD j 0 % 128 := by
  rw [List.getD_eq_getElem?_getD, List.getElem?_map, List.getElem?_take_of_lt h, List.getD_eq_getElem?_getD]
  cases ks[j]? with
  | none => rfl
  | some o => exact Int.fmod_eq_emod_of_nonneg o (by decide)
theorem sum_range (f : Int → Int) (ks : List Int) : ∀ n, (∀ j : Nat, j < n → f (j : Int) = ks.getD j 0 % 128 * 2 ^ (7 * j)) → List.sum (List.map f (rangeKs 0 n)) = gG ks n
  | 0, _ => rfl
  | n + 1, h => by
    have e : rangeKs 0 (n + 1) = rangeKs 0 n ++ [(n : Int)] := by
      simp only [rangeKs, List.range_succ, List.map_append, List.map_cons, List.map_nil, Int.zero_add]
    rw [e, List.map_append, List.sum_append, sum_range f ks n (fun j hj => h j (by omega))]
    simp only [List.map_cons, List.map_nil, List.sum_cons, List.sum_nil, Int.add_zero, gG]
    rw [h n (by omega)]
theorem gsum_eq (ks : List Int) (k : Nat) : gsum ks k = gG ks k := by
  unfold gsum
  rw [show ((k : Nat) - 0 : Int).toNat = k by omega]
  refine sum_range _ ks k fun j hj => ?_
  rw [Int.toNat_natCast, take_getD hj, p128]
theorem big_iff {g P x Y : Int} (hg : 0 ≤ g) (hP : g < P) : Y * P ≤ g + x * P ↔ Y ≤ x := by
  constructor
  · intro h
    refine Decidable.byContradiction fun q => ?_
    have h1 : x * P ≤ (Y - 1) * P := Int.mul_le_mul_of_nonneg_right (by omega) (by omega)
    rw [Int.sub_mul, Int.one_mul] at h1
    omega
  · intro h
    have := Int.mul_le_mul_of_nonneg_right h (show 0 ≤ P by omega)
    omega
theorem fdiv_ne {x Y : Int} (h0 : 0 ≤ x) (hY : 0 < Y) : x.fdiv Y ≠ 0 ↔ Y ≤ x := by
  rw [Int.fdiv_eq_ediv_of_nonneg _ (Int.le_of_lt hY)]
  constructor
  · intro h
    refine Decidable.byContradiction fun q => h (Int.ediv_eq_zero_of_lt h0 (by omega))
  · intro h q
    have := Int.lt_ediv_add_one_mul_self x hY
    rw [q] at this
    omega
theorem pow_split {bits : Int} {k : Nat} (h : 7 * (k : Int) < bits) : (2 : Int) ^ bits.toNat = 2 ^ (bits - 7 * k).toNat * 2 ^ (7 * k) := by
  rw [← Int.pow_add]; congr 1; omega
theorem pow7 {n : Nat} (h : 7 ≤ n) : (128 : Int) ≤ 2 ^ n := by
  obtain ⟨m, rfl⟩ := Nat.exists_eq_add_of_le h
  rw [Int.pow_add]
  have : (0 : Int) < 2 ^ m := Int.pow_pos (by decide)
  show (128 : Int) ≤ 128 * 2 ^ m
  omega
theorem M_lt {bits : Int} {k : Nat} : (k : Int) < (bits + 6).fdiv 7 ↔ 7 * (k : Int) < bits := by
  rw [fd7]; omega
/-- the width is passed by the last group -/
theorem u_big {bits : Int} {ks : List Int} {k : Nat} (h : 7 * (k : Int) < bits) :
    (2 : Int) ^ bits.toNat ≤ gG ks (k + 1) ↔ bits - 7 * k < 7 ∧ (ks.getD k 0 % 128).fdiv (2 ^ (bits - 7 * k).toNat) ≠ 0 := by
  obtain ⟨a, b⟩ := gG_bd ks k
  have c := Int.emod_nonneg (ks.getD k 0) (show (128 : Int) ≠ 0 by decide)
  have d := Int.emod_lt_of_pos (ks.getD k 0) (show (0 : Int) < 128 by decide)
  rw [pow_split h, gG, big_iff a b, fdiv_ne c (Int.pow_pos (by decide))]
  constructor
  · intro q
    refine ⟨Decidable.byContradiction fun z => ?_, q⟩
    have := pow7 (n := (bits - 7 * k).toNat) (by omega)
    omega
  · exact fun q => q.2
theorem u_law {bits : Int} {ks : List Int} (hk : ∀ k ∈ ks, 0 ≤ k ∧ k < 256) : ∀ (n k : Nat), ks.length - k = n → k ≤ ks.length → 7 * (k : Int) < bits → dRun ((bits + 6).fdiv 7) ks 0 true = dRun ((bits + 6).fdiv 7) (ks.drop k) k true →
    uGo bits (ks.drop k) k (gG ks k) = dueR false bits ks := by
  intro n
  induction n with
  | zero =>
    intro k h1 h2 h3 h4
    have e : ks.drop k = [] := List.drop_eq_nil_of_le (by omega)
    rw [e] at h4 ⊢
    rw [due_short (k := k) (mr := true) (h4.trans rfl) rfl (M_lt.mpr h3) rfl, uGo]
    congr 1; omega
  | succ n ih =>
    intro k h1 h2 h3 h4
    have hl : k < ks.length := by omega
    rw [getD_drop hl]
    rw [dStep hl (M_lt.mpr h3)] at h4
    have hv : dueVal false ks (k + 1) = gG ks (k + 1) := by
      unfold dueVal
      rw [if_neg (fun z => Bool.noConfusion z.1), gsum_eq]
    have hlo : ¬ gG ks (k + 1) < dLo false bits := by
      have := (gG_bd ks (k + 1)).1
      show ¬ _ < (0 : Int)
      omega
    have hhi : dHi false bits ≤ gG ks (k + 1) ↔ bits - 7 * k < 7 ∧ (ks.getD k 0 % 128).fdiv (2 ^ (bits - 7 * k).toNat) ≠ 0 := u_big h3
    have e7 : (7 * (k : Int)).toNat = 7 * k := by omega
    by_cases ho : 128 ≤ ks.getD k 0
    · rw [decide_eq_true ho] at h4
      by_cases hm : 7 * ((k + 1 : Nat) : Int) < bits
      · rw [uGo, if_neg (by omega), if_neg (by omega), if_neg (by omega), e7]
        exact ih (k + 1) (by omega) hl hm h4
      · have h5 : dRun ((bits + 6).fdiv 7) ks 0 true = (k + 1, true) := h4.trans (dRun_off (.inr (.inl fun z => hm (M_lt.mp z))))
        have hb : true = false ∨ ¬ ((k + 1 : Nat) : Int) < (bits + 6).fdiv 7 := .inr fun z => hm (M_lt.mp z)
        by_cases hg : bits - 7 * (k : Int) < 7 ∧ (ks.getD k 0 % 128).fdiv (2 ^ (bits - 7 * (k : Int)).toNat) ≠ 0
        · rw [due_big h5 hb hv (.inr (hhi.mpr hg)), uGo, if_pos hg]
        · rw [due_long h5 hb hv hlo (fun z => hg (hhi.mp z)) rfl, uGo, if_neg hg, if_pos ⟨by omega, ho⟩]
    · rw [decide_eq_false ho] at h4
      have h5 : dRun ((bits + 6).fdiv 7) ks 0 true = (k + 1, false) := h4.trans (dRun_off (.inl rfl))
      by_cases hg : bits - 7 * (k : Int) < 7 ∧ (ks.getD k 0 % 128).fdiv (2 ^ (bits - 7 * (k : Int)).toNat) ≠ 0
      · rw [due_big h5 (.inl rfl) hv (.inr (hhi.mpr hg)), uGo, if_pos hg]
      · rw [due_val h5 hv hlo (fun z => hg (hhi.mp z)) rfl, uGo, if_neg hg, if_neg (by omega), if_pos (by omega), e7]
        rfl
theorem and64 : ∀ a : Fin 128, (Builtin.bitAnd (a.val : Int) 64 ≠ 0) ↔ 64 ≤ a.val := by decide +kernel
theorem alike_fin : ∀ (m : Fin 6) (a : Fin 128), ((64 ≤ a.val ∧ (a.val : Int) < 128 - 2 ^ m.val) ∨ (a.val < 64 ∧ (2 : Int) ^ m.val ≤ a.val)) ↔ (List.any [0, Int.fdiv 127 (2 ^ m.val)] fun x => x == Int.fdiv (a.val : Int) (2 ^ m.val)) = false := by decide +kernel
theorem and64' {o : Int} (h0 : 0 ≤ o) (h1 : o < 128) : Builtin.bitAnd o 64 ≠ 0 ↔ 64 ≤ o := by
  have := and64 ⟨o.toNat, by omega⟩
  rw [show ((⟨o.toNat, by omega⟩ : Fin 128).val : Int) = o by dsimp only; omega] at this
  rw [this]
  dsimp only
  omega
theorem alike_iff {bits sh o : Int} (h0 : 1 ≤ bits - sh) (h1 : bits - sh < 7) : ((64 ≤ o % 128 ∧ o % 128 < 128 - 2 ^ (bits - sh - 1).toNat) ∨ (o % 128 < 64 ∧ (2 : Int) ^ (bits - sh - 1).toNat ≤ o % 128)) ↔ alike bits sh o = false := by
  have c := Int.emod_nonneg o (show (128 : Int) ≠ 0 by decide)
  have d := Int.emod_lt_of_pos o (show (0 : Int) < 128 by decide)
  have := alike_fin ⟨(bits - sh - 1).toNat, by omega⟩ ⟨(o % 128).toNat, by omega⟩
  dsimp only at this
  rw [show (((o % 128).toNat : Nat) : Int) = o % 128 by omega] at this
  unfold alike
  rw [← this]
  constructor
  · rintro (⟨x, y⟩ | ⟨x, y⟩)
    · exact .inl ⟨by omega, y⟩
    · exact .inr ⟨by omega, y⟩
  · rintro (⟨x, y⟩ | ⟨x, y⟩)
    · exact .inl ⟨by omega, y⟩
    · exact .inr ⟨by omega, y⟩
theorem pow6 {n : Nat} (h : 6 ≤ n) : (64 : Int) ≤ 2 ^ n := by
  obtain ⟨m, rfl⟩ := Nat.exists_eq_add_of_le h
  rw [Int.pow_add]
  have : (0 : Int) < 2 ^ m := Int.pow_pos (by decide)
  show (64 : Int) ≤ 64 * 2 ^ m
  omega
/-- the signed number of the first k + 1 groups -/
def gS (ks : List Int) (k : Nat) : Int := if 64 ≤ ks.getD k 0 % 128 then gG ks (k + 1) - 2 ^ (7 * k + 7) else gG ks (k + 1)
theorem dueVal_s {ks : List Int} {k : Nat} (h : k < ks.length) : dueVal true ks (k + 1) = gS ks k := by
  unfold dueVal gS
  have e : (-1 + (((List.map (fun o => Int.fmod o 128) (List.take (k + 1) ks)).length : Nat) : Int)).toNat = k := by
    rw [List.length_map, List.length_take]; omega
  rw [e, take_getD (Nat.lt_succ_self k), gsum_eq, Int.toNat_natCast, p128]
  by_cases q : 64 ≤ ks.getD k 0 % 128
  · rw [if_pos ⟨rfl, q⟩, if_pos q, Nat.mul_add]
  · rw [if_neg (fun z => q z.2), if_neg q]
theorem s_bad {bits : Int} {ks : List Int} {k : Nat} (h : 7 * (k : Int) < bits) :
    (gS ks k < dLo true bits ∨ dHi true bits ≤ gS ks k) ↔ bits - 7 * k < 7 ∧ alike bits (7 * k) (ks.getD k 0) = false := by
  obtain ⟨a, b⟩ := gG_bd ks k
  have c := Int.emod_nonneg (ks.getD k 0) (show (128 : Int) ≠ 0 by decide)
  have d := Int.emod_lt_of_pos (ks.getD k 0) (show (0 : Int) < 128 by decide)
  have eP : (2 : Int) ^ (7 * k + 7) = 128 * 2 ^ (7 * k) := by rw [Int.pow_add, Int.mul_comm]; rfl
  have eY : (2 : Int) ^ (bits - 1).toNat = 2 ^ (bits - 7 * k - 1).toNat * 2 ^ (7 * k) := by
    rw [← Int.pow_add]; congr 1; omega
  have hY : (0 : Int) < 2 ^ (bits - 7 * k - 1).toNat := Int.pow_pos (by decide)
  have hP : (0 : Int) < 2 ^ (7 * k) := Int.pow_pos (by decide)
  have key : (gS ks k < dLo true bits ∨ dHi true bits ≤ gS ks k) ↔ ((64 ≤ ks.getD k 0 % 128 ∧ ks.getD k 0 % 128 < 128 - 2 ^ (bits - 7 * k - 1).toNat) ∨ (ks.getD k 0 % 128 < 64 ∧ (2 : Int) ^ (bits - 7 * k - 1).toNat ≤ ks.getD k 0 % 128)) := by
    show (gS ks k < - 2 ^ (bits - 1).toNat ∨ 2 ^ (bits - 1).toNat ≤ gS ks k) ↔ _
    rw [eY]
    have i1 := big_iff (g := gG ks k) (P := 2 ^ (7 * k)) (x := ks.getD k 0 % 128) (Y := 128 - 2 ^ (bits - 7 * k - 1).toNat) a b
    have i2 := big_iff (g := gG ks k) (P := 2 ^ (7 * k)) (x := ks.getD k 0 % 128) (Y := 2 ^ (bits - 7 * k - 1).toNat) a b
    have i3 := big_iff (g := gG ks k) (P := 2 ^ (7 * k)) (x := ks.getD k 0 % 128) (Y := 128) a b
    have i4 := Int.mul_nonneg c (Int.le_of_lt hP)
    have i5 := Int.mul_pos hY hP
    rw [Int.sub_mul] at i1
    simp only [gS, gG, eP]
    generalize (2 : Int) ^ (bits - 7 * k - 1).toNat = Y at *
    generalize (2 : Int) ^ (7 * k) = P at *
    generalize ks.getD k 0 % 128 = x at *
    generalize gG ks k = g at *
    split
    · omega
    · omega
  rw [key]
  constructor
  · intro q
    have l7 : bits - 7 * (k : Int) < 7 := Decidable.byContradiction fun z => by
      have := pow6 (n := (bits - 7 * k - 1).toNat) (by omega)
      omega
    exact ⟨l7, (alike_iff (by omega) l7).mp q⟩
  · rintro ⟨l7, q⟩
    exact (alike_iff (by omega) l7).mpr q
theorem s_law {bits : Int} {ks : List Int} (hk : ∀ k ∈ ks, 0 ≤ k ∧ k < 256) : ∀ (n k : Nat), ks.length - k = n → k ≤ ks.length → 7 * (k : Int) < bits → dRun ((bits + 6).fdiv 7) ks 0 true = dRun ((bits + 6).fdiv 7) (ks.drop k) k true →
    sGo bits (ks.drop k) k (gG ks k) = dueR true bits ks := by
  intro n
  induction n with
  | zero =>
    intro k h1 h2 h3 h4
    have e : ks.drop k = [] := List.drop_eq_nil_of_le (by omega)
    rw [e] at h4 ⊢
    rw [due_short (k := k) (mr := true) (h4.trans rfl) rfl (M_lt.mpr h3) rfl, sGo]
    congr 1; omega
  | succ n ih =>
    intro k h1 h2 h3 h4
    have hl : k < ks.length := by omega
    have hm : ks.getD k 0 ∈ ks := by
      rw [List.getD_eq_getElem?_getD, List.getElem?_eq_getElem hl]; exact List.getElem_mem hl
    obtain ⟨o0, o1⟩ := hk _ hm
    rw [getD_drop hl]
    rw [dStep hl (M_lt.mpr h3)] at h4
    have hv := dueVal_s hl
    have bad := s_bad (ks := ks) h3
    have e7 : (7 * (k : Int)).toNat = 7 * k := by omega
    have e8 : (7 * (k : Int) + 7).toNat = 7 * k + 7 := by omega
    by_cases ho : 128 ≤ ks.getD k 0
    · rw [decide_eq_true ho] at h4
      by_cases hm : 7 * ((k + 1 : Nat) : Int) < bits
      · rw [sGo, if_neg (by omega), if_neg (by omega), if_neg (by omega), e7]
        exact ih (k + 1) (by omega) hl hm h4
      · have h5 : dRun ((bits + 6).fdiv 7) ks 0 true = (k + 1, true) := h4.trans (dRun_off (.inr (.inl fun z => hm (M_lt.mp z))))
        have hb : true = false ∨ ¬ ((k + 1 : Nat) : Int) < (bits + 6).fdiv 7 := .inr fun z => hm (M_lt.mp z)
        by_cases hg : bits - 7 * (k : Int) < 7 ∧ alike bits (7 * k) (ks.getD k 0) = false
        · rw [due_big h5 hb hv (bad.mpr hg), sGo, if_pos hg]
        · have hn := fun z => hg (bad.mp z)
          rw [due_long h5 hb hv (fun z => hn (.inl z)) (fun z => hn (.inr z)) rfl, sGo, if_neg hg, if_pos ⟨by omega, ho⟩]
    · rw [decide_eq_false ho] at h4
      have h5 : dRun ((bits + 6).fdiv 7) ks 0 true = (k + 1, false) := h4.trans (dRun_off (.inl rfl))
      by_cases hg : bits - 7 * (k : Int) < 7 ∧ alike bits (7 * k) (ks.getD k 0) = false
      · rw [due_big h5 (.inl rfl) hv (bad.mpr hg), sGo, if_pos hg]
      · have hn := fun z => hg (bad.mp z)
        rw [due_val h5 hv (fun z => hn (.inl z)) (fun z => hn (.inr z)) rfl, sGo, if_neg hg, if_neg (by omega), if_pos (by omega), e7, e8]
        have em : ks.getD k 0 % 128 = ks.getD k 0 := Int.emod_eq_of_lt o0 (by omega)
        unfold gS
        by_cases q : 64 ≤ ks.getD k 0
        · rw [if_pos ((and64' o0 (by omega)).mpr q), if_pos (by omega), Int.one_mul]
          rfl
        · rw [if_neg (fun z => q ((and64' o0 (by omega)).mp z)), if_neg (by omega)]
          rfl
end
section
open PySem PySem.W PySem.Spec PySem.Calls PyProof.Rows
/-- the plain law -/
theorem go_due {sg : Bool} {bits : Int} {ks : List Int} (hk : ∀ k ∈ ks, 0 ≤ k ∧ k < 256) (hb : 1 ≤ bits) : goR sg bits ks = dueR sg bits ks := by
  cases sg
  · exact u_law hk (ks.length - 0) 0 rfl (Nat.zero_le _) (by omega) rfl
  · exact s_law hk (ks.length - 0) 0 rfl (Nat.zero_le _) (by omega) rfl
theorem cut_mid {as os rs : List Int} {i e : Int} (hi : i = as.length) (he : e = as.length + os.length) : cut (as ++ os ++ rs) i e = os := by
  subst hi he
  unfold cut
  rw [show ((as.length : Int) + os.length).toNat = (as ++ os).length by rw [List.length_append]; omega, List.take_left', Int.toNat_natCast, List.drop_left']
  · rfl
  · rfl
theorem cut_all {os : List Int} {e : Int} (he : e = os.length) : cut os 0 e = os := by
  subst he
  unfold cut
  rw [Int.toNat_natCast, List.take_length]; rfl
end
section
open PySem PySem.W PySem.Spec PySem.Calls PyProof.Rows
theorem fresh_CHead : True := by w_top off; exact True.intro
abbrev wUtf : Str := Str.ofString "malformed UTF-8 encoding"
/-- what a first octet says: how many follow, its own bits, the least point -/
def hOf (o : Int) : Option (Int × Int × Int) :=
  if o < 128 then some (0, o, 0)
  else if 192 ≤ o ∧ o < 224 then some (1, Builtin.bitAnd o 31, 128)
  else if 224 ≤ o ∧ o < 240 then some (2, Builtin.bitAnd o 15, 2048)
  else if 240 ≤ o ∧ o < 248 then some (3, Builtin.bitAnd o 7, 65536)
  else none
theorem head_spec (w : World) (o at_ : Int) (to ta : NTok) :
    CallAt PySem.Challenge.rw_nm0117_01.row.prog w (NmTop.hd.heap_1 w.params) NmTop.hd.view_1 (looseW NmTop.hd.view_1 [Str.ofString "text_of"]) 7 30 206
      [] [.int o to, .int at_ ta]
      (fun base outer h₀ env L m s Q E G =>
        (∀ f p l : Int, hOf o = some (f, p, l) → ∀ (tt : Addr) (u1 u2 u3 : NTok) (h' : Heap) (tk : Nat), Fr h₀ L h' m → News h₀ L h' [(tt, tupO [.int f u1, .int p u2, .int l u3])] → Stay s.heap h' [] → (∀ b o, s.heap.get? b = some o → @Ne Nat b tt) → Q (.ref tt) { s with heap := h', toks := tk }) →
        (hOf o = none → ∀ (ex d : Addr) (u1 u2 uw ui : NTok) (g₂ h' : Heap) (tk : Nat), Fr h₀ L g₂ m → RaisedD base g₂ (env :: outer) ex 58 d [(d, exD w wUtf u1 uw at_ u2 ui)] h' → g₂.UpToSlots h' → Stay s.heap g₂ [] → E (.ref ex) { s with heap := h', toks := tk }) → G) := by
  k_fill
  unfold CallAt
  dsimp only
  intro mean mg mb dp un gd cn cs a ccd cl outer A₀ base h₀ L m s Q E iB iF iX iN iT ik id iu hret hexc
  refine wpAny_call ?_
  k_dflt cell_enter
  k_steps
  all_goals first
    | (refine' hret _ _ _ ?z_h _ _ _ _ _ _ ?z_F ?z_N ?z_S ?z_W
       case z_N => assumption
       case z_F => assumption
       case z_S => exact Stay.mk (by assumption) (by assumption)
       case z_W => (rename (GSub s.heap _ (List.map _ _)) => z_G; refine' fun b o q => new_of z_G ?z_N9 b o q (fun z => nomatch z); case z_N9 => assumption)
       case z_h => (unfold hOf; repeat (first | rw [if_pos (by omega)] | rw [if_neg (by omega)])))
    | (refine' hexc ?z_h _ _ _ _ _ _ _ _ _ ?z_F ?z_R ?z_U ?z_S
       case z_R => assumption
       case z_F => assumption
       case z_U => assumption
       case z_S => assumption
       case z_h => (unfold hOf; repeat (first | rw [if_pos (by omega)] | rw [if_neg (by omega)])))
end
section
open PySem PySem.W PySem.Spec PySem.Calls PyProof.Rows
theorem fresh_CUtf : True := by w_top off; exact True.intro
/-- a call of the value `f` in any frame of a def, the stack clean -/
abbrev CallD (prog : Program) (w : World) (K : Frag) (p : Program) (loose : List Str) (kd ku : Nat) (f : Addr) (news : NLed) (vs : List NVal)
    (G : Heap → List Env → Heap → Env → Addr → (Str → Option Value) → Shared → (Value → Shared → Prop) → (Value → Shared → Prop) → Prop → Prop) : Prop :=
  ∀ (mean : ExcName → Option Value) (mg mb : Str → Option Value) (dp un : Nat) (gd : Option (List Code)) (cn : Str) (cs : Scope) (a : Addr) (ccd : Value) (cl : List (Str × Addr)) (outer : List Env) (A₀ : Around) (base h₀ : Heap) (L : Addr) (m : Str → Option Value) (s : Shared) (Q E : Value → Shared → Prop),
    Below A₀ base outer h₀ → Fr h₀ L s.heap m → K.In h₀ → News h₀ L s.heap news → Top p loose mean mg mb h₀ → cs.kind = .function → dp + kd < recursionLimit → un + ku < cLine →
    G base outer h₀ (envX cn cs L a ccd cl) L m s Q E (wpD (model prog w) (ktrTop dp un gd cn cs L a ccd cl outer) (call (.ref f) vs) Q E s)
abbrev wSur : Str := Str.ofString "a surrogate in a name"
abbrev exD2 (w : World) (why : Str) (t1 tw : Tok) : Obj := dictOf [⟨PyData.keyHash w.params (Str.ofString "why"), .str (Str.ofString "why") t1, .str why tw⟩] 1
theorem misused_spec (w : World) (why : NStr) (tw : NTok) :
    CallAt PySem.Challenge.rw_nm0117_01.row.prog w (NmTop.hd.heap_1 w.params) NmTop.hd.view_1 (looseW NmTop.hd.view_1 [Str.ofString "text_of"]) 5 20 70 [] [.str why tw]
      (fun _ _ h₀ _ L m s Q _ G =>
        (∀ (e d t : Addr) (t1 : NTok) (h' : Heap) (tk : Nat), Fr h₀ L h' m → News h₀ L h' [(d, exD2 w why t1 tw), (e, excO 70 (some d) t)] → Stay s.heap h' [] → (∀ (b : Nat) o, s.heap.get? b = some o → @LT.lt Nat _ b e) → @LT.lt Nat _ e d →
          Q (.ref e) { s with heap := h', toks := tk }) → G) := by
  k_fill
  unfold CallAt
  dsimp only
  intro mean mg mb dp un gd cn cs a ccd cl outer A₀ base h₀ L m s Q E iB iF iX iN iT ik id iu hret
  k_steps
  rename (∀ b o, Heap.get? s.heap b = some o → _ ∧ _) => hk
  refine' hret _ _ _ _ _ _ ?A (cb_drop ?B ?B2) ?C ?D ?E'
  case A => k_asm
  case B => k_asm
  case B2 => (refine' List.forall_mem_cons.mpr ⟨?_, List.forall_mem_cons.mpr ⟨?_, List.forall_mem_nil _⟩⟩) <;> k_dflt k_mem
  case C =>
    refine Stay.by hk (by k_asm) (by k_asm) ?_
    simp only [List.map_cons, List.map_nil, AllGe, and_true]
    omega
  case D =>
    intro b o q
    exact Nat.lt_trans (hk b o q).2 (by omega)
  case E' => omega
theorem misused_use {w : World} {why : NStr} {tw : NTok} {mean : ExcName → Option Value} {mg mb : Str → Option Value} {dp un : Nat} {gd : Option (List Code)} {cn : Str} {cs : Scope} {a : Addr} {ccd : Value} {cl : List (Str × Addr)} {outer : List Env} {A₀ : Around} {base h₀ : Heap} {L : Addr} {m : Str → Option Value} {s : Shared} {Q E : Value → Shared → Prop} {news : NLed}
    (B : Below A₀ base outer h₀) (F : Fr h₀ L s.heap m) (X : (NmTop.hd.heap_1 w.params).In h₀) (N : News h₀ L s.heap news) (T : Top NmTop.hd.view_1 (looseW NmTop.hd.view_1 [Str.ofString "text_of"]) mean mg mb h₀) (hk : cs.kind = .function) (hd : dp + 5 < recursionLimit) (hu : un + 20 < cLine)
    (ret : ∀ (e d t : Addr) (t1 : NTok) (h' : Heap) (tk : Nat), Fr h₀ L h' m → News h₀ L h' ((d, exD2 w why t1 tw) :: (e, excO 70 (some d) t) :: news) → (∀ p ∈ news, p.1 < e) → @LT.lt Nat _ e d → Stay s.heap h' [] → Q (.ref e) { s with heap := h', toks := tk }) :
    wpAny (model PySem.Challenge.rw_nm0117_01.row.prog w) (ktrTop dp un gd cn cs L a ccd cl outer) (call (.ref 70) [.str why tw]) Q E s :=
  misused_spec w why tw mean mg mb dp un gd cn cs a ccd cl outer A₀ base h₀ L m s Q E B F X News.nil T hk hd hu fun e d t t1 h' tk F' N' S l1 l2 =>
    ret e d t t1 h' tk F' (news_cat N N' S) (fun p hp => l1 _ _ (N p hp).1) l2 S
end
section
open PySem PySem.W PySem.Spec PySem.Calls PyProof.Rows
theorem fresh_CUtf2 : True := by w_top off; exact True.intro
local macro_rules | `(tactic| walk_at "call ref") => `(tactic| (k_here; (with_reducible show wpAny _ _ (call (Value.ref 70) [Value.str _ _]) _ _ _); k_dflt (refine' misused_use ?k1 ?k2 ?k3 ?k4 ?k5 ?k6 ?k7 ?k8 ?_; (case k1 | k2 | k3 | k4 | k5 => k_asm); (case k6 => first | assumption | exact rfl); (case k7 => ktr_room); (case k8 => ktr_units); k_whole); intro e' d' t' t1' h' tk' F' N' l1 l2 kS; (try k_lt l1)))
/-- the octets of a sign -/
def u8 (c : Int) : List Int :=
  if c < 128 then [c]
  else if c < 2048 then [Builtin.bitOr 192 (Int.fdiv c (2 ^ Int.toNat 6)), Builtin.bitOr 128 (Builtin.bitAnd c 63)]
  else if c < 65536 then [Builtin.bitOr 224 (Int.fdiv c (2 ^ Int.toNat 12)), Builtin.bitOr 128 (Builtin.bitAnd (Int.fdiv c (2 ^ Int.toNat 6)) 63), Builtin.bitOr 128 (Builtin.bitAnd c 63)]
  else [Builtin.bitOr 240 (Int.fdiv c (2 ^ Int.toNat 18)), Builtin.bitOr 128 (Builtin.bitAnd (Int.fdiv c (2 ^ Int.toNat 12)) 63), Builtin.bitOr 128 (Builtin.bitAnd (Int.fdiv c (2 ^ Int.toNat 6)) 63), Builtin.bitOr 128 (Builtin.bitAnd c 63)]
def u8s (cs : List Nat) : List Int := cs.flatMap fun (c : Nat) => u8 c
def isSur (c : Nat) : Bool := decide (55296 ≤ c) && decide (c < 57344)
/-- the signs that the law lays -/
def theSigns : List Nat := [97, 98, 233, 55296, 55295, 57343, 57344, 56319, 56320, 65535, 65536, 1114111, 127]
theorem u8_1 {c : Int} (h : c < 128) : u8 c = [c] := by unfold u8; rw [if_pos h]
theorem u8_2 {c : Int} (h : ¬ c < 128) (h2 : c < 2048) : u8 c = [Builtin.bitOr 192 (Int.fdiv c (2 ^ Int.toNat 6)), Builtin.bitOr 128 (Builtin.bitAnd c 63)] := by unfold u8; rw [if_neg h, if_pos h2]
theorem u8_3 {c : Int} (h : ¬ c < 2048) (h2 : c < 65536) : u8 c = [Builtin.bitOr 224 (Int.fdiv c (2 ^ Int.toNat 12)), Builtin.bitOr 128 (Builtin.bitAnd (Int.fdiv c (2 ^ Int.toNat 6)) 63), Builtin.bitOr 128 (Builtin.bitAnd c 63)] := by unfold u8; rw [if_neg (by omega), if_neg h, if_pos h2]
theorem u8_4 {c : Int} (h : ¬ c < 65536) : u8 c = [Builtin.bitOr 240 (Int.fdiv c (2 ^ Int.toNat 18)), Builtin.bitOr 128 (Builtin.bitAnd (Int.fdiv c (2 ^ Int.toNat 12)) 63), Builtin.bitOr 128 (Builtin.bitAnd (Int.fdiv c (2 ^ Int.toNat 6)) 63), Builtin.bitOr 128 (Builtin.bitAnd c 63)] := by unfold u8; rw [if_neg (by omega), if_neg (by omega), if_neg h]
theorem u8_range : ∀ c ∈ theSigns, ∀ n ∈ u8 (c : Nat), 0 ≤ n ∧ n < 256 := by decide +kernel
theorem u8_len (c : Int) : (u8 c).length ≤ 4 := by
  unfold u8
  split
  · simp
  · split
    · simp
    · split <;> simp
theorem u8s_len : ∀ l : List Nat, (u8s l).length ≤ 4 * l.length
  | [] => Nat.le_refl _
  | c :: l => by
    have h1 := u8_len c
    have h2 := u8s_len l
    simp only [u8s, List.flatMap_cons, List.length_append, List.length_cons] at h2 ⊢
    omega
theorem u8s_lenT (l : Array Nat) (i : Nat) : (u8s (l.toList.take i)).length ≤ 4 * l.size := by
  have h1 := u8s_len (l.toList.take i)
  have h2 : (l.toList.take i).length ≤ l.size := by rw [List.length_take, Array.length_toList]; exact Nat.min_le_right _ _
  omega
theorem u8s_take {l : List Nat} {i c : Nat} (h : l[i]? = some c) : byteArr (u8s (l.take (i + 1))) = byteArr (u8s (l.take i)) ++ byteArr (u8 c) := by
  rw [← byteArr_append, List.take_add_one, h]
  unfold u8s
  rw [List.flatMap_append]
  simp
theorem sur_take {l : List Nat} {i c : Nat} (h : l[i]? = some c) (hP : (l.take i).any isSur = false) (hc : isSur c = false) : (l.take (i + 1)).any isSur = false := by
  rw [List.take_add_one, h, List.any_append, hP]
  simp [hc]
section
variable {prog : Program} {w : World} {A : Around} {E : Value → Shared → Prop} {s : Shared} {h₀ : Heap} {L f : Addr} {news : NLed} {b : Array UInt8}
theorem plainAttrs_ba : PlainAttrs "bytearray" :=
  ⟨⟨"bytearray.__getattribute__", by rw [typeLookup_type, builtinLookup_eq_fast]; kernel_rfl, by decide +kernel⟩, by rw [typeLookup_type, builtinLookup_eq_fast]; kernel_rfl⟩
theorem type_append : typeOf (.builtin "bytearray.append") = pure (.type "method_descriptor") := by kernel_rfl
theorem type_extend : typeOf (.builtin "bytearray.extend") = pure (.type "method_descriptor") := by kernel_rfl
theorem get_append {M : Model} {pl : Sem Bool} {Q : Value × List Value → Shared → Prop} (N : News h₀ L s.heap news) (hm : (f, baO b) ∈ news) (h : Q (.builtin "bytearray.append", [.ref f]) s) : wpAny M A (getMethod (.ref f) (Str.ofString "append") pl) Q E s :=
  getMethod_builtin ⟨_, (N _ hm).1, rfl⟩ plainAttrs_ba B.slot_append type_append (fun a e => by cases e; exact ⟨_, (N _ hm).1, rfl⟩) h
theorem get_extend {M : Model} {pl : Sem Bool} {Q : Value × List Value → Shared → Prop} (N : News h₀ L s.heap news) (hm : (f, baO b) ∈ news) (h : Q (.builtin "bytearray.extend", [.ref f]) s) : wpAny M A (getMethod (.ref f) (Str.ofString "extend") pl) Q E s :=
  getMethod_builtin ⟨_, (N _ hm).1, rfl⟩ plainAttrs_ba B.slot_extend type_extend (fun a e => by cases e; exact ⟨_, (N _ hm).1, rfl⟩) h
end
local macro_rules | `(tactic| walk_at "getMethod ref") => `(tactic| (k_here; (with_reducible show wpAny _ _ (getMethod (Value.ref _) (Str.ofString "append") _) _ _ _); k_dflt (refine' get_append ?k1 ?k2 ?_; (case k1 => k_asm); (case k2 => k_mem))))
local macro_rules | `(tactic| walk_at "getMethod ref") => `(tactic| (k_here; (with_reducible show wpAny _ _ (getMethod (Value.ref _) (Str.ofString "extend") _) _ _ _); k_dflt (refine' get_extend ?k1 ?k2 ?_; (case k1 => k_asm); (case k2 => k_mem))))
local macro_rules | `(tactic| walk_at "binaryOp RShift int int") => `(tactic| (refine rshift_int ?_ ?_; omega))
theorem utf_spec (w : World) (text : NStr) (tx : NTok) (ht : ∀ c ∈ text.cps.toList, c ∈ theSigns) (hz : text.cps.size ≤ 8) :
    CallD PySem.Challenge.rw_nm0117_01.row.prog w (NmTop.hd.heap_1 w.params) NmTop.hd.view_1 (looseW NmTop.hd.view_1 [Str.ofString "text_of"]) 12 50 199
      [] [.str text tx]
      (fun base outer h₀ env L m s Q E G =>
        (text.cps.toList.any isSur = false → ∀ (t : NTok) (h' : Heap) (tk : Nat), Fr h₀ L h' m → Stay s.heap h' [] → Q (.bytes (byteArr (u8s text.cps.toList)) t) { s with heap := h', toks := tk }) →
        (text.cps.toList.any isSur = true → ∀ (ex d : Addr) (u1 uw : NTok) (g₂ h' : Heap) (tk : Nat), Fr h₀ L g₂ m → RaisedD base g₂ (env :: outer) ex 70 d [(d, exD2 w wSur u1 uw)] h' → g₂.UpToSlots h' → Stay s.heap g₂ [] → E (.ref ex) { s with heap := h', toks := tk }) → G) := by
  k_fill
  unfold CallD
  dsimp only
  intro mean mg mb dp un gd cn cs a ccd cl outer A₀ base h₀ L m s Q E iB iF iX iN iT ik id iu hret hexc
  refine wpD_call ?_
  k_dflt (refine' code_defGD ?k1 ?k2 ?k3 ?k4 ?k5 ?kA ?kF ?kK ?k6 ?k7 ?k8 ?k9 ?kB ?_ ?c2 ?c3 ?c4 ?c5; (case kA => exact rfl); (case kF => exact rfl); (case kK => first | assumption | exact rfl); (case k1 => k_asm); (case k2 => k_asm); (case k3 => k_asm); (case k4 => k_asm); (case k5 => k_asm); (case k6 => k_is); (case k7 => k_is); (case k8 => ktr_room); (case k9 => first | exact BindsTo.of_eq rfl | exact binds_K (by k_in) rfl (by k_is) rfl rfl rfl); (case c5 => decide); (case kB => exact locs rfl); (case c2 => exact rfl); (case c3 => exact rfl); (case c4 => exact rfl); intro g' L' h' FG' F' N' B' X' T' kG')
  refine wpD_cons (wpD_Assign (wpD_Call ?_))
  k_steps
  refine wpD_with0 (fun a q => by cases q) ?_
  refine baNew_K (by k_asm) (by k_asm) fun f h1 F1 N1 nf => ?_
  clear N' nf
  k_steps
  refine wpD_consOn ?_
  rename (Fr _ _ _ _) => F2
  rename (News _ _ _ _) => N2
  refine For_strK (f := f) (text := text) (fun i => byteArr (u8s (text.cps.toList.take i))) [Str.ofString "point"] (fun i => (text.cps.toList.take i).any isSur = false) F2 N2 rfl rfl rfl rfl ?iter ?turn ?done
  case iter =>
    k_steps
    all_goals rfl
  case turn =>
    intro i c u t h9 tk9 I it hc hf hP F3 N3
    clear F2 N2
    have hcm : c ∈ theSigns := ht c (List.mem_of_getElem? (by rw [Array.getElem?_toList]; exact hc))
    have hcs : c < 1114112 := (by decide : ∀ c ∈ theSigns, c < 1114112) c hcm
    refine wpD_consOff ?_
    k_steps
    refine wpD_consOff ?_
    k_steps
    · refine' hexc ?z_h _ _ _ _ _ _ _ FG' (RaisedD.sub ?z_R ?z_M) ?z_U kG'
      case z_R => assumption
      case z_M => refine' List.forall_mem_cons.mpr ⟨?_, List.forall_mem_nil _⟩ <;> k_dflt k_mem
      case z_U => assumption
      case z_h =>
        rw [List.any_eq_true]
        refine ⟨c, List.mem_of_getElem? (by rw [Array.getElem?_toList]; exact hc), ?_⟩
        unfold isSur
        rw [Bool.and_eq_true]
        exact ⟨decide_eq_true (by omega), decide_eq_true (by omega)⟩
    all_goals
      have hns : isSur c = false := by
        unfold isSur
        rw [Bool.and_eq_false_iff]
        first | exact .inl (decide_eq_false (by omega)) | exact .inr (decide_eq_false (by omega))
      have hP1 := sur_take (by rw [Array.getElem?_toList]; exact hc) hP hns
      have hA := u8s_take (l := text.cps.toList) (i := i) (c := c) (by rw [Array.getElem?_toList]; exact hc)
      have hR := u8_range c hcm
      clear hns hP F3 N3
      dsimp only
      refine wpD_consOn (wpD_IfOff ?_)
      k_steps
    all_goals try (refine wpD_consOn (wpD_IfOff ?_); k_steps)
    all_goals try (refine wpD_consOn (wpD_IfOff ?_); k_steps)
    all_goals
      refine wpD_consOn (wpD_Expr (wpD_Method ?_))
      k_steps
      refine wpD_with1 (fun a q => by cases q) ?_
      k_steps
    all_goals
      have hZ := u8s_lenT text.cps i
      have hZ2 := u8_len (c : Nat)
      have hm : ∀ {v1 v2 : Option Value} (z : Str), [Str.ofString "sign", Str.ofString "point"].contains z = false → (if z = Str.ofString "point" then v1 else if z = Str.ofString "sign" then v2 else if [Str.ofString "point"].contains z = true then u z else (if z = Str.ofString "found" then some (Value.ref f) else ([(Str.ofString "text", Value.str text tx)] : List (Str × Value)).lookup z)) = (if z = Str.ofString "found" then some (Value.ref f) else ([(Str.ofString "text", Value.str text tx)] : List (Str × Value)).lookup z) := fun z hz => by
        simp only [List.contains_cons, List.contains_nil, Bool.or_false, Bool.or_eq_false_iff, beq_eq_false_iff_ne] at hz
        rw [if_neg hz.2, if_neg hz.1, if_neg (by simpa using hz.2)]
      first
      | (refine' baAppend_K ?z_F ?z_N hf ?z_0 ?z_1 ?z_z fun h8 F8 N8 => ⟨rfl, ?z_E⟩
         case z_F => assumption
         case z_N => assumption
         case z_0 => omega
         case z_1 => omega
         case z_z => rw [byteArr_size, sizeLine_eq]; omega
         case z_E =>
           repeat refine wpAny_execs_nil ?_
           exact ⟨.inl rfl, hP1, _, _, _, rfl, hm, F8, by rw [hA, u8_1 (by omega)]; exact N8⟩)
      | (refine' baExtend_K (ns := u8 (c : Nat)) rfl ?z_F (cb_drop ?z_N ?z_N2) (cb_drop ?z_L ?z_L2) hf ?z_i ?z_r ?z_z fun h8 tk8 F8 N8 => ⟨rfl, ?z_E⟩
         case z_F => assumption
         case z_N => assumption
         case z_N2 => refine' List.forall_mem_cons.mpr ⟨?_, List.forall_mem_cons.mpr ⟨?_, List.forall_mem_nil _⟩⟩ <;> k_dflt k_mem
         case z_L => assumption
         case z_L2 => refine' List.forall_mem_cons.mpr ⟨?_, List.forall_mem_nil _⟩ <;> k_dflt k_mem
         case z_i =>
           first | rw [u8_2 (by omega) (by omega)] | rw [u8_3 (by omega) (by omega)] | rw [u8_4 (by omega)]
           repeat (first | exact IntsAre.nil | refine IntsAre.cons _ _ ?_)
         case z_r => exact hR
         case z_z => rw [byteArr_size, sizeLine_eq]; omega
         case z_E =>
           repeat refine wpAny_execs_nil ?_
           exact ⟨.inl rfl, hP1, _, _, _, rfl, hm, F8, by rw [hA]; exact N8⟩)
  case done =>
    intro h9 tk9 u hP F3 N3
    clear F2 N2
    have e : text.cps.toList.take text.cps.size = text.cps.toList := List.take_of_length_le (by rw [Array.length_toList]; exact Nat.le_refl _)
    have hZ := u8s_lenT text.cps text.cps.size
    rw [e] at hP N3 hZ
    k_steps
    refine ba_bytes (N3 _ (.head _)).1 (by rw [byteArr_size, sizeLine_eq]; omega) ?_
    k_steps
    exact hret hP _ _ _ (by assumption) (Stay.mk kG' F3)
end
section
local macro_rules | `(tactic| walk_at "idle line") => `(tactic| fail)
open PySem PySem.W PySem.Spec PySem.Calls PyProof.Rows
theorem fresh_CText : True := by w_top off; exact True.intro
local macro_rules | `(tactic| walk_at "exec While Compare cons nil") => `(tactic| (refine Halt.out ?_))
/-- the bits of the octets that follow -/
def cont : List Int → Int → Option Int
  | [], p => some p
  | o :: r, p => if Builtin.bitAnd o 192 = 128 then cont r (Builtin.bitOr (p * 2 ^ Int.toNat 6) (Builtin.bitAnd o 63)) else none
/-- one sign: its point, how many octets follow the first -/
def tOne (ks : List Int) (at_ : Nat) : Option (Int × Nat) :=
  match hOf (ks.getD at_ 0) with
  | none => none
  | some (f, p, l) =>
    if (ks.length : Int) ≤ at_ + f then none
    else match cont ((ks.drop (at_ + 1)).take f.toNat) p with
      | none => none
      | some q => if q < l ∨ 1114111 < q ∨ (55296 ≤ q ∧ q < 57344) then none else some (q, f.toNat)
/-- the signs from an octet on, or where it is malformed -/
def tGo (ks : List Int) : Nat → Nat → List Int → Except Nat (List Int)
  | 0, _, acc => .ok acc
  | n + 1, at_, acc => if at_ < ks.length then (match tOne ks at_ with | none => .error at_ | some (q, f) => tGo ks n (at_ + 1 + f) (acc ++ [q])) else .ok acc
def chS (q : Int) : Str := ⟨#[q.toNat]⟩
/-- the text of these points -/
def txtOf (qs : List Int) : Str := Txt.join (Str.ofString "") (qs.map chS)
theorem chS_sum : ∀ l : List Int, ((l.map chS).map (·.length)).sum = l.length
  | [] => rfl
  | q :: l => by
    rw [List.map_cons, List.map_cons, List.sum_cons, chS_sum l, List.length_cons]
    show 1 + l.length = _
    omega
structure TSt where
  ys : List Value
  acc : List Int
  k : Nat
  at_ : Int
  ta : Tok
theorem tGo_bad {ks : List Int} {n at_ : Nat} {acc : List Int} (h : at_ < ks.length) (h1 : tOne ks at_ = none) : tGo ks (n + 1) at_ acc = .error at_ := by rw [tGo, if_pos h, h1]
theorem tGo_next {ks : List Int} {n at_ f : Nat} {q : Int} {acc : List Int} (h : at_ < ks.length) (h1 : tOne ks at_ = some (q, f)) : tGo ks (n + 1) at_ acc = tGo ks n (at_ + 1 + f) (acc ++ [q]) := by rw [tGo, if_pos h, h1]
theorem tGo_end {ks : List Int} {n at_ : Nat} {acc : List Int} (h : ¬ at_ < ks.length) : tGo ks n at_ acc = .ok acc := by
  cases n with
  | zero => rfl
  | succ n => rw [tGo, if_neg h]
theorem hOf_bd {o f p l : Int} (h0 : 0 ≤ o) (h1 : o < 256) (h : hOf o = some (f, p, l)) : 0 ≤ f ∧ f ≤ 3 ∧ 0 ≤ p ∧ p < 256 ∧ 0 ≤ l := by
  unfold hOf at h
  have a1 := bitAnd_range o (show (0 : Int) ≤ 31 by decide)
  have a2 := bitAnd_range o (show (0 : Int) ≤ 15 by decide)
  have a3 := bitAnd_range o (show (0 : Int) ≤ 7 by decide)
  split at h
  · cases h; omega
  · split at h
    · cases h; omega
    · split at h
      · cases h; omega
      · split at h
        · cases h; omega
        · cases h
theorem clip_in {n : Nat} {i : Int} (h0 : 0 ≤ i) (h1 : i ≤ n) : clipAt n i = i.toNat := by
  unfold clipAt
  rw [if_neg (by omega)]
  congr 1
  omega
theorem slice_is {ks : List Int} {at_ f : Int} (h0 : 0 ≤ at_) (h1 : 0 ≤ f) (h2 : at_ + f < ks.length) : List.take (clipAt ks.length (at_ + 1 + f) - clipAt ks.length (at_ + 1)) (List.drop (clipAt ks.length (at_ + 1)) ks) = (ks.drop (at_.toNat + 1)).take f.toNat := by
  rw [clip_in (by omega) (by omega), clip_in (by omega) (by omega)]
  rw [show (at_ + 1).toNat = at_.toNat + 1 by omega, show (at_ + 1 + f).toNat - (at_.toNat + 1) = f.toNat by omega]
theorem cont_at {sl : List Int} {pre post : List Int} {n : Int} (e : sl = pre ++ n :: post) : sl.drop pre.length = n :: post := by
  rw [e, List.drop_left']
  rfl
theorem cont_nx {sl : List Int} {pre post : List Int} {n : Int} (e : sl = pre ++ n :: post) : sl.drop (pre ++ [n]).length = post := by
  rw [e, show pre ++ n :: post = (pre ++ [n]) ++ post by simp, List.drop_left']
  rfl
theorem cont_bd {p q n : Int} {k : Nat} (h0 : 0 ≤ p) (h1 : p < 256 * 64 ^ k) (hq : q = Builtin.bitOr (p * 2 ^ Int.toNat 6) (Builtin.bitAnd n 63)) : 0 ≤ q ∧ q < 256 * 64 ^ (k + 1) := by
  have h2 := bitAnd_range n (show (0 : Int) ≤ 63 by decide)
  have h3 := bitAnd_range (p * 2 ^ Int.toNat 6) h2.1
  have e : (2 : Int) ^ Int.toNat 6 = 64 := by decide
  rw [bitOr_and] at hq
  rw [e] at hq h3
  rw [Int.pow_succ]
  generalize (64 : Int) ^ k = B at *
  omega
theorem pow64_le {k : Nat} (h : k ≤ 3) : (64 : Int) ^ k ≤ 262144 := by
  rcases k with _ | _ | _ | _ | k
  · decide
  · decide
  · decide
  · decide
  · omega
theorem tOne_cont {ks : List Int} {at_ : Nat} {f p l : Int} (h : hOf (ks.getD at_ 0) = some (f, p, l)) (hl : at_ + f < ks.length) (hc : cont ((ks.drop (at_ + 1)).take f.toNat) p = none) : tOne ks at_ = none := by
  unfold tOne; rw [h]; dsimp only; rw [if_neg (by omega), hc]
theorem tOne_bad {ks : List Int} {at_ : Nat} {f p l q : Int} (h : hOf (ks.getD at_ 0) = some (f, p, l)) (hl : at_ + f < ks.length) (hc : cont ((ks.drop (at_ + 1)).take f.toNat) p = some q) (hb : q < l ∨ 1114111 < q ∨ (55296 ≤ q ∧ q < 57344)) : tOne ks at_ = none := by
  unfold tOne; rw [h]; dsimp only; rw [if_neg (by omega), hc]; dsimp only; rw [if_pos hb]
theorem tOne_ok {ks : List Int} {at_ : Nat} {f p l q : Int} (h : hOf (ks.getD at_ 0) = some (f, p, l)) (hl : at_ + f < ks.length) (hc : cont ((ks.drop (at_ + 1)).take f.toNat) p = some q) (hb : ¬ (q < l ∨ 1114111 < q ∨ (55296 ≤ q ∧ q < 57344))) : tOne ks at_ = some (q, f.toNat) := by
  unfold tOne; rw [h]; dsimp only; rw [if_neg (by omega), hc]; dsimp only; rw [if_neg hb]
theorem Without.none {e : Addr} {r : List (Addr × Obj)} : Without e r [] := fun _ h => nomatch h
theorem Without.two {e : Addr} {p : Addr × Obj} {o : Obj} {r : List (Addr × Obj)} (n : p.1 ≠ e) : Without e (p :: (e, o) :: r) [p] := Without.keep n (Without.skip Without.none)
local macro_rules | `(tactic| k_upd) => `(tactic| (refine' Without.two ?a; (case a => k_ne)))
theorem head_use {w : World} {o at_ : Int} {to ta : NTok} {mean : ExcName → Option Value} {mg mb : Str → Option Value} {dp un : Nat} {gd : Option (List Code)} {cn : Str} {cs : Scope} {a : Addr} {ccd : Value} {cl : List (Str × Addr)} {outer : List Env} {A₀ : Around} {base h₀ : Heap} {L : Addr} {m : Str → Option Value} {s : Shared} {Q E : Value → Shared → Prop} {news : NLed}
    (B : Below A₀ base outer h₀) (F : Fr h₀ L s.heap m) (X : (NmTop.hd.heap_1 w.params).In h₀) (N : News h₀ L s.heap news) (T : Top NmTop.hd.view_1 (looseW NmTop.hd.view_1 [Str.ofString "text_of"]) mean mg mb h₀) (hk : cs.kind = .function) (hd : dp + 7 < recursionLimit) (hu : un + 30 < cLine)
    (ret : ∀ f p l : Int, hOf o = some (f, p, l) → ∀ (tt : Addr) (u1 u2 u3 : NTok) (h' : Heap) (tk : Nat), Fr h₀ L h' m → News h₀ L h' ((tt, tupO [.int f u1, .int p u2, .int l u3]) :: news) → (∀ p ∈ news, @Ne Nat p.1 tt) → Stay s.heap h' [] → Q (.ref tt) { s with heap := h', toks := tk })
    (exc : hOf o = none → ∀ (ex d : Addr) (u1 u2 uw ui : NTok) (g₂ h' : Heap) (tk : Nat), Fr h₀ L g₂ m → RaisedD base g₂ (envX cn cs L a ccd cl :: outer) ex 58 d [(d, exD w wUtf u1 uw at_ u2 ui)] h' → g₂.UpToSlots h' → Stay s.heap g₂ [] → E (.ref ex) { s with heap := h', toks := tk }) :
    wpAny (model PySem.Challenge.rw_nm0117_01.row.prog w) (ktrTop dp un gd cn cs L a ccd cl outer) (call (.ref 206) [.int o to, .int at_ ta]) Q E s :=
  head_spec w o at_ to ta mean mg mb dp un gd cn cs a ccd cl outer A₀ base h₀ L m s Q E B F X News.nil T hk hd hu (fun f p l q tt u1 u2 u3 h' tk F' N' S W => ret f p l q tt u1 u2 u3 h' tk F' (news_cat N N' S) (fun p hp => W _ _ (N p hp).1) S) exc
local macro_rules | `(tactic| walk_at "call ref") => `(tactic| (k_here; (with_reducible show wpAny _ _ (call (Value.ref 206) [Value.int _ _, Value.int _ _]) _ _ _); k_dflt (refine' head_use ?k1 ?k2 ?k3 ?k4 ?k5 ?k6 ?k7 ?k8 ?_ ?_; (case k1 | k2 | k3 | k4 | k5 => k_asm); (case k6 => first | assumption | exact rfl); (case k7 => ktr_room); (case k8 => ktr_units))))
local macro_rules | `(tactic| walk_at "call builtin:list.append") => `(tactic| (k_here; (with_reducible show wpAny _ _ (call (Value.builtin _) [Value.ref _, _]) _ _ _); k_dflt (refine' appL ?k1 ?k2 ?k3 ?k4 ?_; (case k1 | k2 => k_asm); (case k3 => k_upd); (case k4 => (try simp only [List.length_append, List.length_cons, List.length_nil]); omega); k_whole); intro h' F' N'; (try k_sweep)))
local macro_rules | `(tactic| walk_at "InvEndN") => `(tactic| (refine Halt.out ?_))
local macro_rules | `(tactic| walk_at "binaryOp LShift int int") => `(tactic| (refine lshift_int_small ?_ ?_ ?_ ?_; omega; omega; omega))
local macro_rules | `(tactic| walk_at "exec For Name Subscript cons nil") => `(tactic| (k_here; (rename Fr _ _ _ _ => lF'); (with_unfolding_all refine' For_invVF lF' ?k1 ?k2 ?_; (case k1 | k2 => exact rfl); k_whole)))
local macro_rules | `(tactic| walk_at "pyIter bytes") => `(tactic| (refine Halt.out ?_))
theorem text_spec (w : World) (b : Array UInt8) (ks : List Int) (tb : NTok) (hb : KBw.bInts b = ks) (hz : ks.length ≤ 64) :
    CallAt PySem.Challenge.rw_nm0117_01.row.prog w (NmTop.hd.heap_1 w.params) NmTop.hd.view_1 (looseW NmTop.hd.view_1 [Str.ofString "text_of"]) 12 50 214
      [] [.bytes b tb]
      (fun base outer h₀ env L m s Q E G =>
        (∀ (qs : List Int), tGo ks ks.length 0 [] = .ok qs → ∀ (t : NTok) (h' : Heap) (tk : Nat), Fr h₀ L h' m → Stay s.heap h' [] → Q (.str (txtOf qs) t) { s with heap := h', toks := tk }) →
        (∀ (i : Nat) (ii : Int), tGo ks ks.length 0 [] = .error i → ii = i → ∀ (ex d : Addr) (u1 u2 uw ui : NTok) (g₂ h' : Heap) (tk : Nat), Fr h₀ L g₂ m → RaisedD base g₂ (env :: outer) ex 58 d [(d, exD w wUtf u1 uw ii u2 ui)] h' → g₂.UpToSlots h' → Stay s.heap g₂ [] → E (.ref ex) { s with heap := h', toks := tk }) → G) := by
  k_fill
  unfold CallAt
  dsimp only
  intro mean mg mb dp un gd cn cs a ccd cl outer A₀ base h₀ L m s Q E iB iF iX iN iT ik id iu hret hexc
  refine wpAny_call ?_
  k_dflt cell_enter
  k_steps
  rename (Fr _ _ _ _) => F9
  rename (News _ _ _ _) => N9
  unfold Halt
  refine' while_to (σ := TSt) (fun c => [(_, listOf c.ys.toArray c.ys.length)]) (fun c => [(Str.ofString "at", .int c.at_ c.ta)]) [Str.ofString "at", Str.ofString "follow", Str.ofString "point", Str.ofString "least", Str.ofString "octet"]
    (fun c => StrsAre c.ys (c.acc.map chS) ∧ c.acc.length = c.k ∧ (c.k : Int) ≤ c.at_ ∧ c.at_ ≤ ks.length ∧ tGo ks ks.length 0 [] = tGo ks (ks.length - c.k) c.at_.toNat c.acc)
    (fun c => StrsAre c.ys (c.acc.map chS) ∧ c.acc.length ≤ ks.length ∧ tGo ks ks.length 0 [] = .ok c.acc) (fun c => ks.length - c.at_.toNat) ⟨[], [], 0, 0, _⟩ F9 ?N ?H0 ?P0 ?turn ?cont ?pE
  case N => exact cb_drop N9 (by refine' List.forall_mem_cons.mpr ⟨?_, List.forall_mem_nil _⟩ <;> k_dflt k_mem)
  case H0 => refine' List.forall_mem_cons.mpr ⟨?_, List.forall_mem_nil _⟩ <;> rfl
  case P0 => exact ⟨by first | exact True.intro | constructor | rfl, rfl, Int.le_refl _, Int.natCast_nonneg _, rfl⟩
  case pE => passes_own
  case turn =>
    rintro ⟨ys, acc, k, at_, ta⟩ u h9 tk9 hP F0 N1
    have F1 := F0
    dsimp only at hP N1 ⊢
    dsimp only [kstB] at F1
    clear F9 N9
    obtain ⟨hP0, hP1, hP2, hP3, hP4⟩ := hP
    have fault : tOne ks at_.toNat = none → at_ < ks.length → tGo ks ks.length 0 [] = .error at_.toNat := fun e q => by
      rw [hP4, show ks.length - k = (ks.length - k - 1) + 1 by omega]
      exact tGo_bad (by omega) e
    have hrange : ∀ o ∈ ks, 0 ≤ o ∧ o < 256 := fun o ho => KBw.ints_in (by rw [hb]; exact ho)
    k_steps
    · rename (hOf _ = _) => z_h
      refine' hexc at_.toNat _ (fault ?z_f ?z_l) ?z_i _ _ _ _ _ _ _ _ _ ?z_F (RaisedD.sub ?z_R ?z_M) ?z_U ?z_S
      case z_R => assumption
      case z_M => refine' List.forall_mem_cons.mpr ⟨?_, List.forall_mem_nil _⟩ <;> k_dflt k_mem
      case z_F => assumption
      case z_U => assumption
      case z_S => assumption
      case z_l => omega
      case z_i => omega
      case z_f => unfold tOne; rw [z_h]; dsimp only; rw [if_pos (by omega)]
    · rename (hOf _ = _) => z_h
      obtain ⟨f0, p0, l0, e0⟩ : ∃ f p l, hOf (ks.getD at_.toNat 0) = some (f, p, l) := ⟨_, _, _, z_h⟩
      have e1 := Option.some.inj (e0.symm.trans z_h)
      clear e0
      simp only [Prod.mk.injEq] at e1
      obtain ⟨rfl, rfl, rfl⟩ := e1
      unfold Halt
      have hob := hrange (ks.getD at_.toNat 0) (by
        rw [List.getD_eq_getElem?_getD, List.getElem?_eq_getElem (by omega)]
        exact List.getElem_mem _)
      have hbd := hOf_bd hob.1 hob.2 z_h
      rename (KBw.bInts (KBy.picked _ _ _) = _) => z_b
      rw [slice_is (by omega) hbd.1 (by omega)] at z_b
      rename (Fr _ _ _ _) => F8
      rename (News _ _ _ _) => N8
      (with_unfolding_all refine' KStb.kst_bytes (σ := Int × Tok) (fun _ => [(_, listOf ys.toArray ys.length)]) (fun c => [(Str.ofString "point", .int c.1 c.2)]) (fun _ => True) [Str.ofString "point"] (fun pre c => 0 ≤ c.1 ∧ c.1 < 256 * 64 ^ pre.length ∧ cont ((ks.drop (at_.toNat + 1)).take f0.toNat) p0 = cont (((ks.drop (at_.toNat + 1)).take f0.toNat).drop pre.length) c.1) (p0, _) z_b rfl rfl F8 ?y_N trivial ?y_k ?y_p ?y_turn ?y_done)
      case y_N => exact cb_drop N8 (by refine' List.forall_mem_cons.mpr ⟨?_, List.forall_mem_nil _⟩ <;> k_dflt k_mem)
      case y_k => refine' List.forall_mem_cons.mpr ⟨?_, List.forall_mem_nil _⟩ <;> rfl
      case y_p => exact ⟨hbd.2.2.1, by rw [List.length_nil, Int.pow_zero, Int.mul_one]; exact hbd.2.2.2.1, rfl⟩
      case y_turn =>
        rintro ⟨pt, tp⟩ pre post n t u7 h7 tk7 own e hl hn0 hn1 hoff - ⟨i0, i1, i2⟩ F7 N7
        dsimp only at i0 i1 i2 F7 N7 ⊢
        dsimp only [kstB] at F7
        clear F8 N8
        have hlen : pre.length ≤ 2 := by
          rw [List.length_take] at hl
          omega
        have hpt : pt < 67108864 := by
          have h9 := pow64_le (k := pre.length) (by omega)
          generalize (64 : Int) ^ pre.length = B at *
          omega
        have i3 := i2.trans (by rw [cont_at e])
        k_steps
        · refine' hexc at_.toNat _ (fault (tOne_cont z_h ?z_l1 (i3.trans ?z_f)) ?z_l) ?z_i _ _ _ _ _ _ _ _ _ ?z_F ?z_R ?z_U ?z_S
          case z_R => assumption
          case z_F => assumption
          case z_U => assumption
          case z_S => assumption
          case z_l => omega
          case z_l1 => omega
          case z_i => omega
          case z_f => rw [cont, if_neg (by assumption)]
        · unfold Halt
          have hq := cont_bd i0 i1 (show Builtin.bitOr (pt * 2 ^ Int.toNat 6) (Builtin.bitAnd n 63) = _ from rfl)
          with_unfolding_all refine' kst_end (Builtin.bitOr (pt * 2 ^ Int.toNat 6) (Builtin.bitAnd n 63), _) ?w_F ?w_N ?w_hn ?w_ho ?w_ha ?w_hf ?w_hk ?w_hr ?w_hp
          case w_F => assumption
          case w_N => assumption
          case w_hn => exact fun p hp => List.mem_append_left _ hp
          case w_ho => exact fun p hp => List.mem_append_right _ hp
          case w_ha => rfl
          case w_hf => trivial
          case w_hk => refine' List.forall_mem_cons.mpr ⟨?_, List.forall_mem_nil _⟩; with_unfolding_all rfl
          case w_hr =>
            intro z h1 h2 h3
            have h4 := h2 _ (.head _)
            dsimp only at h4 ⊢
            rw [if_neg h4, if_neg h1, if_neg h4, if_neg (by rw [h3]; exact Bool.false_ne_true)]
          case w_hp =>
            refine ⟨hq.1, ?_, i3.trans ?_⟩
            · rw [List.length_append]; exact hq.2
            · rw [cont_nx e, cont, if_pos (by assumption)]
      case y_done =>
        rintro ⟨pt, tp⟩ u7 h7 tk7 - - ⟨i0, i1, i2⟩ F7 N7
        dsimp only at i0 i1 i2 F7 N7 ⊢
        dsimp only [kstB] at F7
        clear F8 N8
        have hpt : pt < 67108864 := by
          have h9 := pow64_le (k := ((ks.drop (at_.toNat + 1)).take f0.toNat).length) (by rw [List.length_take]; omega)
          generalize (64 : Int) ^ (((ks.drop (at_.toNat + 1)).take f0.toNat).length) = B at *
          omega
        rw [List.drop_length] at i2
        replace i2 : _ = some pt := i2
        k_steps
        all_goals first
          | (refine' hexc at_.toNat _ (fault (tOne_bad z_h ?z_l1 i2 ?z_f) ?z_l) ?z_i _ _ _ _ _ _ _ _ _ ?z_F ?z_R ?z_U ?z_S
             case z_R => assumption
             case z_F => assumption
             case z_U => assumption
             case z_S => assumption
             case z_l => omega
             case z_l1 => omega
             case z_i => omega
             case z_f => omega)
          | (rename (News _ _ _ _) => z_N9
             simp only [List.push_toArray] at z_N9
             refine' ksw_end (⟨ys ++ [_], acc ++ [pt], k + 1, at_ + 1 + f0, _⟩ : TSt) ?v_F ?v_N ?v_hn ?v_hf ?v_hk ?v_hr ?v_hp ?v_hm
             case v_F => assumption
             case v_N => assumption
             case v_hn => (refine' List.forall_mem_cons.mpr ⟨?_, List.forall_mem_nil _⟩ <;> (dsimp only; rw [List.length_append]; k_dflt k_mem))
             case v_hf => trivial
             case v_hk => (refine' List.forall_mem_cons.mpr ⟨?_, List.forall_mem_nil _⟩ <;> with_unfolding_all rfl)
             case v_hr => ksw_same
             case v_hp =>
               refine ⟨?_, ?_, ?_, ?_, ?_⟩
               · dsimp only
                 rw [List.map_append]
                 exact hP0.append' (.cons _ _ .nil)
               · simp only [List.length_append, List.length_cons, List.length_nil]; omega
               · dsimp only; omega
               · dsimp only; omega
               · dsimp only
                 rw [hP4, show ks.length - k = (ks.length - (k + 1)) + 1 by omega, tGo_next (by omega) (tOne_ok z_h (by omega) i2 (by omega))]
                 rw [show at_.toNat + 1 + f0.toNat = (at_ + 1 + f0).toNat by omega]
             case v_hm => (dsimp only; omega))
    · rename (hOf _ = _) => z_h
      refine' hexc at_.toNat _ (fault ?z_f ?z_l) ?z_i _ _ _ _ _ _ _ _ _ ?z_F ?z_R ?z_U ?z_S
      case z_R => assumption
      case z_F => assumption
      case z_U => assumption
      case z_S => assumption
      case z_l => omega
      case z_i => omega
      case z_f => unfold tOne; rw [z_h]
    · refine' ⟨rfl, (⟨ys, acc, k, at_, ta⟩ : TSt), u, h9, _, rfl, ⟨hP0, (show acc.length ≤ ks.length by omega), hP4.trans (tGo_end (show ¬ at_.toNat < ks.length by omega))⟩, F0, N1⟩
  case cont =>
    rintro ⟨ys, acc, k, at_, ta⟩ u h9 tk9 hP F1 N1
    dsimp only at hP N1 ⊢
    dsimp only [kstB] at F1
    clear F9 N9
    obtain ⟨hP0, hP1, hP2⟩ := hP
    k_steps
    refine join_listW (led_list N1 (.head _)) hP0 (by decide +kernel) (by rw [chS_sum, List.length_map]; omega) fun t' k' => ?_
    k_steps
    refine' hret _ hP2 _ _ _ ?z_F ?z_S
    case z_F => assumption
    case z_S => exact Stay.mk (by assumption) (by assumption)
end
section
local macro_rules | `(tactic| walk_at "idle line") => `(tactic| fail)
local macro_rules | `(tactic| walk_at "idle line") => `(tactic| fail)
local macro_rules | `(tactic| walk_at "idle line") => `(tactic| fail)
open PySem PySem.W PySem.Spec PySem.Calls PyProof.Rows
theorem fresh_CLet : True := by w_top off; exact True.intro
local macro_rules | `(tactic| tb_start) => `(tactic| (refine' code_defT ?k1 ?k2 ?k3 ?k4 ?k5 ?kA ?k6 ?k7 ?k8 ?k9 ?kB ?_ ?cK ?c2 ?c3 ?c4 ?c5; (case kA => exact rfl); (case cK => first | assumption | exact rfl); (case k1 | k2 | k3 | k4 | k5 => k_asm); (case k6 | k7 => k_is); (case k8 => ktr_room); (case k9 => exact BindsTo.of_eq rfl); (case c5 => decide); (case kB => exact locs rfl); (case c2 | c3 | c4 => exact rfl); k_whole; intro g' L' h' FG' F' N' B' X' T' D' kG'; (try dsimp only); (try k_lift B'); (try k_fold)))
local macro_rules | `(tactic| walk_at "noteFrame ref") => `(tactic| (k_here; (rename RaisedD _ _ _ _ _ _ _ _ => rdX); k_dflt (refine' caughtD ?R ?F ?K ?U ?XB ?TB ?D ?T0 ?ex ?q ?_; (case R | F | K | U | XB | TB | D => assumption); (case T0 => first | assumption | exact KtsTurn.refl); (case ex => k_is); (case q => kts_isx); k_whole); intro oe' h' g' tk' xo' T' F' N' K' X' P' D'; (try k_lift K'); (try k_sweep)))
local macro_rules | `(tactic| walk_at "getAttr ref") => `(tactic| (k_here; k_dflt (refine' getX ?k1 ?k2 ?k3 ?k4 ?k5 ?k6 ?k7 ?k71 ?k72 ?k8 ?k9 ?k10 ?k11 ?k12 ?_; (case k4 => assumption); (case k3 | k1 | k2 => k_asm); (case k5 | k6 => k_mem); (case k7 | k71 | k72 | k8 | k9 | k10 => k_is); (case k11 => k_get); (case k12 => k_handed); k_whole)))
/-- a call in the frame of the def that the claim calls, the stack clean -/
abbrev CallD0 (prog : Program) (w : World) (K : Frag) (p : Program) (loose : List Str) (kd ku : Nat) (f : Addr) (news : NLed) (vs : List NVal)
    (G : Heap → Heap → Env → Addr → (Str → Option Value) → Shared → (Value → Shared → Prop) → (Value → Shared → Prop) → Prop → Prop) : Prop :=
  ∀ (mean : ExcName → Option Value) (mg mb : Str → Option Value) (dp un : Nat) (gd : Option (List Code)) (cn : Str) (cs : Scope) (a : Addr) (ccd : Value) (A₀ : Around) (base h₀ : Heap) (L : Addr) (m : Str → Option Value) (s : Shared) (Q E : Value → Shared → Prop),
    K.In base → Top p loose mean mg mb base → Below A₀ base [] h₀ → Fr h₀ L s.heap m → K.In h₀ → News h₀ L s.heap news → Top p loose mean mg mb h₀ → cs.kind = .function → dp + kd < recursionLimit → un + ku < cLine →
    G base h₀ (envX cn cs L a ccd []) L m s Q E (wpD (model prog w) (ktrTop dp un gd cn cs L a ccd [] []) (call (.ref f) vs) Q E s)
def ptsL : List Int := [55296, 55295, 57343, 57344, 56319, 56320, 65535, 65536, 1114111, 127]
def tabL : List (List Int) := [[], [97], [97, 98], [97, 98, 195, 169]]
def aheadS (j : Nat) : Str := Txt.slice (Str.ofString "abé") none (some (j : Int))
/-- behind the first three statements -/
def LetJ (g' : Heap) (L' : Addr) (s s' : Shared) : Prop :=
  ∃ (j : Nat) (P : Int) (A : Str) (l : Addr) (vs : List NVal) (n tk : Nat) (h : Heap) (m₁ : Str → Option Value) (t1 t2 : Tok), j < 4 ∧ P ∈ ptsL ∧ A = aheadS j ∧ IntsAre vs (tabL.getD j []) ∧ s' = { s with heap := h, toks := tk } ∧
    Fr g' L' h (fun y => if y = Str.ofString "octets" then some (.ref l) else if y = Str.ofString "ahead" then some (.str A t1) else if y = Str.ofString "point" then some (.int P t2) else m₁ y) ∧ News g' L' h [(l, listOf vs.toArray n)]
theorem pts_in {i : Nat} (h : i < 10) : ptsL.getD i 0 ∈ ptsL := by
  rw [List.getD_eq_getElem?_getD, List.getElem?_eq_getElem (by exact h)]
  exact List.getElem_mem _
theorem wpD_threeH {M : Model} {A : Around} {E : Value → Shared → Prop} {s : Shared} {env : Env} (P : Shared → Prop) {Q : Flow → Shared → Prop} {a b c : Stmt} {rest : List Stmt} (h : wpAny M A (execs [a, b, c] env) (fun f s' => Halt (f = .next ∧ P s')) E s) (k : ∀ s', P s' → wpD M A (execs rest env) Q E s') : wpD M A (execs (a :: b :: c :: rest) env) Q E s := wpD_three P h k
theorem wpD_IfRet {prog : Program} {w : World} {A : Around} {E : Value → Shared → Prop} {s : Shared} {env : Env} (R : Shared → Prop) {Q : Flow → Shared → Prop} {test : Expr} {body : List Stmt} {pos : Pos} {rest : List Stmt} (hR : ∀ s', R s' → wpD (model prog w) A (execs rest env) Q E s')
    (h : wpAny (model prog w) A (isTrue test env (eval test env)) (fun b s' => if b = true then wpD (model prog w) A (execs body env) (fun f s' => Halt (f ≠ .next ∧ Q f s')) E s' else Halt (R s')) E s) : wpD (model prog w) A (execs (.If test body [] pos :: rest) env) Q E s := by
  refine wpD_cons (wpD_IfOff (wpAny_mono h (fun b s' z => ?_) fun _ _ x => x))
  cases b
  · exact wpD_nil (hR s' z)
  · refine wpD_mono z (fun f s' y => ?_) fun _ _ x => x
    cases f with
    | next => exact absurd rfl (show _ from y : Flow.next ≠ .next ∧ _).1
    | cont => exact (show _ from y : Flow.cont ≠ .next ∧ _).2
    | brk => exact (show _ from y : Flow.brk ≠ .next ∧ _).2
    | ret v => exact (show _ from y : Flow.ret v ≠ .next ∧ _).2
theorem add_chr {prog : Program} {w : World} {A : Around} {E : Value → Shared → Prop} {s : Shared} {x : Str} {c : Nat} {t u : Tok} {Q : Value → Shared → Prop} (hx : x.length ≤ 3) (h : ∀ t' tk, Q (.str (x ++ ⟨#[c]⟩) t') { s with toks := tk }) :
    wpAny (model prog w) A (binaryOp .Add (.str x t) (.str ⟨#[c]⟩ u)) Q E s := PyProof.Rows.add_str h (by rw [sizeLine_eq]; show x.length + 1 ≤ _; omega)
abbrev lt2 (j : Nat) (P : Int) : Str := aheadS j ++ ⟨#[P.toNat]⟩
theorem lt_len : ∀ j, j < 4 → (aheadS j).length ≤ 3 := by decide +kernel
theorem lt_size : ∀ j, j < 4 → ∀ P ∈ ptsL, (lt2 j P).cps.size ≤ 8 := by decide +kernel
theorem lt_signs : ∀ j, j < 4 → ∀ P ∈ ptsL, ∀ c ∈ (lt2 j P).cps.toList, c ∈ theSigns := by decide +kernel
theorem lt_sur : ∀ j, j < 4 → ∀ P ∈ ptsL, (lt2 j P).cps.toList.any isSur = decide (55296 ≤ P ∧ P < 57344) := by decide +kernel
theorem tab_len : ∀ j, j < 4 → (tabL.getD j []).length ≤ 4 := by decide +kernel
local macro_rules | `(tactic| kmk_sum) => `(tactic| (simp only [sizeLine_eq, List.length_cons, List.length_nil, List.length_append]; omega))
local macro_rules | `(tactic| walk_at "binaryOp Add str str") => `(tactic| (k_here; refine add_chr (by assumption) ?_; intro _ _))
theorem wpD_withFnH {M : Model} {A : Around} {E : Value → Shared → Prop} {s : Shared} {env : Env} {pos : Pos} {a : Addr} {first : List Value} {e : Expr} {Q : Value → Shared → Prop} (h : wpAny M A (eval e env) (fun v s₁ => Halt ((∃ o fd, s₁.heap.get? a = some o ∧ o.data = .func fd) ∧ wpD M A (call (.ref a) (first ++ [v])) Q E s₁)) E s)
    (he : starEach [e] env = [(false, eval e env)] := by rfl) : wpD M A (callWith pos (.ref a) first (backTo pos (starEach [e] env)) []) Q E s := wpD_withFn h he
theorem append_ints {prog : Program} {w : World} {A : Around} {E : Value → Shared → Prop} {s : Shared} {h₀ : Heap} {L D : Addr} {m : Str → Option Value} {news news' : List (Addr × Obj)} {vs : List Value} {ns : List Int} {n : Nat} {x : Int} {t : Tok} {Q : Value → Shared → Prop} (F : Fr h₀ L s.heap m) (N : News h₀ L s.heap news) (U : Upd D (listOf vs.toArray n) (listOf (vs ++ [Value.int x t]).toArray (n + 1)) news news') (hi : IntsAre vs ns) (hz : ns.length ≤ 1000)
    (h : ∀ h', Fr h₀ L h' m → News h₀ L h' news' → IntsAre (vs ++ [Value.int x t]) (ns ++ [x]) → Q .none { s with heap := h' }) : wpAny (model prog w) A (call (.builtin "list.append") [.ref D, .int x t]) Q E s :=
  append_K F N (by rw [List.push_toArray]; exact U) (fun h' F' N' => h h' F' N' (hi.append (.cons _ _ .nil))) (by rw [sizeLine_eq, List.size_toArray, hi.length]; omega)
local macro_rules | `(tactic| walk_at "call builtin:list.append") => `(tactic| (k_here; (with_reducible show wpAny _ _ (call (Value.builtin _) [Value.ref _, Value.int _ _]) _ _ _); k_dflt (refine' append_ints ?k1 ?k2 ?k3 ?k4 ?k5 ?_; (case k1 | k2 => k_asm); (case k3 => k_upd); (case k4 => l_ints); (case k5 => (try simp only [List.length_append, List.length_cons, List.length_nil]); omega); k_whole); intro h' F' N' hI'; (try k_sweep)))
theorem lt_o0 : ∀ j, j < 4 → ∀ P ∈ ptsL, P < 128 → tabL.getD j [] ++ [0 + Int.fdiv P (64 ^ Int.toNat 0)] = u8s (lt2 j P).cps.toList := by decide +kernel
theorem lt_o2 : ∀ j, j < 4 → ∀ P ∈ ptsL, (¬ P < 128 ∧ P < 65536 ∧ (P < 55296 ∨ 57344 ≤ P)) → tabL.getD j [] ++ [224 + Int.fdiv P (64 ^ Int.toNat 2)] ++ [128 + Int.fmod (Int.fdiv P (64 ^ Int.toNat (2 - 1 - (0 + ((0 : Nat) : Int))))) 64] ++ [128 + Int.fmod (Int.fdiv P (64 ^ Int.toNat (2 - 1 - (0 + ((0 + 1 : Nat) : Int))))) 64] = u8s (lt2 j P).cps.toList := by decide +kernel
theorem lt_o3 : ∀ j, j < 4 → ∀ P ∈ ptsL, ¬ P < 65536 → tabL.getD j [] ++ [240 + Int.fdiv P (64 ^ Int.toNat 3)] ++ [128 + Int.fmod (Int.fdiv P (64 ^ Int.toNat (3 - 1 - (0 + ((0 : Nat) : Int))))) 64] ++ [128 + Int.fmod (Int.fdiv P (64 ^ Int.toNat (3 - 1 - (0 + ((0 + 1 : Nat) : Int))))) 64] ++ [128 + Int.fmod (Int.fdiv P (64 ^ Int.toNat (3 - 1 - (0 + ((0 + 1 + 1 : Nat) : Int))))) 64] = u8s (lt2 j P).cps.toList := by decide +kernel
/-- behind the loop -/
def LetK (g' : Heap) (L' : Addr) (s : Shared) (j : Nat) (P : Int) (A : Str) (s' : Shared) : Prop :=
  ∃ (l : Addr) (vs : List NVal) (n tk : Nat) (h : Heap) (m₁ : Str → Option Value) (t1 t2 : Tok), IntsAre vs (u8s (lt2 j P).cps.toList) ∧ s' = { s with heap := h, toks := tk } ∧
    Fr g' L' h m₁ ∧ m₁ (Str.ofString "octets") = some (.ref l) ∧ m₁ (Str.ofString "ahead") = some (.str A t1) ∧ m₁ (Str.ofString "point") = some (.int P t2) ∧ News g' L' h [(l, listOf vs.toArray n)]
local macro_rules | `(tactic| walk_at "binaryOp FloorDiv int int") => `(tactic| (refine floordiv_int (by decide) ?_ (Or.inl (PyProof.noPylong_small (by decide)))))
local macro_rules | `(tactic| walk_at "binaryOp Pow int int") => `(tactic| (refine pow_int_small ?_ ?_ ?_ ?_; omega; omega; decide))
theorem lt_nosur : ∀ j, j < 4 → ∀ P ∈ ptsL, (P < 55296 ∨ 57344 ≤ P) → (lt2 j P).cps.toList.any isSur = false := by decide +kernel
theorem lt_in : ∀ j, j < 4 → ∀ P ∈ ptsL, ∀ n ∈ u8s (lt2 j P).cps.toList, 0 ≤ n ∧ n < 256 := by decide +kernel
theorem lt_in2 : ∀ j, j < 4 → ∀ P ∈ ptsL, ∀ n ∈ u8s (lt2 j P).cps.toList ++ [255], 0 ≤ n ∧ n < 256 := by decide +kernel
theorem lt_ulen : ∀ j, j < 4 → ∀ P ∈ ptsL, (u8s (lt2 j P).cps.toList).length ≤ 20 := by decide +kernel
def okT (ks : List Int) (T : Str) : Bool := match tGo ks ks.length 0 [] with
  | .ok qs => txtOf qs == T
  | .error _ => false
def badT (ks : List Int) (i : Nat) : Bool := match tGo ks ks.length 0 [] with
  | .ok _ => false
  | .error k => k == i
theorem okT_get {ks : List Int} {T : Str} (h : okT ks T = true) : ∃ qs, tGo ks ks.length 0 [] = .ok qs ∧ txtOf qs = T := by
  unfold okT at h
  split at h
  · exact ⟨_, by assumption, eq_of_beq h⟩
  · exact absurd h (by decide)
theorem badT_get {ks : List Int} {i : Nat} (h : badT ks i = true) : tGo ks ks.length 0 [] = .error i := by
  unfold badT at h
  split at h
  · exact absurd h (by decide)
  · next e => rw [e, eq_of_beq h]
theorem lt_ok : ∀ j, j < 4 → ∀ P ∈ ptsL, (P < 55296 ∨ 57344 ≤ P) → okT (u8s (lt2 j P).cps.toList) (lt2 j P) = true := by decide +kernel
theorem lt_bad : ∀ j, j < 4 → ∀ P ∈ ptsL, (P < 55296 ∨ 57344 ≤ P) → badT (u8s (lt2 j P).cps.toList ++ [255]) (u8s (lt2 j P).cps.toList).length = true := by decide +kernel
/-- what a frame holds flies on beside the exception -/
theorem RaisedD.carry {base g G h' : Heap} {A₀ : Around} {outer : List Env} {L a e C dx : Addr} {m : Str → Option Value} {name : Str} {scope : Scope} {cd : Value} {own led : List (Addr × Obj)} (R : RaisedD base G (envOf name scope L a cd :: outer) e C dx own h') (F : Fr g L G m) (N : News g L G led) (K : Below A₀ base outer g) (U : G.UpToSlots h') :
    ∃ G', RaisedD base G' (envOf name scope L a cd :: outer) e C dx (own ++ led) h' ∧ Fr g L G' m ∧ G'.UpToSlots h' := by
  obtain ⟨⟨B, a0, hB, hBG, hl, hf⟩, d⟩ := R
  refine ⟨hideAll G (led.map (·.1)), ⟨⟨B, a0, hB, fun b o e n => hBG b o (of_hideAll _ e) n, fun q hq => ?_, hf⟩, d⟩, ⟨F.ns.at' fun o e => hideAll_get _ e fun z => ?_, fun b o e => hideAll_get _ (F.keep b o e) fun z => ?_, ?_⟩, fun b o e n => U b o (of_hideAll _ e) n⟩
  · rcases List.mem_append.mp hq with hq | hq
    · refine ⟨(hl q hq).1, ?_, (hl q hq).2.2⟩
      cases hx : (hideAll G (led.map (·.1))).get? q.1 with
      | none => rfl
      | some o =>
        have h3 := of_hideAll _ hx
        rw [(hl q hq).2.1] at h3
        cases h3
    · refine ⟨hBG _ _ (N q hq).1 fun hm => ?_, hideAll_none _ (List.mem_map_of_mem hq), fresh_of_stays K.stays (N q hq).2.2⟩
      obtain ⟨env, h1, hf⟩ := List.mem_filterMap.mp hm
      rcases List.mem_cons.mp h1 with rfl | h1
      · exact (N q hq).2.1 (Option.some.inj hf).symm
      · obtain ⟨o, ho, _⟩ := (K.frames.mem (List.mem_filterMap.mpr ⟨env, h1, hf⟩)).2
        rw [(N q hq).2.2] at ho; cases ho
  · obtain ⟨q, hq, e⟩ := List.mem_map.mp z
    exact (N q hq).2.1 e
  · obtain ⟨q, hq, e'⟩ := List.mem_map.mp z
    have := (N q hq).2.2
    rw [e'] at this
    rw [this] at e
    cases e
  · exact F.above
theorem text_ok {w : World} {b : Array UInt8} {ks : List Int} {T : Str} {tb : NTok} {mean : ExcName → Option Value} {mg mb : Str → Option Value} {dp un : Nat} {gd : Option (List Code)} {cn : Str} {cs : Scope} {a : Addr} {ccd : Value} {cl : List (Str × Addr)} {outer : List Env} {A₀ : Around} {base h₀ : Heap} {L : Addr} {m : Str → Option Value} {s : Shared} {Q E : Value → Shared → Prop} {news : NLed}
    (B : Below A₀ base outer h₀) (F : Fr h₀ L s.heap m) (X : (NmTop.hd.heap_1 w.params).In h₀) (N : News h₀ L s.heap news) (T0 : Top NmTop.hd.view_1 (looseW NmTop.hd.view_1 [Str.ofString "text_of"]) mean mg mb h₀) (hk : cs.kind = .function) (hd : dp + 12 < recursionLimit) (hu : un + 50 < cLine)
    (hb : KBw.bInts b = ks) (hz : ks.length ≤ 64) (hG : okT ks T = true)
    (ret : ∀ (t : NTok) (h' : Heap) (tk : Nat), Fr h₀ L h' m → News h₀ L h' news → Stay s.heap h' [] → Q (.str T t) { s with heap := h', toks := tk }) :
    wpAny (model PySem.Challenge.rw_nm0117_01.row.prog w) (ktrTop dp un gd cn cs L a ccd cl outer) (call (.ref 214) [.bytes b tb]) Q E s := by
  obtain ⟨qs, h1, rfl⟩ := okT_get hG
  refine text_spec w b ks tb hb hz mean mg mb dp un gd cn cs a ccd cl outer A₀ base h₀ L m s Q E B F X News.nil T0 hk hd hu (fun qs' h2 t h' tk F' S => ?_) (fun i ii h2 => ?_)
  · rw [h1] at h2
    cases h2
    exact ret t h' tk F' (news_cat N News.nil S) S
  · rw [h1] at h2
    cases h2
theorem text_bad {w : World} {b : Array UInt8} {ks : List Int} {i : Nat} {tb : NTok} {mean : ExcName → Option Value} {mg mb : Str → Option Value} {dp un : Nat} {gd : Option (List Code)} {cn : Str} {cs : Scope} {a : Addr} {ccd : Value} {outer : List Env} {A₀ : Around} {base h₀ : Heap} {L : Addr} {m : Str → Option Value} {s : Shared} {Q E : Value → Shared → Prop} {news : NLed}
    (B : Below A₀ base outer h₀) (F : Fr h₀ L s.heap m) (X : (NmTop.hd.heap_1 w.params).In h₀) (N : News h₀ L s.heap news) (T0 : Top NmTop.hd.view_1 (looseW NmTop.hd.view_1 [Str.ofString "text_of"]) mean mg mb h₀) (hk : cs.kind = .function) (hd : dp + 12 < recursionLimit) (hu : un + 50 < cLine)
    (hb : KBw.bInts b = ks) (hz : ks.length ≤ 64) (hG : badT ks i = true)
    (exc : ∀ (ex d : Addr) (u1 u2 uw ui : NTok) (g₂ h' : Heap) (tk : Nat), Fr h₀ L g₂ m → RaisedD base g₂ (envOf cn cs L a ccd :: outer) ex 58 d ((d, exD w wUtf u1 uw i u2 ui) :: news) h' → g₂.UpToSlots h' → E (.ref ex) { s with heap := h', toks := tk }) :
    wpAny (model PySem.Challenge.rw_nm0117_01.row.prog w) (ktrTop dp un gd cn cs L a ccd [] outer) (call (.ref 214) [.bytes b tb]) Q E s := by
  have h1 := badT_get hG
  refine text_spec w b ks tb hb hz mean mg mb dp un gd cn cs a ccd [] outer A₀ base h₀ L m s Q E B F X News.nil T0 hk hd hu (fun qs' h2 => ?_) (fun i' ii h2 hi ex d u1 u2 uw ui g₂ h' tk F' R U S => ?_)
  · rw [h1] at h2
    cases h2
  · rw [h1] at h2
    cases h2
    subst hi
    obtain ⟨G', R', F2, U2⟩ := RaisedD.carry R F' (news_cat N News.nil S) B U
    exact exc ex d u1 u2 uw ui G' h' tk F2 R' U2
theorem wpD_cmp1 {M : Model} {A : Around} {E : Value → Shared → Prop} {s : Shared} {env : Env} {l : Expr} {op : CmpOp} {r : Expr} {pos : Pos} {whole : Sem Value} {Q : Bool → Shared → Prop}
    (h : wpD M A (eval l env) (fun a s₁ => wpAny M A (eval r env) (fun b s₂ => wpAny M A (compareOp op a b) (fun c s₃ => wpAny M A (truthy c) Q E s₃) E s₂) E s₁) E s)
    (hm : behindInMarks op r = false := by with_unfolding_all rfl) : wpD M A (isTrue (.Compare l [op] [r] pos) env whole) Q E s := by
  rw [isTrue_Compare1, markedBehindIn_of_false hm]
  refine wpD_on (wpD_mono h (fun a s₁ h₁ => ?_) fun _ _ x => x)
  refine wpAny_bind (wpAny_holding (wpAny_mono h₁ (fun b s₂ h₂ => ?_) fun _ _ x => x))
  refine wpAny_bind (wpAny_standAt ?_)
  exact wpAny_bind (wpAny_operateT (wpAny_mono h₂ (fun c s₃ h₃ => wpAny_holding h₃) fun _ _ x => x))
theorem ne_same_b {prog : Program} {w : World} {A : Around} {E : Value → Shared → Prop} {s : Shared} {b : Array UInt8} {t u : Tok} {Q : Value → Shared → Prop} (h : Q (.bool false) s) : wpAny (model prog w) A (compareOp .NotEq (.bytes b t) (.bytes b u)) Q E s :=
  ne_bytes (by rw [bne_self_eq_false]; exact h)
theorem ne_same_s {prog : Program} {w : World} {A : Around} {E : Value → Shared → Prop} {s : Shared} {b : Str} {t u : Tok} {Q : Value → Shared → Prop} (h : Q (.bool false) s) : wpAny (model prog w) A (compareOp .NotEq (.str b t) (.str b u)) Q E s :=
  PyProof.Rows.ne_str (by rw [bne_self_eq_false]; exact h)
local macro_rules | `(tactic| walk_at "call type:bytes") => `(tactic| (k_here; (with_reducible show wpAny _ _ (call (Value.type "bytes") [Value.ref _]) _ _ _); k_dflt (refine' KBa.make_K ?F ?N ?h ?l ?i ?r ?n ?_; (case F | N => k_asm); (case h => rfl); (case l => kmk_list); (case i => l_ints); (case r => with_reducible assumption); (case n => (try simp only [List.length_append, List.length_cons, List.length_nil]); omega); k_whole); intro _ _ _ F' N' _))
local macro_rules | `(tactic| walk_at "compareOp NotEq bytes bytes") => `(tactic| refine ne_same_b ?_)
local macro_rules | `(tactic| walk_at "compareOp NotEq str str") => `(tactic| refine ne_same_s ?_)
local macro_rules | `(tactic| walk_at "call ref") => `(tactic| (k_here; (with_reducible show wpAny _ _ (call (Value.ref 214) [Value.bytes _ _]) _ _ _); k_dflt (refine' text_ok ?k1 ?k2 ?k3 ?k4 ?k5 ?k6 ?k7 ?k8 ?k9 ?k10 ?k11 ?_; (case k1 | k2 | k3 | k4 | k5 => k_asm); (case k6 => first | assumption | exact rfl); (case k7 => ktr_room); (case k8 => ktr_units); (case k9 | k11 => with_reducible assumption); (case k10 => omega); k_whole); intro t' h' tk' F' N' kS))
local macro_rules | `(tactic| walk_at "call ref") => `(tactic| (k_here; (with_reducible show wpAny _ _ (call (Value.ref 214) [Value.bytes _ _]) _ _ _); k_dflt (refine' text_bad ?k1 ?k2 ?k3 ?k4 ?k5 ?k6 ?k7 ?k8 ?k9 ?k10 ?k11 ?_; (case k9 | k11 => with_reducible assumption); (case k1 | k2 | k3 | k4 | k5 => k_asm); (case k6 => first | assumption | exact rfl); (case k7 => ktr_room); (case k8 => ktr_units); (case k10 => (try simp only [List.length_append, List.length_cons, List.length_nil]); omega); k_whole); intro ex' d' u1' u2' uw' ui' g2' h' tk' F' rdX U'))
theorem add_chrT {prog : Program} {w : World} {A : Around} {E : Value → Shared → Prop} {s : Shared} {x T : Str} {c : Nat} {t u : Tok} {Q : Value → Shared → Prop} (hT : x ++ ⟨#[c]⟩ = T) (hx : x.length ≤ 3) (h : ∀ t' tk, Q (.str T t') { s with toks := tk }) :
    wpAny (model prog w) A (binaryOp .Add (.str x t) (.str ⟨#[c]⟩ u)) Q E s := by subst hT; exact add_chr hx h
theorem len_U {prog : Program} {w : World} {A : Around} {E : Value → Shared → Prop} {s : Shared} {l : Addr} {vs : List Value} {ks : List Int} {Q : Value → Shared → Prop} (hl : s.heap.IsList l vs.toArray) (hi : IntsAre vs ks) (hz : ks.length ≤ 1000) (h : Q (.int ks.length (s.toks + 1)) { s with toks := s.toks + 1 + 1 }) : wpAny (model prog w) A (call (.builtin "len") [.ref l]) Q E s := by
  have e : vs.toArray.size = ks.length := by simp [hi.length]
  exact len_list hl (by rw [e]; omega) (by rw [e]; exact h)
local macro_rules | `(tactic| walk_at "binaryOp Add str str") => `(tactic| (k_here; refine add_chrT (by with_reducible assumption) (by with_reducible assumption) ?_; intro _ _))
local macro_rules | `(tactic| walk_at "call builtin:len") => `(tactic| (k_here; (with_reducible show wpAny _ _ (call (Value.builtin "len") [Value.ref _]) _ _ _); k_dflt (refine' len_U ?k1 ?k2 ?k3 ?_; (case k1 => kmk_list); (case k2 => l_ints); (case k3 => omega); k_whole)))
theorem Fr.three {g h : Heap} {L : Addr} {m : Str → Option Value} {x y z : Str} {u v t : Option Value} (F : Fr g L h m) (h1 : m x = u) (h2 : m y = v) (h3 : m z = t) : Fr g L h (fun n => if n = x then u else if n = y then v else if n = z then t else m n) := by
  have e : m = (fun n => if n = x then u else if n = y then v else if n = z then t else m n) := by
    funext n
    split
    · next q => rw [q, h1]
    · split
      · next q => rw [q, h2]
      · split
        · next q => rw [q, h3]
        · rfl
  exact e ▸ F
theorem let_spec (w : World) (x : Int) (tx : NTok) :
    CallD0 PySem.Challenge.rw_nm0117_01.row.prog w (NmTop.hd.heap_1 w.params) NmTop.hd.view_1 (looseW NmTop.hd.view_1 [Str.ofString "text_of"]) 40 160 252
      [] [.int x tx]
      (fun base h₀ env L m s Q E G =>
        (∀ (h' : Heap) (tk : Nat), Fr h₀ L h' m → Stay s.heap h' [L] → Q (.bool true) { s with heap := h', toks := tk }) → G) := by
  k_fill
  unfold CallD0
  dsimp only
  intro mean mg mb dp un gd cn cs a ccd A₀ base h₀ L m s Q E iXB iTB iB iF iX iN iT ik id iu hret
  refine wpD_call ?_
  k_dflt (refine' code_defD ?k1 ?k2 ?k3 ?k4 ?k5 ?kA ?k6 ?k7 ?k8 ?k9 ?kB ?_ ?cK ?c2 ?c3 ?c4 ?c5; (case kA => exact rfl); (case cK => first | assumption | exact rfl); (case k1 => k_asm); (case k2 => k_asm); (case k3 => k_asm); (case k4 => k_asm); (case k5 => k_asm); (case k6 => k_is); (case k7 => k_is); (case k8 => ktr_room); (case k9 => exact BindsTo.of_eq rfl); (case c5 => decide); (case kB => exact locs rfl); (case c2 => exact rfl); (case c3 => exact rfl); (case c4 => exact rfl); intro g' L' h' FG' F' N' B' X' T' D' kG')
  refine wpD_threeH (fun s' => LetJ g' L' s s') ?first ?rest
  case first =>
    have hx10 := Int.fmod_lt_of_pos x (show (0 : Int) < 10 by decide)
    k_steps
    all_goals
      unfold Halt
      refine ⟨rfl, ?_⟩
      rename (Fr _ _ _ _) => z_F
      rename (News _ _ _ _) => z_N
      rename (Int.fmod (Int.fdiv x 10) 4 = _) => z_e
    · refine' ⟨0, _, _, _, _, _, _, _, _, _, _, ?a, ?b, ?c, ?d, ?e, ?f, cb_drop ?g ?h⟩
      case f => exact z_F
      case g => exact z_N
      case h => refine' List.forall_mem_cons.mpr ⟨?_, List.forall_mem_nil _⟩ <;> k_dflt k_mem
      case a => decide
      case b => exact pts_in (by omega)
      case c => rw [z_e]; rfl
      case e => rfl
      case d => exact IntsAre.nil
    · refine' ⟨1, _, _, _, _, _, _, _, _, _, _, ?a, ?b, ?c, ?d, ?e, ?f, cb_drop ?g ?h⟩
      case f => exact z_F
      case g => exact z_N
      case h => refine' List.forall_mem_cons.mpr ⟨?_, List.forall_mem_nil _⟩ <;> k_dflt k_mem
      case a => decide
      case b => exact pts_in (by omega)
      case c => rw [z_e]; rfl
      case e => rfl
      case d => exact IntsAre.cons _ _ .nil
    · refine' ⟨2, _, _, _, _, _, _, _, _, _, _, ?a, ?b, ?c, ?d, ?e, ?f, cb_drop ?g ?h⟩
      case f => exact z_F
      case g => exact z_N
      case h => refine' List.forall_mem_cons.mpr ⟨?_, List.forall_mem_nil _⟩ <;> k_dflt k_mem
      case a => decide
      case b => exact pts_in (by omega)
      case c => rw [z_e]; rfl
      case e => rfl
      case d => exact IntsAre.cons _ _ (.cons _ _ .nil)
    · refine' ⟨3, _, _, _, _, _, _, _, _, _, _, ?a, ?b, ?c, ?d, ?e, ?f, cb_drop ?g ?h⟩
      case f => exact z_F
      case g => exact z_N
      case h => refine' List.forall_mem_cons.mpr ⟨?_, List.forall_mem_nil _⟩ <;> k_dflt k_mem
      case a => decide
      case b => exact pts_in (by omega)
      case c => rw [z_e]; rfl
      case e => rfl
      case d => exact IntsAre.cons _ _ (.cons _ _ (.cons _ _ (.cons _ _ .nil)))
  case rest =>
    rintro s' ⟨j, P, A, l, vs, n, tk, h, m₁, t1, t2, hj, hP, hA, hI, rfl, F1, N1⟩
    clear N'
    have hPd : P = 55296 ∨ P = 55295 ∨ P = 57343 ∨ P = 57344 ∨ P = 56319 ∨ P = 56320 ∨ P = 65535 ∨ P = 65536 ∨ P = 1114111 ∨ P = 127 := by simpa [ptsL] using hP
    have hAl := lt_len j hj
    rw [← hA] at hAl
    refine wpD_IfRet (fun s' => ∃ tk, s' = { s with heap := h, toks := tk } ∧ ¬ (55296 ≤ P ∧ P < 57344)) ?rest2 ?sur
    case sur =>
      k_steps
      · refine wpD_consOn (wpD_Try ?_)
        refine wpD_consOn (wpD_ExprV (wpD_Call ?_))
        k_steps
        refine wpD_withFnH ?_
        k_steps
        unfold Halt
        refine ⟨⟨_, _, (X'.keeps F1.keep) _ _ (by k_is), rfl⟩, ?_⟩
        refine' utf_spec _ _ _ ?kt ?kz _ _ _ _ _ _ _ _ _ _ _ _ _ _ _ _ _ _ _ _ ?kB ?kF ?kX ?kN ?kT ?kk ?kd ?ku ?kret ?kexc
        case kt => rw [hA]; exact lt_signs j hj P hP
        case kz => rw [hA]; exact lt_size j hj P hP
        case kF => exact F1
        case kB => k_asm
        case kX => k_asm
        case kN => exact News.nil
        case kT => k_asm
        case kk => first | assumption | exact rfl
        case kd => ktr_room
        case ku => ktr_units
        case kret =>
          intro hf
          rw [hA, lt_sur j hj P hP, decide_eq_false_iff_not] at hf
          exact absurd ⟨by assumption, by assumption⟩ hf
        case kexc =>
          intro _ ex d u1 uw g₂ h8 tk8 F2 R2 U2 S2
          clear F1 N1
          k_steps
          · exact fun z => nomatch z
          · rename (Fr h₀ L _ _) => z_F
            refine' hret _ _ z_F (GSub.turn (cn := cn) (cs := cs) (a := a) (ccd := ccd) kG' (by assumption) (by assumption))
      all_goals
        unfold Halt
        refine ⟨_, rfl, ?_⟩
        omega
    case rest2 =>
      rintro s' ⟨tk2, rfl, hns⟩
      have hTl := tab_len j hj
      refine wpD_threeH (fun s' => LetK g' L' s j P A s') ?three ?rest3
      case three =>
        k_steps
        all_goals
          unfold Halt
          refine' ⟨rfl, _, _, _, _, _, _, _, _, ?c0, rfl, ?c1, ?c2, ?c3, ?c4, cb_drop ?c5 ?c6⟩
          case c1 => assumption
          case c2 => exact rfl
          case c3 => exact rfl
          case c4 => exact rfl
          case c5 => assumption
          case c6 => refine' List.forall_mem_cons.mpr ⟨?_, List.forall_mem_nil _⟩ <;> k_dflt k_mem
          case c0 =>
            first
              | (rw [← lt_o0 j hj P hP (by assumption)]; assumption)
              | (rw [← lt_o3 j hj P hP (by omega)]; assumption)
              | (rw [← lt_o2 j hj P hP ⟨by omega, by omega, by omega⟩]; assumption)
      case rest3 =>
        rintro s' ⟨l', vs', n', tk', h3, m3, t3, t4, hO, rfl, F3, mo, ma, mp, N3⟩
        clear F1 N1 hI
        replace F3 := Fr.three F3 mo ma mp
        clear mo ma mp
        obtain ⟨U, T, hAT, hU, hO, hIn1, hIn2, hUl, hOk, hBad, hSur, hSg, hSz⟩ : ∃ U T, A ++ ⟨#[P.toNat]⟩ = T ∧ u8s T.cps.toList = U ∧ IntsAre vs' U ∧ (∀ n ∈ U, 0 ≤ n ∧ n < 256) ∧ (∀ n ∈ U ++ [255], 0 ≤ n ∧ n < 256) ∧ U.length ≤ 20 ∧ okT U T = true ∧ badT (U ++ [255]) U.length = true ∧ T.cps.toList.any isSur = false ∧ (∀ c ∈ T.cps.toList, c ∈ theSigns) ∧ T.cps.size ≤ 8 := by
          have hns2 : P < 55296 ∨ 57344 ≤ P := by omega
          refine ⟨_, lt2 j P, by rw [hA], rfl, hO, lt_in j hj P hP, lt_in2 j hj P hP, lt_ulen j hj P hP, lt_ok j hj P hP hns2, lt_bad j hj P hP hns2, lt_nosur j hj P hP hns2, lt_signs j hj P hP, lt_size j hj P hP⟩
        have hB1 := KBa.ints_make hIn1
        have hB2 := KBa.ints_make hIn2
        have hP0 : 0 ≤ P ∧ P < 1114112 := by omega
        clear hPd hP hA hTl hns
        refine wpD_consOn (wpD_IfOn (wpD_or (wpD_cmp1 (wpD_Call ?_))))
        k_steps
        refine wpD_withFnH ?_
        k_steps
        unfold Halt
        refine ⟨⟨_, _, (X'.keeps F3.keep) _ _ (by k_is), rfl⟩, ?_⟩
        refine' utf_spec _ _ _ ?kt ?kz _ _ _ _ _ _ _ _ _ _ _ _ _ _ _ _ _ _ _ _ ?kB ?kF ?kX ?kN ?kT ?kk ?kd ?ku ?kret ?kexc
        case kt => exact hSg
        case kz => exact hSz
        case kF => exact F3
        case kB => k_asm
        case kX => k_asm
        case kN => exact News.nil
        case kT => k_asm
        case kk => first | assumption | exact rfl
        case kd => ktr_room
        case ku => ktr_units
        case kexc =>
          intro hf
          rw [hSur] at hf
          cases hf
        case kret =>
          intro _ t5 h5 tk5 F5 S5
          have N5 : News g' L' h5 [(l', listOf vs'.toArray n')] := news_cat N3 News.nil S5
          clear F3 N3 S5
          rw [hU]
          k_steps
          rename (Fr h₀ L _ _) => z_F
          refine' hret _ _ z_F (GSub.turn (cn := cn) (cs := cs) (a := a) (ccd := ccd) kG' (by assumption) (by assumption))
end
section
local macro_rules | `(tactic| walk_at "idle line") => `(tactic| fail)
local macro_rules | `(tactic| walk_at "idle line") => `(tactic| fail)
local macro_rules | `(tactic| walk_at "idle line") => `(tactic| fail)
local macro_rules | `(tactic| walk_at "idle line") => `(tactic| fail)
local macro_rules | `(tactic| walk_at "idle line") => `(tactic| fail)
local macro_rules | `(tactic| walk_at "idle line") => `(tactic| fail)
local macro_rules | `(tactic| walk_at "idle line") => `(tactic| fail)
local macro_rules | `(tactic| walk_at "idle line") => `(tactic| fail)
open PySem PySem.W PySem.Spec PySem.Calls PyProof.Rows
theorem fresh_CLaw : True := by w_top off; exact True.intro
local macro_rules | `(tactic| tb_start) => `(tactic| (refine' code_defT ?k1 ?k2 ?k3 ?k4 ?k5 ?kA ?k6 ?k7 ?k8 ?k9 ?kB ?_ ?cK ?c2 ?c3 ?c4 ?c5; (case kA => exact rfl); (case cK => first | assumption | exact rfl); (case k1 | k2 | k3 | k4 | k5 => k_asm); (case k6 | k7 => k_is); (case k8 => ktr_room); (case k9 => exact BindsTo.of_eq rfl); (case c5 => decide); (case kB => exact locs rfl); (case c2 | c3 | c4 => exact rfl); k_whole; intro g' L' h' FG' F' N' B' X' T' D' kG'; (try dsimp only); (try k_lift B'); (try k_fold)))
local macro_rules | `(tactic| walk_at "noteFrame ref") => `(tactic| (k_here; (rename RaisedD _ _ _ _ _ _ _ _ => rdX); k_dflt (refine' caughtD ?R ?F ?K ?U ?XB ?TB ?D ?T0 ?ex ?q ?_; (case R | F | K | U | XB | TB | D => assumption); (case T0 => first | assumption | exact KtsTurn.refl); (case ex => k_is); (case q => kts_isx); k_whole); intro oe' h' g' tk' xo' T' F' N' K' X' P' D'; (try k_lift K'); (try k_sweep)))
local macro_rules | `(tactic| walk_at "getAttr ref") => `(tactic| (k_here; k_dflt (refine' getX ?k1 ?k2 ?k3 ?k4 ?k5 ?k6 ?k7 ?k71 ?k72 ?k8 ?k9 ?k10 ?k11 ?k12 ?_; (case k4 => assumption); (case k3 | k1 | k2 => k_asm); (case k5 | k6 => k_mem); (case k7 | k71 | k72 | k8 | k9 | k10 => k_is); (case k11 => k_get); (case k12 => k_handed); k_whole)))
local macro_rules | `(tactic| ktr_room) => `(tactic| first | exact of_decide_eq_true rfl | (dsimp only [ktrTop]; (try simp only [recursionLimit] at *); omega))
theorem runD_of {prog : Program} {w : World} {A : Around} {E : Value → Shared → Prop} {s : Shared} {f : Value} {vs : List Value} {Q : Value → Shared → Prop} (h : wpD (model prog w) A (PySem.call f vs) Q E s) (ht : Q (.bool true) s) : wpAny (model prog w) A (runD f vs) Q E s := by
  intro Γ p hΓ
  unfold runD
  rw [Sem.wp_stack]
  split
  · rename_i e
    obtain ⟨e1, e2⟩ := List.cons.inj e
    refine h Γ p hΓ ?_ ?_
    · rw [(Prod.mk.inj e1).1]; decide
    · rw [e2]; intro x hx; cases hx
  · exact ht
theorem enter_callD {M : Model} {A : Around} {s : Shared} {f : Value} {pos : List Value} {c : ClaimW} {cl : PySem.Str → Option Addr} {mean : ExcName → Option Value} {args : List WData} {s₁ : Shared}
    (h : codeD M A (.call f ⟨pos, []⟩) (GoodWG c cl mean args s₁) s) : wpD M A (PySem.call f pos) (fun v s' => GoodWG c cl mean args s₁ (.ok (.ret v)) s') (fun e s' => GoodWG c cl mean args s₁ (.error e) s') s :=
  wpD_call (codeD_mono h fun res s' g => by rcases g.1 with ⟨v, _, _, rfl, _⟩ | ⟨e, _, _, rfl, _⟩ <;> exact g)
theorem call_fullD {prog : Program} {w : World} {A : Around} {R : Result → Shared → Prop} {s : Shared} {name : Str} {params : Arguments} {body : List Stmt} {scope : Scope}
    {dV kV pm cd doc : Value} {a : Addr} {o : Obj} {args : Args} {binds : List (Str × Value)}
    (hroom : A.depth < recursionLimit) (ho : s.heap.get? a = some o) (hdata : o.data = .func { docDef name params body scope pm cd doc with defaults := dV, kwdefaults := kV }) (hlim : s.heap.NoLimit) (hcd : s.heap.CodeRec cd name)
    (hbind : BindsTo s { docDef name params body scope pm cd doc with defaults := dV, kwdefaults := kV } args binds)
    (hloc : ∀ x ∈ binds, scope.names.lookup x.1 = some .local)
    (h : ∀ h₁, Fr s.heap s.heap.objs.size h₁ (fun x => binds.reverse.lookup x) →
      wpD (model prog w) (A.deeper (envOf name scope s.heap.objs.size a cd)) (execs body (envOf name scope s.heap.objs.size a cd))
        (fun f s' => R (.ok (.ret (match f with | .ret v => v | _ => .none))) s')
        (fun e s' => wpAny (model prog w) (A.deeper (envOf name scope s.heap.objs.size a cd)) (leaving (envOf name scope s.heap.objs.size a cd) e)
          (fun _ s'' => R (.error e) s'') (fun e' s'' => R (.error e') s'') s')
        { s with heap := h₁, toks := s.toks + binds.length })
    (hco : scope.isCoroutine = false := by rfl) (hgen : scope.isGenerator = false := by rfl) (hk : scope.kind = .function := by rfl)
    (hcell : ∀ x ∈ scope.names, x.2 ≠ .cell := by decide) :
    codeD (model prog w) A (.call (.ref a) args) R s :=
  codeD_def hroom ho hdata hlim hcd rfl hbind hcell hloc (fun h₁ hns hkeep => h h₁ ⟨hns, hkeep, Nat.le_refl _⟩) hco hgen hk
theorem y_in (v : Int) : 1 ≤ 1 + v.fmod 11 ∧ 1 + v.fmod 11 ≤ 11 := by
  have h1 := Int.fmod_nonneg_of_pos v (show (0 : Int) < 11 by decide)
  have h2 := Int.fmod_lt_of_pos v (show (0 : Int) < 11 by decide)
  omega
theorem next_use {w : World} {pen l : Addr} {vs : List NVal} {ns : List Int} {at_ : Int} {t : NTok} {n : Nat} {mean : ExcName → Option Value} {mg mb : Str → Option Value} {dp un : Nat} {gd : Option (List Code)} {cn : Str} {cs : Scope} {a : Addr} {ccd : Value} {outer : List Env} {A₀ : Around} {base h₀ : Heap} {L : Addr} {m : Str → Option Value} {s : Shared} {Q E : Value → Shared → Prop} {rest : NLed}
    (B : Below A₀ base outer h₀) (F : Fr h₀ L s.heap m) (X : (NmTop.hd.heap_1 w.params).In h₀) (N : News h₀ L s.heap ((pen, listOf #[.ref l, .int at_ t] n) :: rest)) (T : Top NmTop.hd.view_1 (looseW NmTop.hd.view_1 [Str.ofString "text_of"]) mean mg mb h₀) (hn : ∀ q ∈ rest, @Ne Nat q.1 pen) (hk : cs.kind = .function) (hd : dp + 5 < recursionLimit) (hu : un + 20 < cLine)
    (hL : base.IsList l vs.toArray) (hI : IntsAre vs ns) (hz : ns.length ≤ 1000) (h0 : 0 ≤ at_) (h1 : at_ < 100)
    (ret : ∀ (v : Int) (t t' : NTok) (n' : Nat) (h' : Heap) (tk : Nat), Fr h₀ L h' m → News h₀ L h' ((pen, listOf #[.ref l, .int (at_ + 1) t'] n') :: rest) → Q (.int v t) { s with heap := h', toks := tk }) :
    wpAny (model PySem.Challenge.rw_nm0117_01.row.prog w) (ktrTop dp un gd cn cs L a ccd [] outer) (call (.ref 221) [.ref pen]) Q E s := by
  refine next_spec w pen l at_ t n vs ns mean mg mb dp un gd cn cs a ccd [] outer A₀ base h₀ L m s Q E B F X ?_ T hk hd hu hL hI (by omega) h0 h1 fun v t1 t2 n' h' tk F' N' S => ret v t1 t2 n' h' tk F' fun q hq => ?_
  · exact cb_drop N (List.forall_mem_cons.mpr ⟨.head _, List.forall_mem_nil _⟩)
  · rcases List.mem_cons.mp hq with rfl | hq
    · exact N' _ (.head _)
    · exact ⟨S _ _ (N q (.tail _ hq)).1 (fun z => hn q hq (List.mem_singleton.mp z)), (N q (.tail _ hq)).2⟩
theorem number_use {w : World} {x bits : Int} {sg : Bool} {tx tb : NTok} {mean : ExcName → Option Value} {mg mb : Str → Option Value} {dp un : Nat} {gd : Option (List Code)} {cn : Str} {cs : Scope} {a : Addr} {ccd : Value} {outer : List Env} {A₀ : Around} {base h₀ : Heap} {L : Addr} {m : Str → Option Value} {s : Shared} {Q E : Value → Shared → Prop} {news : NLed}
    (B : Below A₀ base outer h₀) (F : Fr h₀ L s.heap m) (X : (NmTop.hd.heap_1 w.params).In h₀) (N : News h₀ L s.heap news) (T : Top NmTop.hd.view_1 (looseW NmTop.hd.view_1 [Str.ofString "text_of"]) mean mg mb h₀) (hk : cs.kind = .function) (hd : dp + 5 < recursionLimit) (hu : un + 20 < cLine) (hb1 : 1 ≤ bits) (hb2 : bits ≤ 70)
    (ret : ∀ (v : Int) (t : NTok) (h' : Heap) (tk : Nat), Fr h₀ L h' m → News h₀ L h' news → Q (.int v t) { s with heap := h', toks := tk }) :
    wpAny (model PySem.Challenge.rw_nm0117_01.row.prog w) (ktrTop dp un gd cn cs L a ccd [] outer) (call (.ref 228) [.int x tx, .int bits tb, .bool sg]) Q E s :=
  number_spec w x bits sg tx tb hb1 hb2 mean mg mb dp un gd cn cs a ccd [] outer A₀ base h₀ L m s Q E B F X News.nil T hk hd hu fun v t h' tk F' S => ret v t h' tk F' (news_cat N News.nil S)
theorem groups_use {w : World} {x many : Int} {tx tb : NTok} {mean : ExcName → Option Value} {mg mb : Str → Option Value} {dp un : Nat} {gd : Option (List Code)} {cn : Str} {cs : Scope} {a : Addr} {ccd : Value} {outer : List Env} {A₀ : Around} {base h₀ : Heap} {L : Addr} {m : Str → Option Value} {s : Shared} {Q E : Value → Shared → Prop} {news : NLed}
    (B : Below A₀ base outer h₀) (F : Fr h₀ L s.heap m) (X : (NmTop.hd.heap_1 w.params).In h₀) (N : News h₀ L s.heap news) (T : Top NmTop.hd.view_1 (looseW NmTop.hd.view_1 [Str.ofString "text_of"]) mean mg mb h₀) (hk : cs.kind = .function) (hd : dp + 5 < recursionLimit) (hu : un + 20 < cLine) (hb1 : 1 ≤ many) (hb2 : many ≤ 11)
    (ret : ∀ (l : Addr) (vs : List NVal) (ks : List Int) (n : Nat) (h' : Heap) (tk : Nat), IntsAre vs ks → 1 ≤ ks.length → ks.length ≤ 11 → (∀ k ∈ ks, 0 ≤ k ∧ k < 256) → (∀ k, ks[ks.length - 1]? = some k → k < 128) → Fr h₀ L h' m → News h₀ L h' ((l, listOf vs.toArray n) :: news) → (∀ q ∈ news, @Ne Nat q.1 l) → Q (.ref l) { s with heap := h', toks := tk }) :
    wpAny (model PySem.Challenge.rw_nm0117_01.row.prog w) (ktrTop dp un gd cn cs L a ccd [] outer) (call (.ref 233) [.int x tx, .int many tb]) Q E s :=
  groups_spec w x many tx tb hb1 hb2 mean mg mb dp un gd cn cs a ccd [] outer A₀ base h₀ L m s Q E B F X News.nil T hk hd hu fun l vs ks h' tk hI hl hr ht F' N' S hw => ret l vs ks _ h' tk hI (by omega) (by omega) hr ht F' (news_cat N N' S) fun q hq => hw _ _ (N q hq).1
theorem news_stay {h₀ h h' : Heap} {L : Addr} {news : NLed} (N : News h₀ L h news) (S : Stay h h' [L]) : News h₀ L h' news := fun q hq =>
  ⟨S _ _ (N q hq).1 (fun z => (N q hq).2.1 (List.mem_singleton.mp z)), (N q hq).2⟩
theorem Fr.two {g h : Heap} {L : Addr} {m : Str → Option Value} {x y z : Str} {a u v : Option Value} (F : Fr g L h (fun n => if n = z then a else m n)) (h1 : m x = u) (h2 : m y = v) : Fr g L h (fun n => if n = z then a else if n = x then u else if n = y then v else m n) := by
  have e : m = (fun n => if n = x then u else if n = y then v else m n) := by
    funext n
    split
    · next q => rw [q, h1]
    · split
      · next q => rw [q, h2]
      · rfl
  have e2 : (fun n => if n = z then a else m n) = (fun n => if n = z then a else if n = x then u else if n = y then v else m n) := by
    funext n
    exact congrArg (fun z' => if n = z then a else z') (congrFun e n)
  exact e2 ▸ F
theorem two_bools {i : Nat} {v : Value} (h : (#[Value.bool false, Value.bool true] : Array Value)[i]? = some v) : (∃ sg, v = .bool sg) ∧ i < 2 := by
  match i, h with
  | 0, h => exact ⟨⟨false, (Option.some.inj h).symm⟩, by decide⟩
  | 1, h => exact ⟨⟨true, (Option.some.inj h).symm⟩, by decide⟩
  | n + 2, h => exact absurd h (by simp)
theorem wpD_else {α : Type} {M : Model} {A : Around} {E : Value → Shared → Prop} {s : Shared} {a e : Sem α} {c : Bool} {Q : α → Shared → Prop} (hc : c = false) (h : wpD M A e Q E s) : wpD M A (if c = true then a else e) Q E s := by subst hc; exact h
theorem bits_in (v : Int) : 1 ≤ 1 + v.fmod 70 ∧ 1 + v.fmod 70 ≤ 70 := by
  have h1 := Int.fmod_nonneg_of_pos v (show (0 : Int) < 70 by decide)
  have h2 := Int.fmod_lt_of_pos v (show (0 : Int) < 70 by decide)
  omega
theorem For_tupH {prog : Program} {w : World} {A : Around} {E : Value → Shared → Prop} {s : Shared} {env : Env} {x : Str} {px pos : Pos} {iter : Expr} {body : List Stmt} {f : Addr} {h₀ : Heap} {items : Array Value} {Q : Flow → Shared → Prop} {Pr : Nat → Obj → Prop} {G : Nat → (Str → Option Value) → Prop} (hh : A.handled = none)
    (hx : env.kindOf x = some .local) (hp : (env.scope.kind == .class || (env.scope.kind == .module && env.locals != env.globals)) = false)
    (hiter : wpAny (model prog w) A (eval iter env) (fun v s₁ => Halt (∃ t ot h tk m o, v = .ref t ∧ s₁ = { s with heap := h, toks := tk } ∧ h.IsTuple t items ∧ @Ne Nat f t ∧ G 0 m ∧ Pr 0 o ∧ Fr h₀ env.locals h m ∧ News h₀ env.locals h [(t, ot), (f, o)])) E s)
    (turn : ∀ i v (m : Str → Option Value) h tk (I t : Addr) o it ot, items[i]? = some v → @Ne Nat f I → @Ne Nat f t → @Ne Nat t I → G i m → Pr i o → Fr h₀ env.locals h (fun y => if y = x then some v else m y) → News h₀ env.locals h [(f, o), (I, it), (t, ot)] →
      wpAny (model prog w) A (execs body env) (fun fl s' => Halt ((fl = .next ∨ fl = .cont) ∧ ∃ h' tk' m' o', s' = { s with heap := h', toks := tk' } ∧ G (i + 1) m' ∧ Pr (i + 1) o' ∧ Fr h₀ env.locals h' m' ∧ News h₀ env.locals h' [(f, o'), (I, it), (t, ot)])) (fun _ _ => False) { s with heap := h, toks := tk })
    (done : ∀ h tk m o, G items.size m → Pr items.size o → Fr h₀ env.locals h m → News h₀ env.locals h [(f, o)] → Q .next { s with heap := h, toks := tk })
    (hs : ∀ x, foldedSetIterable iter env x = pure x := by intro _; rfl) : wpD (model prog w) A (exec (.For (.Name x px) iter body [] pos) env) Q E s := For_tupD hh hx hp hiter turn done hs
/-- the loop's body, two parts -/
theorem wpAny_split {M : Model} {A : Around} {E : Value → Shared → Prop} {s : Shared} {env : Env} (P : Shared → Prop) {Q : Flow → Shared → Prop} {a b c d e : Stmt} {rest : List Stmt} (h : wpAny M A (execs [a, b, c, d, e] env) (fun f s' => Halt (f = .next ∧ P s')) E s) (k : ∀ s', P s' → wpAny M A (execs rest env) Q E s') : wpAny M A (execs (a :: b :: c :: d :: e :: rest) env) Q E s :=
  fun Γ p a' => wp_app P (fun p' s' z => k s' z Γ p' a') [a, b, c, d, e] p s (h Γ p a')
/-- behind the first five statements of the loop's body -/
def TurnJ (H₀ : Heap) (L : Addr) (pen : Addr) (l : Addr) (bits : Int) (tb : Tok) (sg : Bool) (at_ : Int) (x : Int) (rest : NLed) (s s' : Shared) : Prop :=
  ∃ (lo : Addr) (vs : List NVal) (ks : List Int) (n np tk : Nat) (h : Heap) (m : Str → Option Value) (tx tp : Tok), IntsAre vs ks ∧ ks.length ≤ 12 ∧ (∀ k ∈ ks, 0 ≤ k ∧ k < 256) ∧ s' = { s with heap := h, toks := tk } ∧
    Fr H₀ L h (fun y => if y = Str.ofString "octets" then some (.ref lo) else if y = Str.ofString "x" then some (.int x tx) else if y = Str.ofString "is_signed" then some (.bool sg) else if y = Str.ofString "bits" then some (.int bits tb) else if y = Str.ofString "pen" then some (.ref pen) else m y) ∧
    News H₀ L h ((lo, listOf vs.toArray n) :: (pen, listOf #[.ref l, .int (at_ + 1 + 1) tp] np) :: rest)
local macro_rules | `(tactic| walk_at "binaryOp FloorDiv int int") => `(tactic| (refine floordiv_int (by decide) ?_ (Or.inl (PyProof.noPylong_small (by decide))); (try dsimp only)))
local macro_rules | `(tactic| walk_at "binaryOp Pow int int") => `(tactic| (refine pow_int_small ?_ ?_ ?_ ?_; omega; omega; decide; (try dsimp only)))
theorem set_last {prog : Program} {w : World} {A : Around} {E : Value → Shared → Prop} {s : Shared} {h₀ : Heap} {L D : Addr} {m : Str → Option Value} {news news' : List (Addr × Obj)} {vs : List Value} {ks : List Int} {n : Nat} {x : Int} {t u : Tok} {Q : Unit → Shared → Prop} (F : Fr h₀ L s.heap m) (N : News h₀ L s.heap news)
    (U : Upd D (listOf vs.toArray n) (listOf (vs.set (vs.length - 1) (Value.int x u)).toArray n) news news') (hi : IntsAre vs ks) (h1 : 1 ≤ ks.length) (hz : ks.length ≤ 1000)
    (h : ∀ h', Fr h₀ L h' m → News h₀ L h' news' → IntsAre (vs.set (vs.length - 1) (Value.int x u)) (ks.set (ks.length - 1) x) → Q () { s with heap := h' }) :
    wpAny (model prog w) A (setItem (.ref D) (.int (-1) t) (.int x u)) Q E s := by
  obtain ⟨pre, post, rfl, rfl, a, b⟩ := U.split
  have z := N (D, listOf vs.toArray n) (List.mem_append.mpr (.inr (.head _)))
  have hl : vs.length = ks.length := hi.length
  have hs : vs.toArray.size = ks.length := by rw [List.size_toArray]; exact hl
  refine ki_setBack z.1 (by decide) (by omega) (by decide) (h _ (F.change (Heap.SameBut.update ..) z.2.1 z.2.2) (ki_turn _ N a b ?_ ?_) (by rw [hl]; exact ints_set hi _))
  · show vs.toArray.setIfInBounds ((-1 : Int) + (vs.toArray.size : Nat)).toNat (.int x u) = (vs.set (vs.length - 1) (.int x u)).toArray
    have e : ((-1 : Int) + (vs.toArray.size : Nat)).toNat = vs.length - 1 := by omega
    rw [e]
    apply Array.toList_inj.mp
    simp
  · simp
theorem set_in {ks : List Int} {x : Int} (hr : ∀ k ∈ ks, 0 ≤ k ∧ k < 256) (hx : 0 ≤ x ∧ x < 256) (j : Nat) : ∀ k ∈ ks.set j x, 0 ≤ k ∧ k < 256 := fun k hk => by
  rcases List.mem_or_eq_of_mem_set hk with h | h
  · exact hr k h
  · rw [h]; exact hx
theorem last_in {ks : List Int} (hr : ∀ k ∈ ks, 0 ≤ k ∧ k < 256) (hl : ∀ k, ks[ks.length - 1]? = some k → k < 128) (h1 : 1 ≤ ks.length) : 0 ≤ ks.getD (ks.length - 1) 0 ∧ ks.getD (ks.length - 1) 0 < 128 := by
  have e : ks[ks.length - 1]? = some ks[ks.length - 1] := List.getElem?_eq_getElem (by omega)
  rw [List.getD_eq_getElem?_getD, e]
  exact ⟨(hr _ (List.getElem_mem _)).1, hl _ e⟩
theorem app_in {a b : List Int} (ha : ∀ k ∈ a, 0 ≤ k ∧ k < 256) (hb : ∀ k ∈ b, 0 ≤ k ∧ k < 256) : ∀ k ∈ a ++ b, 0 ≤ k ∧ k < 256 := fun k hk => by
  rcases List.mem_append.mp hk with h | h
  · exact ha k h
  · exact hb k h
theorem xor_in {x e : Int} (h0 : 0 ≤ x) (h1 : x < 128) (e0 : 0 ≤ e) (e1 : e < 7) : 0 ≤ Builtin.bitXor x (2 ^ Int.toNat e) ∧ Builtin.bitXor x (2 ^ Int.toNat e) < 256 := by
  have h : ∀ n : Nat, n < 128 → ∀ j : Nat, j < 7 → 0 ≤ Builtin.bitXor (n : Int) (2 ^ j) ∧ Builtin.bitXor (n : Int) (2 ^ j) < 256 := by decide +kernel
  have := h x.toNat (by omega) e.toNat (by omega)
  rwa [Int.toNat_of_nonneg h0] at this
theorem Fr.five {g h : Heap} {L : Addr} {m : Str → Option Value} {a b c d e : Str} {va vb vc vd ve : Option Value} (F : Fr g L h m) (h1 : m a = va) (h2 : m b = vb) (h3 : m c = vc) (h4 : m d = vd) (h5 : m e = ve) : Fr g L h (fun n => if n = a then va else if n = b then vb else if n = c then vc else if n = d then vd else if n = e then ve else m n) := by
  have e : m = (fun n => if n = a then va else if n = b then vb else if n = c then vc else if n = d then vd else if n = e then ve else m n) := by
    funext n
    split
    · next q => rw [q, h1]
    split
    · next q => rw [q, h2]
    split
    · next q => rw [q, h3]
    split
    · next q => rw [q, h4]
    split
    · next q => rw [q, h5]
    rfl
  exact e ▸ F
theorem due_use {w : World} {l : Addr} {vs : List NVal} {ks : List Int} {bits : Int} {sg : Bool} {nl : Nat} {tb : NTok} {mean : ExcName → Option Value} {mg mb : Str → Option Value} {dp un : Nat} {gd : Option (List Code)} {cn : Str} {cs : Scope} {a : Addr} {ccd : Value} {outer : List Env} {A₀ : Around} {base h₀ : Heap} {L : Addr} {m : Str → Option Value} {s : Shared} {Q E : Value → Shared → Prop} {news : NLed}
    (B : Below A₀ base outer h₀) (F : Fr h₀ L s.heap m) (X : (NmTop.hd.heap_1 w.params).In h₀) (N : News h₀ L s.heap news) (T : Top NmTop.hd.view_1 (looseW NmTop.hd.view_1 [Str.ofString "text_of"]) mean mg mb h₀) (hm : (l, listOf vs.toArray nl) ∈ news) (hk : cs.kind = .function) (hd : dp + 5 < recursionLimit) (hu : un + 20 < cLine)
    (hI : IntsAre vs ks) (hz : ks.length ≤ 12) (hb1 : 1 ≤ bits) (hb2 : bits ≤ 70) (hr : ∀ k ∈ ks, 0 ≤ k ∧ k < 256)
    (ret : ∀ (tt : Addr) (od : Obj) (u1 u2 u3 : NTok) (h' : Heap) (tk : Nat), od = tupO (resV (dueR sg bits ks) u1 u2 u3) → Fr h₀ L h' m → News h₀ L h' ((tt, od) :: news) → (∀ q ∈ news, @Ne Nat q.1 tt) → Q (.ref tt) { s with heap := h', toks := tk }) :
    wpAny (model PySem.Challenge.rw_nm0117_01.row.prog w) (ktrTop dp un gd cn cs L a ccd [] outer) (call (.ref 238) [.ref l, .int bits tb, .bool sg]) Q E s := by
  refine due_spec w l vs ks bits sg nl tb hI hz hb1 hb2 hr mean mg mb dp un gd cn cs a ccd [] outer A₀ base h₀ L m s Q E B F X ?_ T hk hd hu fun tt u1 u2 u3 h' tk F' N' S hw => ret tt _ u1 u2 u3 h' tk rfl F' (fun q hq => ?_) fun q hq => hw _ _ (N q hq).1
  · exact cb_drop N (List.forall_mem_cons.mpr ⟨hm, List.forall_mem_nil _⟩)
  · rcases List.mem_cons.mp hq with rfl | hq
    · exact N' _ (.head _)
    · by_cases e : q.1 = l
      · have z := (N q hq).1
        rw [e, (N _ hm).1] at z
        have z2 := (N' (l, listOf vs.toArray nl) (.tail _ (.head _))).1
        refine ⟨?_, (N q hq).2⟩
        rw [e, ← z]
        exact z2
      · exact ⟨S _ _ (N q hq).1 (fun z => e (List.mem_singleton.mp z)), (N q hq).2⟩
theorem take_in {x : Int} : ∀ k ∈ List.take x.toNat [(255 : Int), 128, 0], 0 ≤ k ∧ k < 256 := fun k hk => (by decide : ∀ k ∈ [(255 : Int), 128, 0], 0 ≤ k ∧ k < 256) k (List.mem_of_mem_take hk)
theorem end_in : ∀ k ∈ [(0 : Int), 127], 0 ≤ k ∧ k < 256 := by decide
local macro_rules | `(tactic| kmk_sum) => `(tactic| (simp only [sizeLine_eq, List.length_cons, List.length_nil, List.length_append, List.length_take]; omega))
theorem three_ints {t1 t2 t3 : Tok} : IntsAre [Value.int 255 t1, .int 128 t2, .int 0 t3] [255, 128, 0] := .cons _ _ (.cons _ _ (.cons _ _ .nil))
theorem cut_three {prog : Program} {w : World} {A : Around} {E : Value → Shared → Prop} {s : Shared} {h₀ : Heap} {L l : Addr} {m : Str → Option Value} {news : NLed} {value slice : Expr} {x : Int} {t1 t2 t3 tx : Tok} {n : Nat} {Q : Value → Shared → Prop} (F : Fr h₀ L s.heap m) (N : News h₀ L s.heap news) (hm : (l, listOf #[.int 255 t1, .int 128 t2, .int 0 t3] n) ∈ news) (hx : 0 ≤ x)
    (h : ∀ (D : Addr) (ws : List NVal) (h' : Heap), Fr h₀ L h' m → News h₀ L h' ((D, listOf ws.toArray 0) :: news) → (∀ p ∈ news, p.1 < D) → IntsAre ws (List.take x.toNat [255, 128, 0]) → (List.take x.toNat [(255 : Int), 128, 0]).length ≤ 3 → Q (.ref D) { s with heap := h' })
    (hs : subscripted slice false (.ref l) (.ref s.heap.objs.size) = operate [.ref s.heap.objs.size, .ref l] (getItem (.ref l) (.ref s.heap.objs.size))) :
    wpAny (model prog w) A (subscriptTail value slice (.ref l) (.ref s.heap.objs.size)) Q E { s with heap := s.heap.push { cls := .type "slice", data := .fields #[.none, .int x tx, .none] } } := by
  refine kba_turn (value' := .Name (Str.ofString "octets") default) (fun _ => rfl) ?_
  refine kmk_slice_ints (vs := [Value.int 255 t1, .int 128 t2, .int 0 t3]) F N (News.isList N hm) IsPart.none (IsPart.int _ _) three_ints (kmk_upto three_ints hx) rfl (fun D ws h' F' N' l1 hI' _ hle => h D ws h' F' N' l1 hI' hle) hs (fun _ => rfl) (by rw [sizeLine_eq]; exact Nat.le_of_ble_eq_true rfl)
theorem told_use {w : World} {x dx : Addr} {b : Array UInt8} {ks : List Int} {i e bits : Int} {sg : Bool} {h1 h2 h3 : Int} {t1 t2 t3 tb ti te tbi : NTok} {R : Res} {mean : ExcName → Option Value} {mg mb : Str → Option Value} {dp un : Nat} {gd : Option (List Code)} {cn : Str} {cs : Scope} {a : Addr} {ccd : Value} {A₀ : Around} {base h₀ : Heap} {L : Addr} {m : Str → Option Value} {s : Shared} {Q E : Value → Shared → Prop} {rest : NLed}
    (XB : (NmTop.hd.heap_1 w.params).In base) (TB : Top NmTop.hd.view_1 (looseW NmTop.hd.view_1 [Str.ofString "text_of"]) mean mg mb base) (B : Below A₀ base [] h₀) (F : Fr h₀ L s.heap m) (X : (NmTop.hd.heap_1 w.params).In h₀) (N : News h₀ L s.heap ((x, instObj 188 dx) :: (dx, curD h1 h2 h3 t1 t2 t3 b tb i ti e te) :: rest)) (T : Top NmTop.hd.view_1 (looseW NmTop.hd.view_1 [Str.ofString "text_of"]) mean mg mb h₀) (hk : cs.kind = .function) (hd : dp + 20 < recursionLimit) (hu : un + 80 < cLine)
    (hb : KBw.bInts b = ks) (hn : @Ne Nat x dx) (hne : ∀ q ∈ rest, @Ne Nat q.1 x ∧ @Ne Nat q.1 dx) (hz : ks.length ≤ 1000) (hi : 0 ≤ i) (hie : i ≤ e) (he : e ≤ ks.length) (hb1 : 1 ≤ bits) (hb2 : bits ≤ 70) (hR : goR sg bits (cut ks i e) = R)
    (ret : ∀ (tt : Addr) (od : Obj) (u1 u2 u3 : NTok) (h' : Heap) (tk : Nat), od = tupO (resV R u1 u2 u3) → Fr h₀ L h' m → News h₀ L h' ((tt, od) :: rest) → Q (.ref tt) { s with heap := h', toks := tk }) :
    wpAny (model PySem.Challenge.rw_nm0117_01.row.prog w) (ktrTop dp un gd cn cs L a ccd [] []) (call (.ref 245) [.ref x, .int bits tbi, .bool sg]) Q E s := by
  subst hR
  refine told_spec w x dx b ks i e bits sg h1 h2 h3 t1 t2 t3 tb ti te tbi hn hb (by omega) hi hie he hb1 hb2 mean mg mb dp un gd cn cs a ccd A₀ base h₀ L m s Q E XB TB B F X ?_ T hk hd hu fun tt u1 u2 u3 h' tk F' N' S => ret tt _ u1 u2 u3 h' tk rfl F' fun q hq => ?_
  · exact cb_drop N (List.forall_mem_cons.mpr ⟨.head _, List.forall_mem_cons.mpr ⟨.tail _ (.head _), List.forall_mem_nil _⟩⟩)
  · rcases List.mem_cons.mp hq with rfl | hq
    · exact N' _ (.head _)
    · have hq' := N q (.tail _ (.tail _ hq))
      refine ⟨S _ _ hq'.1 fun z => ?_, hq'.2⟩
      rcases List.mem_cons.mp z with z | z
      · exact hq'.2.1 z
      · rcases List.mem_cons.mp z with z | z
        · exact (hne q hq).1 z
        · exact (hne q hq).2 (List.mem_singleton.mp z)
def okRes : Res → Bool
  | .fault why _ => PyData.strOk why
  | .val _ _ => true
theorem dueR_ok {sg : Bool} {bits : Int} {ks : List Int} : okRes (dueR sg bits ks) = true := by
  unfold dueR
  dsimp only
  split
  · exact (by decide +kernel : PyData.strOk wEnd = true)
  split
  · exact (by decide +kernel : PyData.strOk wBig = true)
  split
  · exact (by decide +kernel : PyData.strOk wLong = true)
  · rfl
theorem res_shaped {v n : Int} : SeqAt.shaped (PyData.tuple [.str "", .int v, .int n]) = true := by
  have h : PyData.strOk (Str.ofString "") = true := by decide +kernel
  simp [SeqAt.shaped, PyData.canLay0, PyData.canLayAll0, PyData.depth, PyData.depthAll]
  first | done | exact h
theorem res_shaped2 {why : Str} {n : Int} (h : PyData.strOk why = true) : SeqAt.shaped (PyData.tuple [.str why, .int n]) = true := by
  simp [SeqAt.shaped, PyData.canLay0, PyData.canLayAll0, PyData.depth, PyData.depthAll, h]
theorem ne_res {prog : Program} {w : World} {A : Around} {E : Value → Shared → Prop} {s : Shared} {h₀ : Heap} {L a b : Addr} {oa ob : Obj} {r : Res} {u1 u2 u3 v1 v2 v3 : NTok} {news : NLed} {Q : Value → Shared → Prop} (N : News h₀ L s.heap news) (ha : (a, oa) ∈ news) (hb : (b, ob) ∈ news) (ea : oa = tupO (resV r u1 u2 u3)) (eb : ob = tupO (resV r v1 v2 v3)) (ho : okRes r = true) (hu : A.units + 64 < cLine) (h : Q (.bool false) s) :
    wpAny (model prog w) A (compareOp .NotEq (.ref a) (.ref b)) Q E s := by
  subst ea eb
  cases r with
  | val v n =>
    refine ne_dataH (reads_tuple_at (News.get N ha) rfl rfl (.cons (.str _ _) (.cons (.int _ _) (.cons (.int _ _) .nil)))) (reads_tuple_at (News.get N hb) rfl rfl (.cons (.str _ _) (.cons (.int _ _) (.cons (.int _ _) .nil)))) res_shaped res_shaped hu ?_
    simp only [PyData.eqv, PyData.eqvAll, beq_self_eq_true, Bool.and_true, Bool.true_and, Bool.not_true]
    exact h
  | fault why n =>
    refine ne_dataH (reads_tuple_at (News.get N ha) rfl rfl (.cons (.str _ _) (.cons (.int _ _) .nil))) (reads_tuple_at (News.get N hb) rfl rfl (.cons (.str _ _) (.cons (.int _ _) .nil))) (res_shaped2 ho) (res_shaped2 ho) hu ?_
    simp only [PyData.eqv, PyData.eqvAll, beq_self_eq_true, Bool.and_true, Bool.true_and, Bool.not_true]
    exact h
theorem good_of {c : ClaimW} {cl : PySem.Str → Option Addr} {mean : ExcName → Option Value} {args : List WData} {s₁ s' : Shared} (hr : ∀ cls, c.raises args cls = false) (hp : c.post args (ofPy (.bool true)) args = true)
    (k : ∀ b o, s₁.heap.get? b = some o → s'.heap.get? b = some o) (o : s'.os = s₁.os) (g : s'.gens = #[]) : GoodWG c cl mean args s₁ (.ok (.ret (.bool true))) s' :=
  ⟨.inl ⟨.bool true, ofPy (.bool true), [], rfl, hr, readsW_of_reads (Reads.bool _), hp, unshared_nil⟩, .of_keep k, o, .of_eq g⟩
theorem with_good {α : Type} {M : Model} {A : Around} {E : Value → Shared → Prop} {s s₁ : Shared} {t : Sem α} {Q : α → Shared → Prop} {a : α} (h1 : ∀ s' : Shared, (∀ b o, s₁.heap.get? b = some o → s'.heap.get? b = some o) → s'.os = s₁.os → s'.gens = #[] → Q a s')
    (h2 : (∀ s' : Shared, (∀ b o, s₁.heap.get? b = some o → s'.heap.get? b = some o) → s'.os = s₁.os → s'.gens = #[] → Q a s') → wpAny M A t Q E s) : wpAny M A t Q E s := h2 h1
local macro_rules | `(tactic| walk_at "call ref") => `(tactic| ((with_reducible first | show wpAny _ _ (call (Value.ref 221) _) _ _ _ | show wpAny _ _ (call (Value.ref 228) _) _ _ _ | show wpAny _ _ (call (Value.ref 233) _) _ _ _ | show wpAny _ _ (call (Value.ref 238) _) _ _ _ | show wpAny _ _ (call (Value.ref 245) _) _ _ _); refine Halt.out ?_))
local macro_rules | `(tactic| walk_at "setItem ref int") => `(tactic| (refine Halt.out ?_))
local macro_rules | `(tactic| walk_at "call builtin:list.append") => `(tactic| (refine Halt.out ?_))
local macro_rules | `(tactic| walk_at "call type:bytes") => `(tactic| (k_here; (with_reducible show wpAny _ _ (call (Value.type "bytes") [Value.ref _]) _ _ _); k_dflt (refine' KBa.make_K ?F ?N ?h ?l ?i ?r ?n ?_; (case F | N => k_asm); (case h => rfl); (case l => kmk_list); (case i => l_ints); (case r => first | with_reducible assumption | exact app_in (app_in take_in (by with_reducible assumption)) end_in); (case n => (try simp only [List.length_append, List.length_cons, List.length_nil, List.length_take]); omega); k_whole); intro _ _ _ F' N' _))
local macro_rules | `(tactic| walk_at "subscriptTail") => `(tactic| ((with_reducible show wpAny _ _ (subscriptTail (PySem.Expr.List ..) _ (Value.ref _) (Value.ref _)) _ _ _); refine Halt.out ?_))
local macro_rules | `(tactic| walk_at "compareOp NotEq ref ref") => `(tactic| (refine Halt.out ?_))
theorem law_holds : PySem.Challenge.rw_nm0117_01.Holds := NmTop.hd (by
  k_fill
  intro w s₀ s₁ mg mb G Y fa o pm cd doc dV kV ho hd hcd hD hmg hg args vals as hpre hlay hrd hwl hlo
  have KX := kIn_of Y
  have X := (Ground.X G).1
  have V := (Ground.X G).2
  refine Ground.open G ?_
  intro T B D TE TW
  try (refine guard_noD D (by decide +kernel) ?_; clear D)
  obtain ⟨_, _, M⟩ := bmod_of_top T
  have TA := at_of_top T
  obtain ⟨_, _, he, B0⟩ := based_of_top T rfl hmg ho hd
  have he' : cd = _ := he
  subst he'
  clear he
  clear hmg
  wrow_args hpre hlay hrd hwl hlo
  refine with_good (s₁ := s₁) (a := .bool true) (fun s' => good_of (raisesW_false (by wrow_none_raised)) (postW_of (by wrow_shape) (by wtm_val) (by w_fin))) (fun hgood => ?_)
  refine runD_of (enter_callD ?_) (hgood _ (fun _ _ e => e) rfl hg)
  have he := Dflts.none hD rfl
  subst he
  refine call_fullD (by decide) ho hd (Top.nolimit T) hcd (BindsTo.of_eq rfl) (locs rfl) fun h₁ F => ?_
  w_binds F
  have N0 : News s₁.heap s₁.heap.objs.size h₁ [] := News.nil
  clear hD hd hcd X V G Y B TE TW M TA
  have kB := below_caller s₁.heap
  refine wpD_consOff ?_
  k_steps
  refine wpD_consOff ?_
  k_steps
  iterate 2
    all_goals try
      refine Halt.put ?_
      first
        | (k_here; (with_reducible show wpAny _ _ (call (Value.ref 221) [Value.ref _]) _ _ _); k_dflt (refine' next_use ?nx_k1 ?nx_k2 ?nx_k3 ?nx_k4 ?nx_k5 ?nx_k6 ?nx_k7 ?nx_k8 ?nx_k9 ?nx_k10 ?nx_k11 ?nx_k12 ?nx_k13 ?nx_k14 ?_; (case nx_k1 | nx_k2 | nx_k3 | nx_k4 | nx_k5 => k_asm); (case nx_k6 => first | exact List.forall_mem_nil _ | (simp only [List.forall_mem_cons, List.not_mem_nil, false_implies, implies_true, and_true]; omega)); (case nx_k7 => first | assumption | exact rfl); (case nx_k8 => ktr_room); (case nx_k9 => ktr_units); (case nx_k10 | nx_k11 => assumption); (case nx_k12 | nx_k13 | nx_k14 => omega); k_whole); intro v' t1' t2' n' h' tk' F' N')
        | (k_here; (with_reducible show wpAny _ _ (call (Value.ref 221) [Value.ref _]) _ _ _); k_dflt (refine' next_use ?nx_k1b ?nx_k2b ?nx_k3b ?nx_k4b ?nx_k5b ?nx_k6b ?nx_k7b ?nx_k8b ?nx_k9b ?nx_k10b ?nx_k11b ?nx_k12b ?nx_k13b ?nx_k14b ?_; (case nx_k1b | nx_k2b | nx_k3b | nx_k4b | nx_k5b => k_asm); (case nx_k6b => first | exact List.forall_mem_nil _ | (simp only [List.forall_mem_cons, List.not_mem_nil, false_implies, implies_true, and_true]; omega)); (case nx_k7b => first | assumption | exact rfl); (case nx_k8b => ktr_room); (case nx_k9b => ktr_units); (case nx_k10b | nx_k11b => assumption); (case nx_k12b | nx_k13b | nx_k14b => omega); k_whole); intro v' t1' t2' n' h' tk' F' N')
        | (k_here; (with_reducible show wpAny _ _ (call (Value.ref 221) [Value.ref _]) _ _ _); k_dflt (refine' next_use ?nx_k1c ?nx_k2c ?nx_k3c ?nx_k4c ?nx_k5c ?nx_k6c ?nx_k7c ?nx_k8c ?nx_k9c ?nx_k10c ?nx_k11c ?nx_k12c ?nx_k13c ?nx_k14c ?_; (case nx_k1c | nx_k2c | nx_k3c | nx_k4c | nx_k5c => k_asm); (case nx_k6c => first | exact List.forall_mem_nil _ | (simp only [List.forall_mem_cons, List.not_mem_nil, false_implies, implies_true, and_true]; omega)); (case nx_k7c => first | assumption | exact rfl); (case nx_k8c => ktr_room); (case nx_k9c => ktr_units); (case nx_k10c | nx_k11c => assumption); (case nx_k12c | nx_k13c | nx_k14c => omega); k_whole); intro v' t1' t2' n' h' tk' F' N')
    all_goals try k_steps
  refine wpD_cons (wpD_If (wpD_not (wpD_plain (wpD_Call ?_))))
  k_steps
  refine wpD_withFnH ?_
  k_steps
  iterate 2
    all_goals try
      refine Halt.put ?_
      first
        | (k_here; (with_reducible show wpAny _ _ (call (Value.ref 221) [Value.ref _]) _ _ _); k_dflt (refine' next_use ?nx_k1 ?nx_k2 ?nx_k3 ?nx_k4 ?nx_k5 ?nx_k6 ?nx_k7 ?nx_k8 ?nx_k9 ?nx_k10 ?nx_k11 ?nx_k12 ?nx_k13 ?nx_k14 ?_; (case nx_k1 | nx_k2 | nx_k3 | nx_k4 | nx_k5 => k_asm); (case nx_k6 => first | exact List.forall_mem_nil _ | (simp only [List.forall_mem_cons, List.not_mem_nil, false_implies, implies_true, and_true]; omega)); (case nx_k7 => first | assumption | exact rfl); (case nx_k8 => ktr_room); (case nx_k9 => ktr_units); (case nx_k10 | nx_k11 => assumption); (case nx_k12 | nx_k13 | nx_k14 => omega); k_whole); intro v' t1' t2' n' h' tk' F' N')
        | (k_here; (with_reducible show wpAny _ _ (call (Value.ref 221) [Value.ref _]) _ _ _); k_dflt (refine' next_use ?nx_k1b ?nx_k2b ?nx_k3b ?nx_k4b ?nx_k5b ?nx_k6b ?nx_k7b ?nx_k8b ?nx_k9b ?nx_k10b ?nx_k11b ?nx_k12b ?nx_k13b ?nx_k14b ?_; (case nx_k1b | nx_k2b | nx_k3b | nx_k4b | nx_k5b => k_asm); (case nx_k6b => first | exact List.forall_mem_nil _ | (simp only [List.forall_mem_cons, List.not_mem_nil, false_implies, implies_true, and_true]; omega)); (case nx_k7b => first | assumption | exact rfl); (case nx_k8b => ktr_room); (case nx_k9b => ktr_units); (case nx_k10b | nx_k11b => assumption); (case nx_k12b | nx_k13b | nx_k14b => omega); k_whole); intro v' t1' t2' n' h' tk' F' N')
        | (k_here; (with_reducible show wpAny _ _ (call (Value.ref 221) [Value.ref _]) _ _ _); k_dflt (refine' next_use ?nx_k1c ?nx_k2c ?nx_k3c ?nx_k4c ?nx_k5c ?nx_k6c ?nx_k7c ?nx_k8c ?nx_k9c ?nx_k10c ?nx_k11c ?nx_k12c ?nx_k13c ?nx_k14c ?_; (case nx_k1c | nx_k2c | nx_k3c | nx_k4c | nx_k5c => k_asm); (case nx_k6c => first | exact List.forall_mem_nil _ | (simp only [List.forall_mem_cons, List.not_mem_nil, false_implies, implies_true, and_true]; omega)); (case nx_k7c => first | assumption | exact rfl); (case nx_k8c => ktr_room); (case nx_k9c => ktr_units); (case nx_k10c | nx_k11c => assumption); (case nx_k12c | nx_k13c | nx_k14c => omega); k_whole); intro v' t1' t2' n' h' tk' F' N')
    all_goals try k_steps
  unfold Halt
  rename (Fr _ _ _ _) => F1
  rename (News _ _ _ _) => N1
  refine ⟨⟨_, _, (KX.keeps F1.keep) _ _ (by k_is), rfl⟩, ?_⟩
  refine' let_spec _ _ _ _ _ _ _ _ _ _ _ _ _ _ _ _ _ _ _ _ _ ?kXB ?kTB ?kB ?kF ?kX ?kN ?kT ?kk ?kd ?ku ?kret
  case kXB => exact KX
  case kTB => exact T
  case kF => exact F1
  case kB => exact kB
  case kX => exact KX
  case kN => exact News.nil
  case kT => exact T
  case kk => exact rfl
  case kd => ktr_room
  case ku => ktr_units
  case kret =>
    intro h5 tk5 F5 S5
    have N5 := news_stay N1 S5
    clear F1 N1 S5
    k_steps
    refine wpD_else rfl (wpD_nil ?_)
    dsimp only
    rename (Heap.IsList s₁.heap _ _) => hLs
    rename (IntsAre _ _) => hIs
    obtain ⟨pen, l, tp, np, N6, F6, hLs, hP, hl⟩ : ∃ (pen l : Addr) (tp : Tok) (np : Nat), News s₁.heap s₁.heap.objs.size h5 [(pen, listOf #[.ref l, .int (0 + 1 + 1) tp] np)] ∧ (∃ (bits : Int) (tb : Tok) (m : Str → Option Value), Fr s₁.heap s₁.heap.objs.size h5 m ∧ m (Str.ofString "bits") = some (.int bits tb) ∧ m (Str.ofString "pen") = some (.ref pen) ∧ 1 ≤ bits ∧ bits ≤ 70) ∧ s₁.heap.IsList l _ ∧ True ∧ True := ⟨_, _, _, _, N5, ⟨_, _, _, F5, rfl, rfl, (bits_in _).1, (bits_in _).2⟩, hLs, trivial, trivial⟩
    clear F5 N5 hP hl
    obtain ⟨bits, tb, m5, F5, hmb, hmp, hb1, hb2⟩ := F6
    refine wpD_consOn (For_tupH (f := pen) (h₀ := s₁.heap) (items := #[.bool false, .bool true]) (Pr := fun i o => ∃ t n, o = listOf #[.ref l, .int (2 + 2 * (i : Int)) t] n) (G := fun _ m => m (Str.ofString "bits") = some (.int bits tb) ∧ m (Str.ofString "pen") = some (.ref pen)) rfl rfl rfl ?iter ?turn ?done)
    case iter =>
      k_steps
      unfold Halt
      rename (Fr _ _ _ _) => z_F
      rename (News _ _ _ _) => z_N
      exact ⟨_, _, _, _, _, _, rfl, rfl, News.isTup z_N (.head _), by omega, ⟨hmb, hmp⟩, ⟨_, _, rfl⟩, z_F, z_N⟩
    case turn =>
      rintro i v m h tk I t o it ot hv hfI hft htI ⟨gb, gp⟩ ⟨tp', np', rfl⟩ F7 N7
      clear F5 N6
      obtain ⟨⟨sg, rfl⟩, hi2⟩ := two_bools hv
      replace F7 : Fr s₁.heap s₁.heap.objs.size h _ := Fr.two F7 gb gp
      replace N7 : News s₁.heap s₁.heap.objs.size h _ := N7
      refine wpAny_split (fun s' => ∃ x, TurnJ s₁.heap s₁.heap.objs.size pen l bits tb sg (2 + 2 * (i : Int)) x [(I, it), (t, ot)] s₁ s') ?p1 ?p2
      case p1 =>
        k_steps
        iterate 6
          all_goals try
            refine Halt.put ?_
            first
              | (k_here; (with_reducible show wpAny _ _ (call (Value.ref 221) [Value.ref _]) _ _ _); k_dflt (refine' next_use ?nx_k1 ?nx_k2 ?nx_k3 ?nx_k4 ?nx_k5 ?nx_k6 ?nx_k7 ?nx_k8 ?nx_k9 ?nx_k10 ?nx_k11 ?nx_k12 ?nx_k13 ?nx_k14 ?_; (case nx_k1 | nx_k2 | nx_k3 | nx_k4 | nx_k5 => k_asm); (case nx_k6 => first | exact List.forall_mem_nil _ | (simp only [List.forall_mem_cons, List.not_mem_nil, false_implies, implies_true, and_true]; omega)); (case nx_k7 => first | assumption | exact rfl); (case nx_k8 => ktr_room); (case nx_k9 => ktr_units); (case nx_k10 | nx_k11 => assumption); (case nx_k12 | nx_k13 | nx_k14 => omega); k_whole); intro v' t1' t2' n' h' tk' F' N')
              | (k_here; (with_reducible show wpAny _ _ (call (Value.ref 221) [Value.ref _]) _ _ _); k_dflt (refine' next_use ?nx_k1b ?nx_k2b ?nx_k3b ?nx_k4b ?nx_k5b ?nx_k6b ?nx_k7b ?nx_k8b ?nx_k9b ?nx_k10b ?nx_k11b ?nx_k12b ?nx_k13b ?nx_k14b ?_; (case nx_k1b | nx_k2b | nx_k3b | nx_k4b | nx_k5b => k_asm); (case nx_k6b => first | exact List.forall_mem_nil _ | (simp only [List.forall_mem_cons, List.not_mem_nil, false_implies, implies_true, and_true]; omega)); (case nx_k7b => first | assumption | exact rfl); (case nx_k8b => ktr_room); (case nx_k9b => ktr_units); (case nx_k10b | nx_k11b => assumption); (case nx_k12b | nx_k13b | nx_k14b => omega); k_whole); intro v' t1' t2' n' h' tk' F' N')
              | (k_here; (with_reducible show wpAny _ _ (call (Value.ref 221) [Value.ref _]) _ _ _); k_dflt (refine' next_use ?nx_k1c ?nx_k2c ?nx_k3c ?nx_k4c ?nx_k5c ?nx_k6c ?nx_k7c ?nx_k8c ?nx_k9c ?nx_k10c ?nx_k11c ?nx_k12c ?nx_k13c ?nx_k14c ?_; (case nx_k1c | nx_k2c | nx_k3c | nx_k4c | nx_k5c => k_asm); (case nx_k6c => first | exact List.forall_mem_nil _ | (simp only [List.forall_mem_cons, List.not_mem_nil, false_implies, implies_true, and_true]; omega)); (case nx_k7c => first | assumption | exact rfl); (case nx_k8c => ktr_room); (case nx_k9c => ktr_units); (case nx_k10c | nx_k11c => assumption); (case nx_k12c | nx_k13c | nx_k14c => omega); k_whole); intro v' t1' t2' n' h' tk' F' N')
              | (k_here; (with_reducible show wpAny _ _ (call (Value.ref 228) [Value.int _ _, Value.int _ _, Value.bool _]) _ _ _); k_dflt (refine' number_use ?nu_k1 ?nu_k2 ?nu_k3 ?nu_k4 ?nu_k5 ?nu_k7 ?nu_k8 ?nu_k9 ?nu_k10 ?nu_k11 ?_; (case nu_k1 | nu_k2 | nu_k3 | nu_k4 | nu_k5 => k_asm); (case nu_k7 => first | assumption | exact rfl); (case nu_k8 => ktr_room); (case nu_k9 => ktr_units); (case nu_k10 | nu_k11 => omega); k_whole); intro v' t1' h' tk' F' N')
              | (k_here; (with_reducible show wpAny _ _ (call (Value.ref 228) [Value.int _ _, Value.int _ _, Value.bool _]) _ _ _); k_dflt (refine' number_use ?nu_k1b ?nu_k2b ?nu_k3b ?nu_k4b ?nu_k5b ?nu_k7b ?nu_k8b ?nu_k9b ?nu_k10b ?nu_k11b ?_; (case nu_k1b | nu_k2b | nu_k3b | nu_k4b | nu_k5b => k_asm); (case nu_k7b => first | assumption | exact rfl); (case nu_k8b => ktr_room); (case nu_k9b => ktr_units); (case nu_k10b | nu_k11b => omega); k_whole); intro v' t1' h' tk' F' N')
              | (k_here; (with_reducible show wpAny _ _ (call (Value.ref 228) [Value.int _ _, Value.int _ _, Value.bool _]) _ _ _); k_dflt (refine' number_use ?nu_k1c ?nu_k2c ?nu_k3c ?nu_k4c ?nu_k5c ?nu_k7c ?nu_k8c ?nu_k9c ?nu_k10c ?nu_k11c ?_; (case nu_k1c | nu_k2c | nu_k3c | nu_k4c | nu_k5c => k_asm); (case nu_k7c => first | assumption | exact rfl); (case nu_k8c => ktr_room); (case nu_k9c => ktr_units); (case nu_k10c | nu_k11c => omega); k_whole); intro v' t1' h' tk' F' N')
              | (k_here; (with_reducible show wpAny _ _ (call (Value.ref 233) [Value.int _ _, Value.int _ _]) _ _ _); k_dflt (refine' groups_use ?gr_k1 ?gr_k2 ?gr_k3 ?gr_k4 ?gr_k5 ?gr_k7 ?gr_k8 ?gr_k9 ?gr_k10 ?gr_k11 ?_; (case gr_k1 | gr_k2 | gr_k3 | gr_k4 | gr_k5 => k_asm); (case gr_k7 => first | assumption | exact rfl); (case gr_k8 => ktr_room); (case gr_k9 => ktr_units); (case gr_k10 => first | omega | exact (y_in _).1); (case gr_k11 => first | omega | exact (y_in _).2); k_whole); intro l' vs' ks' n' h' tk' hI' hg1' hg2' hr' hl' F' N' hw'; (simp only [List.forall_mem_cons, List.not_mem_nil, false_implies, implies_true, and_true] at hw'))
              | (k_here; (with_reducible show wpAny _ _ (call (Value.ref 233) [Value.int _ _, Value.int _ _]) _ _ _); k_dflt (refine' groups_use ?gr_k1b ?gr_k2b ?gr_k3b ?gr_k4b ?gr_k5b ?gr_k7b ?gr_k8b ?gr_k9b ?gr_k10b ?gr_k11b ?_; (case gr_k1b | gr_k2b | gr_k3b | gr_k4b | gr_k5b => k_asm); (case gr_k7b => first | assumption | exact rfl); (case gr_k8b => ktr_room); (case gr_k9b => ktr_units); (case gr_k10b => first | omega | exact (y_in _).1); (case gr_k11b => first | omega | exact (y_in _).2); k_whole); intro l' vs' ks' n' h' tk' hI' hg1' hg2' hr' hl' F' N' hw'; (simp only [List.forall_mem_cons, List.not_mem_nil, false_implies, implies_true, and_true] at hw'))
              | (k_here; (with_reducible show wpAny _ _ (call (Value.ref 233) [Value.int _ _, Value.int _ _]) _ _ _); k_dflt (refine' groups_use ?gr_k1c ?gr_k2c ?gr_k3c ?gr_k4c ?gr_k5c ?gr_k7c ?gr_k8c ?gr_k9c ?gr_k10c ?gr_k11c ?_; (case gr_k1c | gr_k2c | gr_k3c | gr_k4c | gr_k5c => k_asm); (case gr_k7c => first | assumption | exact rfl); (case gr_k8c => ktr_room); (case gr_k9c => ktr_units); (case gr_k10c => first | omega | exact (y_in _).1); (case gr_k11c => first | omega | exact (y_in _).2); k_whole); intro l' vs' ks' n' h' tk' hI' hg1' hg2' hr' hl' F' N' hw'; (simp only [List.forall_mem_cons, List.not_mem_nil, false_implies, implies_true, and_true] at hw'))
              | (k_here; (try dsimp only); (with_reducible show wpAny _ _ (setItem (Value.ref _) (Value.int (-1) _) (Value.int _ _)) _ _ _); k_dflt (refine' set_last ?sl_k1 ?sl_k2 ?sl_k3 ?sl_k4 ?sl_k5 ?sl_k6 ?_; (case sl_k1 | sl_k2 => k_asm); (case sl_k3 => k_upd); (case sl_k4 => with_reducible assumption); (case sl_k5 | sl_k6 => omega); k_whole); intro h' F' N' hI'; (try k_sweep))
              | (k_here; (try dsimp only); (with_reducible show wpAny _ _ (setItem (Value.ref _) (Value.int (-1) _) (Value.int _ _)) _ _ _); k_dflt (refine' set_last ?sl_k1b ?sl_k2b ?sl_k3b ?sl_k4b ?sl_k5b ?sl_k6b ?_; (case sl_k1b | sl_k2b => k_asm); (case sl_k3b => k_upd); (case sl_k4b => with_reducible assumption); (case sl_k5b | sl_k6b => omega); k_whole); intro h' F' N' hI'; (try k_sweep))
              | (k_here; (try dsimp only); (with_reducible show wpAny _ _ (setItem (Value.ref _) (Value.int (-1) _) (Value.int _ _)) _ _ _); k_dflt (refine' set_last ?sl_k1c ?sl_k2c ?sl_k3c ?sl_k4c ?sl_k5c ?sl_k6c ?_; (case sl_k1c | sl_k2c => k_asm); (case sl_k3c => k_upd); (case sl_k4c => with_reducible assumption); (case sl_k5c | sl_k6c => omega); k_whole); intro h' F' N' hI'; (try k_sweep))
              | (k_here; (with_reducible show wpAny _ _ (call (Value.builtin _) [Value.ref _, Value.int _ _]) _ _ _); k_dflt (refine' append_ints ?ap_k1 ?ap_k2 ?ap_k3 ?ap_k4 ?ap_k5 ?_; (case ap_k1 | ap_k2 => k_asm); (case ap_k3 => k_upd); (case ap_k4 => l_ints); (case ap_k5 => (try simp only [List.length_append, List.length_cons, List.length_nil, List.length_set]); omega); k_whole); intro h' F' N' hI'; (try k_sweep))
              | (k_here; (with_reducible show wpAny _ _ (call (Value.builtin _) [Value.ref _, Value.int _ _]) _ _ _); k_dflt (refine' append_ints ?ap_k1b ?ap_k2b ?ap_k3b ?ap_k4b ?ap_k5b ?_; (case ap_k1b | ap_k2b => k_asm); (case ap_k3b => k_upd); (case ap_k4b => l_ints); (case ap_k5b => (try simp only [List.length_append, List.length_cons, List.length_nil, List.length_set]); omega); k_whole); intro h' F' N' hI'; (try k_sweep))
              | (k_here; (with_reducible show wpAny _ _ (call (Value.builtin _) [Value.ref _, Value.int _ _]) _ _ _); k_dflt (refine' append_ints ?ap_k1c ?ap_k2c ?ap_k3c ?ap_k4c ?ap_k5c ?_; (case ap_k1c | ap_k2c => k_asm); (case ap_k3c => k_upd); (case ap_k4c => l_ints); (case ap_k5c => (try simp only [List.length_append, List.length_cons, List.length_nil, List.length_set]); omega); k_whole); intro h' F' N' hI'; (try k_sweep))
          all_goals try k_steps
        all_goals
          unfold Halt
          with_reducible rename (Fr _ _ _ _) => z_F
          with_reducible rename (News _ _ _ _) => z_N
          with_reducible rename (IntsAre _ _) => z_I
        · with_reducible rename (1 ≤ List.length _) => z_1
          with_reducible rename (List.length _ ≤ 11) => z_2
          with_reducible rename (∀ k ∈ _, 0 ≤ k ∧ k < 256) => z_3
          with_reducible rename (∀ k, _ = some k → k < 128) => z_4
          refine' ⟨rfl, _, _, _, _, _, _, _, _, _, _, _, z_I, ?z_l, ?z_r, rfl, Fr.five z_F rfl rfl rfl rfl rfl, cb_drop z_N ?z_M⟩
          case z_M => (refine' List.forall_mem_cons.mpr ⟨?_, List.forall_mem_cons.mpr ⟨?_, List.forall_mem_cons.mpr ⟨?_, List.forall_mem_cons.mpr ⟨?_, List.forall_mem_nil _⟩⟩⟩⟩ <;> k_dflt k_mem)
          case z_l => (simp only [List.length_append, List.length_cons, List.length_nil, List.length_set]; omega)
          case z_r =>
            have z_5 := last_in z_3 z_4 z_1
            have z_6 := (show ∀ n : Nat, 1 ≤ n → (-1 + (n : Int)).toNat = n - 1 from fun n h => by omega) _ z_1
            rw [z_6]
            refine app_in (set_in z_3 (by omega) _) (fun k hk => ?_)
            rw [List.mem_singleton.mp hk]
            exact ⟨Int.fmod_nonneg_of_pos _ (by decide), Int.fmod_lt_of_pos _ (by decide)⟩
        · with_reducible rename (1 ≤ List.length _) => z_1
          with_reducible rename (List.length _ ≤ 11) => z_2
          with_reducible rename (∀ k ∈ _, 0 ≤ k ∧ k < 256) => z_3
          with_reducible rename (∀ k, _ = some k → k < 128) => z_4
          with_reducible rename (_ < (7 : Int)) => z_7
          with_reducible rename (0 ≤ Int.fmod _ 7) => z_8
          refine' ⟨rfl, _, _, _, _, _, _, _, _, _, _, _, z_I, ?z_l, ?z_r, rfl, Fr.five z_F rfl rfl rfl rfl rfl, cb_drop z_N ?z_M⟩
          case z_M => (refine' List.forall_mem_cons.mpr ⟨?_, List.forall_mem_cons.mpr ⟨?_, List.forall_mem_cons.mpr ⟨?_, List.forall_mem_cons.mpr ⟨?_, List.forall_mem_nil _⟩⟩⟩⟩ <;> k_dflt k_mem)
          case z_l => (simp only [List.length_set]; omega)
          case z_r =>
            have z_5 := last_in z_3 z_4 z_1
            have z_6 := (show ∀ n : Nat, 1 ≤ n → (-1 + (n : Int)).toNat = n - 1 from fun n h => by omega) _ z_1
            rw [z_6]
            exact set_in z_3 (xor_in z_5.1 z_5.2 z_8 z_7) _
        · with_reducible rename (_ < (0 : Int)) => z_n
          exact absurd (Int.fmod_nonneg_of_pos _ (by omega)) (Int.not_le.mpr z_n)
        · with_reducible rename (∀ k ∈ _, 0 ≤ k ∧ k < 256) => z_3
          with_reducible rename (List.length _ ≤ 11) => z_2
          refine' ⟨rfl, _, _, _, _, _, _, _, _, _, _, _, z_I, ?z_l, ?z_r, rfl, Fr.five z_F rfl rfl rfl rfl rfl, cb_drop z_N ?z_M⟩
          case z_M => (refine' List.forall_mem_cons.mpr ⟨?_, List.forall_mem_cons.mpr ⟨?_, List.forall_mem_cons.mpr ⟨?_, List.forall_mem_cons.mpr ⟨?_, List.forall_mem_nil _⟩⟩⟩⟩ <;> k_dflt k_mem)
          case z_l => (rw [List.length_take]; omega)
          case z_r => exact fun k hk => z_3 k (List.mem_of_mem_take hk)
        · with_reducible rename (∀ k ∈ _, 0 ≤ k ∧ k < 256) => z_3
          with_reducible rename (List.length _ ≤ 11) => z_2
          refine' ⟨rfl, _, _, _, _, _, _, _, _, _, _, _, z_I, ?z_l, ?z_r, rfl, Fr.five z_F rfl rfl rfl rfl rfl, cb_drop z_N ?z_M⟩
          case z_M => (refine' List.forall_mem_cons.mpr ⟨?_, List.forall_mem_cons.mpr ⟨?_, List.forall_mem_cons.mpr ⟨?_, List.forall_mem_cons.mpr ⟨?_, List.forall_mem_nil _⟩⟩⟩⟩ <;> k_dflt k_mem)
          case z_l => omega
          case z_r => exact z_3
      case p2 =>
        rintro s' ⟨x, lo, vs, ks, n, np, tk', h', m', tx, tp2, hI, hz, hr, rfl, F8, N8⟩
        clear F7 N7 gb gp
        k_steps
        iterate 8
          all_goals try
            refine Halt.put ?_
            first
              | (k_here; (with_reducible show wpAny _ _ (call (Value.ref 238) [Value.ref _, Value.int _ _, Value.bool _]) _ _ _); k_dflt (refine' due_use ?du_k1 ?du_k2 ?du_k3 ?du_k4 ?du_k5 ?du_k6 ?du_k7 ?du_k8 ?du_k9 ?du_k10 ?du_k11 ?du_k12 ?du_k13 ?du_k14 ?_; (case du_k1 | du_k2 | du_k3 | du_k4 | du_k5 => k_asm); (case du_k6 => k_mem); (case du_k7 => first | assumption | exact rfl); (case du_k8 => ktr_room); (case du_k9 => ktr_units); (case du_k10 | du_k11 => with_reducible assumption); (case du_k12 | du_k13 => omega); (case du_k14 => with_reducible assumption); k_whole); intro tt' od' u1' u2' u3' h' tk' hod' F' N' hw'; (simp only [List.forall_mem_cons, List.not_mem_nil, false_implies, implies_true, and_true] at hw'))
              | (k_here; (with_reducible show wpAny _ _ (call (Value.ref 238) [Value.ref _, Value.int _ _, Value.bool _]) _ _ _); k_dflt (refine' due_use ?du_k1b ?du_k2b ?du_k3b ?du_k4b ?du_k5b ?du_k6b ?du_k7b ?du_k8b ?du_k9b ?du_k10b ?du_k11b ?du_k12b ?du_k13b ?du_k14b ?_; (case du_k1b | du_k2b | du_k3b | du_k4b | du_k5b => k_asm); (case du_k6b => k_mem); (case du_k7b => first | assumption | exact rfl); (case du_k8b => ktr_room); (case du_k9b => ktr_units); (case du_k10b | du_k11b => with_reducible assumption); (case du_k12b | du_k13b => omega); (case du_k14b => with_reducible assumption); k_whole); intro tt' od' u1' u2' u3' h' tk' hod' F' N' hw'; (simp only [List.forall_mem_cons, List.not_mem_nil, false_implies, implies_true, and_true] at hw'))
              | (k_here; (with_reducible show wpAny _ _ (call (Value.ref 238) [Value.ref _, Value.int _ _, Value.bool _]) _ _ _); k_dflt (refine' due_use ?du_k1c ?du_k2c ?du_k3c ?du_k4c ?du_k5c ?du_k6c ?du_k7c ?du_k8c ?du_k9c ?du_k10c ?du_k11c ?du_k12c ?du_k13c ?du_k14c ?_; (case du_k1c | du_k2c | du_k3c | du_k4c | du_k5c => k_asm); (case du_k6c => k_mem); (case du_k7c => first | assumption | exact rfl); (case du_k8c => ktr_room); (case du_k9c => ktr_units); (case du_k10c | du_k11c => with_reducible assumption); (case du_k12c | du_k13c => omega); (case du_k14c => with_reducible assumption); k_whole); intro tt' od' u1' u2' u3' h' tk' hod' F' N' hw'; (simp only [List.forall_mem_cons, List.not_mem_nil, false_implies, implies_true, and_true] at hw'))
              | (k_here; (with_reducible show wpAny _ _ (subscriptTail _ (PySem.Expr.Slice _ _ none _) (Value.ref _) (Value.ref _)) _ _ _); k_dflt (refine' cut_three ?ct_F ?ct_N ?ct_l ?ct_x ?_ ?ct_s; (case ct_F | ct_N => k_asm); (case ct_l => k_mem); (case ct_x => exact Int.fmod_nonneg_of_pos _ (by decide)); (case ct_s => with_unfolding_all rfl); k_whole); intro D' ws' h' F' N' l1 hI' hC'; (try k_lt l1))
              | (k_here; (with_reducible show wpAny _ _ (subscriptTail _ (PySem.Expr.Slice _ _ none _) (Value.ref _) (Value.ref _)) _ _ _); k_dflt (refine' cut_three ?ct_Fb ?ct_Nb ?ct_lb ?ct_xb ?_ ?ct_sb; (case ct_Fb | ct_Nb => k_asm); (case ct_lb => k_mem); (case ct_xb => exact Int.fmod_nonneg_of_pos _ (by decide)); (case ct_sb => with_unfolding_all rfl); k_whole); intro D' ws' h' F' N' l1 hI' hC'; (try k_lt l1))
              | (k_here; (with_reducible show wpAny _ _ (subscriptTail _ (PySem.Expr.Slice _ _ none _) (Value.ref _) (Value.ref _)) _ _ _); k_dflt (refine' cut_three ?ct_Fc ?ct_Nc ?ct_lc ?ct_xc ?_ ?ct_sc; (case ct_Fc | ct_Nc => k_asm); (case ct_lc => k_mem); (case ct_xc => exact Int.fmod_nonneg_of_pos _ (by decide)); (case ct_sc => with_unfolding_all rfl); k_whole); intro D' ws' h' F' N' l1 hI' hC'; (try k_lt l1))
              | (k_here; (with_reducible show wpAny _ _ (call (Value.ref 245) [Value.ref _, Value.int _ _, Value.bool _]) _ _ _); k_dflt (refine' told_use ?td_k1 ?td_k2 ?td_k3 ?td_k4 ?td_k5 ?td_k6 ?td_k7 ?td_k8 ?td_k9 ?td_k10 ?td_k11 ?td_k12 ?td_k13 ?td_k14 ?td_k15 ?td_k16 ?td_k17 ?td_k18 ?td_k19 ?td_k20 ?_; (case td_k1 | td_k2 => assumption); (case td_k3 | td_k4 | td_k5 | td_k6 | td_k7 => k_asm); (case td_k8 => first | assumption | exact rfl); (case td_k9 => ktr_room); (case td_k10 => ktr_units); (case td_k11 => exact KBa.ints_make (by with_reducible assumption)); (case td_k12 => omega); (case td_k13 => simp only [List.forall_mem_cons, List.not_mem_nil, false_implies, implies_true, and_true]; omega); (case td_k14 => (try simp only [List.length_append, List.length_cons, List.length_nil, List.length_take]); omega); (case td_k15 | td_k16 => omega); (case td_k17 => (try simp only [List.length_append, List.length_cons, List.length_nil]); omega); (case td_k18 | td_k19 => omega); (case td_k20 => first | exact (congrArg (goR _ _) (cut_mid rfl rfl)).trans (go_due (by with_reducible assumption) (by with_reducible assumption)) | exact (congrArg (goR _ _) (cut_all rfl)).trans (go_due (by with_reducible assumption) (by with_reducible assumption))); k_whole); intro tt' od' u1' u2' u3' h' tk' hod' F' N')
              | (k_here; (with_reducible show wpAny _ _ (call (Value.ref 245) [Value.ref _, Value.int _ _, Value.bool _]) _ _ _); k_dflt (refine' told_use ?td_k1b ?td_k2b ?td_k3b ?td_k4b ?td_k5b ?td_k6b ?td_k7b ?td_k8b ?td_k9b ?td_k10b ?td_k11b ?td_k12b ?td_k13b ?td_k14b ?td_k15b ?td_k16b ?td_k17b ?td_k18b ?td_k19b ?td_k20b ?_; (case td_k1b | td_k2b => assumption); (case td_k3b | td_k4b | td_k5b | td_k6b | td_k7b => k_asm); (case td_k8b => first | assumption | exact rfl); (case td_k9b => ktr_room); (case td_k10b => ktr_units); (case td_k11b => exact KBa.ints_make (by with_reducible assumption)); (case td_k12b => omega); (case td_k13b => simp only [List.forall_mem_cons, List.not_mem_nil, false_implies, implies_true, and_true]; omega); (case td_k14b => (try simp only [List.length_append, List.length_cons, List.length_nil, List.length_take]); omega); (case td_k15b | td_k16b => omega); (case td_k17b => (try simp only [List.length_append, List.length_cons, List.length_nil]); omega); (case td_k18b | td_k19b => omega); (case td_k20b => first | exact (congrArg (goR _ _) (cut_mid rfl rfl)).trans (go_due (by with_reducible assumption) (by with_reducible assumption)) | exact (congrArg (goR _ _) (cut_all rfl)).trans (go_due (by with_reducible assumption) (by with_reducible assumption))); k_whole); intro tt' od' u1' u2' u3' h' tk' hod' F' N')
              | (k_here; (with_reducible show wpAny _ _ (call (Value.ref 245) [Value.ref _, Value.int _ _, Value.bool _]) _ _ _); k_dflt (refine' told_use ?td_k1c ?td_k2c ?td_k3c ?td_k4c ?td_k5c ?td_k6c ?td_k7c ?td_k8c ?td_k9c ?td_k10c ?td_k11c ?td_k12c ?td_k13c ?td_k14c ?td_k15c ?td_k16c ?td_k17c ?td_k18c ?td_k19c ?td_k20c ?_; (case td_k1c | td_k2c => assumption); (case td_k3c | td_k4c | td_k5c | td_k6c | td_k7c => k_asm); (case td_k8c => first | assumption | exact rfl); (case td_k9c => ktr_room); (case td_k10c => ktr_units); (case td_k11c => exact KBa.ints_make (by with_reducible assumption)); (case td_k12c => omega); (case td_k13c => simp only [List.forall_mem_cons, List.not_mem_nil, false_implies, implies_true, and_true]; omega); (case td_k14c => (try simp only [List.length_append, List.length_cons, List.length_nil, List.length_take]); omega); (case td_k15c | td_k16c => omega); (case td_k17c => (try simp only [List.length_append, List.length_cons, List.length_nil]); omega); (case td_k18c | td_k19c => omega); (case td_k20c => first | exact (congrArg (goR _ _) (cut_mid rfl rfl)).trans (go_due (by with_reducible assumption) (by with_reducible assumption)) | exact (congrArg (goR _ _) (cut_all rfl)).trans (go_due (by with_reducible assumption) (by with_reducible assumption))); k_whole); intro tt' od' u1' u2' u3' h' tk' hod' F' N')
              | (k_here; k_dflt (refine' ne_res ?ne_N ?ne_a ?ne_b ?ne_c ?ne_d ?ne_e ?ne_f ?_; (case ne_N => k_asm); (case ne_a | ne_b => k_mem); (case ne_c | ne_d => with_reducible assumption); (case ne_e => exact dueR_ok); (case ne_f => ke_room); k_whole))
              | (k_here; k_dflt (refine' ne_res ?ne_Nb ?ne_ab ?ne_bb ?ne_cb ?ne_db ?ne_eb ?ne_fb ?_; (case ne_Nb => k_asm); (case ne_ab | ne_bb => k_mem); (case ne_cb | ne_db => with_reducible assumption); (case ne_eb => exact dueR_ok); (case ne_fb => ke_room); k_whole))
              | (k_here; k_dflt (refine' ne_res ?ne_Nc ?ne_ac ?ne_bc ?ne_cc ?ne_dc ?ne_ec ?ne_fc ?_; (case ne_Nc => k_asm); (case ne_ac | ne_bc => k_mem); (case ne_cc | ne_dc => with_reducible assumption); (case ne_ec => exact dueR_ok); (case ne_fc => ke_room); k_whole))
          all_goals try k_steps
        all_goals
          unfold Halt
          with_reducible rename (Fr s₁.heap _ _ _) => z_F
          with_reducible rename (News s₁.heap _ _ _) => z_N
          refine' ⟨.inl rfl, _, _, _, listOf #[.ref l, .int (2 + 2 * (i : Int) + 1 + 1) tp2] np, rfl, ?z_g, ⟨tp2, np, ?z_p⟩, z_F, cb_drop z_N ?z_M⟩
          case z_g => exact ⟨rfl, rfl⟩
          case z_p => rw [show (2 + 2 * ((i + 1 : Nat) : Int)) = 2 + 2 * (i : Int) + 1 + 1 by omega]
          case z_M => (refine' List.forall_mem_cons.mpr ⟨?_, List.forall_mem_cons.mpr ⟨?_, List.forall_mem_cons.mpr ⟨?_, List.forall_mem_nil _⟩⟩⟩ <;> k_dflt k_mem)
    case done =>
      rintro h tk m o - - F8 N8
      clear F5 N6
      k_steps
      exact hgood _ (fun b o e => F8.keep b o e) rfl hg)
end
end Nm
theorem PySem.Challenge.cw_nm0117_01_holds : PySem.Challenge.rw_nm0117_01.Holds :=
  Nm.law_holds
