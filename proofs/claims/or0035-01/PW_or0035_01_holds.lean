import PyProof.Rows.All
import Wide.All
import OpenK.AllK
import Wide.FinOn
import Lean
import PySem.Challenge.RW_or0035_01
open PySem PySem.W PyProof.Rows
set_option Elab.async false
set_option compiler.extract_closed false
namespace Mine
set_option maxRecDepth 100000 in
set_option maxHeartbeats 8000000 in
open_top hd for PySem.Challenge.rw_or0035_01
set_option maxRecDepth 100000
open PySem.Spec PySem.Calls
theorem filled : (PySem.Challenge.rw_or0035_01 = PySem.Challenge.rw_or0035_01) ∧ (hd.heap_39 = hd.heap_39) := by
  k_fill
  exact ⟨rfl, rfl⟩

section
/-- every old object is as it was -/
def Ext (h h' : Heap) : Prop := ∀ b o, h.get? b = some o → h'.get? b = some o
theorem Ext.refl (h : Heap) : Ext h h := fun _ _ e => e
theorem Ext.trans {a b c : Heap} (x : Ext a b) (y : Ext b c) : Ext a c := fun q o e => y q o (x q o e)

/-- every old object is as it was, but for the slots of the frames fs -/
def Up (fs : List Addr) (h h' : Heap) : Prop := ∀ b o, h.get? b = some o → (b ∉ fs → h'.get? b = some o) ∧ ∃ sl, h'.get? b = some { o with slots := sl }
theorem Up.of_ext {fs : List Addr} {h h' : Heap} (x : Ext h h') : Up fs h h' := fun b o e => ⟨fun _ => x b o e, o.slots, x b o e⟩
theorem Up.trans {fs : List Addr} {a b c : Heap} (x : Up fs a b) (y : Up fs b c) : Up fs a c := fun q o e => by
  obtain ⟨x1, sl, x2⟩ := x q o e
  refine ⟨fun n => (y q o (x1 n)).1 n, ?_⟩
  obtain ⟨_, sl', y2⟩ := y q _ x2
  exact ⟨sl', y2⟩
theorem Up.fresh {fs : List Addr} {h h' : Heap} (x : Up fs h h') {b : Addr} (e : h'.get? b = none) : h.get? b = none := by
  cases q : h.get? b with
  | none => rfl
  | some o => obtain ⟨_, sl, z⟩ := x b o q; rw [e] at z; cases z
theorem Ext.fresh {h h' : Heap} (x : Ext h h') {b : Addr} (e : h'.get? b = none) : h.get? b = none := by
  cases q : h.get? b with
  | none => rfl
  | some o => have z := x b o q; rw [e] at z; cases z
/-- one more frame, which the older heap does not have -/
theorem Up.drop {L : Addr} {fs : List Addr} {h g h' : Heap} (x : Ext h g) (n : h.get? L = none) (y : Up (L :: fs) g h') : Up fs h h' := fun b o e => by
  obtain ⟨y1, y2⟩ := y b o (x b o e)
  refine ⟨fun nb => y1 fun m => ?_, y2⟩
  rcases List.mem_cons.mp m with q | q
  · rw [q, n] at e; cases e
  · exact nb q

abbrev fsOf (outer : List Env) : List Addr := outer.filterMap (·.frame)

/-- the exception object's first traceback -/
def Head (h₀ : Heap) (e : Addr) (hd : Value) (h : Heap) : Prop := hd = .none ∨ ∃ T oT ts, hd = .ref T ∧ T ≠ e ∧ h₀.get? T = none ∧ h.get? T = some oT ∧ oT.data = .fields ts ∧ ts[3]? = some .none

/-- a WordFault with the offset k flies: made since h₀ -/
def Fly (h₀ : Heap) (k : Int) (e : Addr) (h : Heap) : Prop :=
  ∃ oe vs d md tk hd, h.get? e = some oe ∧ oe.cls = .ref 52 ∧ oe.dict = some d ∧ oe.data = .fields vs ∧ vs[1]? = some hd ∧ h₀.get? e = none ∧ h.Ns d md ∧ md "at" = some (.int k tk) ∧ h₀.get? d = none ∧ Head h₀ e hd h

theorem Head.older {h₀ g h : Heap} {e : Addr} {hd : Value} (x : Ext h₀ g) (y : Head g e hd h) : Head h₀ e hd h := by
  rcases y with q | ⟨T, oT, ts, a, b, c, d⟩
  · exact .inl q
  · exact .inr ⟨T, oT, ts, a, b, x.fresh c, d⟩
theorem Fly.older {h₀ g h : Heap} {k : Int} {e : Addr} (x : Ext h₀ g) (y : Fly g k e h) : Fly h₀ k e h := by
  obtain ⟨oe, vs, d, md, tk, hd, a1, a2, a3, a4, a5, a6, a7, a8, a9, a10⟩ := y
  exact ⟨oe, vs, d, md, tk, hd, a1, a2, a3, a4, a5, x.fresh a6, a7, a8, x.fresh a9, a10.older x⟩

theorem ns_up {fs : List Addr} {h h' : Heap} {a : Addr} {m : Str → Option Value} (x : Up fs h h') (n : h.Ns a m) : h'.Ns a m := by
  obtain ⟨o, es, ep, ho, hd, r⟩ := n
  obtain ⟨_, sl, hs⟩ := x a o ho
  exact ⟨_, es, ep, hs, hd, r⟩

theorem funFrames_up {fs : List Addr} {h h' base : Heap} {l : List Env} (x : Up fs h h') (hl : h.FunFrames base l) : h'.FunFrames base l :=
  hl.of_keeps fun b o e _ => by obtain ⟨_, sl, z⟩ := x b o e; exact ⟨_, z, rfl⟩

section
variable {M : Model} {A : Around} {E : Value → Shared → Prop} {s : Shared}

/-- the record at a has new cells; all else stands -/
structure Cell (h h' : Heap) (a : Addr) (o : Obj) (vs : Array Value) : Prop where
  here : h'.get? a = some { o with data := .fields vs }
  rest : ∀ b, b ≠ a → h'.get? b = h.get? b

theorem cell_set {a : Addr} {o : Obj} {vs : Array Value} {i : Nat} {x : Value} {Q : Unit → Shared → Prop} (ho : s.heap.get? a = some o) (hd : o.data = .fields vs) (hi : i < vs.size)
    (k : ∀ h', Cell s.heap h' a o (vs.setIfInBounds i x) → Q () { s with heap := h' }) : wpAny M A (setField (.ref a) i x) Q E s := by
  obtain ⟨oc, od, dt, sl⟩ := o
  cases hd
  exact wpAny_setField ho rfl hi (k _ ⟨Heap.get?_update_self _ ho rfl, fun b nb => Heap.get?_update_other _ _ nb.symm⟩)

/-- what stays of a fault while its traceback grows: g up to the frames' slots, its record, the names of its dict -/
structure Stays (fs : List Addr) (g : Heap) (e : Addr) (oe : Obj) (d : Addr) (md : Str → Option Value) (h : Heap) : Prop where
  up : Up fs g h
  rcd : h.get? e = some oe
  names : h.Ns d md

theorem Stays.ext {fs : List Addr} {g h h' : Heap} {e d : Addr} {oe : Obj} {md : Str → Option Value} (S : Stays fs g e oe d md h) (x : Ext h h') : Stays fs g e oe d md h' :=
  ⟨S.up.trans (.of_ext x), x _ _ S.rcd, ns_up (.of_ext x : Up fs h h') S.names⟩

theorem Stays.slots {fs : List Addr} {g h h' : Heap} {e d : Addr} {oe : Obj} {md : Str → Option Value} (S : Stays fs g e oe d md h) (x : Heap.SlotsOnly fs h h') (out : e ∉ fs) : Stays fs g e oe d md h' := by
  have u : Up fs h h' := fun b o q => ⟨fun nb => (x.2.1 b nb).trans q, x.2.2 b o q⟩
  exact ⟨S.up.trans u, (u e oe S.rcd).1 out, ns_up u S.names⟩

theorem Cell.up {fs : List Addr} {g h h' : Heap} {T : Addr} {oT : Obj} {ts : Array Value} (C : Cell h h' T oT ts) (u : Up fs g h) (n : g.get? T = none) : Up fs g h' := fun b o q => by
  rw [C.rest b fun z => by rw [z, n] at q; cases q]
  exact u b o q
theorem Cell.ns {h h' : Heap} {T d : Addr} {oT : Obj} {ts : Array Value} {md : Str → Option Value} (C : Cell h h' T oT ts) (n : h.Ns d md) (ne : d ≠ T) : h'.Ns d md := by
  obtain ⟨o, es, ep, ho, r⟩ := n
  exact ⟨o, es, ep, (C.rest d ne).trans ho, r⟩
theorem Stays.cell {fs : List Addr} {g h h' : Heap} {e d T : Addr} {oe oT : Obj} {ts : Array Value} {md : Str → Option Value} (S : Stays fs g e oe d md h) (C : Cell h h' T oT ts) (n : g.get? T = none) (ne : T ≠ e) (nd : d ≠ T) : Stays fs g e oe d md h' :=
  ⟨C.up S.up n, (C.rest e ne.symm).trans S.rcd, C.ns S.names nd⟩

/-- a dict is no record -/
theorem dict_ne {h : Heap} {a d : Addr} {o : Obj} {vs : Array Value} {md : Str → Option Value} (n : h.Ns d md) (ho : h.get? a = some o) (hd : o.data = .fields vs) : d ≠ a := by
  rintro rfl
  obtain ⟨o', _, _, ho', hd', _⟩ := n
  obtain rfl : o = o' := Option.some.inj (ho.symm.trans ho')
  exact nomatch hd.symm.trans hd'

/-- a traceback's record for the frame L -/
theorem entry_made {head : Value} {L : Addr} {pl : List Value} {Q : Value → Shared → Prop} (hpl : IsPlace pl)
    (k : ∀ h' T oT ts, Ext s.heap h' → s.heap.get? T = none → h'.get? T = some oT → oT.data = .fields ts → ts[3]? = some (rawInt L) → Q (.ref T) { s with heap := h' }) :
    wpAny M A (EntryCells.newEntry head (.ref L) .none (rawInt L) .none pl) Q E s :=
  wpAny_newObj_type (k _ _ _ _ (fun _ _ q => Heap.get?_push_of_some _ q) (Heap.get?_none_of_le (Nat.le_refl _)) (Heap.get?_push_size _ rfl) rfl (by simp)) (hpl.sizeOk5 _ _ _ _ _)

/-- the traceback grows by the frame L -/
theorem grow {base g : Heap} {env : Env} {outer : List Env} {L e d : Addr} {oe : Obj} {vs : Array Value} {md : Str → Option Value} {head : Value} {b : Bool} {Q : Unit → Shared → Prop}
    (hfr : A.frames = some (env :: outer)) (hl : s.heap.FunFrames base (env :: outer)) (hf : env.frame = some L) (out : e ∉ fsOf (env :: outer))
    (S : Stays (fsOf (env :: outer)) g e oe d md s.heap) (hda : oe.data = .fields vs) (hsz : 1 < vs.size) (hge : g.get? e = none)
    (k : ∀ h' T oT ts, Up (fsOf (env :: outer)) g h' → h'.get? e = some { oe with data := .fields (vs.setIfInBounds 1 (.ref T)) } → h'.Ns d md → T ≠ e → g.get? T = none →
      h'.get? T = some oT → oT.data = .fields ts → ts[3]? = some (rawInt L) → Q () { s with heap := h' }) :
    wpAny M A (frameOf env >>= fun a => entryPlaceOf L b >>= fun pl => EntryCells.newEntry head a .none (rawInt L) .none pl >>= fun t => setField (.ref e) 1 t) Q E s :=
  wpAny_bind <| wpAny_frameOf_fun hfr hl hf fun h₁ x₁ => wpAny_bind <| wpAny_entryPlaceOf fun pl hpl => wpAny_bind <| entry_made hpl fun h₂ T oT ts x₂ n₂ hT hTd hT3 => by
    have S₁ := S.slots x₁ out
    have S₂ := S₁.ext x₂
    have Te : T ≠ e := fun q => by rw [q] at n₂; exact nomatch n₂.symm.trans S₁.rcd
    refine cell_set S₂.rcd hda hsz fun h₃ C => k h₃ T oT ts (C.up S₂.up hge) C.here (C.ns S₂.names (dict_ne S₂.names S₂.rcd hda)) Te (S₁.up.fresh n₂) ((C.rest T Te).trans hT) hTd hT3

/-- noteFrame of a flying fault in a frame that has not seen it -/
theorem note_fly {base g : Heap} {env : Env} {outer : List Env} {L e : Addr} {k : Int} {Q : Unit → Shared → Prop}
    (hfr : A.frames = some (env :: outer)) (hl : s.heap.FunFrames base (env :: outer)) (hf : env.frame = some L) (U : Up (fsOf (env :: outer)) g s.heap) (Fl : Fly g k e s.heap)
    (h : ∀ h' oe vs d md tk T oT ts, Up (fsOf (env :: outer)) g h' → h'.get? e = some oe → oe.cls = .ref 52 → oe.dict = some d → oe.data = .fields vs → vs[1]? = some (.ref T) → g.get? e = none → h'.Ns d md → md "at" = some (.int k tk) → g.get? d = none →
      T ≠ e → g.get? T = none → h'.get? T = some oT → oT.data = .fields ts → ts[3]? = some (rawInt L) → Q () { s with heap := h' }) :
    wpAny M A (noteFrame (.ref e) env) Q E s := by
  obtain ⟨oe, vs, d, md, tk, hd, he, hc, hdi, hda, h1, hge, hns, hat, hgd, hhd⟩ := Fl
  obtain ⟨hsz, _⟩ := Array.getElem?_eq_some_iff.mp h1
  have out : e ∉ fsOf (env :: outer) := fun m => by
    obtain ⟨_, o, ho, nf⟩ := hl.mem m
    exact nf vs (Option.some.inj (he.symm.trans ho) ▸ hda)
  have S : Stays (fsOf (env :: outer)) g e oe d md s.heap := ⟨U, he, hns⟩
  simp only [noteFrame, hf]
  refine wpAny_bind (wpAny_field he hda h1 ?_)
  rcases hhd with rfl | ⟨T, oT, ts, rfl, Te, hgT, hT, hTd, hT3⟩
  · rw [if_neg (by decide)]
    exact grow hfr hl hf out S hda hsz hge fun h' T' oT' ts' u1 u2 u3 u4 u5 u6 u7 u8 => h h' _ _ d md tk T' oT' ts' u1 u2 hc hdi rfl (by simp [hsz]) hge u3 hat hgd u4 u5 u6 u7 u8
  · obtain ⟨hsz3, _⟩ := Array.getElem?_eq_some_iff.mp hT3
    rw [if_pos (by simp)]
    refine wpAny_bind (wpAny_field hT hTd hT3 ?_)
    rw [if_neg (by simp [rawInt])]
    refine wpAny_bind (cell_set hT hTd hsz3 fun h₁ C => ?_)
    have hl₁ : h₁.FunFrames base (env :: outer) := hl.of_keeps fun b o ho nf => ⟨o, (C.rest b fun q => by rw [q, hT] at ho; cases ho; exact nf ts hTd).trans ho, rfl⟩
    exact grow (s := { s with heap := h₁ }) hfr hl₁ hf out (S.cell C hgT Te (dict_ne hns hT hTd)) hda hsz hge fun h' T' oT' ts' u1 u2 u3 u4 u5 u6 u7 u8 => h h' _ _ d md tk T' oT' ts' u1 u2 hc hdi rfl (by simp [hsz]) hge u3 hat hgd u4 u5 u6 u7 u8

/-- setFlight to none behind it -/
theorem flight_fly {g : Heap} {fs : List Addr} {e T d : Addr} {k : Int} {tk : Tok} {oe oT : Obj} {vs ts : Array Value} {x : Value} {md : Str → Option Value} {Q : Unit → Shared → Prop}
    (U : Up fs g s.heap) (he : s.heap.get? e = some oe) (hc : oe.cls = .ref 52) (hdi : oe.dict = some d) (hda : oe.data = .fields vs) (h1 : vs[1]? = some (.ref T)) (hge : g.get? e = none) (hns : s.heap.Ns d md) (hat : md "at" = some (.int k tk)) (hgd : g.get? d = none)
    (hTe : T ≠ e) (hgT : g.get? T = none) (hT : s.heap.get? T = some oT) (hTd : oT.data = .fields ts) (hT3 : ts[3]? = some x)
    (h : ∀ h', Up fs g h' → Fly g k e h' → Q () { s with heap := h' }) : wpAny M A (setFlight (.ref e) none) Q E s := by
  obtain ⟨hsz, _⟩ := Array.getElem?_eq_some_iff.mp hT3
  refine wpAny_bind (wpAny_field he hda h1 ?_)
  rw [if_pos (by simp)]
  refine cell_set hT hTd hsz fun h' C => h h' (C.up U hgT) ?_
  have clear : (ts.setIfInBounds 3 Value.none)[3]? = some .none := by simp [hsz]
  exact ⟨oe, vs, d, md, tk, .ref T, (C.rest e hTe.symm).trans he, hc, hdi, hda, h1, hge, C.ns hns (dict_ne hns hT hTd), hat, hgd, .inr ⟨T, _, _, rfl, hTe, hgT, C.here, rfl, clear⟩⟩

/-- a fault leaves a frame -/
theorem leave_fly {base g : Heap} {env : Env} {outer : List Env} {L e : Addr} {k : Int} {Q : Unit → Shared → Prop}
    (hfr : A.frames = some (env :: outer)) (hl : s.heap.FunFrames base (env :: outer)) (hf : env.frame = some L) (U : Up (fsOf (env :: outer)) g s.heap) (Fl : Fly g k e s.heap)
    (h : ∀ h', Up (fsOf (env :: outer)) g h' → Fly g k e h' → Q () { s with heap := h' }) : wpAny M A (leaving env (.ref e)) Q E s := by
  unfold leaving
  refine wpAny_bind (note_fly hfr hl hf U Fl fun h' oe vs d md tk T oT ts u1 u2 u3 u4 u5 u6 u7 u8 u9 u10 u11 u12 u13 u14 u15 => ?_)
  exact flight_fly (s := { s with heap := h' }) u1 u2 u3 u4 u5 u6 u7 u8 u9 u10 u11 u12 u13 u14 u15 fun h'' v1 v2 => h h'' v1 v2
end
end

section
noncomputable abbrev PV : Program := hd.view_39
noncomputable abbrev PL : List Str := looseW hd.view_39 [Str.ofString "PostError"]
noncomputable abbrev PG : Program := PySem.Challenge.rw_or0035_01.row.toRowW.prog

/-- room for n more frames; no exception is being handled -/
structure Rm (n : Nat) (A : Around) : Prop where
  d : A.depth + n < recursionLimit
  u : A.units + 8 * n < cLine
  h : A.handled = none
theorem Rm.deeper {n : Nat} {A : Around} {env : Env} (r : Rm (n + 1) A) : Rm n (A.deeper env) :=
  ⟨by have := r.d; simp only [depth_deeper]; omega, by have := r.u; simp only [units_deeper]; omega, r.h⟩
theorem Rm.less {n m : Nat} {A : Around} (r : Rm n A) (h : m ≤ n) : Rm m A := ⟨by have := r.d; omega, by have := r.u; omega, r.h⟩

/-- what every call of ours is handed -/
structure Wd (w : World) (mean : ExcName → Option Value) (mg mb : Str → Option Value) (A : Around) (base : Heap) (outer : List Env) (h : Heap) : Prop where
  B : Below A base outer h
  X : (hd.heap_39 w.params).In h
  T : Top PV PL mean mg mb h

section
variable {w : World} {mean : ExcName → Option Value} {mg mb : Str → Option Value} {A : Around} {base h₀ : Heap} {outer : List Env} {E : Value → Shared → Prop}
  {s : Shared} {R : Result → Shared → Prop} {name qual : Str} {params : Arguments} {body : List Stmt} {scope : Scope} {dV kV doc pm cdv ct oc : Value} {an od : Option Addr} {osl : Array (Option Value)} {f L : Addr} {args : Args} {binds : List (Str × Value)} {n : Nat} {env : Env} {m : Str → Option Value}

/-- what is left to do in a frame of ours: its body, and the way out -/
abbrev Runs (w : World) (A : Around) (env : Env) (body : List Stmt) (R : Result → Shared → Prop) (s : Shared) : Prop :=
  wpAny (model PG w) (A.deeper env) (execs body env) (fun fl s₁ => R (.ok (.ret (match fl with | .ret v => v | _ => .none))) s₁)
    (fun e s₁ => wpAny (model PG w) (A.deeper env) (leaving env e) (fun _ s₂ => R (.error e) s₂) (fun e₁ s₂ => R (.error e₁) s₂) s₁) s

/-- a def of ours is called in a state that grew out of h₀ -/
theorem enterE (X₀ : (hd.heap_39 w.params).In h₀) (K : Ext h₀ s.heap) (hlim : h₀.NoLimit) (hz : h₀.objs.size ≤ s.heap.objs.size) (hr : A.depth < recursionLimit)
    (ho : (hd.heap_39 w.params).lookup f = some ⟨oc, od, .func (fnOf name qual params body scope dV kV doc pm an cdv ct), osl⟩) (hcd : codeIn (hd.heap_39 w.params) cdv qual = true)
    (hbind : BindsTo s (fnOf name qual params body scope dV kV doc pm an cdv ct) args binds) (hloc : ∀ y ∈ binds, scope.names.lookup y.1 = some .local)
    (h : ∀ L' h₁, (hd.heap_39 w.params).In h₀ → Fr h₀ L' h₁ (fun y => binds.reverse.lookup y) → News h₀ L' h₁ [] → s.heap.get? L' = none → Ext s.heap h₁ → Runs w A (envOf qual scope L' f cdv) body R { s with heap := h₁, toks := s.toks + binds.length })
    (hco : scope.isCoroutine = false) (hgen : scope.isGenerator = false) (hk : scope.kind = .function) (hcell : ∀ x ∈ scope.names, x.2 ≠ .cell) : codeAny (model PG w) A (.call (.ref f) args) R s :=
  have X := X₀.keeps K
  codeAny_call_def hr (X _ _ ho) rfl (hlim.keeps K) (codeRec_of X hcd) rfl hbind hcell hloc (fun h₁ ns k => h _ h₁ X₀ ⟨ns, K.trans k, hz⟩ .nil (Heap.get?_none_of_le (Nat.le_refl _)) k) hco hgen hk

/-- a def of ours is called: its contract starts here -/
theorem enter (W : Wd w mean mg mb A base outer s.heap) (r : Rm (n + 1) A)
    (ho : (hd.heap_39 w.params).lookup f = some ⟨oc, od, .func (fnOf name qual params body scope dV kV doc pm an cdv ct), osl⟩) (hcd : codeIn (hd.heap_39 w.params) cdv qual = true)
    (hbind : BindsTo s (fnOf name qual params body scope dV kV doc pm an cdv ct) args binds) (hloc : ∀ y ∈ binds, scope.names.lookup y.1 = some .local)
    (h : ∀ L' h₁, Below A base outer s.heap → (hd.heap_39 w.params).In s.heap → Top PV PL mean mg mb s.heap → Rm n (A.deeper (envOf qual scope L' f cdv)) → Fr s.heap L' h₁ (fun y => binds.reverse.lookup y) → News s.heap L' h₁ [] →
      Runs w A (envOf qual scope L' f cdv) body R { s with heap := h₁, toks := s.toks + binds.length })
    (hco : scope.isCoroutine = false) (hgen : scope.isGenerator = false) (hk : scope.kind = .function) (hcell : ∀ x ∈ scope.names, x.2 ≠ .cell) : codeAny (model PG w) A (.call (.ref f) args) R s :=
  enterE W.X (.refl _) W.T.nolimit (Nat.le_refl _) (by have := r.d; omega) ho hcd hbind hloc (fun L' h₁ X F N _ _ => h L' h₁ W.B X W.T r.deeper F N) hco hgen hk hcell

/-- the same for a body -/
theorem Wd.push (B : Below A base outer h₀) (X : (hd.heap_39 w.params).In h₀) (T : Top PV PL mean mg mb h₀) {h : Heap} (F : Fr h₀ L h m) (hf : env.frame = some L) (hk : env.scope.kind = .function) : Wd w mean mg mb (A.deeper env) base (env :: outer) h :=
  ⟨pushX B F hf hk, X.keeps F.keep, T.keeps F.keep⟩
theorem frame_fresh {h : Heap} (F : Fr h₀ L h m) : h₀.get? L = none := by
  cases q : h₀.get? L with
  | none => rfl
  | some o => exact absurd (Nat.lt_of_lt_of_le (Heap.lt_size q) F.above) (Nat.lt_irrefl _)
theorem fr_ext {h h' : Heap} (F : Fr h₀ L h m) (x : Ext h h') : Fr h₀ L h' m := F.keeps x
theorem news_ext {h h' : Heap} {news : List (Addr × Obj)} (N : News h₀ L h news) (x : Ext h h') : News h₀ L h' news := fun p hp => ⟨x _ _ (N p hp).1, (N p hp).2⟩
/-- a new object onto the ledger -/
theorem news_more {h h' : Heap} {news : List (Addr × Obj)} {a : Addr} {o : Obj} (F : Fr h₀ L h m) (N : News h₀ L h' news) (hn : h.get? a = none) (ha : h'.get? a = some o) : News h₀ L h' ((a, o) :: news) := fun p hp => by
  rcases List.mem_cons.mp hp with rfl | hp
  · refine ⟨ha, fun q => ?_, ?_⟩
    · obtain ⟨oL, _, _, hL, _⟩ := F.ns
      have q' : a = L := q
      rw [q', hL] at hn; cases hn
    · cases q : h₀.get? a with
      | none => rfl
      | some o' => rw [F.keep _ _ q] at hn; cases hn
  · exact N p hp

/-- a fault passes out of a body -/
theorem pass_fly {M : Model} {g : Heap} {k : Int} {e : Addr} {Q : Unit → Shared → Prop} (B : Below A base outer h₀) (F : Fr h₀ L g m) (hf : env.frame = some L) (hk : env.scope.kind = .function)
    (U : Up (fsOf (env :: outer)) g s.heap) (Fl : Fly g k e s.heap) (hQ : ∀ h', Up (fsOf outer) h₀ h' → Fly h₀ k e h' → Q () { s with heap := h' }) :
    wpAny M (A.deeper env) (leaving env (.ref e)) Q E s := by
  have B' := pushX B F hf hk
  have efs : fsOf (env :: outer) = L :: fsOf outer := by simp only [fsOf, List.filterMap_cons, hf]
  refine leave_fly B'.stack (funFrames_up U B'.frames) hf U Fl fun h' u fl => hQ h' ?_ (fl.older F.keep)
  rw [efs] at u
  exact Up.drop F.keep (frame_fresh F) u
end
end

section
open Builtin Builtin.ObjectAttr
section
variable {w : World} {M : Model} {A : Around} {E : Value → Shared → Prop} {s : Shared} {h : Heap} {g : Array GenState} {d : Drawn} {t : Nat} {os : OsState}

/-- the class WordFault -/
theorem c52 (X : (hd.heap_39 w.params).In h) : ∃ bs sub ab col dd k0 k1 k2 k3 k5, h.get? 52 = some (excClassObj "WordFault" "WordFault" 52 51 bs [.ref 39, .type "Exception", .type "BaseException", .type "object"] true [] sub ab col dd k0 k1 k2 k3 k5 "Exception.__new__") :=
  ⟨_, _, _, _, _, _, _, _, _, _, X _ _ (by k_is)⟩

/-- what a WordFault is an instance of -/
theorem is52 {T : String} {e : Addr} {oe : Obj} {b : Bool} (X : (hd.heap_39 w.params).In h) (he : h.get? e = some oe) (hc : oe.cls = .ref 52) (q : mroIn (hd.heap_39 w.params) 52 (.type T) = some b) : Looks M h (isInstance (.ref e) (.type T)) b := by
  obtain ⟨_, _, _, _⟩ := oe
  cases hc
  exact ((Looks.ld he).andThen .now).andThen (looks_mroIn X q)

/-- Exception.__init__ may be called for a WordFault -/
theorem check_init {e : Addr} {oe : Obj} {rest : List Value} {Q : Unit → Shared → Prop} (X : (hd.heap_39 w.params).In s.heap) (he : s.heap.get? e = some oe) (hc : oe.cls = .ref 52) (q : Q () s) : wpAny M A (checkBuiltinCall "Exception.__init__" ⟨.ref e :: rest, []⟩) Q E s := by
  have FB := PySem.F.excBase_Exception
  have own : Looks M s.heap (isInstance (.ref e) (.type "Exception")) true := is52 X he hc (by k_is)
  have named := looks_clsIn (M := M) X (C := 52) (by k_is)
  obtain ⟨_, _, _, _⟩ := oe
  cases hc
  simp only [checkBuiltinCall, FB.initKind, FB.initSplit, FB.initRow]
  refine wpAny_bind (own.here ?_)
  simp only [Bool.not_true, Bool.false_eq_true, if_false]
  unfold Bind.checkArgs
  repeat lk
  rw [if_neg (by rw [Bool.and_eq_true]; exact fun z => nomatch z.2)]
  exact wpAny_pure q

/-- a fresh WordFault with the arguments at a -/
abbrev raw52 (a : Addr) : Obj := { cls := .ref 52, data := .fields #[.ref a, .none, .none, .none, .bool false, .none] }

set_option maxHeartbeats 1000000 in
/-- Exception.__init__(e, what): the arguments are written down anew -/
theorem exc_init {e t0 : Addr} {rest : List Value} {R : Result → Shared → Prop} (X : (hd.heap_39 w.params).In h) (he : h.get? e = some (raw52 t0)) (hrest : rest.length ≤ sizeLine)
    (hq : ∀ h' t1, (∀ b o, b ≠ e → h.get? b = some o → h'.get? b = some o) → h'.get? e = some (raw52 t1) → R (.ok (.ret .none)) ⟨h', g, d, t, os⟩) :
    codeAny (model PG w) A (.call (.builtin "Exception.__init__") ⟨.ref e :: rest, []⟩) R ⟨h, g, d, t, os⟩ := by
  have FB := PySem.F.excBase_Exception
  refine codeAny_call_builtin FB.init.plain FB.initEntry (check_init (s := ⟨h, g, d, t, os⟩) X he rfl ?_)
  wp_walk
  exact hq _ _ (fun b o nb q => (Heap.get?_update_other _ _ nb.symm).trans (Heap.get?_push_of_some _ q)) ((Heap.get?_update_self _ (Heap.get?_push_of_some _ he) rfl).trans rfl)

/-- a name into a dict of names -/
theorem put_name {x : Addr} {mA : Str → Option Value} {name : Str} {v : Value} {u : Tok} {ns : List Str} {Q : Fin → Shared → Prop} (n : s.heap.Ns1 x mA) (hw : Within mA ns) (hz : ns.length ≤ 10)
    (k : ∀ h' tk, h'.Ns1 x (fun y => if y = name then some v else mA y) → Heap.SameBut x s.heap h' → Q (.done (.ret .none)) { s with heap := h', toks := tk }) : wpAny M A (storeInDict x (.str name u) name v) Q E s := by
  refine wpAny_bind (wpAny_pure (wpAny_bind (wpAny_nsSet1 n fun h' n' same => wpAny_bind ?_)))
  obtain ⟨o, es, ep, ho, hes, few⟩ := n'.count (Within.cons name v hw)
  have room : es.size ≤ sizeLine + 1 := Nat.le_trans few (by rw [sizeLine_eq]; simp only [List.length_cons]; omega)
  exact wpAny_lookBehind ho (hes ▸ pastItsLine_dict room) (wpAny_pure (k h' _ n' same))

/-- the object at e wears the empty dict at x; all else stands -/
structure Wears (h h' : Heap) (e x : Addr) (o : Obj) : Prop where
  here : h'.get? e = some o
  names : h'.Ns1 x fun _ => none
  rest : ∀ b ob, b ≠ e → h.get? b = some ob → h'.get? b = some ob

theorem own_dict {e C : Addr} {vs : Array Value} {sl : Array (Option Value)} {cd : ClassData} {Q : Option Addr → Shared → Prop} (hc : Looks M s.heap (classData C) cd) (hcd : cd.hasDict = true) (he : s.heap.get? e = some ⟨.ref C, none, .fields vs, sl⟩)
    (k : ∀ h', Wears s.heap h' e s.heap.objs.size ⟨.ref C, some s.heap.objs.size, .fields vs, sl⟩ → Q (some s.heap.objs.size) { s with heap := h' }) : wpAny M A (ownDictForStores (.ref e)) Q E s := by
  refine wpAny_bind (wpAny_loadPart he (wpAny_bind (hc.here ?_)))
  rw [hcd]
  refine wpAny_bind (wpAny_alloc (wpAny_bind (wpAny_update (Heap.get?_push_of_some _ he) (wpAny_pure (k _ ⟨Heap.get?_update_self _ (Heap.get?_push_of_some _ he) rfl, .of_empty ⟨{ cls := .type "dict", data := .dict #[] }, #[], 0, ?_, rfl, fun _ m => absurd m (by simp), fun _ => rfl⟩, fun b ob nb q => ?_⟩)))))
  · exact (Heap.get?_update_other _ _ (Nat.ne_of_lt (Heap.lt_size he))).trans (Heap.get?_push_size _ rfl)
  · exact (Heap.get?_update_other _ _ nb.symm).trans (Heap.get?_push_of_some _ q)

/-- a WordFault that was made since h₀, the names of its dict -/
def Inst52 (h₀ h : Heap) (L e : Addr) (vs : Array Value) (mA : Str → Option Value) : Prop :=
  h₀.get? e = none ∧ e ≠ L ∧ ∃ di sl, h.get? e = some { cls := .ref 52, dict := di, data := .fields vs, slots := sl } ∧ ((di = none ∧ ∀ n, mA n = none) ∨ ∃ d, di = some d ∧ d ≠ e ∧ d ≠ L ∧ h₀.get? d = none ∧ h.Ns1 d mA)

/-- e's dict takes a name -/
theorem keep_name {h₀ : Heap} {L e : Addr} {vs : Array Value} {mA : Str → Option Value} {name : Str} {v : Value} {u : Tok} {b : Bool} {ns : List Str} {Q : Fin → Shared → Prop} (X : (hd.heap_39 w.params).In s.heap) (K : Ext h₀ s.heap) (I : Inst52 h₀ s.heap L e vs mA) (hL : ∃ o, s.heap.get? L = some o)
    (hw : Within mA ns) (hsz : ns.length ≤ 10)
    (k : ∀ h' tk', Ext h₀ h' → h'.get? L = s.heap.get? L → Inst52 h₀ h' L e vs (fun y => if y = name then some v else mA y) → Q (.done (.ret .none)) { s with heap := h', toks := tk' }) :
    wpAny (model PG w) A (storeInOwnDict (.ref e) (.ref 52) (.str name u) name v b) Q E s := by
  obtain ⟨new, eL, di, sl, he, worn⟩ := I
  obtain ⟨oL, hL⟩ := hL
  have hc := looks_clsIn (M := model PG w) X (C := 52) (by k_is)
  refine wpAny_bind (wpAny_pure (wpAny_bind ?_))
  rcases worn with ⟨rfl, bare⟩ | ⟨x, rfl, xe, xL, xnew, nx⟩
  · refine own_dict hc rfl he fun h₁ W => put_name W.names Within.nil (Nat.zero_le _) fun h₂ tk n₂ same => ?_
    have xnew : h₀.get? s.heap.objs.size = none := K.fresh (Heap.get?_none_of_le (Nat.le_refl _))
    have ex : e ≠ s.heap.objs.size := Nat.ne_of_lt (Heap.lt_size he)
    have old : ∀ c ob, c ≠ e → s.heap.get? c = some ob → h₂.get? c = some ob := fun c ob nc q => (same.2 c (Nat.ne_of_lt (Heap.lt_size q))).trans (W.rest c ob nc q)
    have all : (fun y => if y = name then some v else none) = fun y => if y = name then some v else mA y := funext fun y => by rw [bare y]
    exact k h₂ tk (fun c ob q => old c ob (fun z => by rw [z, new] at q; cases q) (K c ob q)) ((old L oL eL.symm hL).trans hL.symm) ⟨new, eL, _, sl, (same.2 e ex).trans W.here, .inr ⟨_, rfl, ex.symm, Nat.ne_of_gt (Heap.lt_size hL), xnew, all ▸ n₂⟩⟩
  · refine wpAny_bind (wpAny_loadPart he (wpAny_bind (hc.here (wpAny_pure ?_))))
    refine put_name nx hw hsz fun h₂ tk n₂ same => ?_
    exact k h₂ tk (fun c ob q => (same.2 c fun z => by rw [z, xnew] at q; cases q).trans (K c ob q)) (same.2 L xL.symm) ⟨new, eL, _, sl, (same.2 e xe.symm).trans he, .inr ⟨x, rfl, xe, xL, xnew, n₂⟩⟩

set_option maxHeartbeats 2000000 in
/-- e.name = v for a WordFault -/
theorem wf_store {h₀ : Heap} {L e : Addr} {vs : Array Value} {mA : Str → Option Value} {name : Str} {v : Value} {ns : List Str} {Q : Unit → Shared → Prop} (X₀ : (hd.heap_39 w.params).In h₀) (K : Ext h₀ h) (I : Inst52 h₀ h L e vs mA) (hL : ∃ o, h.get? L = some o)
    (hf : findIn (hd.heap_39 w.params) (.ref 52) name = some none) (hw : Within mA ns) (hsz : ns.length ≤ 10)
    (hq : ∀ h' tk', Ext h₀ h' → h'.get? L = h.get? L → Inst52 h₀ h' L e vs (fun y => if y = name then some v else mA y) → Q () ⟨h', g, d, tk', os⟩) :
    wpAny (model PG w) A (setAttr (.ref e) name v) Q E ⟨h, g, d, t, os⟩ := by
  have SF := PySem.F.store_Exception
  have X := X₀.keeps K
  have bound := SF.slot.bind (.ref e)
  have slot : Looks (model PG w) h (typeLookup (.ref 52) "__setattr__") (some (.builtin "object.__setattr__")) := looks_findIn X (by k_is)
  have miss := looks_findIn (M := model PG w) X hf
  obtain ⟨_, _, di, sl, he, _⟩ := id I
  have kind : Looks (model PG w) h (typeOf (.ref e)) (.ref 52) := (Looks.ld he).andThen .now
  have line : Looks (model PG w) h (mroOf (.ref 52)) [.ref 52, .ref 39, .type "Exception", .type "BaseException", .type "object"] := ((looks_clsIn X (by k_is)).andThen .now)
  unfold setAttr callSpecial? specialOf
  repeat (first | with_reducible refine wpAny_call ?_ | lk)
  refine codeAny_call_builtin SF.slot.plain SF.entry (check_slot (s := ⟨h, g, d, t + 1, os⟩) (i := "object.__setattr__") (owner := "object") (n := "__setattr__") (self := .ref e) (rest := [.str name t, v]) (kw := []) SF.kind SF.split (is52 X he rfl (by k_is)) (SF.args (.ref e) (.str name t) v) ?_)
  show wpAny _ _ («object.__setattr__» ⟨[.ref e, .str name t, v], []⟩) _ _ _
  rw [osa_eq]
  refine wpAny_bind ?_
  rw [refuse_eq]
  refine wpAny_bind (kind.at (wpAny_bind (line.at ?_)))
  rw [refuseLoop_ref, refuseLoop_ref, SF.passes]
  refine wpAny_pure (wpAny_bind (kind.at (wpAny_bind (miss.at (wpAny_bind (wpAny_pure ?_))))))
  refine keep_name (s := ⟨h, g, d, t + 1, os⟩) X K I hL hw hsz ?_
  intro h' tk' k same i
  exact wpAny_pure (wpAny_pure (hq h' tk' k same i))

theorem meta_exc : typeOf (.type "Exception") = pure (.type "type") := by kernel_rfl
end

theorem fr_of {h₀ h h' : Heap} {L : Addr} {m : Str → Option Value} (F : Fr h₀ L h m) (k : Ext h₀ h') (q : h'.get? L = h.get? L) : Fr h₀ L h' m :=
  let ⟨o, es, ep, ho, r⟩ := F.ns
  ⟨⟨o, es, ep, q.trans ho, r⟩, k, F.above⟩

section
variable {w : World} {A : Around} {E : Value → Shared → Prop} {s : Shared} {h₀ : Heap} {L e t0 : Addr} {m : Str → Option Value}

/-- the two rules in a body's words -/
theorem exc_initF {v : Value} {Q : Value → Shared → Prop} (F : Fr h₀ L s.heap m) (X : (hd.heap_39 w.params).In h₀) (hne : h₀.get? e = none) (heL : e ≠ L)
    (he : s.heap.get? e = some { cls := .ref 52, data := .fields #[.ref t0, .none, .none, .none, .bool false, .none] })
    (h : ∀ h' t1, Fr h₀ L h' m → Inst52 h₀ h' L e #[.ref t1, .none, .none, .none, .bool false, .none] (fun _ => none) → Q .none { s with heap := h' }) :
    wpAny (model PG w) A (call (.builtin "Exception.__init__") [.ref e, v]) Q E s := by
  obtain ⟨hp, g, d, t, os⟩ := s
  obtain ⟨oL, _, _, hL, _⟩ := id F.ns
  have X' := X.keeps F.keep
  refine wpAny_call (exc_init X' he (by simp [sizeLine_eq]) fun h' t1 k q => ?_)
  refine h h' t1 (fr_of F (fun b o eb => k b o (fun z => by rw [z, hne] at eb; cases eb) (F.keep b o eb)) ((k L oL heL.symm hL).trans hL.symm)) ⟨hne, heL, none, #[], q, .inl ⟨rfl, fun _ => rfl⟩⟩
theorem storeF {vs : Array Value} {mA : Str → Option Value} {name : Str} {v : Value} {ns : List Str} {Q : Unit → Shared → Prop} (F : Fr h₀ L s.heap m) (X : (hd.heap_39 w.params).In h₀) (I : Inst52 h₀ s.heap L e vs mA)
    (hf : findIn (hd.heap_39 w.params) (.ref 52) name = some none) (hw : Within mA ns) (hsz : ns.length ≤ 10)
    (h : ∀ h' tk', Fr h₀ L h' m → Inst52 h₀ h' L e vs (fun y => if y = name then some v else mA y) → Q () { s with heap := h', toks := tk' }) :
    wpAny (model PG w) A (setAttr (.ref e) name v) Q E s := by
  obtain ⟨hp, g, d, t, os⟩ := s
  have hL : ∃ o, hp.get? L = some o := let ⟨o, _, _, ho, _⟩ := F.ns; ⟨o, ho⟩
  exact wf_store X F.keep I hL hf hw hsz fun h' tk' k q I' => h h' tk' (fr_of F k q) I'

local macro_rules | `(tactic| walk_at "getMethod type:Exception") => `(tactic| (k_here; refine' method_type ?F ?X ?m (by decide +kernel) ?e ?h ?_; (case F => k_asm); (case X => k_asm); (case m => exact meta_exc); (case e => k_dflt k_is); (case h => k_handed)))
local macro_rules | `(tactic| walk_at "call builtin:Exception.__init__") => `(tactic| (refine' exc_initF ?F ?X ?a ?b ?c ?_; (case F => k_asm); (case X => k_asm); (case a => assumption); (case b => assumption); (case c => assumption); intro h' t1' F' I'))
local macro_rules | `(tactic| walk_at "setAttr ref") => `(tactic| (refine' storeF ?F ?X ?I ?f ?w ?z ?_; (case F => k_asm); (case X => k_asm); (case I => assumption); (case f => k_dflt k_is); (case w => within_ways); (case z => decide); intro h' tk' F' I'))

set_option maxHeartbeats 4000000 in
/-- PostError.__init__(e, what, at) -/
theorem init_ok {mean : ExcName → Option Value} {mg mb : Str → Option Value} {R : Result → Shared → Prop} {msg : Str} {t1 t2 : Tok} {k : Int} (X₀ : (hd.heap_39 w.params).In h₀) (K : Ext h₀ s.heap) (T : Top PV PL mean mg mb h₀) (hz : h₀.objs.size ≤ s.heap.objs.size) (hr : A.depth < recursionLimit) (hne : h₀.get? e = none)
    (he : s.heap.get? e = some { cls := .ref 52, data := .fields #[.ref t0, .none, .none, .none, .bool false, .none] })
    (h : ∀ h' tk' L' t1 md, Ext h₀ h' → Inst52 h₀ h' L' e #[.ref t1, .none, .none, .none, .bool false, .none] md → md "at" = some (.int k t2) → R (.ok (.ret .none)) { s with heap := h', toks := tk' }) :
    codeAny (model PG w) A (.call (.ref 29) ⟨[.ref e, .str msg t1, .int k t2], []⟩) R s := by
  have X := X₀.keeps K
  k_dflt (refine' enterE (binds := [("self", .ref e), ("what", .str msg t1), ("at", .int k t2)]) X₀ K T.nolimit hz hr ?k6 ?k7 ?k9 ?kB ?_ ?c2 ?c3 ?c4 ?c5; (case k6 => k_is); (case k7 => k_is); (case k9 => exact BindsTo.of_defaults rfl (X _ _ (by k_is)) rfl rfl rfl); (case c5 => decide); (case kB => exact locs rfl); (case c2 => exact rfl); (case c3 => exact rfl); (case c4 => exact rfl))
  intro L' h' X' F' N' hL' K'
  have neL : e ≠ L' := fun q => by rw [q, hL'] at he; cases he
  have he' := K' _ _ he
  (with_reducible show wpAny _ _ _ _ _ _)
  k_fold
  k_steps
  exact h _ _ L' _ _ (Fr.keep (by assumption)) (by assumption) rfl
end
end

section
open Builtin Builtin.ObjectAttr
section
variable {w : World} {M : Model} {A : Around} {E : Value → Shared → Prop} {s : Shared} {h : Heap} {g : Array GenState} {d : Drawn} {t : Nat} {os : OsState}

theorem checkNew52 {rest : List Value} {Q : Unit → Shared → Prop} (X : (hd.heap_39 w.params).In h) (hq : Q () ⟨h, g, d, t, os⟩) : wpAny M A (checkBuiltinCall "Exception.__new__" ⟨.ref 52 :: rest, []⟩) Q E ⟨h, g, d, t, os⟩ :=
  let ⟨_, _, _, _, _, _, _, _, _, _, hC⟩ := c52 X
  wpAny_check_new_subU PySem.F.excBase_Exception (bmB := [.ref 39, .type "Exception", .type "BaseException", .type "object"]) (by decide +kernel) .base hC hq

/-- WordFaults are made by Exception -/
theorem made52 (X : (hd.heap_39 w.params).In h) : Looks M h (Bind.madeBy (.ref 52)) (some "Exception.__new__") := fun _ _ _ ⟨_, _, _, _, _⟩ k q =>
  let ⟨_, _, _, _, _, _, _, _, _, _, hC⟩ := c52 X
  wpAny_madeBy_exc (k _ _ hC) q
theorem here52 (X : (hd.heap_39 w.params).In h) : Looks M h (Bind.madeHere "BaseException.__new__" (.ref 52)) () := fun _ _ _ ⟨_, _, _, _, _⟩ k q =>
  let ⟨_, _, _, _, _, _, _, _, _, _, hC⟩ := c52 X
  wpAny_madeHere_exc PySem.F.excBase_Exception.canon (k _ _ hC) q

/-- Exception.__new__(WordFault, ..) -/
theorem new52 {R : Result → Shared → Prop} {rest : List Value} (X : (hd.heap_39 w.params).In h) (hrest : rest.length ≤ sizeLine)
    (hq : R (.ok (.ret (.ref (h.objs.size + 1)))) ⟨(h.push { cls := .type "tuple", data := .seq rest.toArray }).push (raw52 h.objs.size), g, d, t, os⟩) :
    codeAny (model PG w) A (.builtin "Exception.__new__" ⟨.ref 52 :: rest, []⟩) R ⟨h, g, d, t, os⟩ := by
  have FB := PySem.F.excBase_Exception
  obtain ⟨_, _, _, _, _, _, _, _, _, _, hC⟩ := c52 X
  have below : ∀ {T : String} {b : Bool}, mroIn (hd.heap_39 w.params) 52 (.type T) = some b → Looks (model PG w) h (isSubtype (.ref 52) (.type T)) b := fun q => looks_mroIn X q
  have b1 := below (T := "Exception") (b := true) (by k_is)
  have b2 := below (T := "AttributeError") (b := false) (by k_is)
  have b3 := below (T := "NameError") (b := false) (by k_is)
  have by_ := here52 (M := model PG w) X
  have ends := FB.ends
  refine codeAny_builtinAt FB.entry (PySem.wpAt_bind (PySem.wpAt_bind (PySem.wpAt_stack fun p below => PySem.wpAt_of_wpAny ?_)))
  wp_walk
  refine PySem.wpAt_of_wpAny ?_
  rw [FB.owner]
  repeat lk
  rw [if_neg (by simpa using hrest)]
  have hC' := Heap.get?_push_of_some (raw52 h.objs.size) (Heap.get?_push_of_some { cls := .type "tuple", data := .seq rest.toArray } hC)
  repeat lk
  show R _ _
  rw [Heap.size_push]
  exact hq

set_option maxHeartbeats 4000000 in
/-- WordFault(what, at) -/
theorem mk_wf {mean : ExcName → Option Value} {mg mb : Str → Option Value} {Q : Value → Shared → Prop} {msg : Str} {t1 t2 : Tok} {k : Int} (X : (hd.heap_39 w.params).In s.heap) (T : Top PV PL mean mg mb s.heap) (r : Rm 2 A)
    (hq : ∀ h' tk' e L' t1 md, Ext s.heap h' → Inst52 s.heap h' L' e #[.ref t1, .none, .none, .none, .bool false, .none] md → md "at" = some (.int k t2) → Q (.ref e) { s with heap := h', toks := tk' }) :
    wpAny (model PG w) A (call (.ref 52) [.str msg t1, .int k t2]) Q E s := by
  obtain ⟨h, g, d, t, os⟩ := s
  obtain ⟨_, _, _, _, _, _, _, _, _, _, hC⟩ := c52 X
  have room : A.depth + 1 < recursionLimit := by have := r.d; omega
  have called : Looks (model PG w) h (specialOf (.ref 52) "__call__") (some (.builtin "type.__call__")) := looks_specialIn X (by k_is)
  have isT : Looks (model PG w) h (isInstance (.ref 52) (.type "type")) true := looks_instIn X (by k_is)
  have made := made52 (M := model PG w) X
  have line : Looks (model PG w) h (mroOf (.ref 52)) [.ref 52, .ref 39, .type "Exception", .type "BaseException", .type "object"] := (looks_clsIn X (by k_is)).andThen .now
  have ctor := tc_bind (.ref 52)
  refine wpAny_call (codeAny_of_tree ?_)
  show wpAny _ _ (callAny (.ref 52) _) _ _ _
  repeat lk
  refine ⟨rfl, codeAny_call_builtin_at (Code.quiet_builtin _ (by decide +kernel)) entry_typeCall (check_slot (s := ⟨h, g, d, t, os⟩) (i := "type.__call__") (owner := "type") (n := "__call__") tc_kind tc_split isT (tc_args _ _ _) ?_)⟩
  show wpAny _ _ («type.__call__» ⟨[.ref 52, .str msg t1, .int k t2], []⟩) _ _ _
  repeat (first | with_reducible refine wpAny_call ?_ | lk)
  refine codeAny_call_builtin_code (Code.quiet_builtin _ PySem.F.excBase_Exception.quiet) (checkNew52 X (new52 X (by simp [sizeLine_eq]) ?_))
  have K₁ : Ext h ((h.push { cls := .type "tuple", data := .seq (List.toArray [Value.str msg t1, Value.int k t2]) }).push (raw52 h.objs.size)) := fun _ _ q => Heap.get?_push_of_some _ (Heap.get?_push_of_some _ q)
  have he : ((h.push { cls := .type "tuple", data := .seq (List.toArray [Value.str msg t1, Value.int k t2]) }).push (raw52 h.objs.size)).get? (h.objs.size + 1) = some (raw52 h.objs.size) := by heap_get
  have big : h.objs.size ≤ ((h.push { cls := .type "tuple", data := .seq (List.toArray [Value.str msg t1, Value.int k t2]) }).push (raw52 h.objs.size)).objs.size := by rw [Heap.size_push, Heap.size_push]; omega
  generalize (h.push { cls := .type "tuple", data := .seq (List.toArray [Value.str msg t1, Value.int k t2]) }).push (raw52 h.objs.size) = h₁ at K₁ he big
  have X₁ := X.keeps K₁
  have kind : Looks (model PG w) h₁ (typeOf (.ref (h.objs.size + 1))) (.ref 52) := (Looks.ld he).andThen .now
  have own : Looks (model PG w) h₁ (isInstance (.ref (h.objs.size + 1)) (.ref 52)) true := kind.andThen (looks_mroIn X₁ (by k_is))
  have init : Looks (model PG w) h₁ (typeLookup (.ref 52) "__init__") (some (.ref 29)) := looks_findIn X₁ (by k_is)
  have fn : Looks (model PG w) h₁ (bindSpecial (.ref 29) (.ref (h.objs.size + 1))) (.ref 29, [.ref (h.objs.size + 1)]) := bind_fn X₁ _ (by k_is)
  dsimp only
  repeat (first | with_reducible refine wpAny_call ?_ | lk)
  refine init_ok (s := ⟨h₁, g, d, t, os⟩) X K₁ T big room (Heap.get?_none_of_le (Nat.le_succ _)) he fun h' tk' L' t1 md k1 i1 m1 => ?_
  repeat lk
  exact hq h' tk' _ L' t1 md k1 i1 m1

/-- raise e, e a WordFault made in the same row -/
theorem raise52 {env : Env} {x : Sem Value} {Q : Flow → Shared → Prop} (hh : A.handled = none)
    (h : wpAny (model PG w) A x (fun v s₁ => ∃ e L' t1 md h₀, v = .ref e ∧ (hd.heap_39 w.params).In s₁.heap ∧ Inst52 h₀ s₁.heap L' e #[.ref t1, .none, .none, .none, .bool false, .none] md ∧ E (.ref e) s₁) E s) :
    wpAny (model PG w) A (raiseStmt env (some x) none) Q E s := by
  refine wpAny_bind (wpAny_mono h ?_ fun _ _ z => z)
  rintro _ ⟨hp, g, d, tk, os⟩ ⟨e, _, _, _, _, rfl, X, ⟨_, _, _, _, he, _⟩, hE⟩
  have own : Looks (model PG w) hp (isInstance (.ref e) (.type "BaseException")) true := is52 X he rfl (by k_is)
  obtain ⟨_, _, _, _, _, _, _, _, _, _, hC⟩ := c52 X
  dsimp only at he hC
  repeat (first | with_reducible exact wpAny_raiseNew_none hh hE | lk)
end
end

section
section
variable {prog : Program} {w : World} {A : Around} {E : Value → Shared → Prop} {s : Shared}

theorem gives_in_int (b : Array UInt8) (c : Int) (t u : Tok) (h0 : 0 ≤ c) (h1 : c < 256) : Gives (Builtin.«bytes.__contains__» ⟨[.bytes b t, .int c u], []⟩) (.val (.bool (b.contains c.toNat.toUInt8))) := by
  refine .of_wp fun M A E s Q hq => ?_
  show wpAny M A (Builtin.Bytes.containsIn "bytes.__contains__" (.bytes b t) (.int c u) >>= fun r => _) _ E s
  refine wpAny_bind ?_
  unfold Builtin.Bytes.containsIn
  refine wpAny_bind (wpAny_attempt (wpAny_of_eq (a := c) rfl ?_))
  refine wpAny_bind (wpAny_of_eq KBy.buffer_eq ?_)
  dsimp only
  rw [if_neg (by simp; omega)]
  exact wpAny_pure (wpAny_pure ⟨_, rfl, hq⟩)

theorem in_int {x : List UInt8} {c : Int} {t u : Tok} {Q : Value → Shared → Prop} (h0 : 0 ≤ c) (h1 : c < 256) (h : Q (.bool (x.contains c.toNat.toUInt8)) s) :
    wpAny (model prog w) A (compareOp .In (.int c u) (.bytes x.toArray t)) Q E s :=
  in_gives (typeIs_bytes s _ t) FB.slot_bytes_contains FB.entry_bytes_contains (FB.args_bytes_contains_2 _ _) (gives_in_int _ c t u h0 h1) (by rw [List.contains_toArray]; exact h)

theorem noIndex_bytes : typeLookup (.type "bytes") "__index__" = pure none := by rw [typeLookup_type, builtinLookup_eq_fast]; kernel_rfl

set_option maxHeartbeats 1000000 in
theorem meets_in_bytes (b c : Array UInt8) (t u : Tok) :
    Meets (Builtin.«bytes.__contains__» ⟨[.bytes b t, .bytes c u], []⟩) (fun A R s => A.handled = none ∧ ∀ h' tk', Ext s.heap h' → R (.ok (.ret (.bool (Builtin.Bytes.find? b c 0 b.size).isSome))) { s with heap := h', toks := tk' }) := by
  refine .of_wp fun prog w A R s hS => ?_
  obtain ⟨hh, h⟩ := hS
  obtain ⟨hp, g, d, tk, os⟩ := s
  have f1 := noIndex_bytes
  have hT : (⟨hp, g, d, tk, os⟩ : Shared).TypeIs (.bytes c u) "bytes" := rfl
  show wpAny _ _ (Builtin.Bytes.containsIn "bytes.__contains__" (.bytes b t) (.bytes c u) >>= fun r => _) _ _ _
  refine wpAny_bind ?_
  unfold Builtin.Bytes.containsIn
  refine wpAny_bind (wpAny_attempt ?_)
  unfold asIndex
  refine wpAny_bind (wpAny_of_eq (a := none) rfl ?_)
  repeat (any_goals (first | assumption | wp_step))
  refine wpAny_raiseErrorMade (hm := by decide +kernel) plainExc_TypeError hh fun h' tk' e hx => ?_
  refine wpAny_bind (wpAny_of_eq KBy.buffer_eq ?_)
  dsimp only
  refine wpAny_bind (wpAny_of_eq KBy.buffer_eq ?_)
  exact wpAny_bind (wpAny_rule (wpAny_pure (wpAny_pure ⟨_, rfl, h h' tk' hx.keeps⟩)))

theorem in_bytes {x y : List UInt8} {t u : Tok} {Q : Value → Shared → Prop} (hh : A.handled = none)
    (h : ∀ h' tk', Ext s.heap h' → Q (.bool (Builtin.Bytes.find? x.toArray y.toArray 0 x.length).isSome) { s with heap := h', toks := tk' }) :
    wpAny (model prog w) A (compareOp .In (.bytes y.toArray u) (.bytes x.toArray t)) Q E s := by
  show wpAny _ _ (do return .bool (← contains (.bytes x.toArray t) (.bytes y.toArray u))) Q E s
  refine wpAny_bind (wpAny_contains_slot (typeIs_bytes s _ t) FB.slot_bytes_contains (call_meets FB.slot_bytes_contains (typeIs_bytes s _ t) FB.entry_bytes_contains (FB.args_bytes_contains_2 _ _) (meets_in_bytes _ _ t u) ⟨hh, fun h' tk' k => ?_⟩))
  exact wpAny_pure (wpAny_pure (by have := h h' tk' k; simpa using this))
end
end

section
/-! the tokenizer as pure functions and relations over the rest of the octets -/

def atomSigns : List UInt8 := [33, 35, 36, 37, 38, 39, 42, 43, 45, 47, 61, 63, 94, 95, 96, 123, 124, 125, 126]
def isAtom (c : UInt8) : Bool :=
  (decide (48 ≤ c) && decide (c ≤ 57)) || (decide (65 ≤ c) && decide (c ≤ 90)) || (decide (97 ≤ c) && decide (c ≤ 122)) || decide (127 < c) || atomSigns.contains c

/-- how far a line's end reaches -/
def lineEnd : List UInt8 → Option Nat
  | [] => none
  | c :: r => if c = 10 then some 1 else if c = 13 ∧ r.head? = some 10 then some 2 else none

def neverEsc (c : UInt8) : Bool := c == 0 || c == 10 || c == 13

/-- one sign within quotes or brackets: what it stands for, how far it reaches; a fault: true where the opening sign is told, false where this one is -/
def inside : List UInt8 → Except Bool (List UInt8 × Nat)
  | [] => .error true
  | c :: r =>
    if c = 92 then (match r with
      | [] => .error true
      | d :: _ => if neverEsc d then .error false else .ok ([d], 2))
    else match lineEnd (c :: r) with
      | some k => .ok ([], k)
      | none => if neverEsc c then .error false else .ok ([c], 1)

/-- quotes and literals: the rest, how far it lies behind the opening sign, the parts so far, what comes -/
inductive Closed (cl : UInt8) (bar : List UInt8) : List UInt8 → Nat → List (List UInt8) → Except Nat (List UInt8 × Nat) → Prop
  | done {r n acc} : Closed cl bar (cl :: r) n acc (.ok (acc.flatten, n + 1))
  | barred {c r n acc} : c ≠ cl → bar.contains c = true → Closed cl bar (c :: r) n acc (.error n)
  | begun {l n acc} : l.head? ≠ some cl → (∀ c, l.head? = some c → bar.contains c = false) → inside l = .error true → Closed cl bar l n acc (.error 0)
  | here {l n acc} : l.head? ≠ some cl → (∀ c, l.head? = some c → bar.contains c = false) → inside l = .error false → Closed cl bar l n acc (.error n)
  | step {l n acc o k res} : l.head? ≠ some cl → (∀ c, l.head? = some c → bar.contains c = false) → inside l = .ok (o, k) → Closed cl bar (l.drop k) (n + k) (acc ++ [o]) res → Closed cl bar l n acc res

/-- comments: the depth too -/
def depthAt (l : List UInt8) (d : Nat) : Nat := match l.head? with
  | some 40 => d + 1
  | some 41 => d - 1
  | _ => d
inductive Comment : List UInt8 → Nat → List (List UInt8) → Nat → Except Nat (List UInt8 × Nat) → Prop
  | done {l n acc} : Comment l n acc 0 (.ok (acc.dropLast.flatten, n))
  | deep {l n acc d} : l.head? = some 40 → 20 < d + 1 → 0 < d → Comment l n acc d (.error n)
  | begun {l n acc d} : 0 < d → (l.head? = some 40 → d + 1 ≤ 20) → inside l = .error true → Comment l n acc d (.error 0)
  | here {l n acc d} : 0 < d → (l.head? = some 40 → d + 1 ≤ 20) → inside l = .error false → Comment l n acc d (.error n)
  | step {l n acc d o k res} : 0 < d → (l.head? = some 40 → d + 1 ≤ 20) → inside l = .ok (o, k) → Comment (l.drop k) (n + k) (acc ++ [o]) (depthAt l d) res → Comment l n acc d res

/-- an atom's length -/
def atomLen (l : List UInt8) : Nat := (l.takeWhile isAtom).length

inductive Kind where
  | quoted | literal | comment | sign | atom
  deriving DecidableEq, Repr
structure Tk where
  kind : Kind
  worth : List UInt8
  at_ : Nat
  deriving DecidableEq, Repr

def signs : List UInt8 := [60, 62, 64, 44, 59, 58, 46, 92]

/-- the token that stands at the head of the rest (never empty): its kind, worth and length; or the fault's offset from here -/
inductive Token : List UInt8 → Except Nat (Kind × List UInt8 × Nat) → Prop
  | quoted {r w n} : Closed 34 [] r 1 [] (.ok (w, n)) → Token (34 :: r) (.ok (.quoted, w, n))
  | quotedE {r k} : Closed 34 [] r 1 [] (.error k) → Token (34 :: r) (.error k)
  | literal {r w n} : Closed 93 [91] r 1 [] (.ok (w, n)) → Token (91 :: r) (.ok (.literal, w, n))
  | literalE {r k} : Closed 93 [91] r 1 [] (.error k) → Token (91 :: r) (.error k)
  | comment {r w n} : Comment r 1 [] 1 (.ok (w, n)) → Token (40 :: r) (.ok (.comment, w, n))
  | commentE {r k} : Comment r 1 [] 1 (.error k) → Token (40 :: r) (.error k)
  | sign {c r} : signs.contains c = true → Token (c :: r) (.ok (.sign, [c], 1))
  | atom {c r} : isAtom c = true → Token (c :: r) (.ok (.atom, (c :: r).takeWhile isAtom, atomLen (c :: r)))
  | bad {c r} : c ≠ 34 → c ≠ 91 → c ≠ 40 → signs.contains c = false → isAtom c = false → Token (c :: r) (.error 0)

/-- how much white stands ahead -/
inductive White : List UInt8 → Nat → Prop
  | nil : White [] 0
  | stop {c r} : c ≠ 9 → c ≠ 32 → lineEnd (c :: r) = none → White (c :: r) 0
  | blank {c r k} : c = 9 ∨ c = 32 → White r k → White (c :: r) (k + 1)
  | line {c r j k} : c ≠ 9 → c ≠ 32 → lineEnd (c :: r) = some j → White ((c :: r).drop j) k → White (c :: r) (j + k)

/-- the tokens of the rest, at the offset n -/
inductive Toks : List UInt8 → Nat → Except Nat (List Tk) → Prop
  | nil {n} : Toks [] n (.ok [])
  | bad {l n k} : l ≠ [] → Token l (.error k) → Toks l n (.error (n + k))
  | step {l n kd w j k ts} : l ≠ [] → Token l (.ok (kd, w, j)) → White (l.drop j) k → Toks (l.drop (j + k)) (n + j + k) (.ok ts) → Toks l n (.ok (⟨kd, w, n⟩ :: ts))
  | stepE {l n kd w j k e} : l ≠ [] → Token l (.ok (kd, w, j)) → White (l.drop j) k → Toks (l.drop (j + k)) (n + j + k) (.error e) → Toks l n (.error e)
inductive TokensOf : List UInt8 → Except Nat (List Tk) → Prop
  | intro {l k res} : White l k → Toks (l.drop k) k res → TokensOf l res
end

section
/-! rules of the walk on octets -/
section
variable {prog : Program} {w : World} {A : Around} {E : Value → Shared → Prop} {s : Shared} {value slice : PySem.Expr} {x y : List UInt8} {t u : Tok} {h₀ : Heap} {L : Addr} {m : PySem.Str → Option Value} {news : List (Addr × Obj)}

theorem picked_nat (x : List UInt8) (i j : Nat) : KBy.picked x.toArray (some (i : Int)) (some (j : Int)) = ((x.drop i).take (j - i)).toArray := by
  rw [KBc.picked_eq]
  simp only [Option.elim, clipAt_nat, List.size_toArray]
  congr 1
  rw [show ((x.toArray.toList.drop (min i x.length)) = x.drop i) from by
    show x.drop (min i x.length) = x.drop i
    rcases Nat.le_total i x.length with h | h
    · rw [Nat.min_eq_left h]
    · rw [Nat.min_eq_right h, List.drop_of_length_le (Nat.le_refl _), List.drop_of_length_le h]]
  rw [List.take_eq_take_iff, List.length_drop]
  omega

theorem m_slice (i j : Nat) {lo hi : Int} {tl th : Tok} {Q : Value → Shared → Prop} (ei : lo = (i : Int)) (ej : hi = (j : Int)) (hF : Fr h₀ L s.heap m) (hN : News h₀ L s.heap news) (hz : x.length ≤ 16777216)
    (h : ∀ h' t' k, Fr h₀ L h' m → News h₀ L h' news → Q (.bytes ((x.drop i).take (j - i)).toArray t') { s with heap := h', toks := k })
    (hs : subscripted slice false (.bytes x.toArray t) (.ref s.heap.objs.size) = operate [.ref s.heap.objs.size, .bytes x.toArray t] (getItem (.bytes x.toArray t) (.ref s.heap.objs.size)) := by with_unfolding_all rfl)
    (ht : ∀ r, letTemporaryGo value (.bytes x.toArray t) r = pure () := by intro _; with_unfolding_all rfl) :
    wpAny (model prog w) A (subscriptTail value slice (.bytes x.toArray t) (.ref s.heap.objs.size)) Q E { s with heap := s.heap.push { cls := .type "slice", data := .fields #[.int lo tl, .int hi th, .none] } } := by
  subst ei ej
  refine KBc.slice_K hF hN rfl (.int _ _) (.int _ _) (by rw [KBw.ints_length]; simpa using hz) (fun h' t' k F' N' _ => ?_) hs ht
  rw [picked_nat]
  exact h h' t' k F' N'

theorem m_item (i : Nat) {k : Int} {Q : Value → Shared → Prop} (ei : k = (i : Int)) (hlt : i < x.length) (hz : x.length ≤ 16777216) (h : Q (.int (((x.getD i 0).toNat : Nat) : Int) s.toks) { s with toks := s.toks + 1 })
    (hs : subscripted slice false (.bytes x.toArray t) (.int k u) = operate [.bytes x.toArray t, .int k u] (getItem (.bytes x.toArray t) (.int k u)) := by with_unfolding_all rfl)
    (ht : ∀ r, letTemporaryGo value (.bytes x.toArray t) r = pure () := by intro _; with_unfolding_all rfl) :
    wpAny (model prog w) A (subscriptTail value slice (.bytes x.toArray t) (.int k u)) Q E s := by
  subst ei
  refine KBy.item_N (by omega) (by omega) (by omega) ?_ hs ht
  simpa using h

theorem m_len {Q : Value → Shared → Prop} (hz : x.length ≤ 16777216) (h : ∀ t', Q (.int (x.length : Int) t') { s with toks := s.toks + 1 + 1 }) : wpAny (model prog w) A (call (.builtin "len") [.bytes x.toArray t]) Q E s := by
  refine len_bytes (by simp; omega) ?_
  have := h (s.toks + 1)
  simpa using this

theorem m_eq {Q : Value → Shared → Prop} (h : Q (.bool (decide (x = y))) s) : wpAny (model prog w) A (compareOp .Eq (.bytes x.toArray t) (.bytes y.toArray u)) Q E s := by
  refine eq_bytes ?_
  have e : (x.toArray.toList == y.toArray.toList) = decide (x = y) := by rw [Bool.eq_iff_iff]; simp
  rw [e]; exact h
theorem m_ne {Q : Value → Shared → Prop} (h : Q (.bool (decide (¬ x = y))) s) : wpAny (model prog w) A (compareOp .NotEq (.bytes x.toArray t) (.bytes y.toArray u)) Q E s := by
  refine ne_bytes ?_
  have e : (x.toArray.toList != y.toArray.toList) = decide (¬ x = y) := by rw [Bool.eq_iff_iff]; simp
  rw [e]; exact h
theorem m_inb {c : UInt8} {Q : Value → Shared → Prop} (h : Q (.bool (x.contains c)) s) : wpAny (model prog w) A (compareOp .In (.int ((c.toNat : Nat) : Int) u) (.bytes x.toArray t)) Q E s := by
  refine in_int (by omega) (by have := c.toNat_lt; omega) ?_
  rw [Int.toNat_natCast]
  have e : c.toNat.toUInt8 = c := by simp
  rw [e]; exact h
theorem m_inF {Q : Value → Shared → Prop} (hF : Fr h₀ L s.heap m) (hN : News h₀ L s.heap news) (hh : A.handled = none)
    (h : ∀ h' tk', Fr h₀ L h' m → News h₀ L h' news → Q (.bool (Builtin.Bytes.find? x.toArray y.toArray 0 x.length).isSome) { s with heap := h', toks := tk' }) :
    wpAny (model prog w) A (compareOp .In (.bytes y.toArray u) (.bytes x.toArray t)) Q E s :=
  in_bytes hh fun h' tk' k => h h' tk' (fr_ext hF k) (news_ext hN k)
end
theorem nat_id (n : Nat) : (n : Int) = ((n : Nat) : Int) := rfl
theorem nat_1 (n : Nat) : (n : Int) + 1 = ((n + 1 : Nat) : Int) := rfl
theorem nat_2 (n : Nat) : (n : Int) + 2 = ((n + 2 : Nat) : Int) := rfl
theorem m_retB {R : Result → Shared → Prop} {x y : Bool} {s : Shared} (e : y = x) (h : R (.ok (.ret (.bool x))) s) : R (.ok (.ret (.bool y))) s := e ▸ h
theorem m_retI {R : Result → Shared → Prop} {x y : Int} {t : Tok} {s : Shared} (e : y = x) (h : R (.ok (.ret (.int x t))) s) : R (.ok (.ret (.int y t))) s := e ▸ h
end
local macro_rules | `(tactic| walk_at "M enter") => `(tactic| (k_dflt (refine' enter ?k1 ?k2 ?k6 ?k7 ?k9 ?kB ?_ ?c2 ?c3 ?c4 ?c5; (case k1 => assumption); (case k2 => assumption); (case k6 => k_is); (case k7 => k_is); (case k9 => exact BindsTo.of_eq rfl); (case c5 => decide); (case kB => exact locs rfl); (case c2 => exact rfl); (case c3 => exact rfl); (case c4 => exact rfl); intro L' h' B' X' T' R' F' N'; have H' := Rm.h R'; (try dsimp only); (with_reducible show wpAny _ _ _ _ _ _); k_fold)))
local macro_rules | `(tactic| walk_at "M nat") => `(tactic| with_reducible (first | exact nat_id _ | exact nat_1 _ | exact nat_2 _))
local macro_rules | `(tactic| walk_at "M name") => `(tactic| first | assumption | exact rfl | exact if_pos rfl | (refine (if_neg (by decide)).trans ?_; walk_at "M name"))
local macro_rules | `(tactic| walk_at "compareOp In int bytes") => `(tactic| (refine m_inb ?_))
local macro_rules | `(tactic| walk_at "compareOp In bytes bytes") => `(tactic| (refine m_inF (by k_asm) (by k_asm) (by assumption) ?_; intro h' tk' F' N'))
local macro_rules | `(tactic| walk_at "compareOp Eq bytes bytes") => `(tactic| (refine m_eq ?_))
local macro_rules | `(tactic| walk_at "compareOp NotEq bytes bytes") => `(tactic| (refine m_ne ?_))
local macro_rules | `(tactic| walk_at "call builtin:len") => `(tactic| (with_reducible show wpAny _ _ (call (Value.builtin "len") [Value.bytes _ _]) _ _ _; refine m_len (by assumption) ?_; intro t'))
local macro_rules | `(tactic| walk_at "subscriptTail") => `(tactic| ((with_reducible show wpAny _ _ (subscriptTail _ _ (Value.bytes _ _) (Value.int _ _)) _ _ _); (refine m_item _ (by walk_at "M nat") (by omega) (by assumption) ?_)))
local macro_rules | `(tactic| walk_at "subscriptTail") => `(tactic| ((with_reducible show wpAny _ _ (subscriptTail _ (Expr.Slice _ _ none _) (Value.bytes _ _) (Value.ref _)) _ _ _); (refine m_slice (s := ⟨_, _, _, _, _⟩) _ _ (by walk_at "M nat") (by walk_at "M nat") (by k_asm) (by k_asm) (by assumption) ?_); intro h' t' k' F' N'))
local macro_rules | `(tactic| walk_at "M ret") => `(tactic| ((try dsimp only); (try k_unfold); (try dsimp only)))

section
-- the walk's own lines

section
variable {w : World} {mean : ExcName → Option Value} {mg mb : Str → Option Value} {A : Around} {base : Heap} {outer : List Env} {s : Shared} {R : Result → Shared → Prop}

theorem atom_code (c : UInt8) : isAtom c = ((decide ((48 : Int) ≤ (c.toNat : Int)) && decide ((c.toNat : Int) ≤ 57)) || (decide ((65 : Int) ≤ (c.toNat : Int)) && decide ((c.toNat : Int) ≤ 90)) || (decide ((97 : Int) ≤ (c.toNat : Int)) && decide ((c.toNat : Int) ≤ 122)) || decide ((127 : Int) < (c.toNat : Int)) || atomSigns.contains c) := by
  unfold isAtom
  have a : ∀ k : UInt8, decide (k ≤ c) = decide ((k.toNat : Int) ≤ (c.toNat : Int)) := fun k => by rw [Bool.eq_iff_iff]; simp [UInt8.le_iff_toNat_le]
  have b : ∀ k : UInt8, decide (c ≤ k) = decide ((c.toNat : Int) ≤ (k.toNat : Int)) := fun k => by rw [Bool.eq_iff_iff]; simp [UInt8.le_iff_toNat_le]
  have d : ∀ k : UInt8, decide (k < c) = decide ((k.toNat : Int) < (c.toNat : Int)) := fun k => by rw [Bool.eq_iff_iff]; simp [UInt8.lt_iff_toNat_lt]
  rw [a, b, a, b, a, b, d]
  rfl


set_option maxHeartbeats 4000000 in
theorem is_atom_code_ok (W : Wd w mean mg mb A base outer s.heap) (r : Rm (0 + 1) A) (c : UInt8) (tc : Tok)
    (hR : ∀ h' tk', Ext s.heap h' → R (.ok (.ret (.bool (isAtom c)))) { s with heap := h', toks := tk' }) :
    codeAny (model PG w) A (.call (.ref 62) ⟨[.int (c.toNat : Int) tc], []⟩) R s := by
  have hc : (c.toNat : Int) < 256 := by have := c.toNat_lt; omega
  have ha := atom_code c
  walk_at "M enter"
  k_steps
  all_goals (walk_at "M ret"; refine m_retB ?_ (hR _ _ (Fr.keep (by assumption))); rw [ha]; (try rw [show atomSigns = [33, 35, 36, 37, 38, 39, 42, 43, 45, 47, 61, 63, 94, 95, 96, 123, 124, 125, 126] from rfl]); rw [Bool.eq_iff_iff]; simp only [Bool.or_eq_true, Bool.and_eq_true, decide_eq_true_eq]; first | omega | (constructor <;> intro hx <;> first | exact .inr hx | (rcases hx with hx | hx <;> first | exact hx | omega)))

theorem le_1 {x : List UInt8} {n : Nat} (h0 : List.take (n + 1 - n) (List.drop n x) = [10]) : lineEnd (x.drop n) = some 1 := by
  rw [show n + 1 - n = 1 from by omega] at h0
  cases e : List.drop n x with
  | nil => simp [e] at h0
  | cons c r => simp [e] at h0; subst h0; simp [lineEnd]
theorem le_2 {x : List UInt8} {n : Nat} (h0 : ¬ List.take (n + 1 - n) (List.drop n x) = [10]) (h1 : List.take (n + 2 - n) (List.drop n x) = [13, 10]) : lineEnd (x.drop n) = some 2 := by
  rw [show n + 1 - n = 1 from by omega] at h0
  rw [show n + 2 - n = 2 from by omega] at h1
  cases e : List.drop n x with
  | nil => simp [e] at h1
  | cons c r =>
    simp [e] at h0 h1
    cases r with
    | nil => simp at h1
    | cons d r => simp at h1; obtain ⟨rfl, rfl⟩ := h1; simp [lineEnd]
theorem le_3 {x : List UInt8} {n : Nat} (h0 : ¬ List.take (n + 1 - n) (List.drop n x) = [10]) (h1 : ¬ List.take (n + 2 - n) (List.drop n x) = [13, 10]) : lineEnd (x.drop n) = none := by
  rw [show n + 1 - n = 1 from by omega] at h0
  rw [show n + 2 - n = 2 from by omega] at h1
  cases e : List.drop n x with
  | nil => simp [lineEnd]
  | cons c r =>
    simp [e] at h0 h1
    cases r with
    | nil => simp [lineEnd, h0]
    | cons d r => simp at h1; simp only [lineEnd, h0, if_false, List.head?_cons, Option.some.injEq]; rw [if_neg (fun ⟨a, b⟩ => h1 a b)]

set_option maxHeartbeats 4000000 in
theorem line_end_ok (W : Wd w mean mg mb A base outer s.heap) (r : Rm (0 + 1) A) (x : List UInt8) (n : Nat) (tx tn : Tok) (hz : x.length ≤ 16777216)
    (hS : ∀ k h' tk' t, lineEnd (x.drop n) = some k → Ext s.heap h' → R (.ok (.ret (.int ((n + k : Nat) : Int) t))) { s with heap := h', toks := tk' })
    (hN : ∀ h' tk' t, lineEnd (x.drop n) = none → Ext s.heap h' → R (.ok (.ret (.int (-1) t))) { s with heap := h', toks := tk' }) :
    codeAny (model PG w) A (.call (.ref 69) ⟨[.bytes x.toArray tx, .int (n : Int) tn], []⟩) R s := by
  walk_at "M enter"
  k_steps
  all_goals (walk_at "M ret"; skip)
  · exact hS 1 _ _ _ (le_1 (by assumption)) (Fr.keep (by assumption))
  · exact hS 2 _ _ _ (le_2 (by assumption) (by assumption)) (Fr.keep (by assumption))
  · exact hN _ _ _ (le_3 (by assumption) (by assumption)) (Fr.keep (by assumption))
end
end
local macro_rules | `(tactic| walk_at "call ref") => `(tactic| ((with_reducible show wpAny _ _ (call (Value.ref 69) [Value.bytes _ _, Value.int _ _]) _ _ _); focus (refine wpAny_call (line_end_ok (Wd.push (by assumption) (by assumption) (by assumption) (by assumption) rfl rfl) (Rm.less (by assumption) (by omega)) _ _ _ _ (by assumption) ?_ ?_); (intro k' h' tk' t' L' K'); rotate_left; (intro h' tk' t' L' K'); rotate_left; all_goals (have F' := fr_ext (by assumption) K'; have N' := news_ext (by assumption) K'))))
local macro_rules | `(tactic| walk_at "eval Name") => `(tactic| ((with_reducible show wpAny _ _ (eval (Expr.Name _ _) (envOf _ _ _ _ _)) _ _ _); (refine ld (by k_asm) (by walk_at "M name") ?_)))
local macro_rules | `(tactic| walk_at "WhlPost") => `(tactic| (dsimp only [WhlPost]))
local macro_rules | `(tactic| walk_at "WhlIf") => `(tactic| (dsimp only [WhlIf]))
local macro_rules | `(tactic| walk_at "call ref") => `(tactic| ((with_reducible show wpAny _ _ (call (Value.ref 62) [Value.int _ _]) _ _ _); (refine wpAny_call (is_atom_code_ok (Wd.push (by assumption) (by assumption) (by assumption) (by assumption) rfl rfl) (Rm.less (by assumption) (by omega)) _ _ ?_)); intro h' tk' K'; have F' := fr_ext (by assumption) K'; have N' := news_ext (by assumption) K'))
local macro_rules | `(tactic| walk_at "assign Tuple") => `(tactic| ((with_reducible show wpAny _ _ (assign (Expr.Tuple _ _ _) _ (Value.ref _)) _ _ _); refine unpackN_ (by k_asm) (by k_asm) (News.isTup (by k_asm) (by k_mem)) (by assumption) rfl rfl ?_; intro h' F' N'))

section
def Stop (P : Prop) : Prop := P
theorem stop_at {P : Prop} (h : Stop P) : P := h
theorem stop_go {P : Prop} (h : P) : Stop P := h
/-! raising, in the walk's words -/
section
variable {w : World} {mean : ExcName → Option Value} {mg mb : Str → Option Value} {A : Around} {base : Heap} {outer : List Env} {s : Shared} {R : Result → Shared → Prop} {E : Value → Shared → Prop}

def RaisePost (w : World) (E : Value → Shared → Prop) (v : Value) (s₁ : Shared) : Prop :=
  ∃ e L' t1 md h₀, v = .ref e ∧ (hd.heap_39 w.params).In s₁.heap ∧ Inst52 h₀ s₁.heap L' e #[.ref t1, .none, .none, .none, .bool false, .none] md ∧ E (.ref e) s₁

theorem raise_wf {x : PySem.Expr} {env : Env} {pos : Pos} {Q : Flow → Shared → Prop} (hh : A.handled = none) (h : wpAny (model PG w) A (eval x env) (RaisePost w E) E s) :
    wpAny (model PG w) A (exec (.Raise (some x) none pos) env) Q E s := by
  rw [arm_exec_Raise]
  refine wpAny_bind (wpAny_standAt (raise52 hh (wpAny_bind ?_)))
  exact wpAny_mono h (fun _ _ made => wpAny_bind (wpAny_standAt (wpAny_pure made))) fun _ _ z => z

theorem inst_fly {h₀ h : Heap} {L e : Addr} {t1 : Addr} {md : Str → Option Value} {k : Int} {tk : Tok} (I : Inst52 h₀ h L e #[.ref t1, .none, .none, .none, .bool false, .none] md) (hat : md "at" = some (.int k tk)) : Fly h₀ k e h := by
  obtain ⟨hne, _, di, sl, he, hdi⟩ := I
  rcases hdi with ⟨_, hno⟩ | ⟨d, rfl, _, _, hdn, hns⟩
  · rw [hno] at hat; cases hat
  · refine ⟨_, _, d, md, tk, .none, he, rfl, rfl, rfl, rfl, hne, ?_, hat, hdn, .inl rfl⟩
    obtain ⟨o, es, ep, e1, e2, e3, _, e4⟩ := hns
    exact ⟨o, es, ep, e1, e2, e3, e4⟩

/-- WordFault(msg, k) within a body, to be raised -/
theorem made_wf {h₀ : Heap} {L : Addr} {m : Str → Option Value} {msg : Str} {t1 t2 : Tok} {k : Int} (X : (hd.heap_39 w.params).In h₀) (T : Top PV PL mean mg mb h₀) (F : Fr h₀ L s.heap m) (r : Rm 2 A) {Q : Value → Shared → Prop}
    (hq : ∀ h' tk' e, Ext s.heap h' → Fly s.heap k e h' → (∀ E : Value → Shared → Prop, E (.ref e) { s with heap := h', toks := tk' } → RaisePost w E (.ref e) { s with heap := h', toks := tk' }) → Q (.ref e) { s with heap := h', toks := tk' }) :
    wpAny (model PG w) A (call (.ref 52) [.str msg t1, .int k t2]) Q E s :=
  mk_wf (X.keeps F.keep) (T.keeps F.keep) r fun h' tk' e L' t1 md K I hat => hq h' tk' e K (inst_fly I hat) fun _ hE => ⟨e, L', t1, md, _, rfl, (X.keeps F.keep).keeps K, I, hE⟩

theorem m_inNever {h₀ : Heap} {L : Addr} {m : Str → Option Value} {c : UInt8} {u : Tok} {Q : Value → Shared → Prop} (X : (hd.heap_39 w.params).In h₀) (F : Fr h₀ L s.heap m) (h : Q (.bool (neverEsc c)) s) :
    wpAny (model PG w) A (compareOp .In (.int ((c.toNat : Nat) : Int) u) (.ref 55)) Q E s := by
  have h55 : ∃ t0 t1 t2 n, s.heap.get? 55 = some { cls := .type "tuple", dict := none, data := .seq #[.int 0 t0, .int 10 t1, .int 13 t2] n, slots := #[] } := by
    exact ⟨_, _, _, _, (X.keeps F.keep) _ _ (by k_is)⟩
  obtain ⟨t0, t1, t2, n, h55⟩ := h55
  have hi : IntsAre [.int 0 t0, .int 10 t1, .int 13 t2] [0, 10, 13] := .cons _ _ (.cons _ _ (.cons _ _ .nil))
  refine SeqRoads2.in_tuple (isInt (c.toNat : Int)) (fun y hy => eq_isInt _ u hi y (by simpa using hy)) h55 ?_
  rw [← Array.any_toList, show (#[Value.int 0 t0, .int 10 t1, .int 13 t2] : Array Value).toList = [.int 0 t0, .int 10 t1, .int 13 t2] from rfl, any_isInt _ hi]
  have e : ([(0 : Int), 10, 13].any (· == (c.toNat : Int))) = neverEsc c := by
    rw [Bool.eq_iff_iff]
    unfold neverEsc
    simp only [List.any_cons, List.any_nil, Bool.or_false, Bool.or_eq_true, beq_iff_eq, ← UInt8.toNat_inj]
    constructor
    · rintro (h | h | h)
      · exact .inl (.inl (by show c.toNat = 0; omega))
      · exact .inl (.inr (by show c.toNat = 10; omega))
      · exact .inr (by show c.toNat = 13; omega)
    · rintro ((h | h) | h)
      · have h : c.toNat = 0 := h
        exact .inl (by omega)
      · have h : c.toNat = 10 := h
        exact .inr (.inl (by omega))
      · have h : c.toNat = 13 := h
        exact .inr (.inr (by omega))
  rw [e]; exact h
theorem pass_fly' {h₀ g : Heap} {L : Addr} {env : Env} {m : Str → Option Value} {M : Model} {k : Int} {e : Addr} {Q : Unit → Shared → Prop} (Fl : Fly g k e s.heap) (U : Up (fsOf (env :: outer)) g s.heap) (B : Below A base outer h₀) (F : Fr h₀ L g m) (hf : env.frame = some L) (hk : env.scope.kind = .function)
    (hQ : ∀ h', Up (fsOf outer) h₀ h' → Fly h₀ k e h' → Q () { s with heap := h' }) : wpAny M (A.deeper env) (leaving env (.ref e)) Q E s :=
  pass_fly B F hf hk U Fl hQ
end

theorem nil_of {h₀ h : Heap} {L : Addr} {m : Str → Option Value} (_F : Fr h₀ L h m) : News h₀ L h [] := News.nil
end
local macro_rules | `(tactic| walk_at "exec Raise some none") => `(tactic| (refine raise_wf (by assumption) ?_))
local macro_rules | `(tactic| walk_at "call ref") => `(tactic| ((with_reducible show wpAny _ _ (call (Value.ref 52) [Value.str _ _, Value.int _ _]) _ _ _); refine made_wf (by assumption) (by assumption) (by k_asm) (Rm.less (by assumption) (by omega)) ?_; intro h' tk' e' K' Fl' P'; (have F' := fr_ext (by assumption) K'); refine P' _ ?_))
local macro_rules | `(tactic| walk_at "compareOp In int ref") => `(tactic| ((with_reducible show wpAny _ _ (compareOp CmpOp.In (Value.int _ _) (Value.ref 55)) _ _ _); (refine m_inNever (by assumption) (by k_asm) ?_)))
local macro_rules | `(tactic| walk_at "leaving ref") => `(tactic| (refine pass_fly' (by assumption) (by first | assumption | exact Up.of_ext (by assumption)) (by assumption) (by assumption) rfl rfl ?_; intro h' U' Fl'; (try dsimp only)))
local macro_rules | `(tactic| walk_at "exec While Compare") => `(tactic| (refine stop_at ?_))
local macro_rules | `(tactic| walk_at "exec While BoolOp") => `(tactic| (refine stop_at ?_))
local macro_rules | `(tactic| walk_at "exec While") => `(tactic| (refine stop_at ?_))
local macro_rules | `(tactic| walk_at "WhlRest") => `(tactic| (refine stop_at ?_))

section
section
variable {w : World} {mean : ExcName → Option Value} {mg mb : Str → Option Value} {A : Around} {base : Heap} {outer : List Env} {s : Shared} {R : Result → Shared → Prop}


theorem news_get {h₀ h : Heap} {L a : Addr} {o : Obj} {r : List (Addr × Obj)} (N : News h₀ L h ((a, o) :: r)) : h₀.get? a = none ∧ h.get? a = some o :=
  ⟨(N _ (List.mem_cons_self ..)).2.2, (N _ (List.mem_cons_self ..)).1⟩
theorem drop_getD {x : List UInt8} {n : Nat} (h : n < x.length) : x.drop n = x.getD n 0 :: x.drop (n + 1) := by
  rw [List.drop_eq_getElem_cons h]; simp [h]
theorem take_1 {x : List UInt8} {n : Nat} (h : n < x.length) (k : Nat) (e : k = n + 1) : (x.drop n).take (k - n) = [x.getD n 0] := by
  subst e; rw [drop_getD h, show n + 1 - n = 1 from by omega]; rfl
theorem is92 {x : List UInt8} {n : Nat} : ((x.getD n 0).toNat : Int) = 92 ↔ x.getD n 0 = 92 := by
  rw [← UInt8.toNat_inj]; constructor <;> intro h
  · show _ = 92; omega
  · have h : _ = 92 := h; omega
theorem in_begun1 {x : List UInt8} {n : Nat} (h : (x.length : Int) ≤ n) : inside (x.drop n) = .error true := by
  rw [List.drop_of_length_le (by omega)]; rfl
theorem in_begun2 {x : List UInt8} {n : Nat} (h0 : ¬ (x.length : Int) ≤ n) (h1 : ((x.getD n 0).toNat : Int) = 92) (h2 : (n : Int) + 1 = x.length) : inside (x.drop n) = .error true := by
  rw [drop_getD (by omega), is92.mp h1, List.drop_of_length_le (by omega)]; rfl
theorem in_here1 {x : List UInt8} {n : Nat} (h0 : ¬ (x.length : Int) ≤ n) (h1 : ((x.getD n 0).toNat : Int) = 92) (h2 : (n : Int) + 1 ≠ x.length) (h3 : neverEsc (x.getD (n + 1) 0) = true) : inside (x.drop n) = .error false := by
  rw [drop_getD (by omega), is92.mp h1, drop_getD (by omega)]; simp only [inside, h3, if_true]
theorem in_ok1 {x : List UInt8} {n : Nat} (h0 : ¬ (x.length : Int) ≤ n) (h1 : ((x.getD n 0).toNat : Int) = 92) (h2 : (n : Int) + 1 ≠ x.length) (h3 : neverEsc (x.getD (n + 1) 0) = false) : inside (x.drop n) = .ok ((x.drop (n + 1)).take (n + 2 - (n + 1)), 2) := by
  rw [take_1 (by omega) _ rfl, drop_getD (by omega), is92.mp h1, drop_getD (by omega)]; simp only [inside, h3, if_true, Bool.false_eq_true, if_false]
theorem in_here2 {x : List UInt8} {n : Nat} (h0 : ¬ (x.length : Int) ≤ n) (h1 : ((x.getD n 0).toNat : Int) ≠ 92) (h2 : lineEnd (x.drop n) = none) (h3 : neverEsc (x.getD n 0) = true) : inside (x.drop n) = .error false := by
  have h1' : ¬ x.getD n 0 = 92 := fun q => h1 (is92.mpr q)
  rw [drop_getD (by omega)] at h2 ⊢; simp only [inside, h1', h2, h3, if_true, if_false]
theorem in_ok2 {x : List UInt8} {n k : Nat} (h0 : ¬ (x.length : Int) ≤ n) (h1 : ((x.getD n 0).toNat : Int) ≠ 92) (h2 : lineEnd (x.drop n) = some k) : inside (x.drop n) = .ok ([], k) := by
  have h1' : ¬ x.getD n 0 = 92 := fun q => h1 (is92.mpr q)
  rw [drop_getD (by omega)] at h2 ⊢; simp only [inside, h1', h2, if_false]
theorem in_ok3 {x : List UInt8} {n : Nat} (h0 : ¬ (x.length : Int) ≤ n) (h1 : ((x.getD n 0).toNat : Int) ≠ 92) (h2 : lineEnd (x.drop n) = none) (h3 : neverEsc (x.getD n 0) = false) : inside (x.drop n) = .ok ((x.drop n).take (n + 1 - n), 1) := by
  have h1' : ¬ x.getD n 0 = 92 := fun q => h1 (is92.mpr q)
  rw [take_1 (by omega) _ rfl, drop_getD (by omega)] at *; simp only [inside, h1', h2, h3, if_false, Bool.false_eq_true]

set_option maxHeartbeats 8000000 in
theorem inside_at_ok (W : Wd w mean mg mb A base outer s.heap) (r : Rm (2 + 1) A) (x : List UInt8) (n b : Nat) (tx tn tb : Tok) (hz : x.length ≤ 16777216)
    (hR : ∀ o k h' tk' a t1 t2, inside (x.drop n) = .ok (o, k) → Ext s.heap h' → s.heap.get? a = none → h'.get? a = some { cls := .type "tuple", data := .seq #[.bytes o.toArray t1, .int ((n + k : Nat) : Int) t2] } → R (.ok (.ret (.ref a))) { s with heap := h', toks := tk' })
    (hE : ∀ q h' tk' e, inside (x.drop n) = .error q → Up (fsOf outer) s.heap h' → Fly s.heap (if q then (b : Int) else (n : Int)) e h' → R (.error (.ref e)) { s with heap := h', toks := tk' }) :
    codeAny (model PG w) A (.call (.ref 76) ⟨[.bytes x.toArray tx, .int (n : Int) tn, .int (b : Int) tb], []⟩) R s := by
  walk_at "M enter"
  k_steps
  all_goals k_steps
  all_goals (walk_at "M ret"; first
    | exact hE true _ _ _ (in_begun1 (by assumption)) (by assumption) (by assumption)
    | exact hE true _ _ _ (in_begun2 (by assumption) (by assumption) (by assumption)) (by assumption) (by assumption)
    | exact hE false _ _ _ (in_here1 (by assumption) (by assumption) (by assumption) (by assumption)) (by assumption) (by assumption)
    | exact hE false _ _ _ (in_here2 (by assumption) (by assumption) (by assumption) (by assumption)) (by assumption) (by assumption)
    | exact hR _ _ _ _ _ _ _ (in_ok1 (by assumption) (by assumption) (by assumption) (by assumption)) (Fr.keep (by assumption)) (news_get (by assumption)).1 (news_get (by assumption)).2
    | exact hR _ _ _ _ _ _ _ (in_ok2 (by assumption) (by assumption) (by assumption)) (Fr.keep (by assumption)) (news_get (by assumption)).1 (news_get (by assumption)).2
    | exact hR _ _ _ _ _ _ _ (in_ok3 (by assumption) (by assumption) (by assumption) (by assumption)) (Fr.keep (by assumption)) (news_get (by assumption)).1 (news_get (by assumption)).2
    | (exfalso; omega))
end
end
local macro_rules | `(tactic| walk_at "call ref") => `(tactic| ((with_reducible show wpAny _ _ (call (Value.ref 76) [Value.bytes _ _, Value.int _ _, Value.int _ _]) _ _ _); focus (refine wpAny_call (inside_at_ok (Wd.push (by assumption) (by assumption) (by assumption) (by assumption) rfl rfl) (Rm.less (by assumption) (by omega)) _ _ _ _ _ _ (by assumption) ?_ ?_); (intro o' k' h' tk' a' t1' t2' i' K' n' g'; have F' := fr_ext (by assumption) K'; have N' := news_more (by assumption) (news_ext (by assumption) K') n' g'); rotate_left; (intro q' h' tk' e' i' U' Fl'); rotate_left)))

section
section
variable {prog : Program} {w : World} {A : Around} {E : Value → Shared → Prop} {s : Shared} {env : Env} {test : PySem.Expr} {body orelse : List Stmt} {Q : Flow → Shared → Prop}

/-- a while loop by a measure that falls -/
theorem whl_loop (Rel : Nat → Shared → Prop) {j : Nat} (h : Rel j s) (hE : PassesOwn (model prog w) A env E)
    (turn : ∀ j s, (∀ j' s', j' < j → Rel j' s' → WhlRest prog w A E env test body orelse Q 0 s') → Rel j s →
      wpAny (model prog w) A (isTrue test env (eval test env)) (fun b s₂ => WhlIf b (wpAny (model prog w) A (execs body env) (WhlPost prog w A E env test body orelse Q 0) E s₂) (wpAny (model prog w) A (execs orelse env) Q E s₂)) E s) :
    WhlRest prog w A E env test body orelse Q 0 s := by
  have key : ∀ n j s, j < n → Rel j s → WhlRest prog w A E env test body orelse Q 0 s := by
    intro n
    induction n with
    | zero => intro j s hj; omega
    | succ n ih =>
      intro j s hj hr
      exact whl_turn (k := 0) hE (turn j s (fun j' s' hlt hr' => ih j' s' (by omega) hr') hr)
  exact key (j + 1) j s (by omega) h
theorem whl_by (Rel : Nat → Shared → Prop) {j : Nat} {pos : Pos} (h : Rel j s) (hE : PassesOwn (model prog w) A env E)
    (turn : ∀ j s, (∀ j' s', j' < j → Rel j' s' → WhlRest prog w A E env test body orelse Q 0 s') → Rel j s →
      wpAny (model prog w) A (isTrue test env (eval test env)) (fun b s₂ => WhlIf b (wpAny (model prog w) A (execs body env) (WhlPost prog w A E env test body orelse Q 0) E s₂) (wpAny (model prog w) A (execs orelse env) Q E s₂)) E s) :
    wpAny (model prog w) A (exec (.While test body orelse pos) env) Q E s := whl_start 0 (whl_loop Rel h hE turn)
end

section
variable {w : World} {mean : ExcName → Option Value} {mg mb : Str → Option Value} {A : Around} {base : Heap} {outer : List Env} {s : Shared} {R : Result → Shared → Prop}

def WhiteI (s : Shared) (L' : Addr) (x : List UInt8) (N : Nat) (j : Nat) (s' : Shared) : Prop :=
  ∃ h' tk n k m tn tx, s' = { s with heap := h', toks := tk } ∧ j = x.length - n ∧ Fr s.heap L' h' m ∧ News s.heap L' h' [] ∧ m "data" = some (.bytes x.toArray tx) ∧ m "at" = some (.int ((n : Nat) : Int) tn) ∧ White (x.drop n) k ∧ n + k = N

theorem any_932 {c : UInt8} : ([(9 : Int), 32].any fun y => y == ((c.toNat : Nat) : Int)) = true ↔ c = 9 ∨ c = 32 := by
  simp only [List.any_cons, List.any_nil, Bool.or_false, Bool.or_eq_true, beq_iff_eq, ← UInt8.toNat_inj]
  constructor
  · rintro (h | h)
    · exact .inl (by show c.toNat = 9; omega)
    · exact .inr (by show c.toNat = 32; omega)
  · rintro (h | h)
    · have h : c.toNat = 9 := h
      exact .inl (by omega)
    · have h : c.toNat = 32 := h
      exact .inr (by omega)
theorem lineEnd_pos {l : List UInt8} {j : Nat} (h : lineEnd l = some j) : 0 < j ∧ j ≤ l.length := by
  cases l with
  | nil => simp [lineEnd] at h
  | cons c r =>
    simp only [lineEnd] at h
    by_cases a : c = 10
    · rw [if_pos a] at h; cases h; simp
    · rw [if_neg a] at h
      by_cases b : c = 13 ∧ r.head? = some 10
      · rw [if_pos b] at h
        cases h
        cases r with
        | nil => simp at b
        | cons d r => simp
      · rw [if_neg b] at h; cases h
theorem white_blank {x : List UInt8} {n k : Nat} (W : White (x.drop n) k) (lt : (n : Int) < x.length) (h : ([(9 : Int), 32].any fun y => y == (((x.getD n 0).toNat : Nat) : Int)) = true) : ∃ k', k = k' + 1 ∧ White (x.drop (n + 1)) k' := by
  have h := any_932.mp h
  rw [drop_getD (by omega)] at W
  generalize x.getD n 0 = c at W h
  cases W with
  | stop a b _ => exact absurd h (by simp [a, b])
  | blank a w => exact ⟨_, rfl, w⟩
  | line a b _ _ => exact absurd h (by simp [a, b])
theorem white_line {x : List UInt8} {n k j : Nat} (W : White (x.drop n) k) (lt : (n : Int) < x.length) (h : ([(9 : Int), 32].any fun y => y == (((x.getD n 0).toNat : Nat) : Int)) = false) (hl : lineEnd (x.drop n) = some j) : ∃ k', k = j + k' ∧ 0 < j ∧ White (x.drop (n + j)) k' := by
  have h : ¬ (x.getD n 0 = 9 ∨ x.getD n 0 = 32) := fun q => by rw [any_932.mpr q] at h; cases h
  have pos := (lineEnd_pos hl).1
  have e := List.drop_drop (i := j) (j := n) (l := x)
  rw [drop_getD (n := n) (x := x) (by omega)] at W hl e
  generalize x.getD n 0 = c at W h hl e
  cases W with
  | stop a b d => rw [hl] at d; cases d
  | blank a w => exact absurd a h
  | line a b d w => rw [hl] at d; cases d; exact ⟨_, rfl, pos, by rw [← e]; exact w⟩
theorem white_stop {x : List UInt8} {n k : Nat} (W : White (x.drop n) k) (lt : (n : Int) < x.length) (h : ([(9 : Int), 32].any fun y => y == (((x.getD n 0).toNat : Nat) : Int)) = false) (hl : lineEnd (x.drop n) = none) : k = 0 := by
  have h : ¬ (x.getD n 0 = 9 ∨ x.getD n 0 = 32) := fun q => by rw [any_932.mpr q] at h; cases h
  rw [drop_getD (by omega)] at W hl
  cases W with
  | stop a b d => rfl
  | blank a w => exact absurd a h
  | line a b d w => rw [hl] at d; cases d
theorem white_nil {x : List UInt8} {n k : Nat} (W : White (x.drop n) k) (lt : ¬ (n : Int) < x.length) : k = 0 := by
  rw [List.drop_of_length_le (by omega)] at W
  cases W; rfl

set_option maxHeartbeats 8000000 in
theorem past_white_ok (W : Wd w mean mg mb A base outer s.heap) (r : Rm (1 + 1) A) (x : List UInt8) (n k : Nat) (tx tn : Tok) (hz : x.length ≤ 16777216) (hW : White (x.drop n) k)
    (hR : ∀ h' tk' t, Ext s.heap h' → R (.ok (.ret (.int ((n + k : Nat) : Int) t))) { s with heap := h', toks := tk' }) :
    codeAny (model PG w) A (.call (.ref 111) ⟨[.bytes x.toArray tx, .int (n : Int) tn], []⟩) R s := by
  walk_at "M enter"
  k_steps
  refine stop_go ?_
  refine whl_by (WhiteI s _ x (n + k)) (j := x.length - n) ⟨_, _, n, k, _, _, _, rfl, rfl, by k_asm, by k_asm, rfl, rfl, hW, rfl⟩ ?_ ?_
  · first | passes_own | with_unfolding_all passes_own
  rintro j s' ih ⟨h₁, tk₁, n₁, k₁, m₁, tn₁, tx₁, rfl, hj, F₁, N₁, d₁, a₁, w₁, e₁⟩
  k_steps
  · obtain ⟨k', rfl, w'⟩ := white_blank w₁ (by assumption) (by assumption)
    exact ih _ _ (by omega) ⟨_, _, n₁ + 1, k', _, _, _, rfl, rfl, by assumption, News.nil, by walk_at "M name", by walk_at "M name", w', by omega⟩
  · obtain ⟨k', rfl, p', w'⟩ := white_line w₁ (by assumption) (by assumption) (by assumption)
    exact ih _ _ (by omega) ⟨_, _, n₁ + _, k', _, _, _, rfl, rfl, by assumption, News.nil, by walk_at "M name", by walk_at "M name", w', by omega⟩
  · have e' := white_stop w₁ (by assumption) (by assumption) (by assumption)
    subst e'
    rw [← e₁] at hR
    walk_at "M ret"
    exact hR _ _ _ (Fr.keep (by assumption))
  · have e' := white_nil w₁ (by assumption)
    subst e'
    rw [← e₁] at hR
    walk_at "M ret"
    exact hR _ _ _ (Fr.keep (by assumption))
end
end

section
section
variable {w : World} {mean : ExcName → Option Value} {mg mb : Str → Option Value} {A : Around} {base : Heap} {outer : List Env} {s : Shared} {R : Result → Shared → Prop}

theorem atom_step {x : List UInt8} {n i : Nat} (h : (x.drop n).takeWhile isAtom = (x.drop n).take i ++ (x.drop (n + i)).takeWhile isAtom) (lt : ((n + i : Nat) : Int) < x.length) (a : isAtom (x.getD (n + i) 0) = true) :
    (x.drop n).takeWhile isAtom = (x.drop n).take (i + 1) ++ (x.drop (n + (i + 1))).takeWhile isAtom := by
  rw [h, drop_getD (n := n + i) (by omega), List.takeWhile_cons, if_pos a, List.take_succ_eq_append_getElem (by rw [List.length_drop]; omega), List.append_assoc]
  have e : (x.drop n)[i]'(by rw [List.length_drop]; omega) = x.getD (n + i) 0 := by
    rw [List.getElem_drop]; simp; rw [List.getElem?_eq_getElem (by omega)]; rfl
  rw [e]
  rfl
theorem atom_end {x : List UInt8} {n i : Nat} (h : (x.drop n).takeWhile isAtom = (x.drop n).take i ++ (x.drop (n + i)).takeWhile isAtom) (le : n + i ≤ x.length) (a : ¬ ((n + i : Nat) : Int) < x.length ∨ isAtom (x.getD (n + i) 0) = false) :
    (x.drop n).takeWhile isAtom = (x.drop n).take (n + i - n) ∧ atomLen (x.drop n) = i := by
  have e : (x.drop (n + i)).takeWhile isAtom = [] := by
    rcases Nat.lt_or_ge (n + i) x.length with lt | ge
    · rw [drop_getD lt, List.takeWhile_cons]
      rcases a with a | a
      · omega
      · rw [a]; rfl
    · rw [List.drop_of_length_le ge]; rfl
  rw [e, List.append_nil] at h
  refine ⟨by rw [h, show n + i - n = i from by omega], ?_⟩
  unfold atomLen
  rw [h, List.length_take, List.length_drop]; omega

def AtomI (s : Shared) (L' : Addr) (x : List UInt8) (n : Nat) (j : Nat) (s' : Shared) : Prop :=
  ∃ h' tk i m tn te tx, s' = { s with heap := h', toks := tk } ∧ j = x.length - (n + i) ∧ Fr s.heap L' h' m ∧ m "data" = some (.bytes x.toArray tx) ∧ m "at" = some (.int ((n : Nat) : Int) tn) ∧ m "end" = some (.int ((n + i : Nat) : Int) te) ∧ (x.drop n).takeWhile isAtom = (x.drop n).take i ++ (x.drop (n + i)).takeWhile isAtom ∧ n + i ≤ x.length

set_option maxHeartbeats 8000000 in
theorem atom_at_ok (W : Wd w mean mg mb A base outer s.heap) (r : Rm (1 + 1) A) (x : List UInt8) (n : Nat) (tx tn : Tok) (hz : x.length ≤ 16777216) (hn : n ≤ x.length)
    (hR : ∀ h' tk' a t1 t2, Ext s.heap h' → s.heap.get? a = none → h'.get? a = some { cls := .type "tuple", data := .seq #[.bytes ((x.drop n).takeWhile isAtom).toArray t1, .int ((n + atomLen (x.drop n) : Nat) : Int) t2] } → R (.ok (.ret (.ref a))) { s with heap := h', toks := tk' }) :
    codeAny (model PG w) A (.call (.ref 97) ⟨[.bytes x.toArray tx, .int (n : Int) tn], []⟩) R s := by
  walk_at "M enter"
  k_steps
  refine stop_go ?_
  refine whl_by (AtomI s _ x n) (j := x.length - n) ⟨_, _, 0, _, _, _, _, rfl, rfl, by k_asm, rfl, rfl, rfl, rfl, hn⟩ ?_ ?_
  · first | passes_own | with_unfolding_all passes_own
  rintro j s' ih ⟨h₁, tk₁, i₁, m₁, tn₁, te₁, tx₁, rfl, hj, F₁, d₁, a₁, b₁, w₁, l₁⟩
  have N₁ := nil_of F₁
  k_steps
  · exact ih _ _ (by omega) ⟨_, _, i₁ + 1, _, _, _, _, rfl, rfl, by assumption, by walk_at "M name", by walk_at "M name", by walk_at "M name", atom_step w₁ (by assumption) (by assumption), by omega⟩
  · have e' := atom_end w₁ (by omega) (.inr (by assumption))
    rw [e'.1, e'.2] at hR
    walk_at "M ret"
    exact hR _ _ _ _ _ (Fr.keep (by assumption)) (news_get (by assumption)).1 (news_get (by assumption)).2
  · have e' := atom_end w₁ (by omega) (.inl (by assumption))
    rw [e'.1, e'.2] at hR
    walk_at "M ret"
    exact hR _ _ _ _ _ (Fr.keep (by assumption)) (news_get (by assumption)).1 (news_get (by assumption)).2
end
end

section
/-! b''.join of a list of octets -/
theorem slot_bytes_join : Slot "bytes" "join" "bytes.join" :=
  .of (owner := "bytes") (n := "join") (by rw [typeLookup_type, builtinLookup_eq_fast]; kernel_rfl) (by decide +kernel) (by decide +kernel) (by decide +kernel)
    (by first | exact .inl (by decide +kernel) | exact .inr (by decide +kernel)) (by rw [isSubtype_type]; kernel_rfl)
theorem type_bytes_join : typeOf (.builtin "bytes.join") = pure (.type "method_descriptor") := by show builtinType _ = _; rw [builtinType_eq_fast]; kernel_rfl
theorem entry_bytes_join : entryFor table "bytes.join" = some Builtin.«bytes.join» := entryFor_of_tree (by kernel_rfl)
theorem args_bytes_join_2 (a b : Value) : argsOk "bytes.join" ⟨[a, b], []⟩ := by
  unfold argsOk; rw [signature?_of (id := "bytes.join") (n := ['n', 'i', 'o', 'j']) (o := ['s', 'e', 't', 'y', 'b']) (by kernel_rfl) FB.owner_bytes]; kernel_rfl

/-- a list's items, as octets -/
inductive BL : List Value → List (List UInt8) → Prop
  | nil : BL [] []
  | cons {o : List UInt8} {t : Tok} {vs : List Value} {acc : List (List UInt8)} : BL vs acc → BL (.bytes o.toArray t :: vs) (o :: acc)
theorem BL.snoc {vs : List Value} {acc : List (List UInt8)} {o : List UInt8} {t : Tok} (h : BL vs acc) : BL (vs ++ [.bytes o.toArray t]) (acc ++ [o]) := by
  induction h with
  | nil => exact .cons .nil
  | cons _ ih => exact .cons ih
theorem BL.length {vs : List Value} {acc : List (List UInt8)} (h : BL vs acc) : vs.length = acc.length := by
  induction h with
  | nil => rfl
  | cons _ ih => simp [ih]
theorem BL.get {vs : List Value} {acc : List (List UInt8)} (h : BL vs acc) (i : Nat) (hi : i < acc.length) : ∃ t, vs[i]? = some (.bytes (acc[i]'hi).toArray t) := by
  induction h generalizing i with
  | nil => simp at hi
  | cons h ih =>
    cases i with
    | zero => exact ⟨_, rfl⟩
    | succ i => simpa using ih i (by simpa using hi)

theorem buffer_full {id : String} {b : Array UInt8} {t : Tok} (f : Bool) : Builtin.Bytes.buffer? id (.bytes b t) f = pure (some b) := by
  unfold Builtin.Bytes.buffer?
  rw [KBy.special_eq KBy.look_buffer, KBy.own_buffer, KBy.own_release]
  kernel_rfl
theorem take_eq {id : String} {b : Array UInt8} {t : Tok} {k : Int} : Builtin.Bytes.takeBufferQuiet? id (.bytes b t) k = pure (some (b, none)) := by
  unfold Builtin.Bytes.takeBufferQuiet? Builtin.Bytes.takeBuffer?
  rw [KBy.special_eq KBy.look_buffer, KBy.own_buffer]
  simp only [buffer_full]
  kernel_rfl

theorem joined_nil (acc : List (List UInt8)) : Builtin.Bytes.joined #[] (acc.map List.toArray) = acc.flatten.toArray := by
  unfold Builtin.Bytes.joined
  have key : ∀ (l : List (List UInt8)) (k : Nat) (o : Array UInt8), ((l.map List.toArray).zipIdx k).foldl (fun out (p : Array UInt8 × Nat) => (if p.2 > 0 then out ++ #[] else out) ++ p.1) o = o ++ l.flatten.toArray := by
    intro l
    induction l with
    | nil => intro k o; simp
    | cons a l ih =>
      intro k o
      rw [List.map_cons, List.zipIdx_cons, List.foldl_cons, ih]
      split <;> simp
  simpa using key acc 0 #[]
theorem sizes_sum (acc : List (List UInt8)) (k : Nat) : (acc.map List.toArray).toArray.foldl (fun n (p : Array UInt8) => n + p.size) k = k + acc.flatten.length := by
  rw [← Array.foldl_toList]
  show (acc.map List.toArray).foldl _ k = _
  induction acc generalizing k with
  | nil => rfl
  | cons a acc ih => rw [List.map_cons, List.foldl_cons, ih]; simp; omega

theorem jm_one {α : Type} (x : Value) (f : Value → α) (g : Array Value → α) : Builtin.Bytes.joinM.match_1 (fun _ => α) #[x] f g = f x := by with_unfolding_all rfl
theorem jm_other {α : Type} {vs : Array Value} (h : ¬ vs.size = 1) (f : Value → α) (g : Array Value → α) : Builtin.Bytes.joinM.match_1 (fun _ => α) vs f g = g vs := by
  unfold Builtin.Bytes.joinM.match_1
  rw [dif_neg h]

theorem BL.noHeap {vs : List Value} {acc : List (List UInt8)} (h : BL vs acc) : ∀ v ∈ vs, v.onHeap = false := by
  induction h with
  | nil => intro v hv; cases hv
  | cons _ ih =>
    intro v hv
    rcases List.mem_cons.mp hv with rfl | hv
    · rfl
    · exact ih v hv
theorem letGo_none {M : Model} {A : Around} {E : Value → Shared → Prop} {s : Shared} {Q : Unit → Shared → Prop} (keep : List Value) (h : Q () s) : ∀ l : List Value, wpAny M A (Builtin.Bytes.joinLetGo (l.map fun v => (v, none)) keep) Q E s
  | [] => wpAny_pure h
  | v :: l => by
    show wpAny _ _ (Builtin.Bytes.joinLetGo ((v, none) :: l.map fun v => (v, none)) keep) _ _ _
    unfold Builtin.Bytes.joinLetGo
    dsimp only
    repeat (first | exact letGo_none keep h l | (refine wpAny_bind (wpAny_letGo ?_)) | wp_step)

set_option maxHeartbeats 2000000 in
theorem join_meets {P : Addr} {n : Nat} {vs : Array Value} {acc : List (List UInt8)} {t : Tok} :
    Meets (Builtin.«bytes.join» ⟨[.bytes #[] t, .ref P], []⟩) (fun _ R s => s.heap.get? P = some (listOf vs n) ∧ BL vs.toList acc ∧ acc.flatten.length ≤ 16777216 ∧ ∀ t' tk', R (.ok (.ret (.bytes acc.flatten.toArray t'))) { s with toks := tk' }) := by
  refine .of_wp fun prog w A R s hS => ?_
  obtain ⟨hP, hb, hz, h⟩ := hS
  obtain ⟨hp, g, d, tk, os⟩ := s
  have hP : hp.get? P = some { cls := .type "list", data := .seq vs n } := hP
  unfold Builtin.«bytes.join» Builtin.Bytes.joinM
  unfold Builtin.Bytes.joinItems
  repeat (any_goals (first | (with_reducible refine wpAny_loadPart_at hP ?_; dsimp only) | (with_reducible refine wpAny_seqItems hP rfl ?_) | wp_step))
  by_cases h1 : vs.size = 1
  · obtain ⟨l⟩ := vs
    have hb : BL l acc := hb
    rcases l with _ | ⟨x, _ | ⟨y, l⟩⟩
    · cases h1
    · rw [jm_one]
      cases hb with
      | cons hb' =>
        cases hb'
        repeat (any_goals (first | (with_reducible refine wpAny_loadPart_at hP ?_; dsimp only) | (with_reducible refine wpAny_seqItems hP rfl ?_) | wp_step))
        exact ⟨_, rfl, by simpa using h _ tk⟩
    · simp at h1
  · rw [jm_other h1]
    have hl : vs.size = acc.length := by simpa using hb.length
    refine wpAny_bind ?_
    rw [Std.Legacy.Range.forIn_eq_forIn_range']
    refine wpAny_forIn_list _ (fun rest b s' => ∃ i, i ≤ acc.length ∧ rest = List.range' i (acc.length - i) ∧ s' = ⟨hp, g, d, tk, os⟩ ∧ b = ((((acc.take i).map List.toArray).toArray : Array (Array UInt8)), ((vs.toList.take i).map fun v => (v, (none : Option Value))))) _ ?_ ?_ _ _ ⟨0, by omega, by simp [hl], rfl, rfl⟩
    · rintro i rest b s' ⟨j, hj, hr, rfl, rfl⟩
      have hjl : j < acc.length := by
        rcases Nat.lt_or_ge j acc.length with q | q
        · exact q
        · rw [show acc.length - j = 0 from by omega] at hr; cases hr
      rw [show acc.length - j = (acc.length - j - 1) + 1 from by omega, List.range'_succ] at hr
      cases hr
      obtain ⟨tx, hx⟩ := hb.get i hjl
      repeat (any_goals (first | (with_reducible refine wpAny_loadPart_at hP ?_; dsimp only) | (with_reducible refine wpAny_seqItems hP rfl ?_) | wp_step))
      have hno : ¬ ((Builtin.Bytes.Kind.bytes == Builtin.Bytes.Kind.bytearray || ((vs.toList.take i).map fun v => (v, (none : Option Value))).any fun x => x.1.onHeap) = true) := by
        rw [show (Builtin.Bytes.Kind.bytes == Builtin.Bytes.Kind.bytearray) = false from rfl, Bool.false_or, List.any_map]
        intro q
        obtain ⟨v, hv, hh⟩ := List.any_eq_true.mp q
        have := hb.noHeap v (List.mem_of_mem_take hv)
        rw [Function.comp] at hh
        rw [this] at hh
        cases hh
      have hg : vs.getD i Value.none = Value.bytes acc[i].toArray tx := by
        rw [Array.getD_eq_getD_getElem?, ← Array.getElem?_toList, hx]; rfl
      refine wpAny_ite ?_
      rw [if_neg hno, hg]
      refine wpAny_bind (wpAny_holding (wpAny_of_eq take_eq ?_))
      dsimp only
      refine wpAny_bind (wpAny_seqItems hP rfl ?_)
      dsimp only
      rw [if_neg (by simp)]
      refine wpAny_pure ⟨i + 1, by omega, by rw [show acc.length - (i + 1) = acc.length - i - 1 from by omega], rfl, ?_⟩
      rw [List.take_succ_eq_append_getElem hjl, List.map_append, List.take_add_one, hx]
      simp
    · rintro b s' ⟨j, hj, hr, rfl, rfl⟩
      have hj' : j = acc.length := by
        rcases Nat.lt_or_ge j acc.length with q | q
        · rw [show acc.length - j = (acc.length - j - 1) + 1 from by omega, List.range'_succ] at hr; cases hr
        · omega
      subst hj'
      rw [List.take_length, List.take_of_length_le (by simp [hl])]
      refine wpAny_bind (wpAny_of_eq (a := #[]) rfl ?_)
      dsimp only
      have hs : Builtin.Bytes.tooLong (Array.foldl (fun x1 (x2 : Array UInt8) => x1 + x2.size) ((#[] : Array UInt8).size * ((List.map List.toArray acc).toArray.size - 1)) (List.map List.toArray acc).toArray) = false := by
        rw [sizes_sum]
        exact KBy.tooLong_not (by simpa using hz)
      rw [if_neg (by rw [hs]; decide), joined_nil]
      unfold Builtin.Bytes.Kind.new mkBytes
      dsimp only
      rw [if_neg (by rw [sizeLine_eq]; simp; simpa using hz)]
      repeat (first | (refine wpAny_bind (letGo_none _ ?_ _)) | wp_step)
      exact ⟨_, rfl, h _ _⟩

section
variable {prog : Program} {w : World} {A : Around} {E : Value → Shared → Prop} {s : Shared}
theorem join_method {M : Model} {b : Array UInt8} {t : Tok} {pl : Sem Bool} {Q : Value × List Value → Shared → Prop} (h : Q (.builtin "bytes.join", [.bytes b t]) s) : wpAny M A (getMethod (.bytes b t) "join" pl) Q E s := by
  with_reducible exact KBd.method_of (.bytes b t) (typeIs_bytes _ _ _) slot_bytes_join type_bytes_join KBd.noRef h
theorem m_join {h₀ : Heap} {L : Addr} {news : List (Addr × Obj)} {P : Addr} {n : Nat} {vs : Array Value} {acc : List (List UInt8)} {t : Tok} {Q : Value → Shared → Prop} (N : News h₀ L s.heap news) (hm : (P, listOf vs n) ∈ news) (hb : BL vs.toList acc) (hz : acc.flatten.length ≤ 16777216)
    (h : ∀ t' tk', Q (.bytes acc.flatten.toArray t') { s with toks := tk' }) : wpAny (model prog w) A (call (.builtin "bytes.join") [.bytes #[] t, .ref P]) Q E s :=
  call_meets slot_bytes_join (typeIs_bytes _ _ _) entry_bytes_join (args_bytes_join_2 _ _) join_meets ⟨(N _ hm).1, hb, hz, h⟩
theorem m_append {h₀ : Heap} {L : Addr} {m : Str → Option Value} {news : List (Addr × Obj)} {D : Addr} {n : Nat} {its : Array Value} {x : Value} {Q : Value → Shared → Prop} (F : Fr h₀ L s.heap m) (N : News h₀ L s.heap news) (hm : (D, listOf its n) ∈ news) (hz : its.size ≤ 16777216)
    (h : ∀ h', Fr h₀ L h' m → News h₀ L h' [(D, listOf (its.push x) (n + 1))] → Heap.SameBut D s.heap h' → Q .none { s with heap := h' }) : wpAny (model prog w) A (call (.builtin "list.append") [.ref D, x]) Q E s := by
  have z := N _ hm
  refine append_at (hsz := by rw [sizeLine_eq]; exact hz) z.1 fun h' hs ho' => h h' (F.change hs z.2.1 z.2.2) (fun p hp => ?_) hs
  rw [List.mem_singleton] at hp
  subst hp
  exact ⟨ho', z.2⟩
end
end
local macro_rules | `(tactic| walk_at "getMethod bytes") => `(tactic| (with_reducible refine join_method ?_))
local macro_rules | `(tactic| walk_at "call builtin:bytes.join") => `(tactic| (refine m_join (by k_asm) (by first | exact .head _ | exact .tail _ (.head _)) (by assumption) (by assumption) ?_; intro t' tk'))
local macro_rules | `(tactic| walk_at "call builtin:list.append") => `(tactic| (refine m_append (by k_asm) (by k_asm) (by k_mem) (by assumption) ?_; intro h' F' N' S'))

section
section
variable {w : World} {mean : ExcName → Option Value} {mg mb : Str → Option Value} {A : Around} {base : Heap} {outer : List Env} {s : Shared} {R : Result → Shared → Prop}

theorem take_eq_cl {x : List UInt8} {p : Nat} {cl : UInt8} : (x.drop p).take (p + 1 - p) = [cl] ↔ (x.drop p).head? = some cl := by
  rw [show p + 1 - p = 1 from by omega]
  cases x.drop p <;> simp
theorem head_getD {x : List UInt8} {p : Nat} {c : UInt8} (h : (x.drop p).head? = some c) : p < x.length ∧ x.getD p 0 = c := by
  rcases Nat.lt_or_ge p x.length with lt | ge
  · rw [drop_getD lt] at h; exact ⟨lt, by simpa using h⟩
  · rw [List.drop_of_length_le ge] at h; cases h
theorem inside_ok {l : List UInt8} {o : List UInt8} {k : Nat} (h : inside l = .ok (o, k)) : 0 < k ∧ k ≤ l.length ∧ o.length ≤ k := by
  cases l with
  | nil => cases h
  | cons c r =>
    simp only [inside] at h
    split at h
    · cases r with
      | nil => cases h
      | cons d r =>
        simp only at h
        split at h
        · cases h
        · cases h; simp
    · split at h
      · rename_i j hj
        cases h
        have := lineEnd_pos hj
        exact ⟨this.1, this.2, by simp⟩
      · split at h
        · cases h
        · cases h; simp
theorem inside_nil {x : List UInt8} {p : Nat} {q : Bool} (lt : ¬ (p : Int) < x.length) (i : inside (x.drop p) = .error q) : q = true := by
  rw [List.drop_of_length_le (by omega)] at i; cases i; rfl
section
variable {cl : UInt8} {bar x : List UInt8} {p n : Nat} {acc : List (List UInt8)} {res : Except Nat (List UInt8 × Nat)}
theorem closed_done (C : Closed cl bar (x.drop p) n acc res) (f : (x.drop p).take (p + 1 - p) = [cl]) : res = .ok (acc.flatten, n + 1) := by
  have f := take_eq_cl.mp f
  generalize x.drop p = l at C f
  cases C with
  | done => rfl
  | barred a b => exact absurd (by simpa using f) a
  | begun a => exact absurd f a
  | here a => exact absurd f a
  | step a => exact absurd f a
theorem closed_barred (C : Closed cl bar (x.drop p) n acc res) (f : ¬ (x.drop p).take (p + 1 - p) = [cl]) (lt : (p : Int) < x.length) (hb : bar.contains (x.getD p 0) = true) : res = .error n := by
  have f := fun q => f (take_eq_cl.mpr q)
  rw [drop_getD (by omega)] at C f
  generalize x.getD p 0 = c at C f hb
  cases C with
  | done => exact absurd rfl f
  | barred a b => rfl
  | begun a b => exact absurd ((b _ rfl).symm.trans hb) (by decide)
  | here a b => exact absurd ((b _ rfl).symm.trans hb) (by decide)
  | step a b => exact absurd ((b _ rfl).symm.trans hb) (by decide)
theorem closed_err {q : Bool} (C : Closed cl bar (x.drop p) n acc res) (f : ¬ (x.drop p).take (p + 1 - p) = [cl]) (hb : ¬ (p : Int) < x.length ∨ bar.contains (x.getD p 0) = false) (i : inside (x.drop p) = .error q) : res = .error (if q then 0 else n) := by
  have f := fun q => f (take_eq_cl.mpr q)
  have hb : ∀ c, (x.drop p).head? = some c → bar.contains c = false := fun c hc => by
    obtain ⟨lt, e⟩ := head_getD hc
    rcases hb with hb | hb
    · omega
    · rw [← e]; exact hb
  generalize x.drop p = l at C f hb i
  cases C with
  | done => exact absurd rfl f
  | barred a b => rw [hb _ rfl] at b; cases b
  | begun _ _ j => rw [i] at j; cases j; rfl
  | here _ _ j => rw [i] at j; cases j; rfl
  | step _ _ j => rw [i] at j; cases j
theorem closed_step {o : List UInt8} {k : Nat} (C : Closed cl bar (x.drop p) n acc res) (f : ¬ (x.drop p).take (p + 1 - p) = [cl]) (hb : ¬ (p : Int) < x.length ∨ bar.contains (x.getD p 0) = false) (i : inside (x.drop p) = .ok (o, k)) : Closed cl bar (x.drop (p + k)) (n + k) (acc ++ [o]) res := by
  have f := fun q => f (take_eq_cl.mpr q)
  have hb : ∀ c, (x.drop p).head? = some c → bar.contains c = false := fun c hc => by
    obtain ⟨lt, e⟩ := head_getD hc
    rcases hb with hb | hb
    · omega
    · rw [← e]; exact hb
  rw [← List.drop_drop]
  generalize x.drop p = l at C f hb i
  cases C with
  | done => exact absurd rfl f
  | barred a b => rw [hb _ rfl] at b; cases b
  | begun _ _ j => rw [i] at j; cases j
  | here _ _ j => rw [i] at j; cases j
  | step _ _ j c => rw [i] at j; cases j; exact c
end

def ClosedI (s : Shared) (L' : Addr) (x : List UInt8) (b : Nat) (cl : UInt8) (bar : List UInt8) (res : Except Nat (List UInt8 × Nat)) (j : Nat) (s' : Shared) : Prop :=
  ∃ h' tk n acc vs P m tx ta tb tc tr, ∃ v : Nat, s' = { s with heap := h', toks := tk } ∧ j = x.length - (b + n) ∧ Fr s.heap L' h' m ∧ News s.heap L' h' [(P, listOf vs v)] ∧ m "data" = some (.bytes x.toArray tx) ∧ m "at" = some (.int ((b + n : Nat) : Int) ta) ∧ m "begun" = some (.int (b : Int) tb) ∧ m "closing" = some (.bytes [cl].toArray tc) ∧ m "barred" = some (.bytes bar.toArray tr) ∧ m "parts" = some (.ref P) ∧
    v = vs.size ∧ BL vs.toList acc ∧ acc.length < n ∧ acc.flatten.length ≤ n ∧ b + n ≤ x.length ∧ Closed cl bar (x.drop (b + n)) n acc res

theorem use_ih {Rel : Nat → Shared → Prop} {G : Shared → Prop} {j : Nat} {s' : Shared} (ih : ∀ j' s', j' < j → Rel j' s' → G s') (h : ∃ j', j' < j ∧ Rel j' s') : G s' := let ⟨j', a, b⟩ := h; ih j' s' a b
theorem fly_q {h h' : Heap} {q : Bool} {b n : Nat} {e : Addr} (f : Fly h (if q = true then (b : Int) else ((b + n : Nat) : Int)) e h') : Fly h ((b + (if q then 0 else n) : Nat) : Int) e h' := by
  cases q <;> exact f
theorem closedI_step {s : Shared} {L' : Addr} {x : List UInt8} {b : Nat} {cl : UInt8} {bar : List UInt8} {res : Except Nat (List UInt8 × Nat)} {n k tk : Nat} {h' : Heap} {m : Str → Option Value} {P : Addr} {vs : Array Value} {o : List UInt8} {t1 tx ta tb tc tr : Tok} {acc : List (List UInt8)}
    (i : inside (x.drop (b + n)) = .ok (o, k)) (F : Fr s.heap L' h' m) (N : News s.heap L' h' [(P, listOf (vs.push (.bytes o.toArray t1)) (vs.size + 1))]) (m1 : m "data" = some (.bytes x.toArray tx)) (m2 : m "at" = some (.int ((b + n + k : Nat) : Int) ta)) (m3 : m "begun" = some (.int (b : Int) tb)) (m4 : m "closing" = some (.bytes [cl].toArray tc)) (m5 : m "barred" = some (.bytes bar.toArray tr)) (m6 : m "parts" = some (.ref P))
    (bl : BL vs.toList acc) (sz : acc.length < n) (fz : acc.flatten.length ≤ n) (bz : b + n ≤ x.length) (c : Closed cl bar (x.drop (b + n + k)) (n + k) (acc ++ [o]) res) :
    ∃ j', j' < x.length - (b + n) ∧ ClosedI s L' x b cl bar res j' { s with heap := h', toks := tk } := by
  have p := inside_ok i
  rw [List.length_drop] at p
  refine ⟨_, ?_, _, _, n + k, acc ++ [o], _, P, m, _, _, _, _, _, _, rfl, rfl, F, N, m1, by rw [← Nat.add_assoc]; exact m2, m3, m4, m5, m6, by simp, by simpa using bl.snoc (t := t1) (o := o), by simp; omega, by simp at fz ⊢; omega, by omega, by rw [← Nat.add_assoc]; exact c⟩
  omega

set_option maxHeartbeats 8000000 in
theorem closed_at_ok (W : Wd w mean mg mb A base outer s.heap) (r : Rm (3 + 1) A) (x : List UInt8) (b : Nat) (cl : UInt8) (bar : List UInt8) (res : Except Nat (List UInt8 × Nat)) (tx tb tc tr : Tok) (hz : x.length ≤ 16777216) (hbx : b < x.length) (hC : Closed cl bar (x.drop (b + 1)) 1 [] res)
    (hR : ∀ o k h' tk' a t1 t2, res = .ok (o, k) → Ext s.heap h' → s.heap.get? a = none → h'.get? a = some { cls := .type "tuple", data := .seq #[.bytes o.toArray t1, .int ((b + k : Nat) : Int) t2] } → R (.ok (.ret (.ref a))) { s with heap := h', toks := tk' })
    (hE : ∀ k h' tk' e, res = .error k → Up (fsOf outer) s.heap h' → Fly s.heap ((b + k : Nat) : Int) e h' → R (.error (.ref e)) { s with heap := h', toks := tk' }) :
    codeAny (model PG w) A (.call (.ref 83) ⟨[.bytes x.toArray tx, .int (b : Int) tb, .bytes [cl].toArray tc, .bytes bar.toArray tr], []⟩) R s := by
  walk_at "M enter"
  k_steps
  refine stop_go ?_
  refine whl_by (ClosedI s _ x b cl bar res) (j := x.length - (b + 1)) ⟨_, _, 1, [], #[], _, _, _, _, _, _, _, _, rfl, rfl, by k_asm, by k_asm, rfl, rfl, rfl, rfl, rfl, rfl, rfl, .nil, by simp, by simp, by omega, hC⟩ ?_ ?_
  · first | passes_own | with_unfolding_all passes_own
  rintro j s' ih ⟨h₁, tk₁, n₁, acc₁, vs₁, P₁, m₁, tx₁, ta₁, tb₁, tc₁, tr₁, v₁, rfl, hj, F₁, N₁, m1, m2, m3, m4, m5, m6, ev₁, bl₁, sz₁, fz₁, bz₁, c₁⟩
  subst ev₁
  have hsz : vs₁.size ≤ 16777216 := by have := bl₁.length; simp at this; omega
  have hfl : acc₁.flatten.length ≤ 16777216 := by omega
  k_steps
  all_goals first
    | exact use_ih ih (hj ▸ closedI_step (by assumption) (by assumption) (by assumption) (by walk_at "M name") (by walk_at "M name") (by walk_at "M name") (by walk_at "M name") (by walk_at "M name") (by walk_at "M name") bl₁ sz₁ fz₁ bz₁ (closed_step c₁ (by assumption) (by first | exact .inr (by assumption) | exact .inl (by assumption)) (by assumption)))
    | (walk_at "M ret"; exact hE _ _ _ _ (closed_barred c₁ (by assumption) (by assumption) (by assumption)) (by assumption) (by assumption))
    | (walk_at "M ret"; exact hE _ _ _ _ (closed_err c₁ (by assumption) (by first | exact .inr (by assumption) | exact .inl (by assumption)) (by assumption)) (by assumption) (fly_q (by assumption)))
    | (walk_at "M ret"; exact hR _ _ _ _ _ _ _ (closed_done c₁ (Decidable.not_not.mp (by assumption))) (Fr.keep (by assumption)) (news_get (by assumption)).1 (news_get (by assumption)).2)
end
end

section
section
variable {x : List UInt8} {p n d : Nat} {acc : List (List UInt8)} {res : Except Nat (List UInt8 × Nat)} {l : List UInt8}
theorem cm_done (C : Comment l n acc d res) (h : ¬ 0 < (d : Int)) : res = .ok (acc.dropLast.flatten, n) := by
  cases C with
  | done => rfl
  | deep _ _ q => omega
  | begun q => omega
  | here q => omega
  | step q => omega
theorem cm_deep (C : Comment l n acc d res) (h0 : 0 < (d : Int)) (h1 : l.head? = some 40) (h2 : (d : Int) + 1 > 20) : res = .error n := by
  cases C with
  | done => omega
  | deep => rfl
  | begun _ q => have := q h1; omega
  | here _ q => have := q h1; omega
  | step _ q => have := q h1; omega
theorem cm_err {q : Bool} (C : Comment l n acc d res) (h0 : 0 < (d : Int)) (h1 : l.head? = some 40 → (d : Int) + 1 ≤ 20) (i : inside l = .error q) : res = .error (if q then 0 else n) := by
  cases C with
  | done => omega
  | deep a => have := h1 a; omega
  | begun _ _ j => rw [i] at j; cases j; rfl
  | here _ _ j => rw [i] at j; cases j; rfl
  | step _ _ j => rw [i] at j; cases j
theorem cm_step {o : List UInt8} {k : Nat} (C : Comment (x.drop p) n acc d res) (h0 : 0 < (d : Int)) (h1 : (x.drop p).head? = some 40 → (d : Int) + 1 ≤ 20) (i : inside (x.drop p) = .ok (o, k)) : Comment (x.drop (p + k)) (n + k) (acc ++ [o]) (depthAt (x.drop p) d) res := by
  rw [← List.drop_drop]
  generalize x.drop p = l at C h1 i
  cases C with
  | done => omega
  | deep a => have := h1 a; omega
  | begun _ _ j => rw [i] at j; cases j
  | here _ _ j => rw [i] at j; cases j
  | step _ _ j c => rw [i] at j; cases j; exact c
theorem dep_40 (f : (x.drop p).take (p + 1 - p) = [40]) : (d : Int) + 1 = (depthAt (x.drop p) d : Nat) := by
  have f := take_eq_cl.mp f
  unfold depthAt; rw [f]; rfl
theorem dep_41 (f : (x.drop p).take (p + 1 - p) = [41]) (h : 0 < (d : Int)) : (d : Int) - 1 = (depthAt (x.drop p) d : Nat) := by
  have f := take_eq_cl.mp f
  unfold depthAt; rw [f]
  show _ = ((d - 1 : Nat) : Int)
  omega
theorem dep_no (f : ¬ (x.drop p).take (p + 1 - p) = [40]) (g : ¬ (x.drop p).take (p + 1 - p) = [41]) : (d : Int) = (depthAt (x.drop p) d : Nat) := by
  have f := fun q => f (take_eq_cl.mpr q)
  have g := fun q => g (take_eq_cl.mpr q)
  unfold depthAt
  split
  · exact absurd (by assumption) f
  · exact absurd (by assumption) g
  · rfl
end

def CommentI (s : Shared) (L' : Addr) (x : List UInt8) (b : Nat) (res : Except Nat (List UInt8 × Nat)) (j : Nat) (s' : Shared) : Prop :=
  ∃ h' tk n acc vs P m tx ta tb td, ∃ v : Nat, ∃ dv : Int, ∃ d : Nat, s' = { s with heap := h', toks := tk } ∧ j = x.length - (b + n) ∧ Fr s.heap L' h' m ∧ News s.heap L' h' [(P, listOf vs v)] ∧ m "data" = some (.bytes x.toArray tx) ∧ m "at" = some (.int ((b + n : Nat) : Int) ta) ∧ m "begun" = some (.int (b : Int) tb) ∧ m "depth" = some (.int dv td) ∧ m "parts" = some (.ref P) ∧
    v = vs.size ∧ dv = (d : Int) ∧ BL vs.toList acc ∧ acc.length < n ∧ acc.flatten.length ≤ n ∧ b + n ≤ x.length ∧ Comment (x.drop (b + n)) n acc d res

section
variable {w : World} {mean : ExcName → Option Value} {mg mb : Str → Option Value} {A : Around} {base : Heap} {outer : List Env} {s : Shared} {R : Result → Shared → Prop}

theorem commentI_step {s : Shared} {L' : Addr} {x : List UInt8} {b : Nat} {res : Except Nat (List UInt8 × Nat)} {n k tk d : Nat} {dv : Int} {h' : Heap} {m : Str → Option Value} {P : Addr} {vs : Array Value} {o : List UInt8} {t1 tx ta tb td : Tok} {acc : List (List UInt8)}
    (i : inside (x.drop (b + n)) = .ok (o, k)) (F : Fr s.heap L' h' m) (N : News s.heap L' h' [(P, listOf (vs.push (.bytes o.toArray t1)) (vs.size + 1))]) (m1 : m "data" = some (.bytes x.toArray tx)) (m2 : m "at" = some (.int ((b + n + k : Nat) : Int) ta)) (m3 : m "begun" = some (.int (b : Int) tb)) (m4 : m "depth" = some (.int dv td)) (m6 : m "parts" = some (.ref P))
    (hd : dv = (d : Int)) (bl : BL vs.toList acc) (sz : acc.length < n) (fz : acc.flatten.length ≤ n) (bz : b + n ≤ x.length) (c : Comment (x.drop (b + n + k)) (n + k) (acc ++ [o]) d res) :
    ∃ j', j' < x.length - (b + n) ∧ CommentI s L' x b res j' { s with heap := h', toks := tk } := by
  have p := inside_ok i
  rw [List.length_drop] at p
  refine ⟨_, ?_, _, _, n + k, acc ++ [o], _, P, m, _, _, _, _, _, _, d, rfl, rfl, F, N, m1, by rw [← Nat.add_assoc]; exact m2, m3, m4, m6, by simp, hd, by simpa using bl.snoc (t := t1) (o := o), by simp; omega, by simp at fz ⊢; omega, by omega, by rw [← Nat.add_assoc]; exact c⟩
  omega

theorem BL.dropLast {vs : List Value} {acc : List (List UInt8)} (h : BL vs acc) : BL vs.dropLast acc.dropLast := by
  induction h with
  | nil => exact .nil
  | cons h ih =>
    cases h with
    | nil => exact .nil
    | cons h' => exact .cons ih
theorem pick_last (vs : Array Value) : (slicePick vs none (some (-1)) none).toList = vs.toList.dropLast := by
  have e : sliceBounds none (some (-1)) none vs.size = (((0 : Nat) : Int), ((vs.size - 1 : Nat) : Int), 1) := by
    unfold sliceBounds
    simp
    omega
  rw [kmk_pick_nat vs e]
  simp [List.dropLast_eq_take]
theorem flat_drop (acc : List (List UInt8)) : acc.dropLast.flatten.length ≤ acc.flatten.length := by
  induction acc with
  | nil => simp
  | cons a acc ih =>
    cases acc with
    | nil => simp
    | cons b acc => simp at ih ⊢; omega

set_option maxHeartbeats 8000000 in
theorem comment_at_ok (W : Wd w mean mg mb A base outer s.heap) (r : Rm (3 + 1) A) (x : List UInt8) (b : Nat) (res : Except Nat (List UInt8 × Nat)) (tx tb : Tok) (hz : x.length ≤ 16777216) (hbx : b < x.length) (hC : Comment (x.drop (b + 1)) 1 [] 1 res)
    (hR : ∀ o k h' tk' a t1 t2, res = .ok (o, k) → Ext s.heap h' → s.heap.get? a = none → h'.get? a = some { cls := .type "tuple", data := .seq #[.bytes o.toArray t1, .int ((b + k : Nat) : Int) t2] } → R (.ok (.ret (.ref a))) { s with heap := h', toks := tk' })
    (hE : ∀ k h' tk' e, res = .error k → Up (fsOf outer) s.heap h' → Fly s.heap ((b + k : Nat) : Int) e h' → R (.error (.ref e)) { s with heap := h', toks := tk' }) :
    codeAny (model PG w) A (.call (.ref 90) ⟨[.bytes x.toArray tx, .int (b : Int) tb], []⟩) R s := by
  walk_at "M enter"
  k_steps
  refine stop_go ?_
  refine whl_by (CommentI s _ x b res) (j := x.length - (b + 1)) ⟨_, _, 1, [], #[], _, _, _, _, _, _, _, _, 1, rfl, rfl, by k_asm, by k_asm, rfl, rfl, rfl, rfl, rfl, rfl, rfl, .nil, by simp, by simp, by omega, hC⟩ ?_ ?_
  · first | passes_own | with_unfolding_all passes_own
  rintro j s' ih ⟨h₁, tk₁, n₁, acc₁, vs₁, P₁, m₁, tx₁, ta₁, tb₁, td₁, v₁, dv₁, d₁, rfl, hj, F₁, N₁, m1, m2, m3, m4, m6, ev₁, ed₁, bl₁, sz₁, fz₁, bz₁, c₁⟩
  subst ev₁ ed₁
  have hsz : vs₁.size ≤ 16777216 := by have := bl₁.length; simp at this; omega
  have hfl : acc₁.dropLast.flatten.length ≤ 16777216 := by have := flat_drop acc₁; omega
  have hsl : BL (slicePick vs₁ none (some (-1)) none).toList acc₁.dropLast := by rw [pick_last]; exact bl₁.dropLast
  k_steps
  all_goals first
    | exact use_ih ih (hj ▸ commentI_step (by assumption) (by assumption) (by assumption) (by walk_at "M name") (by walk_at "M name") (by walk_at "M name") (by walk_at "M name") (by walk_at "M name") (dep_40 (by assumption)) bl₁ sz₁ fz₁ bz₁ (cm_step c₁ (by assumption) (fun _ => by omega) (by assumption)))
    | exact use_ih ih (hj ▸ commentI_step (by assumption) (by assumption) (by assumption) (by walk_at "M name") (by walk_at "M name") (by walk_at "M name") (by walk_at "M name") (by walk_at "M name") (dep_41 (by assumption) (by assumption)) bl₁ sz₁ fz₁ bz₁ (cm_step c₁ (by assumption) (fun q => absurd (take_eq_cl.mpr q) (by assumption)) (by assumption)))
    | exact use_ih ih (hj ▸ commentI_step (by assumption) (by assumption) (by assumption) (by walk_at "M name") (by walk_at "M name") (by walk_at "M name") (by walk_at "M name") (by walk_at "M name") (dep_no (by assumption) (by assumption)) bl₁ sz₁ fz₁ bz₁ (cm_step c₁ (by assumption) (fun q => absurd (take_eq_cl.mpr q) (by assumption)) (by assumption)))
    | (walk_at "M ret"; exact hE _ _ _ _ (cm_deep c₁ (by assumption) (take_eq_cl.mp (by assumption)) (by assumption)) (by assumption) (by assumption))
    | (walk_at "M ret"; exact hE _ _ _ _ (cm_err c₁ (by assumption) (fun q => by first | omega | exact absurd (take_eq_cl.mpr q) (by assumption)) (by assumption)) (by assumption) (fly_q (by assumption)))
    | (walk_at "M ret"; exact hR _ _ _ _ _ _ _ (cm_done c₁ (by assumption)) (Fr.keep (by assumption)) (news_get (by assumption)).1 (news_get (by assumption)).2)
end
end

section
theorem byte_all {P : UInt8 → Prop} (h : ∀ i : Fin 256, P (UInt8.ofNat i.val)) (c : UInt8) : P c := by
  have := h ⟨c.toNat, c.toNat_lt⟩
  simpa using this
theorem find_signs (c : UInt8) : (Builtin.Bytes.find? signs.toArray [c].toArray 0 8).isSome = signs.contains c := by
  revert c
  exact byte_all (by decide +kernel)
theorem atom_not (c : UInt8) (h : isAtom c = true) : signs.contains c = false ∧ c ≠ 34 ∧ c ≠ 91 ∧ c ≠ 40 := by
  revert h; revert c
  exact byte_all (by decide +kernel)
theorem sign_not (c : UInt8) (h : signs.contains c = true) : c ≠ 34 ∧ c ≠ 91 ∧ c ≠ 40 := by
  revert h; revert c
  exact byte_all (by decide +kernel)

theorem news_get2 {h₀ h : Heap} {L a a' : Addr} {o o' : Obj} {r : List (Addr × Obj)} (N : News h₀ L h ((a', o') :: (a, o) :: r)) : h₀.get? a = none ∧ h.get? a = some o :=
  ⟨(N _ (.tail _ (.head _))).2.2, (N _ (.tail _ (.head _))).1⟩
def pick : Except Nat (Kind × List UInt8 × Nat) → Except Nat (List UInt8 × Nat)
  | .ok (_, w, k) => .ok (w, k)
  | .error k => .error k
def kindStr : Kind → Str
  | .quoted => "quoted"
  | .literal => "literal"
  | .comment => "comment"
  | .sign => "sign"
  | .atom => "atom"
section
variable {x : List UInt8} {n : Nat} {res : Except Nat (Kind × List UInt8 × Nat)}
theorem head_cons {c : UInt8} (f : (x.drop n).take (n + 1 - n) = [c]) : x.drop n = c :: x.drop (n + 1) := by
  obtain ⟨lt, e⟩ := head_getD (take_eq_cl.mp f)
  rw [drop_getD lt, e]
theorem tok_quoted (T : Token (x.drop n) res) (f : (x.drop n).take (n + 1 - n) = [34]) : Closed 34 [] (x.drop (n + 1)) 1 [] (pick res) := by
  rw [head_cons f] at T
  generalize x.drop (n + 1) = r at T
  cases T with
  | quoted a => exact a
  | quotedE a => exact a
  | sign a => exact absurd a (by decide)
  | atom a => exact absurd a (by decide)
  | bad a => exact absurd rfl a
theorem tok_literal (T : Token (x.drop n) res) (f : (x.drop n).take (n + 1 - n) = [91]) : Closed 93 [91] (x.drop (n + 1)) 1 [] (pick res) := by
  rw [head_cons f] at T
  generalize x.drop (n + 1) = r at T
  cases T with
  | literal a => exact a
  | literalE a => exact a
  | sign a => exact absurd a (by decide)
  | atom a => exact absurd a (by decide)
  | bad a b => exact absurd rfl b
theorem tok_comment (T : Token (x.drop n) res) (f : (x.drop n).take (n + 1 - n) = [40]) : Comment (x.drop (n + 1)) 1 [] 1 (pick res) := by
  rw [head_cons f] at T
  generalize x.drop (n + 1) = r at T
  cases T with
  | comment a => exact a
  | commentE a => exact a
  | sign a => exact absurd a (by decide)
  | atom a => exact absurd a (by decide)
  | bad a b c => exact absurd rfl c
theorem pick_err {k : Nat} (h : pick res = .error k) : res = .error k := by
  cases res with
  | error j => cases h; rfl
  | ok v => obtain ⟨a, b, c⟩ := v; cases h
theorem ok_quoted {w : List UInt8} {k : Nat} (T : Token (x.drop n) res) (f : (x.drop n).take (n + 1 - n) = [34]) (h : pick res = .ok (w, k)) : res = .ok (.quoted, w, k) := by
  rw [head_cons f] at T
  generalize x.drop (n + 1) = r at T
  cases T with
  | quoted a => cases h; rfl
  | quotedE a => cases h
  | sign a => exact absurd a (by decide)
  | atom a => exact absurd a (by decide)
  | bad a => exact absurd rfl a
theorem ok_literal {w : List UInt8} {k : Nat} (T : Token (x.drop n) res) (f : (x.drop n).take (n + 1 - n) = [91]) (h : pick res = .ok (w, k)) : res = .ok (.literal, w, k) := by
  rw [head_cons f] at T
  generalize x.drop (n + 1) = r at T
  cases T with
  | literal a => cases h; rfl
  | literalE a => cases h
  | sign a => exact absurd a (by decide)
  | atom a => exact absurd a (by decide)
  | bad a b => exact absurd rfl b
theorem ok_comment {w : List UInt8} {k : Nat} (T : Token (x.drop n) res) (f : (x.drop n).take (n + 1 - n) = [40]) (h : pick res = .ok (w, k)) : res = .ok (.comment, w, k) := by
  rw [head_cons f] at T
  generalize x.drop (n + 1) = r at T
  cases T with
  | comment a => cases h; rfl
  | commentE a => cases h
  | sign a => exact absurd a (by decide)
  | atom a => exact absurd a (by decide)
  | bad a b c => exact absurd rfl c
theorem take_getD (hn : n < x.length) : (x.drop n).take (n + 1 - n) = [x.getD n 0] := by
  rw [drop_getD hn, show n + 1 - n = 1 from by omega]; rfl
theorem sign_find (hn : n < x.length) : (Builtin.Bytes.find? signs.toArray ((x.drop n).take (n + 1 - n)).toArray 0 signs.length).isSome = signs.contains (x.getD n 0) := by
  rw [take_getD hn]
  exact find_signs _
theorem ok_sign (hn : n < x.length) (T : Token (x.drop n) res) (h : (Builtin.Bytes.find? signs.toArray ((x.drop n).take (n + 1 - n)).toArray 0 signs.length).isSome = true) : res = .ok (.sign, (x.drop n).take (n + 1 - n), 1) := by
  rw [sign_find hn] at h
  rw [take_getD hn]
  rw [drop_getD hn] at T
  generalize x.getD n 0 = c at T h
  have s := sign_not _ h
  cases T with
  | quoted => exact absurd rfl s.1
  | quotedE => exact absurd rfl s.1
  | literal => exact absurd rfl s.2.1
  | literalE => exact absurd rfl s.2.1
  | comment => exact absurd rfl s.2.2
  | commentE => exact absurd rfl s.2.2
  | sign a => rfl
  | atom a => rw [(atom_not _ a).1] at h; cases h
  | bad _ _ _ a => rw [a] at h; cases h
theorem ok_bad (hn : n < x.length) (T : Token (x.drop n) res) (f1 : ¬ (x.drop n).take (n + 1 - n) = [34]) (f2 : ¬ (x.drop n).take (n + 1 - n) = [91]) (f3 : ¬ (x.drop n).take (n + 1 - n) = [40]) (h : (Builtin.Bytes.find? signs.toArray ((x.drop n).take (n + 1 - n)).toArray 0 signs.length).isSome = false) (a : isAtom (x.getD n 0) = false) : res = .error 0 := by
  rw [sign_find hn] at h
  rw [take_getD hn] at f1 f2 f3
  rw [drop_getD hn] at T
  generalize x.getD n 0 = c at T h f1 f2 f3 a
  cases T with
  | quoted => exact absurd rfl f1
  | quotedE => exact absurd rfl f1
  | literal => exact absurd rfl f2
  | literalE => exact absurd rfl f2
  | comment => exact absurd rfl f3
  | commentE => exact absurd rfl f3
  | sign b => rw [b] at h; cases h
  | atom b => rw [b] at a; cases a
  | bad => rfl
theorem ok_atom (hn : n < x.length) (T : Token (x.drop n) res) (a : isAtom (x.getD n 0) = true) : res = .ok (.atom, (x.drop n).takeWhile isAtom, atomLen (x.drop n)) := by
  rw [drop_getD hn] at T ⊢
  generalize x.getD n 0 = c at T a ⊢
  have s := atom_not _ a
  cases T with
  | quoted => exact absurd rfl s.2.1
  | quotedE => exact absurd rfl s.2.1
  | literal => exact absurd rfl s.2.2.1
  | literalE => exact absurd rfl s.2.2.1
  | comment => exact absurd rfl s.2.2.2
  | commentE => exact absurd rfl s.2.2.2
  | sign b => rw [s.1] at b; cases b
  | atom b => rfl
  | bad _ _ _ _ b => rw [a] at b; cases b
end

section
variable {w : World} {mean : ExcName → Option Value} {mg mb : Str → Option Value} {A : Around} {base : Heap} {outer : List Env} {s : Shared} {R : Result → Shared → Prop}

local macro_rules | `(tactic| walk_at "call ref") => `(tactic| ((with_reducible show wpAny _ _ (call (Value.ref 83) [Value.bytes _ _, Value.int _ _, Value.bytes _ _, Value.bytes _ _]) _ _ _); focus (refine wpAny_call (closed_at_ok (Wd.push (by assumption) (by assumption) (by assumption) (by assumption) rfl rfl) (Rm.less (by assumption) (by omega)) _ _ _ _ _ _ _ _ _ (by assumption) (by assumption) (by first | exact tok_quoted (by assumption) (by assumption) | exact tok_literal (by assumption) (by assumption)) ?_ ?_); (intro o' k' h' tk' a' t1' t2' i' K' n' g'; have F' := fr_ext (by assumption) K'; have N' := news_more (by assumption) (news_ext (by assumption) K') n' g'); rotate_left; (intro q' h' tk' e' i' U' Fl'); rotate_left)))
local macro_rules | `(tactic| walk_at "call ref") => `(tactic| ((with_reducible show wpAny _ _ (call (Value.ref 90) [Value.bytes _ _, Value.int _ _]) _ _ _); focus (refine wpAny_call (comment_at_ok (Wd.push (by assumption) (by assumption) (by assumption) (by assumption) rfl rfl) (Rm.less (by assumption) (by omega)) _ _ _ _ _ (by assumption) (by assumption) (tok_comment (by assumption) (by assumption)) ?_ ?_); (intro o' k' h' tk' a' t1' t2' i' K' n' g'; have F' := fr_ext (by assumption) K'; have N' := news_more (by assumption) (news_ext (by assumption) K') n' g'); rotate_left; (intro q' h' tk' e' i' U' Fl'); rotate_left)))
local macro_rules | `(tactic| walk_at "call ref") => `(tactic| ((with_reducible show wpAny _ _ (call (Value.ref 97) [Value.bytes _ _, Value.int _ _]) _ _ _); focus (refine wpAny_call (atom_at_ok (Wd.push (by assumption) (by assumption) (by assumption) (by assumption) rfl rfl) (Rm.less (by assumption) (by omega)) _ _ _ _ (by assumption) (by omega) ?_); (intro h' tk' a' t1' t2' K' n' g'; have F' := fr_ext (by assumption) K'; have N' := news_more (by assumption) (news_ext (by assumption) K') n' g'))))

set_option maxHeartbeats 8000000 in
theorem token_at_ok (W : Wd w mean mg mb A base outer s.heap) (r : Rm (4 + 1) A) (x : List UInt8) (n : Nat) (res : Except Nat (Kind × List UInt8 × Nat)) (tx tn : Tok) (hz : x.length ≤ 16777216) (hn : n < x.length) (hT : Token (x.drop n) res)
    (hR : ∀ kd o k h' tk' a b t1 t2 t3 t4, res = .ok (kd, o, k) → Ext s.heap h' → s.heap.get? a = none → s.heap.get? b = none → h'.get? a = some { cls := .type "tuple", data := .seq #[.ref b, .int ((n + k : Nat) : Int) t1] } → h'.get? b = some { cls := .type "tuple", data := .seq #[.str (kindStr kd) t2, .bytes o.toArray t3, .int (n : Int) t4] } → R (.ok (.ret (.ref a))) { s with heap := h', toks := tk' })
    (hE : ∀ k h' tk' e, res = .error k → Up (fsOf outer) s.heap h' → Fly s.heap ((n + k : Nat) : Int) e h' → R (.error (.ref e)) { s with heap := h', toks := tk' }) :
    codeAny (model PG w) A (.call (.ref 104) ⟨[.bytes x.toArray tx, .int (n : Int) tn], []⟩) R s := by
  walk_at "M enter"
  k_steps
  all_goals k_steps
  all_goals first
    | (walk_at "M ret"; exact hR _ _ _ _ _ _ _ _ _ _ _ (ok_quoted hT (by assumption) (by assumption)) (Fr.keep (by assumption)) (news_get (by assumption)).1 (news_get2 (by assumption)).1 (news_get (by assumption)).2 (news_get2 (by assumption)).2)
    | (walk_at "M ret"; exact hR _ _ _ _ _ _ _ _ _ _ _ (ok_literal hT (by assumption) (by assumption)) (Fr.keep (by assumption)) (news_get (by assumption)).1 (news_get2 (by assumption)).1 (news_get (by assumption)).2 (news_get2 (by assumption)).2)
    | (walk_at "M ret"; exact hR _ _ _ _ _ _ _ _ _ _ _ (ok_comment hT (by assumption) (by assumption)) (Fr.keep (by assumption)) (news_get (by assumption)).1 (news_get2 (by assumption)).1 (news_get (by assumption)).2 (news_get2 (by assumption)).2)
    | (walk_at "M ret"; exact hR _ _ _ _ _ _ _ _ _ _ _ (ok_sign hn hT (by assumption)) (Fr.keep (by assumption)) (news_get (by assumption)).1 (news_get2 (by assumption)).1 (news_get (by assumption)).2 (news_get2 (by assumption)).2)
    | (walk_at "M ret"; exact hR _ _ _ _ _ _ _ _ _ _ _ (ok_atom hn hT (by assumption)) (Fr.keep (by assumption)) (news_get (by assumption)).1 (news_get2 (by assumption)).1 (news_get (by assumption)).2 (news_get2 (by assumption)).2)
    | (walk_at "M ret"; exact hE _ _ _ _ (pick_err (by assumption)) (by assumption) (by assumption))
    | (walk_at "M ret"; exact hE _ _ _ _ (ok_bad hn hT (by assumption) (by assumption) (by assumption) (by assumption) (by assumption)) (by assumption) (by assumption))
end
end

section
/-! the tokens as objects -/
def tokObj (t : Tk) (t2 t3 t4 : Tok) : Obj := { cls := .type "tuple", data := .seq #[.str (kindStr t.kind) t2, .bytes t.worth.toArray t3, .int (t.at_ : Int) t4] }
def TokV (objs : List (Addr × Obj)) (v : Value) (t : Tk) : Prop := ∃ b t2 t3 t4, v = .ref b ∧ (b, tokObj t t2 t3 t4) ∈ objs
inductive All2 {α β : Type} (P : α → β → Prop) : List α → List β → Prop
  | nil : All2 P [] []
  | cons {a b as bs} : P a b → All2 P as bs → All2 P (a :: as) (b :: bs)
theorem All2.mono {α β : Type} {P P' : α → β → Prop} (h : ∀ a b, P a b → P' a b) {as : List α} {bs : List β} (x : All2 P as bs) : All2 P' as bs := by
  induction x with
  | nil => exact .nil
  | cons p _ ih => exact .cons (h _ _ p) ih
theorem All2.snoc {α β : Type} {P : α → β → Prop} {as : List α} {bs : List β} {a : α} {b : β} (x : All2 P as bs) (p : P a b) : All2 P (as ++ [a]) (bs ++ [b]) := by
  induction x with
  | nil => exact .cons p .nil
  | cons q _ ih => exact .cons q ih
theorem All2.length {α β : Type} {P : α → β → Prop} {as : List α} {bs : List β} (x : All2 P as bs) : as.length = bs.length := by
  induction x with
  | nil => rfl
  | cons _ _ ih => simp [ih]
def Tups (objs : List (Addr × Obj)) : Prop := ∀ p ∈ objs, p.2.cls = .type "tuple"
def Fresh (h₀ h : Heap) (objs : List (Addr × Obj)) : Prop := ∀ p ∈ objs, h₀.get? p.1 = none ∧ h.get? p.1 = some p.2
theorem news_app {h₀ h h' : Heap} {L : Addr} {m : Str → Option Value} {news objs : List (Addr × Obj)} (F : Fr h₀ L h m) (N : News h₀ L h' news) (x : Fresh h h' objs) : News h₀ L h' (objs ++ news) := fun p hp => by
  rcases List.mem_append.mp hp with hp | hp
  · obtain ⟨hn, ha⟩ := x p hp
    refine ⟨ha, fun q => ?_, ?_⟩
    · obtain ⟨oL, _, _, hL, _⟩ := F.ns
      rw [q, hL] at hn; cases hn
    · cases q : h₀.get? p.1 with
      | none => rfl
      | some o' => rw [F.keep _ _ q] at hn; cases hn
  · exact N p hp

def pre (ts : List Tk) : Except Nat (List Tk) → Except Nat (List Tk)
  | .ok r => .ok (ts ++ r)
  | .error e => .error e
theorem pre_nil (r : Except Nat (List Tk)) : pre [] r = r := by cases r <;> rfl
theorem pre_pre (a b : List Tk) (r : Except Nat (List Tk)) : pre a (pre b r) = pre (a ++ b) r := by cases r <;> simp [pre]
theorem toks_inv {l : List UInt8} {n : Nat} {rest : Except Nat (List Tk)} (T : Toks l n rest) :
    (l = [] ∧ rest = .ok []) ∨ (l ≠ [] ∧ ∃ k, Token l (.error k) ∧ rest = .error (n + k)) ∨ (l ≠ [] ∧ ∃ kd w j k rest', Token l (.ok (kd, w, j)) ∧ White (l.drop j) k ∧ Toks (l.drop (j + k)) (n + j + k) rest' ∧ rest = pre [⟨kd, w, n⟩] rest') := by
  cases T with
  | nil => exact .inl ⟨rfl, rfl⟩
  | bad a b => exact .inr (.inl ⟨a, _, b, rfl⟩)
  | step a b c d => exact .inr (.inr ⟨a, _, _, _, _, _, b, c, d, rfl⟩)
  | stepE a b c d => exact .inr (.inr ⟨a, _, _, _, _, _, b, c, d, rfl⟩)

theorem closed_pos {cl : UInt8} {bar l : List UInt8} {n : Nat} {acc : List (List UInt8)} {res : Except Nat (List UInt8 × Nat)} (C : Closed cl bar l n acc res) : ∀ o k, res = .ok (o, k) → n ≤ k := by
  induction C with
  | done => intro o k e; cases e; omega
  | barred => intro o k e; cases e
  | begun => intro o k e; cases e
  | here => intro o k e; cases e
  | step _ _ _ _ ih => intro o k e; have := ih o k e; omega
theorem comment_pos {l : List UInt8} {n d : Nat} {acc : List (List UInt8)} {res : Except Nat (List UInt8 × Nat)} (C : Comment l n acc d res) : ∀ o k, res = .ok (o, k) → n ≤ k := by
  induction C with
  | done => intro o k e; cases e; omega
  | deep => intro o k e; cases e
  | begun => intro o k e; cases e
  | here => intro o k e; cases e
  | step _ _ _ _ ih => intro o k e; have := ih o k e; omega
theorem token_pos {l w : List UInt8} {kd : Kind} {k : Nat} (T : Token l (.ok (kd, w, k))) : 0 < k := by
  cases T with
  | quoted c => have := closed_pos c _ _ rfl; omega
  | literal c => have := closed_pos c _ _ rfl; omega
  | comment c => have := comment_pos c _ _ rfl; omega
  | sign => omega
  | atom a => unfold atomLen; rw [List.takeWhile_cons, if_pos a]; simp

section
variable {prog : Program} {w : World} {A : Around} {E : Value → Shared → Prop} {s : Shared}
theorem m_append3 {h₀ : Heap} {L : Addr} {m : Str → Option Value} {a b D : Addr} {o1 o2 : Obj} {objs : List (Addr × Obj)} {n : Nat} {its : Array Value} {x : Value} {Q : Value → Shared → Prop} (F : Fr h₀ L s.heap m) (N : News h₀ L s.heap ((a, o1) :: (b, o2) :: (D, listOf its n) :: objs)) (h2 : o2.cls = .type "tuple") (h3 : Tups objs) (hz : its.size ≤ 16777216)
    (h : ∀ h', Fr h₀ L h' m → News h₀ L h' ((D, listOf (its.push x) (n + 1)) :: (b, o2) :: objs) → Q .none { s with heap := h' }) : wpAny (model prog w) A (call (.builtin "list.append") [.ref D, x]) Q E s := by
  have z := N _ (.tail _ (.tail _ (.head _)))
  have ne : ∀ p ∈ (b, o2) :: objs, p.1 ≠ D := fun p hp q => by
    have z2 : s.heap.get? p.1 = some p.2 ∧ p.2.cls = .type "tuple" := by
      rcases List.mem_cons.mp hp with rfl | hp
      · exact ⟨(N _ (.tail _ (.head _))).1, h2⟩
      · exact ⟨(N _ (.tail _ (.tail _ (.tail _ hp)))).1, h3 p hp⟩
    have z1 := z.1
    rw [← q, z2.1] at z1
    injection z1 with z1
    rw [z1] at z2
    exact absurd z2.2 (by simp [W.listOf])
  refine append_at (hsz := by rw [sizeLine_eq]; exact hz) z.1 fun h' hs ho' => h h' (F.change hs z.2.1 z.2.2) (fun p hp => ?_)
  rcases List.mem_cons.mp hp with rfl | hp
  · exact ⟨ho', z.2⟩
  · have zp : p ∈ (a, o1) :: (b, o2) :: (D, listOf its n) :: objs := by
      rcases List.mem_cons.mp hp with rfl | hp
      · exact .tail _ (.head _)
      · exact .tail _ (.tail _ (.tail _ hp))
    exact ⟨(hs.2 _ (ne p hp)).trans (N _ zp).1, (N _ zp).2⟩
end

section
variable {w : World} {mean : ExcName → Option Value} {mg mb : Str → Option Value} {A : Around} {base : Heap} {outer : List Env} {s : Shared} {R : Result → Shared → Prop}

theorem token_ok1 (W : Wd w mean mg mb A base outer s.heap) (r : Rm (4 + 1) A) (x : List UInt8) (n : Nat) {kd : Kind} {o : List UInt8} {k : Nat} (tx tn : Tok) (hz : x.length ≤ 16777216) (hn : n < x.length) (hT : Token (x.drop n) (.ok (kd, o, k)))
    (hR : ∀ h' tk' a b t1 t2 t3 t4, Ext s.heap h' → s.heap.get? a = none → s.heap.get? b = none → h'.get? a = some { cls := .type "tuple", data := .seq #[.ref b, .int ((n + k : Nat) : Int) t1] } → h'.get? b = some (tokObj ⟨kd, o, n⟩ t2 t3 t4) → R (.ok (.ret (.ref a))) { s with heap := h', toks := tk' }) :
    codeAny (model PG w) A (.call (.ref 104) ⟨[.bytes x.toArray tx, .int (n : Int) tn], []⟩) R s := by
  refine token_at_ok W r x n _ tx tn hz hn hT (fun kd' o' k' h' tk' a b t1 t2 t3 t4 e K na nb ga gb => ?_) (fun k' h' tk' e i => by cases i)
  cases e
  exact hR h' tk' a b t1 t2 t3 t4 K na nb ga gb
theorem token_er1 (W : Wd w mean mg mb A base outer s.heap) (r : Rm (4 + 1) A) (x : List UInt8) (n : Nat) {k : Nat} (tx tn : Tok) (hz : x.length ≤ 16777216) (hn : n < x.length) (hT : Token (x.drop n) (.error k))
    (hE : ∀ h' tk' e, Up (fsOf outer) s.heap h' → Fly s.heap ((n + k : Nat) : Int) e h' → R (.error (.ref e)) { s with heap := h', toks := tk' }) :
    codeAny (model PG w) A (.call (.ref 104) ⟨[.bytes x.toArray tx, .int (n : Int) tn], []⟩) R s := by
  refine token_at_ok W r x n _ tx tn hz hn hT (fun kd' o' k' h' tk' a b t1 t2 t3 t4 e => by cases e) (fun k' h' tk' e i => ?_)
  cases i
  exact hE h' tk' e
theorem past_ok1 {i : Int} {n k : Nat} {x : List UInt8} {tx tn : Tok} (e : i = (n : Int)) (W : Wd w mean mg mb A base outer s.heap) (r : Rm (1 + 1) A) (hz : x.length ≤ 16777216) (hW : White (x.drop n) k)
    (hR : ∀ h' tk' t, Ext s.heap h' → R (.ok (.ret (.int ((n + k : Nat) : Int) t))) { s with heap := h', toks := tk' }) :
    codeAny (model PG w) A (.call (.ref 111) ⟨[.bytes x.toArray tx, .int i tn], []⟩) R s := by
  subst e
  exact past_white_ok W r x n k tx tn hz hW hR
theorem nat_0 : (0 : Int) = ((0 : Nat) : Int) := rfl

local macro_rules | `(tactic| walk_at "call builtin:list.append") => `(tactic| (refine m_append3 (by k_asm) (by k_asm) rfl (by assumption) (by assumption) ?_; intro h' F' N'))
--LINES
local macro_rules | `(tactic| walk_at "call ref") => `(tactic| ((with_reducible show wpAny _ _ (call (Value.ref 111) [Value.bytes _ _, Value.int _ _]) _ _ _); (refine wpAny_call (past_ok1 (by with_reducible (first | exact nat_id _ | exact nat_1 _ | exact nat_0)) (Wd.push (by assumption) (by assumption) (by assumption) (by assumption) rfl rfl) (Rm.less (by assumption) (by omega)) (by assumption) (by assumption) ?_)); intro h' tk' t' K'; have F' := fr_ext (by assumption) K'; have N' := news_ext (by assumption) K'))
local macro_rules | `(tactic| walk_at "call ref") => `(tactic| ((with_reducible show wpAny _ _ (call (Value.ref 104) [Value.bytes _ _, Value.int _ _]) _ _ _); (refine wpAny_call (token_ok1 (Wd.push (by assumption) (by assumption) (by assumption) (by assumption) rfl rfl) (Rm.less (by assumption) (by omega)) _ _ _ _ (by assumption) (by assumption) (by assumption) ?_)); intro h' tk' a' b' t1' t2' t3' t4' K' na' nb' ga' gb'; have F' := fr_ext (by assumption) K'; have N' := news_more (by assumption) (news_more (by assumption) (news_ext (by assumption) K') nb' gb') na' ga'))
local macro_rules | `(tactic| walk_at "call ref") => `(tactic| ((with_reducible show wpAny _ _ (call (Value.ref 104) [Value.bytes _ _, Value.int _ _]) _ _ _); (refine wpAny_call (token_er1 (Wd.push (by assumption) (by assumption) (by assumption) (by assumption) rfl rfl) (Rm.less (by assumption) (by omega)) _ _ _ _ (by assumption) (by assumption) (by assumption) ?_)); intro h' tk' e' U' Fl'))
--END

def TokensI (s : Shared) (L' : Addr) (x : List UInt8) (res : Except Nat (List Tk)) (j : Nat) (s' : Shared) : Prop :=
  ∃ h' tk n vs ts P m tx ta objs rest, ∃ v : Nat, s' = { s with heap := h', toks := tk } ∧ j = x.length - n ∧ Fr s.heap L' h' m ∧ News s.heap L' h' ((P, listOf vs v) :: objs) ∧ m "octets" = some (.bytes x.toArray tx) ∧ m "at" = some (.int ((n : Nat) : Int) ta) ∧ m "found" = some (.ref P) ∧
    v = vs.size ∧ Tups objs ∧ All2 (TokV objs) vs.toList ts ∧ vs.size ≤ n ∧ Toks (x.drop n) n rest ∧ res = pre ts rest

theorem tokensI_step {s : Shared} {L' : Addr} {x w : List UInt8} {res rest' : Except Nat (List Tk)} {n j k tk : Nat} {kd : Kind} {h' : Heap} {m : Str → Option Value} {P b : Addr} {vs : Array Value} {ts : List Tk} {t2 t3 t4 tx ta : Tok} {objs : List (Addr × Obj)}
    (F : Fr s.heap L' h' m) (N : News s.heap L' h' ((P, listOf (vs.push (.ref b)) (vs.size + 1)) :: (b, tokObj ⟨kd, w, n⟩ t2 t3 t4) :: objs)) (m1 : m "octets" = some (.bytes x.toArray tx)) (m2 : m "at" = some (.int ((n + j + k : Nat) : Int) ta)) (m3 : m "found" = some (.ref P))
    (tu : Tups objs) (al : All2 (TokV objs) vs.toList ts) (sz : vs.size ≤ n) (hlt : n < x.length) (hj : 0 < j) (T : Toks ((x.drop n).drop (j + k)) (n + j + k) rest') (er : res = pre (ts ++ [⟨kd, w, n⟩]) rest') :
    ∃ j', j' < x.length - n ∧ TokensI s L' x res j' { s with heap := h', toks := tk } := by
  refine ⟨_, ?_, _, _, n + j + k, _, ts ++ [⟨kd, w, n⟩], P, m, _, _, _, rest', _, rfl, rfl, F, N, m1, m2, m3, by simp, ?_, ?_, by simp; omega, ?_, er⟩
  · omega
  · intro p hp
    rcases List.mem_cons.mp hp with rfl | hp
    · rfl
    · exact tu p hp
  · rw [Array.toList_push]
    refine All2.snoc (al.mono fun v t ⟨b', u2, u3, u4, e, hm⟩ => ⟨b', u2, u3, u4, e, .tail _ hm⟩) ⟨b, t2, t3, t4, rfl, .head _⟩
  · rw [Nat.add_assoc, ← List.drop_drop, ← Nat.add_assoc]; exact T

set_option maxHeartbeats 8000000 in
theorem tokens_of_ok (W : Wd w mean mg mb A base outer s.heap) (r : Rm (5 + 1) A) (x : List UInt8) (res : Except Nat (List Tk)) (tx : Tok) (hz : x.length ≤ 16777216) (hT : TokensOf x res)
    (hR : ∀ ts h' tk' a vs n objs, res = .ok ts → Ext s.heap h' → Fresh s.heap h' ((a, listOf vs n) :: objs) → Tups objs → All2 (TokV objs) vs.toList ts → R (.ok (.ret (.ref a))) { s with heap := h', toks := tk' })
    (hE : ∀ k h' tk' e, res = .error k → Up (fsOf outer) s.heap h' → Fly s.heap (k : Int) e h' → R (.error (.ref e)) { s with heap := h', toks := tk' }) :
    codeAny (model PG w) A (.call (.ref 118) ⟨[.bytes x.toArray tx], []⟩) R s := by
  obtain ⟨W₀, T₀⟩ := hT
  rename_i k₀
  have W₀ : White (x.drop 0) k₀ := W₀
  walk_at "M enter"
  k_steps
  refine stop_go ?_
  refine whl_by (TokensI s _ x res) (j := x.length - (0 + k₀)) ⟨_, _, 0 + k₀, #[], [], _, _, _, _, [], res, _, rfl, rfl, by k_asm, by k_asm, by walk_at "M name", by walk_at "M name", by walk_at "M name", rfl, (fun _ h => nomatch h), .nil, by simp, by rw [Nat.zero_add]; exact T₀, (pre_nil _).symm⟩ ?_ ?_
  · first | passes_own | with_unfolding_all passes_own
  rintro j s' ih ⟨h₁, tk₁, n₁, vs₁, ts₁, P₁, m₁, tx₁, ta₁, objs₁, rest₁, v₁, rfl, hj, F₁, N₁, m1, m2, m3, ev₁, tu₁, al₁, sz₁, T₁, er₁⟩
  subst ev₁
  rcases toks_inv T₁ with ⟨q1, q2⟩ | ⟨q1, k₁, q2, q3⟩ | ⟨q1, kd₁, w₁, j₁, k₁, rest', q2, q3, q4, q5⟩
  · have hlt : x.length ≤ n₁ := by
      rcases Nat.lt_or_ge n₁ x.length with lt | ge
      · rw [drop_getD lt] at q1; cases q1
      · exact ge
    k_steps
    dsimp only
    walk_at "M ret"
    exact hR ts₁ _ _ _ _ _ _ (by rw [er₁, q2]; simp [pre]) (Fr.keep (by assumption)) (fun p hp => ⟨(N₁ p hp).2.2, (N₁ p hp).1⟩) tu₁ al₁
  · have hlt : n₁ < x.length := by
      rcases Nat.lt_or_ge n₁ x.length with lt | ge
      · exact lt
      · rw [List.drop_of_length_le ge] at q1; exact absurd rfl q1
    k_steps
    exact hE (n₁ + k₁) _ _ _ (by rw [er₁, q3]; rfl) (by assumption) (by assumption)
  · have hlt : n₁ < x.length := by
      rcases Nat.lt_or_ge n₁ x.length with lt | ge
      · exact lt
      · rw [List.drop_of_length_le ge] at q1; exact absurd rfl q1
    have hsz : vs₁.size ≤ 16777216 := by omega
    have hw : White (x.drop (n₁ + j₁)) k₁ := by rw [← List.drop_drop]; exact q3
    k_steps
    exact use_ih ih (hj ▸ tokensI_step (by assumption) (by assumption) (by walk_at "M name") (by walk_at "M name") (by walk_at "M name") tu₁ al₁ sz₁ hlt (token_pos q2) q4 (by rw [er₁, q5, pre_pre]))
end
end

section
/-! a list handed over, to be changed in place -/
def hole (h : Heap) (a : Addr) : Heap := h.update a fun o => { cls := o.cls, dict := o.dict, data := .freed, slots := o.slots }
theorem hole_self (h : Heap) (a : Addr) : (hole h a).get? a = none := by
  cases q : (hole h a).get? a with
  | none => rfl
  | some o =>
    obtain ⟨e, f⟩ := Heap.get?_some_iff.mp q
    unfold hole at e
    cases h with
    | mk objs l =>
      simp only [Heap.update, Array.getElem?_modify, if_true] at e
      cases z : objs[a]? with
      | none => rw [z] at e; cases e
      | some o' => rw [z] at e; cases e; cases f
theorem hole_other {h : Heap} {a b : Addr} (n : b ≠ a) : (hole h a).get? b = h.get? b := Heap.get?_update_other _ _ (Ne.symm n)
theorem hole_ext {h₀ h : Heap} {P : Addr} (K : Ext h₀ h) (hP : h₀.get? P = none) : Ext h₀ (hole h P) := fun b o e => by
  rw [hole_other (fun q => by rw [q, hP] at e; cases e)]; exact K b o e
theorem hole_le (h : Heap) (P : Addr) : Ext (hole h P) h := fun b o e => by
  by_cases q : b = P
  · rw [q, hole_self] at e; cases e
  · rw [hole_other q] at e; exact e
theorem hole_size (h : Heap) (P : Addr) : (hole h P).objs.size = h.objs.size := Heap.size_after_update _ _ _
theorem hole_but {h h' : Heap} {P : Addr} (K : Ext (hole h P) h') : Heap.ExtBut P h h' := fun b o n e => K b o ((hole_other n).trans e)

theorem fr_but {h₀ h h' : Heap} {L P : Addr} {m : Str → Option Value} (F : Fr h₀ L h m) (hP : h₀.get? P = none) (ne : P ≠ L) (x : Heap.ExtBut P h h') : Fr h₀ L h' m := by
  obtain ⟨oL, a1, a2, hL, a3⟩ := F.ns
  exact ⟨⟨oL, a1, a2, x L oL (Ne.symm ne) hL, a3⟩, fun b o e => x b o (fun q => by rw [q, hP] at e; cases e) (F.keep b o e), F.above⟩
/-- the entry of P anew -/
inductive Rep (P : Addr) (o' : Obj) : List (Addr × Obj) → List (Addr × Obj) → Prop
  | nil : Rep P o' [] []
  | head {o l l'} : Rep P o' l l' → Rep P o' ((P, o) :: l) ((P, o') :: l')
  | keep {p l l'} : p.2.cls ≠ .type "list" → Rep P o' l l' → Rep P o' (p :: l) (p :: l')
  | other {p l l'} : p.1 ≠ P → Rep P o' l l' → Rep P o' (p :: l) (p :: l')
  | tail {l} : Tups l → Rep P o' l l
theorem news_rep {h₀ h h' : Heap} {L P : Addr} {o o' : Obj} {news news' : List (Addr × Obj)} (N : News h₀ L h news) (hm : (P, o) ∈ news) (ho : o.cls = .type "list") (x : Heap.ExtBut P h h') (g : h'.get? P = some o') (r : Rep P o' news news') : News h₀ L h' news' := by
  have z := N _ hm
  have ne : ∀ p ∈ news, p.2.cls ≠ .type "list" → p.1 ≠ P := fun p hp hc q => by
    have a := (N p hp).1
    rw [q, z.1] at a
    injection a with a
    exact hc (a ▸ ho)
  clear hm
  induction r with
  | nil => exact fun _ h => nomatch h
  | head _ ih =>
    intro p hp
    rcases List.mem_cons.mp hp with rfl | hp
    · exact ⟨g, z.2⟩
    · exact ih (fun p hp => N p (.tail _ hp)) (fun p hp => ne p (.tail _ hp)) p hp
  | keep hc _ ih =>
    intro p hp
    rcases List.mem_cons.mp hp with rfl | hp
    · have a := N _ (.head _)
      exact ⟨x _ _ (ne _ (.head _) hc) a.1, a.2⟩
    · exact ih (fun p hp => N p (.tail _ hp)) (fun p hp => ne p (.tail _ hp)) p hp
  | other hc _ ih =>
    intro p hp
    rcases List.mem_cons.mp hp with rfl | hp
    · have a := N _ (.head _)
      exact ⟨x _ _ hc a.1, a.2⟩
    · exact ih (fun p hp => N p (.tail _ hp)) (fun p hp => ne p (.tail _ hp)) p hp
  | tail t =>
    intro p hp
    have a := N p hp
    exact ⟨x _ _ (ne p hp (by rw [t p hp]; simp)) a.1, a.2⟩

section
variable {w : World} {mean : ExcName → Option Value} {mg mb : Str → Option Value} {A : Around} {base : Heap} {outer : List Env} {s : Shared} {R : Result → Shared → Prop}

local macro_rules | `(tactic| walk_at "M enterE") => `(tactic| (k_dflt (refine' enterE ?k1 ?k2 ?k3 ?k4 ?k5 ?k6 ?k7 ?k9 ?kB ?_ ?c2 ?c3 ?c4 ?c5; (case k1 => assumption); (case k2 => assumption); (case k3 => assumption); (case k4 => assumption); (case k5 => assumption); (case k6 => k_is); (case k7 => k_is); (case k9 => exact BindsTo.of_eq rfl); (case c5 => decide); (case kB => exact locs rfl); (case c2 => exact rfl); (case c3 => exact rfl); (case c4 => exact rfl))))

theorem m_pop0 {prog : Program} {E : Value → Shared → Prop} {h₀ : Heap} {L D : Addr} {m : Str → Option Value} {n : Nat} {y : Value} {vs : List Value} {u : Tok} {Q : Value → Shared → Prop} (F : Fr h₀ L s.heap m) (N : News h₀ L s.heap [(D, W.listOf (y :: vs).toArray n)]) (hz : (y :: vs).toArray.size ≤ 63)
    (h : ∀ h', Fr h₀ L h' m → News h₀ L h' [(D, W.listOf vs.toArray (n + 1))] → Q y { s with heap := h' }) : wpAny (model prog w) A (call (.builtin "list.pop") [.ref D, .int 0 u]) Q E s := by
  refine kl_popAt (p := []) (q := vs) (k := 0) F N rfl ?_ rfl (Upd.head (fun _ h => nomatch h)) ?_ h
  · unfold seqIndex?; simp
  · rw [sizeLine_eq]; simp at hz ⊢; omega
theorem cons_ne {a : Value} {vs : List Value} (h : (((Array.mk (a :: vs)).size : Nat) : Int) = 0) : False := by simp at h; omega
theorem law_digit {a : Int} {ns : List Int} {k : Nat} (h : 0 ≤ a.fmod k) : ((a :: ns).getD (Int.toNat 0) 0).fmod k = ((a.fmod k).toNat : Int) := by
  show a.fmod k = _
  omega
local macro_rules | `(tactic| walk_at "call builtin:list.pop") => `(tactic| (refine m_pop0 (by k_asm) (by k_asm) (by assumption) ?_; intro h' F' N'))

set_option maxHeartbeats 8000000 in
theorem law_take_ok {P : Addr} {vs : Array Value} {n : Nat} {ns : List Int} (X : (hd.heap_39 w.params).In (hole s.heap P)) (T : Top PV PL mean mg mb (hole s.heap P)) (r : Rm (0 + 1) A) (hP : s.heap.get? P = some (W.listOf vs n)) (hi : IntsAre vs.toList ns) (hlen : vs.size ≤ 63) (k : Nat) (hk : 0 < k) (hk9 : k ≤ 9) (tk : Tok)
    (hR : ∀ (d : Nat) h' tk' t vs' n' ns', d < k → Heap.ExtBut P s.heap h' → h'.get? P = some (W.listOf vs' n') → IntsAre vs'.toList ns' → vs'.size ≤ 63 → R (.ok (.ret (.int (d : Int) t))) { s with heap := h', toks := tk' }) :
    codeAny (model PG w) A (.call (.ref 125) ⟨[.ref P, .int (k : Int) tk], []⟩) R s := by
  have K := hole_le s.heap P
  have hz : (hole s.heap P).objs.size ≤ s.heap.objs.size := Nat.le_of_eq (hole_size _ _)
  have hlim := T.nolimit
  have hdep : A.depth < recursionLimit := by have := r.d; omega
  walk_at "M enterE"
  intro L' h₁ X' F₁ N₀ hL' K₁
  have neP : P ≠ L' := fun q => by rw [← q, hP] at hL'; cases hL'
  have N₁ : News (hole s.heap P) L' h₁ [(P, W.listOf vs n)] := fun p hp => by
    rw [List.mem_singleton] at hp; subst hp
    exact ⟨K₁ _ _ hP, neP, hole_self _ _⟩
  obtain ⟨vs⟩ := vs
  have hH : (A.deeper (envOf (Str.ofString "x") default L' 125 .none)).handled = none := r.h
  cases hi with
  | nil =>
    (with_reducible show wpAny _ _ _ _ _ _)
    k_fold
    k_steps
    dsimp only
    walk_at "M ret"
    exact hR 0 _ _ _ _ _ _ hk (hole_but (Fr.keep (by assumption))) (N₁ _ (.head _)).1 .nil (by decide)
  | cons a ta hi' =>
    have hlen' := hlen
    have hm0 := Int.fmod_nonneg_of_pos a (b := (k : Int)) (by omega)
    have hm1 := Int.fmod_lt_of_pos a (b := (k : Int)) (by omega)
    (with_reducible show wpAny _ _ _ _ _ _)
    k_fold
    k_steps
    · exact (cons_ne (by assumption)).elim
    · dsimp only
      walk_at "M ret"
      refine m_retI (law_digit hm0) (hR (a.fmod k).toNat _ _ _ _ _ _ (by omega) (hole_but (Fr.keep (by assumption))) (News.get (by assumption) (.head _)) hi' (by simp at hlen ⊢; omega))
    · dsimp only
      walk_at "M ret"
      refine m_retI (law_digit hm0) (hR (a.fmod k).toNat _ _ _ _ _ _ (by omega) (hole_but (Fr.keep (by assumption))) (News.get (by assumption) (.head _)) (.cons _ _ hi') (by simp at hlen ⊢; omega))
end
end

section
/-! for x in range(d) -/
def riObj (d : Nat) (i : Nat) : Obj := { cls := .type "range_iterator", dict := none, data := .fields #[rawInt (i : Int), rawInt ((d : Int) - (i : Int)), rawInt 1], slots := #[] }
section
variable {prog : Program} {w : World} {A : Around} {E : Value → Shared → Prop} {s : Shared} {name : Str} {scope : Scope} {L a : Addr} {cd : Value} {h₀ : Heap} {m : Str → Option Value} {news : List (Addr × Obj)}

theorem news_same {h h' : Heap} {I : Addr} {o o' : Obj} {news : List (Addr × Obj)} (N : News h₀ L h ((I, o) :: news)) (hoff : ∀ p ∈ news, p.2.cls ≠ o.cls) (hs : Heap.SameBut I h h') (g : h'.get? I = some o') : News h₀ L h' ((I, o') :: news) := by
  have z := N _ (.head _)
  intro p hp
  rcases List.mem_cons.mp hp with rfl | hp
  · exact ⟨g, z.2⟩
  · have a := N p (.tail _ hp)
    refine ⟨(hs.2 _ fun q => ?_).trans a.1, a.2⟩
    have b := a.1
    rw [q, z.1] at b
    injection b with b
    exact hoff p hp (by rw [← b])

def ForPost (s : Shared) (h₀ : Heap) (L I : Addr) (o : Obj) (Rel : (Str → Option Value) → List (Addr × Obj) → Prop) (f : Flow) (s₂ : Shared) : Prop :=
  f = .next ∧ ∃ h' tk' m₂ news₂, s₂ = { s with heap := h', toks := tk' } ∧ Fr h₀ L h' m₂ ∧ News h₀ L h' ((I, o) :: news₂) ∧ Rel m₂ news₂

theorem for_range {r : Addr} {d : Nat} {t u v : Tok} {x : Str} {px : Pos} {body : List Stmt} {Q : Flow → Shared → Prop} (Rel : Nat → (Str → Option Value) → List (Addr × Obj) → Prop)
    (hr : IsRange s.heap r 0 (d : Int) 1 t u v) (hh : A.handled = none) (hd : d ≤ 100) (F : Fr h₀ L s.heap m) (N : News h₀ L s.heap news) (h0 : Rel 0 m news) (hoff : ∀ i m news, Rel i m news → ∀ p ∈ news, p.2.cls ≠ .type "range_iterator")
    (hE : PassesOwn (model prog w) A (envOf name scope L a cd) E)
    (turn : ∀ i I h₁ tk₁ tk m₁ news₁, i < d → Fr h₀ L h₁ (fun y => if y = x then some (.int (i : Int) tk) else m₁ y) → News h₀ L h₁ ((I, riObj d (i + 1)) :: news₁) → Rel i m₁ news₁ →
      wpAny (model prog w) A (execs body (envOf name scope L a cd)) (ForPost s h₀ L I (riObj d (i + 1)) (Rel (i + 1))) E { s with heap := h₁, toks := tk₁ })
    (hQ : ∀ h' tk' m' news', Fr h₀ L h' m' → News h₀ L h' news' → Rel d m' news' → Q .next { s with heap := h', toks := tk' })
    (hk : scope.kind = .function := by rfl) (hx : (envOf name scope L a cd).kindOf x = some .local := by rfl) :
    wpAny (model prog w) A (pyIter (.ref r)) (fun it s₂ => codeAny (model prog w) A (.forLoop (.Name x px) it body [] (envOf name scope L a cd)) (fun r s' => match r with | .ok f => Q f s' | .error e => cameBackBy (model prog w) A (envOf name scope L a cd) E e s') s₂) E s := by
  have hsize : Builtin.Range.rangeSize 0 (d : Int) 1 = (d : Int) := by rw [rangeSize_one]; split <;> omega
  have hsmall : Builtin.Range.small 0 (d : Int) 1 = true := small_one (by omega) (by omega) (by omega) (by omega)
  refine wpAny_pyIter_range hr hsmall ?_
  rw [hsize]
  have F₀ : Fr h₀ L (s.heap.push (riObj d 0)) m := fr_ext F fun b o e => Heap.get?_push_of_some _ e
  have N₀ : News h₀ L (s.heap.push (riObj d 0)) ((s.heap.objs.size, riObj d 0) :: news) :=
    news_more F (news_ext N fun b o e => Heap.get?_push_of_some _ e) (Heap.get?_none_of_le (Nat.le_refl _)) (Heap.get?_push_size _ rfl)
  refine codeAny_forLoop (fun n s' => ∃ h' tk m' news' i, s' = { s with heap := h', toks := tk } ∧ Fr h₀ L h' m' ∧ News h₀ L h' ((s.heap.objs.size, riObj d i) :: news') ∧ Rel i m' news' ∧ i ≤ d ∧ n = d + 1 - i) ?_ (d + 1) ⟨_, _, m, news, 0, rfl, F₀, ?_, h0, by omega, by omega⟩
  · rintro n s' ⟨h', tk, m', news', i, rfl, F', N', hr', hi, rfl⟩
    have z := N' _ (.head _)
    have hit : IsRangeIter h' s.heap.objs.size (i : Int) ((d : Int) - i) 1 := z.1
    by_cases hlt : i < d
    · refine wpAny_pyNext_range_item hit (by omega) fun h₁ hit₁ hs₁ => ?_
      have e1 : (i : Int) + 1 = ((i + 1 : Nat) : Int) := by push_cast; rfl
      have e2 : (d : Int) - i - 1 = (d : Int) - ((i + 1 : Nat) : Int) := by push_cast; omega
      rw [e1, e2] at hit₁
      have F₁ := F'.change hs₁ z.2.1 z.2.2
      have N₁ := news_same N' (hoff _ _ _ hr') hs₁ (o' := riObj d (i + 1)) hit₁
      refine wpAny_assign_Name (storeX_L (cl := []) F₁ N₁ (fun h₂ F₂ N₂ => ?_) hk hx)
      refine wpAny_passesOwn hE (wpAny_mono (turn i _ h₂ _ _ m' news' hlt F₂ N₂ hr') (fun f s₃ h₃ => ?_) fun _ _ e => e)
      obtain ⟨rfl, h₃', tk₃, m₂, news₂, rfl, F₃, N₃, r₃⟩ := h₃
      exact ⟨d + 1 - (i + 1), by omega, h₃', tk₃, m₂, news₂, i + 1, rfl, F₃, N₃, r₃, by omega, rfl⟩
    · have hid : i = d := by omega
      subst hid
      refine wpAny_pyNext_range_end hh hit (by omega) fun h₁ he₁ => wpAny_execs_nil ?_
      have F₁ : Fr h₀ L h₁ m' := fr_but F' z.2.2 z.2.1 he₁
      refine hQ h₁ tk m' news' F₁ (fun p hp => ?_) hr'
      have a := N' p (.tail _ hp)
      refine ⟨he₁ _ _ (fun q => ?_) a.1, a.2⟩
      have b := a.1
      rw [q, z.1] at b
      injection b with b
      exact hoff _ _ _ hr' p hp (by rw [← b]; rfl)
  · exact N₀
end
end

section
section
variable {w : World} {mean : ExcName → Option Value} {mg mb : Str → Option Value} {A : Around} {base : Heap} {outer : List Env} {s : Shared} {R : Result → Shared → Prop}

theorem take_in {h₀ : Heap} {L P : Addr} {m : Str → Option Value} {news : List (Addr × Obj)} {vs : Array Value} {n : Nat} {ns : List Int} {k : Int} {tk : Tok} {Q : Value → Shared → Prop} {E : Value → Shared → Prop} (F : Fr h₀ L s.heap m) (N : News h₀ L s.heap news) (hm : (P, W.listOf vs n) ∈ news) (X : (hd.heap_39 w.params).In h₀) (T : Top PV PL mean mg mb h₀) (r : Rm (0 + 1) A) (hi : IntsAre vs.toList ns) (hlen : vs.size ≤ 63) (hk : 0 < k) (hk9 : k ≤ 9)
    (h : ∀ (d : Nat) h' tk' t vs' n' ns', (d : Int) < k → Fr h₀ L h' m → (∀ news', Rep P (W.listOf vs' n') news news' → News h₀ L h' news') → IntsAre vs'.toList ns' → vs'.size ≤ 63 → Q (.int (d : Int) t) { s with heap := h', toks := tk' }) :
    wpAny (model PG w) A (call (.ref 125) [.ref P, .int k tk]) Q E s := by
  have z := N _ hm
  obtain ⟨k, rfl⟩ : ∃ j : Nat, k = (j : Int) := ⟨k.toNat, by omega⟩
  have K := hole_ext F.keep z.2.2
  refine wpAny_call (law_take_ok (X.keeps K) (T.keeps K) r z.1 hi hlen k (by omega) (by omega) tk fun d h' tk' t vs' n' ns' hd x g hi' hl' => ?_)
  exact h d h' tk' t vs' n' ns' (by omega) (fr_but F z.2.2 z.2.1 x) (fun news' rr => news_rep N hm rfl x g rr) hi' hl'

theorem m_pick {prog : Program} {h₀ : Heap} {L D : Addr} {news : List (Addr × Obj)} {value slice : PySem.Expr} {l : List Value} {xs : List (List UInt8)} {n d : Nat} {k : Int} {u : Tok} {Q : Value → Shared → Prop} {E : Value → Shared → Prop} (N : News h₀ L s.heap news) (hm : (D, ({ cls := .type "tuple", data := .seq l.toArray n } : Obj)) ∈ news) (hb : BL l xs) (hd : (d : Int) < k) (hk : k = (xs.length : Int)) (hk9 : xs.length ≤ 9) (hmax : ∀ x ∈ xs, x.length ≤ 12)
    (h : ∀ x t, x ∈ xs → x.length ≤ 12 → Q (.bytes x.toArray t) s)
    (hs : subscripted slice false (.ref D) (.int (d : Int) u) = operate [.ref D, .int (d : Int) u] (getItem (.ref D) (.int (d : Int) u)) := by with_unfolding_all rfl) :
    wpAny (model prog w) A (subscriptTail value slice (.ref D) (.int (d : Int) u)) Q E s := by
  have hdl : d < xs.length := by omega
  obtain ⟨t, ht⟩ := hb.get d hdl
  refine item_tupleT (j := d) (News.isTup N hm) (by omega) (by omega) ?_ ht (h _ t (List.getElem_mem hdl) (hmax _ (List.getElem_mem hdl))) hs
  have := hb.length
  exact seqIndex_of (by omega) (by omega)
theorem m_badd {prog : Program} {x y : List UInt8} {t u : Tok} {Q : Value → Shared → Prop} {E : Value → Shared → Prop} (hl : x.length + y.length ≤ 16777216) (h : ∀ t' tk', Q (.bytes (x ++ y).toArray t') { s with toks := tk' }) :
    wpAny (model prog w) A (binaryOp .Add (.bytes x.toArray t) (.bytes y.toArray u)) Q E s := by
  refine KBy.add_bytes (by simpa using hl) (fun t' k => ?_)
  have e : x.toArray ++ y.toArray = (x ++ y).toArray := by simp
  rw [e]; exact h t' k

def leads : List (List UInt8) := [[], [32], [13, 10, 32]]
def pieces : List (List UInt8) := [[97, 98], [233], [44], [60], [34, 99, 32, 92, 34, 32, 100, 34], [91, 49, 46, 50, 93], [40, 120, 32, 40, 121, 41, 32, 92, 41, 32, 122, 41], [34, 97, 13, 10, 32, 98, 34], [64]]
def whites : List (List UInt8) := [[32], [10], [9, 13, 10, 32], [32]]
/-- what a row is -/
structure RowN (i : Nat) (x : List UInt8) : Prop where
  ex : ∃ (lead : List UInt8) (ps : List (List UInt8 × List UInt8)), lead ∈ leads ∧ ps.length = i ∧ (∀ p ∈ ps, p.1 ∈ pieces ∧ p.2 ∈ whites) ∧ x = lead ++ (ps.map fun (p : List UInt8 × List UInt8) => p.1 ++ p.2).flatten
def Row (x : List UInt8) : Prop := ∃ i, i ≤ 6 ∧ RowN i x
theorem RowN.start {x : List UInt8} (h : x ∈ leads) : RowN 0 x := ⟨x, [], h, rfl, (fun _ h => nomatch h), by simp⟩
theorem RowN.more {i : Nat} {x p q : List UInt8} (h : RowN i x) (hp : p ∈ pieces) (hq : q ∈ whites) : RowN (i + 1) (x ++ p ++ q) := by
  obtain ⟨lead, ps, a, b, c, rfl⟩ := h
  refine ⟨lead, ps ++ [(p, q)], a, by simp [b], fun r hr => ?_, by simp⟩
  rcases List.mem_append.mp hr with hr | hr
  · exact c r hr
  · rw [List.mem_singleton] at hr; subst hr; exact ⟨hp, hq⟩
theorem RowN.len {i : Nat} {x : List UInt8} (h : RowN i x) : x.length ≤ 3 + 16 * i := by
  obtain ⟨lead, ps, a, b, c, rfl⟩ := h
  have ha : lead.length ≤ 3 := by revert a; revert lead; decide
  have key : ∀ l : List (List UInt8 × List UInt8), (∀ p ∈ l, p.1 ∈ pieces ∧ p.2 ∈ whites) → (l.map fun (p : List UInt8 × List UInt8) => p.1 ++ p.2).flatten.length ≤ 16 * l.length := by
    intro l
    induction l with
    | nil => intro _; simp
    | cons p l ih =>
      intro hl
      have h1 := ih fun q hq => hl q (.tail _ hq)
      have h2 := hl p (.head _)
      have h3 : p.1.length ≤ 12 := by
        obtain ⟨a, _⟩ := h2; revert a; generalize p.1 = z; revert z; decide
      have h4 : p.2.length ≤ 4 := by
        obtain ⟨_, a⟩ := h2; revert a; generalize p.2 = z; revert z; decide
      simp at h1 ⊢; omega
  have := key ps c
  rw [List.length_append]
  omega

local macro_rules | `(tactic| walk_at "M rep") => `(tactic| first | exact .head .nil | exact .head (.tail (by assumption)) | exact .keep (by simp [riObj]) (.head .nil) | exact .keep (by simp [riObj]) (.head (.tail (by assumption))) | exact .head (.keep (by simp [riObj]) .nil) | exact .keep (by simp [riObj]) (.head (.keep (by simp [riObj]) .nil)) | exact .keep (by simp [riObj]) (.keep (by simp [riObj]) (.head .nil)) | exact .keep (by simp [riObj]) (.keep (by simp [riObj]) (.keep (by simp [riObj]) (.head .nil))))
local macro_rules | `(tactic| walk_at "M enterE") => `(tactic| (k_dflt (refine' enterE ?k1 ?k2 ?k3 ?k4 ?k5 ?k6 ?k7 ?k9 ?kB ?_ ?c2 ?c3 ?c4 ?c5; (case k1 => assumption); (case k2 => assumption); (case k3 => assumption); (case k4 => assumption); (case k5 => assumption); (case k6 => k_is); (case k7 => k_is); (case k9 => exact BindsTo.of_eq rfl); (case c5 => decide); (case kB => exact locs rfl); (case c2 => exact rfl); (case c3 => exact rfl); (case c4 => exact rfl))))
local macro_rules | `(tactic| walk_at "call ref") => `(tactic| ((with_reducible show wpAny _ _ (call (Value.ref 125) [Value.ref _, Value.int _ _]) _ _ _); (refine take_in (by k_asm) (by k_asm) (by first | exact .head _ | exact .tail _ (.head _) | exact .tail _ (.tail _ (.head _)) | exact .tail _ (.tail _ (.tail _ (.head _)))) (by assumption) (by assumption) (Rm.deeper (by assumption)) (by assumption) (by assumption) (by decide) (by decide) ?_); intro d' h' tk' t' vs' n' ns' hd' F' rN' hi' hl'; have N' := rN' _ (by walk_at "M rep")))
local macro_rules | `(tactic| walk_at "subscriptTail Tuple cons Call ref int") => `(tactic| ((with_reducible show wpAny _ _ (subscriptTail _ _ (Value.ref _) (Value.int _ _)) _ _ _); (refine m_pick (by k_asm) (by first | exact .head _ | exact .tail _ (.head _)) (by first | exact .cons (.cons (.cons .nil)) | exact .cons (.cons (.cons (.cons .nil))) | exact .cons (.cons (.cons (.cons (.cons (.cons (.cons (.cons (.cons .nil))))))))) (by assumption) (by exact rfl) (by decide) (by decide) ?_); intro x' tx' hx' hlx'))
local macro_rules | `(tactic| walk_at "binaryOp Add bytes bytes") => `(tactic| (refine m_badd (by first | omega | (simp only [List.length_append]; omega)) ?_; intro t' tk'))
local macro_rules | `(tactic| walk_at "exec For Name Call cons nil") => `(tactic| (refine stop_at ?_))

theorem news_tail {h₀ h : Heap} {L : Addr} {p : Addr × Obj} {l : List (Addr × Obj)} (N : News h₀ L h (p :: l)) : News h₀ L h l := fun q hq => N q (.tail _ hq)
def RowRel (P : Addr) (i : Nat) (m : Str → Option Value) (news : List (Addr × Obj)) : Prop :=
  ∃ x t vs n ns, m "octets" = some (.bytes (List.toArray x) t) ∧ m "pool" = some (.ref P) ∧ news = [(P, W.listOf vs n)] ∧ IntsAre vs.toList ns ∧ vs.size ≤ 63 ∧ RowN i x

set_option maxHeartbeats 8000000 in
theorem law_row_ok {P : Addr} {vs : Array Value} {n : Nat} {ns : List Int} (X : (hd.heap_39 w.params).In (hole s.heap P)) (T : Top PV PL mean mg mb (hole s.heap P)) (r : Rm (1 + 1) A) (hP : s.heap.get? P = some (W.listOf vs n)) (hi : IntsAre vs.toList ns) (hlen : vs.size ≤ 63)
    (hR : ∀ x h' tk' t vs' n' ns', Row x → Heap.ExtBut P s.heap h' → h'.get? P = some (W.listOf vs' n') → IntsAre vs'.toList ns' → vs'.size ≤ 63 → R (.ok (.ret (.bytes x.toArray t))) { s with heap := h', toks := tk' }) :
    codeAny (model PG w) A (.call (.ref 132) ⟨[.ref P], []⟩) R s := by
  have K := hole_le s.heap P
  have hz : (hole s.heap P).objs.size ≤ s.heap.objs.size := Nat.le_of_eq (hole_size _ _)
  have hlim := T.nolimit
  have hdep : A.depth < recursionLimit := by have := r.d; omega
  walk_at "M enterE"
  intro L' h₁ X' F₁ N₀ hL' K₁
  have neP : P ≠ L' := fun q => by rw [← q, hP] at hL'; cases hL'
  have N₁ : News (hole s.heap P) L' h₁ [(P, W.listOf vs n)] := fun p hp => by
    rw [List.mem_singleton] at hp; subst hp
    exact ⟨K₁ _ _ hP, neP, hole_self _ _⟩
  (with_reducible show wpAny _ _ _ _ _ _)
  k_fold
  k_steps
  refine stop_go ?_
  refine wpAny_For ?_ (by intro _; rfl)
  k_steps
  refine for_range (RowRel P) (by assumption) r.h (by omega) (by k_asm) (news_tail (by k_asm)) ⟨_, _, _, _, _, by walk_at "M name", by walk_at "M name", rfl, by assumption, by assumption, RowN.start (by assumption)⟩ ?_ ?_ ?_ ?_
  · rintro i m₂ news₂ ⟨x, t, vs₂, n₂, ns₂, _, _, rfl, _⟩ p hp
    rw [List.mem_singleton] at hp
    subst hp
    simp
  · first | passes_own | with_unfolding_all passes_own
  · rintro i I h₂ tk₂ tk₃ m₂ news₂ hid F₂ N₂ ⟨x, t, vs₂, n₂, ns₂, o1, o2, rfl, hi₂, hl₂, rn⟩
    have hxl : x.length ≤ 99 := by have := rn.len; omega
    k_steps
    exact ⟨rfl, _, _, _, _, rfl, by k_asm, news_tail (news_tail (by k_asm)), _, _, _, _, _, by walk_at "M name", by walk_at "M name", rfl, by assumption, by assumption, rn.more (by assumption) (by assumption)⟩
  · rintro h₂ tk₂ m₂ news₂ F₂ N₂ ⟨x, t, vs₂, n₂, ns₂, o1, o2, rfl, hi₂, hl₂, rn⟩
    k_steps
    walk_at "M ret"
    exact hR x _ _ _ _ _ _ ⟨_, by omega, rn⟩ (hole_but (Fr.keep F₂)) (News.get N₂ (.head _)) hi₂ hl₂
end
end

section
section
open Builtin Builtin.ObjectAttr
variable {w : World} {A : Around} {E : Value → Shared → Prop} {h : Heap} {g : Array GenState} {d : Drawn} {t : Nat} {os : OsState}

set_option maxHeartbeats 2000000 in
/-- fault.at -/
theorem load_at {e dd : Addr} {oe : Obj} {md : Str → Option Value} {k : Int} {tv : Tok} {vs : Array Value} {expr : Bool} {Q : Value → Shared → Prop} (X : (hd.heap_39 w.params).In h) (he : h.get? e = some oe) (hc : oe.cls = .ref 52) (hdi : oe.dict = some dd) (hda : oe.data = .fields vs) (hns : h.Ns dd md) (hat : md "at" = some (.int k tv))
    (hq : ∀ tk', Q (.int k tv) ⟨h, g, d, tk', os⟩) : wpAny (model PG w) A (getAttr (.ref e) "at" expr) Q E ⟨h, g, d, t, os⟩ := by
  have own : Looks (model PG w) h (isInstance (.ref e) (.type "BaseException")) true := is52 X he hc (by k_is)
  have get : Looks (model PG w) h (typeLookup (.ref 52) "__getattribute__") (some (.builtin "BaseException.__getattribute__")) := looks_findIn X (by k_is)
  have hook : Looks (model PG w) h (typeLookup (.ref 52) "__getattr__") none := looks_findIn X (by k_is)
  have miss : Looks (model PG w) h (typeLookup (.ref 52) "at") none := looks_findIn X (by k_is)
  have slot := PySem.F.attrBase_Exception.ga
  have bound := slot.bind (.ref e)
  have found : Looks (model PG w) h (nsGet dd "at") (some (.int k tv)) := by
    intro A Q E s k' q
    obtain ⟨o, es, ep, a, b, c, f⟩ := hns
    exact wpAny_nsGet ⟨o, es, ep, k' _ _ a, b, c, f⟩ (by rw [hat]; exact q)
  obtain ⟨_, _, _, _, _, _, _, _, _, _, hC⟩ := c52 X
  obtain ⟨_, _, _, _⟩ := oe
  subst hc hdi hda
  have kind : Looks (model PG w) h (typeOf (.ref e)) (.ref 52) := (Looks.ld he).andThen .now
  unfold getAttr
  cases expr <;> repeat (first | with_reducible refine wpAny_call ?_ | with_reducible refine wpAny_attempt ?_ | lk)
  all_goals refine codeAny_call_builtin slot.plain F.entry_bexc_ga (check_slot (s := ⟨h, g, d, t + 1, os⟩) (i := "BaseException.__getattribute__") (owner := "BaseException") (n := "__getattribute__") (self := .ref e) (rest := [.str (Str.ofString "at") t]) (kw := []) (by decide +kernel) (by decide +kernel) own (F.args_bexc_ga _ _) ?_)
  all_goals (show wpAny _ _ («object.__getattribute__» ⟨[.ref e, .str (Str.ofString "at") t], []⟩) _ _ _)
  all_goals repeat lk
  all_goals exact hq _
end
end

section
/-! a fault caught -/
def holes (h : Heap) : List Addr → Heap
  | [] => h
  | a :: l => hole (holes h l) a
theorem holes_size (h : Heap) : ∀ l, (holes h l).objs.size = h.objs.size
  | [] => rfl
  | a :: l => (hole_size _ _).trans (holes_size h l)
theorem holes_off {h : Heap} {b : Addr} : ∀ {l : List Addr}, b ∉ l → (holes h l).get? b = h.get? b
  | [], _ => rfl
  | a :: l, n => by
    rw [holes, hole_other (fun q => n (by rw [q]; exact .head _)), holes_off (fun q => n (.tail _ q))]
theorem holes_none {h : Heap} {b : Addr} : ∀ {l : List Addr}, b ∈ l → (holes h l).get? b = none
  | a :: l, m => by
    rw [holes]
    by_cases q : b = a
    · rw [q]; exact hole_self _ _
    · rw [hole_other q]
      rcases List.mem_cons.mp m with z | z
      · exact absurd z q
      · exact holes_none z
theorem up_but {fs : List Addr} {h₀ h h' : Heap} {L : Addr} (U : Up fs h₀ h) (s : Heap.SameBut L h h') (n : h₀.get? L = none) : Up fs h₀ h' := fun b o e => by
  have ne : b ≠ L := fun q => by rw [q, n] at e; cases e
  obtain ⟨a, sl, c⟩ := U b o e
  exact ⟨fun m => (s.2 b ne).trans (a m), sl, (s.2 b ne).trans c⟩

section
variable {w : World} {mean : ExcName → Option Value} {mg mb : Str → Option Value} {A : Around} {E : Value → Shared → Prop} {base h₀ g : Heap} {outer : List Env} {s : Shared} {L a e : Addr} {k : Int} {m : Str → Option Value} {name : Str} {scope : Scope} {cd : Value}

theorem ground (B : Below A base outer h₀) : Ext base (holes h₀ (fsOf outer)) := fun b o e => by
  rw [holes_off (fun m => ?_)]
  · exact B.stays b o e
  · obtain ⟨q, _⟩ := B.frames.mem m
    rw [q] at e; cases e
theorem ground_fr {fs : List Addr} {h' : Heap} (F : Fr h₀ L g m) (U : Up (L :: fs) g h') : Fr (holes h₀ fs) L h' m := by
  refine ⟨ns_up U F.ns, fun b o e => ?_, by rw [holes_size]; exact F.above⟩
  have hb : b ∉ fs := fun q => by rw [holes_none q] at e; cases e
  rw [holes_off hb] at e
  exact (U b o (F.keep b o e)).1 fun q => by
    rcases List.mem_cons.mp q with q | q
    · rw [q, frame_fresh F] at e; cases e
    · exact hb q
theorem flight_again {M : Model} {fs : List Addr} {Q : Unit → Shared → Prop} (U : Up fs g s.heap) (Fl : Fly g k e s.heap) (h : ∀ h', Up fs g h' → Fly g k e h' → Q () { s with heap := h' }) : wpAny M A (setFlight (.ref e) none) Q E s := by
  obtain ⟨oe, vs, d, md, tk, hd, he, hc, hdi, hda, h1, hge, hns, hat, hgd, hhd⟩ := id Fl
  rcases hhd with rfl | ⟨T, oT, ts, rfl, hTe, hgT, hT, hTd, hT3⟩
  · unfold setFlight
    refine wpAny_bind (wpAny_field he hda h1 ?_)
    rw [if_neg (by decide)]
    exact wpAny_pure (h s.heap U Fl)
  · exact flight_fly U he hc hdi hda h1 hge hns hat hgd hTe hgT hT hTd hT3 h

local macro_rules | `(tactic| walk_at "getAttr ref") => `(tactic| (refine load_at (by assumption) (by assumption) (by assumption) (by assumption) (by assumption) (by assumption) (by assumption) ?_; intro tk'))

set_option maxHeartbeats 4000000 in
theorem caught {np p1 p2 p3 pos : Pos} {Q : Flow → Shared → Prop} (B : Below A base outer h₀) (XB : (hd.heap_39 w.params).In base) (TB : Top PV PL mean mg mb base) (F : Fr h₀ L g m) (U : Up (fsOf (envOf name scope L a cd :: outer)) g s.heap) (Fl : Fly g k e s.heap)
    (hQ : ∀ h' tk' t, Up (fsOf outer) h₀ h' → Q (.ret (.int k t)) { s with heap := h', toks := tk' })
    (hk : scope.kind = .function) (hlo : (envOf name scope L a cd).kindOf "fault" = some .local) (hx : (envOf name scope L a cd).kindOf "WordFault" = some .globalImplicit) :
    wpAny (model PG w) (A.deeper (envOf name scope L a cd)) (noteFrame (.ref e) (envOf name scope L a cd)) (fun _ s₂ => wpAny (model PG w) (A.deeper (envOf name scope L a cd)) (setFlight (.ref e) none) (fun _ s₃ =>
      wpAny (model PG w) (A.deeper (envOf name scope L a cd)) (handleBy (.ref e) (envOf name scope L a cd) [.ExceptHandler (some (.Name "WordFault" np)) (some "fault") [.Return (some (.Attribute (.Name "fault" p1) "at" p2)) p3] pos]) Q E s₃) E s₂) E s := by
  have B' : Below (A.deeper (envOf name scope L a cd)) base (envOf name scope L a cd :: outer) g := pushX B F rfl hk
  have efs : fsOf (envOf name scope L a cd :: outer) = L :: fsOf outer := rfl
  have K := ground B
  have XG := XB.keeps K
  have TG := topRead_of (TB.keeps K)
  have hp : ((envOf name scope L a cd).scope.kind == .class || ((envOf name scope L a cd).scope.kind == .module && (envOf name scope L a cd).locals != (envOf name scope L a cd).globals)) = false := by simp [envOf, hk]
  have gL : ∃ o, g.get? L = some o := let ⟨o, _, _, ho, _⟩ := F.ns; ⟨o, ho⟩
  refine note_fly B'.stack (funFrames_up U B'.frames) rfl U Fl fun h₁ oe vs d md tk T oT ts u1 u2 u3 u4 u5 u6 u7 u8 u9 u10 u11 u12 u13 u14 u15 => ?_
  refine flight_fly (s := { s with heap := h₁ }) u1 u2 u3 u4 u5 u6 u7 u8 u9 u10 u11 u12 u13 u14 u15 fun h₂ U₂ Fl₂ => ?_
  rw [efs] at U₂
  have F₂ := ground_fr F U₂
  refine wpAny_handleBy_cons (codeAny_handlers_test ?_) (by intro q; cases q)
  refine name_K (v := .ref 52) F₂ XG TG (by k_is) ?_ hk hx
  have X₂ := XG.keeps F₂.keep
  obtain ⟨bs, sub, ab, col, dd, k0, k1, k2, k3, k5, hC⟩ := c52 X₂
  obtain ⟨oe₂, vs₂, d₂, md₂, tk₂, hd₂, he₂, hc₂, hrest⟩ := id Fl₂
  refine wpAny_excMatches_sub_self hC he₂ hc₂ (by decide +kernel) (codeAny_handlers_suite_as ?_)
  refine flight_again (s := { s with heap := h₂ }) U₂ Fl₂ fun h₃ U₃ Fl₃ => ?_
  refine wpAny_storeName_local hlo (ns_up U₃ F.ns) (fun h₄ n₄ s₄ => ?_) hp
  have s₄ : Heap.SameBut L h₃ h₄ := s₄
  have U₄ : Up (fsOf outer) h₀ h₄ := up_but (Up.drop F.keep (frame_fresh F) U₃) s₄ (frame_fresh F)
  have F₃ := ground_fr F U₃
  have F₄ : Fr (holes h₀ (fsOf outer)) L h₄ (fun y => if y = "fault" then some (.ref e) else m y) := F₃.set n₄ s₄
  have X₄ := XG.keeps F₄.keep
  obtain ⟨oe₃, vs₃, d₃, md₃, tk₃, hd₃, he₃, hc₃, hdi₃, hda₃, h1₃, hge₃, hns₃, hat₃, hgd₃, hhd₃⟩ := id Fl₃
  obtain ⟨oL, hL⟩ := gL
  have he₄ : h₄.get? e = some oe₃ := (s₄.2 e (fun q => by rw [q, hL] at hge₃; cases hge₃)).trans he₃
  have hns₄ : h₄.Ns d₃ md₃ := hns₃.sameBut s₄ (fun q => by rw [q, hL] at hgd₃; cases hgd₃)
  refine wpAny_execs_cons (wpAny_Return_some (Attribute_Name_ ?_))
  refine wpAny_Name (wpAny_loadName_local hk hlo F₄.ns (if_pos rfl) ?_) (by decide)
  refine load_at X₄ he₄ hc₃ hdi₃ hda₃ hns₄ hat₃ fun tk' => ?_
  dsimp only
  refine wpAny_nameGoes_keeps hlo F₄.ns hp fun h₅ v n₅ s₅ => ?_
  exact hQ _ _ _ (up_but U₄ s₅ (frame_fresh F))
end
end

section
theorem fresh_of_news {h₀ h : Heap} {L : Addr} {l r : List (Addr × Obj)} (N : News h₀ L h (l ++ r)) : Fresh h₀ h l := fun p hp => ⟨(N p (List.mem_append_left _ hp)).2.2, (N p (List.mem_append_left _ hp)).1⟩
theorem caught' {w : World} {mean : ExcName → Option Value} {mg mb : Str → Option Value} {A : Around} {E : Value → Shared → Prop} {base h₀ g : Heap} {outer : List Env} {s : Shared} {L a e : Addr} {k : Int} {m : Str → Option Value} {name : Str} {scope : Scope} {cd : Value} {np p1 p2 p3 pos : Pos} {Q : Flow → Shared → Prop}
    (Fl : Fly g k e s.heap) (F : Fr h₀ L g m) (B : Below A base outer h₀) (U : Up (fsOf (envOf name scope L a cd :: outer)) g s.heap) (XB : (hd.heap_39 w.params).In base) (TB : Top PV PL mean mg mb base)
    (hQ : ∀ h' tk' t, Up (fsOf outer) h₀ h' → Q (.ret (.int k t)) { s with heap := h', toks := tk' })
    (hk : scope.kind = .function) (hlo : (envOf name scope L a cd).kindOf "fault" = some .local) (hx : (envOf name scope L a cd).kindOf "WordFault" = some .globalImplicit) :
    wpAny (model PG w) (A.deeper (envOf name scope L a cd)) (noteFrame (.ref e) (envOf name scope L a cd)) (fun _ s₂ => wpAny (model PG w) (A.deeper (envOf name scope L a cd)) (setFlight (.ref e) none) (fun _ s₃ =>
      wpAny (model PG w) (A.deeper (envOf name scope L a cd)) (handleBy (.ref e) (envOf name scope L a cd) [.ExceptHandler (some (.Name "WordFault" np)) (some "fault") [.Return (some (.Attribute (.Name "fault" p1) "at" p2)) p3] pos]) Q E s₃) E s₂) E s :=
  caught B XB TB F U Fl hQ hk hlo hx

section
variable {w : World} {mean : ExcName → Option Value} {mg mb : Str → Option Value} {A : Around} {base : Heap} {outer : List Env} {s : Shared} {R : Result → Shared → Prop}

local macro_rules | `(tactic| walk_at "exec Try cons nil") => `(tactic| (refine stop_at ?_))
local macro_rules | `(tactic| walk_at "exec Try") => `(tactic| (refine stop_at ?_))
local macro_rules | `(tactic| walk_at "call ref") => `(tactic| ((with_reducible show wpAny _ _ (call (Value.ref 118) [Value.bytes _ _]) _ _ _); focus (refine wpAny_call (tokens_of_ok (Wd.push (by assumption) (by assumption) (by assumption) (by assumption) rfl rfl) (Rm.less (by assumption) (by omega)) _ _ _ (by assumption) (by assumption) ?_ ?_); (intro ts' h' tk' a' vs' n' objs' i' K' f' tu' al'; have F' := fr_ext (by assumption) K'; have N' := news_app (by assumption) (news_ext (by assumption) K') f'); rotate_left; (intro k' h' tk' e' i' U' Fl'); rotate_left)))

set_option maxHeartbeats 8000000 in
theorem law_heard_ok (W₀ : Wd w mean mg mb A base outer s.heap) (XB : (hd.heap_39 w.params).In base) (TB : Top PV PL mean mg mb base) (r : Rm (6 + 1) A) (x : List UInt8) (res : Except Nat (List Tk)) (tx : Tok) (hz : x.length ≤ 16777216) (hT : TokensOf x res)
    (hOk : ∀ ts h' tk' a vs n objs, res = .ok ts → Ext s.heap h' → Fresh s.heap h' ((a, W.listOf vs n) :: objs) → Tups objs → All2 (TokV objs) vs.toList ts → R (.ok (.ret (.ref a))) { s with heap := h', toks := tk' })
    (hEr : ∀ k h' tk' t, res = .error k → Up (fsOf outer) s.heap h' → R (.ok (.ret (.int (k : Int) t))) { s with heap := h', toks := tk' }) :
    codeAny (model PG w) A (.call (.ref 139) ⟨[.bytes x.toArray tx], []⟩) R s := by
  walk_at "M enter"
  k_steps
  refine stop_go ?_
  refine wpAny_Try_except ?_
  k_steps
  · dsimp only
    walk_at "M ret"
    exact hOk _ _ _ _ _ _ _ (by assumption) (Fr.keep (by assumption)) (fresh_of_news (by assumption)) (by assumption) (by assumption)
  · dsimp only
    refine caught' (by assumption) (by assumption) (by assumption) (by assumption) XB TB ?_ rfl rfl rfl
    intro h' tk' t' U'
    walk_at "M ret"
    exact hEr _ _ _ _ (by assumption) U'
end
end

section
/-! deep equality of tokens -/
open PySem.SeqAt PySem.MeetsSeq in
section
variable {prog : Program} {w : World} {A : Around} {E : Value → Shared → Prop} {s : Shared}
theorem eqv_bytes (x : List UInt8) (t u : Tok) : SeqAt.EqAt A s (.bytes x.toArray t) (.bytes x.toArray u) true := fun prog w E Q h => by
  unfold eqBool
  refine wpAny_holding ?_
  refine wpAny_ite_split (fun hab => ?_) (fun hab => ?_)
  · exact wpAny_bind (wpAny_rule (wpAny_pure h))
  · refine wpAny_bind (richCompare_gives (op := .Eq) (T := "bytes") rfl rfl FB.slot_bytes_eq FB.entry_bytes_eq (FB.args_bytes_eq_2 _ _) (gives_bytes_eq _ _ t u) (fun x => nomatch x) (wpAny_truthy_bool ?_))
    rw [show (x.toArray.toList == x.toArray.toList) = true by simp]; exact h
theorem all_true {α : Type} (l : List α) : (l.all fun _ => true) = true := by simp
theorem eqv_int (i : Int) (t u : Tok) : SeqAt.EqAt A s (.int i t) (.int i u) true := by
  have := SeqAt.EqAt.int_int (A := A) (s := s) i t i u
  simpa using this
theorem eqv_str (x : Str) (t u : Tok) : SeqAt.EqAt A s (.str x t) (.str x u) true := by
  have := SeqAt.EqAt.str_str (A := A) (s := s) x t x u
  simpa using this
theorem tok_items {b : Addr} {t : Tk} {t2 t3 t4 : Tok} (h : s.heap.get? b = some (tokObj t t2 t3 t4)) : s.heap.IsTuple b #[.str (kindStr t.kind) t2, .bytes t.worth.toArray t3, .int (t.at_ : Int) t4] :=
  ⟨_, h, rfl, _, rfl⟩
theorem tok_pairs {A : Around} (t : Tk) (t2 t3 t4 u2 u3 u4 : Tok) : ∀ j (h1 : j < (#[Value.str (kindStr t.kind) t2, .bytes t.worth.toArray t3, .int (t.at_ : Int) t4] : Array Value).size) (h2 : j < (#[Value.str (kindStr t.kind) u2, .bytes t.worth.toArray u3, .int (t.at_ : Int) u4] : Array Value).size),
    SeqAt.EqAt A s (#[Value.str (kindStr t.kind) t2, .bytes t.worth.toArray t3, .int (t.at_ : Int) t4] : Array Value)[j] (#[Value.str (kindStr t.kind) u2, .bytes t.worth.toArray u3, .int (t.at_ : Int) u4] : Array Value)[j] true := by
  intro j h1 h2
  match j, h1, h2 with
  | 0, _, _ => exact eqv_str _ _ _
  | 1, _, _ => exact eqv_bytes _ _ _
  | 2, _, _ => exact eqv_int _ _ _
  | j + 3, h1, _ => simp at h1; omega
theorem eqv_tok {b b' : Addr} {t : Tk} {t2 t3 t4 u2 u3 u4 : Tok} (hu : A.units < cLine) (h : s.heap.get? b = some (tokObj t t2 t3 t4)) (h' : s.heap.get? b' = some (tokObj t u2 u3 u4)) : SeqAt.EqAt A s (.ref b) (.ref b') true := by
  by_cases q : b = b'
  · rw [q]; exact SeqAt.EqAt.same _
  · exact SeqAt.EqAt.of_refs q (SeqAt.RcAt.tuples (e := fun _ => true) (tok_items h) (tok_items h') hu (tok_pairs t t2 t3 t4 u2 u3 u4))
theorem ne_tok {b b' : Addr} {t : Tk} {t2 t3 t4 u2 u3 u4 : Tok} {Q : Value → Shared → Prop} (hu : A.units < cLine) (h : s.heap.get? b = some (tokObj t t2 t3 t4)) (h' : s.heap.get? b' = some (tokObj t u2 u3 u4)) (hq : Q (.bool false) s) :
    wpAny (model prog w) A (compareOp .NotEq (.ref b) (.ref b')) Q E s :=
  SeqAt.RcNeAt.tuples (e := fun _ => true) (tok_items h) (tok_items h') hu (tok_pairs t t2 t3 t4 u2 u3 u4) prog w E Q (by rw [all_true]; exact hq)
theorem ne_pair {a a' b b' : Addr} {t : Tk} {n : Int} {t1 u1 t2 t3 t4 u2 u3 u4 : Tok} {Q : Value → Shared → Prop} (hu : A.units + 1 < cLine)
    (ha : s.heap.get? a = some { cls := .type "tuple", data := .seq #[.ref b, .int n t1] }) (ha' : s.heap.get? a' = some { cls := .type "tuple", data := .seq #[.ref b', .int n u1] })
    (h : s.heap.get? b = some (tokObj t t2 t3 t4)) (h' : s.heap.get? b' = some (tokObj t u2 u3 u4)) (hq : Q (.bool false) s) : wpAny (model prog w) A (compareOp .NotEq (.ref a) (.ref a')) Q E s := by
  refine SeqAt.RcNeAt.tuples (e := fun _ => true) (items := #[.ref b, .int n t1]) (items2 := #[.ref b', .int n u1]) ⟨_, ha, rfl, _, rfl⟩ ⟨_, ha', rfl, _, rfl⟩ (by omega) (fun j h1 h2 => ?_) prog w E Q (by rw [all_true]; exact hq)
  match j, h1, h2 with
  | 0, _, _ => exact eqv_tok hu h h'
  | 1, _, _ => exact eqv_int _ _ _
  | j + 2, h1, _ => simp at h1; omega
theorem toks_pairs {A : Around} {h₀ : Heap} {L : Addr} {news : List (Addr × Obj)} (hu : A.units < cLine) (N : News h₀ L s.heap news) {vs vs' : List Value} {ts : List Tk} (x : All2 (TokV news) vs ts) (y : All2 (TokV news) vs' ts) :
    ∀ j (h1 : j < vs.length) (h2 : j < vs'.length), SeqAt.EqAt A s vs[j] vs'[j] true := by
  induction x generalizing vs' with
  | nil => intro j h1; simp at h1
  | cons p _ ih =>
    cases y with
    | cons q y =>
      intro j h1 h2
      cases j with
      | zero =>
        obtain ⟨b, t2, t3, t4, rfl, hb⟩ := p
        obtain ⟨b', u2, u3, u4, rfl, hb'⟩ := q
        exact eqv_tok hu (N _ hb).1 (N _ hb').1
      | succ j => exact ih y j (by simpa using h1) (by simpa using h2)
theorem list_is {D : Addr} {vs : Array Value} {n : Nat} (h : s.heap.get? D = some (W.listOf vs n)) : s.heap.IsList D vs := ⟨_, h, rfl, _, rfl⟩
theorem ne_toks {h₀ : Heap} {L D D' : Addr} {news : List (Addr × Obj)} {vs vs' : Array Value} {n n' : Nat} {ts : List Tk} {Q : Value → Shared → Prop} (hu : A.units + 1 < cLine) (N : News h₀ L s.heap news) (hD : (D, W.listOf vs n) ∈ news) (hD' : (D', W.listOf vs' n') ∈ news)
    (x : All2 (TokV news) vs.toList ts) (y : All2 (TokV news) vs'.toList ts) (hq : Q (.bool false) s) : wpAny (model prog w) A (compareOp .NotEq (.ref D) (.ref D')) Q E s := by
  have e : vs.size = vs'.size := by have a := x.length; have b := y.length; simp at a b; omega
  refine SeqAt.RcNeAt.lists (e := fun _ => true) (list_is (N _ hD).1) (list_is (N _ hD').1) e (by omega) (fun j h1 h2 => ?_) prog w E Q (by rw [all_true]; exact hq)
  have := toks_pairs (A := A.in1) hu N x y j (by simpa using h1) (by simpa using h2)
  simpa using this
theorem eq_toks {h₀ : Heap} {L D D' : Addr} {news : List (Addr × Obj)} {vs vs' : Array Value} {n n' : Nat} {ts : List Tk} {Q : Value → Shared → Prop} (hu : A.units + 1 < cLine) (N : News h₀ L s.heap news) (hD : (D, W.listOf vs n) ∈ news) (hD' : (D', W.listOf vs' n') ∈ news)
    (x : All2 (TokV news) vs.toList ts) (y : All2 (TokV news) vs'.toList ts) (hq : Q (.bool true) s) : wpAny (model prog w) A (compareOp .Eq (.ref D) (.ref D')) Q E s := by
  have e : vs.size = vs'.size := by have a := x.length; have b := y.length; simp at a b; omega
  refine SeqAt.RcAt.lists (e := fun _ => true) (list_is (N _ hD).1) (list_is (N _ hD').1) e (by omega) (fun j h1 h2 => ?_) prog w E Q (by rw [all_true]; exact hq)
  have := toks_pairs (A := A.in1) hu N x y j (by simpa using h1) (by simpa using h2)
  simpa using this
end
end

section
section
variable {w : World} {mean : ExcName → Option Value} {mg mb : Str → Option Value} {A : Around} {base h₀ : Heap} {outer : List Env} {s : Shared} {L : Addr} {m : Str → Option Value} {news : List (Addr × Obj)} {Q : Value → Shared → Prop} {E : Value → Shared → Prop}

theorem row_in {P : Addr} {vs : Array Value} {n : Nat} {ns : List Int} (F : Fr h₀ L s.heap m) (N : News h₀ L s.heap news) (hm : (P, W.listOf vs n) ∈ news) (X : (hd.heap_39 w.params).In h₀) (T : Top PV PL mean mg mb h₀) (r : Rm (1 + 1) A) (hi : IntsAre vs.toList ns) (hlen : vs.size ≤ 63)
    (h : ∀ x h' tk' t vs' n' ns', Row x → Fr h₀ L h' m → (∀ news', Rep P (W.listOf vs' n') news news' → News h₀ L h' news') → IntsAre vs'.toList ns' → vs'.size ≤ 63 → Q (.bytes (List.toArray x) t) { s with heap := h', toks := tk' }) :
    wpAny (model PG w) A (call (.ref 132) [.ref P]) Q E s := by
  have z := N _ hm
  have K := hole_ext F.keep z.2.2
  refine wpAny_call (law_row_ok (X.keeps K) (T.keeps K) r z.1 hi hlen fun x h' tk' t vs' n' ns' hx e g hi' hl' => ?_)
  exact h x h' tk' t vs' n' ns' hx (fr_but F z.2.2 z.2.1 e) (fun news' rr => news_rep N hm rfl e g rr) hi' hl'
theorem fr_up {h h' : Heap} (F : Fr h₀ L h m) (U : Up [L] h h') : Fr h₀ L h' m :=
  ⟨ns_up U F.ns, fun b o e => (U b o (F.keep b o e)).1 (fun q => by
    rw [List.mem_singleton] at q; rw [q, frame_fresh F] at e; cases e), F.above⟩
theorem news_up {h h' : Heap} (N : News h₀ L h news) (U : Up [L] h h') : News h₀ L h' news := fun p hp => by
  have a := N p hp
  exact ⟨(U _ _ a.1).1 fun q => a.2.1 (List.mem_singleton.mp q), a.2⟩
theorem heard_ok1 {x : List UInt8} {ts : List Tk} {tx : Tok} (F : Fr h₀ L s.heap m) (N : News h₀ L s.heap news) (W₀ : Wd w mean mg mb A base outer s.heap) (XB : (hd.heap_39 w.params).In base) (TB : Top PV PL mean mg mb base) (r : Rm (6 + 1) A) (hz : x.length ≤ 16777216) (hT : TokensOf x (.ok ts))
    (h : ∀ h' tk' a vs n objs, Fr h₀ L h' m → News h₀ L h' ((a, W.listOf vs n) :: objs ++ news) → Tups objs → All2 (TokV objs) vs.toList ts → (∀ p ∈ ((a, W.listOf vs n) :: objs), ∀ q ∈ news, p.1 ≠ q.1) → Q (.ref a) { s with heap := h', toks := tk' }) :
    wpAny (model PG w) A (call (.ref 139) [.bytes x.toArray tx]) Q E s := by
  refine wpAny_call (law_heard_ok W₀ XB TB r x _ tx hz hT (fun ts' h' tk' a vs n objs e K f tu al => ?_) (fun k h' tk' t e => by cases e))
  cases e
  exact h h' tk' a vs n objs (fr_ext F K) (news_app F (news_ext N K) f) tu al (fun p hp q hq e => by
    have a := (f p hp).1
    rw [e, (N q hq).1] at a; cases a)
theorem heard_er1 {x : List UInt8} {k : Nat} {tx : Tok} (F : Fr h₀ L s.heap m) (N : News h₀ L s.heap news) (W₀ : Wd w mean mg mb A base outer s.heap) (XB : (hd.heap_39 w.params).In base) (TB : Top PV PL mean mg mb base) (r : Rm (6 + 1) A) (hz : x.length ≤ 16777216) (hT : TokensOf x (.error k)) (hfs : fsOf outer = [L])
    (h : ∀ h' tk' t, Fr h₀ L h' m → News h₀ L h' news → Q (.int (k : Int) t) { s with heap := h', toks := tk' }) :
    wpAny (model PG w) A (call (.ref 139) [.bytes x.toArray tx]) Q E s := by
  refine wpAny_call (law_heard_ok W₀ XB TB r x _ tx hz hT (fun ts' h' tk' a vs n objs e => by cases e) (fun k' h' tk' t e U => ?_))
  cases e
  rw [hfs] at U
  exact h h' tk' t (fr_up F U) (news_up N U)
theorem rm_caller : Rm 20 callerA := ⟨by decide +kernel, by decide +kernel, rfl⟩
end
theorem news_pool {h₀ h : Heap} {L D D1 : Addr} {ys : List Value} {o1 oc : Obj} {c : Addr} (N : News h₀ L h [(D, LCg.lst ys), (D1, o1), (c, oc)]) : News h₀ L h [(D, W.listOf ys.toArray ys.length), (c, oc)] := fun p hp => by
  rcases List.mem_cons.mp hp with rfl | hp
  · exact N _ (.head _)
  · exact N _ (.tail _ (.tail _ hp))

theorem news_two {h₀ h : Heap} {L : Addr} {p q r t : Addr × Obj} (N : News h₀ L h [p, q, r, t]) : News h₀ L h [r, t] := fun x hx => N x (.tail _ (.tail _ hx))

theorem news_sub {h₀ h : Heap} {L : Addr} {l l' : List (Addr × Obj)} (N : News h₀ L h l) (hs : ∀ p, p ∈ l' → p ∈ l) : News h₀ L h l' := fun p hp => N p (hs p hp)

theorem ar1 {h₀ h : Heap} {L : Addr} {p q : Addr × Obj} {objs : List (Addr × Obj)} (N : News h₀ L h (p :: objs ++ [q])) : News h₀ L h (p :: q :: objs) :=
  news_sub N (by intro x hx; simp only [List.mem_cons, List.mem_append, List.not_mem_nil, or_false] at hx ⊢; rcases hx with h | h | h <;> simp [h])
theorem ar2 {h₀ h : Heap} {L : Addr} {p q r : Addr × Obj} {objs objs' : List (Addr × Obj)} (N : News h₀ L h (p :: objs ++ (q :: r :: objs'))) : News h₀ L h (p :: q :: r :: (objs ++ objs')) :=
  news_sub N (by intro x hx; simp only [List.mem_cons, List.mem_append] at hx ⊢; rcases hx with h | h | h | h | h <;> simp [h])
theorem ar3 {h₀ h : Heap} {L : Addr} {p q r t : Addr × Obj} {objs objs' : List (Addr × Obj)} (N : News h₀ L h (p :: objs ++ (q :: r :: t :: objs'))) : News h₀ L h (p :: q :: r :: t :: (objs ++ objs')) :=
  news_sub N (by intro x hx; simp only [List.mem_cons, List.mem_append] at hx ⊢; rcases hx with h | h | h | h | h | h <;> simp [h])
theorem stop_cell {M : Model} {A : Around} {E : Value → Shared → Prop} {s : Shared} {env : Env} {x : Str} {v : Value} {Q : Unit → Shared → Prop} (hx : env.kindOf x = some .cell) (h : Stop (wpAny M A (storeName env x v) Q E s)) : wpAny M A (storeName env x v) Q E s := h
end

section
/-! the plain law: rows and their tokens -/
def flat (ps : List (List UInt8 × List UInt8)) : List UInt8 := (ps.map fun p => p.1 ++ p.2).flatten
def pt (p : List UInt8) : Kind × List UInt8 :=
  if p = [97, 98] then (.atom, [97, 98]) else if p = [233] then (.atom, [233]) else if p = [44] then (.sign, [44]) else if p = [60] then (.sign, [60])
  else if p = [34, 99, 32, 92, 34, 32, 100, 34] then (.quoted, [99, 32, 34, 32, 100]) else if p = [91, 49, 46, 50, 93] then (.literal, [49, 46, 50])
  else if p = [40, 120, 32, 40, 121, 41, 32, 92, 41, 32, 122, 41] then (.comment, [120, 32, 40, 121, 41, 32, 41, 32, 122]) else if p = [34, 97, 13, 10, 32, 98, 34] then (.quoted, [97, 32, 98]) else (.sign, [64])

theorem nonatom {c : UInt8} (h : c ∈ ([9, 10, 32] : List UInt8)) : isAtom c = false := by revert h; revert c; decide

theorem tok_piece {p : List UInt8} (hp : p ∈ pieces) {c : UInt8} {y : List UInt8} (hc : c ∈ ([9, 10, 32] : List UInt8)) : Token (p ++ c :: y) (.ok ((pt p).1, (pt p).2, p.length)) := by
  have na := nonatom hc
  simp only [pieces, List.mem_cons, List.not_mem_nil, or_false] at hp
  rcases hp with rfl | rfl | rfl | rfl | rfl | rfl | rfl | rfl | rfl
  · have h := Token.atom (c := 97) (r := 98 :: c :: y) (by decide)
    have e : (97 :: 98 :: c :: y).takeWhile isAtom = [97, 98] := by
      rw [List.takeWhile_cons, if_pos (by decide), List.takeWhile_cons, if_pos (by decide), List.takeWhile_cons, na]; rfl
    unfold atomLen at h
    rw [e] at h
    exact h
  · have h := Token.atom (c := 233) (r := c :: y) (by decide)
    have e : (233 :: c :: y).takeWhile isAtom = [233] := by
      rw [List.takeWhile_cons, if_pos (by decide), List.takeWhile_cons, na]; rfl
    unfold atomLen at h
    rw [e] at h
    exact h
  · exact Token.sign (by decide)
  · exact Token.sign (by decide)
  · refine Token.quoted ?_
    repeat (first | exact Closed.done | refine Closed.step (by simp) (by intro c h; rfl) rfl ?_)
  · refine Token.literal ?_
    repeat (first | exact Closed.done | refine Closed.step (by simp) (by intro c h; cases h; rfl) rfl ?_)
  · refine Token.comment ?_
    repeat (first | exact Comment.done | refine Comment.step (Nat.succ_pos _) (fun _ => Nat.le_of_ble_eq_true rfl) rfl ?_)
  · refine Token.quoted ?_
    repeat (first | exact Closed.done | refine Closed.step (by simp) (by intro c h; rfl) rfl ?_)
  · exact Token.sign (by decide)

theorem white_app {w : List UInt8} (hw : w ∈ whites ∨ w ∈ leads) {y : List UInt8} {k : Nat} (h : White y k) : White (w ++ y) (w.length + k) := by
  have b : ∀ {y k}, White y k → White (32 :: y) (1 + k) := fun h => by rw [Nat.add_comm]; exact White.blank (.inr rfl) h
  have t : ∀ {y k}, White y k → White (9 :: y) (1 + k) := fun h => by rw [Nat.add_comm]; exact White.blank (.inl rfl) h
  have n : ∀ {y k}, White y k → White (10 :: y) (1 + k) := fun h => White.line (by decide) (by decide) rfl h
  have r : ∀ {y k}, White y k → White (13 :: 10 :: y) (2 + k) := fun h => White.line (by decide) (by decide) rfl h
  simp only [whites, leads, List.mem_cons, List.not_mem_nil, or_false] at hw
  rcases hw with (rfl | rfl | rfl | rfl) | (rfl | rfl | rfl)
  · exact b h
  · exact n h
  · have := t (r (b h)); rw [← Nat.add_assoc, ← Nat.add_assoc] at this; exact this
  · exact b h
  · show White y (0 + k); rw [Nat.zero_add]; exact h
  · exact b h
  · have := r (b h); rw [← Nat.add_assoc] at this; exact this
theorem white_head {w : List UInt8} (hw : w ∈ whites) : ∃ c r, w = c :: r ∧ c ∈ ([9, 10, 32] : List UInt8) := by
  simp only [whites, List.mem_cons, List.not_mem_nil, or_false] at hw
  rcases hw with rfl | rfl | rfl | rfl
  · exact ⟨_, _, rfl, by decide⟩
  · exact ⟨_, _, rfl, by decide⟩
  · exact ⟨_, _, rfl, by decide⟩
  · exact ⟨_, _, rfl, by decide⟩
theorem piece_head {p : List UInt8} (hp : p ∈ pieces) (z : List UInt8) : White (p ++ z) 0 ∧ p ++ z ≠ [] := by
  simp only [pieces, List.mem_cons, List.not_mem_nil, or_false] at hp
  rcases hp with rfl | rfl | rfl | rfl | rfl | rfl | rfl | rfl | rfl <;> exact ⟨White.stop (by decide) (by decide) rfl, by simp⟩

def Ok (ps : List (List UInt8 × List UInt8)) : Prop := ∀ p ∈ ps, p.1 ∈ pieces ∧ p.2 ∈ whites
def toksOf : Nat → List (List UInt8 × List UInt8) → List Tk
  | _, [] => []
  | n, (p, w) :: r => ⟨(pt p).1, (pt p).2, n⟩ :: toksOf (n + p.length + w.length) r
def k0 (ps : List (List UInt8 × List UInt8)) (k : Nat) : Nat := match ps with | [] => k | _ => 0

theorem white_ps {ps : List (List UInt8 × List UInt8)} (h : Ok ps) {z : List UInt8} {k : Nat} (hz : White z k) : White (flat ps ++ z) (k0 ps k) := by
  cases ps with
  | nil => exact hz
  | cons p r =>
    obtain ⟨a, b⟩ := h p (.head _)
    have := (piece_head a (p.2 ++ (flat r ++ z))).1
    simpa [flat, k0] using this
theorem toks_ps {z : List UInt8} {k : Nat} {res : Except Nat (List Tk)} (hz : White z k) : ∀ (ps : List (List UInt8 × List UInt8)) (n : Nat), Ok ps → Toks (z.drop k) (n + (flat ps).length + k) res → Toks ((flat ps ++ z).drop (k0 ps k)) (n + k0 ps k) (pre (toksOf n ps) res)
  | [], n, _, h => by
    rw [show toksOf n [] = [] from rfl, pre_nil]
    simpa [flat, k0] using h
  | (p, w) :: r, n, hok, h => by
    obtain ⟨hp, hw⟩ : p ∈ pieces ∧ w ∈ whites := hok (p, w) (.head _)
    have hr : Ok r := fun q hq => hok q (.tail _ hq)
    obtain ⟨c, y, e, hc⟩ := white_head hw
    have hl : flat ((p, w) :: r) ++ z = p ++ (w ++ (flat r ++ z)) := by simp [flat]
    have ih := toks_ps hz r (n + p.length + w.length) hr (by
      have e2 : n + p.length + w.length + (flat r).length + k = n + (flat ((p, w) :: r)).length + k := by simp [flat]; omega
      rw [e2]; exact h)
    have hW := white_app (.inl hw) (white_ps hr hz)
    have ht : Token (p ++ (w ++ (flat r ++ z))) (.ok ((pt p).1, (pt p).2, p.length)) := by
      have := tok_piece hp (c := c) (y := y ++ (flat r ++ z)) hc
      rw [e]; simpa using this
    show Toks ((flat ((p, w) :: r) ++ z).drop 0) (n + 0) _
    rw [hl, List.drop_zero, Nat.add_zero]
    have hd1 : (p ++ (w ++ (flat r ++ z))).drop p.length = w ++ (flat r ++ z) := List.drop_left ..
    have hd2 : (p ++ (w ++ (flat r ++ z))).drop (p.length + (w.length + k0 r k)) = (flat r ++ z).drop (k0 r k) := by
      rw [← List.drop_drop, hd1, ← List.drop_drop, List.drop_left]
    have ih' : Toks ((p ++ (w ++ (flat r ++ z))).drop (p.length + (w.length + k0 r k))) (n + p.length + (w.length + k0 r k)) (pre (toksOf (n + p.length + w.length) r) res) := by
      rw [hd2, ← Nat.add_assoc]; exact ih
    have hne := (piece_head hp (w ++ (flat r ++ z))).2
    cases res with
    | error e => exact Toks.stepE hne ht (by rw [hd1]; exact hW) ih'
    | ok ts => exact Toks.step hne ht (by rw [hd1]; exact hW) ih'
end

section
def shift (d : Nat) (ts : List Tk) : List Tk := ts.map fun t => { t with at_ := t.at_ + d }
theorem toksOf_shift (d : Nat) : ∀ (ps : List (List UInt8 × List UInt8)) (n : Nat), toksOf (n + d) ps = shift d (toksOf n ps)
  | [], _ => rfl
  | (p, w) :: r, n => by
    have := toksOf_shift d r (n + p.length + w.length)
    simp only [toksOf, shift, List.map_cons] at this ⊢
    rw [← this]
    congr 2
    omega

theorem row_toks {lead : List UInt8} {ps : List (List UInt8 × List UInt8)} (hl : lead ∈ leads) (ok : Ok ps) {z : List UInt8} {k n : Nat} {res : Except Nat (List Tk)} (hz : White z k) (T : Toks (z.drop k) (n + (lead ++ flat ps).length + k) res) :
    White ((lead ++ flat ps) ++ z) (lead.length + k0 ps k) ∧ Toks (((lead ++ flat ps) ++ z).drop (lead.length + k0 ps k)) (n + (lead.length + k0 ps k)) (pre (toksOf (n + lead.length) ps) res) := by
  rw [List.append_assoc]
  refine ⟨white_app (.inr hl) (white_ps ok hz), ?_⟩
  rw [← List.drop_drop, List.drop_left, ← Nat.add_assoc]
  refine toks_ps hz ps (n + lead.length) ok ?_
  have e : n + lead.length + (flat ps).length + k = n + (lead ++ flat ps).length + k := by simp; omega
  rw [e]; exact T

structure RowIs (x lead : List UInt8) (ps : List (List UInt8 × List UInt8)) : Prop where
  lead_ : lead ∈ leads
  ok : Ok ps
  eq : x = lead ++ flat ps
  len : x.length ≤ 99
  few : ps.length ≤ 6
theorem Row.is {x : List UInt8} (h : Row x) : ∃ lead ps, RowIs x lead ps := by
  obtain ⟨i, hi, r⟩ := h
  have hlen := r.len
  obtain ⟨lead, ps, a, b, c, e⟩ := r.ex
  exact ⟨lead, ps, a, c, e, by omega, by omega⟩
theorem RowIs.at {x lead : List UInt8} {ps : List (List UInt8 × List UInt8)} (h : RowIs x lead ps) {z : List UInt8} {k n : Nat} {res : Except Nat (List Tk)} (hz : White z k) (T : Toks (z.drop k) (n + x.length + k) res) :
    ∃ j, White (x ++ z) j ∧ Toks ((x ++ z).drop j) (n + j) (pre (toksOf (n + lead.length) ps) res) := by
  obtain ⟨a, b, rfl, _, _⟩ := h
  exact ⟨_, row_toks a b hz T⟩
theorem RowIs.alone {x lead : List UInt8} {ps : List (List UInt8 × List UInt8)} (h : RowIs x lead ps) : TokensOf x (.ok (toksOf lead.length ps)) := by
  obtain ⟨j, a, b⟩ := h.at (z := []) (n := 0) (res := .ok []) .nil .nil
  rw [List.append_nil, Nat.zero_add] at *
  simp only [pre, List.append_nil, Nat.zero_add] at b
  exact .intro a b
/-- two rows with a blank between, and what comes behind -/
theorem two_rows {x y lead lead' : List UInt8} {ps ps' : List (List UInt8 × List UInt8)} (h : RowIs x lead ps) (h' : RowIs y lead' ps') {z : List UInt8} {k : Nat} {res : Except Nat (List Tk)} (hz : White z k) (T : Toks (z.drop k) (x.length + 1 + y.length + k) res) :
    TokensOf (((x ++ [32]) ++ y) ++ z) (pre (toksOf lead.length ps) (pre (toksOf (x.length + 1 + lead'.length) ps') res)) := by
  obtain ⟨j, a, b⟩ := h'.at (n := x.length + 1) hz T
  have a' : White (32 :: (y ++ z)) (j + 1) := .blank (.inr rfl) a
  obtain ⟨i, c, d⟩ := h.at (n := 0) a' (by
    show Toks ((y ++ z).drop j) _ _
    have e : 0 + x.length + (j + 1) = x.length + 1 + j := by omega
    rw [e]; exact b)
  rw [Nat.zero_add, Nat.zero_add] at d
  have e : ((x ++ [32]) ++ y) ++ z = x ++ 32 :: (y ++ z) := by simp
  rw [e]
  exact .intro c d
theorem whole_ok {x y lead lead' : List UInt8} {ps ps' : List (List UInt8 × List UInt8)} (h : RowIs x lead ps) (h' : RowIs y lead' ps') :
    TokensOf (((x ++ [32]) ++ y) ++ []) (.ok (toksOf lead.length ps ++ shift (x.length + 1) (toksOf lead'.length ps'))) := by
  have := two_rows h h' (z := []) (res := .ok []) .nil .nil
  rw [← toksOf_shift]
  simp only [pre, List.append_nil] at this ⊢
  rw [Nat.add_comm lead'.length]; exact this

/-- what is odd -/
def odds : List (List UInt8) := [[], [], [93], [0], [34, 113], [40], [13], [91, 91]]
def oddE (o : List UInt8) : Nat := if o = [91, 91] then 1 else 0
structure Bad (o : List UInt8) (e : Nat) : Prop where
  ne : o ≠ []
  white : White o 0
  tok : Token o (.error e)
  short : o.length ≤ 2
  far : e = oddE o
theorem odd_bad {o : List UInt8} (h : o ∈ odds) (n : o ≠ []) : ∃ e, Bad o e := by
  simp only [odds, List.mem_cons, List.not_mem_nil, or_false] at h
  rcases h with rfl | rfl | rfl | rfl | rfl | rfl | rfl | rfl
  · exact absurd rfl n
  · exact absurd rfl n
  · exact ⟨0, n, .stop (by decide) (by decide) rfl, .bad (by decide) (by decide) (by decide) (by decide) (by decide), by decide, by decide⟩
  · exact ⟨0, n, .stop (by decide) (by decide) rfl, .bad (by decide) (by decide) (by decide) (by decide) (by decide), by decide, by decide⟩
  · exact ⟨0, n, .stop (by decide) (by decide) rfl, .quotedE (.step (by simp) (by intro c h; rfl) rfl (.begun (by simp) (by intro c h; rfl) rfl)), by decide, by decide⟩
  · exact ⟨0, n, .stop (by decide) (by decide) rfl, .commentE (.begun (by decide) (by intro h; cases h) rfl), by decide, by decide⟩
  · exact ⟨0, n, .stop (by decide) (by decide) rfl, .bad (by decide) (by decide) (by decide) (by decide) (by decide), by decide, by decide⟩
  · exact ⟨1, n, .stop (by decide) (by decide) rfl, .literalE (.barred (by decide) rfl), by decide, by decide⟩
theorem Bad.alone {o : List UInt8} {e : Nat} (h : Bad o e) : TokensOf o (.error e) := by
  have := Toks.bad (n := 0) h.ne h.tok
  rw [Nat.zero_add] at this
  exact .intro h.white this
theorem Bad.second {o y lead : List UInt8} {ps : List (List UInt8 × List UInt8)} {e : Nat} (h : Bad o e) (r : RowIs y lead ps) : TokensOf (y ++ o) (.error (y.length + e)) := by
  obtain ⟨j, a, b⟩ := r.at (n := 0) (z := o) (k := 0) (res := .error (0 + y.length + 0 + e)) h.white (.bad h.ne h.tok)
  rw [Nat.zero_add] at b
  have e2 : 0 + y.length + 0 + e = y.length + e := by omega
  rw [e2] at b
  exact .intro a b
theorem Bad.whole {o x y lead lead' : List UInt8} {ps ps' : List (List UInt8 × List UInt8)} {e : Nat} (h : Bad o e) (r : RowIs x lead ps) (r' : RowIs y lead' ps') : TokensOf (((x ++ [32]) ++ y) ++ o) (.error (x.length + 1 + y.length + e)) :=
  two_rows r r' (z := o) (k := 0) (res := .error (x.length + 1 + y.length + 0 + e)) h.white (.bad h.ne h.tok)

/-- a comment that the row does not close -/
theorem open_app {s : List UInt8} (hs : s ∈ pieces ∨ s ∈ whites ∨ s ∈ leads) {y : List UInt8} (h : ∀ n acc, Comment y n acc 1 (.error 0)) : ∀ n acc, Comment (s ++ y) n acc 1 (.error 0) := by
  intro n acc
  simp only [pieces, whites, leads, List.mem_cons, List.not_mem_nil, or_false] at hs
  rcases hs with (rfl | rfl | rfl | rfl | rfl | rfl | rfl | rfl | rfl) | (rfl | rfl | rfl | rfl) | (rfl | rfl | rfl) <;>
    repeat (first | exact h _ _ | refine Comment.step (Nat.succ_pos _) (fun _ => Nat.le_of_ble_eq_true rfl) rfl ?_)
theorem open_ps : ∀ (ps : List (List UInt8 × List UInt8)), Ok ps → ∀ n acc, Comment (flat ps) n acc 1 (.error 0)
  | [], _ => fun n acc => .begun (by decide) (by intro h; cases h) rfl
  | (p, w) :: r, hok => by
    obtain ⟨hp, hw⟩ : p ∈ pieces ∧ w ∈ whites := hok (p, w) (.head _)
    have := open_app (.inl hp) (open_app (.inr (.inl hw)) (open_ps r fun q hq => hok q (.tail _ hq)))
    simpa [flat] using this
theorem Bad.ahead {o x lead : List UInt8} {ps : List (List UInt8 × List UInt8)} {e : Nat} (h : Bad o e) (ho : o ∈ odds) (nq : ¬ o = [34, 113]) (r : RowIs x lead ps) : TokensOf ((o ++ [32]) ++ x) (.error e) := by
  have n := h.ne
  have hf := h.far
  clear h
  have fin : ∀ {l : List UInt8} {e' : Nat}, White l 0 → Token l (.error e') → l ≠ [] → TokensOf l (.error e') := fun a b c => by
    have := Toks.bad (n := 0) c b
    rw [Nat.zero_add] at this
    exact .intro a this
  simp only [odds, List.mem_cons, List.not_mem_nil, or_false] at ho
  rcases ho with rfl | rfl | rfl | rfl | rfl | rfl | rfl | rfl
  · exact absurd rfl n
  · exact absurd rfl n
  · rw [hf]; exact fin (.stop (by decide) (by decide) rfl) (.bad (by decide) (by decide) (by decide) (by decide) (by decide)) (by simp)
  · rw [hf]; exact fin (.stop (by decide) (by decide) rfl) (.bad (by decide) (by decide) (by decide) (by decide) (by decide)) (by simp)
  · exact absurd rfl nq
  · rw [hf]
    refine fin (.stop (by decide) (by decide) rfl) (.commentE ?_) (by simp)
    have := open_app (s := [32]) (.inr (.inl (by decide))) (open_app (.inr (.inr r.lead_)) (open_ps ps r.ok)) 1 []
    rw [r.eq]; exact this
  · rw [hf]; exact fin (.stop (by decide) (by decide) rfl) (.bad (by decide) (by decide) (by decide) (by decide) (by decide)) (by simp)
  · rw [hf]; exact fin (.stop (by decide) (by decide) rfl) (.literalE (.barred (by decide) rfl)) (by simp)

/-- what the law's loop sees -/
inductive Chain (o : List UInt8) : Nat → List Tk → Prop
  | nil {n} : n = o.length → Chain o n []
  | cons {n kd w j k ts} : n < o.length → Token (o.drop n) (.ok (kd, w, j)) → Token ((o.take (n + j) ++ [32, 41]).drop n) (.ok (kd, w, j)) → White (o.drop (n + j)) k → n + j ≤ o.length → Chain o (n + j + k) ts → Chain o n (⟨kd, w, n⟩ :: ts)
theorem chain_ps {o z : List UInt8} {k : Nat} {ts : List Tk} (hz : White z k) : ∀ (ps : List (List UInt8 × List UInt8)) (n : Nat), Ok ps → n ≤ o.length → o.drop n = flat ps ++ z → Chain o (n + (flat ps).length + k) ts → Chain o (n + k0 ps k) (toksOf n ps ++ ts)
  | [], n, _, _, _, h => by simpa [flat, k0, toksOf] using h
  | (p, w) :: r, n, hok, hn, hd, h => by
    obtain ⟨hp, hw⟩ : p ∈ pieces ∧ w ∈ whites := hok (p, w) (.head _)
    have hr : Ok r := fun q hq => hok q (.tail _ hq)
    obtain ⟨c, y, e, hc⟩ := white_head hw
    have hl : flat ((p, w) :: r) ++ z = p ++ (w ++ (flat r ++ z)) := by simp [flat]
    rw [hl] at hd
    have hlen : o.length = n + (p.length + (w.length + ((flat r).length + z.length))) := by
      have := congrArg List.length hd
      simp at this; omega
    have hpp : 0 < p.length := by
      have := (piece_head hp []).2
      cases p with
      | nil => exact absurd rfl this
      | cons _ _ => simp
    have hd1 : o.drop (n + p.length) = w ++ (flat r ++ z) := by rw [← List.drop_drop, hd, List.drop_left]
    have hd2 : o.drop (n + p.length + w.length) = flat r ++ z := by rw [← List.drop_drop, hd1, List.drop_left]
    have ih := chain_ps hz r (n + p.length + w.length) hr (by omega) hd2 (by
      have e2 : n + p.length + w.length + (flat r).length + k = n + (flat ((p, w) :: r)).length + k := by simp [flat]; omega
      rw [e2]; exact h)
    have hW := white_app (.inl hw) (white_ps hr hz)
    have ht : Token (p ++ (w ++ (flat r ++ z))) (.ok ((pt p).1, (pt p).2, p.length)) := by
      have := tok_piece hp (c := c) (y := y ++ (flat r ++ z)) hc
      rw [e]; simpa using this
    have ht2 : Token (p ++ 32 :: [41]) (.ok ((pt p).1, (pt p).2, p.length)) := tok_piece hp (by decide)
    have hcut : (o.take (n + p.length) ++ [32, 41]).drop n = p ++ 32 :: [41] := by
      rw [List.drop_append_of_le_length (by rw [List.length_take]; omega), List.drop_take, hd, show n + p.length - n = p.length from by omega, List.take_left]
    show Chain o (n + 0) (⟨(pt p).1, (pt p).2, n⟩ :: (toksOf (n + p.length + w.length) r ++ ts))
    rw [Nat.add_zero]
    refine .cons (j := p.length) (k := w.length + k0 r k) (by omega) (by rw [hd]; exact ht) (by rw [hcut]; exact ht2) (by rw [hd1]; exact hW) (by omega) ?_
    rw [← Nat.add_assoc]; exact ih
theorem chain_rows {x y lead lead' : List UInt8} {ps ps' : List (List UInt8 × List UInt8)} (h : RowIs x lead ps) (h' : RowIs y lead' ps') :
    ∃ j, White ((x ++ [32]) ++ y) j ∧ Chain ((x ++ [32]) ++ y) j (toksOf lead.length ps ++ shift (x.length + 1) (toksOf lead'.length ps')) := by
  obtain ⟨hl, ok, rfl, _, _⟩ := h
  obtain ⟨hl', ok', rfl, _, _⟩ := h'
  have e0 : ((lead ++ flat ps) ++ [32]) ++ (lead' ++ flat ps') = lead ++ (flat ps ++ ([32] ++ (lead' ++ (flat ps' ++ [])))) := by simp
  have w2 : White (flat ps' ++ []) (k0 ps' 0) := white_ps ok' .nil
  have w1 : White ([32] ++ (lead' ++ (flat ps' ++ []))) (1 + (lead'.length + k0 ps' 0)) := white_app (w := [32]) (.inl (by decide)) (white_app (.inr hl') w2)
  have w0 := white_app (.inr hl) (white_ps ok w1)
  rw [← toksOf_shift]
  generalize ho : ((lead ++ flat ps) ++ [32]) ++ (lead' ++ flat ps') = o at *
  have hlen : o.length = lead.length + ((flat ps).length + (1 + (lead'.length + (flat ps').length))) := by rw [e0]; simp; omega
  refine ⟨_, by rw [e0]; exact w0, ?_⟩
  have n2 : lead'.length + ((lead ++ flat ps).length + 1) = lead.length + (flat ps).length + 1 + lead'.length := by simp; omega
  rw [n2]
  refine chain_ps w1 ps lead.length ok (by omega) (by rw [e0, List.drop_left]) ?_
  have c2 := chain_ps (o := o) (ts := []) .nil ps' (lead.length + (flat ps).length + 1 + lead'.length) ok' (by omega) (by
    have : lead ++ (flat ps ++ ([32] ++ (lead' ++ (flat ps' ++ [])))) = (lead ++ flat ps ++ [32] ++ lead') ++ (flat ps' ++ []) := by simp
    rw [e0, this, List.drop_left' (by simp; omega)]) (.nil (by omega))
  rw [List.append_nil] at c2
  have e3 : lead.length + (flat ps).length + (1 + (lead'.length + k0 ps' 0)) = lead.length + (flat ps).length + 1 + lead'.length + k0 ps' 0 := by omega
  rw [e3]; exact c2
/-- the law's last words -/
theorem last_words : TokensOf [97, 13, 10, 32, 98] (.ok [⟨.atom, [97], 0⟩, ⟨.atom, [98], 4⟩]) := by
  have a : Token [97, 13, 10, 32, 98] (.ok (.atom, [97], 1)) := .atom (by decide)
  have b : Token [98] (.ok (.atom, [98], 1)) := .atom (by decide)
  refine .intro (k := 0) (.stop (by decide) (by decide) rfl) ?_
  refine .step (j := 1) (k := 3) (by simp) a ?_ (.step (j := 1) (k := 0) (by simp) b .nil .nil)
  exact .line (j := 2) (k := 1) (by decide) (by decide) rfl (.blank (.inr rfl) (.stop (by decide) (by decide) rfl))
theorem toksOf_length : ∀ (ps : List (List UInt8 × List UInt8)) (n : Nat), (toksOf n ps).length = ps.length
  | [], _ => rfl
  | (p, w) :: r, n => by simp [toksOf, toksOf_length r]
end

section
/-! a list made of a list of tokens, one name for each part -/
def TokObjs (objs : List (Addr × Obj)) : Prop := ∀ p ∈ objs, ∃ t a b c, p.2 = tokObj t a b c
theorem TokObjs.tups {objs : List (Addr × Obj)} (h : TokObjs objs) : Tups objs := fun p hp => by
  obtain ⟨t, a, b, c, e⟩ := h p hp
  rw [e]; rfl
theorem All2.get {α β : Type} {P : α → β → Prop} {as : List α} {bs : List β} (x : All2 P as bs) (i : Nat) (hi : i < as.length) : ∃ a b, as[i]? = some a ∧ bs[i]? = some b ∧ P a b := by
  induction x generalizing i with
  | nil => simp at hi
  | cons p _ ih =>
    cases i with
    | zero => exact ⟨_, _, rfl, rfl, p⟩
    | succ i => simpa using ih i (by simpa using hi)
def EltPost (s₁ : Shared) (h₀ : Heap) (L : Addr) (m : Str → Option Value) (t : Tk) (led : List (Addr × Obj)) (v : Value) (s' : Shared) : Prop :=
  ∃ b u2 u3 u4 h' tk', v = .ref b ∧ s' = { s₁ with heap := h', toks := tk' } ∧ Fr h₀ L h' m ∧ News h₀ L h' ((b, tokObj t u2 u3 u4) :: led)

section
variable {prog : Program} {w : World} {A : Around} {E : Value → Shared → Prop} {s : Shared} {h₀ : Heap} {L : Addr} {env : Env}
theorem ne_by_get {h : Heap} {a b : Addr} {o o' : Obj} (x : h.get? a = some o) (y : h.get? b = some o') (n : o ≠ o') : a ≠ b := fun q => by
  rw [q, y] at x; injection x with x; exact n x.symm

set_option maxHeartbeats 2000000 in
theorem comp3_loop {s₁ : Shared} {m : Str → Option Value} {news : List (Addr × Obj)} {elt iter : PySem.Expr} {x y z : Str} {px py pz tp : Pos} {k1 : Nat} {scope : Scope} {cl : List (Str × Addr)} {pos : Pos} {R : Result → Shared → Prop} {ts : List Tk} (sh : Tk → Tk) {ax : Addr} {its : Array Value} {n : Nat} {I D C : Addr} {h₁ : Heap} {tk₁ : Nat} {m0 : Str → Option Value}
    (hkind : scope.kind = .function) (hx : scope.names.lookup x = some .local) (hy : scope.names.lookup y = some .local) (hz : scope.names.lookup z = some .local) (xy : x ≠ y) (xz : x ≠ z) (yz : y ≠ z) (hh : A.handled = none)
    (hID : I < D) (hDC : D < C) (nlt : ∀ p ∈ news, p.1 < I) (hL : L < I) (fI : h₀.get? I = none) (fD : h₀.get? D = none) (fC : h₀.get? C = none) (hm : (ax, W.listOf its n) ∈ news) (hsz : its.size ≤ 16777216) (al : All2 (TokV news) its.toList ts)
    (F : Fr h₀ L h₁ m) (N : News h₀ L h₁ news) (hit : h₁.IsListIter I ax 0) (hD : h₁.get? D = some (LCg.lst [])) (hns : h₁.Ns C m0)
    (step : ∀ (t : Tk) I oI C oC D ys m₂ h tk t2 t3 t4 objs (E' : Value → Shared → Prop), LCg.NsObj oC m₂ → m₂ x = some (.str (kindStr t.kind) t2) → m₂ y = some (.bytes t.worth.toArray t3) → m₂ z = some (.int (t.at_ : Int) t4) → Fr h₀ L h m →
        News h₀ L h ((I, oI) :: (C, oC) :: (D, LCg.lst ys) :: (news ++ objs)) → wpAny (model prog w) A (eval elt (compEnvC scope cl C env)) (EltPost s₁ h₀ L m (sh t) ((I, oI) :: (C, oC) :: (D, LCg.lst ys) :: (news ++ objs))) E' { s₁ with heap := h, toks := tk })
    (hR : ∀ ys objs h' tk' m', Fr h₀ L h' m → News h₀ L h' ((D, LCg.lst ys) :: (news ++ objs)) → TokObjs objs → All2 (TokV objs) ys (ts.map sh) → h'.Ns C m' → (∀ p ∈ (D, LCg.lst ys) :: (news ++ objs), p.1 ≠ C) → R (.ok .next) { s₁ with heap := h', toks := tk' }) :
    codeAny (model prog w) A (.compLoop (.ListComp elt [⟨.Tuple [.Name x px, .Name y py, .Name z pz] k1 tp, iter, [], 0⟩] scope pos) 0 (.ref I) (.ref D) (compEnvC scope cl C env)) R { s₁ with heap := h₁, toks := tk₁ } := by
  have hIL : I ≠ L := Nat.ne_of_gt hL
  have hDL : D ≠ L := Nat.ne_of_gt (Nat.lt_trans hL hID)
  have hCL : C ≠ L := Nat.ne_of_gt (Nat.lt_trans hL (Nat.lt_trans hID hDC))
  have hIC : I ≠ C := Nat.ne_of_lt (Nat.lt_trans hID hDC)
  have hID' : I ≠ D := Nat.ne_of_lt hID
  have hDC' : D ≠ C := Nat.ne_of_lt hDC
  have nI : ∀ p ∈ news, p.1 ≠ I := fun p hp => Nat.ne_of_lt (nlt p hp)
  have nD : ∀ p ∈ news, p.1 ≠ D := fun p hp => Nat.ne_of_lt (Nat.lt_trans (nlt p hp) hID)
  have nC : ∀ p ∈ news, p.1 ≠ C := fun p hp => Nat.ne_of_lt (Nat.lt_trans (nlt p hp) (Nat.lt_trans hID hDC))
  have hlen : its.size = ts.length := by simpa using al.length
  have hp : ((compEnvC scope cl C env).scope.kind == .class || ((compEnvC scope cl C env).scope.kind == .module && (compEnvC scope cl C env).locals != (compEnvC scope cl C env).globals)) = false := by simp [compEnvC, relabel, hkind]
  refine LCp.codeAny_compLoop_pair
    (fun k s' => ∃ h' tk i ys objs m', s' = { s₁ with heap := h', toks := tk } ∧ i ≤ its.size ∧ k = its.size + 1 - i ∧ h'.IsListIter I ax i ∧ Fr h₀ L h' m ∧ h'.Ns C m' ∧ News h₀ L h' ((D, LCg.lst ys) :: (news ++ objs)) ∧ TokObjs objs ∧ All2 (TokV objs) ys ((ts.take i).map sh) ∧ ys.length = i) ?_ (its.size + 1)
    ⟨h₁, _, 0, [], [], m0, rfl, Nat.zero_le _, rfl, hit, F, hns, fun p hp => ?_, (fun _ h => nomatch h), .nil, rfl⟩
  · rintro k s' ⟨h', tk, i, ys, objs, m', rfl, hi, rfl, hit', F', hn', N', to', al', hyl⟩
    have hl' : h'.IsList ax its := ⟨_, (N' _ (.tail _ (List.mem_append_left _ hm))).1, rfl, _, rfl⟩
    obtain ⟨oi, hoi, hoic, hoid⟩ := id hit'
    have oI' : ∀ p ∈ objs, p.1 ≠ I := fun p hp => by
      obtain ⟨t, a, b, c, e⟩ := to' p hp
      refine ne_by_get (N' p (.tail _ (List.mem_append_right _ hp))).1 hoi fun q => ?_
      rw [e] at q; rw [← q] at hoic; exact absurd hoic (by simp [tokObj])
    have offI : ∀ p ∈ (D, LCg.lst ys) :: (news ++ objs), p.1 ≠ I := fun p hp => by
      rcases List.mem_cons.mp hp with rfl | hp
      · exact Ne.symm hID'
      · exact (List.mem_append.mp hp).elim (nI p) (oI' p)
    by_cases hlt : i < its.size
    · obtain ⟨v, t, hv, ht, hvt⟩ := al.get i (by simpa using hlt)
      obtain ⟨b, t2, t3, t4, rfl, hb⟩ := hvt
      refine wpAny_pyNext_list_item hit' hl' (by simpa using hv) fun h₂ hit₂ hs₂ => ?_
      have F₂ := F'.change hs₂ hIL fI
      have N₂ : News h₀ L h₂ ((D, LCg.lst ys) :: (news ++ objs)) := fun p hp => ⟨(hs₂.2 _ (offI p hp)).trans (N' p hp).1, (N' p hp).2⟩
      have hn₂ := hn'.sameBut hs₂ (Ne.symm hIC)
      refine wpAny_letOwnedTupleGo_listiter hit₂ ?_
      refine assign_Tuple_tuple (items := #[.str (kindStr t.kind) t2, .bytes t.worth.toArray t3, .int (t.at_ : Int) t4]) hh ⟨_, (N₂ _ (.tail _ (List.mem_append_left _ hb))).1, rfl, _, rfl⟩ rfl rfl fun h₅ he => ?_
      have up₅ : Ext h₂ h₅ := fun b o e => he b o (Nat.ne_of_lt (Heap.lt_size e)) e
      have F₅ := fr_ext F₂ up₅
      have N₅ := news_ext N₂ up₅
      have hn₅ := hn₂.at' fun o e => up₅ _ o e
      obtain ⟨oi₂, hoi₂, hoic₂, hoid₂⟩ := hit₂
      have hoi₅ := up₅ _ _ hoi₂
      refine assignInOrder_cons (wpAny_assign_Name (wpAny_storeName_local (lookup_relabel_local hx) hn₅ (fun h₆ hn₆ hs₆ => ?_) hp))
      refine assignInOrder_cons (wpAny_assign_Name (wpAny_storeName_local (lookup_relabel_local hy) hn₆ (fun h₇ hn₇ hs₇ => ?_) hp))
      refine assignInOrder_cons (wpAny_assign_Name (wpAny_storeName_local (lookup_relabel_local hz) hn₇ (fun h₈ hn₈ hs₈ => ?_) hp))
      refine assignInOrder_nil ?_
      have sC : Heap.SameBut C h₅ h₈ := (Heap.SameBut.trans (show Heap.SameBut C h₅ h₆ from hs₆) hs₇).trans hs₈
      have F₈ := F₅.change sC hCL fC
      obtain ⟨oC, heC, hoC⟩ := LCg.ns_obj (show h₈.Ns C _ from hn₈)
      have heI : h₈.get? I = some oi₂ := (sC.2 I hIC).trans hoi₅
      obtain ⟨oC₅, hC₅, hdC₅⟩ : ∃ o, h₅.get? C = some o ∧ ∃ es ep, o.data = .dict es ep := by
        obtain ⟨o, es, ep, e1, e2, _⟩ := show h₅.Ns C m' from hn₅
        exact ⟨o, e1, es, ep, e2⟩
      have offC : ∀ p ∈ (D, LCg.lst ys) :: (news ++ objs), p.1 ≠ C := fun p hp => by
        rcases List.mem_cons.mp hp with rfl | hp
        · exact hDC'
        · rcases List.mem_append.mp hp with hp | hp
          · exact nC p hp
          · obtain ⟨t', a', b', c', e⟩ := to' p hp
            obtain ⟨es, ep, hdd⟩ := hdC₅
            refine ne_by_get (N₅ p (.tail _ (List.mem_append_right _ hp))).1 hC₅ fun q => ?_
            rw [← q, e] at hdd; simp [tokObj] at hdd
      have N₈ : News h₀ L h₈ ((I, oi₂) :: (C, oC) :: (D, LCg.lst ys) :: (news ++ objs)) := fun p hp => by
        rcases List.mem_cons.mp hp with rfl | hp
        · exact ⟨heI, hIL, fI⟩
        · rcases List.mem_cons.mp hp with rfl | hp
          · exact ⟨heC, hCL, fC⟩
          · exact ⟨(sC.2 _ (offC p hp)).trans (N₅ p hp).1, (N₅ p hp).2⟩
      refine wpAny_mono (step t I oi₂ C oC D ys _ h₈ _ t2 t3 t4 objs _ hoC (by simp [xy, xz]) (by simp [yz]) (by simp) F₈ N₈) (fun v₉ s₄ h₄ => ?_) fun _ _ e => e
      obtain ⟨b', u2, u3, u4, h₉, tk₉, rfl, rfl, F₉, N₉⟩ := h₄
      have zb := (N₉ _ (.head _)).1
      have zI := (N₉ _ (.tail _ (.head _))).1
      have zC := (N₉ _ (.tail _ (.tail _ (.head _)))).1
      have zD := (N₉ _ (.tail _ (.tail _ (.tail _ (.head _))))).1
      refine append_at (hsz := by rw [sizeLine_eq]; simp; omega) zD fun h₁₀ hs₁₀ hD₁₀ => ?_
      have offD : ∀ p ∈ news ++ (b', tokObj (sh t) u2 u3 u4) :: objs, p.1 ≠ D := fun p hp => by
        rcases List.mem_append.mp hp with hp | hp
        · exact nD p hp
        · obtain ⟨t', a', b'', c', e, hg⟩ : ∃ t' a' b'' c', p.2 = tokObj t' a' b'' c' ∧ h₉.get? p.1 = some p.2 := by
            rcases List.mem_cons.mp hp with rfl | hp
            · exact ⟨_, _, _, _, rfl, zb⟩
            · obtain ⟨t', a', b'', c', e⟩ := to' p hp
              exact ⟨t', a', b'', c', e, (N₉ p (.tail _ (.tail _ (.tail _ (.tail _ (List.mem_append_right _ hp)))))).1⟩
          refine ne_by_get hg zD fun q => ?_
          rw [e] at q; simp [tokObj] at q
      refine ⟨its.size + 1 - (i + 1), by omega, h₁₀, tk₉, i + 1, ys ++ [.ref b'], (b', tokObj (sh t) u2 u3 u4) :: objs, _, rfl, hlt, rfl, ⟨oi₂, (hs₁₀.2 I hID').trans zI, hoic₂, hoid₂⟩, F₉.change hs₁₀ hDL fD, (hoC.ns zC).sameBut hs₁₀ (Ne.symm hDC'), fun p hp => ?_, fun p hp => ?_, ?_, by simp [hyl]⟩
      · rcases List.mem_cons.mp hp with rfl | hp
        · exact ⟨hD₁₀.trans (congrArg some (LCg.lst_snoc ys _)), hDL, fD⟩
        · have hp' : p ∈ (b', tokObj (sh t) u2 u3 u4) :: (I, oi₂) :: (C, oC) :: (D, LCg.lst ys) :: (news ++ objs) := by
            rcases List.mem_append.mp hp with hp | hp
            · exact .tail _ (.tail _ (.tail _ (.tail _ (List.mem_append_left _ hp))))
            · rcases List.mem_cons.mp hp with rfl | hp
              · exact .head _
              · exact .tail _ (.tail _ (.tail _ (.tail _ (List.mem_append_right _ hp))))
          exact ⟨(hs₁₀.2 _ (offD p hp)).trans (N₉ p hp').1, (N₉ p hp').2⟩
      · rcases List.mem_cons.mp hp with rfl | hp
        · exact ⟨_, _, _, _, rfl⟩
        · exact to' p hp
      · have e : ts.take (i + 1) = ts.take i ++ [t] := by
          rw [List.take_add_one, ht]; rfl
        rw [e, List.map_append]
        exact All2.snoc (al'.mono fun v t' ⟨b1, c2, c3, c4, e1, e2⟩ => ⟨b1, c2, c3, c4, e1, .tail _ e2⟩) ⟨b', u2, u3, u4, rfl, .head _⟩
    · have hin : i = its.size := by omega
      subst hin
      refine wpAny_pyNext_list_end hh hit' hl' (by simp) fun h₂ he => ?_
      rw [hlen, List.take_length] at al'
      exact hR ys objs h₂ tk m' (fr_but F' fI hIL he) (fun p hp => ⟨he _ _ (offI p hp) (N' p hp).1, (N' p hp).2⟩) to' al' (hn'.extBut he (Ne.symm hIC)) (fun p hp => by
        rcases List.mem_cons.mp hp with rfl | hp
        · exact hDC'
        · rcases List.mem_append.mp hp with hp | hp
          · exact nC p hp
          · obtain ⟨t', a', b', c', e⟩ := to' p hp
            obtain ⟨o, es, ep, e1, e2, _⟩ := hn'
            refine ne_by_get (N' p (.tail _ (List.mem_append_right _ hp))).1 e1 fun q => ?_
            rw [← q, e] at e2; simp [tokObj] at e2)
  · rw [List.append_nil] at hp
    rcases List.mem_cons.mp hp with rfl | hp
    · exact ⟨hD, hDL, fD⟩
    · exact N p hp

/-- a heap with one object more -/
structure Grown (h h' : Heap) (o : Obj) : Prop where
  old : Ext h h'
  new : h'.get? h.objs.size = some o
  size : h'.objs.size = h.objs.size + 1
theorem grown (h : Heap) {o : Obj} (f : o.isFreed = false) : Grown h (h.push o) o := ⟨fun _ _ q => Heap.get?_push_of_some _ q, Heap.get?_push_size _ f, Heap.size_push _ _⟩
theorem fr_fresh {h₀ h : Heap} {L a : Addr} {m : Str → Option Value} (F : Fr h₀ L h m) (q : h.objs.size ≤ a) : h₀.get? a = none := Ext.fresh F.keep (Heap.get?_none_of_le q)

set_option maxHeartbeats 2000000 in
theorem comp3 {m₀ : Str → Option Value} (_F₀ : Fr h₀ L s.heap m₀) {elt iter : PySem.Expr} {x y z : Str} {px py pz tp : Pos} {k1 : Nat} {scope : Scope} {cl : List (Str × Addr)} {pos : Pos} {Q : Value → Shared → Prop} {ts : List Tk} (sh : Tk → Tk)
    (hclos : closureFor scope env = pure cl) (hcell : ∀ v ∈ scope.names, v.2 ≠ .cell) (hkind : scope.kind = .function) (hnames : ∀ v ∈ scope.names, v.2 = .local → scope.names.lookup v.1 = some .local)
    (hx : scope.names.lookup x = some .local) (hy : scope.names.lookup y = some .local) (hz : scope.names.lookup z = some .local) (xy : x ≠ y) (xz : x ≠ z) (yz : y ≠ z) (hh : A.handled = none)
    (h : wpAny (model prog w) A (eval iter env) (fun xv s₁ => ∃ ax its n news m, xv = .ref ax ∧ Fr h₀ L s₁.heap m ∧ News h₀ L s₁.heap news ∧ (ax, W.listOf its n) ∈ news ∧ its.size ≤ 16777216 ∧ All2 (TokV news) its.toList ts ∧
      (∀ (t : Tk) I oI C oC D ys m₂ h tk t2 t3 t4 objs (E' : Value → Shared → Prop), LCg.NsObj oC m₂ → m₂ x = some (.str (kindStr t.kind) t2) → m₂ y = some (.bytes t.worth.toArray t3) → m₂ z = some (.int (t.at_ : Int) t4) → Fr h₀ L h m →
        News h₀ L h ((I, oI) :: (C, oC) :: (D, LCg.lst ys) :: (news ++ objs)) → wpAny (model prog w) A (eval elt (compEnvC scope cl C env)) (EltPost s₁ h₀ L m (sh t) ((I, oI) :: (C, oC) :: (D, LCg.lst ys) :: (news ++ objs))) E' { s₁ with heap := h, toks := tk }) ∧
      (∀ D ys objs h' tk', Fr h₀ L h' m → News h₀ L h' ((D, LCg.lst ys) :: (news ++ objs)) → TokObjs objs → All2 (TokV objs) ys (ts.map sh) → Q (.ref D) { s₁ with heap := h', toks := tk' })) E s)
    (hs : ∀ x, foldedSetIterable iter env x = pure x := by intro _; rfl) :
    wpAny (model prog w) A (eval (.ListComp elt [⟨.Tuple [.Name x px, .Name y py, .Name z pz] k1 tp, iter, [], 0⟩] scope pos) env) Q E s := by
  rw [eval_ListComp]
  refine wpAny_comprehension_free (use := none) rfl hs hclos hkind hnames (wpAny_mono h ?_ fun _ _ z => z)
  rintro _ s₁ ⟨ax, its, n, news, m, rfl, F, N, hm, hsz, al, step, fin⟩
  refine wpAny_pyIter_list (list_is (N _ hm).1) (wpAny_newObj_type (wpAny_newFunctionEnv hcell (by intro v hv; simp at hv) (fun h₁ hns₁ same => ?_) hkind))
  dsimp only at hns₁ same ⊢
  have hLlt : L < s₁.heap.objs.size := F.ns.lt
  have G₁ := grown s₁.heap (o := { cls := .type "list_iterator", data := .fields #[.ref ax, .int 0 0] }) rfl
  generalize s₁.heap.push _ = H₁ at *
  have G₂ := grown H₁ (o := LCg.lst []) rfl
  generalize H₁.push _ = H₂ at *
  have late : Ext H₂ h₁ := fun b o q => same.extBut b o (Nat.ne_of_lt (Heap.lt_size q)) (Heap.get?_push_of_some _ q)
  have up : Ext s₁.heap h₁ := (G₁.old.trans G₂.old).trans late
  have i1 : s₁.heap.objs.size < H₁.objs.size := Nat.lt_of_lt_of_eq (Nat.lt_succ_self _) G₁.size.symm
  have i2 : H₁.objs.size < H₂.objs.size := Nat.lt_of_lt_of_eq (Nat.lt_succ_self _) G₂.size.symm
  have walks : h₁.IsListIter s₁.heap.objs.size ax 0 := ⟨_, late _ _ (G₂.old _ _ G₁.new), rfl, rfl⟩
  have f1 := fr_fresh F (Nat.le_refl _)
  have f2 := fr_fresh F (Nat.le_of_lt i1)
  have f3 := fr_fresh F (Nat.le_of_lt (Nat.lt_trans i1 i2))
  have loop := comp3_loop (prog := prog) (w := w) (A := A) (env := env) (s₁ := s₁) (elt := elt) (iter := iter) (px := px) (py := py) (pz := pz) (tp := tp) (k1 := k1) (pos := pos) (cl := cl) (tk₁ := s₁.toks + ([] : List (Str × Value)).length) (R := compPost (model prog w) A E none Q (.ref H₁.objs.size) H₂.objs.size) sh
    (I := s₁.heap.objs.size) (D := H₁.objs.size) (C := H₂.objs.size) hkind hx hy hz xy xz yz hh i1 i2 (fun p hp => Heap.lt_size (N p hp).1) hLlt f1 f2 f3 hm hsz al (fr_ext F up) (news_ext N up) walks (late _ _ G₂.new) hns₁ step ?_
  · exact codeAny_compStart_list loop (wpAny_pyIter_listiter walks loop)
  · refine fun ys objs h' tk' m' F' N' to' al' hn' off' => ⟨m', hn', fun h'' still => ?_⟩
    exact fin _ ys objs h'' tk' (F'.change still (Nat.ne_of_gt (Nat.lt_trans hLlt (Nat.lt_trans i1 i2))) f3) (fun p hp => ⟨(still.2 _ (off' p hp)).trans (N' p hp).1, (N' p hp).2⟩) to' al'
end
theorem TokV.mono {objs objs' : List (Addr × Obj)} (h : ∀ p, p ∈ objs → p ∈ objs') {v : Value} {t : Tk} (x : TokV objs v t) : TokV objs' v t := let ⟨b, a, c, d, e, m⟩ := x; ⟨b, a, c, d, e, h _ m⟩
theorem toks_sub {objs objs' : List (Addr × Obj)} (h : ∀ p, p ∈ objs → p ∈ objs') {vs : List Value} {ts : List Tk} (x : All2 (TokV objs) vs ts) : All2 (TokV objs') vs ts := x.mono fun _ _ y => y.mono h
end

section
section
variable {prog : Program} {w : World} {A : Around} {E : Value → Shared → Prop} {s : Shared} {h₀ : Heap} {L : Addr} {m : Str → Option Value} {news : List (Addr × Obj)}
theorem All2.append {α β : Type} {P : α → β → Prop} {as as' : List α} {bs bs' : List β} (x : All2 P as bs) (y : All2 P as' bs') : All2 P (as ++ as') (bs ++ bs') := by
  induction x with
  | nil => exact y
  | cons p _ ih => exact .cons p ih
theorem m_ladd {a b : Addr} {l l' : Array Value} {n n' : Nat} {Q : Value → Shared → Prop} (F : Fr h₀ L s.heap m) (N : News h₀ L s.heap news) (h1 : (a, W.listOf l n) ∈ news) (h2 : (b, W.listOf l' n') ∈ news) (hsz : l.size + l'.size ≤ 16777216)
    (h : ∀ h' c, Fr h₀ L h' m → News h₀ L h' ((c, W.listOf (l ++ l') 0) :: news) → Q (.ref c) { s with heap := h' }) : wpAny (model prog w) A (binaryOp .Add (.ref a) (.ref b)) Q E s := by
  refine add_lists (vs := l.toList) (ws := l'.toList) (hsz := by rw [sizeLine_eq]; simpa using hsz) F N (list_is (N _ h1).1) (list_is (N _ h2).1) fun h' F' N' => h h' _ F' (by
    have e : (l.toList ++ l'.toList).toArray = l ++ l' := by apply Array.toList_inj.mp; simp
    rw [e] at N'; exact N')
theorem m_slice0 {x : List UInt8} {t : Tok} {value slice : PySem.Expr} (j : Nat) {hi : Int} {th : Tok} {Q : Value → Shared → Prop} (ej : hi = (j : Int)) (hF : Fr h₀ L s.heap m) (hN : News h₀ L s.heap news) (hz : x.length ≤ 16777216)
    (h : ∀ h' t' k, Fr h₀ L h' m → News h₀ L h' news → Q (.bytes (x.take j).toArray t') { s with heap := h', toks := k })
    (hs : subscripted slice false (.bytes x.toArray t) (.ref s.heap.objs.size) = operate [.ref s.heap.objs.size, .bytes x.toArray t] (getItem (.bytes x.toArray t) (.ref s.heap.objs.size)) := by with_unfolding_all rfl)
    (ht : ∀ r, letTemporaryGo value (.bytes x.toArray t) r = pure () := by intro _; with_unfolding_all rfl) :
    wpAny (model prog w) A (subscriptTail value slice (.bytes x.toArray t) (.ref s.heap.objs.size)) Q E { s with heap := s.heap.push { cls := .type "slice", data := .fields #[.none, .int hi th, .none] } } := by
  subst ej
  refine KBc.slice_K hF hN rfl .none (.int _ _) (by rw [KBw.ints_length]; simpa using hz) (fun h' t' k F' N' _ => ?_) hs ht
  have e : KBy.picked x.toArray none (some (j : Int)) = (x.take j).toArray := by
    rw [KBc.picked_eq]
    simp only [Option.elim, clipAt_nat, List.size_toArray, List.drop_zero, Nat.sub_zero]
    show (x.take (min j x.length)).toArray = _
    congr 1
    rw [List.take_eq_take_iff]; omega
  rw [e]
  exact h h' t' k F' N'

def LPost (s : Shared) (h₀ : Heap) (L : Addr) (led : List (Addr × Obj)) (Rel : (Str → Option Value) → Prop) (f : Flow) (s₂ : Shared) : Prop :=
  f = .next ∧ ∃ h' tk' m₂, s₂ = { s with heap := h', toks := tk' } ∧ Fr h₀ L h' m₂ ∧ News h₀ L h' led ∧ Rel m₂
/-- for x in a list -/
theorem for_list {env : Env} {x : Str} {px : Pos} {body : List Stmt} {ax : Addr} {its : Array Value} {n : Nat} {Q : Flow → Shared → Prop} (Rel : Nat → (Str → Option Value) → Prop) (hh : A.handled = none) (F : Fr h₀ L s.heap m) (N : News h₀ L s.heap news) (hm : (ax, W.listOf its n) ∈ news) (h0 : Rel 0 m)
    (hE : PassesOwn (model prog w) A env E)
    (turn : ∀ i I oI h₁ tk₁ m₁ v, its[i]? = some v → Fr h₀ L h₁ (fun y => if y = x then some v else m₁ y) → News h₀ L h₁ ((I, oI) :: news) → Rel i m₁ →
      wpAny (model prog w) A (execs body env) (LPost s h₀ L ((I, oI) :: news) (Rel (i + 1))) E { s with heap := h₁, toks := tk₁ })
    (hQ : ∀ h' tk' m', Fr h₀ L h' m' → News h₀ L h' news → Rel its.size m' → Q .next { s with heap := h', toks := tk' })
    (hx : env.kindOf x = some .local) (hp : (env.scope.kind == .class || (env.scope.kind == .module && env.locals != env.globals)) = false) (hL : env.locals = L) :
    wpAny (model prog w) A (pyIter (.ref ax)) (fun it s₂ => codeAny (model prog w) A (.forLoop (.Name x px) it body [] env) (fun r s' => match r with | .ok f => Q f s' | .error e => cameBackBy (model prog w) A env E e s') s₂) E s := by
  subst hL
  have nlt : ∀ p ∈ news, p.1 ≠ s.heap.objs.size := fun p hp => Nat.ne_of_lt (Heap.lt_size (N p hp).1)
  have hIL : s.heap.objs.size ≠ env.locals := Nat.ne_of_gt F.ns.lt
  have fI : h₀.get? s.heap.objs.size = none := by
    cases e : h₀.get? s.heap.objs.size with
    | none => rfl
    | some o' => exact absurd (Heap.lt_size (F.keep _ o' e)) (Nat.lt_irrefl _)
  have old : Ext s.heap (s.heap.push { cls := .type "list_iterator", data := .fields #[.ref ax, .int 0 0] }) := fun b o e => Heap.get?_push_of_some _ e
  refine wpAny_pyIter_list (list_is (N _ hm).1) ?_
  refine codeAny_forLoop (fun k s' => ∃ h' tk m' i, s' = { s with heap := h', toks := tk } ∧ Fr h₀ env.locals h' m' ∧ News h₀ env.locals h' news ∧ h'.IsListIter s.heap.objs.size ax i ∧ Rel i m' ∧ i ≤ its.size ∧ k = its.size + 1 - i) ?_ (its.size + 1)
    ⟨_, _, m, 0, rfl, fr_ext F old, news_ext N old, ⟨_, Heap.get?_push_size _ rfl, rfl, rfl⟩, h0, Nat.zero_le _, rfl⟩
  rintro k s' ⟨h', tk, m', i, rfl, F', N', hit, hr, hi, rfl⟩
  have hl : h'.IsList ax its := ⟨_, (N' _ hm).1, rfl, _, rfl⟩
  by_cases hlt : i < its.size
  · have hv : its[i]? = some its[i] := Array.getElem?_eq_getElem hlt
    refine wpAny_pyNext_list_item hit hl hv fun h₁ hit₁ hs₁ => ?_
    have F₁ := F'.change hs₁ hIL fI
    have N₁ : News h₀ env.locals h₁ news := fun p hp => ⟨(hs₁.2 _ (nlt p hp)).trans (N' p hp).1, (N' p hp).2⟩
    obtain ⟨oI, hoI, hc, hd⟩ := hit₁
    refine wpAny_assign_Name (wpAny_storeName_local hx F₁.ns (fun h₂ hn₂ hs₂ => ?_) hp)
    have F₂ := F₁.set hn₂ hs₂
    have N₂ : News h₀ env.locals h₂ ((s.heap.objs.size, oI) :: news) := fun p hp => by
      rcases List.mem_cons.mp hp with rfl | hp
      · exact ⟨(hs₂.2 _ hIL).trans hoI, hIL, fI⟩
      · exact ⟨(hs₂.2 _ (N₁ p hp).2.1).trans (N₁ p hp).1, (N₁ p hp).2⟩
    refine wpAny_passesOwn hE (wpAny_mono (turn i _ oI h₂ _ m' _ hv F₂ N₂ hr) (fun f s₃ h₃ => ?_) fun _ _ e => e)
    obtain ⟨rfl, h₃', tk₃, m₂, rfl, F₃, N₃, r₃⟩ := h₃
    exact ⟨its.size + 1 - (i + 1), by omega, h₃', tk₃, m₂, i + 1, rfl, F₃, news_tail N₃, ⟨oI, (N₃ _ (.head _)).1, hc, hd⟩, r₃, hlt, rfl⟩
  · have hin : i = its.size := by omega
    subst hin
    refine wpAny_pyNext_list_end hh hit hl (by simp) fun h₁ he₁ => wpAny_execs_nil ?_
    exact hQ h₁ tk m' (fr_but F' fI hIL he₁) (fun p hp => ⟨he₁ _ _ (nlt p hp) (N' p hp).1, (N' p hp).2⟩) hr
theorem rm_units (env : Env) : (callerA.deeper env).units + 1 < cLine := by
  have := (Rm.deeper (env := env) (n := 1) (rm_caller.less (by omega))).u
  omega
end
def LawRel (oc : List UInt8) (ts : List Tk) (i : Nat) (m : Str → Option Value) : Prop :=
  ∃ n tn tb, m "octets" = some (.bytes oc.toArray tb) ∧ m "spot" = some (.int ((n : Nat) : Int) tn) ∧ Chain oc n (ts.drop i)
section
variable {prog : Program} {w : World} {A : Around} {E : Value → Shared → Prop} {s : Shared} {h₀ : Heap} {L : Addr} {news : List (Addr × Obj)}
theorem ne_tokN {b b' : Addr} {t : Tk} {t2 t3 t4 u2 u3 u4 : Tok} {Q : Value → Shared → Prop} (hu : A.units + 1 < cLine) (N : News h₀ L s.heap news) (h : (b, tokObj t t2 t3 t4) ∈ news) (h' : (b', tokObj t u2 u3 u4) ∈ news) (hq : Q (.bool false) s) :
    wpAny (model prog w) A (compareOp .NotEq (.ref b) (.ref b')) Q E s := ne_tok (by omega) (N _ h).1 (N _ h').1 hq
theorem ne_pairN {a a' b b' : Addr} {t : Tk} {n : Int} {t1 u1 t2 t3 t4 u2 u3 u4 : Tok} {Q : Value → Shared → Prop} (hu : A.units + 1 < cLine) (N : News h₀ L s.heap news)
    (ha : (a, ({ cls := .type "tuple", data := .seq #[.ref b, .int n t1] } : Obj)) ∈ news) (ha' : (a', ({ cls := .type "tuple", data := .seq #[.ref b', .int n u1] } : Obj)) ∈ news)
    (h : (b, tokObj t t2 t3 t4) ∈ news) (h' : (b', tokObj t u2 u3 u4) ∈ news) (hq : Q (.bool false) s) : wpAny (model prog w) A (compareOp .NotEq (.ref a) (.ref a')) Q E s :=
  ne_pair hu (N _ ha).1 (N _ ha').1 (N _ h).1 (N _ h').1 hq
theorem chain_at {oc : List UInt8} {ts : List Tk} {i n : Nat} {t : Tk} (ch : Chain oc n (ts.drop i)) (e : ts[i]? = some t) :
    ∃ kd w j k, t = ⟨kd, w, n⟩ ∧ n < oc.length ∧ Token (oc.drop n) (.ok (kd, w, j)) ∧ Token ((oc.take (n + j) ++ [32, 41]).drop n) (.ok (kd, w, j)) ∧ White (oc.drop (n + j)) k ∧ n + j ≤ oc.length ∧ Chain oc (n + j + k) (ts.drop (i + 1)) := by
  have d : ts.drop i = t :: ts.drop (i + 1) := by
    obtain ⟨h, e⟩ := List.getElem?_eq_some_iff.mp e
    rw [List.drop_eq_getElem_cons h, e]
  rw [d] at ch
  cases ch with
  | cons c1 c2 c3 c4 c5 c6 => exact ⟨_, _, _, _, rfl, c1, c2, c3, c4, c5, c6⟩
theorem chain_end {oc : List UInt8} {ts : List Tk} {i n : Nat} (ch : Chain oc n (ts.drop i)) (h : ts.length ≤ i) : n = oc.length := by
  rw [List.drop_of_length_le h] at ch
  cases ch with
  | nil e => exact e
end

theorem news_cons {h₀ h : Heap} {L : Addr} {p : Addr × Obj} {l : List (Addr × Obj)} (N : News h₀ L h l) (m : p ∈ l) : News h₀ L h (p :: l) := fun q hq => by
  rcases List.mem_cons.mp hq with rfl | hq
  · exact N _ m
  · exact N q hq
end

section
local macro_rules | `(tactic| walk_at "call ref") => `(tactic| (refine stop_at ?_))
local macro_rules | `(tactic| walk_at "subscriptTail Tuple cons Call ref int") => `(tactic| (refine stop_at ?_))
local macro_rules | `(tactic| walk_at "binaryOp Add bytes bytes") => `(tactic| (refine m_badd (by first | omega | (simp only [List.length_append, List.length_cons, List.length_nil, List.length_take]; omega)) ?_; intro t' tk'))
local macro_rules | `(tactic| walk_at "binaryOp Add ref ref") => `(tactic| (refine stop_at ?_))
local macro_rules | `(tactic| walk_at "compareOp NotEq ref ref") => `(tactic| (refine stop_at ?_))
local macro_rules | `(tactic| walk_at "compareOp Eq ref ref") => `(tactic| (refine stop_at ?_))
local macro_rules | `(tactic| walk_at "exec For Name Name cons nil") => `(tactic| (refine stop_at ?_))
local macro_rules | `(tactic| walk_at "subscriptTail") => `(tactic| ((with_reducible show wpAny _ _ (subscriptTail _ (Expr.Slice none _ none _) (Value.bytes _ _) (Value.ref _)) _ _ _); (refine m_slice0 (s := ⟨_, _, _, _, _⟩) _ (by walk_at "M nat") (by k_asm) (by k_asm) (by assumption) ?_); intro h' t' k' F' N'))
local macro_rules | `(tactic| walk_at "M mem") => `(tactic| first | exact .head _ | (refine .tail _ ?_; walk_at "M mem"))
local macro_rules | `(tactic| walk_at "eval Name") => `(tactic| (refine nameX_L (by k_asm) (by walk_at "M name") ?_ (by exact rfl) (by exact rfl)))
local macro_rules | `(tactic| walk_at "eval ListComp") => `(tactic| (refine stop_at ?_))
local macro_rules | `(tactic| walk_at "storeName") => `(tactic| (refine stop_cell (by exact rfl) ?_))
set_option maxHeartbeats 8000000 in
theorem tst : PySem.Challenge.rw_or0035_01.Holds := hd (by
  k_go0
  (all_goals try k_fold)
  have rC := rm_caller
  have hC : callerA.handled = none := rfl
  k_steps
  refine stop_go ?_
  refine row_in (by k_asm) (news_pool (by k_asm)) (.head _) (by assumption) (by assumption) (Rm.deeper (Rm.less rC (by omega))) (by assumption) (by simp at *; omega) ?_
  intro one h1 k1 t1 vs1 n1 ns1 ro1 F1 rN1 hi1 hl1
  have N1 := rN1 _ (.head (.other (fun q => by have q : @Eq Nat _ _ := q; dsimp only at q; omega) .nil))
  obtain ⟨lead1, ps1, ri1⟩ := ro1.is
  have le1 := ri1.len
  k_steps
  refine stop_go ?_
  refine row_in (by k_asm) (by k_asm) (.head _) (by assumption) (by assumption) (Rm.deeper (Rm.less rC (by omega))) hi1 hl1 ?_
  intro other h2 k2 t2 vs2 n2 ns2 ro2 F2 rN2 hi2 hl2
  have N2 := rN2 _ (.head (.other (fun q => by have q : @Eq Nat _ _ := q; dsimp only at q; omega) .nil))
  obtain ⟨lead2, ps2, ri2⟩ := ro2.is
  have le2 := ri2.len
  k_steps
  refine stop_go ?_
  refine take_in (by k_asm) (by k_asm) (.tail _ (.tail _ (.head _))) (by assumption) (by assumption) (Rm.deeper (Rm.less rC (by omega))) hi2 hl2 (by decide) (by decide) ?_
  intro d3 h3 k3 t3 vs3 n3 ns3 hd3 F3 rN3 hi3 hl3
  have N3 := rN3 _ (.keep (by simp) (.keep (by simp) (.head (.other (fun q => by have q : @Eq Nat _ _ := q; dsimp only at q; omega) .nil))))
  refine m_pick (xs := odds) (by k_asm) (.head _) (.cons (.cons (.cons (.cons (.cons (.cons (.cons (.cons .nil)))))))) hd3 rfl (by decide) (by decide) ?_
  intro odd todd hodd hlodd
  have Np := news_two N3
  have Nc := news_tail Np
  by_cases ho : odd = []
  · subst ho
    obtain ⟨j0, hw0, chain⟩ := chain_rows ri1 ri2
    k_steps
    refine stop_go ?_
    refine heard_ok1 (by k_asm) (by k_asm) (Wd.push (by assumption) (by assumption) (by assumption) (by k_asm) rfl rfl) (by assumption) (by assumption) (Rm.deeper (Rm.less rC (by omega))) (by omega) ri1.alone ?_
    intro h4 k4 a4 l4 n4 objs4 F4 N4 tu4 al4 of4
    have N4' := ar1 N4
    clear N4
    k_steps
    refine stop_go ?_
    refine heard_ok1 (by k_asm) (by k_asm) (Wd.push (by assumption) (by assumption) (by assumption) (by k_asm) rfl rfl) (by assumption) (by assumption) (Rm.deeper (Rm.less rC (by omega))) (by simp; omega) (by rw [List.append_nil]; exact ri2.alone) ?_
    intro h5 k5 a5 l5 n5 objs5 F5 N5 tu5 al5 of5
    have N5' := ar2 N5
    clear N5
    k_steps
    refine stop_go ?_
    have N6 := news_tail (by k_asm)
    refine storeX_C (by k_asm) N6 rfl (.tail (of5 _ (.head _) _ (.tail _ (.head _))) (.tail (of4 _ (.head _) _ (.head _)) (.head fun p hp => (List.mem_append.mp hp).elim (fun h => of5 p (.tail _ h) _ (.tail _ (.head _))) (fun h => of4 p (.tail _ h) _ (.head _))))) (by assumption) ?_
    intro h7 o7 F7 N7 d7
    k_steps
    refine stop_go ?_
    refine heard_ok1 (by k_asm) (by k_asm) (Wd.push (by assumption) (by assumption) (by assumption) (by k_asm) rfl rfl) (by assumption) (by assumption) (Rm.deeper (Rm.less rC (by omega))) (by simp; omega) (whole_ok ri1 ri2) ?_
    intro h8 k8 a8 l8 n8 objs8 F8 N8 tu8 al8 of8
    have N8' := ar3 N8
    clear N8
    k_steps
    refine stop_go ?_
    refine comp3 (by k_asm) (ts := toksOf lead2.length ps2) (fun t => { t with at_ := t.at_ + (one.length + 1) }) (by with_unfolding_all rfl) (by decide) (by rfl) (by decide) (by rfl) (by rfl) (by rfl) (by decide) (by decide) (by decide) (by exact rfl) ?_ (by intro _; rfl)
    walk_at "eval Name"
    refine ⟨_, l5, n5, _, _, rfl, by k_asm, by k_asm, .tail _ (.head _), ?_, toks_sub (fun p hp => .tail _ (.tail _ (.tail _ (.tail _ (List.mem_append_right _ (List.mem_append_left _ hp)))))) al5, ?_, ?_⟩
    · have := al5.length; rw [toksOf_length] at this; have := ri2.few; simp at *; omega
    · intro t I oI C oC D ys m₂ h tk t2 t3 t4 objs E' hoC e1 e2 e3 F N
      k_steps
      exact ⟨_, _, _, _, _, _, rfl, rfl, by k_asm, by k_asm⟩
    · intro D ys objs h9 k9 F9 N9 to9 al9
      k_steps
      refine stop_go ?_
      refine m_ladd (by k_asm) (by k_asm) (.tail _ (List.mem_append_left _ (.tail _ (.tail _ (.head _))))) (.head _) ?_ ?_
      · have q1 := al4.length; have q2 := al9.length; rw [toksOf_length] at q1; rw [List.length_map, toksOf_length] at q2
        have := ri1.few; have := ri2.few; simp at *; omega
      intro h10 c10 F10 N10
      k_steps
      refine stop_go ?_
      refine ne_toks (rm_units _) (by k_asm) (.tail _ (.tail _ (List.mem_append_left _ (.head _)))) (.head _) (toks_sub (fun p hp => .tail _ (.tail _ (List.mem_append_left _ (.tail _ (.tail _ (.tail _ (.tail _ (List.mem_append_left _ hp)))))))) al8) ?_ ?_
      · have e : (l4 ++ ys.toArray).toList = l4.toList ++ ys := by simp
        rw [e]
        exact All2.append (toks_sub (fun p hp => .tail _ (.tail _ (List.mem_append_left _ (.tail _ (.tail _ (.tail _ (.tail _ (List.mem_append_right _ (List.mem_append_right _ hp))))))))) al4) (toks_sub (fun p hp => .tail _ (.tail _ (List.mem_append_right _ hp))) al9)
      k_steps
      refine stop_go ?_
      have hzs : ((one ++ [32]) ++ other).length ≤ 1000 := by simp; omega
      have hzo : ((one ++ [32]) ++ other).length ≤ 16777216 := by omega
      refine wpAny_call (past_ok1 nat_0 (Wd.push (by assumption) (by assumption) (by assumption) (by k_asm) rfl rfl) (Rm.deeper (Rm.less rC (by omega))) hzo (show White (List.drop 0 _) j0 from hw0) ?_)
      intro h11 k11 t11 K11
      have F11 := fr_ext (by k_asm) K11
      have N11 := news_ext (by k_asm) K11
      dsimp only
      k_steps
      refine stop_go ?_
      generalize hoc : ((one ++ [32]) ++ other) = oc at *
      refine wpAny_For ?_ (by intro _; rfl)
      walk_at "eval Name"
      refine for_list (LawRel oc (toksOf lead1.length ps1 ++ shift (one.length + 1) (toksOf lead2.length ps2))) rfl (by k_asm) (by k_asm) (.tail _ (.tail _ (List.mem_append_left _ (.head _)))) ⟨0 + j0, _, _, by walk_at "M name", by walk_at "M name", by rw [List.drop_zero, Nat.zero_add]; exact chain⟩ ?_ ?_ ?_ rfl rfl (by exact rfl)
      · first | passes_own | with_unfolding_all passes_own
      · rintro i I oI h12 k12 m12 v hv F12 N12 ⟨n12, tn12, tb12, q1, q2, ch⟩
        obtain ⟨v', t, e1, e2, hvt⟩ := al8.get i (by
          have := (Array.getElem?_eq_some_iff.mp hv).1
          simpa using this)
        rw [Array.getElem?_toList, hv] at e1
        cases e1
        obtain ⟨b, c2, c3, c4, rfl, hb⟩ := hvt
        obtain ⟨kd, wo, j, k, rfl, lt, tk1, tk2, hw, le, ch'⟩ := chain_at ch e2
        have N13 := news_cons (p := (b, ({ cls := .type "tuple", data := .seq #[.str (kindStr kd) c2, .bytes wo.toArray c3, .int (n12 : Int) c4] } : Obj))) N12 (.tail _ (.tail _ (.tail _ (List.mem_append_left _ (.tail _ (.tail _ (.tail _ (.tail _ (List.mem_append_left _ hb)))))))))
        k_steps
        · rename_i hbad; exact absurd rfl hbad
        refine stop_go ?_
        refine wpAny_call (token_ok1 (Wd.push (by assumption) (by assumption) (by assumption) (by k_asm) rfl rfl) (Rm.deeper (Rm.less rC (by omega))) _ _ _ _ hzo lt tk1 ?_)
        intro h14 k14 a14 b14 d1 d2 d3 d4 K14 na14 nb14 ga14 gb14
        have F14 := fr_ext (by k_asm) K14
        have N14 := news_more (by k_asm) (news_more (by k_asm) (news_ext (by k_asm) K14) nb14 gb14) na14 ga14
        dsimp only
        k_steps
        refine stop_go ?_
        refine wpAny_call (token_ok1 (Wd.push (by assumption) (by assumption) (by assumption) (by k_asm) rfl rfl) (Rm.deeper (Rm.less rC (by omega))) (List.take (n12 + j) oc ++ [32, 41]) n12 _ _ (by simp only [List.length_append, List.length_cons, List.length_nil, List.length_take]; omega) (by simp only [List.length_append, List.length_cons, List.length_nil, List.length_take]; omega) tk2 ?_)
        intro h15 k15 a15 b15 f1 f2 f3 f4 K15 na15 nb15 ga15 gb15
        have F15 := fr_ext (by k_asm) K15
        have N15 := news_more (by k_asm) (news_more (by k_asm) (news_ext (by k_asm) K15) nb15 gb15) na15 ga15
        dsimp only
        k_steps
        refine stop_go ?_
        refine ne_tokN (rm_units _) (by k_asm) (by walk_at "M mem") (by walk_at "M mem") ?_
        k_steps
        refine stop_go ?_
        refine ne_pairN (rm_units _) (by k_asm) (by walk_at "M mem") (by walk_at "M mem") (by walk_at "M mem") (by walk_at "M mem") ?_
        k_steps
        refine stop_go ?_
        refine wpAny_call (past_ok1 (nat_id _) (Wd.push (by assumption) (by assumption) (by assumption) (by k_asm) rfl rfl) (Rm.deeper (Rm.less rC (by omega))) hzo hw ?_)
        intro h16 k16 t16 K16
        have F16 := fr_ext (by k_asm) K16
        have N16 := news_ext (by k_asm) K16
        dsimp only
        k_steps
        refine ⟨rfl, _, _, _, rfl, by k_asm, news_sub (by k_asm) (by intro p hp; repeat (first | exact hp | apply List.Mem.tail)), _, _, _, by walk_at "M name", by walk_at "M name", ch'⟩
      · rintro h12 k12 m12 F12 N12 ⟨n12, tn12, tb12, q1, q2, ch⟩
        have hn := chain_end ch (by have := al8.length; simp at this ⊢; omega)
        subst hn
        k_steps
        refine stop_go ?_
        refine heard_ok1 (by k_asm) (by k_asm) (Wd.push (by assumption) (by assumption) (by assumption) (by k_asm) rfl rfl) (by assumption) (by assumption) (Rm.deeper (Rm.less rC (by omega))) (by decide) last_words ?_
        intro h13 k13 a13 l13 n13 objs13 F13 N13 tu13 al13 of13
        k_steps
        refine stop_go ?_
        refine eq_toks (rm_units _) (by k_asm) (.tail _ (.tail _ (.tail _ (List.mem_append_left _ (.head _))))) (.head _) (toks_sub (fun p hp => .tail _ (.tail _ (.tail _ (List.mem_append_left _ (.tail _ hp))))) al13) (.cons ⟨_, _, _, _, rfl, .tail _ (.tail _ (.head _))⟩ (.cons ⟨_, _, _, _, rfl, .tail _ (.head _)⟩ .nil)) ?_
        k_steps
  · obtain ⟨e, bad⟩ := odd_bad hodd ho
    have sh := bad.short
    k_steps
    refine stop_go ?_
    refine heard_ok1 (by k_asm) (by k_asm) (Wd.push (by assumption) (by assumption) (by assumption) (by k_asm) rfl rfl) (by assumption) (by assumption) (Rm.deeper (Rm.less rC (by omega))) (by omega) ri1.alone ?_
    intro h4 k4 a4 l4 n4 objs4 F4 N4 tu4 al4 of4
    have N4' := ar1 N4
    clear N4
    k_steps
    refine stop_go ?_
    refine heard_er1 (by k_asm) (by k_asm) (Wd.push (by assumption) (by assumption) (by assumption) (by k_asm) rfl rfl) (by assumption) (by assumption) (Rm.deeper (Rm.less rC (by omega))) (by simp only [List.length_append]; omega) (bad.second ri2) rfl ?_
    intro h5 k5 t5 F5 N5
    k_steps
    refine stop_go ?_
    have N6 := news_tail (by k_asm)
    refine storeX_C (by k_asm) N6 rfl (.tail (of4 _ (.head _) _ (.head _)) (.head fun p hp => of4 p (.tail _ hp) _ (.head _))) (by assumption) ?_
    intro h7 o7 F7 N7 d7
    k_steps
    refine stop_go ?_
    refine heard_er1 (by k_asm) (by k_asm) (Wd.push (by assumption) (by assumption) (by assumption) (by k_asm) rfl rfl) (by assumption) (by assumption) (Rm.deeper (Rm.less rC (by omega))) (by simp only [List.length_append, List.length_cons, List.length_nil]; omega) (bad.whole ri1 ri2) rfl ?_
    intro h8 k8 t8 F8 N8
    k_steps
    refine stop_go ?_
    refine heard_er1 (by k_asm) (by k_asm) (Wd.push (by assumption) (by assumption) (by assumption) (by k_asm) rfl rfl) (by assumption) (by assumption) (Rm.deeper (Rm.less rC (by omega))) (by simp only [List.length_append, List.length_cons, List.length_nil]; omega) (bad.ahead hodd (by assumption) ri1) rfl ?_
    intro h9 k9 t9 F9 N9
    k_steps
    refine stop_go ?_
    refine heard_er1 (by k_asm) (by k_asm) (Wd.push (by assumption) (by assumption) (by assumption) (by k_asm) rfl rfl) (by assumption) (by assumption) (Rm.deeper (Rm.less rC (by omega))) (by omega) (bad.alone) rfl ?_
    intro h10 k10 t10 F10 N10
    k_steps
)
end

end Mine

theorem PySem.Challenge.cw_or0035_01_holds : PySem.Challenge.rw_or0035_01.Holds :=
  Mine.tst
