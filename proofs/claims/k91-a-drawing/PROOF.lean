import PyProof.Rows.All
import HandS.Nested
import Wide.All
import OpenK.AllK
import Wide.FinOn
import HandS.ForMost
import HandS.Exc
import KE.DataCmp
import HandS.TupLe
import HandS.Walk
import HandS.Deep
import HandS.TupMul
import HandS.TupAny
import HandS.Style
import HandS.WideBits
import HandS.Text
import KE.DataMinMax
import HandS.SortKw
import HandS.SortRule
import HandS.Dict
import HandS.More
import HandS.RevRange
import HandS.HeadWalk
import HandS.Rev
import PyProof.ListRange
import HandS.ExcInit
import HandS.CallSlots
import HandS.ExcOwn
import HandS.ExcField
import HandS.ExcIs
import KE.KExcIs
import HandS.IsInst
import HandS.HeadHook1
import HandS.ClsMeth
import HandS.CallRecv
import HandS.TryOnly
import HandS.Iter
import HandS.Conv
import HandS.Small
import HandS.HeadHook4
import HandS.EndBits
import HandS.Head2
import HandS.HeadEnd
import PySem.Challenge.RW_bouncewise_k91_a_drawing
set_option Elab.async false
set_option linter.all false
set_option maxRecDepth 100000
set_option autoImplicit false
set_option maxHeartbeats 4000000
/-! Functions that keep one value: made by a def, handed back, called elsewhere. -/
namespace BW
open PySem PySem.Spec PyProof.Rows L2 LamX NdefX
/-- the cell at c holds u -/
def CellO (c : Addr) (u : V) : HO := .ext fun h => ∃ val, RelV u val ∧ h.IsCell c (some val)
/-- nothing is known at c -/
def rid (H : Hp) (c : Addr) : Hp := fun b => if b = c then none else H b
theorem rid_same {H : Hp} {c : Addr} : rid H c c = none := by unfold rid; rw [if_pos rfl]
theorem rid_ne {H : Hp} {c b : Addr} (h : b ≠ c) : rid H c b = H b := by unfold rid; rw [if_neg h]
theorem rid_none {H : Hp} {c b : Addr} (h : H b = none) : rid H c b = none := by unfold rid; split; rfl; exact h
/-- what is captured: one cell, by one name -/
structure OneC (cl : List (Str × Addr)) (x : Str) (c : Addr) : Prop where
  at_ : cl.lookup x = some c
  one : ∀ y c', cl.lookup y = some c' → y = x ∧ c' = c
section
variable {P : Program} {w : World} {K : PySem.W.Frag} {mg : Str → Option Value} {base : Heap} {A : Around} {outer : List Env} {H H' : Hp} {h : Heap} {s s' : Shared} {c : Addr} {u : V}
theorem cell_obj (hok : HOk P w H h) (hc : H c = some (CellO c u)) : ∃ val o, RelV u val ∧ h.get? c = some o ∧ o.data = .cell (some val) := by
  obtain ⟨⟨val, rv, o, ho, hd⟩, _, _⟩ := hok c _ hc
  exact ⟨val, o, rv, ho, hd⟩
theorem cell_ne {o : HO} {b : Addr} (hc : H c = some (CellO c u)) (hb : H b = some o) (ho : ∀ φ, o ≠ .ext φ) : b ≠ c := fun e => by
  subst e
  rw [hc] at hb
  exact ho _ (Option.some.inj hb).symm
theorem hok_rid (hok : HOk P w H h) (hc : H c = some (CellO c u)) : HOk P w (rid H c) h := fun a o e => by
  have hac : a ≠ c := fun z => by subst z; rw [rid_same] at e; cases e
  rw [rid_ne hac] at e
  refine (hok a o e).stay (fun _ _ _ q => q) (fun b q => ?_) fun b xs q => ?_
  · rw [rid_ne (cell_ne hc q fun _ z => by cases z)]; exact q
  · rw [rid_ne (cell_ne hc q fun _ z => by cases z)]; exact q
theorem env0_rid (e0 : Env0 P w K mg base A outer s H) (hc : H c = some (CellO c u)) : Env0 P w K mg base A outer s (rid H c) :=
  ⟨e0.frames, e0.mod, fun b o e => ⟨(e0.bs b o e).1, rid_none (e0.bs b o e).2⟩, e0.bsz, e0.funs, fun b hb => rid_none (e0.frf b hb), hok_rid e0.hok hc, e0.bare⟩
theorem hok_track {o : HO} (hok : HOk P w H h) (hn : H c = none) (new : ObjOk P w (upd H c o) h c o) : HOk P w (upd H c o) h := fun a q e => by
  by_cases hac : a = c
  · subst hac; rw [upd_same] at e; cases e; exact new
  · rw [upd_ne hac] at e
    refine (hok a q e).stay (fun _ _ _ q => q) (fun b z => ?_) fun b xs z => ?_
    · rw [upd_ne (ne_of_none z hn)]; exact z
    · rw [upd_ne (ne_of_none z hn)]; exact z
theorem cellO_ok {val : Value} {o : Obj} (rv : RelV u val) (ho : h.get? c = some o) (hd : o.data = .cell (some val)) : ObjOk P w H h c (CellO c u) :=
  ⟨⟨val, rv, o, ho, hd⟩, ⟨o, ho⟩, fun h1 h2 ⟨val, rv, o, ho, hd⟩ k => ⟨val, rv, o, k o ho, hd⟩⟩
theorem ce_rid {Q : VK} {uu : Value} (e0 : Env0 P w K mg base A outer s H) (hc : H c = some (CellO c u)) (h : CE outer P w (rid H c) s (fun v H' => H' c = none → Q v (upd H' c (CellO c u))) uu s') : CE outer P w H s Q uu s' := by
  obtain ⟨v, H', os, bare, un, hok, rv, q⟩ := h
  obtain ⟨val, o, rvc, ho, hd⟩ := cell_obj e0.hok hc
  have nf : c ∉ frs outer := fun z => by
    have := e0.frf c z
    rw [hc] at this; cases this
  have kept := un.keep c o ho rid_same nf (by simp)
  have hn := un.free c o ho rid_same (by simp)
  have ne0 : ∀ {b : Addr}, H b = none → b ≠ c := fun {b} z e => by subst e; rw [hc] at z; cases z
  refine ⟨v, upd H' c (CellO c u), os, bare, ⟨?_, ?_, ?_, ?_, ?_, ?_, ?_⟩, hok_track hok hn (cellO_ok rvc kept hd), rv, q hn⟩
  · exact fun b ob e n hb hx => un.keep b ob e (rid_none n) hb hx
  · exact fun b ob e n hb hx => un.slot b ob e (rid_none n) hb hx
  · exact fun b ob e n hx => by rw [upd_ne (ne0 n)]; exact un.free b ob e (rid_none n) hx
  · exact un.there
  · intro b xs z
    have hb := cell_ne hc z fun _ z => by cases z
    rw [upd_ne hb]
    exact un.tups b xs (by rw [rid_ne hb]; exact z)
  · intro b ob z' z
    have hb := cell_ne hc z fun _ z => by cases z
    rw [upd_ne hb]
    exact un.frzs b ob z' (by rw [rid_ne hb]; exact z)
  · intro b ps z
    have hb := cell_ne hc z fun _ z => by cases z
    obtain ⟨more, e⟩ := un.tbls b ps (by rw [rid_ne hb]; exact z)
    exact ⟨more, by rw [upd_ne hb]; exact e⟩
theorem fn_ne_cell {f : Addr} {F : NF} (hok : HOk P w H h) (hf : H f = some (FnO f F)) (hc : H c = some (CellO c u)) : f ≠ c := fun e => by
  subst e
  obtain ⟨od, sl, doc, pm, ctv, ho⟩ := fnO_at hok hf
  obtain ⟨val, o, _, ho', hd⟩ := cell_obj hok hc
  rw [ho] at ho'
  cases ho'
  cases hd
theorem code_ne_cell {c1 : Addr} {q : Str} (hok : HOk P w H h) (hf : H c1 = some (CodeO c1 q)) (hc : H c = some (CellO c u)) : c1 ≠ c := fun e => by
  subst e
  obtain ⟨⟨oc, vs, t, h1, h2, h3⟩, _, _⟩ := hok c1 _ hf
  obtain ⟨val, o, _, ho', hd⟩ := cell_obj hok hc
  rw [h1] at ho'
  cases ho'
  rw [h2] at hd
  cases hd
theorem tab_rid {P0 : Addr} {nm : Nat → Nat → Str} (hok : HOk P w H h) (hc : H c = some (CellO c u)) (T : TabN H P0 nm) : TabN (rid H c) P0 nm := by
  obtain ⟨ps, h1, h2, h3⟩ := T
  refine ⟨ps, by rw [rid_ne (cell_ne hc h1 fun _ z => by cases z)]; exact h1, h2, fun pos cv e => ?_⟩
  obtain ⟨c1, e1, e2⟩ := h3 pos cv e
  exact ⟨c1, e1, by rw [rid_ne (code_ne_cell hok e2 hc)]; exact e2⟩
/-- its call -/
theorem clo_run {CX : CXT} {k : Nat} {f : Addr} {F : NF} {ps : List Str} {x : Str} {sp : List (Option V) → Sp} {us : List Value} {vs : List V} {Q : VK} {E E' : XK} (Fn : NOk P w K mg base CX k f F ps [x] sp) (hr : Room k A) (e0 : Env0 P w K mg base A outer s H) (hf : H f = some (FnO f F)) (hcd : H F.c = some (CodeO F.c F.qual)) (hcl : OneC F.cl x c) (hc : H c = some (CellO c u))
    (hE : ∀ e s', CX outer (rid H c) s E' e s' → False) (r : Vals vs us) (q : sp [some u] vs (rid H c) (fun v H' => H' c = none → Q v (upd H' c (CellO c u))) E') : codeAny (model P w) A (.call (.ref f) ⟨us, []⟩) (CR CX outer P w H s Q E) s := by
  obtain ⟨val, o, rvc, ho, hd⟩ := cell_obj e0.hok hc
  have hfc := fn_ne_cell e0.hok hf hc
  have C : CellsAt F.cl [x] [some u] s.heap (rid H c) := by
    refine ⟨rfl, fun y c' e => ?_, fun y z c' e1 e2 => ?_, fun i y e => ?_⟩
    · obtain ⟨_, rfl⟩ := hcl.one y c' e
      exact ⟨rid_same, some val, o, ho, hd⟩
    · rw [(hcl.one y c' e1).1, (hcl.one z c' e2).1]
    · cases i with
      | zero =>
        cases (show x = y from Option.some.inj e)
        refine ⟨c, hcl.at_, fun v ev => ?_⟩
        have ev : some (some u) = some (some v) := ev
        cases ev
        exact ⟨val, rvc, o, ho, hd⟩
      | succ i => simp at e
  refine codeAny_mono (Fn.run A outer s (rid H c) us vs [some u] _ E' hr (env0_rid e0 hc) (by rw [rid_ne hfc]; exact hf) (by rw [rid_ne (code_ne_cell e0.hok hcd hc)]; exact hcd) C r q) fun r s' hq => ?_
  cases r with
  | error e => exact (hE e s' hq).elim
  | ok fl =>
    cases fl with
    | ret uu => exact ce_rid e0 hc hq
    | next => exact hq.elim
    | brk => exact hq.elim
    | cont => exact hq.elim
end
/-- only x is free -/
def freeB (sc : Scope) (x : Str) : Bool := (sc.names.all fun y => !decide (y.2 = .free) || decide (y.1 = x)) && decide ((x, NameKind.free) ∈ sc.names)
theorem freeB_ok {sc : Scope} {x : Str} (h : freeB sc x = true) : (∀ y ∈ sc.names, y.2 = .free → y.1 = x) ∧ (x, NameKind.free) ∈ sc.names := by
  unfold freeB at h
  simp only [Bool.and_eq_true, Bool.or_eq_true, Bool.not_eq_true', decide_eq_true_eq, decide_eq_false_iff_not, List.all_eq_true] at h
  exact ⟨fun y hy e => (h.1 y hy).elim (fun z => absurd e z) id, h.2⟩
/-- a def that makes such a function and hands it back -/
theorem fn_clo {CX : CXT} {P : Program} {w : World} {K : PySem.W.Frag} {mg : Str → Option Value} {base : Heap} {k : Nat} {f : Addr} {name qual : Str} {params : Arguments} {body : List Stmt} {scope : Scope} {dV kV doc pm ct oc : Value} {an od : Option Addr}
    {osl : Array (Option Value)} {cd P0 : Addr} {x nm : Str} {p2 pos pos2 : Pos} {st : Stmt} (lk : K.lookup f = some ⟨oc, od, .func (PySem.W.fnOf name qual params body scope dV kV doc pm an (.ref cd) ct), osl⟩) (hcd : PySem.W.codeIn K (.ref cd) qual = true) (S : FnScope [x, nm] [x] scope)
    (hb : body = [st, .Return (some (.Name nm p2)) pos2]) (hst : st = .FunctionDef nm (C8.fnArgs st) (C8.fnBody st) [] none [] (C8.fnScope st) none nm pos) (TB : TabB base mg cd P0)
    (hx : scope.names.lookup x = some .cell) (hnm : scope.names.lookup nm = some .local) (hfr : freeB (C8.fnScope st) x = true) (hd0 : (C8.fnArgs st).defaults = []) (hk0 : (C8.fnArgs st).kw_defaults = []) (ha : ∀ env, annTrees (C8.fnArgs st) none env = []) (hg1 : (nm == ("__debug__" : Str)) = false) (hg2 : (nm == ("__classdict__" : Str)) = false) {sp : Sp}
    (hsp : ∀ vs H Q E, sp vs H Q E → ∃ v, vs = [v] ∧ TabN H P0 (fun _ _ => (envOfC qual scope 0 f (.ref cd)).qual ++ nm) ∧ ∀ (g c c' : Addr) (cl : List (Str × Addr)) (H1 : Hp), ExtN H H1 → (∀ b, H1 b = none → H b = none) → TabN H1 P0 (fun _ _ => (envOfC qual scope 0 f (.ref cd)).qual ++ nm) → H g = none → OneC cl x c →
      H1 g = some (FnO g (NF.of st nm ((envOfC qual scope 0 f (.ref cd)).qual ++ nm) cl c')) → H1 c' = some (CodeO c' ((envOfC qual scope 0 f (.ref cd)).qual ++ nm)) → H1 c = some (CellO c v) → Q (.ref g) H1) :
    FnOk P w K mg base CX (k + 1) f (PySem.W.fnOf name qual params body scope dV kV doc pm an (.ref cd) ct) [x] sp := by
  refine ⟨fun vs H Q E h => (by obtain ⟨v, rfl, _, _⟩ := hsp vs H Q E h; rfl), fun A outer s H args us vs Q E hr e0 hbd r h => ?_⟩
  obtain ⟨v, rfl, hT, hq⟩ := hsp vs H Q E h
  have hl : ([v] : List V).length = [x].length := rfl
  have KX : K.In s.heap := e0.mod.kin.keeps fun b o e => (e0.bs b o e).1
  have lim : s.heap.NoLimit := e0.mod.nolimit.keeps fun b o e => (e0.bs b o e).1
  have hkind : ∀ y ∈ [x].zip us, scope.names.lookup y.1 = some .local ∨ (scope.names.lookup y.1 = some .cell ∧ ((cellsFrom (s.heap.objs.size + 1) scope.names []).lookup y.1).isSome = true) := fun ⟨n, v⟩ hy => by
    rcases S.par n (List.of_mem_zip hy).1 with q | q
    · exact .inl q
    · exact .inr ⟨q, PySem.W.cellsFrom_some _ _ _ (.inl q)⟩
  refine codeAny_call_function hr.depth (KX _ _ lk) rfl S.co S.gen rfl (PySem.W.codeRec_of KX hcd) (hbd _ _ _ _ ?_)
  refine wpAny_newFunctionEnv_cells S.kind hkind fun env he s1 xx => ?_
  subst he
  refine ⟨lim.keeps xx.toInCall.keep, codeAny_func ?_⟩
  obtain ⟨X, hX⟩ : ∃ X : Cx, X = cxOf CX P w K mg base [x, nm] qual scope f (.ref cd) A outer s H E := ⟨_, rfl⟩
  have I : Inv X [] (L2.start [x, nm] [v]) H s1 := by rw [hX]; exact inv_start S hr.hd e0 hl r xx
  have hfree : ∀ y ∈ (C8.fnScope st).names, y.2 = .free → X.env.scope.names.lookup y.1 = some .cell ∨ X.env.scope.names.lookup y.1 = some .free := fun y hy e => by
    rw [(freeB_ok hfr).1 y hy e]
    left
    rw [hX]
    exact hx
  have eqq : X.env.qual = (envOfC qual scope 0 f (.ref cd)).qual := by rw [hX]; rfl
  have pdef := ps_ndefMS (X := X) (i := 1) (name := nm) (T := [(P0, fun _ _ => X.env.qual ++ nm)]) (nm := fun _ _ => X.env.qual ++ nm) hst (c := cd) (P := P0) (by rw [hX]; exact TB) (by rw [hX]; rfl) (by simp) rfl (fun p hp _ => by rw [List.mem_singleton.mp hp]) hfree hd0 hk0 (ha _) (by rw [hX]; exact S.nd) (by rw [hX]; rfl) (by rw [hX]; exact .inl hnm) (.inr (by rw [hX]; exact hnm))
  have pvar : PE X (.Name nm p2) (tVar 1) := pe_var (by rw [hX]; rfl) (by rw [hX]; exact .inl hnm) hg1 hg2
  have goal : wpAny (model X.prog X.w) X.A (execs body X.env) (fun fl s' => ∃ u, fl = .ret u ∧ CE outer P w H s Q u s') X.xe s1 := by
    rw [hb]
    refine wpAny_execs_cons (thn (pdef.run [] s1 _ _ { nx := fun σ' H' => ∃ g c', σ' = (L2.start [x, nm] [v]).set 1 (some (.ref g)) ∧ ExtN H H' ∧ (∀ b, H' b = none → H b = none) ∧ TabsN [(P0, fun _ _ => X.env.qual ++ nm)] H' ∧ H g = none ∧ H' g = some (FnO g (NF.of st nm (X.env.qual ++ nm) (cloFrom X.env.cells (C8.fnScope st).names []) c')) ∧ H' c' = some (CodeO c' (X.env.qual ++ nm)), rt := fun _ _ => False } I ⟨fun p hp => by rw [List.mem_singleton.mp hp, eqq]; exact hT, fun g c' H1 h1 h2 h3 h4 h5 h6 => ⟨g, c', rfl, h1, h2, h3, h4, h5, h6⟩⟩) fun fl s3 q => ?_)
    cases fl with
    | ret u => obtain ⟨_, _, _, _, _, z⟩ := q; exact z.elim
    | brk => obtain ⟨_, _, _, z⟩ := q; exact z.elim
    | cont => obtain ⟨_, _, _, z⟩ := q; exact z.elim
    | next =>
      obtain ⟨σ3, H3, I3, g, c', rfl, ext, nn, tabs, hgn, hgf, hcc⟩ := q
      refine wpAny_execs_cons (wpAny_Return_some (thn (pvar.run [] s3 _ _ (fun v' H' => v' = .ref g ∧ H' = H3) I3 ⟨.ref g, rfl, rfl, rfl⟩) fun u s4 ⟨v4, H4, I4, r4, e4, e5⟩ => ?_))
      subst e4
      subst e5
      refine ⟨u, rfl, ?_⟩
      have cp : Caps X (cloFrom X.env.cells (C8.fnScope st).names []) [x] [0] := Caps.made I4.ok hfree (fun y hy => by rw [List.mem_singleton.mp hy]; exact (freeB_ok hfr).2) (by rw [hX]; rfl)
      have C := cells_of I4 cp
      obtain ⟨c, hcl, hv⟩ := C.has 0 x rfl
      obtain ⟨val, rv, o, ho, hd⟩ := hv v rfl
      have one : OneC (cloFrom X.env.cells (C8.fnScope st).names []) x c := ⟨hcl, fun y c2 e => by
        rcases cloFrom_mem (PySem.mem_of_lookup e) with hm | ⟨h1, _⟩
        · cases hm
        · have := (freeB_ok hfr).1 _ h1 rfl
          have : y = x := this
          subst this
          rw [hcl] at e
          exact ⟨rfl, (Option.some.inj e).symm⟩⟩
      have hcn := (C.all x c hcl).1
      have cge : s.heap.objs.size ≤ c := by
        have h1 := I4.ok.cab x c (by rw [hX]; rfl) (cp.sub x c hcl)
        rw [hX] at h1
        exact h1
      have hc2 : H c = none := e0.hok.fresh cge
      have up : ∀ {b : Addr} {o : HO}, H4 b = some o → upd H4 c (CellO c v) b = some o := fun {b o} e => by rw [upd_ne (ne_of_none e hcn)]; exact e
      have hok4 : HOk P w H4 s4.heap := by
        have := I4.hok
        rw [hX] at this
        exact this
      have un : Un (frs outer) [] H H4 s.heap s4.heap := by
        have := I4.base
        rw [hX] at this
        exact this
      have ncs : ∀ {b : Addr} {ob : Obj}, s.heap.get? b = some ob → b ≠ c := fun {b ob} e z => by
        subst z
        exact absurd (Heap.lt_size e) (Nat.not_lt.mpr cge)
      have q := hq g c c' _ (upd H4 c (CellO c v)) (fun b o e n => up (ext b o e n)) (fun b e => by
        by_cases z : b = c
        · subst z; rw [upd_same] at e; cases e
        · rw [upd_ne z] at e; exact nn b e) (by
        have T := (tabs (P0, fun _ _ => X.env.qual ++ nm) (by simp)).ext (fun b o e => up e)
        rw [eqq] at T
        exact T) hgn one (by rw [← eqq]; exact up hgf) (by rw [← eqq]; exact up hcc) upd_same
      refine ⟨.ref g, _, by have := I4.os; rw [hX] at this; exact this, I4.bare, ⟨un.keep, un.slot, ?_, un.there, ?_, ?_, ?_⟩, hok_track hok4 hcn (cellO_ok rv ho hd), r4, q⟩
      · exact fun b ob e n hx => by rw [upd_ne (ncs e)]; exact un.free b ob e n hx
      · intro b xs z
        rw [upd_ne (ne_of_none z hc2)]
        exact un.tups b xs z
      · intro b ob z' z
        rw [upd_ne (ne_of_none z hc2)]
        exact un.frzs b ob z' z
      · intro b ps z
        obtain ⟨more, e⟩ := un.tbls b ps z
        exact ⟨more, by rw [upd_ne (ne_of_none z hc2)]; exact e⟩
  rw [hX] at goal
  exact wpAny_mono goal (fun fl s' ⟨u, e, ce⟩ => by subst e; exact ce) fun e s' hs => hs
end BW
set_option maxHeartbeats 4000000
/-! The small language: values, store, expressions, statements, what they do. -/
namespace BW
open PySem

/-- a value; lists, instances, dicts stand in the store -/
inductive PV where
  | non | bl (b : Bool) | int (i : Int) | str (s : Str) | tup (xs : List PV) | loc (n : Nat)

inductive Cell where
  | lst (xs : List PV) | frz (xs : List PV) | ins (c : Nat) (fs : List (Nat × PV)) | dic (kvs : List (List Int × PV))
  /-- a function that keeps a value; one that may not be looked at -/
  | clo (v : PV) | dead

abbrev Store := List Cell
abbrev Env := List (Option PV)
/-- an exception: its class, its fields -/
structure PX where
  c : Nat
  fs : List (Nat × Int)

inductive Res (α : Type) where
  | ok (a : α) (μ : Store)
  | ex (e : PX) (μ : Store)
  | bad
def Res.bind {α β : Type} (r : Res α) (f : α → Store → Res β) : Res β := match r with
  | .ok a μ => f a μ
  | .ex e μ => .ex e μ
  | .bad => .bad
@[simp] theorem Res.bind_ok {α β : Type} (a : α) (μ : Store) (f : α → Store → Res β) : (Res.ok a μ).bind f = f a μ := rfl
@[simp] theorem Res.bind_ex {α β : Type} (e : PX) (μ : Store) (f : α → Store → Res β) : (Res.ex e μ : Res α).bind f = .ex e μ := rfl
@[simp] theorem Res.bind_bad {α β : Type} (f : α → Store → Res β) : (Res.bad : Res α).bind f = .bad := rfl
def Res.ofO {α : Type} (o : Option α) (μ : Store) : Res α := match o with
  | some a => .ok a μ
  | none => .bad
@[simp] theorem Res.ofO_some {α : Type} (a : α) (μ : Store) : Res.ofO (some a) μ = .ok a μ := rfl
@[simp] theorem Res.ofO_none {α : Type} (μ : Store) : (Res.ofO none μ : Res α) = .bad := rfl

inductive Op where
  | add | sub | mul | fdiv | mod | pow | shl | bor | band
inductive Cm where
  | eq | ne | lt | le | gt | ge | is | isnot | inn | notin
inductive Bi where
  | len | abs | min | max | sorted | int | str | list | tuple | any | all | sum | divmod | minD
inductive Bm where
  | append | extend | clear | insert | index | pop | reverse | count | get | join | split | partition | startswith
inductive Ty where
  | int | bool | str | tuple | list | dict | own (c : Nat) | ve
/-- a target -/
inductive Tg where
  | nm (i : Nat) | tup (ts : List Tg)

mutual
inductive IE where
  | con (v : PV) | var (i : Nat) | bin (o : Op) (a b : IE) | neg (a : IE) | cmp (o : Cm) (a b : IE)
  | chain (o o2 : Cm) (a b c : IE) | and (a b : IE) | or (a b : IE) | not (a : IE) | ite (c : IT) (a b : IE)
  | tup (es : List IE) | lst (es : List IE) | idx (a i : IE) | slc (a : IE) (lo hi : Option IE) | revl (a : IE)
  | fld (a : IE) (f : Nat) | call (f : Nat) (es : List IE) | meth (m : Nat) (a : IE) (es : List IE)
  | make (c : Nat) (es : List IE) | bi (b : Bi) (es : List IE) | bm (m : Bm) (a : IE) (es : List IE)
  | isin (a : IE) (ts : List Ty) | lc (e : IE) (t : Tg) (it : It) (c : Option IT) (own : List Nat) | dic | xfld (f : Nat) | xis (ts : List Ty) | clo (e : IE) | callv (a : IE) (es : List IE)
inductive IT where
  | val (e : IE) | and (a b : IT) | or (a b : IT) | not (a : IT)
inductive It where
  | seq (e : IE) | enum (e : IE) | zip (a b : IE) | rev (e : IE) | rng (es : List IE) | rrng (es : List IE)
end

inductive IS where
  | set (i : Nat) (e : IE) | asg (t : Tg) (e : IE) | par (is : List Nat) (es : List IE) | sub (a i e : IE) | sfld (a : IE) (f : Nat) (e : IE)
  | aug (i : Nat) (o : Op) (e : IE) | augS (a i : IE) (o : Op) (e : IE) | ex (e : IE) | ret (e : IE) | ifs (c : IT) (a b : List IS)
  | wh (c : IT) (b : List IS) | for (t : Tg) (it : It) (b : List IS) | brk | cnt | pass | raise (c : Nat) (es : List IE)
  | try (b : List IS) (hs : List (List Ty × Option Nat × List IS))

/-! ### values -/
/-- data, for == -/
def toD : Nat → Store → PV → Option PyData
  | _, _, .non => some .none
  | _, _, .bl b => some (.bool b)
  | _, _, .int i => some (.int i)
  | _, _, .str s => some (.str s)
  | n + 1, μ, .tup xs => (xs.mapM (toD n μ)).map .tuple
  | n + 1, μ, .loc l => match μ[l]? with
    | some (.lst xs) => (xs.mapM (toD n μ)).map .list
    | some (.frz xs) => (xs.mapM (toD n μ)).map .list
    | _ => none
  | _, _, _ => none
def intsOf : List PV → Option (List Int)
  | [] => some []
  | .int i :: r => (intsOf r).map (i :: ·)
  | _ => none
def pairsOf : List PV → Option (List (Int × Int))
  | [] => some []
  | .tup [.int i, .int j] :: r => (pairsOf r).map ((i, j) :: ·)
  | _ => none
def pairPV (p : Int × Int) : PV := .tup [.int p.1, .int p.2]
def lexLe (p q : Int × Int) : Bool := decide (p.1 < q.1 ∨ (p.1 = q.1 ∧ p.2 ≤ q.2))
def strsOf : List PV → Option (List Str)
  | [] => some []
  | .str i :: r => (strsOf r).map (i :: ·)
  | _ => none
def signPV (c : Nat) : PV := .str ⟨#[c]⟩
/-- a text of one sign -/
def signOf (s : Str) : Option Nat := match s.cps.toList with
  | [c] => some c
  | _ => none
def boolsOf : List PV → Option (List Bool)
  | [] => some []
  | .bl i :: r => (boolsOf r).map (i :: ·)
  | _ => none
def truthy (μ : Store) : PV → Option Bool
  | .non => some false
  | .bl b => some b
  | .int i => some (i != 0)
  | .str s => if s.length ≤ sizeLine then some (s.length != 0) else none
  | .tup xs => some (!xs.isEmpty)
  | .loc l => match μ[l]? with
    | some (.lst xs) => some (!xs.isEmpty)
    | some (.frz xs) => some (!xs.isEmpty)
    | _ => none
/-- a list's items -/
def listAt (μ : Store) : PV → Option (List PV)
  | .loc l => match μ[l]? with
    | some (.lst xs) => some xs
    | some (.frz xs) => some xs
    | _ => none
  | _ => none
/-- two lists of unlike lengths -/
def lenB (μ : Store) : PV → PV → Option Bool
  | .loc a, .loc b => match listAt μ (.loc a), listAt μ (.loc b) with
    | some xs, some ys => if xs.length = ys.length then none else some false
    | _, _ => none
  | _, _ => none
/-- two texts -/
def strB : PV → PV → Option Bool
  | .str a, .str b => some (decide (a = b))
  | _, _ => none
def eqB (μ : Store) (x y : PV) : Option Bool := match toD 12 μ x, toD 12 μ y with
  | some d, some e => if SeqAt.shaped d = true ∧ SeqAt.shaped e = true then some (PyData.eqv d e) else strB x y
  | _, _ => lenB μ x y
def seqAt (μ : Store) : PV → Option (List PV)
  | .tup xs => some xs
  | .loc l => match μ[l]? with
    | some (.lst xs) => some xs
    | some (.frz xs) => some xs
    | _ => none
  | _ => none
/-- lists that must stand meanwhile, with their items -/
abbrev Sts := List (Nat × List PV)
/-- what may be walked by its items -/
def seqOf (μ : Store) : PV → Option (List PV × Sts)
  | .tup xs => some (xs, [])
  | .str s => some (s.cps.toList.map signPV, [])
  | .loc l => (listAt μ (.loc l)).map fun xs => (xs, [(l, xs)])
  | _ => none
def cut {α : Type} (xs : List α) (lo hi : Option Int) : List α := (xs.drop (HT.sIx xs.length 0 lo)).take (HT.sIx xs.length xs.length hi - HT.sIx xs.length 0 lo)
def look {α : Type} (k : Nat) : List (Nat × α) → Option α
  | [] => none
  | (j, v) :: r => if j = k then some v else look k r
def put {α : Type} (k : Nat) (v : α) : List (Nat × α) → List (Nat × α)
  | [] => [(k, v)]
  | (j, u) :: r => if j = k then (j, v) :: r else (j, u) :: put k v r

/-! ### operators -/
def mulOk (a b : Int) : Prop := a.natAbs.log2 + b.natAbs.log2 < 100000000
instance (a b : Int) : Decidable (mulOk a b) := inferInstanceAs (Decidable (_ < _))
def divOk (a b : Int) : Prop := b ≠ 0 ∧ b.natAbs.log2 < 9000
instance (a b : Int) : Decidable (divOk a b) := inferInstanceAs (Decidable (_ ∧ _))
def powOk (a b : Int) : Prop := 0 ≤ b ∧ b ≤ 1000000 ∧ a.natAbs < 2 ^ 64
instance (a b : Int) : Decidable (powOk a b) := inferInstanceAs (Decidable (_ ∧ _ ∧ _))
/-- a text, repeated -/
def repS (a : Str) (n : Nat) : Str := ⟨(List.replicate n a.cps).foldl (· ++ ·) #[]⟩
def binV : Op → PV → PV → Store → Res PV
  | .add, .int a, .int b, μ => .ok (.int (a + b)) μ
  | .add, .str a, .str b, μ => if a.length + b.length ≤ sizeLine then .ok (.str (a ++ b)) μ else .bad
  | .add, .tup a, .tup b, μ => if a.length + b.length ≤ sizeLine then .ok (.tup (a ++ b)) μ else .bad
  | .add, .loc a, .loc b, μ => match μ[a]?, μ[b]? with
    | some (.lst xs), some (.lst ys) => if xs.length + ys.length ≤ sizeLine then .ok (.loc μ.length) (μ ++ [.lst (xs ++ ys)]) else .bad
    | _, _ => .bad
  | .sub, .int a, .int b, μ => .ok (.int (a - b)) μ
  | .mul, .int a, .int b, μ => if mulOk a b then .ok (.int (a * b)) μ else .bad
  | .mul, .tup xs, .int k, μ => if xs ≠ [] ∧ 2 ≤ k ∧ k ≤ 1000 ∧ xs.length ≤ 1000 then .ok (.tup (List.replicate k.toNat xs).flatten) μ else .bad
  | .mul, .str a, .int k, μ => if 0 ≤ k ∧ k ≤ 1000 ∧ a.length ≤ 1000 then .ok (.str (repS a k.toNat)) μ else .bad
  | .mul, .loc a, .int k, μ => match μ[a]? with
    | some (.lst xs) => if -(2 ^ 63) ≤ k ∧ k < 2 ^ 63 ∧ xs.length * k.toNat ≤ sizeLine then .ok (.loc μ.length) (μ ++ [.lst (List.replicate k.toNat xs).flatten]) else .bad
    | _ => .bad
  | .fdiv, .int a, .int b, μ => if divOk a b then .ok (.int (a.fdiv b)) μ else .bad
  | .mod, .int a, .int b, μ => if b ≠ 0 then .ok (.int (a.fmod b)) μ else .bad
  | .pow, .int a, .int b, μ => if powOk a b then .ok (.int (a ^ b.toNat)) μ else .bad
  | .shl, .int a, .int b, μ => if powOk a b then .ok (.int (a * 2 ^ b.toNat)) μ else .bad
  | .bor, .int a, .int b, μ => .ok (.int (Builtin.bitOr a b)) μ
  | .band, .int a, .int b, μ => .ok (.int (Builtin.bitAnd a b)) μ
  | _, _, _, _ => .bad
def negV : PV → Store → Res PV
  | .int a, μ => .ok (.int (-a)) μ
  | _, _ => .bad
def isNon : PV → Option Bool
  | .non => some true
  | _ => some false
/-- one of them is equal -/
def dicAt (μ : Store) : PV → Option (List (List Int × PV))
  | .loc l => match μ[l]? with
    | some (.dic kvs) => some kvs
    | _ => none
  | _ => none
def keyOf : PV → Option (List Int)
  | .tup xs => intsOf xs
  | _ => none
def dlook (k : List Int) : List (List Int × PV) → Option PV
  | [] => none
  | p :: r => if p.1 = k then some p.2 else dlook k r
def dput (k : List Int) (v : PV) (kvs : List (List Int × PV)) : List (List Int × PV) :=
  if (kvs.any fun p => decide (p.1 = k)) = true then kvs.map (fun p => if p.1 = k then (p.1, v) else p) else kvs ++ [(k, v)]
def inD (μ : Store) (x y : PV) : Option Bool := match dicAt μ y, keyOf x with
  | some kvs, some k => some (dlook k kvs).isSome
  | _, _ => none
/-- a sign in a text -/
def inS : PV → PV → Option Bool
  | .str a, .str z => (signOf a).map fun c => decide (c ∈ z.cps.toList)
  | _, _ => none
def inB (μ : Store) (x y : PV) : Option Bool := match seqAt μ y with
  | some ys => match toD 12 μ x, ys.mapM (toD 12 μ) with
    | some d, some ds => if SeqAt.shaped d = true ∧ SeqAt.shaped (.list ds) = true then some (ds.any fun z => PyData.eqv z d) else none
    | _, _ => none
  | none => match inS x y with
    | some b => some b
    | none => inD μ x y
def cmpV : Cm → PV → PV → Store → Res PV
  | .eq, x, y, μ => (Res.ofO (eqB μ x y) μ).bind fun b μ => .ok (.bl b) μ
  | .ne, x, y, μ => (Res.ofO (eqB μ x y) μ).bind fun b μ => .ok (.bl (!b)) μ
  | .lt, .int a, .int b, μ => .ok (.bl (decide (a < b))) μ
  | .le, .int a, .int b, μ => .ok (.bl (decide (a ≤ b))) μ
  | .gt, .int a, .int b, μ => .ok (.bl (decide (b < a))) μ
  | .ge, .int a, .int b, μ => .ok (.bl (decide (b ≤ a))) μ
  | .lt, .tup a, .tup b, μ => match intsOf a, intsOf b with
    | some xs, some ys => .ok (.bl (HT.lexLt xs ys)) μ
    | _, _ => .bad
  | .le, .tup [.int a, .loc l], .tup [.int c, .loc m], μ => match toD 12 μ (.tup [.int a, .loc l]), toD 12 μ (.tup [.int c, .loc m]) with
    | some (.tuple ds), some e => if PySem.W.alike (.tuple ds) e = true ∧ (PyData.tuple ds).depth ≤ 64 then .ok (.bl (!PySem.W.dataLt e (.tuple ds))) μ else .bad
    | _, _ => .bad
  | .le, .tup a, .tup b, μ => match intsOf a, intsOf b with
    | some [a, b], some [c, d] => .ok (.bl (decide (a < c ∨ (a = c ∧ b ≤ d)))) μ
    | _, _ => .bad
  | .ge, .tup a, .tup b, μ => match intsOf a, intsOf b with
    | some [a, b], some [c, d] => .ok (.bl (decide (c < a ∨ (a = c ∧ d ≤ b)))) μ
    | _, _ => .bad
  | .is, x, .non, μ => (Res.ofO (isNon x) μ).bind fun b μ => .ok (.bl b) μ
  | .is, .bl a, .bl b, μ => .ok (.bl (decide (a = b))) μ
  | .is, .int _, .bl _, μ => .ok (.bl false) μ
  | .isnot, .bl a, .bl b, μ => .ok (.bl (!decide (a = b))) μ
  | .isnot, .int _, .bl _, μ => .ok (.bl true) μ
  | .isnot, x, .non, μ => (Res.ofO (isNon x) μ).bind fun b μ => .ok (.bl (!b)) μ
  | .inn, x, y, μ => (Res.ofO (inB μ x y) μ).bind fun b μ => .ok (.bl b) μ
  | .notin, x, y, μ => (Res.ofO (inB μ x y) μ).bind fun b μ => .ok (.bl (!b)) μ
  | _, _, _, _ => .bad
def idxV : PV → PV → Store → Res PV
  | .tup xs, .int i, μ => Res.ofO (L2.atI xs i) μ
  | .loc l, .int i, μ => (Res.ofO (listAt μ (.loc l)) μ).bind fun xs μ => Res.ofO (L2.atI xs i) μ
  | .loc l, .tup ks, μ => Res.ofO ((dicAt μ (.loc l)).bind fun kvs => (intsOf ks).bind fun k => dlook k kvs) μ
  | .str z, .int i, μ => if z.length ≤ sizeLine then Res.ofO ((L2.atI z.cps.toList i).map signPV) μ else .bad
  | _, _, _ => .bad
/-- an item of a list -/
def lixV : PV → PV → Store → Res PV
  | .loc l, .int i, μ => (Res.ofO (listAt μ (.loc l)) μ).bind fun xs μ => Res.ofO (L2.atI xs i) μ
  | _, _, _ => .bad
def isInt : PV → Bool
  | .int _ => true
  | _ => false
def part : Option PV → Option (Option Int)
  | none => some none
  | some (.int i) => some (some i)
  | _ => none
def slcV (x : PV) (lo hi : Option PV) (μ : Store) : Res PV := match part lo, part hi with
  | some l, some h => match x with
    | .loc n => (Res.ofO (listAt μ (.loc n)) μ).bind fun xs μ => .ok (.loc μ.length) (μ ++ [.lst (cut xs l h)])
    | .tup xs => .ok (.tup (cut xs l h)) μ
    | .str z => if z.length ≤ sizeLine then .ok (.str (L2.cutS z l h)) μ else .bad
    | _ => .bad
  | _, _ => .bad
def fldV : PV → Nat → Store → Res PV
  | .loc n, f, μ => match μ[n]? with
    | some (.ins _ fs) => Res.ofO (look f fs) μ
    | _ => .bad
  | _, _, _ => .bad
/-! ### built-in functions -/
def biV : Bi → List PV → Store → Res PV
  | .len, [.tup xs], μ => .ok (.int xs.length) μ
  | .len, [.loc l], μ => (Res.ofO (listAt μ (.loc l)) μ).bind fun xs μ => .ok (.int xs.length) μ
  | .len, [.str s], μ => if s.length ≤ sizeLine then .ok (.int s.length) μ else .bad
  | .abs, [.int i], μ => .ok (.int (if i < 0 then -i else i)) μ
  | .max, [.int i, .int j], μ => .ok (.int (if j > i then j else i)) μ
  | .min, [.int i, .int j], μ => .ok (.int (if j < i then j else i)) μ
  | .max, [.tup [.int a, .int b], .tup [.int c, .int d]], μ => .ok (.tup (if HT.lexLt [a, b] [c, d] = true then [.int c, .int d] else [.int a, .int b])) μ
  | .min, [.tup [.int a, .int b], .tup [.int c, .int d]], μ => .ok (.tup (if HT.lexLt [c, d] [a, b] = true then [.int c, .int d] else [.int a, .int b])) μ
  | .max, [.tup [.int i, .int j]], μ => .ok (.int (if j > i then j else i)) μ
  | .min, [.tup [.int i, .int j]], μ => .ok (.int (if j < i then j else i)) μ
  | .max, [.loc l], μ => match (listAt μ (.loc l)).bind intsOf with
    | some (n :: ns) => .ok (.int (ns.foldl max n)) μ
    | _ => .bad
  | .min, [.loc l], μ => match (listAt μ (.loc l)).bind intsOf with
    | some (n :: ns) => .ok (.int (ns.foldl min n)) μ
    | _ => .bad
  | .minD, [.loc l, .int d], μ => match (listAt μ (.loc l)).bind intsOf with
    | some [] => .ok (.int d) μ
    | some (n :: ns) => .ok (.int (ns.foldl min n)) μ
    | none => .bad
  | .sorted, [.loc l], μ => match (listAt μ (.loc l)).bind intsOf with
    | some ns => if ns.length < 64 then .ok (.loc μ.length) (μ ++ [.lst ((ns.mergeSort (fun a b => decide (a ≤ b))).map .int)]) else .bad
    | none => match (listAt μ (.loc l)).bind pairsOf with
      | some ps => .ok (.loc μ.length) (μ ++ [.lst ((ps.mergeSort lexLe).map pairPV)])
      | none => .bad
  | .int, [.int i], μ => .ok (.int i) μ
  | .int, [.bl b], μ => .ok (.int (if b then 1 else 0)) μ
  | .int, [.str a], μ => if a.length ≤ 640 then Res.ofO ((PySem.intText? a).map .int) μ else .bad
  | .str, [.int i], μ => if i.natAbs.log2 < 1920 then .ok (.str (toString i)) μ else .bad
  | .list, [x], μ => (Res.ofO (seqAt μ x) μ).bind fun xs μ => .ok (.loc μ.length) (μ ++ [.lst xs])
  | .tuple, [x], μ => (Res.ofO (seqAt μ x) μ).bind fun xs μ => .ok (.tup xs) μ
  | .any, [.loc l], μ => match (listAt μ (.loc l)).bind boolsOf with
    | some bs => .ok (.bl (bs.any id)) μ
    | none => .bad
  | .all, [.loc l], μ => match (listAt μ (.loc l)).bind boolsOf with
    | some bs => .ok (.bl (bs.all id)) μ
    | none => .bad
  | .divmod, [.int i, .int j], μ => if divOk i j then .ok (.tup [.int (i.fdiv j), .int (i.fmod j)]) μ else .bad
  | _, _, _ => .bad
def bmOk : Bm → PV → Store → Bool
  | .append, x, μ => (listAt μ x).isSome
  | .extend, x, μ => (listAt μ x).isSome
  | .clear, x, μ => (listAt μ x).isSome
  | .reverse, x, μ => (listAt μ x).isSome
  | .insert, x, μ => (listAt μ x).isSome
  | .index, x, μ => (listAt μ x).isSome
  | .get, x, μ => (dicAt μ x).isSome
  | .split, .str _, _ => true
  | .partition, .str _, _ => true
  | .startswith, .str _, _ => true
  | .join, .str _, _ => true
  | _, _, _ => false
def bmV : Bm → PV → List PV → Store → Res PV
  | .append, .loc l, [x], μ => match μ[l]? with
    | some (.lst xs) => if xs.length < sizeLine then .ok .non (μ.set l (.lst (xs ++ [x]))) else .bad
    | _ => .bad
  | .extend, .loc l, [.loc m], μ => match μ[l]?, μ[m]? with
    | some (.lst xs), some (.lst ys) => if xs.length + ys.length ≤ sizeLine then .ok .non (μ.set l (.lst (xs ++ ys))) else .bad
    | _, _ => .bad
  | .clear, .loc l, [], μ => match μ[l]? with
    | some (.lst _) => .ok .non (μ.set l (.lst []))
    | _ => .bad
  | .reverse, .loc l, [], μ => match μ[l]? with
    | some (.lst xs) => .ok .non (μ.set l (.lst xs.reverse))
    | _ => .bad
  | .insert, .loc l, [.int i, x], μ => match μ[l]? with
    | some (.lst xs) => if xs.length < sizeLine ∧ 0 ≤ i ∧ i ≤ 1000000 then .ok .non (μ.set l (.lst (xs.take i.toNat ++ [x] ++ xs.drop i.toNat))) else .bad
    | _ => .bad
  | .index, .loc l, [x], μ => match listAt μ (.loc l) with
    | some ys => match toD 12 μ x, ys.mapM (toD 12 μ) with
      | some d, some ds => if SeqAt.shaped d = true ∧ SeqAt.shaped (.list ds) = true ∧ ds.findIdx (fun z => PyData.eqv z d) < ds.length then .ok (.int (ds.findIdx fun z => PyData.eqv z d : Nat)) μ else .bad
      | _, _ => .bad
    | none => .bad
  | .get, .loc l, [x, d], μ => match dicAt μ (.loc l), keyOf x with
    | some kvs, some k => .ok ((dlook k kvs).getD d) μ
    | _, _ => .bad
  | .split, .str a, [.str b], μ => if b.length ≠ 0 ∧ a.length + 2 ≤ sizeLine then .ok (.loc μ.length) (μ ++ [.lst ((Txt.split a b).map .str)]) else .bad
  | .partition, .str a, [.str b], μ => if b.length ≠ 0 ∧ a.length ≤ sizeLine then .ok (.tup [.str (Txt.partition a b).1, .str (Txt.partition a b).2.1, .str (Txt.partition a b).2.2]) μ else .bad
  | .startswith, .str a, [.str b], μ => .ok (.bl (Txt.startswith a b)) μ
  | .join, .str a, [.loc l], μ => match (listAt μ (.loc l)).bind strsOf with
    | some ys => if (ys.map (·.length)).sum + ys.length * a.length ≤ 16777216 then .ok (.str (Txt.join a ys)) μ else .bad
    | none => .bad
  | _, _, _, _ => .bad

/-- a op= b: no list is changed by it -/
def augV : Op → PV → PV → Store → Res PV
  | .add, .int a, .int b, μ => .ok (.int (a + b)) μ
  | .sub, .int a, .int b, μ => .ok (.int (a - b)) μ
  | .mul, .int a, .int b, μ => if mulOk a b then .ok (.int (a * b)) μ else .bad
  | _, _, _, _ => .bad

/-! ### the program -/
structure Fn where
  slots : Nat
  np : Nat
  body : List IS
structure Cl where
  init : Option Nat
  meth : List (Nat × Nat)
  sup : List Nat
  exf : List Nat
  exk : Nat
structure Prog where
  fn : List Fn
  cl : List Cl
  /-- the def within a def -/
  nf : List Fn
inductive Tag where
  | non | bl | int | str | lst | tup | dic | ins (c : Nat) | exc (c : Nat)
  deriving DecidableEq
def tagOf (μ : Store) : PV → Option Tag
  | .non => some .non
  | .bl _ => some .bl
  | .int _ => some .int
  | .str _ => some .str
  | .tup _ => some .tup
  | .loc l => match μ[l]? with
    | some (.lst _) => some .lst
    | some (.frz _) => some .lst
    | some (.dic _) => some .dic
    | some (.clo _) => none
    | some .dead => none
    | some (.ins c _) => some (.ins c)
    | none => none
def isTag (P : Prog) : Tag → Ty → Option Bool
  | .bl, .int => some true
  | .bl, .bool => some true
  | .int, .int => some true
  | .str, .str => some true
  | .lst, .list => some true
  | .tup, .tuple => some true
  | .dic, .dict => some true
  | .ins c, .own d => P.cl[c]?.map fun C => C.sup.contains d
  | .exc c, .own d => P.cl[c]?.map fun C => C.sup.contains d
  | .exc _, .ve => some true
  | _, _ => some false
def isTags (P : Prog) (g : Tag) : List Ty → Option Bool
  | [] => some false
  | t :: r => match isTag P g t with
    | some true => some true
    | some false => isTags P g r
    | none => none
abbrev Den := Nat → List PV → Store → Res PV

/-! ### walks -/
/-- these lists stand as they were -/
def stand (μ : Store) (ls : Sts) : Prop := ∀ q ∈ ls, listAt μ (.loc q.1) = some q.2
def rngOk (lo hi c : Int) : Prop := c ≠ 0 ∧ c.natAbs < 1073741824 ∧ Builtin.Range.small lo hi c = true ∧ 0 ≤ Builtin.Range.rangeSize lo hi c
instance (lo hi c : Int) : Decidable (rngOk lo hi c) := inferInstanceAs (Decidable (_ ∧ _ ∧ _ ∧ _))
def rng1 (lo hi : Int) : Prop := -(2 ^ 62) ≤ lo ∧ lo < 2 ^ 62 ∧ -(2 ^ 62) ≤ hi ∧ hi < 2 ^ 62
instance (lo hi : Int) : Decidable (rng1 lo hi) := inferInstanceAs (Decidable (_ ∧ _ ∧ _ ∧ _))
def rngV (lo c : Int) (n : Nat) : List PV := (List.range n).map fun k => .int (lo + (k : Nat) * c)
def rngOf : List PV → Option (List PV)
  | [.int hi] => if rng1 0 hi then some (rngV 0 1 hi.toNat) else none
  | [.int lo, .int hi] => if rng1 lo hi then some (rngV lo 1 (hi - lo).toNat) else none
  | [.int lo, .int hi, .int c] => if rngOk lo hi c then some (rngV lo c (Builtin.Range.rangeSize lo hi c).toNat) else none
  | _ => none
/-- the same from its end -/
def rrngOf : List PV → Option (List PV)
  | [.int hi] => if rng1 0 hi then some (rngV (0 + (hi.toNat : Nat) - 1) (-1) hi.toNat) else none
  | [.int lo, .int hi] => if rng1 lo hi then some (rngV (lo + ((hi - lo).toNat : Nat) - 1) (-1) (hi - lo).toNat) else none
  | _ => none
mutual
def asg (t : Tg) (v : PV) (ρ : Env) (μ : Store) : Option Env := match t with
  | .nm i => some (ρ.set i (some v))
  | .tup ts => match seqAt μ v with
    | some vs => asgs ts vs ρ μ
    | none => none
def asgs (ts : List Tg) (vs : List PV) (ρ : Env) (μ : Store) : Option Env := match ts with
  | [] => match vs with
    | [] => some ρ
    | _ :: _ => none
  | t :: ts => match vs with
    | [] => none
    | v :: vs => (asg t v ρ μ).bind fun ρ => asgs ts vs ρ μ
end
def wipe (ρ : Env) : List Nat → Env
  | [] => ρ
  | v :: vs => (wipe ρ vs).set v none

inductive Fl where
  | nx (ρ : Env) | bk (ρ : Env) | ct (ρ : Env) | rt (v : PV) | ex (e : PX) (ρ : Env)
inductive RS where
  | mk (f : Fl) (μ : Store)
  | bad
def RS.seq (r : RS) (k : Env → Store → RS) : RS := match r with
  | .mk (.nx ρ) μ => k ρ μ
  | r => r
@[simp] theorem RS.seq_nx (ρ : Env) (μ : Store) (k : Env → Store → RS) : (RS.mk (.nx ρ) μ).seq k = k ρ μ := rfl
@[simp] theorem RS.seq_bk (ρ : Env) (μ : Store) (k : Env → Store → RS) : (RS.mk (.bk ρ) μ).seq k = .mk (.bk ρ) μ := rfl
@[simp] theorem RS.seq_ct (ρ : Env) (μ : Store) (k : Env → Store → RS) : (RS.mk (.ct ρ) μ).seq k = .mk (.ct ρ) μ := rfl
@[simp] theorem RS.seq_rt (v : PV) (μ : Store) (k : Env → Store → RS) : (RS.mk (.rt v) μ).seq k = .mk (.rt v) μ := rfl
@[simp] theorem RS.seq_ex (e : PX) (ρ : Env) (μ : Store) (k : Env → Store → RS) : (RS.mk (.ex e ρ) μ).seq k = .mk (.ex e ρ) μ := rfl
@[simp] theorem RS.seq_bad (k : Env → Store → RS) : RS.bad.seq k = .bad := rfl
/-- no exception -/
def RS.nox (r : RS) : RS := match r with
  | .mk (.ex _ _) _ => .bad
  | r => r
/-- a slot goes -/
def RS.gone (i : Nat) (r : RS) : RS := match r with
  | .mk (.nx ρ2) μ2 => .mk (.nx (ρ2.set i none)) μ2
  | .mk (.bk ρ2) μ2 => .mk (.bk (ρ2.set i none)) μ2
  | .mk (.ct ρ2) μ2 => .mk (.ct (ρ2.set i none)) μ2
  | r => r
/-- an expression's result, at a statement with the slots ρ -/
def Res.st {α : Type} (r : Res α) (ρ : Env) (k : α → Store → RS) : RS := match r with
  | .ok a μ => k a μ
  | .ex e μ => .mk (.ex e ρ) μ
  | .bad => .bad
@[simp] theorem Res.st_ok {α : Type} (a : α) (μ : Store) (ρ : Env) (k : α → Store → RS) : (Res.ok a μ).st ρ k = k a μ := rfl
@[simp] theorem Res.st_ex {α : Type} (e : PX) (μ : Store) (ρ : Env) (k : α → Store → RS) : (Res.ex e μ : Res α).st ρ k = .mk (.ex e ρ) μ := rfl
@[simp] theorem Res.st_bad {α : Type} (ρ : Env) (k : α → Store → RS) : (Res.bad : Res α).st ρ k = .bad := rfl

/-- a comprehension: its items so far in acc -/
noncomputable def lcDen (ls : Sts) (ρ : Env) (t : Tg) (c : Env → Store → Res Bool) (e : Env → Store → Res PV) : List PV → List PV → Store → Res (List PV) := open Classical in fun xs acc μ => match xs with
  | [] => if stand μ ls then .ok acc μ else .bad
  | x :: xs => if stand μ ls then (match asg t x ρ μ with
    | some ρ1 => match c ρ1 μ with
      | .ok true μ1 => match e ρ1 μ1 with
        | .ok v μ2 => if acc.length < sizeLine then lcDen ls ρ t c e xs (acc ++ [v]) μ2 else .bad
        | _ => .bad
      | .ok false μ1 => lcDen ls ρ t c e xs acc μ1
      | _ => .bad
    | none => .bad) else .bad
/-- a for -/
noncomputable def forDen (ls : Sts) (t : Tg) (b : Env → Store → RS) : List PV → Env → Store → RS := open Classical in fun xs ρ μ => match xs with
  | [] => if stand μ ls then .mk (.nx ρ) μ else .bad
  | x :: xs => if stand μ ls then (match asg t x ρ μ with
    | some ρ1 => match b ρ1 μ with
      | .mk (.nx ρ2) μ2 => forDen ls t b xs ρ2 μ2
      | .mk (.ct ρ2) μ2 => forDen ls t b xs ρ2 μ2
      | .mk (.bk ρ2) μ2 => .mk (.nx ρ2) μ2
      | r => r
    | none => .bad) else .bad
/-- a while, n turns at most -/
def whN (c : Env → Store → Res Bool) (b : Env → Store → RS) : Nat → Env → Store → Option RS
  | 0, _, _ => none
  | n + 1, ρ, μ => match c ρ μ with
    | .ok true μ1 => match b ρ μ1 with
      | .mk (.nx ρ2) μ2 => whN c b n ρ2 μ2
      | .mk (.ct ρ2) μ2 => whN c b n ρ2 μ2
      | .mk (.bk ρ2) μ2 => some (.mk (.nx ρ2) μ2)
      | r => some r
    | .ok false μ1 => some (.mk (.nx ρ) μ1)
    | .ex e μ1 => some (.mk (.ex e ρ) μ1)
    | .bad => some .bad
noncomputable def whDen (c : Env → Store → Res Bool) (b : Env → Store → RS) (ρ : Env) (μ : Store) : RS := open Classical in
  if h : ∃ n r, whN c b n ρ μ = some r then h.choose_spec.choose else .bad

/-! ### expressions -/
section
variable (P : Prog) (D : Den) (xv : Option PX)
def instCls (μ : Store) : PV → Option (Nat × Nat)
  | .loc n => match μ[n]? with
    | some (.ins c _) => some (n, c)
    | _ => none
  | _ => none
/-- what a function keeps -/
def cloAt (μ : Store) : PV → Option PV
  | .loc n => match μ[n]? with
    | some (.clo v) => some v
    | _ => none
  | _ => none
/-- such functions are out of sight -/
def hushC : Cell → Cell
  | .clo _ => .dead
  | c => c
def hush (μ : Store) : Store := μ.map hushC
/-- the call of such a function: it changes nothing -/
noncomputable def clv (x : PV) (xs : List PV) (μ : Store) : Res PV := open Classical in match cloAt μ x with
  | some v => match D P.fn.length (xs ++ [v]) (hush μ) with
    | .ok r μ' => if μ' = hush μ then .ok r μ else .bad
    | _ => .bad
  | none => .bad
def methOf (μ : Store) (m : Nat) (x : PV) : Option Nat := (instCls μ x).bind fun q => P.cl[q.2]?.bind fun C => look m C.meth
mutual
noncomputable def evE : IE → Env → Store → Res PV
  | .con v, _, μ => .ok v μ
  | .var i, ρ, μ => match ρ[i]? with
    | some (some v) => .ok v μ
    | _ => .bad
  | .bin o a b, ρ, μ => (evE a ρ μ).bind fun x μ => (evE b ρ μ).bind fun y μ => binV o x y μ
  | .neg a, ρ, μ => (evE a ρ μ).bind negV
  | .cmp o a b, ρ, μ => (evE a ρ μ).bind fun x μ => (evE b ρ μ).bind fun y μ => cmpV o x y μ
  | .chain o o2 a b c, ρ, μ => (evE a ρ μ).bind fun x μ => (evE b ρ μ).bind fun y μ => (cmpV o x y μ).bind fun k μ => match k with
    | .bl true => (evE c ρ μ).bind fun z μ => cmpV o2 y z μ
    | .bl false => .ok (.bl false) μ
    | _ => .bad
  | .and a b, ρ, μ => (evE a ρ μ).bind fun x μ => match x with
    | .bl true => evE b ρ μ
    | .bl false => .ok (.bl false) μ
    | _ => .bad
  | .or a b, ρ, μ => (evE a ρ μ).bind fun x μ => match x with
    | .bl true => .ok (.bl true) μ
    | .bl false => evE b ρ μ
    | _ => .bad
  | .not a, ρ, μ => (evE a ρ μ).bind fun x μ => match x with
    | .bl b => .ok (.bl (!b)) μ
    | _ => .bad
  | .ite c a b, ρ, μ => (evT c ρ μ).bind fun k μ => if k = true then evE a ρ μ else evE b ρ μ
  | .tup es, ρ, μ => (evEs es ρ μ).bind fun xs μ => if xs.length ≤ sizeLine then .ok (.tup xs) μ else .bad
  | .lst es, ρ, μ => (evEs es ρ μ).bind fun xs μ => if xs.length ≤ sizeLine then .ok (.loc μ.length) (μ ++ [.lst xs]) else .bad
  | .xfld f, _, μ => match xv with
    | some e => Res.ofO ((look f e.fs).map .int) μ
    | none => .bad
  | .xis ts, _, μ => match xv with
    | some e => (Res.ofO (isTags P (.exc e.c) ts) μ).bind fun b μ => .ok (.bl b) μ
    | none => .bad
  | .revl a, ρ, μ => (evE a ρ μ).bind fun x μ => (Res.ofO (listAt μ x) μ).bind fun xs μ => .ok (.loc μ.length) (μ ++ [.lst xs.reverse])
  | .dic, _, μ => .ok (.loc μ.length) (μ ++ [.dic []])
  | .clo a, ρ, μ => (evE a ρ μ).bind fun v μ => .ok (.loc μ.length) (μ ++ [.clo v])
  | .callv a es, ρ, μ => (evE a ρ μ).bind fun x μ => if (cloAt μ x).isSome = true then (evEs es ρ μ).bind fun xs μ => clv P D x xs μ else .bad
  | .idx a i, ρ, μ => (evE a ρ μ).bind fun x μ => (evE i ρ μ).bind fun y μ => idxV x y μ
  | .slc a none none, ρ, μ => (evE a ρ μ).bind fun x μ => slcV x none none μ
  | .slc a (some l) none, ρ, μ => (evE a ρ μ).bind fun x μ => (evE l ρ μ).bind fun l μ => slcV x (some l) none μ
  | .slc a none (some h), ρ, μ => (evE a ρ μ).bind fun x μ => (evE h ρ μ).bind fun h μ => slcV x none (some h) μ
  | .slc a (some l) (some h), ρ, μ => (evE a ρ μ).bind fun x μ => (evE l ρ μ).bind fun l μ => if isInt l = true then (evE h ρ μ).bind fun h μ => slcV x (some l) (some h) μ else .bad
  | .fld a f, ρ, μ => (evE a ρ μ).bind fun x μ => fldV x f μ
  | .call f es, ρ, μ => (evEs es ρ μ).bind fun xs μ => D f xs μ
  | .meth m a es, ρ, μ => (evE a ρ μ).bind fun x μ => match methOf P μ m x with
    | some f => (evEs es ρ μ).bind fun xs μ => D f (x :: xs) μ
    | none => .bad
  | .make c es, ρ, μ => (evEs es ρ μ).bind fun xs μ => match P.cl[c]?.bind (·.init) with
    | some f => (D f (.loc μ.length :: xs) (μ ++ [.ins c []])).bind fun v μ1 => match v with
      | .non => .ok (.loc μ.length) μ1
      | _ => .bad
    | none => .bad
  | .bi b es, ρ, μ => (evEs es ρ μ).bind fun xs μ => biV b xs μ
  | .bm m a es, ρ, μ => (evE a ρ μ).bind fun x μ => if bmOk m x μ = true then (evEs es ρ μ).bind fun xs μ => bmV m x xs μ else .bad
  | .isin a ts, ρ, μ => (evE a ρ μ).bind fun x μ => (Res.ofO ((tagOf μ x).bind fun g => isTags P g ts) μ).bind fun b μ => .ok (.bl b) μ
  | .lc e t it none own, ρ, μ => (evIt it ρ μ).bind fun q μ => (lcDen q.2 (wipe ρ own) t (fun _ μ => .ok true μ) (fun ρ μ => evE e ρ μ) q.1 [] μ).bind fun xs μ => .ok (.loc μ.length) (μ ++ [.lst xs])
  | .lc e t it (some c) own, ρ, μ => (evIt it ρ μ).bind fun q μ => (lcDen q.2 (wipe ρ own) t (fun ρ μ => evT c ρ μ) (fun ρ μ => evE e ρ μ) q.1 [] μ).bind fun xs μ => .ok (.loc μ.length) (μ ++ [.lst xs])
noncomputable def evEs : List IE → Env → Store → Res (List PV)
  | [], _, μ => .ok [] μ
  | e :: es, ρ, μ => (evE e ρ μ).bind fun x μ => (evEs es ρ μ).bind fun xs μ => .ok (x :: xs) μ
noncomputable def evT : IT → Env → Store → Res Bool
  | .val e, ρ, μ => (evE e ρ μ).bind fun x μ => Res.ofO (truthy μ x) μ
  | .and a b, ρ, μ => (evT a ρ μ).bind fun k μ => if k = true then evT b ρ μ else .ok false μ
  | .or a b, ρ, μ => (evT a ρ μ).bind fun k μ => if k = true then .ok true μ else evT b ρ μ
  | .not a, ρ, μ => (evT a ρ μ).bind fun k μ => .ok (!k) μ
/-- what is walked: the items; the lists that must stand meanwhile -/
noncomputable def evIt : It → Env → Store → Res (List PV × Sts)
  | .seq e, ρ, μ => (evE e ρ μ).bind fun x μ => Res.ofO (seqOf μ x) μ
  | .enum e, ρ, μ => (evE e ρ μ).bind fun x μ => Res.ofO ((seqOf μ x).bind fun q => match x with
    | .loc _ => some (q.1.mapIdx fun k v => .tup [.int (k : Nat), v], q.2)
    | _ => none) μ
  | .zip a b, ρ, μ => (evE a ρ μ).bind fun x μ => (evE b ρ μ).bind fun y μ => Res.ofO ((seqOf μ x).bind fun q => (seqOf μ y).bind fun r => match x, y with
    | .loc _, .loc _ => some (List.zipWith (fun u v => .tup [u, v]) q.1 r.1, q.2 ++ r.2)
    | _, _ => none) μ
  | .rev e, ρ, μ => (evE e ρ μ).bind fun x μ => Res.ofO ((seqOf μ x).bind fun q => match x with
    | .loc _ => some (q.1.reverse, q.2)
    | _ => none) μ
  | .rng es, ρ, μ => (evEs es ρ μ).bind fun xs μ => Res.ofO ((rngOf xs).map fun vs => (vs, [])) μ
  | .rrng es, ρ, μ => (evEs es ρ μ).bind fun xs μ => Res.ofO ((rrngOf xs).map fun vs => (vs, [])) μ
end
/-! ### statements -/
end
section
variable (P : Prog) (D : Den)
mutual
noncomputable def evS : IS → Option PX → Env → Store → RS
  | .set i e, xv, ρ, μ => (evE P D xv e ρ μ).st ρ fun x μ => .mk (.nx (ρ.set i (some x))) μ
  | .asg t e, xv, ρ, μ => (evE P D xv e ρ μ).st ρ fun x μ => match asg t x ρ μ with
    | some ρ1 => .mk (.nx ρ1) μ
    | none => .bad
  | .par [i, j] es, xv, ρ, μ => (evEs P D xv es ρ μ).st ρ fun xs μ => match xs with
    | [v, w] => .mk (.nx ((ρ.set i (some v)).set j (some w))) μ
    | _ => .bad
  | .par [i, j, k] es, xv, ρ, μ => (evEs P D xv es ρ μ).st ρ fun xs μ => match xs with
    | [v, w, z] => .mk (.nx (((ρ.set i (some v)).set j (some w)).set k (some z))) μ
    | _ => .bad
  | .par _ _, _, _, _ => .bad
  | .sub a i e, xv, ρ, μ => (evE P D xv e ρ μ).st ρ fun v μ => (evE P D xv a ρ μ).st ρ fun x μ => (evE P D xv i ρ μ).st ρ fun y μ => match x, y with
    | .loc l, .int k => match μ[l]? with
      | some (.lst xs) => match L2.ixN xs.length k with
        | some j => .mk (.nx ρ) (μ.set l (.lst (xs.set j v)))
        | none => .bad
      | _ => .bad
    | .loc l, .tup ks => match μ[l]?, intsOf ks with
      | some (.dic kvs), some k => if kvs.length < sizeLine then .mk (.nx ρ) (μ.set l (.dic (dput k v kvs))) else .bad
      | _, _ => .bad
    | _, _ => .bad
  | .sfld a f e, xv, ρ, μ => (evE P D xv e ρ μ).st ρ fun v μ => (evE P D xv a ρ μ).st ρ fun x μ => match x with
    | .loc l => match μ[l]? with
      | some (.ins c fs) => if fs.length < 1000 then .mk (.nx ρ) (μ.set l (.ins c (put f v fs))) else .bad
      | _ => .bad
    | _ => .bad
  | .aug i o e, xv, ρ, μ => match ρ[i]? with
    | some (some x) => (evE P D xv e ρ μ).st ρ fun y μ => (augV o x y μ).st ρ fun z μ => .mk (.nx (ρ.set i (some z))) μ
    | _ => .bad
  | .augS a i o e, xv, ρ, μ => (evE P D xv a ρ μ).st ρ fun x μ => (evE P D xv i ρ μ).st ρ fun y μ => (lixV x y μ).st ρ fun u μ => (evE P D xv e ρ μ).st ρ fun v μ => (augV o u v μ).st ρ fun z μ => match x, y with
    | .loc l, .int k => match μ[l]? with
      | some (.lst xs) => match L2.ixN xs.length k with
        | some j => .mk (.nx ρ) (μ.set l (.lst (xs.set j z)))
        | none => .bad
      | _ => .bad
    | _, _ => .bad
  | .ex e, xv, ρ, μ => (evE P D xv e ρ μ).st ρ fun _ μ => .mk (.nx ρ) μ
  | .ret e, xv, ρ, μ => (evE P D xv e ρ μ).st ρ fun x μ => .mk (.rt x) μ
  | .ifs c a b, xv, ρ, μ => (evT P D xv c ρ μ).st ρ fun k μ => if k = true then evSs a xv ρ μ else evSs b xv ρ μ
  | .wh c b, xv, ρ, μ => whDen (fun ρ μ => evT P D xv c ρ μ) (fun ρ μ => evSs b xv ρ μ) ρ μ
  | .for t it b, xv, ρ, μ => (evIt P D xv it ρ μ).st ρ fun q μ => forDen q.2 t (fun ρ μ => evSs b xv ρ μ) q.1 ρ μ
  | .brk, xv, ρ, μ => .mk (.bk ρ) μ
  | .cnt, xv, ρ, μ => .mk (.ct ρ) μ
  | .pass, xv, ρ, μ => .mk (.nx ρ) μ
  | .raise c es, xv, ρ, μ => (evEs P D xv es ρ μ).st ρ fun xs μ => match P.cl[c]? with
    | some C => match intsOf xs with
      | some ns => if ns.length = C.exf.length then .mk (.ex ⟨c, C.exf.zip ns⟩ ρ) μ else .bad
      | none => .bad
    | none => .bad
  | .try b hs, xv, ρ, μ => match evSs b xv ρ μ with
    | .mk (.ex e ρ1) μ1 => evHs hs e ρ1 μ1
    | r => r
noncomputable def evSs : List IS → Option PX → Env → Store → RS
  | [], _, ρ, μ => .mk (.nx ρ) μ
  | s :: ss, xv, ρ, μ => (evS s xv ρ μ).seq fun ρ μ => evSs ss xv ρ μ
noncomputable def evHs : List (List Ty × Option Nat × List IS) → PX → Env → Store → RS
  | [], e, ρ, μ => .mk (.ex e ρ) μ
  | (ts, none, b) :: hs, e, ρ, μ => match isTags P (.exc e.c) ts with
    | some true => (evSs b none ρ μ).nox
    | some false => evHs hs e ρ μ
    | none => .bad
  | (ts, some i, b) :: hs, e, ρ, μ => match isTags P (.exc e.c) ts with
    | some true => if i < ρ.length then ((evSs b (some e) (ρ.set i none) μ).nox).gone i else .bad
    | some false => evHs hs e ρ μ
    | none => .bad
end
/-- a def's run -/
def RS.out (r : RS) : Res PV := match r with
  | .mk (.nx _) μ => .ok .non μ
  | .mk (.rt v) μ => .ok v μ
  | .mk (.ex e _) μ => .ex e μ
  | _ => .bad
end
noncomputable def den (P : Prog) : Nat → Den
  | 0, _, _, _ => .bad
  | n + 1, f, args, μ => match (P.fn ++ P.nf)[f]? with
    | some F => if args.length = F.np then (evSs P (den P n) F.body none (args.map some ++ List.replicate (F.slots - F.np) none) μ).out else .bad
    | none => .bad
end BW
set_option maxHeartbeats 4000000
/-! t >= u of two tuples of whole numbers. -/
namespace BW
open PySem PySem.Spec PyProof.Rows L2
def rGeT (K : PySem.W.Frag) : R2 := fun x y H Q => ∃ (a b : Addr) (ns ms : List Int), x = .ref a ∧ y = .ref b ∧ SqT K H a (ns.map V.int) ∧ SqT K H b (ms.map V.int) ∧
  Q (.bl (Ob.lexAt (fun j => decide (ns.getD j 0 = ms.getD j 0)) (fun j => decide (ms.getD j 0 ≤ ns.getD j 0)) (decide (ns.length ≥ ms.length)) 0 (min ns.length ms.length))) H
theorem op_geT {X : Cx} (hu : X.A.units < cLine) : OpR X (compareOp .GtE) (rGeT X.K) := by
  intro pins s σ H x y v u Q I rx ry h
  obtain ⟨a, b, ns, ms, rfl, rfl, ha, hb, q⟩ := h
  cases rx
  cases ry
  obtain ⟨its, r1, p1, _⟩ := I.tuple ha
  obtain ⟨its2, r2, p2, _⟩ := I.tuple hb
  have i1 : IntsAre its ns := Vals.ints r1
  have i2 : IntsAre its2 ms := Vals.ints r2
  have e1 : its.toArray.size = ns.length := by rw [List.size_toArray]; exact i1.length
  have e2 : its2.toArray.size = ms.length := by rw [List.size_toArray]; exact i2.length
  have at1 : ∀ j (h1 : j < its.toArray.size), ∃ t, its.toArray[j] = .int (ns.getD j 0) t := fun j h1 => PyProof.Rows.IntsAre.int_at i1 _ _ (by simp at h1; simp [h1])
  have at2 : ∀ j (h1 : j < its2.toArray.size), ∃ t, its2.toArray[j] = .int (ms.getD j 0) t := fun j h1 => PyProof.Rows.IntsAre.int_at i2 _ _ (by simp at h1; simp [h1])
  have R := Ob.RcOp.tuples_ge (A := X.A) (s := s) (e := fun j => decide (ns.getD j 0 = ms.getD j 0)) (r := fun j => decide (ms.getD j 0 ≤ ns.getD j 0)) p1 p2 hu (fun j h1 h2 => by
    obtain ⟨t, et⟩ := at1 j h1
    obtain ⟨t', et'⟩ := at2 j h2
    rw [et, et']
    have z : (ns.getD j 0 == ms.getD j 0) = decide (ns.getD j 0 = ms.getD j 0) := by
      by_cases q : ns.getD j 0 = ms.getD j 0
      · rw [decide_eq_true q]; exact beq_iff_eq.mpr q
      · rw [decide_eq_false q]; exact beq_eq_false_iff_ne.mpr q
    rw [← z]
    exact SeqAt.EqAt.int_int _ _ _ _) (fun j h1 h2 _ => by
    obtain ⟨t, et⟩ := at1 j h1
    obtain ⟨t', et'⟩ := at2 j h2
    rw [et, et']
    exact Ob.RcOp.ge_int _ _ _ _)
  rw [e1, e2] at R
  have z : wpAny (model X.prog X.w) X.A (compareOp .GtE (.ref a) (.ref b)) (EP X pins σ Q) X.xe s := R X.prog X.w X.xe (EP X pins σ Q) ⟨.bl _, H, I, rfl, q⟩
  exact z
theorem lexAt_le (a b c d : Int) : Ob.lexAt (fun j => decide (([a, b] : List Int).getD j 0 = [c, d].getD j 0)) (fun j => decide (([a, b] : List Int).getD j 0 ≤ [c, d].getD j 0)) (decide (([a, b] : List Int).length ≤ ([c, d] : List Int).length)) 0 (min ([a, b] : List Int).length ([c, d] : List Int).length) = decide (a < c ∨ (a = c ∧ b ≤ d)) := by
  show (if decide (a = c) = true then (if decide (b = d) = true then true else decide (b ≤ d)) else decide (a ≤ c)) = _
  by_cases h1 : a = c
  · by_cases h2 : b = d
    · simp [h1, h2]
    · simp [h1, h2]
  · simp only [h1, decide_false, Bool.false_eq_true, if_false, false_and, or_false, decide_eq_decide]
    omega
theorem lexAt_ge (a b c d : Int) : Ob.lexAt (fun j => decide (([a, b] : List Int).getD j 0 = [c, d].getD j 0)) (fun j => decide (([c, d] : List Int).getD j 0 ≤ [a, b].getD j 0)) (decide (([a, b] : List Int).length ≥ ([c, d] : List Int).length)) 0 (min ([a, b] : List Int).length ([c, d] : List Int).length) = decide (c < a ∨ (a = c ∧ d ≤ b)) := by
  show (if decide (a = c) = true then (if decide (b = d) = true then true else decide (d ≤ b)) else decide (c ≤ a)) = _
  by_cases h1 : a = c
  · by_cases h2 : b = d
    · simp [h1, h2]
    · simp [h1, h2]
  · simp only [h1, decide_false, Bool.false_eq_true, if_false, false_and, or_false, decide_eq_decide]
    omega
end BW
set_option maxHeartbeats 4000000
/-! What the small language's values and store are in the hand layer's heap. -/
namespace BW
open PySem PySem.Spec PyProof.Rows L2 LamX NdefX

/-- the written part, the classes' addresses, the fields' names, the classes that have instances -/
structure G where
  K : PySem.W.Frag
  ca : Nat → Addr
  fnm : Nat → Str
  ic : Nat → Prop
  xk : Nat → Prop
  /-- the function that keeps a value: its words; what it keeps; the table of its code -/
  nF : List (Str × Addr) → Addr → NF
  nx : Str
  tb : Option (Addr × (Nat → Nat → Str))
def RXf (g : G) (H : Hp) (d : Option Addr) (fs : List (Nat × Int)) : Prop :=
  (fs = [] ∧ d = none) ∨ ∃ dd fvs, d = some dd ∧ H dd = some (.xd fvs) ∧ ∀ f i, look f fs = some i → fvs.lookup (g.fnm f) = some (.int i)
mutual
def RV (g : G) (H : Hp) (ι : List Addr) : PV → V → Prop
  | .non, v => v = .non
  | .bl b, v => v = .bl b
  | .int i, v => v = .int i
  | .str s, v => v = .str s
  | .tup xs, v => ∃ a vs, v = .ref a ∧ H a = some (.tup vs) ∧ RVs g H ι xs vs
  | .loc n, v => ∃ a, ι[n]? = some a ∧ v = .ref a
def RVs (g : G) (H : Hp) (ι : List Addr) : List PV → List V → Prop
  | [], vs => vs = []
  | x :: xs, vs => ∃ v r, vs = v :: r ∧ RV g H ι x v ∧ RVs g H ι xs r
end
def RFs (g : G) (H : Hp) (ι : List Addr) : List (Nat × PV) → List (Str × V) → Prop
  | [], vs => vs = []
  | x :: xs, vs => ∃ v r, vs = (g.fnm x.1, v) :: r ∧ RV g H ι x.2 v ∧ RFs g H ι xs r
/-- a dict's entries: keys are tuples of whole numbers -/
def RKs (g : G) (H : Hp) (ι : List Addr) : List (List Int × PV) → List (List Key × V) → Prop
  | [], vs => vs = []
  | x :: xs, vs => ∃ v r, vs = (x.1.map Sum.inl, v) :: r ∧ RV g H ι x.2 v ∧ RKs g H ι xs r
def frz : Cell → Bool
  | .frz _ => true
  | .clo _ => true
  | .dead => true
  | _ => false
def RC (g : G) (H : Hp) (ι : List Addr) (a : Addr) : Cell → Prop
  | .lst xs => ∃ vs, H a = some (.lst vs) ∧ RVs g H ι xs vs
  | .frz xs => ∃ vs, ((∃ o, H a = some (.frz o (.lst vs))) ∨ ∃ (o : Obj) (its : Array Value) (n : Nat), g.K.lookup a = some o ∧ o.cls = .type "list" ∧ o.dict = none ∧ o.data = .seq its n ∧ its.size ≤ sizeLine ∧ Vals vs its.toList) ∧ RVs g H ι xs vs
  | .ins c fs => ∃ dx fvs, H a = some (.ins (g.ca c) dx fvs) ∧ RFs g H ι fs fvs ∧ g.ic c
  | .dic kvs => ∃ dvs, H a = some (.dT dvs) ∧ RKs g H ι kvs dvs
  | .clo v => ∃ cl c u c', H a = some (FnO a (g.nF cl c')) ∧ H c' = some (CodeO c' (g.nF cl c').qual) ∧ OneC cl g.nx c ∧ H c = some (CellO c u) ∧ RV g H ι v u
  | .dead => True
/-- the address of what may change -/
def Own (ι : List Addr) (μ : Store) (a : Addr) : Prop := ∃ (n : Nat) (c : Cell), ι[n]? = some a ∧ μ[n]? = some c ∧ frz c = false
structure RM (g : G) (H : Hp) (ι : List Addr) (μ : Store) : Prop where
  len : ι.length = μ.length
  at_ : ∀ (n : Nat) c, μ[n]? = some c → ∃ a, ι[n]? = some a ∧ RC g H ι a c
  sep : ∀ (n m : Nat) a c d, n ≠ m → ι[n]? = some a → ι[m]? = some a → μ[n]? = some c → μ[m]? = some d → frz c = true ∨ frz d = true
  tab : ∀ p, g.tb = some p → TabN H p.1 p.2
def tblH : HO → Bool
  | .tbl _ => true
  | _ => false
structure Ext (H : Hp) (ι : List Addr) (μ : Store) (H' : Hp) (ι' : List Addr) (μ' : Store) : Prop where
  pre : ι <+: ι'
  stay : ∀ a o, H a = some o → ¬ Own ι μ a → tblH o = false → H' a = some o
  new : ∀ a, Own ι' μ' a → Own ι μ a ∨ H a = none
  there : ∀ a, H' a = none → H a = none
def RX (g : G) (H : Hp) (cls : Value) (d : Option Addr) (e : PX) : Prop := cls = .ref (g.ca e.c) ∧ g.xk e.c ∧ RXf g H d e.fs
/-- the exception that is handled: what it is; its slot, address, class, dict -/
abbrev XB := Option (PX × Nat × Addr × Value × Option Addr)
abbrev XB.v (xb : XB) : Option PX := xb.map (·.1)
structure RE (g : G) (xb : XB) (H : Hp) (ι : List Addr) (σ : L2.St) (ρ : Env) : Prop where
  len : σ.length = ρ.length
  at_ : ∀ (i : Nat) pv, ρ[i]? = some (some pv) → ∃ v, σ[i]? = some (some v) ∧ RV g H ι pv v
  exc : ∀ q, xb = some q → σ[q.2.1]? = some (some (.ref q.2.2.1)) ∧ RX g H q.2.2.2.1 q.2.2.2.2 q.1

section
variable {g : G} {H H1 H2 H' : Hp} {ι ι1 ι2 ι' : List Addr} {μ μ1 μ2 μ' : Store}
theorem get_pre {α : Type} {l l' : List α} (p : l <+: l') {n : Nat} {a : α} (h : l[n]? = some a) : l'[n]? = some a := by
  obtain ⟨r, rfl⟩ := p
  rw [List.getElem?_append_left (List.getElem?_eq_some_iff.mp h).1]
  exact h
theorem Ext.refl : Ext H ι μ H ι μ := ⟨List.prefix_rfl, fun _ _ h _ _ => h, fun _ h => .inl h, fun _ h => h⟩
theorem Ext.trans (x : Ext H ι μ H1 ι1 μ1) (y : Ext H1 ι1 μ1 H2 ι2 μ2) : Ext H ι μ H2 ι2 μ2 := by
  refine ⟨x.pre.trans y.pre, fun a o h n ht => y.stay a o (x.stay a o h n ht) (fun q => ?_) ht, fun a q => ?_, fun a h => x.there a (y.there a h)⟩
  · rcases x.new a q with z | z
    · exact n z
    · rw [h] at z; cases z
  · rcases y.new a q with z | z
    · exact x.new a z
    · exact .inr (x.there a z)
/-- what stands at the address of what may change -/
def mutH : HO → Bool
  | .lst _ => true
  | .ins _ _ _ => true
  | .dT _ => true
  | _ => false
theorem RM.own (r : RM g H ι μ) {a : Addr} (h : Own ι μ a) : ∃ o, H a = some o ∧ mutH o = true := by
  obtain ⟨n, c, h1, h2, h3⟩ := h
  obtain ⟨b, e, rc⟩ := r.at_ n c h2
  rw [h1] at e; cases e
  cases c with
  | lst xs => obtain ⟨vs, e, _⟩ := rc; exact ⟨_, e, rfl⟩
  | frz xs => cases h3
  | ins c fs => obtain ⟨dx, fvs, e, _⟩ := rc; exact ⟨_, e, rfl⟩
  | dic kvs => obtain ⟨dvs, e, _⟩ := rc; exact ⟨_, e, rfl⟩
  | clo v => cases h3
  | dead => cases h3
theorem RM.notOwn (r : RM g H ι μ) {a : Addr} {o : HO} (h : H a = some o) (h1 : mutH o = false) : ¬ Own ι μ a := fun q => by
  obtain ⟨o', e, z⟩ := r.own q
  rw [h] at e
  cases e
  rw [h1] at z
  cases z
theorem RM.tup (r : RM g H ι μ) (x : Ext H ι μ H' ι' μ') {a : Addr} {vs : List V} (h : H a = some (.tup vs)) : H' a = some (.tup vs) := x.stay a _ h (r.notOwn h rfl) rfl
theorem RXf.mono (r : RM g H ι μ) (x : Ext H ι μ H' ι' μ') {d : Option Addr} {fs : List (Nat × Int)} (h : RXf g H d fs) : RXf g H' d fs := by
  rcases h with h | ⟨dd, fvs, h1, h2, h3⟩
  · exact .inl h
  · exact .inr ⟨dd, fvs, h1, x.stay dd _ h2 (r.notOwn h2 rfl) rfl, h3⟩
mutual
theorem RV.mono (r : RM g H ι μ) (x : Ext H ι μ H' ι' μ') : ∀ {pv : PV} {v : V}, RV g H ι pv v → RV g H' ι' pv v
  | .non, _, h => h
  | .bl _, _, h => h
  | .int _, _, h => h
  | .str _, _, h => h
  | .tup xs, _, h => by
    obtain ⟨a, vs, e, h1, h2⟩ := h
    exact ⟨a, vs, e, r.tup x h1, RVs.mono r x h2⟩
  | .loc n, _, h => by
    obtain ⟨a, e, h1⟩ := h
    exact ⟨a, get_pre x.pre e, h1⟩
theorem RVs.mono (r : RM g H ι μ) (x : Ext H ι μ H' ι' μ') : ∀ {pvs : List PV} {vs : List V}, RVs g H ι pvs vs → RVs g H' ι' pvs vs
  | [], _, h => h
  | p :: ps, _, h => by
    obtain ⟨v, q, e, h1, h2⟩ := h
    exact ⟨v, q, e, RV.mono r x h1, RVs.mono r x h2⟩
end
theorem RFs.mono (r : RM g H ι μ) (x : Ext H ι μ H' ι' μ') : ∀ {fs : List (Nat × PV)} {vs : List (Str × V)}, RFs g H ι fs vs → RFs g H' ι' fs vs
  | [], _, h => h
  | p :: ps, _, h => by
    obtain ⟨v, q, e, h1, h2⟩ := h
    exact ⟨v, q, e, RV.mono r x h1, RFs.mono r x h2⟩
theorem RKs.mono (r : RM g H ι μ) (x : Ext H ι μ H' ι' μ') : ∀ {fs : List (List Int × PV)} {vs : List (List Key × V)}, RKs g H ι fs vs → RKs g H' ι' fs vs
  | [], _, h => h
  | p :: ps, _, h => by
    obtain ⟨v, q, e, h1, h2⟩ := h
    exact ⟨v, q, e, RV.mono r x h1, RKs.mono r x h2⟩
theorem RE.mono {xb : XB} {σ : L2.St} {ρ : Env} (r : RM g H ι μ) (x : Ext H ι μ H' ι' μ') (h : RE g xb H ι σ ρ) : RE g xb H' ι' σ ρ :=
  ⟨h.1, fun i pv e => let ⟨v, e1, rv⟩ := h.2 i pv e; ⟨v, e1, rv.mono r x⟩, fun q hq => let ⟨h1, h2⟩ := h.3 q hq; ⟨h1, h2.1, h2.2.1, h2.2.2.mono r x⟩⟩
/-- the same store, nothing of it changed -/
theorem RC.mono (r : RM g H ι μ) (x : Ext H ι μ H' ι' μ') {a : Addr} {c : Cell} (hH : frz c = false → H' a = H a) (h : RC g H ι a c) : RC g H' ι' a c := by
  cases c with
  | lst xs => obtain ⟨vs, e, h1⟩ := h; exact ⟨vs, (hH rfl).trans e, h1.mono r x⟩
  | frz xs =>
    obtain ⟨vs, e, h1⟩ := h
    refine ⟨vs, ?_, h1.mono r x⟩
    rcases e with ⟨o, e⟩ | e
    · exact .inl ⟨o, x.stay a _ e (r.notOwn e rfl) rfl⟩
    · exact .inr e
  | ins c fs => obtain ⟨dx, fvs, e, h1, h2⟩ := h; exact ⟨dx, fvs, (hH rfl).trans e, h1.mono r x, h2⟩
  | dic kvs => obtain ⟨dvs, e, h1⟩ := h; exact ⟨dvs, (hH rfl).trans e, h1.mono r x⟩
  | clo v =>
    obtain ⟨cl, c, u, c', h1, h2, h3, h4, h5⟩ := h
    exact ⟨cl, c, u, c', x.stay a _ h1 (r.notOwn h1 rfl) rfl, x.stay c' _ h2 (r.notOwn h2 rfl) rfl, h3, x.stay c _ h4 (r.notOwn h4 rfl) rfl, h5.mono r x⟩
  | dead => trivial
/-- a table of code objects stays where what does not change stays -/
theorem tab_keep {P : Addr} {nm : Nat → Nat → Str} (t : TabN H P nm) (k : ∀ b o, H b = some o → mutH o = false → H' b = some o) : TabN H' P nm := by
  obtain ⟨ps, h1, h2, h3⟩ := t
  refine ⟨ps, k _ _ h1 rfl, h2, fun pos cv e => ?_⟩
  obtain ⟨c, e1, e2⟩ := h3 pos cv e
  exact ⟨c, e1, k _ _ e2 rfl⟩
theorem RVs.length : ∀ {pvs : List PV} {vs : List V}, RVs g H ι pvs vs → pvs.length = vs.length
  | [], _, h => by cases (show _ = [] from h); rfl
  | p :: ps, _, h => by
    obtain ⟨v, q, rfl, h1, h2⟩ := h
    simp [RVs.length h2]
theorem RVs.append : ∀ {ps qs : List PV} {vs ws : List V}, RVs g H ι ps vs → RVs g H ι qs ws → RVs g H ι (ps ++ qs) (vs ++ ws)
  | [], _, _, _, h, h' => by cases (show _ = [] from h); exact h'
  | p :: ps, _, _, _, h, h' => by
    obtain ⟨v, q, rfl, h1, h2⟩ := h
    exact ⟨v, _, rfl, h1, RVs.append h2 h'⟩
theorem RVs.get : ∀ {ps : List PV} {vs : List V} {i : Nat} {p : PV}, RVs g H ι ps vs → ps[i]? = some p → ∃ v, vs[i]? = some v ∧ RV g H ι p v
  | [], _, _, _, _, e => by simp at e
  | p :: ps, _, 0, _, h, e => by
    obtain ⟨v, q, rfl, h1, h2⟩ := h
    simp at e; subst e
    exact ⟨v, rfl, h1⟩
  | p :: ps, _, i + 1, _, h, e => by
    obtain ⟨v, q, rfl, h1, h2⟩ := h
    obtain ⟨u, e1, r1⟩ := RVs.get (i := i) h2 (by simpa using e)
    exact ⟨u, by simpa using e1, r1⟩
theorem RVs.drop : ∀ {ps : List PV} {vs : List V} (n : Nat), RVs g H ι ps vs → RVs g H ι (ps.drop n) (vs.drop n)
  | _, _, 0, h => h
  | [], _, _ + 1, h => by cases (show _ = [] from h); exact h
  | p :: ps, _, n + 1, h => by
    obtain ⟨v, q, rfl, h1, h2⟩ := h
    exact RVs.drop n h2
theorem RVs.take : ∀ {ps : List PV} {vs : List V} (n : Nat), RVs g H ι ps vs → RVs g H ι (ps.take n) (vs.take n)
  | _, _, 0, h => rfl
  | [], _, _ + 1, h => by cases (show _ = [] from h); exact h
  | p :: ps, _, n + 1, h => by
    obtain ⟨v, q, rfl, h1, h2⟩ := h
    exact ⟨v, _, rfl, h1, RVs.take n h2⟩
theorem RVs.set {p : PV} {v : V} (r : RV g H ι p v) : ∀ {ps : List PV} {vs : List V} (n : Nat), RVs g H ι ps vs → RVs g H ι (ps.set n p) (vs.set n v)
  | [], _, _, h => by cases (show _ = [] from h); exact h
  | q :: ps, _, 0, h => by
    obtain ⟨v', q', rfl, h1, h2⟩ := h
    exact ⟨v, _, rfl, r, h2⟩
  | q :: ps, _, n + 1, h => by
    obtain ⟨v', q', rfl, h1, h2⟩ := h
    exact ⟨v', _, rfl, h1, RVs.set r n h2⟩
theorem RVs.one {p : PV} {v : V} (r : RV g H ι p v) : RVs g H ι [p] [v] := ⟨v, [], rfl, r, rfl⟩
theorem RVs.rev : ∀ {ps : List PV} {vs : List V}, RVs g H ι ps vs → RVs g H ι ps.reverse vs.reverse
  | [], _, h => by cases (show _ = [] from h); exact h
  | p :: ps, _, h => by
    obtain ⟨v, q, rfl, h1, h2⟩ := h
    rw [List.reverse_cons, List.reverse_cons]
    exact (RVs.rev h2).append (.one h1)
theorem RVs.nil_iff {ps : List PV} {vs : List V} (r : RVs g H ι ps vs) : vs = [] ↔ ps = [] := by
  have := r.length
  constructor
  · rintro rfl
    exact List.eq_nil_of_length_eq_zero (by simpa using this)
  · rintro rfl
    exact List.eq_nil_of_length_eq_zero (by simpa using this.symm)
theorem RVs.ints : ∀ {ps : List PV} {vs : List V} {ns : List Int}, RVs g H ι ps vs → intsOf ps = some ns → vs = ns.map V.int
  | [], _, ns, h, e => by
    cases (show _ = [] from h)
    cases (show some [] = some ns from e)
    rfl
  | p :: ps, _, ns, h, e => by
    obtain ⟨v, q, rfl, h1, h2⟩ := h
    cases p with
    | int i =>
      cases (show v = .int i from h1)
      have e' : (intsOf ps).map (i :: ·) = some ns := e
      cases q1 : intsOf ps with
      | none => rw [q1] at e'; cases e'
      | some ms =>
        rw [q1] at e'
        cases (show some (i :: ms) = some ns from e')
        rw [RVs.ints h2 q1]; rfl
    | _ => cases e
theorem RVs.of_ints : ∀ (ns : List Int), RVs g H ι (ns.map PV.int) (ns.map V.int)
  | [] => rfl
  | n :: ns => ⟨.int n, _, rfl, rfl, RVs.of_ints ns⟩
theorem RVs.bools : ∀ {ps : List PV} {vs : List V} {ns : List Bool}, RVs g H ι ps vs → boolsOf ps = some ns → vs = ns.map V.bl
  | [], _, ns, h, e => by
    cases (show _ = [] from h)
    cases (show some [] = some ns from e)
    rfl
  | p :: ps, _, ns, h, e => by
    obtain ⟨v, q, rfl, h1, h2⟩ := h
    cases p with
    | bl i =>
      cases (show v = .bl i from h1)
      have e' : (boolsOf ps).map (i :: ·) = some ns := e
      cases q1 : boolsOf ps with
      | none => rw [q1] at e'; cases e'
      | some ms =>
        rw [q1] at e'
        cases (show some (i :: ms) = some ns from e')
        rw [RVs.bools h2 q1]; rfl
    | _ => cases e
theorem RVs.cut {ps : List PV} {vs : List V} (lo hi : Option Int) (r : RVs g H ι ps vs) : RVs g H ι (cut ps lo hi) (cutV vs lo hi) := by
  unfold BW.cut cutV
  rw [← r.length]
  exact (r.drop _).take _
theorem RFs.length : ∀ {pvs : List (Nat × PV)} {vs : List (Str × V)}, RFs g H ι pvs vs → pvs.length = vs.length
  | [], _, h => by cases (show _ = [] from h); rfl
  | p :: ps, _, h => by
    obtain ⟨v, q, rfl, h1, h2⟩ := h
    simp [RFs.length h2]
theorem RFs.look (inj : ∀ i j, g.fnm i = g.fnm j → i = j) {f : Nat} {p : PV} : ∀ {fs : List (Nat × PV)} {vs : List (Str × V)}, RFs g H ι fs vs → look f fs = some p → ∃ v, vs.lookup (g.fnm f) = some v ∧ RV g H ι p v
  | [], _, _, e => by cases e
  | (j, u) :: ps, _, h, e => by
    obtain ⟨v, q, rfl, h1, h2⟩ := h
    unfold BW.look at e
    by_cases hj : j = f
    · rw [if_pos hj] at e
      cases e
      subst hj
      exact ⟨v, by simp [List.lookup], h1⟩
    · rw [if_neg hj] at e
      obtain ⟨w, e1, r1⟩ := RFs.look inj h2 e
      refine ⟨w, ?_, r1⟩
      have : (g.fnm f == g.fnm j) = false := by
        simp only [beq_eq_false_iff_ne, ne_eq]
        exact fun z => hj (inj _ _ z).symm
      simp [List.lookup, this, e1]
theorem RFs.put (inj : ∀ i j, g.fnm i = g.fnm j → i = j) {f : Nat} {p : PV} {v : V} (r : RV g H ι p v) : ∀ {fs : List (Nat × PV)} {vs : List (Str × V)}, RFs g H ι fs vs → RFs g H ι (put f p fs) (putF (g.fnm f) v vs)
  | [], _, h => by cases (show _ = [] from h); exact ⟨v, _, rfl, r, rfl⟩
  | (j, u) :: ps, _, h => by
    obtain ⟨w, q, rfl, h1, h2⟩ := h
    unfold BW.put putF
    by_cases hj : j = f
    · subst hj
      rw [if_pos rfl, if_pos rfl]
      exact ⟨v, _, rfl, r, h2⟩
    · rw [if_neg hj, if_neg fun z => hj (inj _ _ z)]
      exact ⟨w, _, rfl, h1, RFs.put inj r h2⟩
theorem RFs.none (inj : ∀ i j, g.fnm i = g.fnm j → i = j) {m : Str} (hm : ∀ f, g.fnm f ≠ m) : ∀ {fs : List (Nat × PV)} {vs : List (Str × V)}, RFs g H ι fs vs → vs.lookup m = none
  | [], _, h => by cases (show _ = [] from h); rfl
  | (j, u) :: ps, _, h => by
    obtain ⟨w, q, rfl, h1, h2⟩ := h
    have : (m == g.fnm j) = false := by
      simp only [beq_eq_false_iff_ne, ne_eq]
      exact fun z => hm j z.symm
    simp [List.lookup, this, RFs.none inj hm h2]

/-! ### new things, changed things -/
theorem own_app {c : Cell} {p : Addr} (len : ι.length = μ.length) {a : Addr} (h : Own (ι ++ [p]) (μ ++ [c]) a) : Own ι μ a ∨ a = p := by
  obtain ⟨n, d, h1, h2, h3⟩ := h
  by_cases hn : n < ι.length
  · rw [List.getElem?_append_left hn] at h1
    rw [List.getElem?_append_left (by omega)] at h2
    exact .inl ⟨n, d, h1, h2, h3⟩
  · rw [List.getElem?_append_right (by omega)] at h1
    right
    cases e : n - ι.length with
    | zero => rw [e] at h1; simpa using h1.symm
    | succ k => rw [e] at h1; simp at h1
/-- a thing that is laid beside the store -/
theorem Ext.laid {p : Addr} {o : HO} (hp : H p = none) : Ext H ι μ (upd H p o) ι μ :=
  ⟨List.prefix_rfl, fun a o' h _ _ => by rw [upd_ne (ne_of_none h hp)]; exact h, fun a h => .inl h, fun a h => by
    by_cases z : a = p
    · subst z; exact hp
    · rw [upd_ne z] at h; exact h⟩
theorem RM.laid {p : Addr} {o : HO} (r : RM g H ι μ) (hp : H p = none) : RM g (upd H p o) ι μ :=
  ⟨r.len, fun n c e => by
    obtain ⟨a, e1, rc⟩ := r.at_ n c e
    refine ⟨a, e1, rc.mono r (Ext.laid hp) fun hf => ?_⟩
    rw [upd_ne]
    rintro rfl
    obtain ⟨_, z, _⟩ := r.own ⟨n, c, e1, e, hf⟩
    (rw [hp] at z; cases z), r.sep, fun q hq => tab_keep (r.tab q hq) fun b o' e _ => by rw [upd_ne (ne_of_none e hp)]; exact e⟩
/-- a new cell -/
theorem Ext.push {p : Addr} {o : HO} {c : Cell} (r : RM g H ι μ) (hp : H p = none) : Ext H ι μ (upd H p o) (ι ++ [p]) (μ ++ [c]) :=
  ⟨List.prefix_append _ _, fun a o' h _ _ => by rw [upd_ne (ne_of_none h hp)]; exact h, fun a h => by
    rcases own_app r.len h with z | z
    · exact .inl z
    · exact .inr (by rw [z]; exact hp), fun a h => by
    by_cases z : a = p
    · subst z; exact hp
    · rw [upd_ne z] at h; exact h⟩
theorem RM.push {p : Addr} {o : HO} {c : Cell} (r : RM g H ι μ) (hp : H p = none) (rc : RC g (upd H p o) (ι ++ [p]) p c) : RM g (upd H p o) (ι ++ [p]) (μ ++ [c]) := by
  have len : (ι ++ [p]).length = (μ ++ [c]).length := by simp [r.len]
  have hne : ∀ n d a, ι[n]? = some a → μ[n]? = some d → frz d = false → a ≠ p := fun n d a e1 e hf => by
    rintro rfl
    obtain ⟨_, z, _⟩ := r.own ⟨n, d, e1, e, hf⟩
    rw [hp] at z
    cases z
  have last : ∀ {α : Type} {l : List α} {x y : α} {n : Nat}, (l ++ [x])[n]? = some y → (n < l.length ∧ l[n]? = some y) ∨ (n = l.length ∧ y = x) := by
    intro α l x y n h
    by_cases hn : n < l.length
    · rw [List.getElem?_append_left hn] at h
      exact .inl ⟨hn, h⟩
    · rw [List.getElem?_append_right (by omega)] at h
      cases e : n - l.length with
      | zero => rw [e] at h; exact .inr ⟨by omega, by simpa using h.symm⟩
      | succ k => rw [e] at h; simp at h
  refine ⟨len, fun n d e => ?_, fun n m a d d' nm e1 e2 e3 e4 => ?_, fun q hq => tab_keep (r.tab q hq) fun b o' e _ => by rw [upd_ne (ne_of_none e hp)]; exact e⟩
  · rcases last e with ⟨hn, e⟩ | ⟨hn, rfl⟩
    · obtain ⟨a, e1, rc1⟩ := r.at_ n d e
      refine ⟨a, get_pre (List.prefix_append _ _) e1, rc1.mono r (Ext.push (c := c) r hp) fun hf => ?_⟩
      rw [upd_ne (hne n d a e1 e hf)]
    · exact ⟨p, by rw [hn, ← r.len]; simp, rc⟩
  · have hl := r.len
    rcases last e1 with ⟨h1, f1⟩ | ⟨h1, y1⟩
    · rcases last e3 with ⟨h3, f3⟩ | ⟨h3, y3⟩
      · rcases last e2 with ⟨h2, f2⟩ | ⟨h2, y2⟩
        · rcases last e4 with ⟨h4, f4⟩ | ⟨h4, y4⟩
          · exact r.sep n m a d d' nm f1 f2 f3 f4
          · omega
        · refine .inl ?_
          cases hf : frz d with
          | true => rfl
          | false => exact absurd y2 (hne n d a f1 f3 hf)
      · omega
    · rcases last e2 with ⟨h2, f2⟩ | ⟨h2, y2⟩
      · rcases last e4 with ⟨h4, f4⟩ | ⟨h4, y4⟩
        · refine .inr ?_
          cases hf : frz d' with
          | true => rfl
          | false => exact absurd y1 (hne m d' a f2 f4 hf)
        · omega
      · omega
/-- a cell that is changed -/
theorem Ext.write {a : Addr} {o : HO} {n : Nat} {c c' : Cell} (r : RM g H ι μ) (h1 : ι[n]? = some a) (h2 : μ[n]? = some c) (h3 : frz c = false) : Ext H ι μ (upd H a o) ι (μ.set n c') := by
  refine ⟨List.prefix_rfl, fun b o' h no _ => ?_, fun b ⟨m, d, e1, e2, e3⟩ => ?_, fun b h => ?_⟩
  · rw [upd_ne]
    · exact h
    · rintro rfl; exact no ⟨n, c, h1, h2, h3⟩
  · left
    by_cases hm : n = m
    · subst hm
      rw [h1] at e1; cases e1
      exact ⟨n, c, h1, h2, h3⟩
    · rw [List.getElem?_set_ne hm] at e2
      exact ⟨m, d, e1, e2, e3⟩
  · by_cases z : b = a
    · subst z; rw [upd_same] at h; cases h
    · rw [upd_ne z] at h; exact h
theorem RM.write {a : Addr} {o : HO} {n : Nat} {c c' : Cell} (r : RM g H ι μ) (h1 : ι[n]? = some a) (h2 : μ[n]? = some c) (h3 : frz c = false) (hc : frz c' = false) (rc : RC g (upd H a o) ι a c') : RM g (upd H a o) ι (μ.set n c') := by
  have hn : n < μ.length := (List.getElem?_eq_some_iff.mp h2).1
  refine ⟨by simp [r.len], fun m d e => ?_, fun i j b d d' ij e1 e2 e3 e4 => ?_, fun q hq => tab_keep (r.tab q hq) fun b o' e hm => by
    rw [upd_ne]
    · exact e
    · rintro rfl
      obtain ⟨o2, e2, hm2⟩ := r.own ⟨n, c, h1, h2, h3⟩
      rw [e] at e2; cases e2
      rw [hm] at hm2; cases hm2⟩
  · by_cases hm : n = m
    · subst hm
      rw [List.getElem?_set_self hn] at e; cases e
      exact ⟨a, h1, rc⟩
    · rw [List.getElem?_set_ne hm] at e
      obtain ⟨b, e1, rc1⟩ := r.at_ m d e
      refine ⟨b, e1, rc1.mono r (Ext.write (c' := c') r h1 h2 h3) fun hf => ?_⟩
      rw [upd_ne]
      rintro rfl
      rcases r.sep n m b c d hm h1 e1 h2 e with z | z
      · rw [h3] at z; cases z
      · rw [hf] at z; cases z
  · have : ∀ {k x}, (μ.set n c')[k]? = some x → ∃ y, μ[k]? = some y ∧ (frz y = true → frz x = true) := fun {k x} e => by
      by_cases hm : n = k
      · subst hm
        exact ⟨c, h2, fun z => by rw [h3] at z; cases z⟩
      · rw [List.getElem?_set_ne hm] at e
        exact ⟨x, e, id⟩
    obtain ⟨y, q1, q2⟩ := this e3
    obtain ⟨y', q1', q2'⟩ := this e4
    rcases r.sep i j b y y' ij e1 e2 q1 q1' with z | z
    · exact .inl (q2 z)
    · exact .inr (q2' z)
end
end BW
set_option maxHeartbeats 4000000
/-! Readings by the small language. -/
namespace BW
open PySem PySem.Spec PyProof.Rows L2

/-- what a result asks: R relates the machine's to the small language's -/
def Fin {α β : Type} (g : G) (W : WX) (σ : L2.St) (R : Hp → List Addr → α → β → Prop) (H : Hp) (ι : List Addr) (μ : Store) (r : Res α) (Q : β → Hp → Prop) : Prop := match r with
  | .ok a μ' => ∀ v H' ι', Ext H ι μ H' ι' μ' → RM g H' ι' μ' → R H' ι' a v → Q v H'
  | .ex e μ' => ∀ cls d H' ι', Ext H ι μ H' ι' μ' → RM g H' ι' μ' → RX g H' cls d e → W cls d σ H'
  | .bad => False
def RB {α : Type} (_ : Hp) (_ : List Addr) (a b : α) : Prop := a = b
section
variable {g : G} {W : WX} {σ : L2.St} {α β γ δ : Type} {R : Hp → List Addr → α → β → Prop} {S : Hp → List Addr → γ → δ → Prop} {H H' : Hp} {ι ι' : List Addr} {μ μ' : Store}
theorem Fin.ext {r : Res α} {Q : β → Hp → Prop} (x : Ext H ι μ H' ι' μ') (h : Fin g W σ R H ι μ r Q) : Fin g W σ R H' ι' μ' r Q := by
  cases r with
  | ok a μ1 => exact fun v H1 ι1 y => h v H1 ι1 (x.trans y)
  | ex e μ1 => exact fun cls d H1 ι1 y => h cls d H1 ι1 (x.trans y)
  | bad => exact h.elim
theorem Fin.imp {r : Res α} {Q Q' : β → Hp → Prop} (h : Fin g W σ R H ι μ r Q) (f : ∀ a μ1 v H1 ι1, r = .ok a μ1 → Ext H ι μ H1 ι1 μ1 → RM g H1 ι1 μ1 → R H1 ι1 a v → Q v H1 → Q' v H1) : Fin g W σ R H ι μ r Q' := by
  cases r with
  | ok a μ1 => exact fun v H1 ι1 x m q => f a μ1 v H1 ι1 rfl x m q (h v H1 ι1 x m q)
  | ex e μ1 => exact h
  | bad => exact h
/-- the first part of a bind -/
theorem Fin.bind {r : Res α} {f : α → Store → Res γ} {Q : δ → Hp → Prop} (h : Fin g W σ S H ι μ (r.bind f) Q) :
    Fin g W σ R H ι μ r fun v H1 => ∃ a ι1 μ1, Ext H ι μ H1 ι1 μ1 ∧ RM g H1 ι1 μ1 ∧ R H1 ι1 a v ∧ Fin g W σ S H1 ι1 μ1 (f a μ1) Q := by
  cases r with
  | ok a μ1 => exact fun v H1 ι1 x m q => ⟨a, ι1, μ1, x, m, q, Fin.ext x h⟩
  | ex e μ1 => exact h
  | bad => exact h
theorem Fin.here {a : α} {v : β} {Q : β → Hp → Prop} (m : RM g H ι μ) (q : R H ι a v) (h : Fin g W σ R H ι μ (.ok a μ) Q) : Q v H := h v H ι .refl m q
theorem Fin.at_ {a : α} {v : β} {Q : β → Hp → Prop} (x : Ext H ι μ H' ι' μ') (m : RM g H' ι' μ') (q : R H' ι' a v) (h : Fin g W σ R H ι μ (.ok a μ') Q) : Q v H' := h v H' ι' x m q
end

/-- the reading of an expression that is r of the slots and the store -/
def tI {α β : Type} (g : G) (xb : XB) (W : WX) (R : Hp → List Addr → α → β → Prop) (r : Env → Store → Res α) : L2.St → Hp → (β → Hp → Prop) → Prop := fun σ H Q =>
  ∃ ι ρ μ, RE g xb H ι σ ρ ∧ RM g H ι μ ∧ Fin g W σ R H ι μ (r ρ μ) Q
abbrev RVf (g : G) : Hp → List Addr → PV → V → Prop := fun H ι p v => RV g H ι p v
abbrev RVsf (g : G) : Hp → List Addr → List PV → List V → Prop := fun H ι p v => RVs g H ι p v

end BW
namespace L2
open PySem PySem.Spec PyProof.Rows
theorem PE.imp {X : Cx} {e : Expr} {t t' : TE} (h : PE X e t) (f : ∀ σ H Q, t' σ H Q → t σ H Q) : PE X e t' := ⟨fun pins s σ H Q I q => h.run pins s σ H Q I (f σ H Q q)⟩
theorem PT.imp {X : Cx} {e : Expr} {t t' : TT} (h : PT X e t) (f : ∀ σ H Q, t' σ H Q → t σ H Q) : PT X e t' := ⟨fun pins s σ H Q I q => h.run pins s σ H Q I (f σ H Q q)⟩
theorem PW.imp {X : Cx} {e : Expr} {t t' : TT} (h : PW X e t) (f : ∀ σ H Q, t' σ H Q → t σ H Q) : PW X e t' := ⟨fun w pins s σ H Q I q => h.run w pins s σ H Q I (f σ H Q q)⟩
theorem PA.imp {X : Cx} {e : List Expr} {t t' : TA} (h : PA X e t) (f : ∀ σ H Q, t' σ H Q → t σ H Q) : PA X e t' := ⟨fun p pins s σ H Q I q => h.run p pins s σ H Q I (f σ H Q q)⟩
theorem PS.imp {X : Cx} {e : Stmt} {t t' : TS} (h : PS X e t) (f : ∀ D σ H, t' D σ H → t D σ H) : PS X e t' := ⟨fun pins s σ H D I q => h.run pins s σ H D I (f D σ H q)⟩
theorem PSs.imp {X : Cx} {e : List Stmt} {t t' : TS} (h : PSs X e t) (f : ∀ D σ H, t' D σ H → t D σ H) : PSs X e t' := ⟨fun pins s σ H D I q => h.run pins s σ H D I (f D σ H q)⟩

end L2
namespace BW
open PySem PySem.Spec PyProof.Rows L2
section
variable {X : Cx} {g : G} {xb : XB} {W : WX} {P : Prog} {D : Den}
abbrev tE (g : G) (xb : XB) (W : WX) (P : Prog) (D : Den) (e : IE) : TE := tI g xb W (RVf g) (evE P D xb.v e)
abbrev tT (g : G) (xb : XB) (W : WX) (P : Prog) (D : Den) (e : IT) : TT := tI g xb W RB (evT P D xb.v e)
abbrev tEs (g : G) (xb : XB) (W : WX) (P : Prog) (D : Den) (e : List IE) : TA := tI g xb W (RVsf g) (evEs P D xb.v e)

/-- the first expression of a bind is read; what follows stands at the state behind it -/
theorem tI_bind {α β γ δ : Type} {R : Hp → List Addr → α → β → Prop} {S : Hp → List Addr → γ → δ → Prop} {r : Env → Store → Res α} {f : Env → α → Store → Res γ} {σ : L2.St} {H : Hp} {Q : δ → Hp → Prop}
    (h : tI g xb W S (fun ρ μ => (r ρ μ).bind (f ρ)) σ H Q) :
    tI g xb W R r σ H fun v H1 => ∃ a ι1 ρ μ1, RE g xb H1 ι1 σ ρ ∧ RM g H1 ι1 μ1 ∧ R H1 ι1 a v ∧ Fin g W σ S H1 ι1 μ1 (f ρ a μ1) Q := by
  obtain ⟨ι, ρ, μ, re, rm, h⟩ := h
  exact ⟨ι, ρ, μ, re, rm, h.bind.imp fun a μ1 v H1 ι1 e x m q ⟨a', ι2, μ2, x2, m2, q2, h2⟩ => ⟨a', ι2, ρ, μ2, re.mono rm x2, m2, q2, h2⟩⟩
theorem tI_mono {α β : Type} {R : Hp → List Addr → α → β → Prop} {r : Env → Store → Res α} {σ : L2.St} {H : Hp} {Q Q' : β → Hp → Prop}
    (h : tI g xb W R r σ H Q) (f : ∀ v H1, Q v H1 → Q' v H1) : tI g xb W R r σ H Q' := by
  obtain ⟨ι, ρ, μ, re, rm, h⟩ := h
  exact ⟨ι, ρ, μ, re, rm, h.imp fun a μ1 v H1 ι1 e x m q => f v H1⟩

/-! ### constants, names -/
theorem re_get {H : Hp} {ι : List Addr} {σ : L2.St} {ρ : Env} {i : Nat} {pv : PV} (re : RE g xb H ι σ ρ) (h : ρ[i]? = some (some pv)) : ∃ v, σ[i]? = some (some v) ∧ RV g H ι pv v := re.2 i pv h
theorem se_var {e : Expr} {i : Nat} (h : PE X e (tVar i)) : PE X e (tE g xb W P D (.var i)) := h.imp fun σ H Q ⟨ι, ρ, μ, re, rm, q⟩ => by
  have q : Fin g W σ (RVf g) H ι μ (match ρ[i]? with | some (some v) => Res.ok v μ | _ => Res.bad) Q := q
  split at q
  · rename_i v e
    obtain ⟨w, e1, rv⟩ := re_get re e
    exact ⟨w, e1, q.here rm rv⟩
  · exact q.elim
theorem se_con {e : Expr} {p : PV} {v : V} (hv : ∀ H ι, RV g H ι p v) (h : PE X e (tC v)) : PE X e (tE g xb W P D (.con p)) := h.imp fun σ H Q ⟨ι, ρ, μ, re, rm, q⟩ =>
  (show Fin g W σ (RVf g) H ι μ (.ok p μ) Q from q).here rm (hv H ι)

/-! ### operators -/
/-- an operation's rule: what f asks of the values -/
def rB (g : G) (f : PV → PV → Store → Res PV) : R2 := fun x y H Q => ∃ (σ : L2.St) (ι : List Addr) (μ : Store) (px py : PV), RM g H ι μ ∧ RV g H ι px x ∧ RV g H ι py y ∧ (∀ e μ', f px py μ ≠ .ex e μ') ∧ Fin g (fun _ _ _ _ => False) σ (RVf g) H ι μ (f px py μ) Q
def rU1 (g : G) (f : PV → Store → Res PV) : V → Hp → VK → Prop := fun x H Q => ∃ (σ : L2.St) (ι : List Addr) (μ : Store) (px : PV), RM g H ι μ ∧ RV g H ι px x ∧ (∀ e μ', f px μ ≠ .ex e μ') ∧ Fin g (fun _ _ _ _ => False) σ (RVf g) H ι μ (f px μ) Q
theorem Fin.noex {α β : Type} {R : Hp → List Addr → α → β → Prop} {σ σ' : L2.St} {H : Hp} {ι : List Addr} {μ : Store} {r : Res α} {Q : β → Hp → Prop} {W W' : WX} (h : Fin g W σ R H ι μ r Q) (n : ∀ e μ', r ≠ .ex e μ') : Fin g W' σ' R H ι μ r Q := by
  cases r with
  | ok a μ1 => exact h
  | ex e μ1 => exact (n e μ1 rfl).elim
  | bad => exact h
theorem se_bin2 {a b : IE} {f : PV → PV → Store → Res PV} {σ : L2.St} {H : Hp} {Q : VK} (n : ∀ x y μ e μ', f x y μ ≠ .ex e μ')
    (h : tI g xb W (RVf g) (fun ρ μ => (evE P D xb.v a ρ μ).bind fun x μ => (evE P D xb.v b ρ μ).bind fun y μ => f x y μ) σ H Q) : tOp (rB g f) (tE g xb W P D a) (tE g xb W P D b) σ H Q := by
  refine tI_mono (tI_bind (R := RVf g) (S := RVf g) (f := fun ρ x μ => (evE P D xb.v b ρ μ).bind fun y μ => f x y μ) h) fun x H1 ⟨px, ι1, ρ, μ1, re, rm, rx, h1⟩ => ?_
  exact ⟨ι1, ρ, μ1, re, rm, h1.bind.imp fun py μ2 y H2 ι2 e x2 m2 ry ⟨py', ι3, μ3, x3, m3, ry', h2⟩ => ⟨σ, ι3, μ3, px, py', m3, rx.mono rm x3, ry', n _ _ _, h2.noex (n _ _ _)⟩⟩
theorem se_un {a : IE} {f : PV → Store → Res PV} {σ : L2.St} {H : Hp} {Q : VK} (n : ∀ x μ e μ', f x μ ≠ .ex e μ')
    (h : tI g xb W (RVf g) (fun ρ μ => (evE P D xb.v a ρ μ).bind f) σ H Q) : tUn (rU1 g f) (tE g xb W P D a) σ H Q :=
  tI_mono (tI_bind (R := RVf g) (S := RVf g) (f := fun _ => f) h) fun x H1 ⟨px, ι1, ρ, μ1, re, rm, rx, h1⟩ => ⟨σ, ι1, μ1, px, rm, rx, n _ _, h1.noex (n _ _)⟩
end
end BW
set_option maxHeartbeats 4000000
/-! The operators by their rules. -/
namespace BW
open PySem PySem.Spec PyProof.Rows L2
section
variable {X : Cx} {g : G} {W : WX} {P : Prog} {D : Den} {σ : L2.St} {H : Hp} {ι : List Addr} {μ : Store} {Q : VK}

/-! ### ends -/
theorem fin_list {n : Nat} {xs : List PV} {vs : List V} {p : Addr} (rm : RM g H ι μ) (hp : H p = none) (r : RVs g H ι xs vs) (hn : n = μ.length) (h : Fin g W σ (RVf g) H ι μ (.ok (.loc n) (μ ++ [.lst xs])) Q) :
    Q (.ref p) (upd H p (.lst vs)) := by
  subst hn
  exact h _ _ (ι ++ [p]) (Ext.push rm hp) (RM.push rm hp ⟨vs, upd_same, r.mono rm (Ext.push (c := .lst xs) rm hp)⟩) ⟨p, by rw [← rm.len]; simp, rfl⟩
theorem fin_tup {xs : List PV} {vs : List V} {p : Addr} (rm : RM g H ι μ) (hp : H p = none) (r : RVs g H ι xs vs) (h : Fin g W σ (RVf g) H ι μ (.ok (.tup xs) μ) Q) :
    Q (.ref p) (upd H p (.tup vs)) :=
  h _ _ ι (Ext.laid hp) (RM.laid rm hp) ⟨p, vs, rfl, upd_same, r.mono rm (Ext.laid hp)⟩
theorem fin_wr {a : Addr} {n : Nat} {xs ys : List PV} {vs : List V} {v : V} {pv : PV} (rm : RM g H ι μ) (h1 : ι[n]? = some a) (h2 : μ[n]? = some (.lst xs)) (r : RVs g H ι ys vs) (rv : RV g (upd H a (.lst vs)) ι pv v)
    (h : Fin g W σ (RVf g) H ι μ (.ok pv (μ.set n (.lst ys))) Q) : Q v (upd H a (.lst vs)) :=
  h _ _ ι (Ext.write rm h1 h2 rfl) (RM.write rm h1 h2 rfl rfl ⟨vs, upd_same, r.mono rm (Ext.write (c' := .lst ys) rm h1 h2 rfl)⟩) rv
/-- a list of the store -/
theorem rm_lst {n : Nat} {xs : List PV} (rm : RM g H ι μ) (h : μ[n]? = some (.lst xs)) : ∃ a vs, ι[n]? = some a ∧ H a = some (.lst vs) ∧ RVs g H ι xs vs := by
  obtain ⟨a, e, vs, e1, r⟩ := rm.at_ n _ h
  exact ⟨a, vs, e, e1, r⟩
theorem rm_frz {n : Nat} {xs : List PV} (rm : RM g H ι μ) (h : μ[n]? = some (.frz xs)) : ∃ a vs, ι[n]? = some a ∧ SqL g.K H a vs ∧ RVs g H ι xs vs := by
  obtain ⟨a, e, vs, e1, r⟩ := rm.at_ n _ h
  rcases e1 with ⟨o, e1⟩ | e1
  · exact ⟨a, vs, e, .inl (.inr ⟨o, e1⟩), r⟩
  · exact ⟨a, vs, e, .inr e1, r⟩
theorem rm_list {n : Nat} {xs : List PV} {v : V} (rm : RM g H ι μ) (h : listAt μ (.loc n) = some xs) (r : RV g H ι (.loc n) v) : ∃ a vs, v = .ref a ∧ SqL g.K H a vs ∧ RVs g H ι xs vs := by
  obtain ⟨b, e, rfl⟩ := r
  have h : (match μ[n]? with | some (.lst xs) => some xs | some (.frz xs) => some xs | _ => none) = some xs := h
  split at h
  · rename_i ys q
    cases h
    obtain ⟨a, vs, e1, e2, r⟩ := rm_lst rm q
    rw [e] at e1; cases e1
    exact ⟨_, vs, rfl, SqL.of e2, r⟩
  · rename_i ys q
    cases h
    obtain ⟨a, vs, e1, e2, r⟩ := rm_frz rm q
    rw [e] at e1; cases e1
    exact ⟨_, vs, rfl, e2, r⟩
  · cases h
theorem rm_ins {n c : Nat} {fs : List (Nat × PV)} (rm : RM g H ι μ) (h : μ[n]? = some (.ins c fs)) : ∃ a dx fvs, ι[n]? = some a ∧ H a = some (.ins (g.ca c) dx fvs) ∧ RFs g H ι fs fvs ∧ g.ic c := by
  obtain ⟨a, e, dx, fvs, e1, r, ic⟩ := rm.at_ n _ h
  exact ⟨a, dx, fvs, e, e1, r, ic⟩
theorem rm_seq {x : PV} {xs : List PV} {v : V} (rm : RM g H ι μ) (h : seqAt μ x = some xs) (r : RV g H ι x v) : ∃ a vs, v = .ref a ∧ (SqL g.K H a vs ∨ H a = some (.tup vs)) ∧ RVs g H ι xs vs := by
  cases x with
  | tup ys =>
    cases h
    obtain ⟨a, vs, e, h1, h2⟩ := r
    exact ⟨a, vs, e, .inr h1, h2⟩
  | loc n =>
    obtain ⟨a, vs, e, h1, h2⟩ := rm_list rm h r
    exact ⟨a, vs, e, .inl h1, h2⟩
  | _ => cases h
/-- data -/
theorem toD_dp (rm : RM g H ι μ) : ∀ (n : Nat) (p : PV) (v : V) (d : PyData), RV g H ι p v → toD n μ p = some d → Dp g.K H v d := by
  intro n
  induction n with
  | zero =>
    intro p v d r h
    cases p with
    | non => cases r; cases h; exact .non
    | bl b => cases r; cases h; exact .bl b
    | int b => cases r; cases h; exact .int b
    | str b => cases r; cases h; exact .str b
    | _ => cases h
  | succ n ih =>
    have all : ∀ (xs : List PV) (vs : List V) (ds : List PyData), RVs g H ι xs vs → xs.mapM (toD n μ) = some ds → DpAll g.K H vs ds := by
      intro xs
      induction xs with
      | nil =>
        intro vs ds r h
        cases (show vs = [] from r)
        simp at h
        cases h
        exact .nil
      | cons x xs ih2 =>
        intro vs ds r h
        obtain ⟨v, q, rfl, r1, r2⟩ := r
        rw [List.mapM_cons] at h
        cases e1 : toD n μ x with
        | none => rw [e1] at h; cases h
        | some d =>
          rw [e1] at h
          cases e2 : xs.mapM (toD n μ) with
          | none => rw [e2] at h; cases h
          | some es =>
            rw [e2] at h
            cases (show some (d :: es) = some ds from h)
            exact .cons (ih x v d r1 e1) (ih2 q es r2 e2)
    intro p v d r h
    cases p with
    | non => cases r; cases h; exact .non
    | bl b => cases r; cases h; exact .bl b
    | int b => cases r; cases h; exact .int b
    | str b => cases r; cases h; exact .str b
    | tup xs =>
      obtain ⟨a, vs, rfl, h1, h2⟩ := r
      have h : (xs.mapM (toD n μ)).map .tuple = some d := h
      cases e : xs.mapM (toD n μ) with
      | none => rw [e] at h; cases h
      | some ds =>
        rw [e] at h
        cases h
        exact .tup (SqT.of h1) (all xs vs ds h2 e)
    | loc l =>
      have key : ∀ xs, listAt μ (.loc l) = some xs → (xs.mapM (toD n μ)).map .list = some d → Dp g.K H v d := by
        intro xs q h
        obtain ⟨a, vs, rfl, h1, h2⟩ := rm_list rm q r
        cases e : xs.mapM (toD n μ) with
        | none => rw [e] at h; cases h
        | some ds =>
          rw [e] at h
          cases h
          exact .lst h1 (all xs vs ds h2 e)
      unfold toD at h
      split at h
      · rename_i xs q
        exact key xs (by show (match μ[l]? with | some (.lst xs) => some xs | some (.frz xs) => some xs | _ => none) = some xs; rw [q]) h
      · rename_i xs q
        exact key xs (by show (match μ[l]? with | some (.lst xs) => some xs | some (.frz xs) => some xs | _ => none) = some xs; rw [q]) h
      · cases h
theorem toD_all (rm : RM g H ι μ) {n : Nat} : ∀ (xs : List PV) (vs : List V) (ds : List PyData), RVs g H ι xs vs → xs.mapM (toD n μ) = some ds → DpAll g.K H vs ds := by
  intro xs
  induction xs with
  | nil =>
    intro vs ds r h
    cases (show vs = [] from r)
    simp at h
    cases h
    exact .nil
  | cons x xs ih2 =>
    intro vs ds r h
    obtain ⟨v, q, rfl, r1, r2⟩ := r
    rw [List.mapM_cons] at h
    cases e1 : toD n μ x with
    | none => rw [e1] at h; cases h
    | some d =>
      rw [e1] at h
      cases e2 : xs.mapM (toD n μ) with
      | none => rw [e2] at h; cases h
      | some es =>
        rw [e2] at h
        cases (show some (d :: es) = some ds from h)
        exact .cons (toD_dp rm n x v d r1 e1) (ih2 q es r2 e2)

/-! ### operators -/
def opc : Op → Operator
  | .add => .Add | .sub => .Sub | .mul => .Mult | .fdiv => .FloorDiv | .mod => .Mod | .pow => .Pow | .shl => .LShift | .bor => .BitOr | .band => .BitAnd
theorem binV_noex (o : Op) (x y : PV) (μ : Store) (e : PX) (μ' : Store) : binV o x y μ ≠ .ex e μ' := by
  intro h
  unfold binV at h
  split at h <;> (try split at h) <;> (try split at h) <;> cases h
theorem OpR.imp {f : Value → Value → Sem Value} {r r' : R2} (h : OpR X f r) (q : ∀ x y H Q, r' x y H Q → r x y H Q) : OpR X f r' := fun pins s σ H x y v u Q I rx ry z => h pins s σ H x y v u Q I rx ry (q _ _ _ _ z)
theorem mulOk_ok {a b : Int} (h : mulOk a b) : CMulX a b := by
  have e : ∀ x : Int, Builtin.Int.intBits x ≤ x.natAbs.log2 + 1 := fun x => by
    unfold Builtin.Int.intBits
    split <;> omega
  have h1 := e a
  have h2 := e b
  have h3 : a.natAbs.log2 + b.natAbs.log2 < 100000000 := h
  unfold CMulX
  omega
theorem fdivW : OpR X (binaryOp .FloorDiv) (rI divOk fun i j => .int (i.fdiv j)) := opI fun i j _ _ _ _ _ hc q => floordiv_int hc.1 q (.inl (PyProof.noPylong_of_log2 hc.2))
theorem rI_of {o : Op} {C : Int → Int → Prop} [∀ a b, Decidable (C a b)] {f : Int → Int → Int} (hf : ∀ a b μ, binV o (.int a) (.int b) μ = if C a b then .ok (.int (f a b)) μ else .bad) (hn : ∀ x y μ, (∀ a b, ¬ (x = .int a ∧ y = .int b)) → binV o x y μ = .bad)
    {x y : V} {H : Hp} {Q : VK} (h : rB g (binV o) x y H Q) : rI C (fun a b => .int (f a b)) x y H Q := by
  obtain ⟨σ, ι, μ, px, py, rm, r1, r2, _, q⟩ := h
  by_cases z : ∃ a b, px = .int a ∧ py = .int b
  · obtain ⟨a, b, rfl, rfl⟩ := z
    cases r1; cases r2
    rw [hf] at q
    by_cases c : C a b
    · rw [if_pos c] at q
      exact ⟨a, b, rfl, rfl, c, q.here rm rfl⟩
    · rw [if_neg c] at q
      exact q.elim
  · rw [hn px py μ fun a b w => z ⟨a, b, w⟩] at q
    exact q.elim
theorem rI0_of {o : Op} {f : Int → Int → Int} (hf : ∀ a b μ, binV o (.int a) (.int b) μ = .ok (.int (f a b)) μ) (hn : ∀ x y μ, (∀ a b, ¬ (x = .int a ∧ y = .int b)) → binV o x y μ = .bad)
    {x y : V} {H : Hp} {Q : VK} (h : rB g (binV o) x y H Q) : rI0 (fun a b => .int (f a b)) x y H Q := by
  obtain ⟨σ, ι, μ, px, py, rm, r1, r2, _, q⟩ := h
  by_cases z : ∃ a b, px = .int a ∧ py = .int b
  · obtain ⟨a, b, rfl, rfl⟩ := z
    cases r1; cases r2
    rw [hf] at q
    exact ⟨a, b, rfl, rfl, q.here rm rfl⟩
  · rw [hn px py μ fun a b w => z ⟨a, b, w⟩] at q
    exact q.elim
theorem add_of {x y : V} {H : Hp} {Q : VK} (h : rB g (binV .add) x y H Q) : rI0 (fun i j => .int (i + j)) x y H Q ∨ (∃ i j, x = .str i ∧ y = .str j ∧ i.length + j.length ≤ sizeLine ∧ Q (.str (i ++ j)) H) ∨ rCatA g.K x y H Q ∨ rCat x y H Q := by
  obtain ⟨σ, ι, μ, px, py, rm, r1, r2, _, q⟩ := h
  unfold binV at q
  split at q
  · cases r1; cases r2
    exact .inl ⟨_, _, rfl, rfl, q.here rm rfl⟩
  · cases r1; cases r2
    split at q
    · rename_i c
      exact .inr (.inl ⟨_, _, rfl, rfl, c, q.here rm rfl⟩)
    · exact q.elim
  · obtain ⟨a, vs, rfl, s1, t1⟩ := r1
    obtain ⟨b, ws, rfl, s2, t2⟩ := r2
    split at q
    · rename_i c
      refine .inr (.inr (.inl ⟨a, b, vs, ws, rfl, rfl, SqT.of s1, SqT.of s2, by rw [← t1.length, ← t2.length]; exact c, fun z => ?_, fun _ z => ?_, fun _ _ p hp => ?_⟩))
      · have e := t1.nil_iff.mp z
        subst e
        exact q.here rm ⟨b, ws, rfl, s2, t2⟩
      · have e := t2.nil_iff.mp z
        subst e
        rw [List.append_nil] at q
        exact q.here rm ⟨a, vs, rfl, s1, t1⟩
      · exact fin_tup rm hp (t1.append t2) q
    · exact q.elim
  · split at q
    · rename_i e1 e2
      split at q
      · rename_i c
        obtain ⟨a, vs, i1, h1, t1⟩ := rm_lst rm e1
        obtain ⟨b, ws, i2, h2, t2⟩ := rm_lst rm e2
        obtain ⟨a', i1', rfl⟩ := r1
        obtain ⟨b', i2', rfl⟩ := r2
        rw [i1] at i1'; cases i1'
        rw [i2] at i2'; cases i2'
        exact .inr (.inr (.inr ⟨a, b, vs, ws, rfl, rfl, h1, h2, by rw [← t1.length, ← t2.length]; exact c, fun p hp => fin_list rm hp (t1.append t2) rfl q⟩))
      · exact q.elim
    · exact q.elim
  all_goals first | exact q.elim | contradiction
theorem rep_of {k : Nat} {xs : List PV} {vs : List V} (r : RVs g H ι xs vs) : RVs g H ι (List.replicate k xs).flatten (List.replicate k vs).flatten := by
  induction k with
  | zero => exact rfl
  | succ k ih =>
    rw [List.replicate_succ, List.replicate_succ, List.flatten_cons, List.flatten_cons]
    exact r.append ih
theorem repS_len (a : Str) (n : Nat) : (repS a n).length = a.length * n := by
  have key : ∀ (n : Nat) (acc : Array Nat), ((List.replicate n a.cps).foldl (· ++ ·) acc).size = acc.size + a.cps.size * n := fun n => by
    induction n with
    | zero => intro acc; rfl
    | succ n ih => intro acc; rw [List.replicate_succ, List.foldl_cons, ih, Array.size_append, Nat.mul_succ]; omega
  show ((List.replicate n a.cps).foldl (· ++ ·) #[]).size = _
  rw [key]
  show 0 + a.cps.size * n = a.cps.size * n
  omega
theorem op_mulS : OpR X (binaryOp .Mult) (fun x y H Q => ∃ (a : Str) (k : Int), x = .str a ∧ y = .int k ∧ 0 ≤ k ∧ k ≤ 1000 ∧ a.length ≤ 1000 ∧ Q (.str (repS a k.toNat)) H) := by
  intro pins s σ H x y v u Q I rx ry h
  obtain ⟨a, k, rfl, rfl, h0, h1, hz, q⟩ := h
  obtain ⟨t, rfl⟩ := rx
  obtain ⟨t', rfl⟩ := ry
  have hm : ((a.length : Nat) : Int) * k ≤ 1000000 := by
    have a1 : ((a.length : Nat) : Int) * k ≤ 1000 * k := Int.mul_le_mul_of_nonneg_right (by omega) h0
    omega
  refine PySem.P.mul_str (by rw [decide_eq_false (by omega), decide_eq_false (by omega)]; rfl) (fun h2 _ => ?_) (fun _ _ => ?_) ?_
  · have hk : (0 : Int) < k := by omega
    have a2 : (1000 : Int) ≤ (2 ^ 63 - 1) / k := (Int.le_ediv_iff_mul_le hk).mpr (by omega)
    omega
  · have a3 : ((a.length * k.toNat : Nat) : Int) = (a.length : Int) * k := by rw [Int.natCast_mul, Int.toNat_of_nonneg h0]
    refine decide_eq_false ?_
    unfold sizeLine
    omega
  · by_cases c1 : k < 1
    · have ek : k = 0 := by omega
      subst ek
      rw [if_pos c1]
      exact ⟨by decide, .str (repS a 0), H, I.tok _, ⟨_, rfl⟩, q⟩
    · rw [if_neg c1]
      by_cases c2 : (k == 1 || a.length == 0) = true
      · rw [if_pos c2]
        refine ⟨.str (repS a k.toNat), H, I, ?_, q⟩
        have e : repS a k.toNat = a := by
          rcases Bool.or_eq_true_iff.mp c2 with c3 | c3
          · rw [beq_iff_eq.mp c3]
            show (⟨#[] ++ a.cps⟩ : Str) = a
            simp
          · have e0 : a.cps = #[] := Array.eq_empty_of_size_eq_zero (beq_iff_eq.mp c3)
            have e1 : ∀ n : Nat, ((List.replicate n (#[] : Array Nat)).foldl (· ++ ·) #[]) = #[] := fun n => by
              induction n with
              | zero => rfl
              | succ n ih => rw [List.replicate_succ, List.foldl_cons]; exact ih
            unfold repS
            rw [e0, e1, ← e0]
        rw [e]
        exact ⟨_, rfl⟩
      · rw [if_neg c2]
        exact ⟨by
          show (repS a k.toNat).length ≤ _
          rw [repS_len]
          have a3 : ((a.length * k.toNat : Nat) : Int) = (a.length : Int) * k := by rw [Int.natCast_mul, Int.toNat_of_nonneg h0]
          unfold sizeLine
          omega, .str (repS a k.toNat), H, I.tok _, ⟨_, rfl⟩, q⟩
theorem mul_of {x y : V} {H : Hp} {Q : VK} (h : rB g (binV .mul) x y H Q) : rI CMulX (fun i j => .int (i * j)) x y H Q ∨ rRepT g.K x y H Q ∨ (∃ (a : Str) (k : Int), x = .str a ∧ y = .int k ∧ 0 ≤ k ∧ k ≤ 1000 ∧ a.length ≤ 1000 ∧ Q (.str (repS a k.toNat)) H) ∨ rRep x y H Q := by
  obtain ⟨σ, ι, μ, px, py, rm, r1, r2, _, q⟩ := h
  unfold binV at q
  split at q
  all_goals first | exact q.elim | contradiction | skip
  · cases r1; cases r2
    split at q
    · rename_i c
      exact .inl ⟨_, _, rfl, rfl, mulOk_ok c, q.here rm rfl⟩
    · exact q.elim
  · obtain ⟨a, vs, rfl, s1, t1⟩ := r1
    cases r2
    split at q
    · rename_i c
      exact .inr (.inl ⟨a, _, vs, rfl, rfl, SqT.of s1, fun z => c.1 (t1.nil_iff.mp z), c.2.1, c.2.2.1, by rw [← t1.length]; exact c.2.2.2, fun p hp => fin_tup rm hp (rep_of t1) q⟩)
    · exact q.elim
  · cases r1; cases r2
    split at q
    · rename_i c
      exact .inr (.inr (.inl ⟨_, _, rfl, rfl, c.1, c.2.1, c.2.2, q.here rm rfl⟩))
    · exact q.elim
  · cases r2
    split at q
    · rename_i e1
      split at q
      · rename_i c
        obtain ⟨a, vs, i1, h1, t1⟩ := rm_lst rm e1
        obtain ⟨a', i1', rfl⟩ := r1
        rw [i1] at i1'; cases i1'
        exact .inr (.inr (.inr ⟨a, _, vs, rfl, rfl, h1, c.1, c.2.1, by rw [← t1.length]; exact c.2.2, fun p hp => fin_list rm hp (rep_of t1) rfl q⟩))
      · exact q.elim
    · exact q.elim
theorem op_bin (hg : g.K = X.K) (o : Op) : OpR X (binaryOp (opc o)) (rB g (binV o)) := by
  have hn : ∀ (o : Op), o ≠ .add → o ≠ .mul → ∀ x y μ, (∀ a b, ¬ (x = .int a ∧ y = .int b)) → binV o x y μ = .bad := by
    intro o h1 h2 x y μ n
    unfold binV
    split <;> first | rfl | (exact absurd ⟨rfl, rfl⟩ (n _ _)) | (exact absurd rfl h1) | (exact absurd rfl h2)
  cases o with
  | add =>
    refine OpR.imp (op_add.or (op_add_str.or (op_catA.or op_cat))) fun x y H Q h => ?_
    rw [← hg]; exact add_of h
  | sub => exact OpR.imp op_sub fun x y H Q h => rI0_of (fun _ _ _ => rfl) (hn _ (by simp) (by simp)) h
  | mul =>
    refine OpR.imp (op_mulX.or (op_repT.or (op_mulS.or op_rep))) fun x y H Q h => ?_
    rw [← hg]; exact mul_of h
  | fdiv => exact OpR.imp fdivW fun x y H Q h => rI_of (fun _ _ _ => rfl) (hn _ (by simp) (by simp)) h
  | mod => exact OpR.imp op_modN fun x y H Q h => rI_of (C := fun _ b => b ≠ 0) (fun _ _ _ => rfl) (hn _ (by simp) (by simp)) h
  | pow => exact OpR.imp op_pow fun x y H Q h => rI_of (C := powOk) (fun _ _ _ => rfl) (hn _ (by simp) (by simp)) h
  | shl => exact OpR.imp op_shl fun x y H Q h => rI_of (C := powOk) (fun _ _ _ => rfl) (hn _ (by simp) (by simp)) h
  | bor => exact OpR.imp op_or fun x y H Q h => rI0_of (fun _ _ _ => rfl) (hn _ (by simp) (by simp)) h
  | band => exact OpR.imp op_and fun x y H Q h => rI0_of (fun _ _ _ => rfl) (hn _ (by simp) (by simp)) h
end
end BW
set_option maxHeartbeats 4000000
/-! Comparisons, subscripts, slices, fields by their rules. -/
namespace BW
open PySem PySem.Spec PyProof.Rows L2
section
variable {X : Cx} {g : G} {W : WX} {P : Prog} {D : Den} {σ : L2.St} {H : Hp} {ι : List Addr} {μ : Store} {Q : VK}
def cmc : Cm → CmpOp
  | .eq => .Eq | .ne => .NotEq | .lt => .Lt | .le => .LtE | .gt => .Gt | .ge => .GtE | .is => .Is | .isnot => .IsNot | .inn => .In | .notin => .NotIn
theorem ofO_bind_noex {α β : Type} (o : Option α) (μ : Store) (f : α → Store → Res β) (hf : ∀ a e μ', f a μ ≠ .ex e μ') (e : PX) (μ' : Store) : (Res.ofO o μ).bind f ≠ .ex e μ' := by
  cases o with
  | none => intro h; cases h
  | some a => exact hf a e μ'
theorem ofO_noex {α : Type} (o : Option α) (μ : Store) (e : PX) (μ' : Store) : Res.ofO o μ ≠ .ex e μ' := by
  cases o with
  | none => intro h; cases h
  | some a => intro h; cases h
theorem cmpV_noex (o : Cm) (x y : PV) (μ : Store) (e : PX) (μ' : Store) : cmpV o x y μ ≠ .ex e μ' := by
  unfold cmpV
  split
  all_goals first
    | exact ofO_bind_noex _ _ _ (fun _ _ _ z => by cases z) e μ'
    | (intro h; cases h; done)
    | (split <;> (intro h; cases h))
    | (repeat' split) <;> (intro h; cases h)
/-- two lists of unlike lengths -/
def rEqL (K : PySem.W.Frag) : R2 := fun x y H Q => ∃ a b vs ws, x = .ref a ∧ y = .ref b ∧ SqL K H a vs ∧ SqL K H b ws ∧ vs.length ≠ ws.length ∧ Q (.bl false) H
def rNeL (K : PySem.W.Frag) : R2 := fun x y H Q => ∃ a b vs ws, x = .ref a ∧ y = .ref b ∧ SqL K H a vs ∧ SqL K H b ws ∧ vs.length ≠ ws.length ∧ Q (.bl true) H
theorem op_eqL (hu : X.A.units < cLine) : OpR X (compareOp .Eq) (rEqL X.K) := by
  intro pins s σ H x y v u Q I rx ry h
  obtain ⟨a, b, vs, ws, rfl, rfl, ha, hb, ne, q⟩ := h
  cases rx
  cases ry
  obtain ⟨its, r1, p1, _⟩ := I.list ha
  obtain ⟨its2, r2, p2, _⟩ := I.list hb
  exact SeqAt.eq_list_lengthsAt p1.isList p2.isList (by have := r1.length; have := r2.length; simp; omega) hu ⟨.bl false, H, I, rfl, q⟩
theorem op_neL (hu : X.A.units < cLine) : OpR X (compareOp .NotEq) (rNeL X.K) := by
  intro pins s σ H x y v u Q I rx ry h
  obtain ⟨a, b, vs, ws, rfl, rfl, ha, hb, ne, q⟩ := h
  cases rx
  cases ry
  obtain ⟨its, r1, p1, _⟩ := I.list ha
  obtain ⟨its2, r2, p2, _⟩ := I.list hb
  exact SeqAt.RcNeAt.lists_lengths p1.isList p2.isList (by have := r1.length; have := r2.length; simp; omega) hu _ _ _ _ ⟨.bl true, H, I, rfl, q⟩
def rLeD (K : PySem.W.Frag) : R2 := fun x y H Q => ∃ d e, Dp K H x d ∧ Dp K H y e ∧ PySem.W.alike d e = true ∧ d ≠ .none ∧ d.depth ≤ 64 ∧ Q (.bl (!PySem.W.dataLt e d)) H
theorem op_leD (hu : X.A.units + 64 < cLine) : OpR X (compareOp .LtE) (rLeD X.K) := by
  intro pins s σ H x y v u Q I rx ry h
  obtain ⟨d, e, hd, he, al, nn, dp, q⟩ := h
  obtain ⟨as, r1⟩ := Dp.reads I d x v hd rx
  obtain ⟨bs, r2⟩ := Dp.reads I e y u he ry
  exact PySem.W.le_data r1 r2 al nn (by have := Nat.min_le_left d.depth e.depth; omega) ⟨.bl _, H, I, rfl, q⟩
/-- in a tuple -/
def rInT (K : PySem.W.Frag) : R2 := fun x y H Q => ∃ d ds, Dp K H x d ∧ Dp K H y (.tuple ds) ∧ SeqAt.shaped d = true ∧ SeqAt.shaped (.list ds) = true ∧ Q (.bl (ds.any fun z => PyData.eqv z d)) H
def rNotInT (K : PySem.W.Frag) : R2 := fun x y H Q => ∃ d ds, Dp K H x d ∧ Dp K H y (.tuple ds) ∧ SeqAt.shaped d = true ∧ SeqAt.shaped (.list ds) = true ∧ Q (.bl (!ds.any fun z => PyData.eqv z d)) H
theorem op_inT (hu : X.A.units + 65 < cLine) : OpR X (compareOp .In) (rInT X.K) := by
  intro pins s σ H x y v u Q I rx ry h
  obtain ⟨d, ds, hd, he, sd, se, q⟩ := h
  obtain ⟨as, r1⟩ := Dp.reads I d x v hd rx
  obtain ⟨bs, r2⟩ := Dp.reads I (.tuple ds) y u he ry
  exact SeqAt.in_tuple_reads r2 r1 (SeqAt.canLay_of_shaped se) (SeqAt.canLay_of_shaped sd) (room_in_shaped sd hu) ⟨.bl _, H, I, rfl, q⟩
theorem op_notInT (hu : X.A.units + 65 < cLine) : OpR X (compareOp .NotIn) (rNotInT X.K) := by
  intro pins s σ H x y v u Q I rx ry h
  obtain ⟨d, ds, hd, he, sd, se, q⟩ := h
  obtain ⟨as, r1⟩ := Dp.reads I d x v hd rx
  obtain ⟨bs, r2⟩ := Dp.reads I (.tuple ds) y u he ry
  exact SeqAt.notIn_tuple_reads r2 r1 (SeqAt.canLay_of_shaped se) (SeqAt.canLay_of_shaped sd) (room_in_shaped sd hu) ⟨.bl _, H, I, rfl, q⟩
theorem op_isIB : OpR X (compareOp .Is) (fun x y H Q => ∃ (i : Int) (b : Bool), x = .int i ∧ y = .bl b ∧ Q (.bl false) H) := by
  intro pins s σ H x y v u Q I rx ry h
  obtain ⟨i, b, rfl, rfl, q⟩ := h
  obtain ⟨t, rfl⟩ := (show ∃ t, v = Value.int i t from rx)
  cases (show u = Value.bool b from ry)
  exact wpAny_is_other rfl (fun z => by cases z) ⟨.bl false, H, I, rfl, q⟩
theorem op_notIB : OpR X (compareOp .IsNot) (fun x y H Q => ∃ (i : Int) (b : Bool), x = .int i ∧ y = .bl b ∧ Q (.bl true) H) := by
  intro pins s σ H x y v u Q I rx ry h
  obtain ⟨i, b, rfl, rfl, q⟩ := h
  obtain ⟨t, rfl⟩ := (show ∃ t, v = Value.int i t from rx)
  cases (show u = Value.bool b from ry)
  exact wpAny_isNot_other rfl (fun z => by cases z) ⟨.bl true, H, I, rfl, q⟩
/-- in a dict -/
def rInDc : R2 := fun x y H Q => ∃ a o, y = .ref a ∧ DGet H a x o ∧ Q (.bl o.isSome) H
def rNotInDc : R2 := fun x y H Q => ∃ a o, y = .ref a ∧ DGet H a x o ∧ Q (.bl (!o.isSome)) H
theorem op_inDc (hu : X.A.units + 1 < cLine) : OpR X (compareOp .In) rInDc := by
  intro pins s σ H x y v u Q I rx ry h
  obtain ⟨a, o, rfl, g, q⟩ := h
  obtain rfl : u = Value.ref a := ry
  exact d_in hu I g rx fun s3 I3 => ⟨.bl o.isSome, H, I3, rfl, q⟩
theorem op_notInDc (hu : X.A.units + 1 < cLine) : OpR X (compareOp .NotIn) rNotInDc := by
  intro pins s σ H x y v u Q I rx ry h
  obtain ⟨a, o, rfl, g, q⟩ := h
  obtain rfl : u = Value.ref a := ry
  exact d_notIn hu I g rx fun s3 I3 => ⟨.bl (!o.isSome), H, I3, rfl, q⟩
theorem inl_inj {k j : List Int} : (k.map Sum.inl : List Key) = j.map Sum.inl ↔ k = j := by
  constructor
  · intro h
    induction k generalizing j with
    | nil => cases j with
      | nil => rfl
      | cons _ _ => cases h
    | cons x k ih =>
      cases j with
      | nil => cases h
      | cons y j =>
        rw [List.map_cons, List.map_cons] at h
        injection h with h1 h2
        cases h1
        rw [ih h2]
  · rintro rfl; rfl
/-- what a dict holds -/
theorem RKs.look {k : List Int} : ∀ {kvs : List (List Int × PV)} {dvs : List (List Key × V)}, RKs g H ι kvs dvs → (∀ p, dlook k kvs = some p → ∃ v, valV dvs (k.map Sum.inl) = some v ∧ RV g H ι p v) ∧ (dlook k kvs = none → valV dvs (k.map Sum.inl) = none)
  | [], _, h => by
    cases (show _ = [] from h)
    exact ⟨fun p e => (by cases e), fun _ => rfl⟩
  | (j, u) :: r, _, h => by
    obtain ⟨v, q, rfl, h1, h2⟩ := h
    have ih := RKs.look (k := k) h2
    unfold dlook
    by_cases e : j = k
    · subst e
      rw [if_pos rfl, valV_pos rfl]
      exact ⟨fun p z => (by cases z; exact ⟨v, rfl, h1⟩), fun z => by cases z⟩
    · rw [if_neg e, valV_neg (fun z => e (inl_inj.mp z))]
      exact ih
theorem RKs.length : ∀ {kvs : List (List Int × PV)} {dvs : List (List Key × V)}, RKs g H ι kvs dvs → kvs.length = dvs.length
  | [], _, h => by cases (show _ = [] from h); rfl
  | p :: ps, _, h => by
    obtain ⟨v, q, rfl, h1, h2⟩ := h
    simp [RKs.length h2]
theorem RKs.any {k : List Int} : ∀ {kvs : List (List Int × PV)} {dvs : List (List Key × V)}, RKs g H ι kvs dvs → (dvs.any fun kv => decide (kv.1 = k.map Sum.inl)) = kvs.any fun p => decide (p.1 = k)
  | [], _, h => by cases (show _ = [] from h); rfl
  | p :: ps, _, h => by
    obtain ⟨v, q, rfl, h1, h2⟩ := h
    rw [List.any_cons, List.any_cons, RKs.any h2]
    congr 1
    exact decide_eq_decide.mpr inl_inj
theorem RKs.map {k : List Int} {p : PV} {v : V} (r : RV g H ι p v) : ∀ {kvs : List (List Int × PV)} {dvs : List (List Key × V)}, RKs g H ι kvs dvs → RKs g H ι (kvs.map fun q => if q.1 = k then (q.1, p) else q) (dvs.map fun kv => if kv.1 = k.map Sum.inl then (kv.1, v) else kv)
  | [], _, h => by cases (show _ = [] from h); rfl
  | (j, u) :: ps, _, h => by
    obtain ⟨w, q, rfl, h1, h2⟩ := h
    by_cases e : j = k
    · refine ⟨v, _, ?_, ?_, RKs.map r h2⟩
      · simp [e, inl_inj]
      · simp only [if_pos e]; exact r
    · refine ⟨w, _, ?_, ?_, RKs.map r h2⟩
      · simp [e, inl_inj]
      · simp only [if_neg e]; exact h1
theorem RKs.snoc {k : List Int} {p : PV} {v : V} (r : RV g H ι p v) : ∀ {kvs : List (List Int × PV)} {dvs : List (List Key × V)}, RKs g H ι kvs dvs → RKs g H ι (kvs ++ [(k, p)]) (dvs ++ [(k.map Sum.inl, v)])
  | [], _, h => by cases (show _ = [] from h); exact ⟨v, [], rfl, r, rfl⟩
  | (j, u) :: ps, _, h => by
    obtain ⟨w, q, rfl, h1, h2⟩ := h
    exact ⟨w, _, rfl, h1, RKs.snoc r h2⟩
theorem RKs.put {k : List Int} {p : PV} {v : V} (r : RV g H ι p v) {kvs : List (List Int × PV)} {dvs : List (List Key × V)} (h : RKs g H ι kvs dvs) : RKs g H ι (dput k p kvs) (putK dvs (k.map Sum.inl) v) := by
  unfold dput putK
  rw [h.any]
  split
  · exact h.map r
  · exact h.snoc r
theorem dlook_some {k : List Int} {kvs : List (List Int × PV)} {dvs : List (List Key × V)} (h : RKs g H ι kvs dvs) : (valV dvs (k.map Sum.inl)).isSome = (dlook k kvs).isSome := by
  have := h.look (k := k)
  cases e : dlook k kvs with
  | none => rw [this.2 e]; rfl
  | some p => obtain ⟨v, e1, _⟩ := this.1 p e; rw [e1]; rfl
theorem rm_dic {l : Nat} {kvs : List (List Int × PV)} {v : V} (rm : RM g H ι μ) (h : dicAt μ (.loc l) = some kvs) (r : RV g H ι (.loc l) v) : ∃ a dvs, ι[l]? = some a ∧ v = .ref a ∧ H a = some (.dT dvs) ∧ RKs g H ι kvs dvs := by
  obtain ⟨b, e, rfl⟩ := r
  have h : (match μ[l]? with | some (.dic kvs) => some kvs | _ => none) = some kvs := h
  split at h
  · rename_i ys q
    cases h
    obtain ⟨a, e1, dvs, e2, r⟩ := rm.at_ l _ q
    rw [e] at e1; cases e1
    exact ⟨_, dvs, e, rfl, e2, r⟩
  · cases h
theorem key_rv {x : PV} {v : V} {k : List Int} (r : RV g H ι x v) (h : keyOf x = some k) : ∃ b, v = .ref b ∧ H b = some (.tup ((k.map (Sum.inl : Int → Key)).map kV)) := by
  cases x with
  | tup xs =>
    obtain ⟨b, vs, rfl, s, t⟩ := r
    rw [t.ints h] at s
    refine ⟨b, rfl, ?_⟩
    rw [s, List.map_map]
    rfl
  | _ => cases h
theorem dget_of {x y : PV} {v w : V} {kvs : List (List Int × PV)} {k : List Int} (rm : RM g H ι μ) (r1 : RV g H ι x v) (r2 : RV g H ι y w) (h1 : dicAt μ y = some kvs) (h2 : keyOf x = some k) : ∃ a dvs, w = .ref a ∧ RKs g H ι kvs dvs ∧ DGet H a v (valV dvs (k.map Sum.inl)) := by
  cases y with
  | loc l =>
    obtain ⟨a, dvs, _, rfl, e, r⟩ := rm_dic rm h1 r2
    obtain ⟨b, rfl, e2⟩ := key_rv r1 h2
    exact ⟨a, dvs, rfl, r, DGet.t e e2⟩
  | _ => cases h1
theorem isNon_of {p : PV} {v : V} {b : Bool} (r : RV g H ι p v) (h : isNon p = some b) : decide (v = .non) = b := by
  cases p with
  | non => cases r; cases h; rfl
  | bl _ => cases r; cases h; rfl
  | int _ => cases r; cases h; rfl
  | str _ => cases r; cases h; rfl
  | tup xs => obtain ⟨a, vs, rfl, _⟩ := r; cases h; rfl
  | loc n => obtain ⟨a, _, rfl⟩ := r; cases h; rfl
theorem isN_of {x : V} {f : Bool → Bool} {px : PV} (rm : RM g H ι μ) (r1 : RV g H ι px x) (q : Fin g (fun _ _ _ _ => False) σ (RVf g) H ι μ ((Res.ofO (isNon px) μ).bind fun b μ => .ok (.bl (f b)) μ) Q) : Q (.bl (f (decide (x = .non)))) H := by
  cases e : isNon px with
  | none => rw [e] at q; exact q.elim
  | some b =>
    rw [e] at q
    rw [isNon_of r1 e]; exact q.here rm rfl
theorem eq_of {x y : V} {f : Bool → Bool} {px py : PV} (rm : RM g H ι μ) (r1 : RV g H ι px x) (r2 : RV g H ι py y) (q : Fin g (fun _ _ _ _ => False) σ (RVf g) H ι μ ((Res.ofO (eqB μ px py) μ).bind fun b μ => .ok (.bl (f b)) μ) Q) :
    (∃ d e, Dp g.K H x d ∧ Dp g.K H y e ∧ SeqAt.shaped d = true ∧ SeqAt.shaped e = true ∧ Q (.bl (f (PyData.eqv d e))) H) ∨
      (∃ a b vs ws, x = .ref a ∧ y = .ref b ∧ SqL g.K H a vs ∧ SqL g.K H b ws ∧ vs.length ≠ ws.length ∧ Q (.bl (f false)) H) ∨
      (∃ a b : Str, x = .str a ∧ y = .str b ∧ Q (.bl (f (decide (a = b)))) H) := by
  have two : Fin g (fun _ _ _ _ => False) σ (RVf g) H ι μ ((Res.ofO (lenB μ px py) μ).bind fun b μ => .ok (.bl (f b)) μ) Q →
      (∃ a b vs ws, x = .ref a ∧ y = .ref b ∧ SqL g.K H a vs ∧ SqL g.K H b ws ∧ vs.length ≠ ws.length ∧ Q (.bl (f false)) H) := fun q => by
    cases px with
    | loc m =>
      cases py with
      | loc k =>
        unfold lenB at q
        dsimp only at q
        cases e1 : listAt μ (.loc m) with
        | none => rw [e1] at q; exact q.elim
        | some xs =>
          cases e2 : listAt μ (.loc k) with
          | none => rw [e1, e2] at q; exact q.elim
          | some ys =>
            rw [e1, e2] at q
            dsimp only at q
            split at q
            · exact q.elim
            · rename_i ne
              obtain ⟨a, vs, rfl, s1, t1⟩ := rm_list rm e1 r1
              obtain ⟨b, ws, rfl, s2, t2⟩ := rm_list rm e2 r2
              exact ⟨a, b, vs, ws, rfl, rfl, s1, s2, by rw [← t1.length, ← t2.length]; exact ne, q.here rm rfl⟩
      | _ => exact q.elim
    | _ => exact q.elim
  unfold eqB at q
  cases e1 : toD 12 μ px with
  | none => rw [e1] at q; exact .inr (.inl (two q))
  | some d =>
    cases e2 : toD 12 μ py with
    | none => rw [e1, e2] at q; exact .inr (.inl (two q))
    | some e =>
      rw [e1, e2] at q
      dsimp only at q
      split at q
      · rename_i c
        exact .inl ⟨d, e, toD_dp rm _ _ _ _ r1 e1, toD_dp rm _ _ _ _ r2 e2, c.1, c.2, q.here rm rfl⟩
      · cases es : strB px py with
        | none => rw [es] at q; exact q.elim
        | some b =>
          rw [es] at q
          unfold strB at es
          split at es
          · cases es
            cases r1; cases r2
            exact .inr (.inr ⟨_, _, rfl, rfl, q.here rm rfl⟩)
          · cases es
theorem signOf_some {a : Str} {c : Nat} (h : signOf a = some c) : a = ⟨#[c]⟩ := by
  unfold signOf at h
  split at h
  · rename_i c' e
    cases h
    exact TL.ext_tl e
  · cases h
theorem in_of {x y : V} {f : Bool → Bool} {px py : PV} (rm : RM g H ι μ) (r1 : RV g H ι px x) (r2 : RV g H ι py y) (q : Fin g (fun _ _ _ _ => False) σ (RVf g) H ι μ ((Res.ofO (inB μ px py) μ).bind fun b μ => .ok (.bl (f b)) μ) Q) :
    (∃ d ds, Dp g.K H x d ∧ (Dp g.K H y (.list ds) ∨ Dp g.K H y (.tuple ds)) ∧ SeqAt.shaped d = true ∧ SeqAt.shaped (.list ds) = true ∧ Q (.bl (f (ds.any fun z => PyData.eqv z d))) H) ∨ (∃ a o, y = .ref a ∧ DGet H a x o ∧ Q (.bl (f o.isSome)) H) ∨ ∃ (c : Nat) (z : Str), x = .str ⟨#[c]⟩ ∧ y = .str z ∧ Q (.bl (f (decide (c ∈ z.cps.toList)))) H := by
  unfold inB at q
  cases e0 : seqAt μ py with
  | none =>
    rw [e0] at q
    dsimp only at q
    cases es : inS px py with
    | some b =>
      rw [es] at q
      unfold inS at es
      split at es
      · rename_i a z
        cases r1; cases r2
        cases e3 : signOf a with
        | none => rw [e3] at es; cases es
        | some c =>
          rw [e3] at es
          cases es
          rw [signOf_some e3]
          exact .inr (.inr ⟨c, z, rfl, rfl, q.here rm rfl⟩)
      · cases es
    | none =>
    rw [es] at q
    dsimp only at q
    unfold inD at q
    cases e1 : dicAt μ py with
    | none => rw [e1] at q; exact q.elim
    | some kvs =>
      cases e2 : keyOf px with
      | none => rw [e1, e2] at q; exact q.elim
      | some k =>
        rw [e1, e2] at q
        obtain ⟨a, dvs, rfl, rk, dg⟩ := dget_of rm r1 r2 e1 e2
        exact .inr (.inl ⟨a, _, rfl, dg, by rw [dlook_some rk]; exact q.here rm rfl⟩)
  | some ys =>
    cases e1 : toD 12 μ px with
    | none => rw [e0, e1] at q; exact q.elim
    | some d =>
      cases e2 : ys.mapM (toD 12 μ) with
      | none => rw [e0, e1] at q; dsimp only at q; rw [e2] at q; exact q.elim
      | some ds =>
        rw [e0, e1] at q
        dsimp only at q
        rw [e2] at q
        dsimp only at q
        split at q
        · rename_i c
          obtain ⟨a, vs, rfl, hs, rv⟩ := rm_seq rm e0 r2
          refine .inl ⟨d, ds, toD_dp rm _ _ _ _ r1 e1, ?_, c.1, c.2, q.here rm rfl⟩
          rcases hs with hs | hs
          · exact .inl (.lst hs (toD_all rm _ _ _ rv e2))
          · exact .inr (.tup (SqT.of hs) (toD_all rm _ _ _ rv e2))
        · exact q.elim
theorem op_cmp (hg : g.K = X.K) (hu : X.A.units + 65 < cLine) (o : Cm) : OpR X (compareOp (cmc o)) (rB g (cmpV o)) := by
  have i2 : ∀ {o : Cm} {f : Int → Int → Bool} {x y : V} {H : Hp} {Q : VK}, (∀ a b μ, cmpV o (.int a) (.int b) μ = .ok (.bl (f a b)) μ) → (∀ x y μ, (∀ a b, ¬ (x = .int a ∧ y = .int b)) → cmpV o x y μ = .bad) →
      rB g (cmpV o) x y H Q → rI0 (fun i j => .bl (f i j)) x y H Q := by
    intro o f x y H Q hf hn h
    obtain ⟨σ, ι, μ, px, py, rm, r1, r2, _, q⟩ := h
    by_cases z : ∃ a b, px = .int a ∧ py = .int b
    · obtain ⟨a, b, rfl, rfl⟩ := z
      cases r1; cases r2
      rw [hf] at q
      exact ⟨a, b, rfl, rfl, q.here rm rfl⟩
    · rw [hn px py μ fun a b w => z ⟨a, b, w⟩] at q
      exact q.elim
  have hn : ∀ (o : Cm), (o = .gt) → ∀ x y μ, (∀ a b, ¬ (x = .int a ∧ y = .int b)) → cmpV o x y μ = .bad := by
    intro o h x y μ n
    unfold cmpV
    split <;> first | rfl | (exact absurd ⟨rfl, rfl⟩ (n _ _)) | (cases h)
  cases o with
  | eq =>
    refine OpR.imp ((op_eqD (by omega)).or ((op_eqL (by omega)).or op_eq)) fun x y H Q h => ?_
    obtain ⟨σ, ι, μ, px, py, rm, r1, r2, _, q⟩ := h
    rw [← hg]
    rcases eq_of (f := id) rm r1 r2 q with h | h | ⟨a, b, rfl, rfl, h⟩
    · exact .inl h
    · exact .inr (.inl h)
    · exact .inr (.inr ⟨rfl, by rw [show decide (V.str a = V.str b) = decide (a = b) by simp]; exact h⟩)
  | ne =>
    refine OpR.imp ((op_neD (by omega)).or ((op_neL (by omega)).or op_ne)) fun x y H Q h => ?_
    obtain ⟨σ, ι, μ, px, py, rm, r1, r2, _, q⟩ := h
    rw [← hg]
    rcases eq_of (f := fun b => !b) rm r1 r2 q with h | h | ⟨a, b, rfl, rfl, h⟩
    · exact .inl h
    · exact .inr (.inl h)
    · exact .inr (.inr ⟨rfl, by rw [show decide (V.str a = V.str b) = decide (a = b) by simp]; exact h⟩)
  | lt =>
    refine OpR.imp (op_lt.or (op_ltT (by omega))) fun x y H Q h => ?_
    obtain ⟨σ, ι, μ, px, py, rm, r1, r2, _, q⟩ := h
    unfold cmpV at q
    split at q
    all_goals first | exact q.elim | contradiction | skip
    · cases r1; cases r2
      exact .inl ⟨_, _, rfl, rfl, q.here rm rfl⟩
    · split at q
      · rename_i e1 e2
        obtain ⟨a, vs, rfl, s1, t1⟩ := r1
        have s1' := s1
        replace s1 := SqT.of (K := g.K) s1
        obtain ⟨b, ws, rfl, s2, t2⟩ := r2
        replace s2 := SqT.of (K := g.K) s2
        rw [t1.ints e1] at s1
        rw [t2.ints e2] at s2
        exact .inr ⟨a, b, _, _, rfl, rfl, by rw [← hg]; exact s1, by rw [← hg]; exact s2, q.here rm rfl⟩
      · exact q.elim
  | le =>
    refine OpR.imp (op_le.or ((op_leT (by omega)).or (op_leD (by omega)))) fun x y H Q h => ?_
    obtain ⟨σ, ι, μ, px, py, rm, r1, r2, _, q⟩ := h
    unfold cmpV at q
    split at q
    all_goals first | exact q.elim | contradiction | skip
    · cases r1; cases r2
      exact .inl ⟨_, _, rfl, rfl, q.here rm rfl⟩
    · split at q
      · rename_i e1 e2
        split at q
        · rename_i cc
          refine .inr (.inr ⟨_, _, ?_, ?_, cc.1, (fun z => by cases z), cc.2, q.here rm rfl⟩)
          · rw [← hg]; exact toD_dp rm _ _ _ _ r1 e1
          · rw [← hg]; exact toD_dp rm _ _ _ _ r2 e2
        · exact q.elim
      · exact q.elim
    · split at q
      · rename_i e1 e2
        obtain ⟨a, vs, rfl, s1, t1⟩ := r1
        have s1' := s1
        replace s1 := SqT.of (K := g.K) s1
        obtain ⟨b, ws, rfl, s2, t2⟩ := r2
        replace s2 := SqT.of (K := g.K) s2
        rw [t1.ints e1] at s1
        rw [t2.ints e2] at s2
        exact .inr (.inl ⟨a, b, _, _, rfl, rfl, by rw [← hg]; exact s1, by rw [← hg]; exact s2, by rw [lexAt_le]; exact q.here rm rfl⟩)
      · exact q.elim
  | gt => exact OpR.imp op_gt fun x y H Q h => i2 (f := fun i j => decide (j < i)) (fun _ _ _ => rfl) (hn _ (by simp)) h
  | ge =>
    refine OpR.imp (op_ge.or (op_geT (by omega))) fun x y H Q h => ?_
    obtain ⟨σ, ι, μ, px, py, rm, r1, r2, _, q⟩ := h
    unfold cmpV at q
    split at q
    all_goals first | exact q.elim | contradiction | skip
    · cases r1; cases r2
      exact .inl ⟨_, _, rfl, rfl, q.here rm rfl⟩
    · split at q
      · rename_i e1 e2
        obtain ⟨a, vs, rfl, s1, t1⟩ := r1
        have s1' := s1
        replace s1 := SqT.of (K := g.K) s1
        obtain ⟨b, ws, rfl, s2, t2⟩ := r2
        replace s2 := SqT.of (K := g.K) s2
        rw [t1.ints e1] at s1
        rw [t2.ints e2] at s2
        exact .inr ⟨a, b, _, _, rfl, rfl, by rw [← hg]; exact s1, by rw [← hg]; exact s2, by rw [lexAt_ge]; exact q.here rm rfl⟩
      · exact q.elim
  | is =>
    refine OpR.imp (op_isN.or (op_isBl.or op_isIB)) fun x y H Q h => ?_
    obtain ⟨σ, ι, μ, px, py, rm, r1, r2, _, q⟩ := h
    unfold cmpV at q
    split at q
    all_goals first | exact q.elim | contradiction | skip
    · cases r2
      exact .inl ⟨rfl, isN_of (f := id) rm r1 q⟩
    · cases r1; cases r2
      exact .inr (.inl ⟨_, _, rfl, rfl, q.here rm rfl⟩)
    · cases r1; cases r2
      exact .inr (.inr ⟨_, _, rfl, rfl, q.here rm rfl⟩)
  | isnot =>
    refine OpR.imp (op_notN.or (op_notBl.or op_notIB)) fun x y H Q h => ?_
    obtain ⟨σ, ι, μ, px, py, rm, r1, r2, _, q⟩ := h
    unfold cmpV at q
    split at q
    all_goals first | exact q.elim | contradiction | skip
    · cases r1; cases r2
      exact .inr (.inl ⟨_, _, rfl, rfl, q.here rm rfl⟩)
    · cases r1; cases r2
      exact .inr (.inr ⟨_, _, rfl, rfl, q.here rm rfl⟩)
    · cases r2
      exact .inl ⟨rfl, isN_of (f := fun b => !b) rm r1 q⟩
  | inn =>
    refine OpR.imp ((op_inD hu).or ((op_inT hu).or ((op_inDc (by omega)).or op_in_sign))) fun x y H Q h => ?_
    obtain ⟨σ, ι, μ, px, py, rm, r1, r2, _, q⟩ := h
    rcases in_of (f := id) rm r1 r2 q with ⟨d, ds, h1, h2, h3, h4, h5⟩ | z
    · rw [hg] at h1 h2
      rcases h2 with h2 | h2
      · exact .inl ⟨d, ds, h1, h2, h3, h4, h5⟩
      · exact .inr (.inl ⟨d, ds, h1, h2, h3, h4, h5⟩)
    · exact .inr (.inr z)
  | notin =>
    refine OpR.imp ((op_notInD hu).or ((op_notInT hu).or ((op_notInDc (by omega)).or op_notIn_sign))) fun x y H Q h => ?_
    obtain ⟨σ, ι, μ, px, py, rm, r1, r2, _, q⟩ := h
    rcases in_of (f := fun b => !b) rm r1 r2 q with ⟨d, ds, h1, h2, h3, h4, h5⟩ | z
    · rw [hg] at h1 h2
      rcases h2 with h2 | h2
      · exact .inl ⟨d, ds, h1, h2, h3, h4, h5⟩
      · exact .inr (.inl ⟨d, ds, h1, h2, h3, h4, h5⟩)
    · exact .inr (.inr z)
theorem negV_noex (x : PV) (μ : Store) (e : PX) (μ' : Store) : negV x μ ≠ .ex e μ' := by
  unfold negV
  split <;> (intro h; cases h)
theorem un_neg' : UnR X (unaryOp .USub) (rU1 g negV) := by
  intro pins s σ H x v Q I rx h
  refine un_neg pins s σ H x v Q I rx ?_
  obtain ⟨σ, ι, μ, px, rm, r1, _, q⟩ := h
  cases px with
  | int i => cases r1; exact ⟨i, rfl, q.here rm rfl⟩
  | _ => exact q.elim

/-! ### a[i] -/
theorem idxV_noex (x y : PV) (μ : Store) (e : PX) (μ' : Store) : idxV x y μ ≠ .ex e μ' := by
  unfold idxV
  split
  · exact ofO_noex _ _ _ _
  · exact ofO_bind_noex _ _ _ (fun _ _ _ => ofO_noex _ _ _ _) _ _
  · exact ofO_noex _ _ _ _
  · split
    · exact ofO_noex _ _ _ _
    · intro h; cases h
  · intro h; cases h
theorem at_of {xs : List PV} {vs : List V} {i : Int} {p : PV} (r : RVs g H ι xs vs) (h : L2.atI xs i = some p) : ∃ v, L2.atI vs i = some v ∧ RV g H ι p v := by
  unfold L2.atI at h ⊢
  rw [← r.length]
  cases e : ixN xs.length i with
  | none => rw [e] at h; cases h
  | some j => rw [e] at h; exact r.get h
theorem ix_dic (hu : X.A.units + 1 < cLine) : IxR X (fun x y H Q => ∃ a v, x = .ref a ∧ DGet H a y (some v) ∧ Q v H) := by
  intro value slice pins s σ H x y v u Q I rx ry h hs
  obtain ⟨a, w, rfl, g, q⟩ := h
  obtain rfl : v = Value.ref a := rx
  exact tail_any (dict_typeIs I g) PySem.F.slot_dict_getitem.lookup (d_getItem hu I g ry fun w' s' I' rw' => ⟨w, H, I', rw', q⟩) hs
theorem ix_any (hg : g.K = X.K) (hu : X.A.units + 65 < cLine) : IxR X (rB g idxV) := by
  intro value slice pins s σ H x y v u Q I rx ry h hs
  refine (ix_seq.or (ix_dic (by omega))) value slice pins s σ H x y v u Q I rx ry ?_ hs
  obtain ⟨σ, ι, μ, px, py, rm, r1, r2, _, q⟩ := h
  cases px with
  | tup xs =>
    cases py with
    | int i =>
      cases r2
      obtain ⟨a, vs, rfl, s1, t1⟩ := r1
      have s1' := s1
      replace s1 := SqT.of (K := g.K) s1
      have q : Fin g (fun _ _ _ _ => False) σ (RVf g) H ι μ (Res.ofO (L2.atI xs i) μ) Q := q
      cases e : L2.atI xs i with
      | none => rw [e] at q; exact q.elim
      | some p =>
        rw [e] at q
        obtain ⟨w, e1, rw1⟩ := at_of t1 e
        exact .inl (.inr (.inl ⟨a, vs, i, w, rfl, rfl, by rw [← hg]; exact s1, e1, q.here rm rw1⟩))
    | _ => exact q.elim
  | loc l =>
    cases py with
    | int i =>
      cases r2
      have q : Fin g (fun _ _ _ _ => False) σ (RVf g) H ι μ ((Res.ofO (listAt μ (.loc l)) μ).bind fun xs μ => Res.ofO (L2.atI xs i) μ) Q := q
      cases e0 : listAt μ (.loc l) with
      | none => rw [e0] at q; exact q.elim
      | some xs =>
        rw [e0] at q
        obtain ⟨a, vs, rfl, s1, t1⟩ := rm_list rm e0 r1
        cases e : L2.atI xs i with
        | none => rw [Res.ofO_some, Res.bind_ok, e] at q; exact q.elim
        | some p =>
          rw [Res.ofO_some, Res.bind_ok, e] at q
          obtain ⟨w, e1, rw1⟩ := at_of t1 e
          exact .inl (.inl ⟨a, vs, i, w, rfl, rfl, by rw [← hg]; exact s1, e1, q.here rm rw1⟩)
    | tup ks =>
      have q : Fin g (fun _ _ _ _ => False) σ (RVf g) H ι μ (Res.ofO ((dicAt μ (.loc l)).bind fun kvs => (intsOf ks).bind fun k => dlook k kvs) μ) Q := q
      cases e1 : dicAt μ (.loc l) with
      | none => rw [e1] at q; exact q.elim
      | some kvs =>
        cases e2 : intsOf ks with
        | none => rw [e1, e2] at q; exact q.elim
        | some k =>
          rw [e1, e2] at q
          have q : Fin g (fun _ _ _ _ => False) σ (RVf g) H ι μ (Res.ofO (dlook k kvs) μ) Q := q
          cases e3 : dlook k kvs with
          | none => rw [e3] at q; exact q.elim
          | some p =>
            rw [e3] at q
            obtain ⟨a, dvs, rfl, rk, dg⟩ := dget_of rm r2 r1 e1 (x := .tup ks) e2
            obtain ⟨w, e4, rw1⟩ := (rk.look (k := k)).1 p e3
            rw [e4] at dg
            exact .inr ⟨a, w, rfl, dg, q.here rm rw1⟩
    | _ => exact q.elim
  | str z =>
    cases py with
    | int i =>
      cases r1; cases r2
      have q : Fin g (fun _ _ _ _ => False) σ (RVf g) H ι μ (if z.length ≤ sizeLine then Res.ofO ((L2.atI z.cps.toList i).map signPV) μ else .bad) Q := q
      split at q
      · rename_i hz
        cases e : L2.atI z.cps.toList i with
        | none => rw [e] at q; exact q.elim
        | some c =>
          rw [e] at q
          exact .inl (.inr (.inr ⟨z, i, c, rfl, rfl, hz, e, q.here rm rfl⟩))
      · exact q.elim
    | _ => exact q.elim
  | _ => exact q.elim
/-! ### a[lo:hi] -/
def toP : Option Int → Option PV
  | none => none
  | some i => some (.int i)
def rSlc (g : G) : V → Option Int → Option Int → Hp → VK → Prop := fun x lo hi H Q => ∃ (σ : L2.St) (ι : List Addr) (μ : Store) (px : PV), RM g H ι μ ∧ RV g H ι px x ∧ Fin g (fun _ _ _ _ => False) σ (RVf g) H ι μ (slcV px (toP lo) (toP hi) μ) Q
theorem part_toP (o : Option Int) : part (toP o) = some o := by cases o <;> rfl
theorem slcV_noex (x : PV) (lo hi : Option PV) (μ : Store) (e : PX) (μ' : Store) : slcV x lo hi μ ≠ .ex e μ' := by
  unfold slcV
  split
  · split
    · exact ofO_bind_noex _ _ _ (fun _ _ _ z => by cases z) _ _
    · intro h; cases h
    · split <;> (intro h; cases h)
    · intro h; cases h
  · intro h; cases h
theorem cut_whole {α : Type} {xs : List α} {lo hi : Option Int} (h1 : HT.sIx xs.length 0 lo = 0) (h2 : HT.sIx xs.length xs.length hi = xs.length) : cut xs lo hi = xs := by
  unfold cut
  rw [h1, h2]
  simp
theorem sl_any (hg : g.K = X.K) : SlR X (rSlc g) := by
  intro pins s σ H x v vl vu lo hi sl Q I rx hs pl pu h
  refine (sl_list.or (sl_tupA.or sl_str)) pins s σ H x v vl vu lo hi sl Q I rx hs pl pu ?_
  obtain ⟨σ, ι, μ, px, rm, r1, q⟩ := h
  unfold slcV at q
  rw [part_toP, part_toP] at q
  dsimp only at q
  split at q
  · rename_i n
    cases e0 : listAt μ (.loc n) with
    | none => rw [e0] at q; exact q.elim
    | some xs =>
      rw [e0] at q
      obtain ⟨a, vs, rfl, s1, t1⟩ := rm_list rm e0 r1
      exact .inl ⟨a, vs, rfl, by rw [← hg]; exact s1, fun p hp => fin_list rm hp (t1.cut lo hi) rfl q⟩
  · obtain ⟨a, vs, rfl, s1, t1⟩ := r1
    have s1' := s1
    replace s1 := SqT.of (K := g.K) s1
    rename_i xs
    refine .inr (.inl ⟨a, vs, rfl, by rw [← hg]; exact s1, fun z => ?_, fun _ p hp => fin_tup rm hp (t1.cut lo hi) q⟩)
    rw [← t1.length] at z
    rw [cut_whole z.1 z.2] at q
    exact q.here rm ⟨a, vs, rfl, s1', t1⟩
  · split at q
    · rename_i z hz
      cases r1
      exact .inr (.inr ⟨z, rfl, hz, q.here rm rfl⟩)
    · exact q.elim
  · exact q.elim
end
end BW
set_option maxHeartbeats 4000000
/-! min and max of two things, compared at the state. -/
namespace BW
open PySem PySem.Spec PyProof.Rows L2
section
variable {prog : Program} {w : World} {A : Around} {R : Result → Shared → Prop} {E : Value → Shared → Prop} {I S : Addr} {fp wr : List Addr} {P : Nat → Value → Prop} {St : Nat → Heap → Prop} {s : Shared} {a b : Value} {c : Nat} {r : Bool}
/-- behind both: the best so far comes -/
theorem minbeh (W : Walks prog w A.in1 I fp wr 2 P St) (hSf : S ∉ fp) {v : Value} (st : St 2 s.heap) (hS : s.heap.get? S = some ⟨.type "list", none, .seq #[v, v] c, #[]⟩)
    (k : ∀ h' tk, (∀ d o, d ∉ wr → d ≠ S → s.heap.get? d = some o → h'.get? d = some o) → R (.ok (.ret v)) { s with heap := h', toks := tk }) : codeAny (model prog w) A (.builtin "min.loop" ⟨[.ref I, .none, .ref S], []⟩) R s := by
  refine (codeAny_builtin F.entry_min_loop ?_)
  rw [Around.under_plainId F.plain_min_loop]
  refine (show wpAny _ A.in1 (seqItems? (.ref S) >>= _) _ _ s from wpAny_bind (wpAny_seqItems hS rfl ?_))
  refine (show wpAny _ A.in1 (tryCatch (pyNext (.ref I)) _ >>= _) _ _ s from wpAny_bind (wpAny_tryCatch (W.done s _ _ st fun h' tk hk => ?_)))
  refine (show wpAny _ A.in1 (updateSeq S (fun _ => #[]) >>= _) _ _ _ from wpAny_bind (wpAny_updateSeq (hk S _ (fun z => hSf (W.sub _ z)) hS) rfl (wpAny_bind (wpAny_letGo (wpAny_pure ?_)))))
  exact k _ tk fun d o hd hdS e => (Heap.get?_update_other _ _ (Ne.symm hdS)).trans (hk d o hd e)
/-- at the second -/
theorem minsec (W : Walks prog w A.in1 I fp wr 2 P St) (hP1 : ∀ v, P 1 v → v = b) (hSf : S ∉ fp) (st : St 1 s.heap) (hS : s.heap.get? S = some ⟨.type "list", none, .seq #[a, a] c, #[]⟩)
    (hc : ∀ (h' : Heap) tk (Q' : Value → Shared → Prop) (E' : Value → Shared → Prop), (∀ d o, d ∉ wr → s.heap.get? d = some o → h'.get? d = some o) → Q' (.bool r) { s with heap := h', toks := tk } → wpAny (model prog w) A.in1 (richCompare .Lt b a) Q' E' { s with heap := h', toks := tk })
    (k : ∀ h' tk, (∀ d o, d ∉ wr → d ≠ S → s.heap.get? d = some o → h'.get? d = some o) → R (.ok (.ret (if r then b else a))) { s with heap := h', toks := tk }) : codeAny (model prog w) A (.builtin "min.loop" ⟨[.ref I, .none, .ref S], []⟩) R s := by
  have nm : (toString "min" ++ toString ".loop" : String) = "min.loop" := by decide
  refine (codeAny_builtin F.entry_min_loop ?_)
  rw [Around.under_plainId F.plain_min_loop]
  refine (show wpAny _ A.in1 (seqItems? (.ref S) >>= _) _ _ s from wpAny_bind (wpAny_seqItems hS rfl ?_))
  refine (show wpAny _ A.in1 (tryCatch (pyNext (.ref I)) _ >>= _) _ _ s from wpAny_bind (wpAny_tryCatch (W.item 1 s _ _ (by decide) st fun v h' tk hP st' hk => ?_)))
  have hS' := hk S _ (fun z => hSf (W.sub _ z)) hS
  obtain rfl := hP1 v hP
  refine (show wpAny _ A.in1 (tryCatch (holding [v, v] (richCompare .Lt v a >>= _)) _ >>= _) _ _ _ from wpAny_bind (wpAny_tryCatch (wpAny_holding (wpAny_bind (hc h' tk _ _ hk ?_)))))
  refine (wpAny_bind (wpAny_holding (wpAny_truthy_bool (wpAny_bind (wpAny_letGo (wpAny_pure ?_))))))
  cases r with
  | true =>
    simp only [if_true] at k ⊢
    refine (wpAny_bind (wpAny_updateSeq hS' rfl (wpAny_bind (wpAny_letGo ?_))))
    rw [nm]
    refine (wpAny_pure ⟨plainId_quiet F.plain_min_loop _, minbeh W hSf (v := v) (W.frame _ _ _ st' fun d hd o e => (Heap.get?_update_other _ _ (fun z : S = d => hSf (by rw [z]; exact hd))).trans e) (Heap.get?_update_self _ hS' rfl) fun h2 tk2 hk2 => ?_⟩)
    exact k h2 tk2 fun d o hd hdS e => hk2 d o hd hdS ((Heap.get?_update_other _ _ (Ne.symm hdS)).trans (hk d o hd e))
  | false =>
    simp only [Bool.false_eq_true, if_false] at k ⊢
    refine (wpAny_bind (wpAny_letGo ?_))
    rw [nm]
    refine (wpAny_pure ⟨plainId_quiet F.plain_min_loop _, minbeh W hSf (v := a) st' hS' fun h2 tk2 hk2 => ?_⟩)
    exact k h2 tk2 fun d o hd hdS e => hk2 d o hd hdS (hk d o hd e)
/-- at the first -/
theorem minfst (W : Walks prog w A.in1 I fp wr 2 P St) (hP0 : ∀ v, P 0 v → v = a) (hP1 : ∀ v, P 1 v → v = b) (hSf : S ∉ fp) (st : St 0 s.heap) (hS : s.heap.get? S = some ⟨.type "list", none, .seq #[] c, #[]⟩)
    (hc : ∀ (h' : Heap) tk (Q' : Value → Shared → Prop) (E' : Value → Shared → Prop), (∀ d o, d ∉ wr → d ≠ S → s.heap.get? d = some o → h'.get? d = some o) → Q' (.bool r) { s with heap := h', toks := tk } → wpAny (model prog w) A.in1 (richCompare .Lt b a) Q' E' { s with heap := h', toks := tk })
    (k : ∀ h' tk, (∀ d o, d ∉ wr → d ≠ S → s.heap.get? d = some o → h'.get? d = some o) → R (.ok (.ret (if r then b else a))) { s with heap := h', toks := tk }) : codeAny (model prog w) A (.builtin "min.loop" ⟨[.ref I, .none, .ref S], []⟩) R s := by
  have nm : (toString "min" ++ toString ".loop" : String) = "min.loop" := by decide
  refine (codeAny_builtin F.entry_min_loop ?_)
  rw [Around.under_plainId F.plain_min_loop]
  refine (show wpAny _ A.in1 (seqItems? (.ref S) >>= _) _ _ s from wpAny_bind (wpAny_seqItems hS rfl ?_))
  refine (show wpAny _ A.in1 (tryCatch (pyNext (.ref I)) _ >>= _) _ _ s from wpAny_bind (wpAny_tryCatch (W.item 0 s _ _ (by decide) st fun v h' tk hP st' hk => ?_)))
  have hS' := hk S _ (fun z => hSf (W.sub _ z)) hS
  obtain rfl := hP0 v hP
  refine (show wpAny _ A.in1 (updateSeq S (fun _ => #[v, v]) >>= _) _ _ _ from wpAny_bind (wpAny_updateSeq hS' rfl ?_))
  rw [nm]
  have pre : ∀ (f : Obj → Obj) d o, d ∉ wr → d ≠ S → s.heap.get? d = some o → (h'.update S f).get? d = some o := fun f d o hd hdS e => (Heap.get?_update_other _ _ (Ne.symm hdS)).trans (hk d o hd e)
  refine (wpAny_pure ⟨plainId_quiet F.plain_min_loop _, minsec W hP1 hSf (a := v) (r := r) (W.frame _ _ _ st' fun d hd o e => (Heap.get?_update_other _ _ (fun z : S = d => hSf (by rw [z]; exact hd))).trans e) (Heap.get?_update_self _ hS' rfl) (fun h2 tk2 Q' E' hk2 q => ?_) fun h2 tk2 hk2 => ?_⟩)
  · exact hc h2 tk2 Q' E' (fun d o hd hdS e => hk2 d o hd (pre _ d o hd hdS e)) q
  · exact k h2 tk2 fun d o hd hdS e => hk2 d o hd hdS (pre _ d o hd hdS e)
end
section
variable {prog : Program} {w : World} {A : Around} {R : Result → Shared → Prop} {E : Value → Shared → Prop} {I S : Addr} {fp wr : List Addr} {P : Nat → Value → Prop} {St : Nat → Heap → Prop} {s : Shared} {a b : Value} {c : Nat} {r : Bool}
/-- behind both: the best so far comes -/
theorem maxbeh (W : Walks prog w A.in1 I fp wr 2 P St) (hSf : S ∉ fp) {v : Value} (st : St 2 s.heap) (hS : s.heap.get? S = some ⟨.type "list", none, .seq #[v, v] c, #[]⟩)
    (k : ∀ h' tk, (∀ d o, d ∉ wr → d ≠ S → s.heap.get? d = some o → h'.get? d = some o) → R (.ok (.ret v)) { s with heap := h', toks := tk }) : codeAny (model prog w) A (.builtin "max.loop" ⟨[.ref I, .none, .ref S], []⟩) R s := by
  refine (codeAny_builtin F.entry_max_loop ?_)
  rw [Around.under_plainId F.plain_max_loop]
  refine (show wpAny _ A.in1 (seqItems? (.ref S) >>= _) _ _ s from wpAny_bind (wpAny_seqItems hS rfl ?_))
  refine (show wpAny _ A.in1 (tryCatch (pyNext (.ref I)) _ >>= _) _ _ s from wpAny_bind (wpAny_tryCatch (W.done s _ _ st fun h' tk hk => ?_)))
  refine (show wpAny _ A.in1 (updateSeq S (fun _ => #[]) >>= _) _ _ _ from wpAny_bind (wpAny_updateSeq (hk S _ (fun z => hSf (W.sub _ z)) hS) rfl (wpAny_bind (wpAny_letGo (wpAny_pure ?_)))))
  exact k _ tk fun d o hd hdS e => (Heap.get?_update_other _ _ (Ne.symm hdS)).trans (hk d o hd e)
/-- at the second -/
theorem maxsec (W : Walks prog w A.in1 I fp wr 2 P St) (hP1 : ∀ v, P 1 v → v = b) (hSf : S ∉ fp) (st : St 1 s.heap) (hS : s.heap.get? S = some ⟨.type "list", none, .seq #[a, a] c, #[]⟩)
    (hc : ∀ (h' : Heap) tk (Q' : Value → Shared → Prop) (E' : Value → Shared → Prop), (∀ d o, d ∉ wr → s.heap.get? d = some o → h'.get? d = some o) → Q' (.bool r) { s with heap := h', toks := tk } → wpAny (model prog w) A.in1 (richCompare .Gt b a) Q' E' { s with heap := h', toks := tk })
    (k : ∀ h' tk, (∀ d o, d ∉ wr → d ≠ S → s.heap.get? d = some o → h'.get? d = some o) → R (.ok (.ret (if r then b else a))) { s with heap := h', toks := tk }) : codeAny (model prog w) A (.builtin "max.loop" ⟨[.ref I, .none, .ref S], []⟩) R s := by
  have nm : (toString "max" ++ toString ".loop" : String) = "max.loop" := by decide
  refine (codeAny_builtin F.entry_max_loop ?_)
  rw [Around.under_plainId F.plain_max_loop]
  refine (show wpAny _ A.in1 (seqItems? (.ref S) >>= _) _ _ s from wpAny_bind (wpAny_seqItems hS rfl ?_))
  refine (show wpAny _ A.in1 (tryCatch (pyNext (.ref I)) _ >>= _) _ _ s from wpAny_bind (wpAny_tryCatch (W.item 1 s _ _ (by decide) st fun v h' tk hP st' hk => ?_)))
  have hS' := hk S _ (fun z => hSf (W.sub _ z)) hS
  obtain rfl := hP1 v hP
  refine (show wpAny _ A.in1 (tryCatch (holding [v, v] (richCompare .Gt v a >>= _)) _ >>= _) _ _ _ from wpAny_bind (wpAny_tryCatch (wpAny_holding (wpAny_bind (hc h' tk _ _ hk ?_)))))
  refine (wpAny_bind (wpAny_holding (wpAny_truthy_bool (wpAny_bind (wpAny_letGo (wpAny_pure ?_))))))
  cases r with
  | true =>
    simp only [if_true] at k ⊢
    refine (wpAny_bind (wpAny_updateSeq hS' rfl (wpAny_bind (wpAny_letGo ?_))))
    rw [nm]
    refine (wpAny_pure ⟨plainId_quiet F.plain_max_loop _, maxbeh W hSf (v := v) (W.frame _ _ _ st' fun d hd o e => (Heap.get?_update_other _ _ (fun z : S = d => hSf (by rw [z]; exact hd))).trans e) (Heap.get?_update_self _ hS' rfl) fun h2 tk2 hk2 => ?_⟩)
    exact k h2 tk2 fun d o hd hdS e => hk2 d o hd hdS ((Heap.get?_update_other _ _ (Ne.symm hdS)).trans (hk d o hd e))
  | false =>
    simp only [Bool.false_eq_true, if_false] at k ⊢
    refine (wpAny_bind (wpAny_letGo ?_))
    rw [nm]
    refine (wpAny_pure ⟨plainId_quiet F.plain_max_loop _, maxbeh W hSf (v := a) st' hS' fun h2 tk2 hk2 => ?_⟩)
    exact k h2 tk2 fun d o hd hdS e => hk2 d o hd hdS (hk d o hd e)
/-- at the first -/
theorem maxfst (W : Walks prog w A.in1 I fp wr 2 P St) (hP0 : ∀ v, P 0 v → v = a) (hP1 : ∀ v, P 1 v → v = b) (hSf : S ∉ fp) (st : St 0 s.heap) (hS : s.heap.get? S = some ⟨.type "list", none, .seq #[] c, #[]⟩)
    (hc : ∀ (h' : Heap) tk (Q' : Value → Shared → Prop) (E' : Value → Shared → Prop), (∀ d o, d ∉ wr → d ≠ S → s.heap.get? d = some o → h'.get? d = some o) → Q' (.bool r) { s with heap := h', toks := tk } → wpAny (model prog w) A.in1 (richCompare .Gt b a) Q' E' { s with heap := h', toks := tk })
    (k : ∀ h' tk, (∀ d o, d ∉ wr → d ≠ S → s.heap.get? d = some o → h'.get? d = some o) → R (.ok (.ret (if r then b else a))) { s with heap := h', toks := tk }) : codeAny (model prog w) A (.builtin "max.loop" ⟨[.ref I, .none, .ref S], []⟩) R s := by
  have nm : (toString "max" ++ toString ".loop" : String) = "max.loop" := by decide
  refine (codeAny_builtin F.entry_max_loop ?_)
  rw [Around.under_plainId F.plain_max_loop]
  refine (show wpAny _ A.in1 (seqItems? (.ref S) >>= _) _ _ s from wpAny_bind (wpAny_seqItems hS rfl ?_))
  refine (show wpAny _ A.in1 (tryCatch (pyNext (.ref I)) _ >>= _) _ _ s from wpAny_bind (wpAny_tryCatch (W.item 0 s _ _ (by decide) st fun v h' tk hP st' hk => ?_)))
  have hS' := hk S _ (fun z => hSf (W.sub _ z)) hS
  obtain rfl := hP0 v hP
  refine (show wpAny _ A.in1 (updateSeq S (fun _ => #[v, v]) >>= _) _ _ _ from wpAny_bind (wpAny_updateSeq hS' rfl ?_))
  rw [nm]
  have pre : ∀ (f : Obj → Obj) d o, d ∉ wr → d ≠ S → s.heap.get? d = some o → (h'.update S f).get? d = some o := fun f d o hd hdS e => (Heap.get?_update_other _ _ (Ne.symm hdS)).trans (hk d o hd e)
  refine (wpAny_pure ⟨plainId_quiet F.plain_max_loop _, maxsec W hP1 hSf (a := v) (r := r) (W.frame _ _ _ st' fun d hd o e => (Heap.get?_update_other _ _ (fun z : S = d => hSf (by rw [z]; exact hd))).trans e) (Heap.get?_update_self _ hS' rfl) (fun h2 tk2 Q' E' hk2 q => ?_) fun h2 tk2 hk2 => ?_⟩)
  · exact hc h2 tk2 Q' E' (fun d o hd hdS e => hk2 d o hd (pre _ d o hd hdS e)) q
  · exact k h2 tk2 fun d o hd hdS e => hk2 d o hd hdS (pre _ d o hd hdS e)
end
section
variable {prog : Program} {w : World} {A : Around} {E : Value → Shared → Prop} {s : Shared} {a b : Value} {r : Bool} {Q : Value → Shared → Prop}
theorem mintwo (hh : A.handled = none) (hc : ∀ (h' : Heap) tk (Q' : Value → Shared → Prop) (E' : Value → Shared → Prop), (∀ d o, s.heap.get? d = some o → h'.get? d = some o) → Q' (.bool r) { s with heap := h', toks := tk } → wpAny (model prog w) A.in1 (richCompare .Lt b a) Q' E' { s with heap := h', toks := tk })
    (k : ∀ h' tk, (∀ d o, s.heap.get? d = some o → h'.get? d = some o) → Q (if r then b else a) { s with heap := h', toks := tk }) : wpAny (model prog w) A (call (.builtin "min") [a, b]) Q E s := by
  have nm : (toString "min" ++ toString ".loop" : String) = "min.loop" := by decide
  have hT : (s.heap.push { cls := .type "tuple", data := .seq #[a, b] }).IsTuple s.heap.objs.size #[a, b] := ⟨_, Heap.get?_push_size _ rfl, rfl, 0, rfl⟩
  have z1 : (s.heap.push { cls := .type "tuple", data := .seq #[a, b] }).objs.size = s.heap.objs.size + 1 := Heap.size_push ..
  refine (call_function_tree F.kind_min F.plain_min F.entry_min (F.args_min2 a b) ?_)
  refine (show wpAny _ A.in1 (Builtin.Builtins.bindParams "min" ["key", "default"] 0 ⟨[], []⟩ >>= _) _ _ s from wpAny_bind (wpAny_of_eq (rfl : Builtin.Builtins.bindParams "min" ["key", "default"] 0 ⟨[], []⟩ = pure [none, none]) ?_))
  refine (show wpAny _ A.in1 (newTuple [a, b] >>= _) _ _ s from wpAny_bind (wpAny_newObj_type (wpAny_bind (wpAny_pyIter_tuple hT ?_))))
  refine (wpAny_bind (wpAny_newObj_type ?_))
  rw [nm]
  have z2 : ((s.heap.push { cls := .type "tuple", data := .seq #[a, b] }).push { cls := .type "tuple_iterator", data := .fields #[.ref s.heap.objs.size, .int 0 0] }).objs.size = s.heap.objs.size + 2 := by rw [Heap.size_push, z1]
  have n1 : s.heap.objs.size ≠ (s.heap.push { cls := .type "tuple", data := .seq #[a, b] }).objs.size := by rw [z1]; exact Nat.ne_of_lt (Nat.lt_succ_self _)
  have W := Walks.tuple (prog := prog) (w := w) (A := A.in1) hh (s.heap.push { cls := .type "tuple", data := .seq #[a, b] }).objs.size s.heap.objs.size n1 #[a, b]
  have old : ∀ d o, s.heap.get? d = some o → d < s.heap.objs.size := fun d o e => Heap.lt_size e
  generalize hS : ((s.heap.push { cls := .type "tuple", data := .seq #[a, b] }).push { cls := .type "tuple_iterator", data := .fields #[.ref s.heap.objs.size, .int 0 0] }).objs.size = S at z2
  generalize hI : (s.heap.push { cls := .type "tuple", data := .seq #[a, b] }).objs.size = I at z1 n1 W
  have pre : ∀ {h' : Heap}, (∀ d o, d ∉ [I] → d ≠ S → (((s.heap.push { cls := .type "tuple", data := .seq #[a, b] }).push { cls := .type "tuple_iterator", data := .fields #[.ref s.heap.objs.size, .int 0 0] }).push { cls := .type "list", data := .seq #[] }).get? d = some o → h'.get? d = some o) →
      ∀ d o, s.heap.get? d = some o → h'.get? d = some o := fun {h'} hk d o e => hk d o (fun z => by
    have := old d o e
    rw [List.mem_singleton.mp z, z1] at this; exact Nat.lt_irrefl _ (Nat.lt_of_succ_lt this)) (fun z => by
    have := old d o e
    rw [z, z2] at this; exact Nat.lt_irrefl _ (Nat.lt_of_succ_lt (Nat.lt_of_succ_lt this))) (Heap.get?_push_of_some _ (Heap.get?_push_of_some _ (Heap.get?_push_of_some _ e)))
  refine wpAny_pure ⟨plainId_quiet F.plain_min_loop _, ?_⟩
  refine minfst (S := S) (a := a) (b := b) (r := r) (c := 0) W (fun v z => (Option.some.inj z).symm) (fun v z => (Option.some.inj z).symm) (fun z => ?_) ?_ ?_ (fun h' tk Q' E' hk q => hc h' tk Q' E' (pre hk) q) fun h' tk hk => k h' tk (pre hk)
  · rcases List.mem_cons.mp z with z | z
    · rw [z, z1] at z2; exact absurd z2 (by simp)
    · rw [List.mem_singleton.mp z] at z2; exact absurd z2 (by simp)
  · refine ⟨⟨_, Heap.get?_push_of_some _ (by rw [← hI]; exact Heap.get?_push_size _ rfl), rfl, rfl⟩, (hT.push _).push _⟩
  · rw [← hS]; exact Heap.get?_push_size _ rfl
end
section
variable {prog : Program} {w : World} {A : Around} {E : Value → Shared → Prop} {s : Shared} {a b : Value} {r : Bool} {Q : Value → Shared → Prop}
theorem maxtwo (hh : A.handled = none) (hc : ∀ (h' : Heap) tk (Q' : Value → Shared → Prop) (E' : Value → Shared → Prop), (∀ d o, s.heap.get? d = some o → h'.get? d = some o) → Q' (.bool r) { s with heap := h', toks := tk } → wpAny (model prog w) A.in1 (richCompare .Gt b a) Q' E' { s with heap := h', toks := tk })
    (k : ∀ h' tk, (∀ d o, s.heap.get? d = some o → h'.get? d = some o) → Q (if r then b else a) { s with heap := h', toks := tk }) : wpAny (model prog w) A (call (.builtin "max") [a, b]) Q E s := by
  have nm : (toString "max" ++ toString ".loop" : String) = "max.loop" := by decide
  have hT : (s.heap.push { cls := .type "tuple", data := .seq #[a, b] }).IsTuple s.heap.objs.size #[a, b] := ⟨_, Heap.get?_push_size _ rfl, rfl, 0, rfl⟩
  have z1 : (s.heap.push { cls := .type "tuple", data := .seq #[a, b] }).objs.size = s.heap.objs.size + 1 := Heap.size_push ..
  refine (call_function_tree F.kind_max F.plain_max F.entry_max (F.args_max2 a b) ?_)
  refine (show wpAny _ A.in1 (Builtin.Builtins.bindParams "max" ["key", "default"] 0 ⟨[], []⟩ >>= _) _ _ s from wpAny_bind (wpAny_of_eq (rfl : Builtin.Builtins.bindParams "max" ["key", "default"] 0 ⟨[], []⟩ = pure [none, none]) ?_))
  refine (show wpAny _ A.in1 (newTuple [a, b] >>= _) _ _ s from wpAny_bind (wpAny_newObj_type (wpAny_bind (wpAny_pyIter_tuple hT ?_))))
  refine (wpAny_bind (wpAny_newObj_type ?_))
  rw [nm]
  have z2 : ((s.heap.push { cls := .type "tuple", data := .seq #[a, b] }).push { cls := .type "tuple_iterator", data := .fields #[.ref s.heap.objs.size, .int 0 0] }).objs.size = s.heap.objs.size + 2 := by rw [Heap.size_push, z1]
  have n1 : s.heap.objs.size ≠ (s.heap.push { cls := .type "tuple", data := .seq #[a, b] }).objs.size := by rw [z1]; exact Nat.ne_of_lt (Nat.lt_succ_self _)
  have W := Walks.tuple (prog := prog) (w := w) (A := A.in1) hh (s.heap.push { cls := .type "tuple", data := .seq #[a, b] }).objs.size s.heap.objs.size n1 #[a, b]
  have old : ∀ d o, s.heap.get? d = some o → d < s.heap.objs.size := fun d o e => Heap.lt_size e
  generalize hS : ((s.heap.push { cls := .type "tuple", data := .seq #[a, b] }).push { cls := .type "tuple_iterator", data := .fields #[.ref s.heap.objs.size, .int 0 0] }).objs.size = S at z2
  generalize hI : (s.heap.push { cls := .type "tuple", data := .seq #[a, b] }).objs.size = I at z1 n1 W
  have pre : ∀ {h' : Heap}, (∀ d o, d ∉ [I] → d ≠ S → (((s.heap.push { cls := .type "tuple", data := .seq #[a, b] }).push { cls := .type "tuple_iterator", data := .fields #[.ref s.heap.objs.size, .int 0 0] }).push { cls := .type "list", data := .seq #[] }).get? d = some o → h'.get? d = some o) →
      ∀ d o, s.heap.get? d = some o → h'.get? d = some o := fun {h'} hk d o e => hk d o (fun z => by
    have := old d o e
    rw [List.mem_singleton.mp z, z1] at this; exact Nat.lt_irrefl _ (Nat.lt_of_succ_lt this)) (fun z => by
    have := old d o e
    rw [z, z2] at this; exact Nat.lt_irrefl _ (Nat.lt_of_succ_lt (Nat.lt_of_succ_lt this))) (Heap.get?_push_of_some _ (Heap.get?_push_of_some _ (Heap.get?_push_of_some _ e)))
  refine wpAny_pure ⟨plainId_quiet F.plain_max_loop _, ?_⟩
  refine maxfst (S := S) (a := a) (b := b) (r := r) (c := 0) W (fun v z => (Option.some.inj z).symm) (fun v z => (Option.some.inj z).symm) (fun z => ?_) ?_ ?_ (fun h' tk Q' E' hk q => hc h' tk Q' E' (pre hk) q) fun h' tk hk => k h' tk (pre hk)
  · rcases List.mem_cons.mp z with z | z
    · rw [z, z1] at z2; exact absurd z2 (by simp)
    · rw [List.mem_singleton.mp z] at z2; exact absurd z2 (by simp)
  · refine ⟨⟨_, Heap.get?_push_of_some _ (by rw [← hI]; exact Heap.get?_push_size _ rfl), rfl, rfl⟩, (hT.push _).push _⟩
  · rw [← hS]; exact Heap.get?_push_size _ rfl
end
section
variable {X : Cx} {g : G}
theorem call_min2T (hc : X.calm = true) (hu : X.A.units + 65 < cLine) : CallR X (.builtin "min") (fun xs H Q => ∃ a b ns ms, xs = [.ref a, .ref b] ∧ SqT X.K H a (ns.map V.int) ∧ SqT X.K H b (ms.map V.int) ∧ Q (.ref (if HT.lexLt ms ns = true then b else a)) H) := by
  intro pins s σ H xs us Q I r h
  obtain ⟨a, b, ns, ms, rfl, ha, hb, q⟩ := h
  obtain ⟨u, w', rfl, r1, r2⟩ := vals2 r
  cases r1; cases r2
  obtain ⟨its, q1, p1, _⟩ := I.tuple ha
  obtain ⟨its2, q2, p2, _⟩ := I.tuple hb
  refine mintwo (r := HT.lexLt ms ns) (I.ok.hd hc) (fun h' tk Q' E' k q' => ?_) (fun h' tk k => ⟨_, H, I.kept k, ?_, q⟩)
  · exact HT.lt_tupInts (A := X.A.in1) (p2.keeps k) (p1.keeps k) (intsAre_of q2) (intsAre_of q1) (by show X.A.units + 1 < cLine; omega) q'
  · cases HT.lexLt ms ns <;> rfl
theorem gt_pair {A : Around} {s : Shared} {l b : Addr} {x y z w : Int} {t1 t2 t3 t4 : Tok} (hl : s.heap.IsTuple l #[.int x t1, .int y t2]) (hb : s.heap.IsTuple b #[.int z t3, .int w t4]) (hu : A.units < cLine) :
    PySem.SeqAt.RcOp .Gt A s (.ref l) (.ref b) (HT.lexLt [z, w] [x, y]) := by
  have key := PySem.SeqAt.RcOp.tuples_gt (e := fun j => if j = 0 then x == z else y == w) (r := fun j => if j = 0 then decide (z < x) else decide (w < y)) hl hb hu
    (fun j h1 h2 => by
      match j, h1, h2 with
      | 0, _, _ => exact SeqAt.EqAt.int_int x t1 z t3
      | 1, _, _ => exact SeqAt.EqAt.int_int y t2 w t4
      | j + 2, h1, _ => exact absurd h1 (by simp))
    (fun j h1 h2 _ => by
      match j, h1, h2 with
      | 0, _, _ => exact fun prog w' E Q q => PyProof.Rows.gt_int q
      | 1, _, _ => exact fun prog w' E Q q => PyProof.Rows.gt_int q
      | j + 2, h1, _ => exact absurd h1 (by simp))
  have e : PySem.SeqAt.firstLt (fun j => if j = 0 then x == z else y == w) (fun j => if j = 0 then decide (z < x) else decide (w < y)) (decide ((#[Value.int x t1, Value.int y t2] : Array Value).size > (#[Value.int z t3, Value.int w t4] : Array Value).size)) (List.range (min (#[Value.int x t1, Value.int y t2] : Array Value).size (#[Value.int z t3, Value.int w t4] : Array Value).size)) = HT.lexLt [z, w] [x, y] := by
    show PySem.SeqAt.firstLt _ _ _ [0, 1] = _
    by_cases h1 : x = z
    · subst h1
      by_cases h2 : y = w
      · subst h2
        simp [PySem.SeqAt.firstLt, HT.lexLt]
      · simp [PySem.SeqAt.firstLt, HT.lexLt, h2, Ne.symm h2]
    · simp [PySem.SeqAt.firstLt, HT.lexLt, h1, Ne.symm h1]
  rw [e] at key
  exact key
theorem call_max2T (hc : X.calm = true) (hu : X.A.units + 65 < cLine) : CallR X (.builtin "max") (fun xs H Q => ∃ (a b : Addr) (x y z w : Int), xs = [.ref a, .ref b] ∧ SqT X.K H a [.int x, .int y] ∧ SqT X.K H b [.int z, .int w] ∧ Q (.ref (if HT.lexLt [x, y] [z, w] = true then b else a)) H) := by
  intro pins s σ H xs us Q I r h
  obtain ⟨a, b, x, y, z, w, rfl, ha, hb, q⟩ := h
  obtain ⟨u, w', rfl, r1, r2⟩ := vals2 r
  cases r1; cases r2
  obtain ⟨its, q1, p1, _⟩ := I.tuple ha
  obtain ⟨its2, q2, p2, _⟩ := I.tuple hb
  obtain ⟨v1, v2, rfl, ⟨t1, rfl⟩, ⟨t2, rfl⟩⟩ := vals2 q1
  obtain ⟨v3, v4, rfl, ⟨t3, rfl⟩, ⟨t4, rfl⟩⟩ := vals2 q2
  refine maxtwo (r := HT.lexLt [x, y] [z, w]) (I.ok.hd hc) (fun h' tk Q' E' k q' => ?_) (fun h' tk k => ⟨_, H, I.kept k, ?_, q⟩)
  · exact gt_pair (A := X.A.in1) (p2.keeps k) (p1.keeps k) (by show X.A.units + 1 < cLine; omega) _ _ _ _ q'
  · cases HT.lexLt [x, y] [z, w] <;> rfl
theorem call_max1T (hc : X.calm = true) : CallR X (.builtin "max") (fun xs H Q => ∃ (a : Addr) (x y : Int), xs = [.ref a] ∧ SqT X.K H a [.int x, .int y] ∧ Q (.int (if y > x then y else x)) H) := by
  intro pins s σ H xs us Q I r h
  obtain ⟨a, x, y, rfl, ha, q⟩ := h
  obtain ⟨u, rfl, r1⟩ := vals1 r
  cases r1
  obtain ⟨its, q1, p1, _⟩ := I.tuple ha
  obtain ⟨v1, v2, rfl, ⟨t1, rfl⟩, ⟨t2, rfl⟩⟩ := vals2 q1
  have hT : s.heap.IsTuple a (intItems #[(x, t1), (y, t2)]) := by
    have e : intItems #[(x, t1), (y, t2)] = #[Value.int x t1, Value.int y t2] := by simp [intItems]
    rw [e]; exact p1
  have hlt : a < s.heap.objs.size := by obtain ⟨_, e, _⟩ := hT; exact Heap.lt_size e
  refine call_max_walk (wpAny_pyIter_tuple hT ?_)
  refine ⟨_, [_, a], [_], _, _, _, _, rfl, Walks.tuple (A := X.A.in1) (I.ok.hd hc) s.heap.objs.size a (Nat.ne_of_lt hlt) (intItems #[(x, t1), (y, t2)]), ⟨⟨_, Heap.get?_push_size _ rfl, rfl, rfl⟩, hT.push _⟩, fun c hc' => ?_, by simp [intItems], CmpOf.ints_gt (numAt #[(x, t1), (y, t2)]) (fun _ _ => intItems_at), fun v h' tk hP hk => ?_⟩
  · have e : (s.heap.push { cls := .type "tuple_iterator", data := .fields #[.ref a, .int 0 0] }).objs.size = s.heap.objs.size + 1 := Heap.size_push ..
    show c < (s.heap.push _).objs.size
    rw [e]
    rcases List.mem_cons.mp hc' with rfl | hc'
    · exact Nat.lt_succ_self _
    · rw [List.mem_singleton.mp hc']; exact Nat.lt_succ_of_lt hlt
  · have old : ∀ d o, s.heap.get? d = some o → h'.get? d = some o := fun d o e => hk d o (fun z => by
      have := Heap.lt_size e
      rw [List.mem_singleton.mp z] at this; exact Nat.lt_irrefl _ this) (Heap.get?_push_of_some _ e)
    refine ⟨_, H, I.kept old, ?_, q⟩
    have hP' := hP
    rw [show (intItems #[(x, t1), (y, t2)]).size - 1 = 1 by simp [intItems]] at hP'
    by_cases hyx : y > x
    · have e : argBest (fun i j => decide (numAt #[(x, t1), (y, t2)] i > numAt #[(x, t1), (y, t2)] j)) 1 = 1 := by simp [argBest, numAt, hyx]
      rw [e] at hP'
      have : v = .int y t2 := by simpa [intItems] using hP'.symm
      rw [this, if_pos hyx]; exact ⟨_, rfl⟩
    · have e : argBest (fun i j => decide (numAt #[(x, t1), (y, t2)] i > numAt #[(x, t1), (y, t2)] j)) 1 = 0 := by simp [argBest, numAt, hyx]
      rw [e] at hP'
      have : v = .int x t1 := by simpa [intItems] using hP'.symm
      rw [this, if_neg hyx]; exact ⟨_, rfl⟩
theorem call_min1T (hc : X.calm = true) : CallR X (.builtin "min") (fun xs H Q => ∃ (a : Addr) (x y : Int), xs = [.ref a] ∧ SqT X.K H a [.int x, .int y] ∧ Q (.int (if y < x then y else x)) H) := by
  intro pins s σ H xs us Q I r h
  obtain ⟨a, x, y, rfl, ha, q⟩ := h
  obtain ⟨u, rfl, r1⟩ := vals1 r
  cases r1
  obtain ⟨its, q1, p1, _⟩ := I.tuple ha
  obtain ⟨v1, v2, rfl, ⟨t1, rfl⟩, ⟨t2, rfl⟩⟩ := vals2 q1
  have hT : s.heap.IsTuple a (intItems #[(x, t1), (y, t2)]) := by
    have e : intItems #[(x, t1), (y, t2)] = #[Value.int x t1, Value.int y t2] := by simp [intItems]
    rw [e]; exact p1
  have hlt : a < s.heap.objs.size := by obtain ⟨_, e, _⟩ := hT; exact Heap.lt_size e
  refine call_min_walk (wpAny_pyIter_tuple hT ?_)
  refine ⟨_, [_, a], [_], _, _, _, _, rfl, Walks.tuple (A := X.A.in1) (I.ok.hd hc) s.heap.objs.size a (Nat.ne_of_lt hlt) (intItems #[(x, t1), (y, t2)]), ⟨⟨_, Heap.get?_push_size _ rfl, rfl, rfl⟩, hT.push _⟩, fun c hc' => ?_, by simp [intItems], CmpOf.ints_lt (numAt #[(x, t1), (y, t2)]) (fun _ _ => intItems_at), fun v h' tk hP hk => ?_⟩
  · have e : (s.heap.push { cls := .type "tuple_iterator", data := .fields #[.ref a, .int 0 0] }).objs.size = s.heap.objs.size + 1 := Heap.size_push ..
    show c < (s.heap.push _).objs.size
    rw [e]
    rcases List.mem_cons.mp hc' with rfl | hc'
    · exact Nat.lt_succ_self _
    · rw [List.mem_singleton.mp hc']; exact Nat.lt_succ_of_lt hlt
  · have old : ∀ d o, s.heap.get? d = some o → h'.get? d = some o := fun d o e => hk d o (fun z => by
      have := Heap.lt_size e
      rw [List.mem_singleton.mp z] at this; exact Nat.lt_irrefl _ this) (Heap.get?_push_of_some _ e)
    refine ⟨_, H, I.kept old, ?_, q⟩
    have hP' := hP
    rw [show (intItems #[(x, t1), (y, t2)]).size - 1 = 1 by simp [intItems]] at hP'
    by_cases hyx : y < x
    · have e : argBest (fun i j => decide (numAt #[(x, t1), (y, t2)] i < numAt #[(x, t1), (y, t2)] j)) 1 = 1 := by simp [argBest, numAt, hyx]
      rw [e] at hP'
      have : v = .int y t2 := by simpa [intItems] using hP'.symm
      rw [this, if_pos hyx]; exact ⟨_, rfl⟩
    · have e : argBest (fun i j => decide (numAt #[(x, t1), (y, t2)] i < numAt #[(x, t1), (y, t2)] j)) 1 = 0 := by simp [argBest, numAt, hyx]
      rw [e] at hP'
      have : v = .int x t1 := by simpa [intItems] using hP'.symm
      rw [this, if_neg hyx]; exact ⟨_, rfl⟩
end
end BW
set_option maxHeartbeats 4000000
/-! min of a list of numbers, a default for none. -/
namespace BW
open PySem PySem.Spec PyProof.Rows L2
theorem reads_ints {h : Heap} {its : List Value} {ns : List Int} (e : IntsAre its ns) : ReadsAll h its (ns.map .int) [] := by
  induction e with
  | nil => exact .nil
  | cons n t _ ih => exact ReadsAll.cons (as := []) (bs := []) (.int n t) ih
theorem alike_ints (ns : List Int) : PySem.W.AlikeAll (ns.map .int) := by
  refine ⟨fun x hx y hy => ?_, fun x hx e => ?_⟩
  · obtain ⟨i, _, rfl⟩ := List.mem_map.mp hx
    obtain ⟨j, _, rfl⟩ := List.mem_map.mp hy
    rw [PySem.W.alike]
  · obtain ⟨i, _, rfl⟩ := List.mem_map.mp hx
    cases e
theorem depth_int1 : ∀ ns : List Int, PyData.depthAll (ns.map PyData.int) ≤ 2 := by
  intro ns
  induction ns with
  | nil => rw [List.map_nil, PyData.depthAll]; omega
  | cons n ns ih =>
    rw [List.map_cons, PyData.depthAll]
    have : (PyData.int n).depth ≤ 2 := by simp [PyData.depth]
    omega
section
variable {X : Cx}
def rMinD (K : PySem.W.Frag) : List V → List V → Hp → VK → Prop := fun vs zs H Q => ∃ (a : Addr) (ns : List Int) (d : Int), vs = [V.ref a] ∧ zs = [V.int d] ∧ SqL K H a (ns.map V.int) ∧ (ns = [] → Q (.int d) H) ∧ ∀ n r, ns = n :: r → Q (.int (r.foldl min n)) H
theorem cr_minD (hc : X.calm = true) (hu : X.A.units + 65 < cLine) : CallRK X (.builtin "min") [Str.ofString "default"] (rMinD X.K) := by
  intro pins s σ H vs zs us ws Q I r rz h
  obtain ⟨a, ns, d, rfl, rfl, hs, q0, q1⟩ := h
  obtain ⟨its, rv, hl, _⟩ := I.list hs
  rw [Vals.ref1 r]
  obtain ⟨u, rfl, ⟨t, rfl⟩⟩ : ∃ u, ws = [u] ∧ RelV (V.int d) u := by
    cases rz with
    | cons h1 h2 =>
      cases h2
      exact ⟨_, rfl, h1⟩
  have hi := rv.ints
  have dp := depth_int1 ns
  show wpAny _ _ (call (.builtin "min") [.ref a] [(Str.ofString "default", .int d t)]) _ _ _
  refine PySem.W.min_list_default (I.ok.hd hc) hl.isList (as := []) (xs := ns.map .int) (by simpa using reads_ints hi) (alike_ints ns) (by omega) (fun e h' tk hk => ?_) (fun y ys i v h' tk bs e hv hr hk => ?_)
  · have e : ns = [] := List.map_eq_nil_iff.mp e
    exact ⟨.int d, H, I.kept hk, ⟨t, rfl⟩, q0 e⟩
  · cases ns with
    | nil => cases e
    | cons n r =>
      rw [List.map_cons] at e
      injection e with e1 e2
      subst e1
      subst e2
      rw [PySem.W.minD_ints] at hr
      cases hr with
      | int _ t' => exact ⟨.int _, H, I.kept hk, ⟨t', rfl⟩, q1 n r rfl⟩
end
end BW
set_option maxHeartbeats 4000000
/-! Built-in functions and methods by their rules. -/
namespace BW
open PySem PySem.Spec PyProof.Rows L2
section
variable {X : Cx} {g : G} {W : WX} {P : Prog} {D : Den} {σ : L2.St} {H : Hp} {ι : List Addr} {μ : Store} {Q : VK}
theorem ofO_bind {α β γ : Type} {R : Hp → List Addr → β → γ → Prop} {o : Option α} {f : α → Store → Res β} {Q : γ → Hp → Prop} {μ' : Store} (q : Fin g W σ R H ι μ ((Res.ofO o μ').bind f) Q) : ∃ a, o = some a ∧ Fin g W σ R H ι μ (f a μ') Q := by
  cases o with
  | none => exact q.elim
  | some a => exact ⟨a, rfl, q⟩
def rBi (g : G) (b : Bi) : List V → Hp → VK → Prop := fun vs H Q => ∃ (σ : L2.St) (ι : List Addr) (μ : Store) (ps : List PV), RM g H ι μ ∧ RVs g H ι ps vs ∧ Fin g (fun _ _ _ _ => False) σ (RVf g) H ι μ (biV b ps μ) Q
theorem biV_noex (b : Bi) (xs : List PV) (μ : Store) (e : PX) (μ' : Store) : biV b xs μ ≠ .ex e μ' := by
  unfold biV
  split
  all_goals first
    | (split <;> first | exact ofO_noex _ _ _ _ | (intro h; cases h; done))
    | exact ofO_bind_noex _ _ _ (fun _ _ _ z => by cases z) e μ'
    | (intro h; cases h; done)
    | (split <;> first | (intro h; cases h; done) | (split <;> first | (intro h; cases h; done) | (split <;> (intro h; cases h))))
theorem CallR.imp {f : Value} {r r' : List V → Hp → VK → Prop} (h : CallR X f r) (q : ∀ x H Q, r' x H Q → r x H Q) : CallR X f r' := fun pins s σ H x us Q I rx z => h pins s σ H x us Q I rx (q _ _ _ z)
theorem rvs1 {p : PV} {vs : List V} (h : RVs g H ι [p] vs) : ∃ v, vs = [v] ∧ RV g H ι p v := by
  obtain ⟨v, q, rfl, h1, h2⟩ := h
  cases (show q = [] from h2)
  exact ⟨v, rfl, h1⟩
theorem rvs2 {p p' : PV} {vs : List V} (h : RVs g H ι [p, p'] vs) : ∃ v w, vs = [v, w] ∧ RV g H ι p v ∧ RV g H ι p' w := by
  obtain ⟨v, q, rfl, h1, h2⟩ := h
  obtain ⟨w, rfl, h3⟩ := rvs1 h2
  exact ⟨v, w, rfl, h1, h3⟩
theorem listAt_ints {n : Nat} {v : V} {ns : List Int} (rm : RM g H ι μ) (h : (listAt μ (.loc n)).bind intsOf = some ns) (r : RV g H ι (.loc n) v) : ∃ a, v = .ref a ∧ SqL g.K H a (ns.map V.int) := by
  cases e : listAt μ (.loc n) with
  | none => rw [e] at h; cases h
  | some xs =>
    rw [e] at h
    obtain ⟨a, vs, rfl, s1, t1⟩ := rm_list rm e r
    rw [t1.ints h] at s1
    exact ⟨a, rfl, s1⟩
theorem listAt_bools {n : Nat} {v : V} {ns : List Bool} (rm : RM g H ι μ) (h : (listAt μ (.loc n)).bind boolsOf = some ns) (r : RV g H ι (.loc n) v) : ∃ a, v = .ref a ∧ SqL g.K H a (ns.map V.bl) := by
  cases e : listAt μ (.loc n) with
  | none => rw [e] at h; cases h
  | some xs =>
    rw [e] at h
    obtain ⟨a, vs, rfl, s1, t1⟩ := rm_list rm e r
    rw [t1.bools h] at s1
    exact ⟨a, rfl, s1⟩
/-! ### pairs sorted -/
noncomputable def kOf (H : Hp) : V → Int × Int
  | .ref t => match H t with
    | some (.tup [.int i, .int j]) => (i, j)
    | _ => (0, 0)
  | _ => (0, 0)
theorem RVs.pairs (g : G) (H : Hp) (ι : List Addr) : ∀ (xs : List PV) (vs : List V) (ps : List (Int × Int)), pairsOf xs = some ps → RVs g H ι xs vs → vs.map (kOf H) = ps ∧ (∀ v ∈ vs, (∃ t, v = .ref t ∧ H t = some (.tup [.int (kOf H v).1, .int (kOf H v).2])) ∧ RV g H ι (pairPV (kOf H v)) v)
  | [], vs, ps, h, r => by
    cases h
    cases (show vs = [] from r)
    exact ⟨rfl, fun v hv => by cases hv⟩
  | .tup [.int i, .int j] :: xs, vs, ps, h, r => by
    obtain ⟨v, q, rfl, h1, h2⟩ := r
    obtain ⟨ps', h3, rfl⟩ := Option.map_eq_some_iff.mp (show (pairsOf xs).map ((i, j) :: ·) = some ps from h)
    obtain ⟨i1, i2⟩ := RVs.pairs g H ι xs q ps' h3 h2
    obtain ⟨a, ws, rfl, s1, t1⟩ := h1
    obtain ⟨w1, w2, rfl, q1, q2⟩ := rvs2 t1
    cases q1
    cases q2
    have k : kOf H (.ref a) = (i, j) := by
      show (match H a with | some (.tup [.int i, .int j]) => (i, j) | _ => ((0 : Int), (0 : Int))) = _
      rw [s1]
    refine ⟨by rw [List.map_cons, k, i1], fun v hv => ?_⟩
    rcases List.mem_cons.mp hv with rfl | hv
    · rw [k]
      exact ⟨⟨a, rfl, s1⟩, ⟨a, _, rfl, s1, t1⟩⟩
    · exact i2 v hv
theorem RVs.of_all (g : G) (H : Hp) (ι : List Addr) (f : V → PV) : ∀ (ys : List V), (∀ v ∈ ys, RV g H ι (f v) v) → RVs g H ι (ys.map f) ys
  | [], _ => rfl
  | y :: ys, h => ⟨y, ys, rfl, h y List.mem_cons_self, RVs.of_all g H ι f ys fun v hv => h v (List.mem_cons_of_mem _ hv)⟩
theorem listAt_pairs {n : Nat} {v : V} {ps : List (Int × Int)} (rm : RM g H ι μ) (h : (listAt μ (.loc n)).bind pairsOf = some ps) (r : RV g H ι (.loc n) v) : ∃ a vs, v = .ref a ∧ SqL g.K H a vs ∧ vs.map (kOf H) = ps ∧ (∀ v ∈ vs, (∃ t, v = .ref t ∧ H t = some (.tup [.int (kOf H v).1, .int (kOf H v).2])) ∧ RV g H ι (pairPV (kOf H v)) v) := by
  cases e : listAt μ (.loc n) with
  | none => rw [e] at h; cases h
  | some xs =>
    rw [e] at h
    obtain ⟨a, vs, rfl, s1, t1⟩ := rm_list rm e r
    obtain ⟨h1, h2⟩ := RVs.pairs g H ι xs vs ps h t1
    exact ⟨a, vs, rfl, s1, h1, h2⟩
theorem lex_pairwise (ps : List (Int × Int)) : (ps.mergeSort lexLe).Pairwise (fun p q => lexLe p q = true) :=
  List.pairwise_mergeSort (le := lexLe) (fun a b c h1 h2 => by unfold lexLe at *; simp at h1 h2 ⊢; omega) (fun a b => by unfold lexLe; simp; omega) ps
theorem same_lex {a b : List (Int × Int)} (hp : a.Perm b) (ha : a.Pairwise (fun p q => lexLe p q = true)) (hb : b.Pairwise (fun p q => lexLe p q = true)) : a = b :=
  List.Perm.eq_of_pairwise (fun x y _ _ h1 h2 => by
    unfold lexLe at h1 h2
    simp at h1 h2
    exact Prod.ext (by omega) (by omega)) ha hb hp
theorem cr_sorted2 : CallR X (.builtin "sorted") (fun vs H Q => rSorted X.K vs H Q ∨ rSortedPO X.K vs H Q) := by
  intro pins s σ H vs us Q I r h
  rcases h with h | h
  · exact cr_sorted pins s σ H vs us Q I r h
  · exact cr_sortedPO pins s σ H vs us Q I r h
theorem le_pairwise (ns : List Int) : (ns.mergeSort (fun a b => decide (a ≤ b))).Pairwise (· ≤ ·) := by
  have h := List.pairwise_mergeSort (le := fun a b : Int => decide (a ≤ b)) (fun a b c h1 h2 => by simp at h1 h2 ⊢; omega) (fun a b => by simp; omega) ns
  exact h.imp fun z => by simpa using z
theorem same_sorted {a b : List Int} (hp : a.Perm b) (ha : a.Pairwise (· ≤ ·)) (hb : b.Pairwise (· ≤ ·)) : a = b :=
  List.Perm.eq_of_pairwise (fun x y _ _ h1 h2 => Int.le_antisymm h1 h2) ha hb hp
theorem call_divmodN : CallR X (.builtin "divmod") (fun xs H Q => ∃ i j, xs = [.int i, .int j] ∧ divOk i j ∧ ∀ p, H p = none → Q (.ref p) (upd H p (.tup [.int (i.fdiv j), .int (i.fmod j)]))) := by
  intro pins s σ H xs us Q I r h
  obtain ⟨i, j, rfl, ⟨h1, h2⟩, q⟩ := h
  obtain ⟨u, w', rfl, ⟨t, rfl⟩, ⟨t', rfl⟩⟩ := vals2 r
  refine divmod_int h1 ?_ (.inl (PyProof.noPylong_of_log2 h2))
  have hn : H s.heap.objs.size = none := I.hok.fresh (Nat.le_refl _)
  refine ⟨.ref s.heap.objs.size, _, ?_, rfl, q _ hn⟩
  refine I.laid (fun b o e => Heap.get?_push_of_some _ e) (Nat.le_refl _) ⟨by simp only [List.length_cons, List.length_nil]; rw [sizeLine_eq]; decide, [.int (i.fdiv j) s.toks, .int (i.fmod j) (s.toks + 1)], .cons ⟨_, rfl⟩ (.cons ⟨_, rfl⟩ .nil), ?_⟩
  exact ⟨_, Heap.get?_push_size s.heap rfl, rfl, 0, rfl⟩
/-- what a name stands for -/
def biF : Bi → Value
  | .len => .builtin "len" | .abs => .builtin "abs" | .max => .builtin "max" | .min => .builtin "min" | .sorted => .builtin "sorted" | .int => .type "int" | .str => .type "str"
  | .list => .type "list" | .tuple => .type "tuple" | .any => .builtin "any" | .all => .builtin "all" | .sum => .builtin "sum" | .divmod => .builtin "divmod" | .minD => .none
/-- these need no calm -/
def biHot : Bi → Bool
  | .int => true
  | .len => true
  | .abs => true
  | _ => false
theorem min_fold : ∀ (ns : List Int) (n : Int), ns.foldl min n ∈ n :: ns ∧ ∀ y ∈ n :: ns, ns.foldl min n ≤ y
  | [], n => ⟨List.mem_cons_self, fun y hy => by rw [List.mem_singleton.mp hy]; exact Int.le_refl _⟩
  | m :: ns, n => by
    obtain ⟨h1, h2⟩ := min_fold ns (min n m)
    have h3 := h2 _ List.mem_cons_self
    refine ⟨?_, fun y hy => ?_⟩
    · rcases List.mem_cons.mp h1 with z | z
      · show ns.foldl min (min n m) ∈ n :: m :: ns
        rw [z]
        rcases (show min n m = n ∨ min n m = m by omega) with q | q <;> rw [q] <;> simp
      · exact List.mem_cons_of_mem _ (List.mem_cons_of_mem _ z)
    · show ns.foldl min (min n m) ≤ y
      rcases List.mem_cons.mp hy with rfl | hy
      · omega
      · rcases List.mem_cons.mp hy with rfl | hy
        · omega
        · exact h2 y (List.mem_cons_of_mem _ hy)
theorem max_fold : ∀ (ns : List Int) (n : Int), ns.foldl max n ∈ n :: ns ∧ ∀ y ∈ n :: ns, y ≤ ns.foldl max n
  | [], n => ⟨List.mem_cons_self, fun y hy => by rw [List.mem_singleton.mp hy]; exact Int.le_refl _⟩
  | m :: ns, n => by
    obtain ⟨h1, h2⟩ := max_fold ns (max n m)
    have h3 := h2 _ List.mem_cons_self
    refine ⟨?_, fun y hy => ?_⟩
    · rcases List.mem_cons.mp h1 with z | z
      · show ns.foldl max (max n m) ∈ n :: m :: ns
        rw [z]
        rcases (show max n m = n ∨ max n m = m by omega) with q | q <;> rw [q] <;> simp
      · exact List.mem_cons_of_mem _ (List.mem_cons_of_mem _ z)
    · show y ≤ ns.foldl max (max n m)
      rcases List.mem_cons.mp hy with rfl | hy
      · omega
      · rcases List.mem_cons.mp hy with rfl | hy
        · omega
        · exact h2 y (List.mem_cons_of_mem _ hy)
theorem rv_pair {a b : Int} {v : V} (r : RV g H ι (.tup [.int a, .int b]) v) : ∃ p, v = .ref p ∧ SqT g.K H p [.int a, .int b] := by
  obtain ⟨p, vs, rfl, s, t⟩ := r
  rw [t.ints (ns := [a, b]) rfl] at s
  exact ⟨p, rfl, SqT.of s⟩
theorem rv_pick {ps qs : List PV} {p q : Addr} (k : Bool) (r1 : RV g H ι (.tup ps) (.ref p)) (r2 : RV g H ι (.tup qs) (.ref q)) : RV g H ι (.tup (if k = true then qs else ps)) (.ref (if k = true then q else p)) := by
  cases k <;> assumption
theorem minD_inv (xs : List PV) (μ : Store) : biV .minD xs μ = .bad ∨ ∃ l d ns, xs = [.loc l, .int d] ∧ (listAt μ (.loc l)).bind intsOf = some ns ∧ biV .minD xs μ = .ok (.int (match ns with
    | [] => d
    | n :: r => r.foldl min n)) μ := by
  by_cases h : ∃ l d, xs = [.loc l, .int d]
  · obtain ⟨l, d, rfl⟩ := h
    obtain ⟨o, ho⟩ : ∃ o, (listAt μ (.loc l)).bind intsOf = o := ⟨_, rfl⟩
    have hb : biV .minD [.loc l, .int d] μ = match (listAt μ (.loc l)).bind intsOf with
      | some [] => .ok (.int d) μ
      | some (n :: ns) => .ok (.int (ns.foldl min n)) μ
      | none => .bad := rfl
    rw [hb, ho]
    cases o with
    | none => exact .inl rfl
    | some ns =>
      refine .inr ⟨l, d, ns, rfl, ho, ?_⟩
      cases ns <;> rfl
  · left
    unfold biV
    split
    all_goals first | rfl | contradiction | (exfalso; exact h ⟨_, _, rfl⟩)
theorem call_bi (hg : g.K = X.K) (b : Bi) (hb : b ≠ .minD) (hu : X.A.units + 65 < cLine) (hc : biHot b = false → X.calm = true) : CallR X (biF b) (rBi g b) := by
  have dead : ∀ {f : Value}, (∀ vs H Q, ¬ rBi g b vs H Q) → CallR X f (rBi g b) := fun n pins s σ H x us Q I rx z => (n _ _ _ z).elim
  cases b with
  | minD => exact absurd rfl hb
  | len =>
    refine CallR.imp (call_len_seq.or call_len_str) fun vs H Q ⟨σ, ι, μ, ps, rm, rv, q⟩ => ?_
    unfold biV at q
    split at q
    all_goals first | exact q.elim | contradiction | skip
    · obtain ⟨v, rfl, a, ws, rfl, s1, t1⟩ := rvs1 rv
      exact .inl ⟨a, ws, rfl, .inr (by rw [← hg]; exact SqT.of s1), by rw [← t1.length]; exact q.here rm rfl⟩
    · obtain ⟨v, rfl, r1⟩ := rvs1 rv
      obtain ⟨xs, e, q⟩ := ofO_bind q
      obtain ⟨a, ws, rfl, s1, t1⟩ := rm_list rm e r1
      exact .inl ⟨a, ws, rfl, .inl (by rw [← hg]; exact s1), by rw [← t1.length]; exact q.here rm rfl⟩
    · obtain ⟨v, rfl, r1⟩ := rvs1 rv
      cases r1
      split at q
      · rename_i c
        exact .inr ⟨_, rfl, c, q.here rm rfl⟩
      · exact q.elim
  | abs =>
    refine CallR.imp call_abs fun vs H Q ⟨σ, ι, μ, ps, rm, rv, q⟩ => ?_
    unfold biV at q
    split at q
    all_goals first | exact q.elim | contradiction | skip
    obtain ⟨v, rfl, r1⟩ := rvs1 rv
    cases r1
    exact ⟨_, rfl, q.here rm rfl⟩
  | max =>
    refine CallR.imp ((call_max2 (hc rfl)).or ((call_max2T (hc rfl) hu).or ((call_max1T (hc rfl)).or (cr_max (hc rfl))))) fun vs H Q ⟨σ, ι, μ, ps, rm, rv, q⟩ => ?_
    unfold biV at q
    split at q
    all_goals first | exact q.elim | contradiction | skip
    · obtain ⟨v, w, rfl, r1, r2⟩ := rvs2 rv
      cases r1; cases r2
      exact .inl ⟨_, _, rfl, q.here rm rfl⟩
    · obtain ⟨v, w, rfl, r1, r2⟩ := rvs2 rv
      obtain ⟨p, rfl, s1⟩ := rv_pair r1
      obtain ⟨p2, rfl, s2⟩ := rv_pair r2
      exact .inr (.inl ⟨p, p2, _, _, _, _, rfl, by rw [← hg]; exact s1, by rw [← hg]; exact s2, q.here rm (rv_pick _ r1 r2)⟩)
    · obtain ⟨v, rfl, r1⟩ := rvs1 rv
      obtain ⟨p, rfl, s1⟩ := rv_pair r1
      exact .inr (.inr (.inl ⟨p, _, _, rfl, by rw [← hg]; exact s1, q.here rm rfl⟩))
    · obtain ⟨v, rfl, r1⟩ := rvs1 rv
      split at q
      · rename_i n ns e
        obtain ⟨a, rfl, s1⟩ := listAt_ints rm e r1
        refine .inr (.inr (.inr ⟨a, n :: ns, rfl, by rw [← hg]; exact s1, by simp, fun m h1 h2 => ?_⟩))
        obtain ⟨g1, g2⟩ := max_fold ns n
        rw [show m = ns.foldl max n from Int.le_antisymm (g2 m h1) (h2 _ g1)]
        exact q.here rm rfl
      · exact q.elim
  | min =>
    refine CallR.imp ((call_min2 (hc rfl)).or ((call_min2T (hc rfl) hu).or ((call_min1T (hc rfl)).or (cr_min (hc rfl))))) fun vs H Q ⟨σ, ι, μ, ps, rm, rv, q⟩ => ?_
    unfold biV at q
    split at q
    all_goals first | exact q.elim | contradiction | skip
    · obtain ⟨v, w, rfl, r1, r2⟩ := rvs2 rv
      cases r1; cases r2
      exact .inl ⟨_, _, rfl, q.here rm rfl⟩
    · rename_i a b c d _
      obtain ⟨v, w, rfl, r1, r2⟩ := rvs2 rv
      obtain ⟨p, rfl, s1⟩ := rv_pair r1
      obtain ⟨p2, rfl, s2⟩ := rv_pair r2
      exact .inr (.inl ⟨p, p2, [a, b], [c, d], rfl, by rw [← hg]; exact s1, by rw [← hg]; exact s2, q.here rm (rv_pick _ r1 r2)⟩)
    · obtain ⟨v, rfl, r1⟩ := rvs1 rv
      obtain ⟨p, rfl, s1⟩ := rv_pair r1
      exact .inr (.inr (.inl ⟨p, _, _, rfl, by rw [← hg]; exact s1, q.here rm rfl⟩))
    · obtain ⟨v, rfl, r1⟩ := rvs1 rv
      split at q
      · rename_i n ns e
        obtain ⟨a, rfl, s1⟩ := listAt_ints rm e r1
        refine .inr (.inr (.inr ⟨a, n :: ns, rfl, by rw [← hg]; exact s1, by simp, fun m h1 h2 => ?_⟩))
        obtain ⟨g1, g2⟩ := min_fold ns n
        rw [show m = ns.foldl min n from Int.le_antisymm (h2 _ g1) (g2 m h1)]
        exact q.here rm rfl
      · exact q.elim
  | sorted =>
    refine CallR.imp cr_sorted2 fun vs H Q ⟨σ, ι, μ, ps, rm, rv, q⟩ => ?_
    unfold biV at q
    split at q
    all_goals first | exact q.elim | contradiction | skip
    obtain ⟨v, rfl, r1⟩ := rvs1 rv
    split at q
    · rename_i e
      obtain ⟨a, rfl, s1⟩ := listAt_ints rm e r1
      split at q
      · rename_i c
        refine .inl ⟨a, _, rfl, by rw [← hg]; exact s1, c, fun ns' p h1 h2 hp => ?_⟩
        rw [same_sorted (h1.trans (List.mergeSort_perm _ _).symm) h2 (le_pairwise _)]
        exact fin_list rm hp (RVs.of_ints _) rfl q
      · exact q.elim
    · split at q
      · rename_i ps' e
        obtain ⟨a, vs, rfl, s1, hk, hall⟩ := listAt_pairs rm e r1
        refine .inr ⟨a, vs, kOf H, rfl, by rw [← hg]; exact s1, fun x hx => (hall x hx).1, fun ys p h1 h2 hp => ?_⟩
        have pm : (ys.map (kOf H)).Perm (ps'.mergeSort lexLe) := by
          have := h2.perm.map (kOf H)
          rw [hk] at this
          exact this.trans (List.mergeSort_perm _ _).symm
        have sd : (ys.map (kOf H)).Pairwise (fun p q => lexLe p q = true) := by
          rw [List.pairwise_map]
          refine h1.imp fun {x y} z => ?_
          have z := SrtO.lexB_no.mp z
          unfold lexLe
          simp
          omega
        have es : ps'.mergeSort lexLe = ys.map (kOf H) := (same_lex pm sd (lex_pairwise _)).symm
        rw [es, List.map_map] at q
        exact fin_list rm hp (RVs.of_all g H ι (pairPV ∘ kOf H) ys fun y hy => (hall y (h2.perm.mem_iff.mp hy)).2) rfl q
      · exact q.elim
  | int =>
    refine CallR.imp (call_int1.or call_int_str) fun vs H Q ⟨σ, ι, μ, ps, rm, rv, q⟩ => ?_
    unfold biV at q
    split at q
    all_goals first | exact q.elim | contradiction | skip
    · obtain ⟨v, rfl, r1⟩ := rvs1 rv
      cases r1
      exact .inl (.inl ⟨_, rfl, q.here rm rfl⟩)
    · obtain ⟨v, rfl, r1⟩ := rvs1 rv
      cases r1
      exact .inl (.inr ⟨_, rfl, q.here rm rfl⟩)
    · rename_i a _
      obtain ⟨v, rfl, r1⟩ := rvs1 rv
      cases r1
      split at q
      · rename_i hl
        cases e : PySem.intText? a with
        | none => rw [e] at q; exact q.elim
        | some n =>
          rw [e] at q
          exact .inr ⟨a, n, rfl, e, hl, q.here rm rfl⟩
      · exact q.elim
  | str => 
    refine CallR.imp call_str_int fun vs H Q ⟨σ, ι, μ, ps, rm, rv, q⟩ => ?_
    unfold biV at q
    split at q
    all_goals first | exact q.elim | contradiction | skip
    obtain ⟨v, rfl, r1⟩ := rvs1 rv
    cases r1
    split at q
    · rename_i hl
      exact ⟨_, rfl, hl, q.here rm rfl⟩
    · exact q.elim
  | list =>
    refine CallR.imp call_list_of fun vs H Q ⟨σ, ι, μ, ps, rm, rv, q⟩ => ?_
    unfold biV at q
    split at q
    all_goals first | exact q.elim | contradiction | skip
    obtain ⟨v, rfl, r1⟩ := rvs1 rv
    obtain ⟨xs, e, q⟩ := ofO_bind q
    obtain ⟨a, ws, rfl, s1, t1⟩ := rm_seq rm e r1
    exact ⟨a, ws, rfl, by rw [← hg]; exact s1.imp id SqT.of, fun p hp => fin_list rm hp t1 rfl q⟩
  | tuple =>
    refine CallR.imp call_tuple_of fun vs H Q ⟨σ, ι, μ, ps, rm, rv, q⟩ => ?_
    unfold biV at q
    split at q
    all_goals first | exact q.elim | contradiction | skip
    obtain ⟨v, rfl, r1⟩ := rvs1 rv
    obtain ⟨xs, e, q⟩ := ofO_bind q
    obtain ⟨a, ws, rfl, s1, t1⟩ := rm_seq rm e r1
    refine ⟨a, ws, rfl, ?_⟩
    rw [← hg]
    rcases s1 with s1 | s1
    · exact .inl ⟨s1, fun p hp => fin_tup rm hp t1 q⟩
    · exact .inr ⟨SqT.of s1, q.here rm ⟨a, ws, rfl, s1, t1⟩⟩
  | any =>
    refine CallR.imp (cr_any (hc rfl)) fun vs H Q ⟨σ, ι, μ, ps, rm, rv, q⟩ => ?_
    unfold biV at q
    split at q
    all_goals first | exact q.elim | contradiction | skip
    obtain ⟨v, rfl, r1⟩ := rvs1 rv
    split at q
    · rename_i e
      obtain ⟨a, rfl, s1⟩ := listAt_bools rm e r1
      exact ⟨a, _, rfl, by rw [← hg]; exact s1, q.here rm rfl⟩
    · exact q.elim
  | all =>
    refine CallR.imp (cr_all (hc rfl)) fun vs H Q ⟨σ, ι, μ, ps, rm, rv, q⟩ => ?_
    unfold biV at q
    split at q
    all_goals first | exact q.elim | contradiction | skip
    obtain ⟨v, rfl, r1⟩ := rvs1 rv
    split at q
    · rename_i e
      obtain ⟨a, rfl, s1⟩ := listAt_bools rm e r1
      exact ⟨a, _, rfl, by rw [← hg]; exact s1, q.here rm rfl⟩
    · exact q.elim
  | sum => 
    refine dead fun vs H Q ⟨σ, ι, μ, ps, rm, rv, q⟩ => ?_
    unfold biV at q
    split at q <;> first | exact q.elim | contradiction
  | divmod =>
    refine CallR.imp call_divmodN fun vs H Q ⟨σ, ι, μ, ps, rm, rv, q⟩ => ?_
    unfold biV at q
    split at q
    all_goals first | exact q.elim | contradiction | skip
    obtain ⟨v, w, rfl, r1, r2⟩ := rvs2 rv
    cases r1; cases r2
    split at q
    · rename_i c
      exact ⟨_, _, rfl, c, fun p hp => fin_tup rm hp (show RVs g H ι [.int _, .int _] [.int _, .int _] from ⟨_, _, rfl, rfl, _, _, rfl, rfl, rfl⟩) q⟩
    · exact q.elim
/-! ### methods of lists -/
def bmF : Bm → String
  | .append => "list.append" | .extend => "list.extend" | .clear => "list.clear" | .insert => "list.insert" | .index => "list.index" | .pop => "list.pop" | .reverse => "list.reverse" | .count => "list.count"
  | .get => "dict.get" | .join => "str.join" | .split => "str.split" | .partition => "str.partition" | .startswith => "str.startswith"
def bmT : Bm → String
  | .append | .extend | .clear | .insert | .index | .pop | .reverse | .count => "list"
  | .get => "dict"
  | .join | .split | .partition | .startswith => "str"
def rBm (g : G) (m : Bm) : V → List V → Hp → VK → Prop := fun v vs H Q => ∃ (σ : L2.St) (ι : List Addr) (μ : Store) (p : PV) (ps : List PV), RM g H ι μ ∧ RV g H ι p v ∧ RVs g H ι ps vs ∧ Fin g (fun _ _ _ _ => False) σ (RVf g) H ι μ (bmV m p ps μ) Q
theorem bmV_noex (m : Bm) (x : PV) (xs : List PV) (μ : Store) (e : PX) (μ' : Store) : bmV m x xs μ ≠ .ex e μ' := by
  unfold bmV
  split
  all_goals first
    | (intro h; cases h; done)
    | (split <;> first | (intro h; cases h; done) | (split <;> first | (intro h; cases h; done) | (split <;> (intro h; cases h))))
    | (split <;> first | (intro h; cases h; done) | (split <;> (intro h; cases h)))
theorem MtR.imp {id : String} {r r' : V → List V → Hp → VK → Prop} (h : MtR X id r) (q : ∀ x xs H Q, r' x xs H Q → r x xs H Q) : MtR X id r' := fun pins s σ H x xs v us Q I rx rs z => h pins s σ H x xs v us Q I rx rs (q _ _ _ _ z)
theorem rvs0 {vs : List V} (h : RVs g H ι [] vs) : vs = [] := h
theorem RVs.strs : ∀ {ps : List PV} {vs : List V} {ns : List Str}, RVs g H ι ps vs → strsOf ps = some ns → vs = ns.map V.str
  | [], _, ns, h, e => by
    cases (show _ = [] from h)
    cases (show some [] = some ns from e)
    rfl
  | p :: ps, _, ns, h, e => by
    obtain ⟨v, q, rfl, h1, h2⟩ := h
    cases p with
    | str i =>
      cases (show v = .str i from h1)
      have e' : (strsOf ps).map (i :: ·) = some ns := e
      cases q1 : strsOf ps with
      | none => rw [q1] at e'; cases e'
      | some ms =>
        rw [q1] at e'
        cases (show some (i :: ms) = some ns from e')
        rw [RVs.strs h2 q1]; rfl
    | _ => cases e
theorem RVs.of_strs : ∀ (ns : List Str), RVs g H ι (ns.map PV.str) (ns.map V.str)
  | [] => rfl
  | n :: ns => ⟨.str n, _, rfl, rfl, RVs.of_strs ns⟩
/-- d.get(k, x) as a rule: a dict with tuples as its keys -/
def rGet2 : V → List V → Hp → VK → Prop := fun x xs H Q => ∃ a y d o, x = .ref a ∧ xs = [y, d] ∧ DGet H a y o ∧ Q (o.getD d) H
theorem mt_get2 (hu : X.A.units + 1 < cLine) : MtR X "dict.get" rGet2 := by
  intro pins s σ H x xs v us Q I rx rs h
  obtain ⟨a, y, d, o, rfl, rfl, dg, q⟩ := h
  obtain rfl : v = Value.ref a := rx
  obtain ⟨u, w, rfl, ry, rd⟩ := vals2 rs
  exact d_get2 hu I dg ry rd fun w' s' I' rw' => ⟨_, H, I', rw', q⟩
theorem mt_bm (hg : g.K = X.K) (hu : X.A.units + 65 < cLine) (m : Bm) : MtR X (bmF m) (rBm g m) := by
  have dead : ∀ {f : String}, (∀ v vs H Q, ¬ rBm g m v vs H Q) → MtR X f (rBm g m) := fun n pins s σ H x xs v us Q I rx rs z => (n _ _ _ _ z).elim
  cases m with
  | append =>
    refine MtR.imp mt_append fun v vs H Q ⟨σ, ι, μ, p, ps, rm, rv, rvs, q⟩ => ?_
    unfold bmV at q
    split at q
    all_goals first | exact q.elim | contradiction | skip
    obtain ⟨w, rfl, r1⟩ := rvs1 rvs
    split at q
    · rename_i e
      split at q
      · rename_i c
        obtain ⟨a, ws, i1, h1, t1⟩ := rm_lst rm e
        obtain ⟨a', i1', rfl⟩ := rv
        rw [i1] at i1'; cases i1'
        exact ⟨a, ws, w, rfl, rfl, h1, by rw [← t1.length]; exact c, fin_wr (pv := .non) (v := .non) rm i1 e (t1.append (.one r1)) rfl q⟩
      · exact q.elim
    · exact q.elim
  | extend =>
    refine MtR.imp mt_extend fun v vs H Q ⟨σ, ι, μ, p, ps, rm, rv, rvs, q⟩ => ?_
    unfold bmV at q
    split at q
    all_goals first | exact q.elim | contradiction | skip
    obtain ⟨w, rfl, r1⟩ := rvs1 rvs
    split at q
    · rename_i e e2
      split at q
      · rename_i c
        obtain ⟨a, ws, i1, h1, t1⟩ := rm_lst rm e
        obtain ⟨a', i1', rfl⟩ := rv
        rw [i1] at i1'; cases i1'
        obtain ⟨b, zs, i2, h2, t2⟩ := rm_lst rm e2
        obtain ⟨b', i2', rfl⟩ := r1
        rw [i2] at i2'; cases i2'
        exact ⟨a, b, ws, zs, rfl, rfl, h1, h2, by rw [← t1.length, ← t2.length]; exact c, fin_wr (pv := .non) (v := .non) rm i1 e (t1.append t2) rfl q⟩
      · exact q.elim
    · exact q.elim
  | clear =>
    refine MtR.imp mt_clear fun v vs H Q ⟨σ, ι, μ, p, ps, rm, rv, rvs, q⟩ => ?_
    unfold bmV at q
    split at q
    all_goals first | exact q.elim | contradiction | skip
    cases rvs0 rvs
    split at q
    · rename_i e
      obtain ⟨a, ws, i1, h1, t1⟩ := rm_lst rm e
      obtain ⟨a', i1', rfl⟩ := rv
      rw [i1] at i1'; cases i1'
      exact ⟨a, ws, rfl, rfl, h1, fin_wr (pv := .non) (v := .non) (ys := []) rm i1 e (vs := []) rfl rfl q⟩
    · exact q.elim
  | reverse =>
    refine MtR.imp mt_reverse fun v vs H Q ⟨σ, ι, μ, p, ps, rm, rv, rvs, q⟩ => ?_
    unfold bmV at q
    split at q
    all_goals first | exact q.elim | contradiction | skip
    cases rvs0 rvs
    split at q
    · rename_i e
      obtain ⟨a, ws, i1, h1, t1⟩ := rm_lst rm e
      obtain ⟨a', i1', rfl⟩ := rv
      rw [i1] at i1'; cases i1'
      exact ⟨a, ws, rfl, rfl, h1, fin_wr (pv := .non) (v := .non) rm i1 e t1.rev rfl q⟩
    · exact q.elim
  | insert =>
    refine MtR.imp mt_insert fun v vs H Q ⟨σ, ι, μ, p, ps, rm, rv, rvs, q⟩ => ?_
    unfold bmV at q
    split at q
    all_goals first | exact q.elim | contradiction | skip
    obtain ⟨w1, w2, rfl, r1, r2⟩ := rvs2 rvs
    cases r1
    split at q
    · rename_i e
      split at q
      · rename_i c
        obtain ⟨a, ws, i1, h1, t1⟩ := rm_lst rm e
        obtain ⟨a', i1', rfl⟩ := rv
        rw [i1] at i1'; cases i1'
        exact ⟨a, ws, _, w2, rfl, rfl, h1, by rw [← t1.length]; exact c.1, c.2.1, Int.lt_of_le_of_lt c.2.2 (by decide), fin_wr (pv := .non) (v := .non) rm i1 e (((t1.take _).append (.one r2)).append (t1.drop _)) rfl q⟩
      · exact q.elim
    · exact q.elim
  | index =>
    refine MtR.imp (mt_indexD hu) fun v vs H Q ⟨σ, ι, μ, p, ps, rm, rv, rvs, q⟩ => ?_
    unfold bmV at q
    split at q
    all_goals first | exact q.elim | contradiction | skip
    rename_i μ _ _ _ _ l x _
    obtain ⟨w, rfl, r1⟩ := rvs1 rvs
    cases e0 : listAt μ (.loc l) with
    | none => rw [e0] at q; exact q.elim
    | some ys =>
      rw [e0] at q
      dsimp only at q
      cases e1 : toD 12 μ x with
      | none => rw [e1] at q; exact q.elim
      | some d =>
        cases e2 : ys.mapM (toD 12 μ) with
        | none => rw [e1, e2] at q; exact q.elim
        | some ds =>
          rw [e1, e2] at q
          dsimp only at q
          split at q
          · rename_i c
            obtain ⟨a, ws, rfl, s1, t1⟩ := rm_list rm e0 rv
            refine ⟨a, w, d, ds, ds.findIdx fun z => PyData.eqv z d, ds[ds.findIdx fun z => PyData.eqv z d]'c.2.2, rfl, rfl, ?_, ?_, c.2.1, c.1, List.getElem?_eq_getElem _, List.findIdx_getElem (p := fun z => PyData.eqv z d), fun m z' hm hz => ?_, q.here rm rfl⟩
            · rw [← hg]; exact .lst s1 (toD_all rm _ _ _ t1 e2)
            · rw [← hg]; exact toD_dp rm _ _ _ _ r1 e1
            · obtain ⟨h1, rfl⟩ := List.getElem?_eq_some_iff.mp hz
              have := List.not_of_lt_findIdx (p := fun z => PyData.eqv z d) hm
              simpa using this
          · exact q.elim
  | get =>
    refine MtR.imp (mt_get2 (by omega)) fun v vs H Q ⟨σ, ι, μ, p, ps, rm, rv, rvs, q⟩ => ?_
    unfold bmV at q
    split at q
    all_goals first | exact q.elim | contradiction | skip
    rename_i μ _ _ _ _ l x d _
    obtain ⟨w1, w2, rfl, r1, r2⟩ := rvs2 rvs
    cases e1 : dicAt μ (.loc l) with
    | none => rw [e1] at q; exact q.elim
    | some kvs =>
      cases e2 : keyOf x with
      | none => rw [e1, e2] at q; exact q.elim
      | some k =>
        rw [e1, e2] at q
        dsimp only at q
        obtain ⟨a, dvs, rfl, rk, dg⟩ := dget_of rm r1 rv e1 e2
        refine ⟨a, w1, w2, _, rfl, rfl, dg, ?_⟩
        cases e3 : dlook k kvs with
        | none =>
          rw [e3] at q
          rw [(rk.look (k := k)).2 e3]
          exact q.here rm r2
        | some u =>
          rw [e3] at q
          obtain ⟨z, e4, r4⟩ := (rk.look (k := k)).1 u e3
          rw [e4]
          exact q.here rm r4
  | split =>
    refine MtR.imp mt_split fun v vs H Q ⟨σ, ι, μ, p, ps, rm, rv, rvs, q⟩ => ?_
    unfold bmV at q
    split at q
    all_goals first | exact q.elim | contradiction | skip
    obtain ⟨w, rfl, r1⟩ := rvs1 rvs
    cases r1
    cases rv
    split at q
    · rename_i c
      exact ⟨_, _, rfl, rfl, by simpa using c.1, c.2, fun p hp => fin_list rm hp (RVs.of_strs _) rfl q⟩
    · exact q.elim
  | partition =>
    refine MtR.imp mt_partition fun v vs H Q ⟨σ, ι, μ, p, ps, rm, rv, rvs, q⟩ => ?_
    unfold bmV at q
    split at q
    all_goals first | exact q.elim | contradiction | skip
    obtain ⟨w, rfl, r1⟩ := rvs1 rvs
    cases r1
    cases rv
    split at q
    · rename_i c
      exact ⟨_, _, rfl, rfl, by simpa using c.1, c.2, fun p hp => fin_tup rm hp (show RVs g H ι [.str _, .str _, .str _] [.str _, .str _, .str _] from ⟨_, _, rfl, rfl, _, _, rfl, rfl, _, _, rfl, rfl, rfl⟩) q⟩
    · exact q.elim
  | startswith =>
    refine MtR.imp mt_startswith fun v vs H Q ⟨σ, ι, μ, p, ps, rm, rv, rvs, q⟩ => ?_
    unfold bmV at q
    split at q
    all_goals first | exact q.elim | contradiction | skip
    obtain ⟨w, rfl, r1⟩ := rvs1 rvs
    cases r1
    cases rv
    exact ⟨_, _, rfl, rfl, q.here rm rfl⟩
  | join =>
    refine MtR.imp mt_join fun v vs H Q ⟨σ, ι, μ, p, ps, rm, rv, rvs, q⟩ => ?_
    unfold bmV at q
    split at q
    all_goals first | exact q.elim | contradiction | skip
    rename_i μ _ _ _ _ a l _
    obtain ⟨w, rfl, r1⟩ := rvs1 rvs
    cases rv
    cases e0 : listAt μ (.loc l) with
    | none => rw [e0] at q; exact q.elim
    | some xs =>
      rw [e0] at q
      have q : Fin g (fun _ _ _ _ => False) σ (RVf g) H ι μ (match strsOf xs with
        | some ys => if (ys.map (·.length)).sum + ys.length * a.length ≤ 16777216 then .ok (.str (Txt.join a ys)) μ else .bad
        | none => .bad) Q := q
      cases e1 : strsOf xs with
      | none => rw [e1] at q; exact q.elim
      | some ys =>
        rw [e1] at q
        dsimp only at q
        split at q
        · rename_i c
          obtain ⟨b, ws, rfl, s1, t1⟩ := rm_list rm e0 r1
          rw [t1.strs e1] at s1
          exact ⟨a, b, ys, rfl, rfl, .inl (by rw [← hg]; exact s1), c, q.here rm rfl⟩
        · exact q.elim
  | _ => 
    refine dead fun v vs H Q ⟨σ, ι, μ, p, ps, rm, rv, rvs, q⟩ => ?_
    unfold bmV at q
    split at q <;> first | exact q.elim | contradiction
end
end BW
set_option maxHeartbeats 4000000
/-! From the text to the small language. -/
namespace BW
open PySem PySem.Spec PyProof.Rows L2

/-! ### syntax -/
def nst : Expr → Bool
  | .Starred _ _ => false
  | _ => true
/-- the base of an access is just evaluated -/
def bas : Expr → Bool
  | .Call (.Name id _) [] [] _ => id != "super"
  | _ => true
/-- a test by its value's truth -/
def tv : Expr → Bool
  | .UnaryOp .Not _ _ | .BoolOp _ _ _ | .IfExp _ _ _ _ | .Compare _ _ _ _ => false
  | _ => true
def nsl : Expr → Bool
  | .Slice _ _ _ _ => false
  | _ => true
def nset : Expr → Bool
  | .Set _ _ _ => false
  | _ => true
def ncomp : Expr → Bool
  | .ListComp _ _ _ _ | .SetComp _ _ _ _ | .DictComp _ _ _ _ _ => false
  | _ => true
theorem star_cons {e : Expr} (h : nst e = true) (es : List Expr) (env : PySem.Env) : starEach (e :: es) env = (false, eval e env) :: starEach es env := by
  cases e <;> first | rfl | cases h
theorem star_any {pos : Pos} {env : PySem.Env} : ∀ {es : List Expr}, (∀ e ∈ es, nst e = true) → (backTo pos (starEach es env)).any (·.1) = false
  | [], _ => rfl
  | e :: es, h => by
    rw [star_cons (h e List.mem_cons_self)]
    show (false || (backTo pos (starEach es env)).any (·.1)) = false
    rw [star_any fun x hx => h x (List.mem_cons_of_mem _ hx)]
    rfl
theorem star_all {pos : Pos} {env : PySem.Env} : ∀ {es : List Expr}, (∀ e ∈ es, nst e = true) → (backTo pos (starEach es env)).all (fun x => !x.1) = true
  | [], _ => rfl
  | e :: es, h => by
    rw [star_cons (h e List.mem_cons_self)]
    show (true && (backTo pos (starEach es env)).all (fun x => !x.1)) = true
    rw [star_all fun x hx => h x (List.mem_cons_of_mem _ hx)]
    rfl
theorem bas_ok {o : Expr} {f : Str} {env : PySem.Env} (h : bas o = true) : attributeBase o f env (eval o env) = eval o env := by
  unfold attributeBase
  split
  · rename_i id _ _
    have h : (id != "super") = true := h
    rw [h]
    rfl
  · rfl
theorem tv_ok {e : Expr} {env : PySem.Env} (h : tv e = true) (whole : Sem Value) : isTrue e env whole = (do let v ← whole; standAt e.pos; holding [v] (PySem.truthy v)) := by
  cases e with
  | UnaryOp op _ _ => cases op <;> first | rfl | cases h
  | BoolOp _ _ _ => cases h
  | IfExp _ _ _ _ => cases h
  | Compare _ _ _ _ => cases h
  | _ => rfl
theorem nsl_ok {e : Expr} (h : nsl e = true) : PlainIx e := fun o i => by
  cases e <;> first | rfl | cases h
theorem nset_ok {e : Expr} {env : PySem.Env} (h : nset e = true) (x : Value) : foldedSetIterable e env x = pure x := by
  cases e <;> first | rfl | cases h
theorem mark_ok {op : CmpOp} {e : Expr} (h : nset e = true) : behindInMarks op e = false := by
  cases e <;> first | rfl | cases h
theorem ncomp_ok {e : Expr} {t : Option Expr} {l : Nat} {env : PySem.Env} (h : ncomp e = true) : swapsWith e t l env = pure false := by
  cases e <;> first | rfl | cases h

/-! ### names -/
inductive GEnt where
  | fn (i : Nat) | cls (c : Nat) | con (v : PV) | bi (b : Bi) | free | tbl (rows : List (List Int))
structure GT where
  ents : List (Str × GEnt)
  flds : List Str
  mths : List Str
  /-- the defaults of the functions; how many parameters they have; the makers' functions -/
  dfl : List (List PV)
  tys : List Nat
  P : Prog
structure TC where
  N : List Str
  sc : Scope
  blk : Option (List (Str × NameKind))
  hot : Bool
  xn : Option Str
/-- within a block only its own cells are stored -/
def ownC : Option (List (Str × NameKind)) → Str → Bool
  | none, _ => true
  | some l, x => decide (l.lookup x = some .cell)
def dbg (x : Str) : Bool := x == "__debug__" || x == "__classdict__"
def idx? (x : Str) : List Str → Option Nat
  | [] => none
  | y :: r => if y = x then some 0 else (idx? x r).map (· + 1)
theorem idx?_ok {x : Str} : ∀ {l : List Str} {i : Nat}, idx? x l = some i → l[i]? = some x
  | [], _, h => by cases h
  | y :: r, i, h => by
    unfold idx? at h
    split at h
    · rename_i e; cases h; rw [e]; rfl
    · cases q : idx? x r with
      | none => rw [q] at h; cases h
      | some j =>
        rw [q] at h
        cases h
        show r[j]? = some x
        exact idx?_ok q
def slotOf (c : TC) (x : Str) : Option Nat := if dbg x || c.xn == some x then none else match c.sc.names.lookup x with
  | some .local => idx? x c.N
  | some .cell => idx? x c.N
  | some .free => idx? x c.N
  | _ => none
/-- a name that is stored -/
def locOf (c : TC) (x : Str) : Option Nat := if dbg x || c.xn == some x then none else match c.sc.names.lookup x with
  | some .local => idx? x c.N
  | some .cell => if ownC c.blk x = true then idx? x c.N else none
  | _ => none
def globOf (T : GT) (c : TC) (x : Str) : Option GEnt := if dbg x then none else match c.sc.names.lookup x with
  | some .globalImplicit => T.ents.lookup x
  | _ => none
theorem dbg_no {x : Str} (h : dbg x = false) : (x == ("__debug__" : Str)) = false ∧ (x == ("__classdict__" : Str)) = false := by
  unfold dbg at h
  exact Bool.or_eq_false_iff.mp h
theorem slotOf_ok {c : TC} {x : Str} {i : Nat} (h : slotOf c x = some i) : c.N[i]? = some x ∧ Vis c.sc x ∧ dbg x = false := by
  unfold slotOf at h
  split at h
  · cases h
  · rename_i z
    have z1 : dbg x = false := by
      cases q : dbg x with
      | false => rfl
      | true => rw [q] at z; exact absurd rfl z
    split at h
    · rename_i e; exact ⟨idx?_ok h, .inl e, z1⟩
    · rename_i e; exact ⟨idx?_ok h, .inr (.inl e), z1⟩
    · rename_i e; exact ⟨idx?_ok h, .inr (.inr e), z1⟩
    · cases h
theorem locOf_ok {c : TC} {x : Str} {i : Nat} (h : locOf c x = some i) : c.N[i]? = some x ∧ Loc c.sc x ∧ (c.sc.names.lookup x = some .local ∨ (c.sc.names.lookup x = some .cell ∧ ownC c.blk x = true)) ∧ c.xn ≠ some x := by
  unfold locOf at h
  split at h
  · cases h
  · rename_i z
    have z1 : c.xn ≠ some x := fun q => z (by rw [q]; simp)
    split at h
    · rename_i e; exact ⟨idx?_ok h, .inl e, .inl e, z1⟩
    · rename_i e
      split at h
      · rename_i b
        exact ⟨idx?_ok h, .inr e, .inr ⟨e, b⟩, z1⟩
      · cases h
    · cases h
theorem globOf_ok {T : GT} {c : TC} {x : Str} {g : GEnt} (h : globOf T c x = some g) : c.sc.names.lookup x = some .globalImplicit ∧ T.ents.lookup x = some g ∧ dbg x = false := by
  unfold globOf at h
  split at h
  · cases h
  · rename_i z
    split at h
    · rename_i e; exact ⟨e, h, by simpa using z⟩
    · cases h

/-! ### the translation -/
def opI : Operator → Option Op
  | .Add => some .add | .Sub => some .sub | .Mult => some .mul | .FloorDiv => some .fdiv | .Mod => some .mod | .Pow => some .pow | .LShift => some .shl | .BitOr => some .bor | .BitAnd => some .band
  | _ => none
def cmI : CmpOp → Cm
  | .Eq => .eq | .NotEq => .ne | .Lt => .lt | .LtE => .le | .Gt => .gt | .GtE => .ge | .Is => .is | .IsNot => .isnot | .In => .inn | .NotIn => .notin
theorem opI_ok {o : Operator} {p : Op} (h : opI o = some p) : opc p = o := by
  cases o <;> cases h <;> rfl
theorem cmI_ok (o : CmpOp) : cmc (cmI o) = o := by cases o <;> rfl
def bmI (m : Str) : Option Bm := if m = "append" then some .append else if m = "extend" then some .extend else if m = "clear" then some .clear else if m = "reverse" then some .reverse else if m = "insert" then some .insert else if m = "index" then some .index else if m = "get" then some .get else if m = "split" then some .split else if m = "partition" then some .partition else if m = "startswith" then some .startswith else if m = "join" then some .join else none
def bmN : Bm → Str
  | .append => "append" | .extend => "extend" | .clear => "clear" | .reverse => "reverse" | .insert => "insert" | .index => "index" | .pop => "pop" | .count => "count" | .get => "get" | .join => "join"
  | .split => "split" | .partition => "partition" | .startswith => "startswith"
theorem bmI_ok {m : Str} {b : Bm} (h : bmI m = some b) : bmN b = m ∧ (b = .append ∨ b = .extend ∨ b = .clear ∨ b = .reverse ∨ b = .insert ∨ b = .index ∨ b = .get ∨ b = .split ∨ b = .partition ∨ b = .startswith ∨ b = .join) := by
  unfold bmI at h
  repeat' (split at h; · rename_i e; cases h; exact ⟨e.symm, by simp⟩)
  cases h
/-- the constants that fill up -/
def fill (T : GT) (f k : Nat) : Option (List IE) := match T.P.fn[f]?, T.dfl[f]? with
  | some F, some d => if k ≤ F.np ∧ F.np - k ≤ d.length then some ((d.drop (d.length - (F.np - k))).map .con) else none
  | _, _ => none
def trTy (T : GT) (c : TC) (x : Str) : Option Ty := match globOf T c x with
  | some (.cls d) => some (.own d)
  | some (.bi .int) => some .int
  | some (.bi .str) => some .str
  | some (.bi .list) => some .list
  | some (.bi .tuple) => some .tuple
  | some .free => if x = "bool" then some .bool else if x = "dict" then some .dict else if x = "ValueError" then some .ve else none
  | _ => none
def trTys (T : GT) (c : TC) : List Expr → Option (List Ty)
  | [] => some []
  | .Name x _ :: r => (trTy T c x).bind fun t => (trTys T c r).map (t :: ·)
  | _ => none
def trIs (T : GT) (c : TC) : Expr → Option (List Ty)
  | .Name x _ => (trTy T c x).map ([·])
  | .Tuple es _ _ => if es.length < 100 then trTys T c es else none
  | _ => none
/-- a class in a clause, or in isinstance of an exception -/
def tyX (T : GT) : Ty → Bool
  | .own d => match T.P.cl[d]? with
    | some C => decide (1 ≤ C.exk)
    | none => false
  | .ve => true
  | _ => false
def tyB (T : GT) : Ty → Bool
  | .own d => T.tys.contains d
  | _ => true
mutual
def trTg (c : TC) (e : Expr) : Option Tg := match e with
  | .Name x _ => (locOf c x).map .nm
  | .Tuple es _ _ => (trTgs c es).map .tup
  | _ => none
def trTgs (c : TC) (es : List Expr) : Option (List Tg) := match es with
  | [] => some []
  | e :: r => (trTg c e).bind fun t => (trTgs c r).map (t :: ·)
end
mutual
def tgs (t : Tg) : List Nat := match t with
  | .nm i => [i]
  | .tup ts => tgss ts
def tgss (ts : List Tg) : List Nat := match ts with
  | [] => []
  | t :: r => tgs t ++ tgss r
end
def ownOf (N : List Str) (scope : Scope) : List (Str × Nat) := scope.names.filterMap fun (x, k) => match k with
  | .local | .cell => (idx? x N).map (x, ·)
  | _ => none
/-- C.__init__ of a class that has instances: its function -/
def clsI (T : GT) (c : TC) (o : Expr) (m : Str) : Option Nat := match o with
  | .Name x _ => match globOf T c x with
    | some (.cls k) => if m = "__init__" then T.P.cl[k]?.bind (·.init) else none
    | _ => none
  | _ => none
theorem clsI_ok {T : GT} {c : TC} {o : Expr} {m : Str} {i : Nat} (h : clsI T c o m = some i) : ∃ x p k C, o = .Name x p ∧ globOf T c x = some (.cls k) ∧ m = "__init__" ∧ T.P.cl[k]? = some C ∧ C.init = some i := by
  unfold clsI at h
  split at h
  · rename_i x p
    split at h
    · rename_i k hk
      split at h
      · rename_i hm
        cases hC : T.P.cl[k]? with
        | none => rw [hC] at h; cases h
        | some C => rw [hC] at h; exact ⟨x, p, k, C, rfl, hk, hm, hC, h⟩
      · cases h
    · cases h
  · cases h
section
variable (T : GT)
def isMD : Bi → Bool
  | .minD => true
  | _ => false
theorem isMD_ne {b : Bi} (h : isMD b = false) : b ≠ .minD := fun e => by rw [e] at h; cases h
/-- min, by its name -/
def isMin : Option GEnt → Bool
  | some (.bi .min) => true
  | _ => false
theorem isMin_ok {o : Option GEnt} (h : isMin o = true) : o = some (.bi .min) := by
  unfold isMin at h
  split at h
  · rfl
  · cases h
def isLst : Bi → Bool
  | .list => true
  | _ => false
theorem isLst_ok {b : Bi} (h : isLst b = true) : b = .list := by
  cases b <;> first | rfl | cases h
def isFree : Option GEnt → Bool
  | some .free => true
  | _ => false
theorem isFree_ok {o : Option GEnt} (h : isFree o = true) : o = some .free := by
  cases o with
  | none => cases h
  | some e => cases e <;> first | rfl | cases h
/-- reversed(u), alone -/
def revArg : List Expr → Option Expr
  | [.Call (.Name y _) [u] [] _] => if y = "reversed" then some u else none
  | _ => none
theorem revArg_ok {as : List Expr} {u : Expr} (h : revArg as = some u) : ∃ p2 pos2, as = [.Call (.Name "reversed" p2) [u] [] pos2] := by
  unfold revArg at h
  split at h
  · split at h
    · rename_i e
      cases h
      subst e
      exact ⟨_, _, rfl⟩
    · cases h
  · cases h
mutual
def trE : Nat → TC → Expr → Option IE
  | 0, _, _ => none
  | n + 1, c, e => match e with
    | .Constant (.int i) _ _ => some (.con (.int i))
    | .Constant (.bool b) _ _ => some (.con (.bl b))
    | .Constant .none _ _ => some (.con .non)
    | .Constant (.str s) _ _ => some (.con (.str s))
    | .Name x _ => match slotOf c x with
      | some i => some (.var i)
      | none => match globOf T c x with
        | some (.con v) => some (.con v)
        | _ => none
    | .BinOp a op b _ => (opI op).bind fun o => (trE n c a).bind fun a => (trE n c b).map (.bin o a ·)
    | .UnaryOp .USub a _ => (trE n c a).map .neg
    | .UnaryOp .Not a _ => (trE n c a).map .not
    | .Compare a [op] [b] _ => if nset b then (trE n c a).bind fun a => (trE n c b).map (.cmp (cmI op) a ·) else none
    | .Compare a [op, op2] [b, d] _ => if nset b && nset d then (trE n c a).bind fun a => (trE n c b).bind fun b => (trE n c d).map (.chain (cmI op) (cmI op2) a b ·) else none
    | .BoolOp _ [a] _ => trE n c a
    | .BoolOp .And (a :: b :: r) pos => (trE n c a).bind fun a => (trE n c (.BoolOp .And (b :: r) pos)).map (.and a ·)
    | .BoolOp .Or (a :: b :: r) pos => (trE n c a).bind fun a => (trE n c (.BoolOp .Or (b :: r) pos)).map (.or a ·)
    | .IfExp t a b _ => (trT n c t).bind fun t => (trE n c a).bind fun a => (trE n c b).map (.ite t a ·)
    | .Tuple es _ _ => (trEs n c es).map .tup
    | .List es _ => (trEs n c es).map .lst
    | .Dict [] [] _ => some .dic
    | .Subscript a (.Slice none none none _) _ => (trE n c a).map (.slc · none none)
    | .Subscript a (.Slice (some l) none none _) _ => (trE n c a).bind fun a => (trE n c l).map fun l => .slc a (some l) none
    | .Subscript a (.Slice none (some h) none _) _ => (trE n c a).bind fun a => (trE n c h).map fun h => .slc a none (some h)
    | .Subscript a (.Slice (some l) (some h) none _) _ => (trE n c a).bind fun a => (trE n c l).bind fun l => (trE n c h).map fun h => .slc a (some l) (some h)
    | .Subscript a i _ => if nsl i then (trE n c a).bind fun a => (trE n c i).map (.idx a ·) else none
    | .Attribute (.Name x p) f _ => if c.xn = some x then (idx? f T.flds).map .xfld else (trE n c (.Name x p)).bind fun a => (idx? f T.flds).map (.fld a ·)
    | .Attribute a f _ => if bas a then (trE n c a).bind fun a => (idx? f T.flds).map (.fld a ·) else none
    | .Call (.Name x _) (a :: as) [] _ => match globOf T c x with
      | some (.fn i) => if c.hot then none else (trEs n c (a :: as)).bind fun es => (fill T i es.length).map fun d => .call i (es ++ d)
      | some (.cls k) => if c.hot then none else (trEs n c (a :: as)).bind fun es => match T.P.cl[k]? with
        | some C => C.init.bind fun i => (fill T i (es.length + 1)).map fun d => .make k (es ++ d)
        | none => none
      | some (.bi b) => if (c.hot && !biHot b) || isMD b then none else (match revArg (a :: as) with
        | some u => if (decide (x = "list") && (isLst b && (!c.hot && (isFree (globOf T c "reversed") && nst u)))) then (trE n c u).map .revl else none
        | none => (trEs n c (a :: as)).map (.bi b))
      | some .free => if x = "isinstance" then (match as with
        | [t] => (trIs T c t).bind fun ts => match a with
          | .Name y p => if c.xn = some y then (if ts.all (tyX T) then some (.xis ts) else none) else if ts.all (tyB T) then (trE n c (.Name y p)).map (.isin · ts) else none
          | a => if nst a && ts.all (tyB T) then (trE n c a).map (.isin · ts) else none
        | _ => none) else none
      | _ => match slotOf c x with
        | some i => if c.hot || T.P.nf.isEmpty then none else (trEs n c (a :: as)).map (.callv (.var i) ·)
        | none => none
    | .Call (.Subscript f ix sp) (a :: as) [] _ => if c.hot || T.P.nf.isEmpty then none else (trE n c (.Subscript f ix sp)).bind fun f => (trEs n c (a :: as)).map (.callv f ·)
    | .Call (.Name x _) [] [] _ => match globOf T c x with
      | some (.fn i) => if c.hot then none else (fill T i 0).map (.call i ·)
      | _ => none
    | .Call (.Name x _) [a] [⟨some k, d, _⟩] _ => if !c.hot && (decide (k = "default") && (nst a && isMin (globOf T c x))) then (trE n c a).bind fun a => (trE n c d).map fun d => .bi .minD [a, d] else none
    | .Call (.Attribute o m apos) as [] pos => if c.hot || !bas o || !(apos.endLine == pos.line) || !decide (as.length < 29) then none else
      match clsI T c o m with
      | some i => if as.isEmpty then none else (trEs n c as).bind fun es => (fill T i es.length).map fun d => .call i (es ++ d)
      | none => match idx? m T.mths with
      | some k => (trE n c o).bind fun o => (trEs n c as).map (.meth k o ·)
      | none => (bmI m).bind fun b => (trE n c o).bind fun o => (trEs n c as).map (.bm b o ·)
    | .ListComp elt [⟨tg, it, ifs, .ofNat 0⟩] scope _ =>
      if c.hot || !nset it || !blkC c.N c.sc scope (ownOf c.N scope) then none else
      let c' : TC := { c with sc := relS scope c.sc, blk := some scope.names }
      (trTg c' tg).bind fun t => if (tgs t).all fun i => ((ownOf c.N scope).map (·.2)).contains i then
        (trIt n c tg it).bind fun i => (trE n c' elt).bind fun e => match ifs with
        | [] => some (.lc e t i none ((ownOf c.N scope).map (·.2)))
        | [q] => (trT n c' q).map fun q => .lc e t i (some q) ((ownOf c.N scope).map (·.2))
        | _ => none
      else none
    | _ => none
def trEs : Nat → TC → List Expr → Option (List IE)
  | 0, _, _ => none
  | n + 1, c, es => match es with
    | [] => some []
    | e :: r => if nst e then (trE n c e).bind fun e => (trEs n c r).map (e :: ·) else none
def trT : Nat → TC → Expr → Option IT
  | 0, _, _ => none
  | n + 1, c, e => match e with
    | .UnaryOp .Not a _ => (trT n c a).map .not
    | .BoolOp _ [a] _ => trT n c a
    | .BoolOp .And (a :: b :: r) pos => (trT n c a).bind fun a => (trT n c (.BoolOp .And (b :: r) pos)).map (.and a ·)
    | .BoolOp .Or (a :: b :: r) pos => (trT n c a).bind fun a => (trT n c (.BoolOp .Or (b :: r) pos)).map (.or a ·)
    | .Compare a ops bs pos => (trE n c (.Compare a ops bs pos)).map .val
    | e => if tv e && nst e then (trE n c e).map .val else none
def trIt : Nat → TC → Expr → Expr → Option It
  | 0, _, _, _ => none
  | n + 1, c, tg, e => match e with
    | .Call (.Name x p) (a :: as) [] pos => match globOf T c x with
      | some .free => if x = "range" then (if as.length < 3 then (trEs n c (a :: as)).map .rng else none)
        else if x = "enumerate" then (match tg, as with
          | .Tuple _ _ _, [] => if nst a then (trE n c a).map .enum else none
          | _, _ => none)
        else if x = "zip" then (match tg, as with
          | .Tuple _ _ _, [b] => if nst a && nst b then (trE n c a).bind fun a => (trE n c b).map (.zip a ·) else none
          | _, _ => none)
        else if x = "reversed" then (match as, a with
          | [], .Call (.Name y _) (u :: us) [] _ => match globOf T c y with
            | some .free => if y = "range" && decide (us.length < 2) then (trEs n c (u :: us)).map .rrng else none
            | _ => (trE n c a).map .rev
          | [], a => if nst a then (trE n c a).map .rev else none
          | _, _ => none)
        else none
      | _ => (trE n c (.Call (.Name x p) (a :: as) [] pos)).map .seq
    | e => if nst e then (trE n c e).map .seq else none
end
end
end BW
set_option maxHeartbeats 4000000
/-! list(reversed(a list)). -/
namespace BW
open PySem PySem.Spec PyProof.Rows
section
variable {prog : Program} {w : World} {A : Around} {E : Value → Shared → Prop} {s : Shared}
theorem ext_rev {R : Result → Shared → Prop} {it l S : Addr} {items : Array Value} {c0 : Nat} {res : Value} (hh : A.handled = none) (hit : s.heap.IsRevIter it l ((items.size : Int) - 1)) (hl : s.heap.IsList l items) (hne : l ≠ it) (hn : items.size ≤ sizeLine)
    (hS : s.heap.get? S = some { cls := .type "list", data := .seq #[] c0 }) (hSi : S ≠ it) (hSl : S ≠ l)
    (hR : ∀ (h' : Heap) (tk : Nat) (acc' : Array Value) (c' : Nat), (∀ b o, b ≠ S → b ≠ it → s.heap.get? b = some o → h'.get? b = some o) → h'.get? S = some { cls := .type "list", dict := none, data := .seq acc' c', slots := #[] } →
      ItemsOf (fun i v => items[items.size - 1 - i]? = some v) acc' items.size → R (.ok (.ret res)) { s with heap := h', toks := tk }) :
    wpAny (model prog w) A.in1 (Builtin.List.listExtendWith (.ref S) (.ref it) res)
      (fun fin s' => match fin with | .done f => R (.ok f) s' | .again c' => c'.quiet = true ∧ codeAny (model prog w) A c' R s') (fun e s' => R (.error e) s') s := by
  have W := (Walks.listRev (prog := prog) (w := w) (A := A.in1) hh it l hne items).toS
  have hSf : S ∉ [it, l] := by simp only [List.mem_cons, List.not_mem_nil, or_false, not_or]; exact ⟨hSi, hSl⟩
  have hT : s.TypeIs (.ref it) "list_reverseiterator" := Heap.IsRevIter.typeIs (s := s) hit
  have h1 : Builtin.List.listSameRef (.ref S) (.ref it) = false := by simp [Builtin.List.listSameRef, hSi]
  unfold Builtin.List.listExtendWith
  refine wpAny_bind (wpAny_typeOf hT ?_)
  rw [if_neg (by rw [h1]; decide)]
  refine wpAny_bind (wpAny_pyIter_revIter hit ?_)
  refine wpAny_bind (wpAny_holding ?_)
  unfold Builtin.List.listLengthHint
  refine wpAny_bind (wpAny_specialOf hT RT.nolen_lri ?_)
  show wpAny _ A.in1 (specialOf (Value.ref it) (Str.ofString "__length_hint__") >>= _) _ _ _
  refine wpAny_bind (wpAny_specialOf hT RT.hint_lri ?_)
  generalize hid : ("list_reverseiterator.__length_hint__" : String) = id0
  wp_delta
  rw [show splitId id0 = some ("list_reverseiterator", "__length_hint__") from by subst hid; decide +kernel]
  subst hid
  refine wpAny_bind (wpAny_isInstance (b := true) hT (by rw [isSubtype_type]; kernel_rfl) ?_)
  refine wpAny_pure ?_
  rw [if_neg (by decide)]
  have e0 : ((items.size : Nat) : Int) - 1 - ((0 : Nat) : Int) = (items.size : Int) - 1 := by omega
  refine wpAny_pure ⟨plainId_quiet F.plain_extend_loop _, codeAny_extend_loopS W hn S hSf res items.size 0 _ #[] c0 rfl (Nat.zero_le _) ⟨Nat.zero_le _, by rw [e0]; exact hit, hl⟩ hS (ItemsOf.nil _) fun s' acc' c' hm hS' hacc => ?_⟩
  rw [Moved.eq_with hm]
  refine hR s'.heap s'.toks acc' c' (fun b o hb hb2 e => hm.heap b o (fun hmem => ?_) e) hS' hacc
  rcases List.mem_cons.mp hmem with e' | hmem
  · exact hb e'
  · exact hb2 (List.mem_singleton.mp hmem)
theorem init_rev {R : Result → Shared → Prop} {it l S : Addr} {items : Array Value} (hh : A.handled = none) (hit : s.heap.IsRevIter it l ((items.size : Int) - 1)) (hl : s.heap.IsList l items) (hne : l ≠ it) (hn : items.size ≤ sizeLine)
    (hS : s.heap.get? S = some { cls := .type "list", data := .seq #[] }) (hSi : S ≠ it) (hSl : S ≠ l)
    (hR : ∀ (h' : Heap) (tk : Nat) (acc' : Array Value) (c' : Nat), (∀ b o, b ≠ S → b ≠ it → s.heap.get? b = some o → h'.get? b = some o) → h'.get? S = some { cls := .type "list", dict := none, data := .seq acc' c', slots := #[] } →
      ItemsOf (fun i v => items[items.size - 1 - i]? = some v) acc' items.size → R (.ok (.ret .none)) { s with heap := h', toks := tk }) :
    wpAny (model prog w) A.in1 (Builtin.«list.__init__» ⟨[.ref S, .ref it], []⟩)
      (fun fin s' => match fin with | .done f => R (.ok f) s' | .again c' => c'.quiet = true ∧ codeAny (model prog w) A c' R s') (fun e s' => R (.error e) s') s := by
  show wpAny _ _ (do let old ← Builtin.List.listItems (.ref S); Builtin.List.listUpdate (.ref S) (fun _ => #[]); letGo old.toList.reverse; Builtin.List.listExtendWith (.ref S) (.ref it) .none) _ _ s
  refine wpAny_bind ?_
  unfold Builtin.List.listItems
  refine wpAny_bind (wpAny_seqItems hS rfl (wpAny_pure ?_))
  show wpAny _ _ (updateSeq S (fun _ => #[]) >>= fun _ => letGo (#[] : Array Value).toList.reverse >>= fun _ => Builtin.List.listExtendWith (.ref S) (.ref it) .none) _ _ s
  refine wpAny_bind (wpAny_updateSeq hS rfl ?_)
  have hS₂ := Heap.get?_update_self (Obj.mapSeq (fun _ => (#[] : Array Value))) hS rfl
  have oth : ∀ b o, b ≠ S → s.heap.get? b = some o → (s.heap.update S (Obj.mapSeq (fun _ => (#[] : Array Value)))).get? b = some o :=
    fun b o hb e => (Heap.get?_update_other _ _ (Ne.symm hb)).trans e
  refine wpAny_bind (wpAny_letGo ?_)
  have hl2 : (s.heap.update S (Obj.mapSeq (fun _ => (#[] : Array Value)))).IsList l items := by
    obtain ⟨o, ho, r⟩ := hl
    exact ⟨o, oth l o (Ne.symm hSl) ho, r⟩
  refine ext_rev hh (hit.at fun o e => oth it o (Ne.symm hSi) e) hl2 hne hn hS₂ hSi hSl fun h' tk acc' c' hk hS' hacc => ?_
  exact hR h' tk acc' c' (fun b o hb hb2 e => hk b o hb hb2 (oth b o hb e)) hS' hacc
theorem call_list_rev {Q : Value → Shared → Prop} {it l : Addr} {items : Array Value} (hh : A.handled = none) (hit : s.heap.IsRevIter it l ((items.size : Int) - 1)) (hl : s.heap.IsList l items) (hne : l ≠ it) (hn : items.size ≤ sizeLine)
    (hQ : ∀ (h' : Heap) (tk : Nat) (acc' : Array Value) (c' : Nat), (∀ b o, b ≠ it → s.heap.get? b = some o → h'.get? b = some o) →
      h'.get? s.heap.objs.size = some { cls := .type "list", dict := none, data := .seq acc' c', slots := #[] } → ItemsOf (fun i v => items[items.size - 1 - i]? = some v) acc' items.size → Q (.ref s.heap.objs.size) { s with heap := h', toks := tk }) :
    wpAny (model prog w) A (call (.type "list") [.ref it]) Q E s := by
  refine callType_codes (Q₁ := fun obj s₁ => obj = .ref s.heap.objs.size ∧ s₁ = { s with heap := s.heap.push { cls := .type "list", data := .seq #[] } }) F.called_list (F.typeCall_list_1 _) F.entry_list_init
    (code_list_new _ ⟨rfl, rfl⟩) fun obj s₁ h₁ => ?_
  obtain ⟨rfl, rfl⟩ := h₁
  have hS : (s.heap.push { cls := .type "list", data := .seq #[] }).get? s.heap.objs.size = some { cls := .type "list", data := .seq #[] } := Heap.get?_push_size _ rfl
  obtain ⟨oi, hoi, _⟩ := id hit
  obtain ⟨ol, hol, _⟩ := id hl
  refine ⟨⟨_, hS, rfl⟩, F.args_list_init_2 _ _, init_rev (A := A.in1) hh (hit.at fun o e => Heap.get?_push_of_some _ e) (hl.push _) hne hn hS (Nat.ne_of_gt (Heap.lt_size hoi)) (Nat.ne_of_gt (Heap.lt_size hol)) fun h' tk acc' c' hk hS' hacc => ?_⟩
  exact ⟨rfl, hQ h' tk acc' c' (fun b o hb e => hk b o (Nat.ne_of_lt (Heap.lt_size e)) hb (Heap.get?_push_of_some _ e)) hS' hacc⟩
end
end BW
namespace BW
open PySem PySem.Spec PyProof.Rows L2
def tLstRev (K : PySem.W.Frag) (te : TE) : TE := fun σ H Q => te σ H fun v H1 => ∃ (a : Addr) (xs : List V), v = .ref a ∧ SqL K H1 a xs ∧ ∀ q, H1 q = none → Q (.ref q) (upd H1 q (.lst xs.reverse))
theorem pe_lstRev {X : Cx} {e : Expr} {te : TE} {p p2 pos pos2 : Pos} (hc : X.calm = true) (hg : Gl X "list") (hm : X.mg "list" = none) (hg2 : Gl X "reversed") (hm2 : X.mg "reversed" = none) (he : PE X e te)
    (hs : starEach [e] X.env = (false, eval e X.env) :: starEach [] X.env)
    (hs2 : starEach [.Call (.Name "reversed" p2) [e] [] pos2] X.env = (false, eval (.Call (.Name "reversed" p2) [e] [] pos2) X.env) :: starEach [] X.env := by rfl) :
    PE X (.Call (.Name "list" p) [.Call (.Name "reversed" p2) [e] [] pos2] [] pos) (tLstRev X.K te) := by
  refine ⟨fun pins s σ H Q I h => ?_⟩
  refine Call_ (ld_blt I hg hm PyProof.Rows.boot_list (PyProof.Rows.callWith_type1 (args_cons (Call_ (ld_blt I hg2 hm2 PyProof.Rows.boot_reversed (PyProof.Rows.callWith_type1 (args_cons (thn (he.run pins s σ H _ I h) fun u s1 ⟨v, H1, I1, r1, q1⟩ => args_nil ?_) hs) hs rfl))) hs2) hs2 rfl))
  obtain ⟨a, xs, ev, hq, q⟩ := q1
  subst ev
  obtain rfl : u = Value.ref a := r1
  obtain ⟨its, rv, p', hz⟩ := I1.list hq
  refine call_reversed_list p'.isList (args_nil ?_)
  have hl := p'.isList
  obtain ⟨ol, hol, _⟩ := id hl
  have hne : a ≠ s1.heap.objs.size := Nat.ne_of_lt (Heap.lt_size hol)
  have hn : its.toArray.size ≤ sizeLine := by rw [List.size_toArray, ← rv.length]; exact hz
  refine call_list_rev (s := { s1 with heap := s1.heap.push (revObj a ((its.toArray.size : Int) - 1)) }) (I1.ok.hd hc) ⟨_, Heap.get?_push_size _ rfl, rfl, rfl⟩ (hl.push _) hne hn fun h' tk acc c' hk e1 hi => ?_
  have hsz : s1.heap.objs.size ≤ (s1.heap.push (revObj a ((its.toArray.size : Int) - 1))).objs.size := by simp [Heap.push]
  exact ⟨.ref _, _, I1.laid (t' := tk) (fun b o e => hk b o (Nat.ne_of_lt (Heap.lt_size e)) (Heap.get?_push_of_some _ e)) hsz (show ObjOk X.prog X.w _ h' _ (.lst xs.reverse) from ⟨by rw [List.length_reverse]; exact hz, acc.toList, c', RT.vals_rev rv hi, by rw [Array.toArray_toList]; exact e1⟩), rfl, q _ (I1.hok.fresh hsz)⟩
end BW
set_option maxHeartbeats 4000000
/-! Exceptions with an own __init__ that keeps its numbers as fields. -/
namespace BW
open PySem PySem.Spec PyProof.Rows L2
/-- what such an __init__ promises -/
def spXI (C : Addr) (fs : List Str) : Sp := fun vs H Q _ => ∃ (a : Addr) (ys : List V), vs = .ref a :: ys ∧ ys.length = fs.length ∧ H a = some (exo a C none) ∧
  ∀ H2 dx, H dx = none → dx ≠ a → H2 a = some (exo a C (some dx)) → H2 dx = some (exd dx (fs.zip ys).reverse) → (∀ b, b ≠ a → b ≠ dx → H2 b = H b) → Q .non H2
/-- self.f = x, .. -/
def xbB (c : TC) : Nat → List Str → List Stmt → Bool
  | _, [], [] => true
  | i, f :: fs, .Assign [.Attribute (.Name o _) g _] (.Name x _) _ :: r => decide (slotOf c o = some 0) && (decide (slotOf c x = some i) && (decide (f = g) && xbB c (i + 1) fs r))
  | _, _, _ => false
theorem xbB_inv {c : TC} {i : Nat} {f : Str} {fs : List Str} {body : List Stmt} (h : xbB c i (f :: fs) body = true) : ∃ o po pg x px ps r, body = .Assign [.Attribute (.Name o po) f pg] (.Name x px) ps :: r ∧ slotOf c o = some 0 ∧ slotOf c x = some i ∧ xbB c (i + 1) fs r = true := by
  cases body with
  | nil => simp [xbB] at h
  | cons s r =>
    cases s with
    | Assign ts e ps =>
      match ts, e, h with
      | [.Attribute (.Name o po) g pg], .Name x px, h =>
        unfold xbB at h
        simp only [Bool.and_eq_true, decide_eq_true_eq] at h
        obtain ⟨ho, hx, rfl, h⟩ := h
        exact ⟨o, po, pg, x, px, ps, r, rfl, ho, hx, h⟩
    | _ => simp [xbB] at h
section
variable {X : Cx} {N : List Str} {sc : Scope}
theorem xi_var {c : TC} (hN : X.N = c.N) (hs : X.env.scope = c.sc) {x : Str} {i : Nat} {pos : Pos} (h : slotOf c x = some i) : PE X (.Name x pos) (tVar i) := by
  obtain ⟨h1, h2, h3⟩ := slotOf_ok h
  exact pe_var (by rw [hN]; exact h1) (by rw [hs]; exact h2) (dbg_no h3).1 (dbg_no h3).2
theorem xi_rest {c : TC} (hN : X.N = c.N) (hs : X.env.scope = c.sc) {C : Addr} (T : OexC X.K C) : ∀ (fs : List Str) (i : Nat) (body : List Stmt), (∀ f ∈ fs, PySem.W.findIn X.K (.ref C) f = some none) → xbB c i fs body = true →
    ∃ t, PSs X body t ∧ ∀ (D : Ends) (σ : L2.St) (H : Hp) (a dx : Addr) (done : List (Str × V)) (ys : List V), σ[0]? = some (some (.ref a)) → (∀ j y, ys[j]? = some y → σ[i + j]? = some (some y)) → ys.length = fs.length → done.length + fs.length ≤ 900 → H a = some (exo a C (some dx)) → H dx = some (exd dx done) → dx ≠ a →
      (∀ H2, H2 a = some (exo a C (some dx)) → H2 dx = some (exd dx ((fs.zip ys).reverse ++ done)) → (∀ b, b ≠ a → b ≠ dx → H2 b = H b) → D.nx σ H2) → t D σ H
  | [], i, body, hno, h => by
    cases body with
    | nil => exact ⟨tNext, pss_nil, fun D σ H a dx done ys s0 sy hl hd ha hx ne k => k H ha (by simpa using hx) fun b _ _ => rfl⟩
    | cons s r => cases h
  | f :: fs, i, body, hno, h => by
    obtain ⟨o, po, pg, x, px, ps, r, rfl, ho, hx, h⟩ := xbB_inv h
    obtain ⟨t, ht, rt⟩ := xi_rest hN hs T fs (i + 1) r (fun f hf => hno f (List.mem_cons_of_mem _ hf)) h
    refine ⟨_, pss_cons (ps_ost (xi_var hN hs ho) (xi_var hN hs hx)) ht, fun D σ H a dx done ys s0 sy hl hd ha hx' ne k => ?_⟩
    cases ys with
    | nil => simp at hl
    | cons y ys =>
      refine ⟨y, by simpa using sy 0 y rfl, .ref a, s0, a, C, rfl, T, hno f List.mem_cons_self, .inr ⟨dx, done, ha, hx', by simp at hd; omega, ?_⟩⟩
      refine rt D σ (upd H dx (exd dx ((f, y) :: done))) a dx ((f, y) :: done) ys s0 (fun j z hz => ?_) (by simpa using hl) (by simp at hd ⊢; omega) (by rw [upd_ne (Ne.symm ne)]; exact ha) upd_same ne fun H2 e1 e2 e3 => k H2 e1 ?_ fun b h1 h2 => ?_
      · have := sy (j + 1) z hz
        rw [show i + 1 + j = i + (j + 1) by omega]
        exact this
      · rw [e2]; simp
      · rw [e3 b h1 h2, upd_ne h2]
theorem xi_body {c : TC} (hN : X.N = c.N) (hs : X.env.scope = c.sc) {C : Addr} (T : OexC X.K C) {fs : List Str} {body : List Stmt} (hno : ∀ f ∈ fs, PySem.W.findIn X.K (.ref C) f = some none) (h : xbB c 1 fs body = true) (hf : fs ≠ []) (h9 : fs.length ≤ 900) :
    ∃ t, PSs X body t ∧ ∀ (D : Ends) (σ : L2.St) (H : Hp) (a : Addr) (ys : List V), σ[0]? = some (some (.ref a)) → (∀ j y, ys[j]? = some y → σ[1 + j]? = some (some y)) → ys.length = fs.length → H a = some (exo a C none) →
      (∀ H2 dx, H dx = none → dx ≠ a → H2 a = some (exo a C (some dx)) → H2 dx = some (exd dx (fs.zip ys).reverse) → (∀ b, b ≠ a → b ≠ dx → H2 b = H b) → D.nx σ H2) → t D σ H := by
  cases fs with
  | nil => exact absurd rfl hf
  | cons f fs =>
    obtain ⟨o, po, pg, x, px, ps, r, rfl, ho, hx, h⟩ := xbB_inv h
    obtain ⟨t, ht, rt⟩ := xi_rest hN hs T fs (1 + 1) r (fun f hf => hno f (List.mem_cons_of_mem _ hf)) h
    refine ⟨_, pss_cons (ps_ost (xi_var hN hs ho) (xi_var hN hs hx)) ht, fun D σ H a ys s0 sy hl ha k => ?_⟩
    cases ys with
    | nil => simp at hl
    | cons y ys =>
      refine ⟨y, by simpa using sy 0 y rfl, .ref a, s0, a, C, rfl, T, hno f List.mem_cons_self, .inl ⟨ha, fun dx n ne => ?_⟩⟩
      refine rt D σ (upd (upd H dx (exd dx [(f, y)])) a (exo a C (some dx))) a dx [(f, y)] ys s0 (fun j z hz => ?_) (by simpa using hl) (by simp at h9 ⊢; omega) upd_same (by rw [upd_ne ne]; exact upd_same) ne fun H2 e1 e2 e3 => k H2 dx n ne e1 ?_ fun b h1 h2 => ?_
      · have := sy (j + 1) z hz
        rw [show 1 + 1 + j = 1 + (j + 1) by omega]
        exact this
      · rw [e2]; simp
      · rw [e3 b h1 h2, upd_ne h1, upd_ne h2]
end
theorem xi_fn {CX : CXT} {P : Program} {w : World} {K : PySem.W.Frag} {mg : Str → Option Value} {base : Heap} {f C : Addr} {name qual : Str} {params : Arguments} {body : List Stmt} {scope : Scope} {dV kV doc pm cdv ct oc : Value} {an od : Option Addr}
    {osl : Array (Option Value)} {N ps fs : List Str} (lk : K.lookup f = some ⟨oc, od, .func (PySem.W.fnOf name qual params body scope dV kV doc pm an cdv ct), osl⟩) (hcd : PySem.W.codeIn K cdv qual = true) (S : FnScope N ps scope) (T : OexC K C)
    (hno : ∀ f ∈ fs, PySem.W.findIn K (.ref C) f = some none) (h : xbB ⟨N, scope, none, false, none⟩ 1 fs body = true) (hf : fs ≠ []) (h9 : fs.length ≤ 900) (hl : ps.length = fs.length + 1) :
    FnOk P w K mg base CX 1 f (PySem.W.fnOf name qual params body scope dV kV doc pm an cdv ct) ps (spXI C fs) := by
  refine fn_of (k := 0) (N := N) lk hcd S (fun vs H Q E h => ?_) fun A outer s H vs Q E hr hsp => ?_
  · obtain ⟨a, ys, rfl, h2, _⟩ := h
    rw [List.length_cons, h2, hl]
  · obtain ⟨a, ys, rfl, h2, h3, h4⟩ := hsp
    obtain ⟨t, ht, rt⟩ := xi_body (X := cxOf CX P w K mg base N qual scope f cdv A outer s H E) (c := ⟨N, scope, none, false, none⟩) rfl rfl (C := C) T hno h hf h9
    refine ⟨t, ht, rt _ _ _ a ys rfl (fun j y hy => ?_) h2 h3 h4⟩
    unfold L2.start
    rw [List.map_cons, List.cons_append, Nat.add_comm, List.getElem?_cons_succ, List.getElem?_append_left (by rw [List.length_map]; exact (List.getElem?_eq_some_iff.mp hy).1), List.getElem?_map, hy]
    rfl
/-- what the written part tells of such a class -/
structure XiOk (K : PySem.W.Frag) (C : Addr) (fs : List Str) : Prop where
  cls : OexC K C
  ne : fs ≠ []
  le : fs.length ≤ 900
  nd : fs.Nodup
  ini : ∃ (f : Addr) (fd : FuncData) (ps : List Str), PySem.W.findIn K (.ref C) "__init__" = some (some (.ref f)) ∧ PySem.W.typeIn K (.ref f) = some (.type "function") ∧ Binds K fd ps [] ∧ ∀ (P : Program) (w : World) (mg : Str → Option Value) (base : Heap), FnOk P w K mg base (L2.CX P w) 1 f fd ps (spXI C fs)
theorem look_mem' {α : Type} {k : Nat} {v : α} : ∀ {l : List (Nat × α)}, look k l = some v → (k, v) ∈ l
  | [], h => by cases h
  | (j, u) :: r, h => by
    unfold look at h
    split at h
    · rename_i e
      cases h
      rw [e]; exact List.mem_cons_self
    · exact List.mem_cons_of_mem _ (look_mem' h)
theorem lookup_nd {l : List (Str × V)} (h : (l.map (·.1)).Nodup) {k : Str} {v : V} (hm : (k, v) ∈ l) : l.lookup k = some v := by
  induction l with
  | nil => cases hm
  | cons q r ih =>
    obtain ⟨j, u⟩ := q
    rw [List.map_cons, List.nodup_cons] at h
    rw [List.lookup]
    rcases List.mem_cons.mp hm with e | e
    · cases e
      simp
    · have : (k == j) = false := by
        apply Bool.eq_false_iff.mpr
        intro z
        have := eq_of_beq z
        subst this
        exact h.1 (List.mem_map.mpr ⟨_, e, rfl⟩)
      rw [this]
      exact ih h.2 e
end BW
set_option maxHeartbeats 4000000
/-! The translation is sound: expressions. -/
namespace BW
open PySem PySem.Spec PyProof.Rows L2 LamX NdefX

def fnmOf (flds : List Str) (i : Nat) : Str := match flds[i]? with
  | some s => s
  | none => ⟨Array.replicate (1000 + i) 0⟩
/-- the def within a def -/
structure ND where
  st : Stmt
  nm : Str
  q : Str
  x : Str
  N : List Str
  ps : List Str
  tb : Option (Addr × (Nat → Nat → Str))
  /-- code objects and their tables -/
  cs : List (Addr × Addr)
/-- how the text's things are linked -/
structure Lk where
  T : GT
  K : PySem.W.Frag
  ca : Nat → Addr
  fa : Nat → Addr
  fd : Nat → FuncData
  ps : Nat → List Str
  nd : ND
def Lk.ic (L : Lk) (c : Nat) : Prop := ∃ C, L.T.P.cl[c]? = some C ∧ C.init.isSome = true
def Lk.xk (L : Lk) (c : Nat) : Prop := ∃ C, L.T.P.cl[c]? = some C ∧ (C.exk = 1 ∨ C.exk = 2)
def Lk.g (L : Lk) : G := ⟨L.K, L.ca, fnmOf L.T.flds, L.ic, L.xk, fun cl c' => NF.of L.nd.st L.nd.nm L.nd.q cl c', L.nd.x, L.nd.tb⟩
noncomputable abbrev Lk.D (L : Lk) (n : Nat) : Den := den L.T.P n
def fldsOk (T : GT) : Prop := T.flds.Nodup ∧ (∀ s ∈ T.flds, s.length < 1000) ∧ ∀ m ∈ T.mths, m ∉ T.flds ∧ m.length < 1000
instance (T : GT) : Decidable (fldsOk T) := inferInstanceAs (Decidable (_ ∧ _ ∧ _))
theorem fnm_inj {T : GT} (h : fldsOk T) (i j : Nat) (e : fnmOf T.flds i = fnmOf T.flds j) : i = j := by
  obtain ⟨h1, h2, _⟩ := h
  unfold fnmOf at e
  cases e1 : T.flds[i]? with
  | some s =>
    cases e2 : T.flds[j]? with
    | some t =>
      rw [e1, e2] at e
      simp only at e
      subst e
      exact nodup_ix h1 e1 e2
    | none =>
      rw [e1, e2] at e
      simp only at e
      have := h2 s (List.mem_of_getElem? e1)
      rw [e] at this
      simp [Str.length] at this
      omega
  | none =>
    cases e2 : T.flds[j]? with
    | some t =>
      rw [e1, e2] at e
      simp only at e
      have := h2 t (List.mem_of_getElem? e2)
      rw [← e] at this
      simp [Str.length] at this
      omega
    | none =>
      rw [e1, e2] at e
      simp only at e
      have : (⟨Array.replicate (1000 + i) 0⟩ : Str).length = (⟨Array.replicate (1000 + j) 0⟩ : Str).length := by rw [e]
      simp [Str.length] at this
      omega
theorem fnm_mth {T : GT} (h : fldsOk T) {m : Str} (hm : m ∈ T.mths) (i : Nat) : fnmOf T.flds i ≠ m := by
  obtain ⟨_, _, h3⟩ := h
  obtain ⟨h4, h5⟩ := h3 m hm
  intro e
  unfold fnmOf at e
  cases e1 : T.flds[i]? with
  | some s =>
    rw [e1] at e
    simp only at e
    subst e
    exact h4 (List.mem_of_getElem? e1)
  | none =>
    rw [e1] at e
    simp only at e
    rw [← e] at h5
    simp [Str.length] at h5
    omega
def tagV (L : Lk) : Tag → Value
  | .non => .type "NoneType" | .bl => .type "bool" | .int => .type "int" | .str => .type "str" | .lst => .type "list" | .tup => .type "tuple" | .dic => .type "dict" | .ins c => .ref (L.ca c) | .exc c => .ref (L.ca c)
def tyW (L : Lk) : Ty → Value
  | .int => .type "int" | .bool => .type "bool" | .str => .type "str" | .tuple => .type "tuple" | .list => .type "list" | .dict => .type "dict" | .own c => .ref (L.ca c) | .ve => .type "ValueError"
def tyU (L : Lk) : Ty → V
  | .int => .ty "int" | .bool => .ty "bool" | .str => .ty "str" | .tuple => .ty "tuple" | .list => .ty "list" | .dict => .ty "dict" | .own c => .ref (L.ca c) | .ve => .ty "ValueError"
def tyIn (L : Lk) (t : Ty) : Prop := tyB L.T t = true
def tagIn (L : Lk) : Tag → Prop
  | .ins c => L.ic c
  | .exc c => False
  | _ => True
/-- the promise of a def, by the small language -/
def spI (L : Lk) (n i : Nat) : Sp := fun vs H Q E => ∃ F, (L.T.P.fn ++ L.T.P.nf)[i]? = some F ∧ vs.length = F.np ∧ ∃ (σ : L2.St) (ι : List Addr) (μ : Store) (ps : List PV), RM L.g H ι μ ∧ RVs L.g H ι ps vs ∧ Fin L.g (fun cls d _ H => E cls d H) σ (RVf L.g) H ι μ (L.D n i ps μ) Q
/-- the promise of the def within a def -/
def spN (L : Lk) (n : Nat) : List (Option V) → Sp := fun ws vs H Q E => ∃ u, ws = [some u] ∧ vs.length = L.nd.ps.length ∧ ∃ (σ : L2.St) (ι : List Addr) (μ : Store) (ps : List PV) (pv : PV), RM L.g H ι μ ∧ RVs L.g H ι ps vs ∧ RV L.g H ι pv u ∧ Fin L.g (fun cls d _ H => E cls d H) σ (RVf L.g) H ι μ (L.D n L.T.P.fn.length (ps ++ [pv]) μ) Q
/-- a tuple of the module -/
def TupK (K : PySem.W.Frag) (a : Addr) (us : List Value) : Prop := ∃ (o : Obj) (its : Array Value) (n : Nat), K.lookup a = some o ∧ o.cls = .type "tuple" ∧ o.data = .seq its n ∧ its.size ≤ sizeLine ∧ its.toList = us
/-- its rows of whole numbers -/
inductive RowsK (K : PySem.W.Frag) : List Value → List (List Int) → Prop where
  | nil : RowsK K [] []
  | cons (b : Addr) (vs us : List Value) (r : List Int) (rs : List (List Int)) (h : TupK K b vs) (h2 : Vals (r.map V.int) vs) (t : RowsK K us rs) : RowsK K (.ref b :: us) (r :: rs)
inductive EntOk (L : Lk) (mg : Str → Option Value) (x : Str) : GEnt → Prop where
  | fn (i : Nat) (h : mg x = some (.ref (L.fa i))) (h2 : (L.T.P.fn[i]?).isSome = true) : EntOk L mg x (.fn i)
  | cls (c : Nat) (h : mg x = some (.ref (L.ca c))) (h2 : (L.T.P.cl[c]?).isSome = true) : EntOk L mg x (.cls c)
  | con (v : PV) (u : Value) (w : V) (h : mg x = some u) (h2 : RelV w u) (h3 : ∀ H ι, RV L.g H ι v w) : EntOk L mg x (.con v)
  | bi (b : Bi) (h : mg x = none) (h2 : bootBuiltins x = some (biF b)) (h3 : x ≠ "__name__") : EntOk L mg x (.bi b)
  | free (h : mg x = none) (h3 : x ≠ "__name__") : EntOk L mg x .free
  | tbl (rows : List (List Int)) (a : Addr) (us : List Value) (h : mg x = some (.ref a)) (h2 : TupK L.K a us) (h3 : RowsK L.K us rows) : EntOk L mg x (.tbl rows)
/-- what a class of instances has -/
structure InsOk (K : PySem.W.Frag) (flds : List Str) (C : Addr) : Prop where
  cls : Cls K C
  no : ∀ f ∈ flds, NoAttr K C f
  ha : PySem.W.findIn K (.ref C) "__class__" = some (some (.builtin "object.__class__"))
  hn : PySem.W.specialIn K (.builtin "object.__class__") "__get__" = some (some (.builtin "getset_descriptor.__get__"))
  ht : PySem.W.takesIn K (.builtin "object.__class__") = some true
  hm : PySem.W.mroIn K C (.type "object") = some true
/-- what a class of exceptions has -/
structure XcOk (K : PySem.W.Frag) (flds : List Str) (C : Addr) : Prop where
  xf : XfC K C
  no : ∀ f ∈ flds, PySem.W.findIn K (.ref C) f = some none
  ha : PySem.W.findIn K (.ref C) "__class__" = some (some (.builtin "object.__class__"))
  hn : PySem.W.specialIn K (.builtin "object.__class__") "__get__" = some (some (.builtin "getset_descriptor.__get__"))
  ht : PySem.W.takesIn K (.builtin "object.__class__") = some true
  hm : PySem.W.mroIn K C (.type "object") = some true
structure LOk (L : Lk) (mg : Str → Option Value) : Prop where
  fl : fldsOk L.T
  ents : ∀ x e, L.T.ents.lookup x = some e → EntOk L mg x e
  ins : ∀ c, L.ic c → InsOk L.K L.T.flds (L.ca c)
  meth : ∀ c C k f m, L.ic c → L.T.P.cl[c]? = some C → look k C.meth = some f → L.T.mths[k]? = some m → Meth L.K (L.ca c) m (L.fa f) ∧ (L.T.P.fn[f]?).isSome = true
  make : ∀ c C f, L.T.P.cl[c]? = some C → C.init = some f → Mk L.K (L.ca c) (L.fa f) ∧ (L.T.P.fn[f]?).isSome = true
  exc : ∀ c C, L.T.P.cl[c]? = some C → C.exk = 1 → PySem.W.excIn L.K (L.ca c) He.veBase "ValueError.__new__" = true ∧ PySem.W.keepIn L.K (.ref (L.ca c)) = true ∧ PySem.W.subIn L.K (.ref (L.ca c)) (.type "BaseException") = some true ∧ PySem.W.typeIn L.K (.ref (L.ca c)) = some (.type "type")
  xc : ∀ c, L.xk c → XcOk L.K L.T.flds (L.ca c)
  xi : ∀ c C, L.T.P.cl[c]? = some C → C.exk = 2 → XiOk L.K (L.ca c) (C.exf.map (fnmOf L.T.flds))
  xm : ∀ c t b, L.xk c → tyX L.T t = true → isTag L.T.P (.exc c) t = some b → PySem.W.exmOne L.K (.ref (L.ca c)) (tyW L t) = some b ∧ PySem.W.kitOne L.K (.ref (L.ca c)) (tyW L t) = some b
  keep : ∀ i F, L.T.P.fn[i]? = some F → PySem.W.keepIn L.K (.ref (L.fa i)) = true
  bind : ∀ i F k es, L.T.P.fn[i]? = some F → fill L.T i k = some es → ∃ dvs ds, Vals dvs ds ∧ Binds L.K (L.fd i) (L.ps i) ds ∧ ∃ pvs : List PV, es = pvs.map .con ∧ ∀ H ι, RVs L.g H ι pvs dvs
  bind0 : ∀ i F, L.T.P.fn[i]? = some F → Binds L.K (L.fd i) (L.ps i) [] ∧ (L.ps i).length = F.np
  cini : ∀ c C f, L.T.P.cl[c]? = some C → C.init = some f → ClX.CRead L.K (L.ca c) (.type "type") ∧ PySem.W.findCls L.K (.ref (L.ca c)) (.type "type") "__init__" = some (.val (.ref (L.fa f))) ∧ (L.T.P.fn[f]?).isSome = true
  kit : ∀ g t b, tagIn L g → tyIn L t → isTag L.T.P g t = some b → PySem.W.kitOne L.K (tagV L g) (tyW L t) = some b
  nfp : ∀ F, (L.T.P.fn ++ L.T.P.nf)[L.T.P.fn.length]? = some F → F.np = L.nd.ps.length + 1

/-- where an expression stands -/
structure CtxE (L : Lk) (n : Nat) (c : TC) (xb : XB) (W : WX) (X : Cx) : Prop where
  K : L.K = X.K
  lok : LOk L X.mg
  N : X.N = c.N
  nd : c.N.Nodup
  sc : X.env.scope = c.sc
  calm : c.hot = false → X.calm = true
  room : c.hot = false → Room (3 * n + 2) X.A
  unit : X.A.units + 65 < cLine
  fns : ∀ i F, L.T.P.fn[i]? = some F → FnOk X.prog X.w X.K X.mg X.base (L2.CX X.prog X.w) (3 * n) (L.fa i) (L.fd i) (L.ps i) (spI L n i)
  nest : L.T.P.nf ≠ [] → ∀ f cl c', NOk X.prog X.w X.K X.mg X.base (L2.CX X.prog X.w) (3 * n) f (L.g.nF cl c') L.nd.ps [L.nd.x] (spN L n)
  takes : c.hot = false → Takes X W
  cell : ∀ x, c.sc.names.lookup x = some .cell → ownC c.blk x = true → X.fn x = true
  cool : c.hot = false → c.xn = none ∧ xb = none
  exn : ∀ q, xb = some q → ∃ x, c.xn = some x ∧ X.N[q.2.1]? = some x
  exf : ∀ x, c.xn = some x → ∀ (f : Str) (k : Nat) (p pos : Pos), idx? f L.T.flds = some k → PE X (.Attribute (.Name x p) f pos) (tE L.g xb W L.T.P (L.D n) (.xfld k))
  exi : ∀ x, c.xn = some x → ∀ (t : Expr) (ts : List Ty) (p p2 pos : Pos), globOf L.T c "isinstance" = some .free → trIs L.T c t = some ts → ts.all (tyX L.T) = true → PE X (.Call (.Name "isinstance" p) [.Name x p2, t] [] pos) (tE L.g xb W L.T.P (L.D n) (.xis ts))
section
variable {L : Lk} {n : Nat} {c : TC} {xb : XB} {W : WX} {X : Cx}
theorem CtxE.gK (C : CtxE L n c xb W X) : L.g.K = X.K := C.K
theorem CtxE.var (C : CtxE L n c xb W X) {x : Str} {i : Nat} {pos : Pos} (h : slotOf c x = some i) : PE X (.Name x pos) (tVar i) := by
  obtain ⟨h1, h2, h3⟩ := slotOf_ok h
  exact pe_var (by rw [C.N]; exact h1) (by rw [C.sc]; exact h2) (dbg_no h3).1 (dbg_no h3).2
theorem CtxE.gl (C : CtxE L n c xb W X) {x : Str} {g : GEnt} (h : globOf L.T c x = some g) : Gl X x ∧ EntOk L X.mg x g ∧ (x == ("__debug__" : Str)) = false := by
  obtain ⟨h1, h2, h3⟩ := globOf_ok h
  exact ⟨by show X.env.scope.names.lookup x = _; rw [C.sc]; exact h1, C.lok.ents _ _ h2, (dbg_no h3).1⟩
/-! ### an expression, its reading -/
abbrev SE (L : Lk) (n : Nat) (xb : XB) (W : WX) (X : Cx) (e : Expr) (i : IE) : Prop := PE X e (tE L.g xb W L.T.P (L.D n) i)
abbrev ST (L : Lk) (n : Nat) (xb : XB) (W : WX) (X : Cx) (e : Expr) (i : IT) : Prop := PT X e (tT L.g xb W L.T.P (L.D n) i)
abbrev SA (L : Lk) (n : Nat) (xb : XB) (W : WX) (X : Cx) (e : List Expr) (i : List IE) : Prop := PA X e (tEs L.g xb W L.T.P (L.D n) i)

theorem s_bin (C : CtxE L n c xb W X) {a b : Expr} {ia ib : IE} {o : Operator} {p : Op} {pos : Pos} (ho : opI o = some p) (ha : SE L n xb W X a ia) (hb : SE L n xb W X b ib) : SE L n xb W X (.BinOp a o b pos) (.bin p ia ib) := by
  have r := op_bin (X := X) (g := L.g) C.gK p
  rw [opI_ok ho] at r
  exact (pe_op r ha hb).imp fun σ H Q h => se_bin2 (binV_noex p) h
theorem s_neg {a : Expr} {ia : IE} {pos : Pos} (ha : SE L n xb W X a ia) : SE L n xb W X (.UnaryOp .USub a pos) (.neg ia) :=
  (pe_un (un_neg' (g := L.g)) ha).imp fun σ H Q h => se_un negV_noex h
theorem s_not {a : Expr} {ia : IE} {pos : Pos} (ha : SE L n xb W X a ia) : SE L n xb W X (.UnaryOp .Not a pos) (.not ia) :=
  (pe_not ha).imp fun σ H Q h => by
    refine tI_mono (tI_bind (R := RVf L.g) (S := RVf L.g) (f := fun _ x μ => match x with | .bl b => .ok (.bl (!b)) μ | _ => .bad) h) fun x H1 ⟨px, ι1, ρ, μ1, re, rm, rx, h1⟩ => ?_
    cases px with
    | bl b => cases rx; exact ⟨b, rfl, h1.here rm rfl⟩
    | _ => exact h1.elim
theorem s_cmp (C : CtxE L n c xb W X) {a b : Expr} {ia ib : IE} {o : CmpOp} {pos : Pos} (hs : nset b = true) (ha : SE L n xb W X a ia) (hb : SE L n xb W X b ib) : SE L n xb W X (.Compare a [o] [b] pos) (.cmp (cmI o) ia ib) := by
  have r := op_cmp (X := X) (g := L.g) C.gK C.unit (cmI o)
  rw [cmI_ok] at r
  exact (pe_cmpR r ha hb (mark_ok hs)).imp fun σ H Q h => se_bin2 (cmpV_noex _) h
/-! ### tests -/
theorem cmpV_bl {o : Cm} {x y v : PV} {μ μ' : Store} (h : cmpV o x y μ = .ok v μ') : ∃ b, v = .bl b := by
  have key : ∀ {q : Option Bool} {f : Bool → Bool}, ((Res.ofO q μ).bind fun b μ => Res.ok (PV.bl (f b)) μ) = .ok v μ' → ∃ b, v = .bl b := by
    intro q f h
    cases q with
    | none => cases h
    | some b => cases h; exact ⟨_, rfl⟩
  unfold cmpV at h
  split at h
  all_goals first
    | exact key (f := id) h
    | exact key (f := fun b => !b) h
    | (cases h; exact ⟨_, rfl⟩)
    | (split at h <;> first | (cases h; done) | (cases h; exact ⟨_, rfl⟩))
    | (split at h <;> first | (cases h; done) | (split at h <;> first | (cases h; done) | (cases h; exact ⟨_, rfl⟩)))
    | cases h
theorem bind_ok {α β : Type} {r : Res α} {f : α → Store → Res β} {v : β} {μ' : Store} (h : r.bind f = .ok v μ') : ∃ a μ, r = .ok a μ ∧ f a μ = .ok v μ' := by
  cases r with
  | ok a μ => exact ⟨a, μ, rfl, h⟩
  | ex e μ => cases h
  | bad => cases h
theorem cmp_bl {P : Prog} {D : Den} {xv : Option PX} {o : Cm} {a b : IE} {ρ : BW.Env} {μ μ' : Store} {v : PV} (h : evE P D xv (.cmp o a b) ρ μ = .ok v μ') : ∃ b, v = .bl b := by
  obtain ⟨x, μ1, _, h⟩ := bind_ok (show (evE P D xv a ρ μ).bind _ = _ from h)
  obtain ⟨y, μ2, _, h⟩ := bind_ok h
  exact cmpV_bl h
theorem chain_bl {P : Prog} {D : Den} {xv : Option PX} {o o2 : Cm} {a b c : IE} {ρ : BW.Env} {μ μ' : Store} {v : PV} (h : evE P D xv (.chain o o2 a b c) ρ μ = .ok v μ') : ∃ b, v = .bl b := by
  obtain ⟨x, μ1, _, h⟩ := bind_ok (show (evE P D xv a ρ μ).bind _ = _ from h)
  obtain ⟨y, μ2, _, h⟩ := bind_ok h
  obtain ⟨k, μ3, _, h⟩ := bind_ok h
  split at h
  · obtain ⟨z, μ4, _, h⟩ := bind_ok h
    exact cmpV_bl h
  · cases h; exact ⟨_, rfl⟩
  · cases h
/-- a test by an expression that gives True or False -/
theorem st_bl {e : Expr} {i : IE} (hv : ∀ ρ μ v μ', evE L.T.P (L.D n) xb.v i ρ μ = .ok v μ' → ∃ b, v = .bl b) (h : PT X e fun σ H Q => tE L.g xb W L.T.P (L.D n) i σ H fun x H1 => ∃ k, x = .bl k ∧ Q k H1) : ST L n xb W X e (.val i) := by
  refine h.imp fun σ H Q ⟨ι, ρ, μ, re, rm, q⟩ => ⟨ι, ρ, μ, re, rm, ?_⟩
  have q : Fin L.g W σ RB H ι μ ((evE L.T.P (L.D n) xb.v i ρ μ).bind fun x μ => Res.ofO (BW.truthy μ x) μ) Q := q
  refine (Fin.bind (R := RVf L.g) q).imp fun a μ1 v H1 ι1 e x m r ⟨a', ι2, μ2, x2, m2, r2, q2⟩ => ?_
  obtain ⟨b, rfl⟩ := hv _ _ _ _ e
  cases r
  cases a' with
  | bl b' =>
    cases r2
    exact ⟨b, rfl, q2.here m2 rfl⟩
  | non => cases r2
  | int _ => cases r2
  | str _ => cases r2
  | tup _ => obtain ⟨_, _, z, _⟩ := r2; cases z
  | loc _ => obtain ⟨_, _, z⟩ := r2; cases z
theorem st_cmp (C : CtxE L n c xb W X) {a b : Expr} {ia ib : IE} {o : CmpOp} {pos : Pos} (hs : nset b = true) (ha : SE L n xb W X a ia) (hb : SE L n xb W X b ib) : ST L n xb W X (.Compare a [o] [b] pos) (.val (.cmp (cmI o) ia ib)) := by
  have r := op_cmp (X := X) (g := L.g) C.gK C.unit (cmI o)
  rw [cmI_ok] at r
  exact st_bl (fun _ _ _ _ => cmp_bl) ((pt_cmpR r ha hb (mark_ok hs)).imp fun σ H Q h => se_bin2 (cmpV_noex _) h)
theorem se_chain {a b d : IE} {o o2 : Cm} {σ : L2.St} {H : Hp} {Q : VK} (h : tE L.g xb W L.T.P (L.D n) (.chain o o2 a b d) σ H Q) :
    tChain (rB L.g (cmpV o)) (rB L.g (cmpV o2)) (tE L.g xb W L.T.P (L.D n) a) (tE L.g xb W L.T.P (L.D n) b) (tE L.g xb W L.T.P (L.D n) d) σ H Q := by
  refine tI_mono (tI_bind (R := RVf L.g) (S := RVf L.g) (f := fun ρ x μ => (evE L.T.P (L.D n) xb.v b ρ μ).bind fun y μ => (cmpV o x y μ).bind fun k μ => match k with
    | .bl true => (evE L.T.P (L.D n) xb.v d ρ μ).bind fun z μ => cmpV o2 y z μ
    | .bl false => .ok (.bl false) μ
    | _ => .bad) h) fun x H1 ⟨px, ι1, ρ, μ1, re, rm, rx, h1⟩ => ?_
  refine ⟨ι1, ρ, μ1, re, rm, h1.bind.imp fun py μ2 y H2 ι2 e x2 m2 ry ⟨py', ι3, μ3, x3, m3, ry', h2⟩ => ?_⟩
  refine ⟨σ, ι3, μ3, px, py', m3, rx.mono rm x3, ry', cmpV_noex _ _ _ _, (Fin.noex (σ := σ) (W := W) (h2.bind (R := RVf L.g)) (cmpV_noex _ _ _ _)).imp fun k μ4 z H4 ι4 e4 x4 m4 rz ⟨k', ι5, μ5, x5, m5, rz', h5⟩ => ?_⟩
  obtain ⟨b1, rfl⟩ := cmpV_bl e4
  cases rz
  refine ⟨b1, rfl, ?_⟩
  have e5 : k' = .bl b1 := by
    cases k' with
    | bl b' => cases rz'; rfl
    | non => cases rz'
    | int _ => cases rz'
    | str _ => cases rz'
    | tup _ => obtain ⟨_, _, z, _⟩ := rz'; cases z
    | loc _ => obtain ⟨_, _, z⟩ := rz'; cases z
  subst e5
  cases b1 with
  | false => exact h5.here m5 rfl
  | true =>
    refine ⟨ι5, ρ, μ5, (re.mono rm x3).mono m3 x5, m5, h5.bind.imp fun pz μ6 z H6 ι6 e6 x6 m6 rz6 ⟨pz', ι7, μ7, x7, m7, rz7, h7⟩ => ?_⟩
    exact ⟨σ, ι7, μ7, py', pz', m7, (ry'.mono m3 x5).mono m5 x7, rz7, cmpV_noex _ _ _ _, h7.noex (cmpV_noex _ _ _ _)⟩
theorem last2 {op op' : CmpOp} {b d : Expr} (h2 : nset d = true) : lastMarks [op, op'] [b, d] = false := by
  show behindInMarks op' d = false
  exact mark_ok h2
theorem s_chain (C : CtxE L n c xb W X) {a b d : Expr} {ia ib id : IE} {o o2 : CmpOp} {pos : Pos} (hs : nset d = true) (ha : SE L n xb W X a ia) (hb : SE L n xb W X b ib) (hd : SE L n xb W X d id) :
    SE L n xb W X (.Compare a [o, o2] [b, d] pos) (.chain (cmI o) (cmI o2) ia ib id) := by
  have r := op_cmp (X := X) (g := L.g) C.gK C.unit (cmI o)
  have r2 := op_cmp (X := X) (g := L.g) C.gK C.unit (cmI o2)
  rw [cmI_ok] at r r2
  exact (pe_chain r r2 ha hb hd (last2 hs)).imp fun σ H Q h => se_chain h
theorem st_chain (C : CtxE L n c xb W X) {a b d : Expr} {ia ib id : IE} {o o2 : CmpOp} {pos : Pos} (hs : nset d = true) (ha : SE L n xb W X a ia) (hb : SE L n xb W X b ib) (hd : SE L n xb W X d id) :
    ST L n xb W X (.Compare a [o, o2] [b, d] pos) (.val (.chain (cmI o) (cmI o2) ia ib id)) := by
  have r := op_cmp (X := X) (g := L.g) C.gK C.unit (cmI o)
  have r2 := op_cmp (X := X) (g := L.g) C.gK C.unit (cmI o2)
  rw [cmI_ok] at r r2
  exact st_bl (fun _ _ _ _ => chain_bl) ((pt_chain r r2 ha hb hd (last2 hs)).imp fun σ H Q h => se_chain h)
theorem tru_of {H : Hp} {ι : List Addr} {μ : Store} {p : PV} {v : V} {b : Bool} (rm : RM L.g H ι μ) (r : RV L.g H ι p v) (h : BW.truthy μ p = some b) : TruV L.K v H b := by
  cases p with
  | non => cases r; cases h; rfl
  | bl _ => cases r; cases h; rfl
  | int _ => cases r; cases h; rfl
  | str s =>
    cases r
    have h : (if s.length ≤ sizeLine then some (s.length != 0) else none) = some b := h
    split at h
    · rename_i z
      cases h
      refine ⟨z, ?_⟩
      cases q : s.length with
      | zero => rfl
      | succ k => simp; omega
    · cases h
  | tup xs =>
    obtain ⟨a, vs, rfl, s1, t1⟩ := r
    cases h
    refine .inr (.inl ⟨vs, SqT.of s1, ?_⟩)
    have := t1.length
    cases xs <;> cases vs <;> simp at this ⊢
  | loc l =>
    have key : ∀ xs, listAt μ (.loc l) = some xs → (!xs.isEmpty) = b → TruV L.K v H b := by
      intro xs e h
      obtain ⟨a, vs, rfl, s1, t1⟩ := rm_list rm e r
      refine .inl ⟨vs, s1, ?_⟩
      have := t1.length
      rw [← h]
      cases xs <;> cases vs <;> simp at this ⊢
    have h : (match μ[l]? with | some (.lst xs) => some (!xs.isEmpty) | some (.frz xs) => some (!xs.isEmpty) | _ => none) = some b := h
    split at h
    · rename_i xs q
      exact key xs (by show (match μ[l]? with | some (.lst xs) => some xs | some (.frz xs) => some xs | _ => none) = some xs; rw [q]) (Option.some.inj h)
    · rename_i xs q
      exact key xs (by show (match μ[l]? with | some (.lst xs) => some xs | some (.frz xs) => some xs | _ => none) = some xs; rw [q]) (Option.some.inj h)
    · cases h
theorem ofO_at {α : Type} {g : G} {σ : L2.St} {H : Hp} {ι : List Addr} {μ : Store} {o : Option α} {Q : α → Hp → Prop} (rm : RM g H ι μ) (h : Fin g W σ RB H ι μ (Res.ofO o μ) Q) : ∃ a, o = some a ∧ Q a H := by
  cases o with
  | none => exact h.elim
  | some a => exact ⟨a, rfl, h.here rm rfl⟩
theorem st_truth (C : CtxE L n c xb W X) {e : Expr} {i : IE} (ht : tv e = true) (h : SE L n xb W X e i) : ST L n xb W X e (.val i) := by
  refine (pt_truth h (tv_ok ht)).imp fun σ H Q q => ?_
  refine tI_mono (tI_bind (R := RVf L.g) (S := RB) (f := fun _ x μ => Res.ofO (BW.truthy μ x) μ) q) fun x H1 ⟨px, ι1, ρ, μ1, re, rm, rx, h1⟩ => ?_
  obtain ⟨b, e1, q1⟩ := ofO_at rm h1
  exact ⟨b, by have := tru_of rm rx e1; rw [C.K] at this; exact this, q1⟩
theorem st_not {a : Expr} {ia : IT} {pos : Pos} (ha : ST L n xb W X a ia) : ST L n xb W X (.UnaryOp .Not a pos) (.not ia) :=
  (pt_not ha).imp fun σ H Q h => tI_mono (tI_bind (R := RB) (S := RB) (f := fun _ k μ => .ok (!k) μ) h) fun x H1 ⟨px, ι1, ρ, μ1, re, rm, rx, h1⟩ => by
    cases rx
    exact h1.here rm rfl
theorem st_one {a : Expr} {ia : IT} {op : BoolOp} {pos : Pos} (ha : ST L n xb W X a ia) : PW X (.BoolOp op [a] pos) (tT L.g xb W L.T.P (L.D n) ia) := by
  cases op with
  | And => exact pw_and1 ha
  | Or => exact pw_or1 ha
theorem st_and {a b : Expr} {r : List Expr} {ia ib : IT} {pos : Pos} (ha : ST L n xb W X a ia) (hb : PW X (.BoolOp .And (b :: r) pos) (tT L.g xb W L.T.P (L.D n) ib)) : PW X (.BoolOp .And (a :: b :: r) pos) (tT L.g xb W L.T.P (L.D n) (.and ia ib)) :=
  (pw_and ha hb).imp fun σ H Q h => tI_mono (tI_bind (R := RB) (S := RB) (f := fun ρ k μ => if k = true then evT L.T.P (L.D n) xb.v ib ρ μ else .ok false μ) h) fun x H1 ⟨px, ι1, ρ, μ1, re, rm, rx, h1⟩ => by
    cases rx
    cases x with
    | true => exact ⟨ι1, ρ, μ1, re, rm, h1⟩
    | false => exact h1.here rm rfl
theorem st_or {a b : Expr} {r : List Expr} {ia ib : IT} {pos : Pos} (ha : ST L n xb W X a ia) (hb : PW X (.BoolOp .Or (b :: r) pos) (tT L.g xb W L.T.P (L.D n) ib)) : PW X (.BoolOp .Or (a :: b :: r) pos) (tT L.g xb W L.T.P (L.D n) (.or ia ib)) :=
  (pw_or ha hb).imp fun σ H Q h => tI_mono (tI_bind (R := RB) (S := RB) (f := fun ρ k μ => if k = true then .ok true μ else evT L.T.P (L.D n) xb.v ib ρ μ) h) fun x H1 ⟨px, ι1, ρ, μ1, re, rm, rx, h1⟩ => by
    cases rx
    cases x with
    | true => exact h1.here rm rfl
    | false => exact ⟨ι1, ρ, μ1, re, rm, h1⟩
/-! ### and, or, a conditional -/
theorem s_and {a b : Expr} {r : List Expr} {ia ib : IE} {pos : Pos} (ha : SE L n xb W X a ia) (hb : SE L n xb W X (.BoolOp .And (b :: r) pos) ib) : SE L n xb W X (.BoolOp .And (a :: b :: r) pos) (.and ia ib) :=
  (pe_and ha hb).imp fun σ H Q h => tI_mono (tI_bind (R := RVf L.g) (S := RVf L.g) (f := fun ρ x μ => match x with | .bl true => evE L.T.P (L.D n) xb.v ib ρ μ | .bl false => .ok (.bl false) μ | _ => .bad) h) fun x H1 ⟨px, ι1, ρ, μ1, re, rm, rx, h1⟩ => by
    cases px with
    | bl k =>
      cases rx
      refine ⟨k, rfl, ?_⟩
      cases k with
      | true => exact ⟨ι1, ρ, μ1, re, rm, h1⟩
      | false => exact h1.here rm rfl
    | _ => exact h1.elim
theorem s_or {a b : Expr} {r : List Expr} {ia ib : IE} {pos : Pos} (ha : SE L n xb W X a ia) (hb : SE L n xb W X (.BoolOp .Or (b :: r) pos) ib) : SE L n xb W X (.BoolOp .Or (a :: b :: r) pos) (.or ia ib) :=
  (pe_or ha hb).imp fun σ H Q h => tI_mono (tI_bind (R := RVf L.g) (S := RVf L.g) (f := fun ρ x μ => match x with | .bl true => .ok (.bl true) μ | .bl false => evE L.T.P (L.D n) xb.v ib ρ μ | _ => .bad) h) fun x H1 ⟨px, ι1, ρ, μ1, re, rm, rx, h1⟩ => by
    cases px with
    | bl k =>
      cases rx
      refine ⟨k, rfl, ?_⟩
      cases k with
      | true => exact h1.here rm rfl
      | false => exact ⟨ι1, ρ, μ1, re, rm, h1⟩
    | _ => exact h1.elim
theorem s_ite {t a b : Expr} {it : IT} {ia ib : IE} {pos : Pos} (ht : ST L n xb W X t it) (ha : SE L n xb W X a ia) (hb : SE L n xb W X b ib) : SE L n xb W X (.IfExp t a b pos) (.ite it ia ib) :=
  (pe_ifExp ht ha hb).imp fun σ H Q h => tI_mono (tI_bind (R := RB) (S := RVf L.g) (f := fun ρ k μ => if k = true then evE L.T.P (L.D n) xb.v ia ρ μ else evE L.T.P (L.D n) xb.v ib ρ μ) h) fun x H1 ⟨px, ι1, ρ, μ1, re, rm, rx, h1⟩ => by
    cases rx
    cases x with
    | true => exact ⟨ι1, ρ, μ1, re, rm, h1⟩
    | false => exact ⟨ι1, ρ, μ1, re, rm, h1⟩
/-! ### argument lists, displays -/
theorem sa_nil : SA L n xb W X [] [] := pa_nil.imp fun σ H Q ⟨ι, ρ, μ, re, rm, q⟩ => (show Fin L.g W σ (RVsf L.g) H ι μ (.ok [] μ) Q from q).here rm rfl
theorem sa_cons {e : Expr} {es : List Expr} {i : IE} {is : List IE} (hn : nst e = true) (he : SE L n xb W X e i) (hs : SA L n xb W X es is) : SA L n xb W X (e :: es) (i :: is) :=
  (pa_cons he hs (star_cons hn es _)).imp fun σ H Q h => tI_mono (tI_bind (R := RVf L.g) (S := RVsf L.g) (f := fun ρ x μ => (evEs L.T.P (L.D n) xb.v is ρ μ).bind fun xs μ => .ok (x :: xs) μ) h) fun x H1 ⟨px, ι1, ρ, μ1, re, rm, rx, h1⟩ =>
    ⟨ι1, ρ, μ1, re, rm, h1.bind.imp fun ps μ2 vs H2 ι2 e2 x2 m2 r2 ⟨ps', ι3, μ3, x3, m3, r3, h3⟩ => h3.here m3 ⟨x, vs, rfl, rx.mono rm x3, r3⟩⟩
theorem s_tup {es : List Expr} {is : List IE} {k : Nat} {pos : Pos} (h : SA L n xb W X es is) : SE L n xb W X (.Tuple es k pos) (.tup is) :=
  (pe_tup h).imp fun σ H Q h => tI_mono (tI_bind (R := RVsf L.g) (S := RVf L.g) (f := fun _ xs μ => if xs.length ≤ sizeLine then .ok (.tup xs) μ else .bad) h) fun x H1 ⟨px, ι1, ρ, μ1, re, rm, rx, h1⟩ => by
    split at h1
    · rename_i c
      exact ⟨by rw [← rx.length]; exact c, fun p hp => fin_tup rm hp rx h1⟩
    · exact h1.elim
theorem s_lst {es : List Expr} {is : List IE} {pos : Pos} (h : SA L n xb W X es is) : SE L n xb W X (.List es pos) (.lst is) :=
  (pe_lst h).imp fun σ H Q h => tI_mono (tI_bind (R := RVsf L.g) (S := RVf L.g) (f := fun _ xs μ => if xs.length ≤ sizeLine then .ok (.loc μ.length) (μ ++ [Cell.lst xs]) else .bad) h) fun x H1 ⟨px, ι1, ρ, μ1, re, rm, rx, h1⟩ => by
    split at h1
    · rename_i c
      exact ⟨by rw [← rx.length]; exact c, fun p hp => fin_list rm hp rx rfl h1⟩
    · exact h1.elim
theorem s_dic {pos : Pos} : SE L n xb W X (.Dict [] [] pos) .dic :=
  pe_dnewT.imp fun σ H Q ⟨ι, ρ, μ, re, rm, q⟩ p hp => by
    have q : Fin L.g W σ (RVf L.g) H ι μ (.ok (.loc μ.length) (μ ++ [.dic []])) Q := q
    exact q _ _ (ι ++ [p]) (Ext.push rm hp) (RM.push rm hp ⟨[], upd_same, rfl⟩) ⟨p, by rw [← rm.len]; simp, rfl⟩
/-! ### subscripts, slices, fields -/
theorem s_idx (C : CtxE L n c xb W X) {a i : Expr} {ia ii : IE} {pos : Pos} (hs : nsl i = true) (ha : SE L n xb W X a ia) (hi : SE L n xb W X i ii) : SE L n xb W X (.Subscript a i pos) (.idx ia ii) :=
  (pe_ix (ix_any (g := L.g) C.gK C.unit) ha hi (nsl_ok hs)).imp fun σ H Q h => se_bin2 idxV_noex h
theorem fin_part {g : G} {σ : L2.St} {H : Hp} {ι : List Addr} {μ : Store} {x l : PV} {Q : VK} {hi : Option PV} (h : Fin g W σ (RVf g) H ι μ (slcV x (some l) hi μ) Q) : ∃ i, l = .int i := by
  cases l with
  | int i => exact ⟨i, rfl⟩
  | _ => exact h.elim
theorem fin_part2 {g : G} {σ : L2.St} {H : Hp} {ι : List Addr} {μ : Store} {x l : PV} {Q : VK} {lo : Option PV} (h : Fin g W σ (RVf g) H ι μ (slcV x lo (some l) μ) Q) : ∃ i, l = .int i := by
  cases l with
  | int i => exact ⟨i, rfl⟩
  | _ =>
    unfold slcV at h
    split at h
    · rename_i z; cases z
    · exact h.elim
theorem s_slc0 (C : CtxE L n c xb W X) {a : Expr} {ia : IE} {pos p2 : Pos} (ha : SE L n xb W X a ia) : SE L n xb W X (.Subscript a (.Slice none none none p2) pos) (.slc ia none none) :=
  (pe_slice (sl_any (g := L.g) C.gK) ha po_none po_none).imp fun σ H Q h => tI_mono (tI_bind (R := RVf L.g) (S := RVf L.g) (f := fun _ x μ => slcV x none none μ) h) fun x H1 ⟨px, ι1, ρ, μ1, re, rm, rx, h1⟩ =>
    ⟨σ, ι1, μ1, px, rm, rx, h1.noex (slcV_noex _ _ _ _)⟩
theorem s_slc1 (C : CtxE L n c xb W X) {a l : Expr} {ia il : IE} {pos p2 : Pos} (ha : SE L n xb W X a ia) (hl : SE L n xb W X l il) : SE L n xb W X (.Subscript a (.Slice (some l) none none p2) pos) (.slc ia (some il) none) :=
  (pe_slice (sl_any (g := L.g) C.gK) ha (po_some hl) po_none).imp fun σ H Q h => tI_mono (tI_bind (R := RVf L.g) (S := RVf L.g) (f := fun ρ x μ => (evE L.T.P (L.D n) xb.v il ρ μ).bind fun l μ => slcV x (some l) none μ) h) fun x H1 ⟨px, ι1, ρ, μ1, re, rm, rx, h1⟩ =>
    ⟨ι1, ρ, μ1, re, rm, h1.bind.imp fun pl μ2 vl H2 ι2 e2 x2 m2 r2 ⟨pl', ι3, μ3, x3, m3, r3, h3⟩ => by
      obtain ⟨i, rfl⟩ := fin_part h3
      cases r3
      exact ⟨i, rfl, σ, ι3, μ3, px, m3, rx.mono rm x3, h3.noex (slcV_noex _ _ _ _)⟩⟩
theorem s_slc2 (C : CtxE L n c xb W X) {a l : Expr} {ia il : IE} {pos p2 : Pos} (ha : SE L n xb W X a ia) (hl : SE L n xb W X l il) : SE L n xb W X (.Subscript a (.Slice none (some l) none p2) pos) (.slc ia none (some il)) :=
  (pe_slice (sl_any (g := L.g) C.gK) ha po_none (po_some hl)).imp fun σ H Q h => tI_mono (tI_bind (R := RVf L.g) (S := RVf L.g) (f := fun ρ x μ => (evE L.T.P (L.D n) xb.v il ρ μ).bind fun l μ => slcV x none (some l) μ) h) fun x H1 ⟨px, ι1, ρ, μ1, re, rm, rx, h1⟩ =>
    ⟨ι1, ρ, μ1, re, rm, h1.bind.imp fun pl μ2 vl H2 ι2 e2 x2 m2 r2 ⟨pl', ι3, μ3, x3, m3, r3, h3⟩ => by
      obtain ⟨i, rfl⟩ := fin_part2 h3
      cases r3
      exact ⟨i, rfl, σ, ι3, μ3, px, m3, rx.mono rm x3, h3.noex (slcV_noex _ _ _ _)⟩⟩
theorem s_slc3 (C : CtxE L n c xb W X) {a l u : Expr} {ia il iu : IE} {pos p2 : Pos} (ha : SE L n xb W X a ia) (hl : SE L n xb W X l il) (hu : SE L n xb W X u iu) : SE L n xb W X (.Subscript a (.Slice (some l) (some u) none p2) pos) (.slc ia (some il) (some iu)) :=
  (pe_slice (sl_any (g := L.g) C.gK) ha (po_some hl) (po_some hu)).imp fun σ H Q h => tI_mono (tI_bind (R := RVf L.g) (S := RVf L.g) (f := fun ρ x μ => (evE L.T.P (L.D n) xb.v il ρ μ).bind fun l μ => if isInt l = true then (evE L.T.P (L.D n) xb.v iu ρ μ).bind fun h μ => slcV x (some l) (some h) μ else .bad) h) fun x H1 ⟨px, ι1, ρ, μ1, re, rm, rx, h1⟩ => by
    refine ⟨ι1, ρ, μ1, re, rm, ?_⟩
    refine (Fin.bind (R := RVf L.g) h1).imp fun pl μ2 vl H2 ι2 e2 x2 m2 r2 ⟨pl', ι3, μ3, x3, m3, r3, h3⟩ => ?_
    split at h3
    · cases pl' with
      | int i =>
        cases r3
        refine ⟨i, rfl, ι3, ρ, μ3, re.mono rm x3, m3, (Fin.bind (R := RVf L.g) h3).imp fun pu μ4 vu H4 ι4 e4 x4 m4 r4 ⟨pu', ι5, μ5, x5, m5, r5, h5⟩ => ?_⟩
        obtain ⟨j, rfl⟩ := fin_part2 h5
        cases r5
        exact ⟨j, rfl, σ, ι5, μ5, px, m5, (rx.mono rm x3).mono m3 x5, h5.noex (slcV_noex _ _ _ _)⟩
      | _ => rename_i z; cases z
    · exact h3.elim
theorem s_fld (C : CtxE L n c xb W X) {a : Expr} {ia : IE} {f : Str} {k : Nat} {pos : Pos} (hb : bas a = true) (hk : idx? f L.T.flds = some k) (ha : SE L n xb W X a ia) : SE L n xb W X (.Attribute a f pos) (.fld ia k) :=
  (pe_fld ha (bas_ok hb)).imp fun σ H Q h => tI_mono (tI_bind (R := RVf L.g) (S := RVf L.g) (f := fun _ x μ => fldV x k μ) h) fun x H1 ⟨px, ι1, ρ, μ1, re, rm, rx, h1⟩ => by
    cases px with
    | loc m =>
      obtain ⟨a1, i1, rfl⟩ := rx
      have h1 : Fin L.g W σ (RVf L.g) H1 ι1 μ1 (match μ1[m]? with | some (.ins _ fs) => Res.ofO (look k fs) μ1 | _ => .bad) Q := h1
      split at h1
      · rename_i cl fs e
        cases e2 : look k fs with
        | none => rw [e2] at h1; exact h1.elim
        | some p =>
          rw [e2] at h1
          obtain ⟨a2, dx, fvs, i2, q1, rf, ic⟩ := rm_ins rm e
          rw [i1] at i2; cases i2
          obtain ⟨v, l1, rv⟩ := rf.look (fnm_inj C.lok.fl) e2
          have hf : fnmOf L.T.flds k = f := by unfold fnmOf; rw [idx?_ok hk]
          have io := C.lok.ins _ ic
          refine ⟨a1, L.ca cl, dx, fvs, v, rfl, q1, by rw [← C.K]; exact io.cls, by rw [← C.K]; exact io.no f (List.mem_of_getElem? (idx?_ok hk)), ?_, h1.here rm rv⟩
          rw [← hf]; exact l1
      · exact h1.elim
    | _ => exact h1.elim
end
end BW
set_option maxHeartbeats 4000000
/-! The translation is sound: calls. -/
namespace BW
open PySem PySem.Spec PyProof.Rows L2
theorem bind_assoc' {α β γ : Type} (r : Res α) (f : α → Store → Res β) (k : β → Store → Res γ) : (r.bind f).bind k = r.bind fun a μ => (f a μ).bind k := by
  cases r <;> rfl
theorem evEs_cons' {P : Prog} {D : Den} {xv : Option PX} (e : IE) (es : List IE) (ρ : BW.Env) (μ : Store) : evEs P D xv (e :: es) ρ μ = (evE P D xv e ρ μ).bind fun x μ => (evEs P D xv es ρ μ).bind fun xs μ => .ok (x :: xs) μ := by
  rw [evEs]
theorem evEs_nil' {P : Prog} {D : Den} {xv : Option PX} (ρ : BW.Env) (μ : Store) : evEs P D xv [] ρ μ = .ok [] μ := by
  rw [evEs]
theorem evEs_con {P : Prog} {D : Den} {xv : Option PX} {ρ : BW.Env} : ∀ (pvs : List PV) (μ : Store), evEs P D xv (pvs.map .con) ρ μ = .ok pvs μ
  | [], μ => evEs_nil' ρ μ
  | p :: ps, μ => by
    rw [List.map_cons, evEs_cons', show evE P D xv (.con p) ρ μ = .ok p μ by rw [evE]]
    show (evEs P D xv (ps.map .con) ρ μ).bind _ = _
    rw [evEs_con ps μ]
    rfl
theorem evEs_app {P : Prog} {D : Den} {xv : Option PX} {ρ : BW.Env} : ∀ (is : List IE) (pvs : List PV) (μ : Store), evEs P D xv (is ++ pvs.map .con) ρ μ = (evEs P D xv is ρ μ).bind fun xs μ => .ok (xs ++ pvs) μ
  | [], pvs, μ => by
    rw [evEs_nil']
    exact evEs_con pvs μ
  | i :: is, pvs, μ => by
    rw [List.cons_append, evEs_cons', evEs_cons', bind_assoc']
    congr 1
    funext x μ1
    rw [evEs_app is pvs μ1, bind_assoc', bind_assoc']
    rfl
theorem den_np {P : Prog} {n i : Nat} {ps : List PV} {μ : Store} (h : den P n i ps μ ≠ .bad) : ∃ F, (P.fn ++ P.nf)[i]? = some F ∧ ps.length = F.np := by
  cases n with
  | zero => exact absurd (by rw [den]) h
  | succ n =>
    rw [den] at h
    split at h
    · rename_i F e
      split at h
      · rename_i hl; exact ⟨F, e, hl⟩
      · exact absurd rfl h
    · exact absurd rfl h
theorem Fin.nobad {g : G} {W : WX} {σ : L2.St} {α β : Type} {R : Hp → List Addr → α → β → Prop} {H : Hp} {ι : List Addr} {μ : Store} {r : Res α} {Q : β → Hp → Prop} (h : Fin g W σ R H ι μ r Q) : r ≠ .bad := by
  rintro rfl
  exact h
theorem tI_congr {g : G} {xb : XB} {W : WX} {α β : Type} {R : Hp → List Addr → α → β → Prop} {r r' : BW.Env → Store → Res α} {σ : L2.St} {H : Hp} {Q : β → Hp → Prop} (e : ∀ ρ μ, r ρ μ = r' ρ μ) (h : tI g xb W R r σ H Q) : tI g xb W R r' σ H Q := by
  have : r = r' := funext fun ρ => funext fun μ => e ρ μ
  rw [← this]; exact h
section
variable {L : Lk} {n : Nat} {c : TC} {xb : XB} {W : WX} {X : Cx}
theorem spI_of {σ : L2.St} {H : Hp} {ι : List Addr} {μ : Store} {ps : List PV} {vs : List V} {Q : VK} {i : Nat} (rm : RM L.g H ι μ) (r : RVs L.g H ι ps vs) (q : Fin L.g W σ (RVf L.g) H ι μ (L.D n i ps μ) Q) : spI L n i vs H Q (WE W σ) := by
  obtain ⟨F, hF, hl⟩ := den_np q.nobad
  exact ⟨F, hF, by rw [← r.length]; exact hl, σ, ι, μ, ps, rm, r, q⟩
/-! ### f(..) -/
theorem s_call (C : CtxE L n c xb W X) (hot : c.hot = false) {x : Str} {i : Nat} {e : Expr} {es : List Expr} {is d : List IE} {p pos : Pos} (hx : globOf L.T c x = some (.fn i)) (hn : ∀ a ∈ e :: es, nst a = true) (ha : SA L n xb W X (e :: es) is) (hf : fill L.T i is.length = some d) :
    SE L n xb W X (.Call (.Name x p) (e :: es) [] pos) (.call i (is ++ d)) := by
  obtain ⟨hg, ent, hd⟩ := C.gl hx
  cases ent with
  | fn _ hm hi =>
    obtain ⟨F, hF⟩ := Option.isSome_iff_exists.mp hi
    obtain ⟨dvs, ds, hv, hb, pvs, rfl, rv⟩ := C.lok.bind i F _ _ hF hf
    have tk := C.takes hot
    refine (pe_callSD (E := WE W) (C.fns i F hF) ((C.room hot).mono (by omega)) hg hm (by rw [← C.K]; exact C.lok.keep i F hF) (by rw [← C.K]; exact hb) hv (fun σ => passAt tk σ) ha hd (star_cons (hn e List.mem_cons_self) es _) (star_any fun a h => hn a (List.mem_cons_of_mem _ h))).imp fun σ H Q h => ?_
    have h := tI_congr (r' := fun ρ μ => (evEs L.T.P (L.D n) xb.v is ρ μ).bind fun xs μ => L.D n i (xs ++ pvs) μ) (fun ρ μ => by rw [evE, evEs_app, bind_assoc']; rfl) h
    exact tI_mono (tI_bind (R := RVsf L.g) (S := RVf L.g) (f := fun _ xs μ => L.D n i (xs ++ pvs) μ) h) fun vs H1 ⟨ps, ι1, ρ, μ1, re, rm, rx, h1⟩ => spI_of rm (rx.append (rv _ _)) h1
theorem pe_callSD0 {CX : CXT} {k : Nat} {f : Addr} {fd : FuncData} {ps : List Str} {sp : Sp} {dvs : List V} {ds : List Value} {E : L2.St → XK} {x : Str} {p pos : Pos} (F : FnOk X.prog X.w X.K X.mg X.base CX k f fd ps sp) (hr : Room k X.A) (hg : Gl X x) (hm : X.mg x = some (.ref f)) (hk : PySem.W.keepIn X.K (.ref f) = true) (hb : Binds X.K fd ps ds) (hd : Vals dvs ds) (hx : ∀ σ, PassesAt CX X σ (E σ))
    (hdb : (x == ("__debug__" : Str)) = false) : PE X (.Call (.Name x p) [] [] pos) (tCallSD sp dvs E tNil) := by
  refine ⟨fun pins s σ H Q I h => ?_⟩
  refine wpAny_Call_Name_kw (ld_glob I hg hm ?_ hdb)
  exact PySem.W.callWith_K0 I.kIn hk (run_fnSD (us := []) F hr hb hd (hx σ) I .nil h)
theorem s_call0 (C : CtxE L n c xb W X) (hot : c.hot = false) {x : Str} {i : Nat} {d : List IE} {p pos : Pos} (hx : globOf L.T c x = some (.fn i)) (hf : fill L.T i 0 = some d) :
    SE L n xb W X (.Call (.Name x p) [] [] pos) (.call i d) := by
  obtain ⟨hg, ent, hd⟩ := C.gl hx
  cases ent with
  | fn _ hm hi =>
    obtain ⟨F, hF⟩ := Option.isSome_iff_exists.mp hi
    obtain ⟨dvs, ds, hv, hb, pvs, rfl, rv⟩ := C.lok.bind i F _ _ hF hf
    have tk := C.takes hot
    refine (pe_callSD0 (E := WE W) (C.fns i F hF) ((C.room hot).mono (by omega)) hg hm (by rw [← C.K]; exact C.lok.keep i F hF) (by rw [← C.K]; exact hb) hv (fun σ => passAt tk σ) hd).imp fun σ H Q ⟨ι, ρ, μ, re, rm, q⟩ => ?_
    have e : evE L.T.P (L.D n) xb.v (.call i (pvs.map .con)) ρ μ = L.D n i pvs μ := by
      have := evEs_app (P := L.T.P) (D := L.D n) (xv := xb.v) (is := []) (pvs := pvs) (ρ := ρ) (μ := μ)
      rw [evE]
      rw [show ([] : List IE) ++ pvs.map .con = pvs.map .con from rfl] at this
      rw [this, evEs]
      rfl
    have q : Fin L.g W σ (RVf L.g) H ι μ (evE L.T.P (L.D n) xb.v (.call i (pvs.map .con)) ρ μ) Q := q
    rw [e] at q
    exact spI_of (ps := pvs) rm (rv H ι) q
/-! ### C(..) -/
def tMakeS (C : Addr) (sp : Sp) (dvs : List V) (E : L2.St → XK) (t : TA) : TE := fun σ H Q => t σ H fun vs H1 => ∀ x dx, H1 x = none → H1 dx = none → dx ≠ x →
  sp (.ref x :: (vs ++ dvs)) (upd (upd H1 dx (.own x)) x (.ins C dx [])) (fun v H2 => v = .non ∧ Q (.ref x) H2) (E σ)
theorem run_makeS {CX : CXT} {k : Nat} {f C : Addr} {fd : FuncData} {ps : List Str} {sp : Sp} {dvs : List V} {ds : List Value} {E : L2.St → XK} {σ : L2.St} {pins : List (Addr × Obj)} {H : Hp} {s : Shared} {Q : VK} {us : List Value} {vs : List V} (M : Mk X.K C f) (F : FnOk X.prog X.w X.K X.mg X.base CX k f fd ps sp) (hr : Room (k + 1) X.A) (hb : Binds X.K fd ps ds) (hd : Vals dvs ds)
    (hx : PassesAt CX X σ (E σ)) (I : Inv X pins σ H s) (r : Vals vs us)
    (h : ∀ x dx, H x = none → H dx = none → dx ≠ x → sp (.ref x :: (vs ++ dvs)) (upd (upd H dx (.own x)) x (.ins C dx [])) (fun v H2 => v = .non ∧ Q (.ref x) H2) (E σ)) :
    wpAny (model X.prog X.w) X.A (call (.ref C) us) (EP X pins σ Q) X.xe s := by
  have hq := h (s.heap.objs.size + 1) s.heap.objs.size (I.hok.fresh (Nat.le_succ _)) (I.hok.fresh (Nat.le_refl _)) (Nat.ne_of_lt (Nat.lt_succ_self _))
  have I2 := Inv.made (C := C) I
  have r2 : Vals (V.ref (s.heap.objs.size + 1) :: (vs ++ dvs)) (Value.ref (s.heap.objs.size + 1) :: (us ++ ds)) := .cons rfl (r.append hd)
  have hl : (Value.ref (s.heap.objs.size + 1) :: us ++ ds).length = ps.length := by
    have e := r2.length
    rw [F.len _ _ _ _ hq] at e
    exact e.symm
  refine wpAny_call (make_map (f := f) I.kIn M.makes M.init (beq_iff_eq.mp M.fn) (codeAny_mono (F.run _ X.stack _ _ ⟨Value.ref (s.heap.objs.size + 1) :: us, []⟩ (Value.ref (s.heap.objs.size + 1) :: (us ++ ds)) _ _ (E σ) (hr.make C us [])
    (I2.env0.make C us []) (hb _ (Value.ref (s.heap.objs.size + 1) :: us) I2.kIn hl) r2 hq) fun r s' hq' => ?_))
  cases r with
  | error e => exact hx pins _ _ e s' I2 hq'
  | ok fl =>
    cases fl with
    | ret u =>
      obtain ⟨v, H', I3, rv, ev, q3⟩ := I2.after hq'
      subst ev
      exact ⟨rv, ⟨V.ref (s.heap.objs.size + 1), H', I3, rfl, q3⟩⟩
    | next => exact False.elim hq'
    | brk => exact False.elim hq'
    | cont => exact False.elim hq'
theorem pe_makeS {CX : CXT} {k : Nat} {f C : Addr} {fd : FuncData} {ps : List Str} {sp : Sp} {dvs : List V} {ds : List Value} {E : L2.St → XK} {x : Str} {p pos : Pos} {e : Expr} {es : List Expr} {t : TA} (M : Mk X.K C f) (F : FnOk X.prog X.w X.K X.mg X.base CX k f fd ps sp) (hr : Room (k + 1) X.A) (hg : Gl X x) (hm : X.mg x = some (.ref C)) (hb : Binds X.K fd ps ds) (hd : Vals dvs ds) (hx : ∀ σ, PassesAt CX X σ (E σ))
    (ha : PA X (e :: es) t) (hdb : (x == ("__debug__" : Str)) = false) (he : starEach (e :: es) X.env = (false, eval e X.env) :: starEach es X.env) (hpl : (backTo pos (starEach es X.env)).any (·.1) = false) :
    PE X (.Call (.Name x p) (e :: es) [] pos) (tMakeS C sp dvs E t) := by
  refine ⟨fun pins s σ H Q I h => ?_⟩
  refine wpAny_Call_Name_kw (ld_glob I hg hm ?_ hdb)
  refine PySem.W.callWith_K (h₀ := X.base) I.ok.mod.kin M.kp (thn (ha.run pos pins s σ H _ I h) fun us s1 ⟨vs, H1, I1, r, q⟩ => ⟨I1.kIn, ?_⟩) he hpl
  exact run_makeS M F hr hb hd (hx σ) I1 r q
theorem make_own {g : G} {H : Hp} {ι : List Addr} {μ : Store} {k : Nat} {x dx : Addr} (rm : RM g H ι μ) (hx : H x = none) (hd : H dx = none) (ne : dx ≠ x) (ic : g.ic k) :
    Ext H ι μ (upd (upd H dx (.own x)) x (.ins (g.ca k) dx [])) (ι ++ [x]) (μ ++ [.ins k []]) ∧ RM g (upd (upd H dx (.own x)) x (.ins (g.ca k) dx [])) (ι ++ [x]) (μ ++ [.ins k []]) := by
  have r1 := RM.laid (o := .own x) rm hd
  have hx1 : (upd H dx (.own x)) x = none := by rw [upd_ne (Ne.symm ne)]; exact hx
  exact ⟨(Ext.laid (o := .own x) hd).trans (Ext.push r1 hx1), RM.push r1 hx1 ⟨dx, [], upd_same, rfl, ic⟩⟩
theorem s_make (C : CtxE L n c xb W X) (hot : c.hot = false) {x : Str} {k i : Nat} {Cc : Cl} {e : Expr} {es : List Expr} {is d : List IE} {p pos : Pos} (hx : globOf L.T c x = some (.cls k)) (hc : L.T.P.cl[k]? = some Cc) (hi : Cc.init = some i) (hn : ∀ a ∈ e :: es, nst a = true) (ha : SA L n xb W X (e :: es) is) (hf : fill L.T i (is.length + 1) = some d) :
    SE L n xb W X (.Call (.Name x p) (e :: es) [] pos) (.make k (is ++ d)) := by
  obtain ⟨hg, ent, hd⟩ := C.gl hx
  cases ent with
  | cls _ hm hi2 =>
    obtain ⟨M, hi3⟩ := C.lok.make k Cc i hc hi
    obtain ⟨F, hF⟩ := Option.isSome_iff_exists.mp hi3
    obtain ⟨dvs, ds, hv, hb, pvs, rfl, rv⟩ := C.lok.bind i F _ _ hF hf
    have tk := C.takes hot
    have ic : L.g.ic k := ⟨Cc, hc, by rw [hi]; rfl⟩
    have e1 : (L.T.P.cl[k]?.bind (·.init)) = some i := by rw [hc]; exact hi
    refine (pe_makeS (E := WE W) (by rw [← C.K]; exact M) (C.fns i F hF) ((C.room hot).mono (by omega)) hg hm (by rw [← C.K]; exact hb) hv (fun σ => passAt tk σ) ha hd (star_cons (hn e List.mem_cons_self) es _) (star_any fun a h => hn a (List.mem_cons_of_mem _ h))).imp fun σ H Q h => ?_
    have h := tI_congr (r' := fun ρ μ => (evEs L.T.P (L.D n) xb.v is ρ μ).bind fun xs μ => (L.D n i (.loc μ.length :: (xs ++ pvs)) (μ ++ [.ins k []])).bind fun v μ1 => match v with | .non => .ok (.loc μ.length) μ1 | _ => .bad)
      (fun ρ μ => by rw [evE, evEs_app, bind_assoc']; first | (simp only [e1, Res.bind_ok]; done) | (simp only [e1, Res.bind_ok]; rfl)) h
    refine tI_mono (tI_bind (R := RVsf L.g) (S := RVf L.g) (f := fun _ xs μ => (L.D n i (.loc μ.length :: (xs ++ pvs)) (μ ++ [.ins k []])).bind fun v μ1 => match v with | .non => .ok (.loc μ.length) μ1 | _ => .bad) h) fun vs H1 ⟨ps, ι1, ρ, μ1, re, rm, rx, h1⟩ => ?_
    intro a dx hx hdx ne
    obtain ⟨x2, m2⟩ := make_own rm hx hdx ne ic
    have la : (ι1 ++ [a])[μ1.length]? = some a := by rw [← rm.len]; simp
    have h2 := (Fin.bind (R := RVf L.g) (h1.ext x2)).imp (Q' := fun v H3 => v = .non ∧ Q (.ref a) H3) fun pv μ3 v H3 ι3 e3 x3 m3 rv3 ⟨pv', ι4, μ4, x4, m4, rv4, h4⟩ => by
      split at h4
      · cases rv4
        exact ⟨rfl, h4.here m4 ⟨a, get_pre x4.pre la, rfl⟩⟩
      · exact h4.elim
    exact spI_of m2 (show RVs L.g _ _ (.loc μ1.length :: (ps ++ pvs)) (.ref a :: (vs ++ dvs)) from ⟨.ref a, _, rfl, ⟨a, la, rfl⟩, (rx.mono rm x2).append (rv _ _)⟩) h2
/-! ### o.m(..) -/
theorem meth_tree {o : Expr} {m : Str} {as : List Expr} {apos pos : Pos} {env : PySem.Env} (hb : bas o = true) (hl : (apos.endLine == pos.line) = true) (hn : ∀ a ∈ as, nst a = true) (hlen : as.length < 29) :
    eval (.Call (.Attribute o m apos) as [] pos) env = (do
      let ov ← eval o env
      standAt apos.atName
      let (f, first) ← holding [ov] (getMethod ov m (do return (← importBound o env).getD true))
      callWith pos f first (backTo pos (starEach as env)) (backToKw pos (keywordEach [] env))) := by
  have few : methodCallForm (as.length + ([] : List Keyword).length) (backTo pos (starEach as env)) (backToKw pos (keywordEach [] env)) = true := by
    unfold methodCallForm
    have h1 := star_all (pos := pos) (env := env) hn
    have h2 : (backToKw pos (keywordEach [] env)).all (fun x => x.1.isSome) = true := rfl
    have h3 : decide (as.length + ([] : List Keyword).length + (if (backToKw pos (keywordEach [] env)).isEmpty then 0 else 1) < 30) = true := by
      have : (backToKw pos (keywordEach [] env)).isEmpty = true := rfl
      rw [this]
      simp
      omega
    rw [h1, h2, h3]
    rfl
  refine mcall_of (bas_ok hb) fun ov => ?_
  unfold methodCall
  rw [few]
  unfold methodCallPos calleeOf
  rw [hl]
  rfl
def tMethD (X : Cx) (CX : CXT) (k : Nat) (m : Str) (E : L2.St → XK) (ta : TE) (t : TA) : TE := fun σ H Q => ta σ H fun x H1 => ∃ (a C dx f : Addr) (fs : List (Str × V)) (fd : FuncData) (ps : List Str) (sp : Sp),
  x = .ref a ∧ H1 a = some (.ins C dx fs) ∧ fs.lookup m = none ∧ Cls X.K C ∧ Meth X.K C m f ∧ FnOk X.prog X.w X.K X.mg X.base CX k f fd ps sp ∧ Binds X.K fd ps [] ∧ t σ H1 fun vs H2 => sp (x :: vs) H2 Q (E σ)
theorem pe_methD {CX : CXT} {k : Nat} {E : L2.St → XK} {o : Expr} {m : Str} {as : List Expr} {apos pos : Pos} {ta : TE} {t : TA} (hb : bas o = true) (hl : (apos.endLine == pos.line) = true) (hn : ∀ a ∈ as, nst a = true) (hlen : as.length < 29) (hne : as ≠ [])
    (he : PE X o ta) (ha : PA X as t) (hr : Room k X.A) (hx : ∀ σ, PassesAt CX X σ (E σ)) : PE X (.Call (.Attribute o m apos) as [] pos) (tMethD X CX k m E ta t) := by
  refine ⟨fun pins s σ H Q I h => ?_⟩
  refine PySem.W.methodCall_KW (thn (he.run pins s σ H _ I h) fun u s1 ⟨x, H1, I1, rx, q⟩ => ?_) (meth_tree hb hl hn hlen)
  obtain ⟨a, C, dx, f, fs, fd, ps, sp, ex, ea, l, cC, hm, F, hbn, q⟩ := q
  subst ex
  obtain rfl : u = Value.ref a := rx
  refine getmeth_ok I1 ea cC hm l ?_
  cases as with
  | nil => exact absurd rfl hne
  | cons e es =>
    refine PySem.W.callWith_K (first := [.ref a]) (h₀ := X.base) I.ok.mod.kin hm.kp (thn (ha.run pos pins s1 σ H1 _ I1 q) fun us s2 ⟨vs, H2, I2, r, q2⟩ => ⟨I2.kIn, ?_⟩) (star_cons (hn e List.mem_cons_self) es _) (star_any fun a h => hn a (List.mem_cons_of_mem _ h))
    exact run_fnS (us := .ref a :: us) (vs := .ref a :: vs) F hr hbn (hx σ) I2 (.cons rfl r) q2
theorem pe_methD0 {CX : CXT} {k : Nat} {E : L2.St → XK} {o : Expr} {m : Str} {apos pos : Pos} {ta : TE} (hb : bas o = true) (hl : (apos.endLine == pos.line) = true)
    (he : PE X o ta) (hr : Room k X.A) (hx : ∀ σ, PassesAt CX X σ (E σ)) : PE X (.Call (.Attribute o m apos) [] [] pos) (tMethD X CX k m E ta tNil) := by
  refine ⟨fun pins s σ H Q I h => ?_⟩
  refine PySem.W.methodCall_KW (thn (he.run pins s σ H _ I h) fun u s1 ⟨x, H1, I1, rx, q⟩ => ?_) (meth_tree hb hl (fun a h => by cases h) (by simp))
  obtain ⟨a, C, dx, f, fs, fd, ps, sp, ex, ea, l, cC, hm, F, hbn, q⟩ := q
  subst ex
  obtain rfl : u = Value.ref a := rx
  refine getmeth_ok I1 ea cC hm l ?_
  exact PySem.W.callWith_K0 (first := [.ref a]) I1.kIn hm.kp (run_fnS (us := [.ref a]) (vs := [.ref a]) F hr hbn (hx σ) I1 (.cons rfl .nil) q)
theorem tEs_nil {σ : L2.St} {H : Hp} {Q : List V → Hp → Prop} (h : tEs L.g xb W L.T.P (L.D n) [] σ H Q) : Q [] H := by
  obtain ⟨ι, ρ, μ, re, rm, q⟩ := h
  rw [evEs_nil'] at q
  exact q.here rm rfl
theorem s_meth (C : CtxE L n c xb W X) (hot : c.hot = false) {o : Expr} {m : Str} {k : Nat} {as : List Expr} {io : IE} {is : List IE} {apos pos : Pos} (hk : idx? m L.T.mths = some k) (hb : bas o = true) (hl : (apos.endLine == pos.line) = true) (hn : ∀ a ∈ as, nst a = true) (hlen : as.length < 29) (hle : as.length = is.length)
    (ho : SE L n xb W X o io) (ha : SA L n xb W X as is) : SE L n xb W X (.Call (.Attribute o m apos) as [] pos) (.meth k io is) := by
  have tk := C.takes hot
  have base : PE X (.Call (.Attribute o m apos) as [] pos) (tMethD X (L2.CX X.prog X.w) (3 * n) m (WE W) (tE L.g xb W L.T.P (L.D n) io) (tEs L.g xb W L.T.P (L.D n) is)) := by
    cases as with
    | nil =>
      cases is with
      | nil =>
        refine (pe_methD0 (E := WE W) (k := 3 * n) hb hl ho ((C.room hot).mono (by omega)) (fun σ => passAt tk σ)).imp fun σ H Q h => tI_mono h fun v H1 ⟨a, C, dx, f, fs, fd, ps, sp, ex, ea, l, cC, hm, F, hbn, q⟩ => ⟨a, C, dx, f, fs, fd, ps, sp, ex, ea, l, cC, hm, F, hbn, tEs_nil q⟩
      | cons i is => cases hle
    | cons e es => exact pe_methD (E := WE W) (k := 3 * n) hb hl hn hlen (by simp) ho ha ((C.room hot).mono (by omega)) (fun σ => passAt tk σ)
  refine base.imp fun σ H Q h => ?_
  have h := tI_congr (r' := fun ρ μ => (evE L.T.P (L.D n) xb.v io ρ μ).bind fun x μ => match methOf L.T.P μ k x with
    | some f => (evEs L.T.P (L.D n) xb.v is ρ μ).bind fun xs μ => L.D n f (x :: xs) μ
    | none => .bad) (fun ρ μ => by first | (rw [evE]; done) | (rw [evE]; rfl)) h
  refine tI_mono (tI_bind (R := RVf L.g) (S := RVf L.g) (f := fun ρ x μ => match methOf L.T.P μ k x with
    | some f => (evEs L.T.P (L.D n) xb.v is ρ μ).bind fun xs μ => L.D n f (x :: xs) μ
    | none => .bad) h) fun x H1 ⟨px, ι1, ρ, μ1, re, rm, rx, h1⟩ => ?_
  split at h1
  · rename_i f e
    cases px with
    | loc j =>
      obtain ⟨a, ia, rfl⟩ := rx
      have e : ((match μ1[j]? with | some (.ins c _) => some (j, c) | _ => none).bind fun q => L.T.P.cl[q.2]?.bind fun C => look k C.meth) = some f := e
      cases e1 : μ1[j]? with
      | none => rw [e1] at e; cases e
      | some cell =>
        cases cell with
        | ins cc fs =>
          rw [e1] at e
          have e : (L.T.P.cl[cc]?.bind fun C => look k C.meth) = some f := e
          cases e2 : L.T.P.cl[cc]? with
          | none => rw [e2] at e; cases e
          | some Cc =>
            rw [e2] at e
            have e : look k Cc.meth = some f := e
            obtain ⟨a2, dx, fvs, i2, q1, rf, ic⟩ := rm_ins rm e1
            rw [ia] at i2; cases i2
            have hm := idx?_ok hk
            obtain ⟨hM, hfn⟩ := C.lok.meth cc Cc k f m ic e2 e hm
            obtain ⟨F, hF⟩ := Option.isSome_iff_exists.mp hfn
            have io := C.lok.ins _ ic
            refine ⟨a, L.ca cc, dx, L.fa f, fvs, L.fd f, L.ps f, spI L n f, rfl, q1, rf.none (fnm_inj C.lok.fl) (fnm_mth C.lok.fl (List.mem_of_getElem? hm)), by rw [← C.K]; exact io.cls, by rw [← C.K]; exact hM, C.fns f F hF, by rw [← C.K]; exact (C.lok.bind0 f F hF).1, ?_⟩
            exact ⟨ι1, ρ, μ1, re, rm, (Fin.bind (R := RVsf L.g) h1).imp fun ps μ2 vs H2 ι2 e2 x2 m2 r2 ⟨ps', ι3, μ3, x3, m3, r3, h3⟩ => spI_of m3 (show RVs L.g _ _ (.loc j :: ps') (.ref a :: vs) from ⟨.ref a, vs, rfl, ⟨a, get_pre x3.pre ia, rfl⟩, r3⟩) h3⟩
        | lst _ => rw [e1] at e; cases e
        | frz _ => rw [e1] at e; cases e
        | dic _ => rw [e1] at e; cases e
        | clo _ => rw [e1] at e; cases e
        | dead => rw [e1] at e; cases e
    | _ => cases e
  · exact h1.elim
/-! ### C.__init__(self, ..) -/
theorem pe_clsF {CX : CXT} {k : Nat} {f C : Addr} {mc : Value} {fd : FuncData} {ps : List Str} {sp : Sp} {dvs : List V} {ds : List Value} {E : L2.St → XK} {x m : Str} {p apos pos : Pos} {e : Expr} {es : List Expr} {t : TA} (F : FnOk X.prog X.w X.K X.mg X.base CX k f fd ps sp) (hr : Room k X.A) (hg : Gl X x) (hm : X.mg x = some (.ref C)) (hk : PySem.W.keepIn X.K (.ref f) = true) (rd : ClX.CRead X.K C mc) (hf : PySem.W.findCls X.K (.ref C) mc m = some (.val (.ref f)))
    (hb : Binds X.K fd ps ds) (hd : Vals dvs ds) (hx : ∀ σ, PassesAt CX X σ (E σ)) (ha : PA X (e :: es) t) (hdb : (x == ("__debug__" : Str)) = false) (hn : ∀ a ∈ e :: es, nst a = true) (hlen : (e :: es).length < 29) (hl : (apos.endLine == pos.line) = true) : PE X (.Call (.Attribute (.Name x p) m apos) (e :: es) [] pos) (tCallSD sp dvs E t) := by
  refine ⟨fun pins s σ H Q I h => ?_⟩
  refine PySem.W.methodCall_KW (ld_glob I hg hm ?_ hdb) (meth_tree rfl hl hn hlen)
  refine PySem.W.method_cls I.kIn rd.ga (PySem.W.cls_value I.kIn rd.rd hf rfl ?_)
  have I1 := I.tok (s.toks + 1)
  refine PySem.W.callWith_K (first := []) (h₀ := X.base) I1.ok.mod.kin hk (thn (ha.run pos pins _ σ H _ I1 h) fun us s2 ⟨vs, H2, I2, r, q2⟩ => ⟨I2.kIn, ?_⟩) (star_cons (hn e List.mem_cons_self) es _) (star_any fun a h => hn a (List.mem_cons_of_mem _ h))
  exact run_fnSD F hr hb hd (hx σ) I2 r q2
theorem s_clsF (C : CtxE L n c xb W X) (hot : c.hot = false) {o : Expr} {m : Str} {i : Nat} {as : List Expr} {is d : List IE} {apos pos : Pos} (hi : clsI L.T c o m = some i) (hne : as.isEmpty = false) (hl : (apos.endLine == pos.line) = true) (hn : ∀ a ∈ as, nst a = true) (hlen : as.length < 29) (ha : SA L n xb W X as is) (hf : fill L.T i is.length = some d) :
    SE L n xb W X (.Call (.Attribute o m apos) as [] pos) (.call i (is ++ d)) := by
  obtain ⟨x, p, k, Cc, rfl, hx, rfl, hc, hin⟩ := clsI_ok hi
  cases as with
  | nil => cases hne
  | cons e es =>
    obtain ⟨hg, ent, hdb⟩ := C.gl hx
    cases ent with
    | cls _ hm hi2 =>
      obtain ⟨rd, hfc, hfn⟩ := C.lok.cini k Cc i hc hin
      obtain ⟨F, hF⟩ := Option.isSome_iff_exists.mp hfn
      obtain ⟨dvs, ds, hv, hb, pvs, rfl, rv⟩ := C.lok.bind i F _ _ hF hf
      have tk := C.takes hot
      refine (pe_clsF (E := WE W) (C.fns i F hF) ((C.room hot).mono (by omega)) hg hm (by rw [← C.K]; exact C.lok.keep i F hF) (by rw [← C.K]; exact rd) (by rw [← C.K]; exact hfc) (by rw [← C.K]; exact hb) hv (fun σ => passAt tk σ) ha hdb hn hlen hl).imp fun σ H Q h => ?_
      have h := tI_congr (r' := fun ρ μ => (evEs L.T.P (L.D n) xb.v is ρ μ).bind fun xs μ => L.D n i (xs ++ pvs) μ) (fun ρ μ => by rw [evE, evEs_app, bind_assoc']; rfl) h
      exact tI_mono (tI_bind (R := RVsf L.g) (S := RVf L.g) (f := fun _ xs μ => L.D n i (xs ++ pvs) μ) h) fun vs H1 ⟨ps, ι1, ρ, μ1, re, rm, rx, h1⟩ => spI_of rm (rx.append (rv _ _)) h1
/-! ### built-in functions, methods of lists -/
theorem s_bi (C : CtxE L n c xb W X) {x : Str} {b : Bi} (hb : b ≠ .minD) (hot : biHot b = false → c.hot = false) {e : Expr} {es : List Expr} {is : List IE} {p pos : Pos} (hx : globOf L.T c x = some (.bi b)) (hn : ∀ a ∈ e :: es, nst a = true) (ha : SA L n xb W X (e :: es) is) :
    SE L n xb W X (.Call (.Name x p) (e :: es) [] pos) (.bi b is) := by
  obtain ⟨hg, ent, hd⟩ := C.gl hx
  cases ent with
  | bi _ hm hv hne =>
    have r := call_bi (X := X) (g := L.g) C.gK b hb C.unit (fun h => C.calm (hot h))
    have fin : PE X (.Call (.Name x p) (e :: es) [] pos) (tCB (rBi L.g b) (tEs L.g xb W L.T.P (L.D n) is)) := by
      cases b
      all_goals first
        | exact absurd rfl hb
        | exact pe_callB r hg hm hv ha hne hd (star_cons (hn e List.mem_cons_self) es _) (star_any fun a h => hn a (List.mem_cons_of_mem _ h))
        | exact pe_callTy r hg hm hv ha hne hd (star_cons (hn e List.mem_cons_self) es _) (star_any fun a h => hn a (List.mem_cons_of_mem _ h))
    refine fin.imp fun σ H Q h => ?_
    have h := tI_congr (r' := fun ρ μ => (evEs L.T.P (L.D n) xb.v is ρ μ).bind fun xs μ => biV b xs μ) (fun ρ μ => by rw [evE]) h
    exact tI_mono (tI_bind (R := RVsf L.g) (S := RVf L.g) (f := fun _ xs μ => biV b xs μ) h) fun vs H1 ⟨ps, ι1, ρ, μ1, re, rm, rx, h1⟩ => ⟨σ, ι1, μ1, ps, rm, rx, h1.noex (biV_noex _ _ _)⟩
/-- min(xs, default=d) -/
theorem s_minD (C : CtxE L n c xb W X) (hot : c.hot = false) {x : Str} {e d : Expr} {ie id : IE} {p pos kp : Pos} (hx : globOf L.T c x = some (.bi .min)) (hn : nst e = true) (he : SE L n xb W X e ie) (hd : SE L n xb W X d id) :
    SE L n xb W X (.Call (.Name x p) [e] [⟨some (Str.ofString "default"), d, kp⟩] pos) (.bi .minD [ie, id]) := by
  obtain ⟨hg, ent, hdb⟩ := C.gl hx
  cases ent with
  | bi _ hm hv hne =>
    have ha := sa_cons hn he (sa_nil (L := L) (n := n) (xb := xb) (W := W) (X := X))
    have st : ∀ env, starEach [e] env = [(false, eval e env)] := fun env => star_cons hn [] env
    refine (pe_callBK (id := "min") (cr_minD (C.calm hot) C.unit) hg hm hv ha (pk_cons hd pk_nil) hne hdb (by rw [st]; rfl) (by rw [st]; rfl) (by rfl) (by rfl) (by rfl)).imp fun σ H Q h => ?_
    have h := tI_congr (r' := fun ρ μ => (evEs L.T.P (L.D n) xb.v [ie] ρ μ).bind fun xs μ => (evE L.T.P (L.D n) xb.v id ρ μ).bind fun w μ => biV .minD (xs ++ [w]) μ) (fun ρ μ => by
      rw [evE, evEs_cons', evEs_cons', bind_assoc', bind_assoc']
      congr 1
      funext v μ
      rw [evEs_nil', evEs_cons', bind_assoc', bind_assoc']
      show _ = (evE L.T.P (L.D n) xb.v id ρ μ).bind _
      congr 1) h
    exact tI_mono (tI_bind (R := RVsf L.g) (S := RVf L.g) (f := fun ρ xs μ => (evE L.T.P (L.D n) xb.v id ρ μ).bind fun w μ => biV .minD (xs ++ [w]) μ) h) fun vs H1 ⟨ps, ι1, ρ, μ1, re, rm, rx, h1⟩ =>
      ⟨ι1, ρ, μ1, re, rm, h1.bind.imp fun pw μ2 w H2 ι2 e2 x2 m2 r2 ⟨pw', ι3, μ3, x3, m3, r3, h3⟩ => by
        show rMinD X.K vs [w] H2 Q
        have rx3 := RVs.mono rm x3 rx
        rcases minD_inv (ps ++ [pw']) μ3 with hb | ⟨l, d, ns, e1, e2, e3⟩
        · rw [hb] at h3
          exact h3.elim
        · obtain ⟨rfl, e5⟩ := List.append_inj' (show ps ++ [pw'] = [PV.loc l] ++ [.int d] from e1) rfl
          obtain rfl : pw' = .int d := by injection e5
          obtain ⟨v, rfl, r1⟩ := rvs1 rx3
          obtain ⟨a, rfl, s1⟩ := listAt_ints m3 e2 r1
          have r3 : w = .int d := r3
          subst r3
          rw [e3] at h3
          refine ⟨a, ns, d, rfl, rfl, by rw [← C.gK]; exact s1, fun z => ?_, fun x y z => ?_⟩
          · subst z
            exact h3.here m3 rfl
          · subst z
            exact h3.here m3 rfl⟩
theorem bm_few {as : List Expr} {pos : Pos} {env : PySem.Env} (hn : ∀ a ∈ as, nst a = true) (hlen : as.length < 29) : ((backTo pos (starEach as env)).all (fun x => !x.1) && (backToKw pos (keywordEach [] env)).all (fun x => x.1.isSome)
      && decide (as.length + ([] : List Keyword).length + (if ([] : List Keyword).isEmpty then 0 else 1) < 30)) = true := by
  rw [star_all hn, show (backToKw pos (keywordEach [] env)).all (fun x => x.1.isSome) = true from rfl, show decide (as.length + ([] : List Keyword).length + (if ([] : List Keyword).isEmpty then 0 else 1) < 30) = true by simp; omega]
  rfl
theorem bm_ty {H : Hp} {ι : List Addr} {μ : Store} {b : Bm} {p : PV} {v : V} (hK : L.g.K = X.K) (rm : RM L.g H ι μ) (r : RV L.g H ι p v) (h : bmOk b p μ = true) : tyV X.K (bmT b) v H := by
  have key : ∀ {o : Option (List PV)}, o = listAt μ p → o.isSome = true → tyV X.K "list" v H := by
    intro o e h
    cases o with
    | none => cases h
    | some xs =>
      cases p with
      | loc l =>
        obtain ⟨a, vs, rfl, s1, t1⟩ := rm_list rm e.symm r
        exact .inl ⟨rfl, vs, by rw [← hK]; exact s1⟩
      | _ => cases e
  have key2 : ∀ {o : Option (List (List Int × PV))}, o = dicAt μ p → o.isSome = true → tyV X.K "dict" v H := by
    intro o e h
    cases o with
    | none => cases h
    | some xs =>
      cases p with
      | loc l =>
        obtain ⟨a, dvs, _, rfl, h1, _⟩ := rm_dic rm e.symm r
        exact .inr (.inr (.inl ⟨rfl, .inr ⟨dvs, h1⟩⟩))
      | _ => cases e
  unfold bmOk at h
  split at h
  all_goals first | exact key rfl h | exact key2 rfl h | (cases r; rfl) | cases h
theorem s_bm (C : CtxE L n c xb W X) {o : Expr} {m : Str} {b : Bm} {as : List Expr} {io : IE} {is : List IE} {apos pos : Pos} (hk : bmI m = some b) (hb : bas o = true) (hl : (apos.endLine == pos.line) = true) (hn : ∀ a ∈ as, nst a = true) (hlen : as.length < 29) (hle : as.length = is.length)
    (ho : SE L n xb W X o io) (ha : SA L n xb W X as is) : SE L n xb W X (.Call (.Attribute o m apos) as [] pos) (.bm b io is) := by
  have r := mt_bm (X := X) (g := L.g) C.gK C.unit b
  have base : PE X (.Call (.Attribute o m apos) as [] pos) (fun σ H Q => tE L.g xb W L.T.P (L.D n) io σ H fun x H1 => tyV X.K (bmT b) x H1 ∧ tEs L.g xb W L.T.P (L.D n) is σ H1 fun xs H2 => rBm L.g b x xs H2 Q) := by
    have go : ∀ {T : String} {m : Str} {id : String} (pa : PlainAttrs T) (slot : Slot T m id) (hty : typeOf (.builtin id) = pure (.type "method_descriptor")) (r : MtR X id (rBm L.g b)), PE X (.Call (.Attribute o m apos) as [] pos) (fun σ H Q => tE L.g xb W L.T.P (L.D n) io σ H fun x H1 => tyV X.K T x H1 ∧ tEs L.g xb W L.T.P (L.D n) is σ H1 fun xs H2 => rBm L.g b x xs H2 Q) := by
      intro T m id pa slot hty r
      cases as with
      | nil =>
        cases is with
        | nil => exact (pe_bm0 pa slot hty r ho (bas_ok hb) hl).imp fun σ H Q h => tI_mono h fun v H1 ⟨h1, h2⟩ => ⟨h1, tEs_nil h2⟩
        | cons i is => cases hle
      | cons e es => exact (pe_bm pa slot hty r ho ha (bas_ok hb) (bm_few hn hlen) hl (star_cons (hn e List.mem_cons_self) es _) (star_any fun a h => hn a (List.mem_cons_of_mem _ h))).imp fun σ H Q h => h
    obtain ⟨hm, hc⟩ := bmI_ok hk
    subst hm
    rcases hc with rfl | rfl | rfl | rfl | rfl | rfl | rfl | rfl | rfl | rfl | rfl
    · exact go PySem.F.plainAttrs_list PySem.F.slot_list_append PySem.F.type_list_append r
    · exact go PySem.F.plainAttrs_list PySem.F.slot_list_extend PySem.F.type_list_extend r
    · exact go PySem.F.plainAttrs_list PySem.F.slot_list_clear PySem.F.type_list_clear r
    · exact go PySem.F.plainAttrs_list PySem.F.slot_list_reverse PySem.F.type_list_reverse r
    · exact go PySem.F.plainAttrs_list PySem.F.slot_list_insert PySem.F.type_list_insert r
    · exact go PySem.F.plainAttrs_list PySem.F.slot_list_index PySem.F.type_list_index r
    · exact go PySem.F.plainAttrs_dict PySem.F.slot_dict_get PySem.F.type_dict_get r
    · exact go PySem.F.plainAttrs_str PySem.F.slot_str_split PySem.F.type_str_split r
    · exact go PySem.F.plainAttrs_str PySem.F.slot_str_partition PySem.F.type_str_partition r
    · exact go PySem.F.plainAttrs_str PySem.F.slot_str_startswith PySem.F.type_str_startswith r
    · exact go PySem.F.plainAttrs_str PySem.F.slot_str_join PySem.F.type_str_join r
  refine base.imp fun σ H Q h => ?_
  have h := tI_congr (r' := fun ρ μ => (evE L.T.P (L.D n) xb.v io ρ μ).bind fun x μ => if bmOk b x μ = true then (evEs L.T.P (L.D n) xb.v is ρ μ).bind fun xs μ => bmV b x xs μ else .bad) (fun ρ μ => by rw [evE]) h
  refine tI_mono (tI_bind (R := RVf L.g) (S := RVf L.g) (f := fun ρ x μ => if bmOk b x μ = true then (evEs L.T.P (L.D n) xb.v is ρ μ).bind fun xs μ => bmV b x xs μ else .bad) h) fun x H1 ⟨px, ι1, ρ, μ1, re, rm, rx, h1⟩ => ?_
  split at h1
  · rename_i ok
    refine ⟨bm_ty C.gK rm rx ok, ι1, ρ, μ1, re, rm, (Fin.bind (R := RVsf L.g) h1).imp fun ps μ2 vs H2 ι2 e2 x2 m2 r2 ⟨ps', ι3, μ3, x3, m3, r3, h3⟩ => ?_⟩
    exact ⟨σ, ι3, μ3, px, ps', m3, rx.mono rm x3, r3, h3.noex (bmV_noex _ _ _ _)⟩
  · exact h1.elim
end
end BW
set_option maxHeartbeats 4000000
/-! The translation is sound: isinstance, targets. -/
namespace L2
open PySem PySem.Spec PyProof.Rows
theorem PG.imp {X : Cx} {e : Expr} {t t' : TG} (h : PG X e t) (f : ∀ v σ H Q, t' v σ H Q → t v σ H Q) : PG X e t' := ⟨fun pins s σ H v u Q I r q => h.run pins s σ H v u Q I r (f v σ H Q q)⟩
theorem PGs.imp {X : Cx} {e : List Expr} {t t' : TGs} (h : PGs X e t) (f : ∀ v σ H Q, t' v σ H Q → t v σ H Q) : PGs X e t' := ⟨fun pins s σ H v u Q I r q => h.run pins s σ H v u Q I r (f v σ H Q q)⟩
theorem PG.or {X : Cx} {e : Expr} {t t' : TG} (h : PG X e t) (h' : PG X e t') : PG X e (fun v σ H Q => t v σ H Q ∨ t' v σ H Q) := ⟨fun pins s σ H v u Q I r q => q.elim (h.run pins s σ H v u Q I r) (h'.run pins s σ H v u Q I r)⟩
theorem PI.imp {X : Cx} {tg e : Expr} {t t' : TI} (h : PI X tg e t) (f : ∀ σ H R, t' σ H R → t σ H R) : PI X tg e t' := ⟨fun pins s σ H R I q => h.run pins s σ H R I (f σ H R q)⟩
theorem PI.or {X : Cx} {tg e : Expr} {t t' : TI} (h : PI X tg e t) (h' : PI X tg e t') : PI X tg e (fun σ H R => t σ H R ∨ t' σ H R) := ⟨fun pins s σ H R I q => q.elim (h.run pins s σ H R I) (h'.run pins s σ H R I)⟩
end L2
namespace BW
open PySem PySem.Spec PyProof.Rows L2
section
variable {L : Lk} {n : Nat} {c : TC} {xb : XB} {W : WX} {X : Cx}
theorem tyx_of {K : PySem.W.Frag} (hK : L.K = K) (hi : ∀ c, L.ic c → InsOk K L.T.flds (L.ca c)) {H : Hp} {ι : List Addr} {μ : Store} {p : PV} {v : V} {t : Tag} (rm : RM L.g H ι μ) (r : RV L.g H ι p v) (h : tagOf μ p = some t) : TyX K H v (tagV L t) ∧ tagIn L t := by
  cases p with
  | non => cases r; cases h; exact ⟨.base .non, trivial⟩
  | bl b => cases r; cases h; exact ⟨.base (.bl b), trivial⟩
  | int b => cases r; cases h; exact ⟨.base (.int b), trivial⟩
  | str b => cases r; cases h; exact ⟨.base (.str b), trivial⟩
  | tup xs =>
    cases h
    obtain ⟨a, vs, rfl, s1, t1⟩ := r
    refine ⟨?_, trivial⟩
    exact .base (.tup s1)
  | loc l =>
    obtain ⟨a, ia, rfl⟩ := r
    have h : (match μ[l]? with | some (.lst _) => some Tag.lst | some (.frz _) => some Tag.lst | some (.dic _) => some Tag.dic | some (.clo _) => none | some .dead => none | some (.ins c _) => some (Tag.ins c) | none => none) = some t := h
    cases e : μ[l]? with
    | none => rw [e] at h; cases h
    | some cell =>
      rw [e] at h
      cases cell with
      | lst xs =>
        cases h
        obtain ⟨b, vs, ib, q1, t1⟩ := rm_lst rm e
        rw [ia] at ib; cases ib
        exact ⟨.base (.lst q1), trivial⟩
      | frz xs =>
        cases h
        obtain ⟨b, eb, vs, q1, t1⟩ := rm.at_ l _ e
        rw [ia] at eb; cases eb
        refine ⟨?_, trivial⟩
        rcases q1 with ⟨o, q1⟩ | ⟨o, its, k, h1, h2, _⟩
        · exact .base (.frz q1)
        · refine .kList ?_ h2
          rw [← hK]; exact h1
      | ins cc fs =>
        cases h
        obtain ⟨b, dx, fvs, ib, q1, rf, ic⟩ := rm_ins rm e
        rw [ia] at ib; cases ib
        have io := hi _ ic
        exact ⟨.base (.ins q1 io.cls io.ha io.hn io.ht io.hm), ic⟩
      | dic kvs =>
        cases h
        obtain ⟨b, eb, dvs, q1, t1⟩ := rm.at_ l _ e
        rw [ia] at eb; cases eb
        exact ⟨.base (.dT q1), trivial⟩
      | clo v => cases h
      | dead => cases h
theorem isTags_one {P : Prog} {g : Tag} {t : Ty} {b : Bool} (h : isTags P g [t] = some b) : isTag P g t = some b := by
  unfold isTags at h
  split at h
  · rename_i e; rw [e]; exact h
  · rename_i e
    unfold isTags at h
    rw [e]; exact h
  · cases h
theorem kit_all {L : Lk} {mg : Str → Option Value} (lok : LOk L mg) {g : Tag} (hg : tagIn L g) : ∀ (ts : List Ty) (b : Bool), (∀ t ∈ ts, tyIn L t) → isTags L.T.P g ts = some b → PySem.W.kitAny L.K (tagV L g) (ts.map (tyW L)) = some b
  | [], b, _, h => by
    cases h
    exact kitAny_nil
  | t :: ts, b, ht, h => by
    unfold isTags at h
    split at h
    · rename_i e
      cases h
      exact kitAny_cons (lok.kit g t true hg (ht t List.mem_cons_self) e) (fun z => by cases z) (fun _ => rfl)
    · rename_i e
      exact kitAny_cons (lok.kit g t false hg (ht t List.mem_cons_self) e) (fun _ => kit_all lok hg ts b (fun x hx => ht x (List.mem_cons_of_mem _ hx)) h) (fun z => by cases z)
    · cases h
theorem s_ty (C : CtxE L n c xb W X) {x : Str} {t : Ty} {pos : Pos} (h : trTy L.T c x = some t) : PE X (.Name x pos) (tC (tyU L t)) := by
  have blt : ∀ {s : String}, Gl X x → X.mg x = none → bootBuiltins x = some (.type s) → x ≠ "__name__" → (x == ("__debug__" : Str)) = false → PE X (.Name x pos) (tC (.ty s)) := fun hg hm hv hn hd => pe_bltn hg hm hv rfl hn hd
  unfold trTy at h
  split at h
  · rename_i d e
    cases h
    obtain ⟨hg, ent, hd⟩ := C.gl e
    cases ent with
    | cls _ hm h2 => exact pe_glob hg hm (show RelV (.ref (L.ca d)) _ from rfl) hd
  · rename_i e
    cases h
    obtain ⟨hg, ent, hd⟩ := C.gl e
    cases ent with
    | bi _ hm hv hn => exact blt hg hm hv hn hd
  · rename_i e
    cases h
    obtain ⟨hg, ent, hd⟩ := C.gl e
    cases ent with
    | bi _ hm hv hn => exact blt hg hm hv hn hd
  · rename_i e
    cases h
    obtain ⟨hg, ent, hd⟩ := C.gl e
    cases ent with
    | bi _ hm hv hn => exact blt hg hm hv hn hd
  · rename_i e
    cases h
    obtain ⟨hg, ent, hd⟩ := C.gl e
    cases ent with
    | bi _ hm hv hn => exact blt hg hm hv hn hd
  · rename_i e
    obtain ⟨hg, ent, hd⟩ := C.gl e
    cases ent with
    | free hm hn =>
      split at h
      · rename_i z; cases h; subst z; exact blt hg hm boot_bool hn hd
      · split at h
        · rename_i z; cases h; subst z; exact blt hg hm boot_dict hn hd
        · split at h
          · rename_i z; cases h; subst z; exact blt hg hm (by decide +kernel) hn hd
          · cases h
  · cases h
theorem trTys_len : ∀ {es : List Expr} {ts : List Ty}, trTys L.T c es = some ts → ts.length = es.length
  | [], _, h => by cases h; rfl
  | e :: es, ts, h => by
    unfold trTys at h
    split at h
    · rename_i e0; cases e0
    · rename_i x p r e0
      cases e0
      cases q : trTy L.T c x with
      | none => rw [q] at h; cases h
      | some t =>
        rw [q] at h
        cases q2 : trTys L.T c es with
        | none => rw [q2] at h; cases h
        | some ts2 =>
          rw [q2] at h
          cases h
          simp [trTys_len q2]
    · cases h
theorem s_tys (C : CtxE L n c xb W X) : ∀ {es : List Expr} {ts : List Ty}, trTys L.T c es = some ts → PA X es (fun _ H Q => Q (ts.map (tyU L)) H)
  | [], _, h => by
    cases h
    exact pa_nil
  | e :: es, ts, h => by
    unfold trTys at h
    split at h
    · rename_i e0; cases e0
    · rename_i x p r e0
      cases e0
      cases q : trTy L.T c x with
      | none => rw [q] at h; cases h
      | some t =>
        rw [q] at h
        cases q2 : trTys L.T c es with
        | none => rw [q2] at h; cases h
        | some ts2 =>
          rw [q2] at h
          cases h
          exact (pa_cons (s_ty (pos := p) C q) (s_tys C q2) (star_cons rfl _ _)).imp fun σ H Q z => z
    · cases h
theorem clsv (t : Ty) : ClsV (tyU L t) (tyW L t) := by
  cases t with
  | own c => exact .own _
  | _ => exact .ty _
theorem clsvs : ∀ (ts : List Ty), Paired ClsV (ts.map (tyU L)) (ts.map (tyW L))
  | [] => .nil
  | t :: ts => .cons (clsv t) (clsvs ts)
theorem s_isin (C : CtxE L n c xb W X) {a t : Expr} {ia : IE} {ts : List Ty} {p pos : Pos} (hx : globOf L.T c "isinstance" = some .free) (ht : trIs L.T c t = some ts) (hty : ts.all (tyB L.T) = true) (hn : nst a = true) (ha : SE L n xb W X a ia) :
    SE L n xb W X (.Call (.Name "isinstance" p) [a, t] [] pos) (.isin ia ts) := by
  obtain ⟨hg, ent, hd⟩ := C.gl hx
  cases ent with
  | free hm hnn =>
    have fin : ∀ {σ : L2.St} {H : Hp} {Q : VK}, tE L.g xb W L.T.P (L.D n) (.isin ia ts) σ H Q → tE L.g xb W L.T.P (L.D n) ia σ H fun x H1 => ∃ t b, TyX X.K H1 x (tagV L t) ∧ tagIn L t ∧ isTags L.T.P t ts = some b ∧ (∀ p vs, H1 p = none → TyX X.K (upd H1 p (.tup vs)) x (tagV L t) ∧ Q (.bl b) (upd H1 p (.tup vs))) ∧ Q (.bl b) H1 := by
      intro σ H Q h
      have h := tI_congr (r' := fun ρ μ => (evE L.T.P (L.D n) xb.v ia ρ μ).bind fun x μ => (Res.ofO ((tagOf μ x).bind fun g => isTags L.T.P g ts) μ).bind fun b μ => .ok (.bl b) μ) (fun ρ μ => by rw [evE]) h
      refine tI_mono (tI_bind (R := RVf L.g) (S := RVf L.g) (f := fun _ x μ => (Res.ofO ((tagOf μ x).bind fun g => isTags L.T.P g ts) μ).bind fun b μ => .ok (.bl b) μ) h) fun x H1 ⟨px, ι1, ρ, μ1, re, rm, rx, h1⟩ => ?_
      obtain ⟨b, e, h2⟩ := ofO_bind h1
      cases e1 : tagOf μ1 px with
      | none => rw [e1] at e; cases e
      | some t =>
        rw [e1] at e
        obtain ⟨ty, ti⟩ := tyx_of C.K (fun c hc => by rw [← C.K]; exact C.lok.ins c hc) rm rx e1
        exact ⟨t, b, ty, ti, e, fun p vs hp => ⟨(tyx_of C.K (fun c hc => by rw [← C.K]; exact C.lok.ins c hc) (RM.laid rm hp) (rx.mono rm (Ext.laid hp)) e1).1, h2 _ _ ι1 (Ext.laid hp) (RM.laid rm hp) rfl⟩, h2.here rm rfl⟩
    unfold trIs at ht
    split at ht
    · rename_i x p2
      cases q : trTy L.T c x with
      | none => rw [q] at ht; cases ht
      | some t1 =>
        rw [q] at ht
        cases ht
        have h3 := s_ty (pos := p2) C q
        have h4 : tyIn L t1 := List.all_eq_true.mp hty t1 List.mem_cons_self
        have pa : PA X [a, .Name x p2] (fun σ H Q => tE L.g xb W L.T.P (L.D n) ia σ H fun v H1 => Q [v, tyU L t1] H1) := (pa_cons ha (pa_cons h3 pa_nil (star_cons rfl [] _)) (star_cons hn _ _)).imp fun σ H Q z => z
        refine (pe_callB call_isi hg hm boot_isinstance pa hnn hd (star_cons hn _ _) (star_any fun e he => by rcases List.mem_cons.mp he with rfl | he; rfl; cases he)).imp fun σ H Q h => ?_
        refine tI_mono (fin h) fun v H1 ⟨t, b, ty, ti, e, _, q⟩ => ?_
        exact ⟨v, tyU L t1, tagV L t, tyW L t1, b, rfl, clsv t1, ty, by rw [← C.K]; exact C.lok.kit t t1 b ti h4 (isTags_one e), q⟩
    · rename_i es k p2
      split at ht
      rotate_left
      · cases ht
      rename_i hlen
      have h3 := s_tys C ht
      have h4 : ∀ t ∈ ts, tyIn L t := fun t h => List.all_eq_true.mp hty t h
      have pa : PA X [a, .Tuple es k p2] (fun σ H Q => tE L.g xb W L.T.P (L.D n) ia σ H fun v H1 => (ts.map (tyU L)).length ≤ sizeLine ∧ ∀ p, H1 p = none → Q [v, .ref p] (upd H1 p (.tup (ts.map (tyU L))))) := (pa_cons ha (pa_cons (pe_tup h3) pa_nil (star_cons rfl [] _)) (star_cons hn _ _)).imp fun σ H Q z => z
      refine (pe_callB call_isiT hg hm boot_isinstance pa hnn hd (star_cons hn _ _) (star_any fun e he => by rcases List.mem_cons.mp he with rfl | he; rfl; cases he)).imp fun σ H Q h => ?_
      refine tI_mono (fin h) fun v H1 ⟨t, b, ty, ti, e, q, _⟩ => ?_
      refine ⟨?_, fun p hp => ?_⟩
      · rw [List.length_map, trTys_len ht, sizeLine_eq]; omega
      · refine ⟨v, p, ts.map (tyU L), tagV L t, ts.map (tyW L), b, rfl, upd_same, clsvs ts, (q p _ hp).1, ?_, (q p _ hp).2⟩
        rw [← C.K]; exact kit_all C.lok ti ts b h4 e
    · cases ht
/-! ### targets -/
/-- what a target asks -/
def gI (g : G) (xb : XB) (t : Tg) : TG := fun v σ H Q => ∃ (ι : List Addr) (ρ : BW.Env) (μ : Store) (pv : PV) (ρ1 : BW.Env), RE g xb H ι σ ρ ∧ RM g H ι μ ∧ RV g H ι pv v ∧ asg t pv ρ μ = some ρ1 ∧
  ∀ σ1, RE g xb H ι σ1 ρ1 → σ1.length = σ.length → (∀ i, i ∉ tgs t → σ1[i]? = σ[i]?) → Q σ1 H
def gIs (g : G) (xb : XB) (ts : List Tg) : TGs := fun vs σ H Q => ∃ (ι : List Addr) (ρ : BW.Env) (μ : Store) (pvs : List PV) (ρ1 : BW.Env), RE g xb H ι σ ρ ∧ RM g H ι μ ∧ RVs g H ι pvs vs ∧ asgs ts pvs ρ μ = some ρ1 ∧
  ∀ σ1, RE g xb H ι σ1 ρ1 → σ1.length = σ.length → (∀ i, i ∉ tgss ts → σ1[i]? = σ[i]?) → Q σ1 H
theorem RE.set {g : G} {H : Hp} {ι : List Addr} {σ : L2.St} {ρ : BW.Env} {i : Nat} {pv : PV} {v : V} (re : RE g xb H ι σ ρ) (r : RV g H ι pv v) (hx : ∀ q, xb = some q → q.2.1 ≠ i) : RE g xb H ι (σ.set i (some v)) (ρ.set i (some pv)) := by
  refine ⟨by simp [re.1], fun j p e => ?_, fun q hq => ?_⟩
  · by_cases hj : i = j
    · subst hj
      by_cases hl : i < ρ.length
      · rw [List.getElem?_set_self hl] at e
        cases e
        exact ⟨v, List.getElem?_set_self (by rw [re.1]; exact hl), r⟩
      · rw [List.getElem?_eq_none (by simpa using hl)] at e; cases e
    · rw [List.getElem?_set_ne hj] at e ⊢
      exact re.2 j p e
  · obtain ⟨h1, h2⟩ := re.3 q hq
    refine ⟨?_, h2⟩
    rw [List.getElem?_set_ne (Ne.symm (hx q hq))]
    exact h1
theorem CtxE.loc (C : CtxE L n c xb W X) {x : Str} {i : Nat} (h : locOf c x = some i) : X.N[i]? = some x ∧ Loc X.env.scope x ∧ (X.fn x = true ∨ X.env.scope.names.lookup x = some .local) ∧ ∀ q, xb = some q → q.2.1 ≠ i := by
  obtain ⟨h1, h2, h3, h4⟩ := locOf_ok h
  refine ⟨by rw [C.N]; exact h1, by rw [C.sc]; exact h2, ?_, fun q hq e => ?_⟩
  · rcases h3 with h3 | ⟨h3, h5⟩
    · exact .inr (by rw [C.sc]; exact h3)
    · exact .inl (C.cell x h3 h5)
  · obtain ⟨y, hy, hy2⟩ := C.exn q hq
    rw [e, C.N, h1] at hy2
    cases hy2
    exact h4 hy
theorem asgn_none (env : PySem.Env) : ∀ (es : List Expr) (ts : List Tg), trTgs c es = some ts → (assignEach es env).findIdx? (·.1) = none ∧ (assignEach es env).length = ts.length ∧ es.length = ts.length
  | [], ts, h => by
    unfold trTgs at h
    cases h
    exact ⟨rfl, rfl, rfl⟩
  | e :: es, ts, h => by
    unfold trTgs at h
    cases q : trTg c e with
    | none => rw [q] at h; cases h
    | some t =>
      rw [q] at h
      cases q2 : trTgs c es with
      | none => rw [q2] at h; cases h
      | some ts2 =>
        rw [q2] at h
        cases h
        obtain ⟨h1, h2, h3⟩ := asgn_none env es ts2 q2
        have e1 : assignEach (e :: es) env = (false, assign e env) :: assignEach es env := by
          unfold trTg at q
          split at q
          · rfl
          · rfl
          · cases q
        rw [e1]
        refine ⟨?_, by simp [h2], by simp [h3]⟩
        rw [List.findIdx?_cons]
        simp [h1]
theorem asgn_map (env : PySem.Env) {e : Expr} {t : Tg} (es : List Expr) (h : trTg c e = some t) : (assignEach (e :: es) env).map (·.2) = assign e env :: (assignEach es env).map (·.2) := by
  unfold trTg at h
  split at h
  · rfl
  · rfl
  · cases h
theorem asgs_len : ∀ {ts : List Tg} {vs : List PV} {ρ ρ1 : BW.Env} {μ : Store}, asgs ts vs ρ μ = some ρ1 → vs.length = ts.length
  | [], [], _, _, _, _ => rfl
  | [], _ :: _, _, _, _, h => by unfold asgs at h; cases h
  | _ :: _, [], _, _, _, h => by unfold asgs at h; cases h
  | t :: ts, v :: vs, ρ, ρ1, μ, h => by
    unfold asgs at h
    simp only at h
    cases e : asg t v ρ μ with
    | none => rw [e] at h; cases h
    | some ρ2 =>
      rw [e] at h
      have h : asgs ts vs ρ2 μ = some ρ1 := h
      simp [asgs_len h]
mutual
theorem s_tg (N : X.N = c.N) (nd : c.N.Nodup) (calm : X.calm = true) (hK : L.g.K = X.K) (loc : ∀ {x : Str} {i : Nat}, locOf c x = some i → X.N[i]? = some x ∧ Loc X.env.scope x ∧ (X.fn x = true ∨ X.env.scope.names.lookup x = some .local) ∧ ∀ q, xb = some q → q.2.1 ≠ i) (e : Expr) (t : Tg) (h : trTg c e = some t) : PG X e (gI L.g xb t) := by
  cases e with
  | Name x p =>
    unfold trTg at h
    cases q : locOf c x with
    | none => rw [q] at h; cases h
    | some i =>
      rw [q] at h
      cases h
      obtain ⟨h1, h2, h3, h4⟩ := loc q
      refine (pg_name (by rw [N]; exact nd) h1 h2 h3).imp fun v σ H Q ⟨ι, ρ, μ, pv, ρ1, re, rm, rv, e, k⟩ => ?_
      unfold asg at e
      cases e
      refine k _ (re.set rv h4) (by simp) fun j hj => ?_
      rw [List.getElem?_set_ne]
      intro z
      subst z
      exact hj (by unfold tgs; simp)
  | Tuple es k p =>
    unfold trTg at h
    cases q : trTgs c es with
    | none => rw [q] at h; cases h
    | some ts =>
      rw [q] at h
      cases h
      obtain ⟨n1, n2, n3⟩ := asgn_none X.env es ts q
      have ih := s_tgs N nd calm hK loc es ts q
      refine ((pg_tup calm ih n2 n1).or (pg_lst calm ih n2 n1)).imp fun v σ H Q ⟨ι, ρ, μ, pv, ρ1, re, rm, rv, e, k⟩ => ?_
      unfold asg at e
      split at e
      · rename_i vs e1
        obtain ⟨a, ws, rfl, s1, t1⟩ := rm_seq rm e1 rv
        have hl : ws.length = ts.length := by
          rw [← t1.length]
          exact asgs_len e
        have nx : gIs L.g xb ts ws σ H Q := ⟨ι, ρ, μ, vs, ρ1, re, rm, t1, e, fun σ1 r1 l1 f1 => k σ1 r1 l1 fun i hi => f1 i (by unfold tgs at hi; exact hi)⟩
        rcases s1 with s1 | s1
        · exact .inr ⟨a, ws, rfl, by rw [← hK]; exact s1, hl, nx⟩
        · exact .inl ⟨a, ws, rfl, by rw [← hK]; exact SqT.of s1, hl, nx⟩
      · cases e
  | _ => unfold trTg at h; cases h
theorem s_tgs (N : X.N = c.N) (nd : c.N.Nodup) (calm : X.calm = true) (hK : L.g.K = X.K) (loc : ∀ {x : Str} {i : Nat}, locOf c x = some i → X.N[i]? = some x ∧ Loc X.env.scope x ∧ (X.fn x = true ∨ X.env.scope.names.lookup x = some .local) ∧ ∀ q, xb = some q → q.2.1 ≠ i) (es : List Expr) (ts : List Tg) (h : trTgs c es = some ts) : PGs X es (gIs L.g xb ts) := by
  cases es with
  | nil =>
    unfold trTgs at h
    cases h
    refine pgs_nil.imp fun vs σ H Q ⟨ι, ρ, μ, pvs, ρ1, re, rm, rv, e, k⟩ => ?_
    unfold asgs at e
    split at e
    · cases e
      cases (show vs = [] from rv)
      exact ⟨rfl, k σ re rfl fun _ _ => rfl⟩
    · cases e
  | cons e es =>
    unfold trTgs at h
    cases q : trTg c e with
    | none => rw [q] at h; cases h
    | some t =>
      rw [q] at h
      cases q2 : trTgs c es with
      | none => rw [q2] at h; cases h
      | some ts2 =>
        rw [q2] at h
        cases h
        refine (pgs_cons (s_tg N nd calm hK loc e t q) (s_tgs N nd calm hK loc es ts2 q2) (asgn_map X.env es q)).imp fun vs σ H Q ⟨ι, ρ, μ, pvs, ρ1, re, rm, rv, e, k⟩ => ?_
        unfold asgs at e
        split at e
        · cases e
        · rename_i pv pvs'
          obtain ⟨v, r, rfl, r1, r2⟩ := rv
          cases e1 : asg t pv ρ μ with
          | none => rw [e1] at e; cases e
          | some ρ2 =>
            rw [e1] at e
            refine ⟨v, r, rfl, ι, ρ, μ, pv, ρ2, re, rm, r1, e1, fun σ1 re1 l1 f1 => ?_⟩
            refine ⟨ι, ρ2, μ, pvs', ρ1, re1, rm, r2, e, fun σ2 re2 l2 f2 => k σ2 re2 (l2.trans l1) fun i hi => ?_⟩
            unfold tgss at hi
            rw [f2 i fun z => hi (List.mem_append_right _ z), f1 i fun z => hi (List.mem_append_left _ z)]
end
end
end BW
set_option maxHeartbeats 4000000
/-! The translation is sound: what is walked. -/
namespace BW
open PySem PySem.Spec PyProof.Rows L2
structure RIt (g : G) (J : L2.It) (q : List PV × Sts) (H : Hp) (ι : List Addr) (μ : Store) : Prop where
  go : ∀ (i : Nat) (H' : Hp) (ι' : List Addr) (μ' : Store) (p : PV), q.1[i]? = some p → Ext H ι μ H' ι' μ' → RM g H' ι' μ' → stand μ' q.2 → J.go i H' ∧ ∀ x H'', J.yld i H' x H'' → Ext H' ι' μ' H'' ι' μ' ∧ RM g H'' ι' μ' ∧ RV g H'' ι' p x
  stop : ∀ (H' : Hp) (ι' : List Addr) (μ' : Store), Ext H ι μ H' ι' μ' → RM g H' ι' μ' → stand μ' q.2 → J.stop q.1.length H'
def RIf (g : G) : Hp → List Addr → List PV × Sts → L2.It → Prop := fun H ι q J => ∀ μ, RM g H ι μ → RIt g J q H ι μ
theorem Fin.bind2 {g : G} {W : WX} {σ : L2.St} {α β γ δ : Type} {R : Hp → List Addr → α → β → Prop} {S : Hp → List Addr → γ → δ → Prop} {H : Hp} {ι : List Addr} {μ : Store} {r : Res α} {f : α → Store → Res γ} {Q : δ → Hp → Prop} (h : Fin g W σ S H ι μ (r.bind f) Q) :
    Fin g W σ R H ι μ r fun v H1 => ∃ a ι1 μ1, r = .ok a μ1 ∧ Ext H ι μ H1 ι1 μ1 ∧ RM g H1 ι1 μ1 ∧ R H1 ι1 a v ∧ Fin g W σ S H1 ι1 μ1 (f a μ1) Q := by
  cases r with
  | ok a μ1 => exact fun v H1 ι1 x m q => ⟨a, ι1, μ1, rfl, x, m, q, Fin.ext x h⟩
  | ex e μ1 => exact h
  | bad => exact h
section
variable {g : G} {H : Hp} {ι : List Addr} {μ : Store}
theorem lat {l : Nat} {a : Addr} {xs : List PV} {H' : Hp} {ι' : List Addr} {μ' : Store} (ia : ι[l]? = some a) (x : Ext H ι μ H' ι' μ') (m : RM g H' ι' μ') (st : listAt μ' (.loc l) = some xs) : ∃ vs, SqL g.K H' a vs ∧ RVs g H' ι' xs vs := by
  obtain ⟨b, vs, e, s1, t1⟩ := rm_list m st (show RV g H' ι' (.loc l) (.ref a) from ⟨a, get_pre x.pre ia, rfl⟩)
  cases e
  exact ⟨vs, s1, t1⟩
theorem rit_list {l : Nat} {a : Addr} {xs : List PV} (ia : ι[l]? = some a) : RIt g (Itl g.K a) (xs, [(l, xs)]) H ι μ := by
  refine ⟨fun i H' ι' μ' p hp x m st => ?_, fun H' ι' μ' x m st => ?_⟩
  · obtain ⟨vs, s1, t1⟩ := lat ia x m (st _ (List.mem_singleton.mpr rfl))
    obtain ⟨v, hv, rv⟩ := t1.get hp
    refine ⟨⟨vs, v, s1, hv⟩, fun y H'' ⟨e, q⟩ => ?_⟩
    subst e
    have := q vs s1
    rw [hv] at this; cases this
    exact ⟨.refl, m, rv⟩
  · obtain ⟨vs, s1, t1⟩ := lat ia x m (st _ (List.mem_singleton.mpr rfl))
    exact ⟨vs, s1, Nat.le_of_eq t1.length.symm⟩
theorem rit_tup {a : Addr} {xs : List PV} {vs : List V} (rm : RM g H ι μ) (s : H a = some (.tup vs)) (t : RVs g H ι xs vs) : RIt g (Itt g.K a) (xs, []) H ι μ := by
  refine ⟨fun i H' ι' μ' p hp x m st => ?_, fun H' ι' μ' x m st => ?_⟩
  · have s1 : SqT g.K _ a vs := SqT.of (rm.tup x s)
    have t1 := t.mono rm x
    obtain ⟨v, hv, rv⟩ := t1.get hp
    refine ⟨⟨vs, v, s1, hv⟩, fun y H'' ⟨e, q⟩ => ?_⟩
    subst e
    have := q vs s1
    rw [hv] at this; cases this
    exact ⟨.refl, m, rv⟩
  · exact ⟨vs, SqT.of (rm.tup x s), Nat.le_of_eq t.length.symm⟩
theorem rngV_get {lo c : Int} {n i : Nat} {p : PV} (h : (rngV lo c n)[i]? = some p) : i < n ∧ p = .int (lo + (i : Nat) * c) := by
  unfold rngV at h
  rw [List.getElem?_map] at h
  cases e : (List.range n)[i]? with
  | none => rw [e] at h; cases h
  | some k =>
    rw [e] at h
    obtain ⟨h1, h2⟩ := List.getElem?_eq_some_iff.mp e
    simp at h1 h2
    subst h2
    cases h
    exact ⟨h1, rfl⟩
theorem rngV_len {lo c : Int} {n : Nat} : (rngV lo c n).length = n := by unfold rngV; simp
theorem rit_rng {lo : Int} {n : Nat} : RIt g (Itr lo n) (rngV lo 1 n, []) H ι μ := by
  refine ⟨fun i H' ι' μ' p hp x m st => ?_, fun H' ι' μ' x m st => ?_⟩
  · obtain ⟨h1, rfl⟩ := rngV_get hp
    refine ⟨h1, fun y H'' ⟨e, q⟩ => ?_⟩
    subst e; subst q
    exact ⟨.refl, m, by show _ = _; rw [Int.mul_one]⟩
  · exact Nat.le_of_eq rngV_len.symm
theorem rit_rngC {lo c : Int} {n : Nat} : RIt g (Itc lo c n) (rngV lo c n, []) H ι μ := by
  refine ⟨fun i H' ι' μ' p hp x m st => ?_, fun H' ι' μ' x m st => ?_⟩
  · obtain ⟨h1, rfl⟩ := rngV_get hp
    refine ⟨h1, fun y H'' ⟨e, q⟩ => ?_⟩
    subst e; subst q
    exact ⟨.refl, m, rfl⟩
  · exact Nat.le_of_eq rngV_len.symm
theorem rit_rev {l : Nat} {a : Addr} {xs : List PV} (ia : ι[l]? = some a) : RIt g (Itv g.K a xs.length) (xs.reverse, [(l, xs)]) H ι μ := by
  refine ⟨fun i H' ι' μ' p hp x m st => ?_, fun H' ι' μ' x m st => ?_⟩
  · obtain ⟨vs, s1, t1⟩ := lat ia x m (st _ (List.mem_singleton.mpr rfl))
    have hi : i < xs.length := by
      have := (List.getElem?_eq_some_iff.mp hp).1
      simpa using this
    have hp' : xs[xs.length - 1 - i]? = some p := by
      rw [List.getElem?_reverse hi] at hp
      exact hp
    obtain ⟨v, hv, rv⟩ := t1.get hp'
    refine ⟨⟨hi, vs, v, s1, hv⟩, fun y H'' ⟨e, q⟩ => ?_⟩
    subst e
    have := q vs s1
    rw [hv] at this; cases this
    exact ⟨.refl, m, rv⟩
  · show xs.length ≤ _
    simp
theorem rit_str {s : Str} : RIt g (Its s) (s.cps.toList.map signPV, []) H ι μ := by
  refine ⟨fun i H' ι' μ' p hp x m st => ?_, fun H' ι' μ' x m st => ?_⟩
  · rw [List.getElem?_map] at hp
    cases e : s.cps.toList[i]? with
    | none => rw [e] at hp; cases hp
    | some c =>
      rw [e] at hp
      cases hp
      have e' : s.cps[i]? = some c := by rw [← Array.getElem?_toList]; exact e
      refine ⟨(Array.getElem?_eq_some_iff.mp e').1, fun y H'' ⟨e1, c', e2, e3⟩ => ?_⟩
      subst e1; subst e3
      rw [e'] at e2; cases e2
      exact ⟨.refl, m, rfl⟩
  · show s.cps.size ≤ _
    simp
theorem pair_rv {T : Addr} {x y : PV} {v w : V} {H : Hp} {ι : List Addr} {μ : Store} (m : RM g H ι μ) (hT : H T = none) (r1 : RV g H ι x v) (r2 : RV g H ι y w) : Ext H ι μ (upd H T (.tup [v, w])) ι μ ∧ RM g (upd H T (.tup [v, w])) ι μ ∧ RV g (upd H T (.tup [v, w])) ι (.tup [x, y]) (.ref T) :=
  ⟨Ext.laid hT, RM.laid m hT, T, [v, w], rfl, upd_same, show RVs g _ ι [x, y] [v, w] from ⟨v, [w], rfl, r1.mono m (Ext.laid hT), w, [], rfl, r2.mono m (Ext.laid hT), rfl⟩⟩
theorem rit_enum {l : Nat} {a : Addr} {xs : List PV} (ia : ι[l]? = some a) : RIt g (Ite g.K a) (xs.mapIdx fun k v => .tup [.int (k : Nat), v], [(l, xs)]) H ι μ := by
  refine ⟨fun i H' ι' μ' p hp x m st => ?_, fun H' ι' μ' x m st => ?_⟩
  · obtain ⟨vs, s1, t1⟩ := lat ia x m (st _ (List.mem_singleton.mpr rfl))
    rw [List.getElem?_mapIdx] at hp
    cases e : xs[i]? with
    | none => rw [e] at hp; cases hp
    | some p0 =>
      rw [e] at hp
      cases hp
      obtain ⟨v, hv, rv⟩ := t1.get e
      refine ⟨⟨vs, v, s1, hv⟩, fun y H'' ⟨T, y0, e1, e2, e3, q⟩ => ?_⟩
      have := q vs s1
      rw [hv] at this; cases this
      subst e1; subst e3
      exact pair_rv m e2 rfl rv
  · obtain ⟨vs, s1, t1⟩ := lat ia x m (st _ (List.mem_singleton.mpr rfl))
    refine ⟨vs, s1, ?_⟩
    rw [List.length_mapIdx]
    exact Nat.le_of_eq t1.length.symm
theorem rit_zip {l k : Nat} {a b : Addr} {xs ys : List PV} (ia : ι[l]? = some a) (ib : ι[k]? = some b) : RIt g (Itz g.K a b) (List.zipWith (fun u v => .tup [u, v]) xs ys, [(l, xs)] ++ [(k, ys)]) H ι μ := by
  refine ⟨fun i H' ι' μ' p hp x m st => ?_, fun H' ι' μ' x m st => ?_⟩
  · obtain ⟨vs, s1, t1⟩ := lat (xs := xs) ia x m (st (l, xs) (by simp))
    obtain ⟨ws, s2, t2⟩ := lat (xs := ys) ib x m (st (k, ys) (by simp))
    rw [List.getElem?_zipWith] at hp
    cases e : xs[i]? with
    | none => rw [e] at hp; cases hp
    | some p0 =>
      cases e2 : ys[i]? with
      | none => rw [e, e2] at hp; cases hp
      | some q0 =>
        rw [e, e2] at hp
        cases hp
        obtain ⟨v, hv, rv⟩ := t1.get e
        obtain ⟨w, hw, rw_⟩ := t2.get e2
        refine ⟨⟨vs, ws, v, w, s1, s2, hv, hw⟩, fun y H'' ⟨T, y0, z0, e1, e2, e3, q1, q2⟩ => ?_⟩
        have z1 := q1 vs s1
        have z2 := q2 ws s2
        rw [hv] at z1; cases z1
        rw [hw] at z2; cases z2
        subst e1; subst e3
        exact pair_rv m e2 rv rw_
  · obtain ⟨vs, s1, t1⟩ := lat (xs := xs) ia x m (st (l, xs) (by simp))
    obtain ⟨ws, s2, t2⟩ := lat (xs := ys) ib x m (st (k, ys) (by simp))
    have h1 := t1.length
    have h2 := t2.length
    refine ⟨vs, ws, s1, s2, ?_⟩
    rw [List.length_zipWith]
    omega
end
section
variable {L : Lk} {n : Nat} {c : TC} {xb : XB} {W : WX} {X : Cx}
abbrev SI (L : Lk) (n : Nat) (xb : XB) (W : WX) (X : Cx) (tg e : Expr) (i : BW.It) : Prop := PI X tg e (tI L.g xb W (RIf L.g) (evIt L.T.P (L.D n) xb.v i))
theorem si_seq (C : CtxE L n c xb W X) {tg e : Expr} {ie : IE} (h : SE L n xb W X e ie) : SI L n xb W X tg e (.seq ie) := by
  have hK : L.g.K = X.K := C.gK
  refine (PI.or (pi_list h) (PI.or (pi_tup h) (pi_str h))).imp fun σ H R ⟨ι, ρ, μ, re, rm, q⟩ => ?_
  have q : Fin L.g W σ (RIf L.g) H ι μ ((evE L.T.P (L.D n) xb.v ie ρ μ).bind fun x μ => Res.ofO (seqOf μ x) μ) R := by rw [evIt] at q; exact q
  cases hr : evE L.T.P (L.D n) xb.v ie ρ μ with
  | bad => rw [hr] at q; exact q.elim
  | ex e μ1 => rw [hr] at q; exact .inl ⟨ι, ρ, μ, re, rm, by rw [hr]; exact q⟩
  | ok p μ1 =>
    rw [hr] at q
    have q : Fin L.g W σ (RIf L.g) H ι μ (Res.ofO (seqOf μ1 p) μ1) R := q
    cases p with
    | tup xs =>
      refine .inr (.inl ⟨ι, ρ, μ, re, rm, ?_⟩)
      rw [hr]
      rintro v H' ι' x m ⟨a, vs, e, s1, t1⟩
      exact ⟨a, e, ⟨vs, by rw [← hK]; exact SqT.of s1⟩, by rw [← hK]; exact q _ H' ι' x m fun μ2 m2 => rit_tup m2 s1 t1⟩
    | str s =>
      refine .inr (.inr ⟨ι, ρ, μ, re, rm, ?_⟩)
      rw [hr]
      intro v H' ι' x m rv
      cases (show v = .str s from rv)
      exact ⟨s, rfl, q _ H' ι' x m fun μ2 m2 => rit_str⟩
    | loc l =>
      refine .inl ⟨ι, ρ, μ, re, rm, ?_⟩
      rw [hr]
      rintro v H' ι' x m rv
      have q : Fin L.g W σ (RIf L.g) H ι μ (Res.ofO ((listAt μ1 (.loc l)).map fun xs => (xs, [(l, xs)])) μ1) R := q
      cases e1 : listAt μ1 (.loc l) with
      | none => rw [e1] at q; exact q.elim
      | some xs =>
        rw [e1] at q
        obtain ⟨a, vs, e, s1, t1⟩ := rm_list m e1 rv
        obtain ⟨b, ib, e2⟩ := rv
        rw [e] at e2; cases e2
        exact ⟨a, e, ⟨vs, by rw [← hK]; exact s1⟩, by rw [← hK]; exact q _ H' ι' x m fun μ2 m2 => rit_list ib⟩
    | _ => exact q.elim
theorem gl_free (C : CtxE L n c xb W X) {x : Str} (hx : globOf L.T c x = some .free) : Gl X x ∧ X.mg x = none := by
  obtain ⟨hg, ent, hd⟩ := C.gl hx
  cases ent with
  | free hm hnn => exact ⟨hg, hm⟩
theorem pa1 {e : Expr} {ie : IE} (hn : nst e = true) (h : SE L n xb W X e ie) : PA X [e] (fun σ H Q => tE L.g xb W L.T.P (L.D n) ie σ H fun v H1 => Q [v] H1) := (pa_cons h pa_nil (star_cons hn [] _)).imp fun σ H Q z => z
theorem st1 {e : Expr} (hn : nst e = true) (env : PySem.Env) : starEach [e] env = [(false, eval e env)] := star_cons hn [] env
theorem seq_loc {μ : Store} {l : Nat} {q : List PV × Sts} (h : seqOf μ (.loc l) = some q) : ∃ xs, listAt μ (.loc l) = some xs ∧ q = (xs, [(l, xs)]) := by
  have h : ((listAt μ (.loc l)).map fun xs => (xs, [(l, xs)])) = some q := h
  cases e : listAt μ (.loc l) with
  | none => rw [e] at h; cases h
  | some xs => rw [e] at h; cases h; exact ⟨xs, rfl, rfl⟩
theorem si_enum (C : CtxE L n c xb W X) {e : Expr} {ie : IE} {es : List Expr} {k : Nat} {p p2 pos : Pos} (hx : globOf L.T c "enumerate" = some .free) (hn : nst e = true) (h : SE L n xb W X e ie) : SI L n xb W X (.Tuple es k p2) (.Call (.Name "enumerate" p) [e] [] pos) (.enum ie) := by
  have hK : L.g.K = X.K := C.gK
  obtain ⟨hg, hm⟩ := gl_free C hx
  refine (pi_enum hg hm (pa1 hn h) (st1 hn _)).imp fun σ H R h => ?_
  have h := tI_congr (r' := fun ρ μ => (evE L.T.P (L.D n) xb.v ie ρ μ).bind fun x μ => Res.ofO ((seqOf μ x).bind fun q => match x with
    | .loc _ => some (q.1.mapIdx fun k v => .tup [.int (k : Nat), v], q.2)
    | _ => none) μ) (fun ρ μ => by first | (rw [evIt]; done) | (rw [evIt]; rfl)) h
  refine tI_mono (tI_bind (R := RVf L.g) (S := RIf L.g) (f := fun _ x μ => Res.ofO ((seqOf μ x).bind fun q => match x with
    | .loc _ => some (q.1.mapIdx fun k v => .tup [.int (k : Nat), v], q.2)
    | _ => none) μ) h) fun v H1 ⟨px, ι1, ρ, μ1, re, rm, rx, h1⟩ => ?_
  cases px with
  | loc l =>
    cases e1 : seqOf μ1 (.loc l) with
    | none => rw [e1] at h1; exact h1.elim
    | some q =>
      rw [e1] at h1
      obtain ⟨xs, e2, rfl⟩ := seq_loc e1
      obtain ⟨a, vs, e, s1, t1⟩ := rm_list rm e2 rx
      obtain ⟨b, ib, e3⟩ := rx
      rw [e] at e3; cases e3
      exact ⟨a, vs, by rw [e], by rw [← hK]; exact s1, by rw [← hK]; exact h1.here rm fun μ2 m2 => rit_enum ib⟩
  | tup xs => exact h1.elim
  | _ => exact h1.elim
theorem s_lstRev (C : CtxE L n c xb W X) (hot : c.hot = false) {x : Str} {e : Expr} {ie : IE} {p p2 pos pos2 : Pos} (hl : globOf L.T c "list" = some (.bi .list)) (hx : globOf L.T c "reversed" = some .free) (hn : nst e = true) (h : SE L n xb W X e ie) :
    SE L n xb W X (.Call (.Name "list" p) [.Call (.Name "reversed" p2) [e] [] pos2] [] pos) (.revl ie) := by
  have hK : L.g.K = X.K := C.gK
  obtain ⟨hg2, hm2⟩ := gl_free C hx
  obtain ⟨hg, ent, hd⟩ := C.gl hl
  cases ent with
  | bi _ hm hv hne =>
    refine (pe_lstRev (C.calm hot) hg hm hg2 hm2 h (st1 hn _)).imp fun σ H Q h => ?_
    have h := tI_congr (r' := fun ρ μ => (evE L.T.P (L.D n) xb.v ie ρ μ).bind fun x μ => (Res.ofO (listAt μ x) μ).bind fun xs μ => .ok (.loc μ.length) (μ ++ [.lst xs.reverse])) (fun ρ μ => by first | (rw [evE]; done) | (rw [evE]; rfl)) h
    refine tI_mono (tI_bind (R := RVf L.g) (S := RVf L.g) (f := fun _ x μ => (Res.ofO (listAt μ x) μ).bind fun xs μ => .ok (.loc μ.length) (μ ++ [.lst xs.reverse])) h) fun v H1 ⟨px, ι1, ρ, μ1, re, rm, rx, h1⟩ => ?_
    cases px with
    | loc l =>
      cases e1 : listAt μ1 (.loc l) with
      | none => rw [e1] at h1; exact h1.elim
      | some xs =>
        rw [e1] at h1
        obtain ⟨a, vs, rfl, hs, rs⟩ := rm_list rm e1 rx
        rw [hK] at hs
        refine ⟨a, vs, rfl, hs, fun q hq => ?_⟩
        have x2 := Ext.push (o := .lst vs.reverse) (c := .lst xs.reverse) rm hq
        have m2 := RM.push (o := .lst vs.reverse) (c := .lst xs.reverse) rm hq ⟨vs.reverse, upd_same, (rs.mono rm x2).rev⟩
        exact h1 _ _ _ x2 m2 ⟨q, by rw [← rm.len]; simp, rfl⟩
    | _ => exact h1.elim
theorem si_rev (C : CtxE L n c xb W X) {tg e : Expr} {ie : IE} {p pos : Pos} (hx : globOf L.T c "reversed" = some .free) (hn : nst e = true) (h : SE L n xb W X e ie) : SI L n xb W X tg (.Call (.Name "reversed" p) [e] [] pos) (.rev ie) := by
  have hK : L.g.K = X.K := C.gK
  obtain ⟨hg, hm⟩ := gl_free C hx
  refine (pi_reversed hg hm (pa1 hn h) (st1 hn _)).imp fun σ H R h => ?_
  have h := tI_congr (r' := fun ρ μ => (evE L.T.P (L.D n) xb.v ie ρ μ).bind fun x μ => Res.ofO ((seqOf μ x).bind fun q => match x with
    | .loc _ => some (q.1.reverse, q.2)
    | _ => none) μ) (fun ρ μ => by first | (rw [evIt]; done) | (rw [evIt]; rfl)) h
  refine tI_mono (tI_bind (R := RVf L.g) (S := RIf L.g) (f := fun _ x μ => Res.ofO ((seqOf μ x).bind fun q => match x with
    | .loc _ => some (q.1.reverse, q.2)
    | _ => none) μ) h) fun v H1 ⟨px, ι1, ρ, μ1, re, rm, rx, h1⟩ => ?_
  cases px with
  | loc l =>
    cases e1 : seqOf μ1 (.loc l) with
    | none => rw [e1] at h1; exact h1.elim
    | some q =>
      rw [e1] at h1
      obtain ⟨xs, e2, rfl⟩ := seq_loc e1
      obtain ⟨a, vs, e, s1, t1⟩ := rm_list rm e2 rx
      obtain ⟨b, ib, e3⟩ := rx
      rw [e] at e3; cases e3
      exact ⟨a, vs, by rw [e], by rw [← hK]; exact s1, by rw [← hK, ← t1.length]; exact h1.here rm fun μ2 m2 => rit_rev ib⟩
  | tup xs => exact h1.elim
  | _ => exact h1.elim
theorem si_zip (C : CtxE L n c xb W X) {a b : Expr} {ia ib : IE} {es : List Expr} {k : Nat} {p p2 pos : Pos} (hx : globOf L.T c "zip" = some .free) (hn : nst a = true) (hn2 : nst b = true) (ha : SE L n xb W X a ia) (hb : SE L n xb W X b ib) :
    SI L n xb W X (.Tuple es k p2) (.Call (.Name "zip" p) [a, b] [] pos) (.zip ia ib) := by
  have hK : L.g.K = X.K := C.gK
  obtain ⟨hg, hm⟩ := gl_free C hx
  have pa : PA X [a, b] (fun σ H Q => tE L.g xb W L.T.P (L.D n) ia σ H fun v H1 => tE L.g xb W L.T.P (L.D n) ib σ H1 fun w H2 => Q [v, w] H2) := (pa_cons ha (pa1 hn2 hb) (star_cons hn [b] _)).imp fun σ H Q z => z
  refine (pi_zip hg hm pa (star_cons hn [b] _) (star_any fun e he => by rcases List.mem_cons.mp he with rfl | he; exact hn2; cases he)).imp fun σ H R h => ?_
  have h := tI_congr (r' := fun ρ μ => (evE L.T.P (L.D n) xb.v ia ρ μ).bind fun x μ => (evE L.T.P (L.D n) xb.v ib ρ μ).bind fun y μ => Res.ofO ((seqOf μ x).bind fun q => (seqOf μ y).bind fun r => match x, y with
    | .loc _, .loc _ => some (List.zipWith (fun u v => .tup [u, v]) q.1 r.1, q.2 ++ r.2)
    | _, _ => none) μ) (fun ρ μ => by first | (rw [evIt]; done) | (rw [evIt]; rfl)) h
  refine tI_mono (tI_bind (R := RVf L.g) (S := RIf L.g) (f := fun ρ x μ => (evE L.T.P (L.D n) xb.v ib ρ μ).bind fun y μ => Res.ofO ((seqOf μ x).bind fun q => (seqOf μ y).bind fun r => match x, y with
    | .loc _, .loc _ => some (List.zipWith (fun u v => .tup [u, v]) q.1 r.1, q.2 ++ r.2)
    | _, _ => none) μ) h) fun v H1 ⟨px, ι1, ρ, μ1, re, rm, rx, h1⟩ => ?_
  refine ⟨ι1, ρ, μ1, re, rm, (Fin.bind (R := RVf L.g) h1).imp fun py μ2 w H2 ι2 e2 x2 m2 r2 ⟨py, ι3, μ3, x3, m3, r3, h3⟩ => ?_⟩
  have rx := rx.mono rm x3
  cases px with
  | loc l =>
    cases e1 : seqOf μ3 (.loc l) with
    | none => rw [e1] at h3; exact h3.elim
    | some q =>
      rw [e1] at h3
      obtain ⟨xs, e2, rfl⟩ := seq_loc e1
      cases py with
      | loc l2 =>
        cases e4 : seqOf μ3 (.loc l2) with
        | none => simp only [Option.bind_some] at h3; rw [e4] at h3; exact h3.elim
        | some q2 =>
          simp only [Option.bind_some] at h3
          rw [e4] at h3
          obtain ⟨ys, e5, rfl⟩ := seq_loc e4
          obtain ⟨a, vs, e, s1, t1⟩ := rm_list m3 e2 rx
          obtain ⟨a', ia, e3⟩ := rx
          rw [e] at e3; cases e3
          obtain ⟨b, ws, e', s2, t2⟩ := rm_list m3 e5 r3
          obtain ⟨b', ib, e3⟩ := r3
          rw [e'] at e3; cases e3
          exact ⟨a, b, vs, ws, by rw [e, e'], by rw [← hK]; exact s1, by rw [← hK]; exact s2, by rw [← hK]; exact h3.here m3 fun μ2 m2 => rit_zip ia ib⟩
      | tup ys => exact h3.elim
      | _ => exact h3.elim
  | tup xs => 
    simp only [seqOf, Option.bind_some] at h3
    cases e4 : seqOf μ3 py with
    | none => unfold seqOf at e4; rw [e4] at h3; exact h3.elim
    | some q2 => unfold seqOf at e4; rw [e4] at h3; exact h3.elim
  | str s =>
    simp only [seqOf, Option.bind_some] at h3
    cases e4 : seqOf μ3 py with
    | none => unfold seqOf at e4; rw [e4] at h3; exact h3.elim
    | some q2 => unfold seqOf at e4; rw [e4] at h3; exact h3.elim
  | _ => exact h3.elim
theorem evEs_len {P : Prog} {D : Den} {xv : Option PX} {ρ : BW.Env} : ∀ {is : List IE} {μ μ' : Store} {ps : List PV}, evEs P D xv is ρ μ = .ok ps μ' → ps.length = is.length
  | [], _, _, _, h => by
    rw [evEs_nil'] at h
    cases h; rfl
  | i :: is, _, _, _, h => by
    rw [evEs_cons'] at h
    obtain ⟨x, μ1, _, h⟩ := bind_ok h
    obtain ⟨xs, μ2, h2, h⟩ := bind_ok h
    cases h
    simp [evEs_len h2]
theorem ofO_here {g : G} {σ : L2.St} {H : Hp} {ι : List Addr} {μ : Store} {vs : Option (List PV)} {R : L2.It → Hp → Prop} (rm : RM g H ι μ) (h : Fin g W σ (RIf g) H ι μ (Res.ofO (vs.map fun vs => (vs, ([] : Sts))) μ) R) : ∃ v, vs = some v ∧ ∀ J, RIf g H ι (v, []) J → R J H := by
  cases vs with
  | none => exact h.elim
  | some v => exact ⟨v, rfl, fun J hJ => h.here rm hJ⟩
theorem si_rng (C : CtxE L n c xb W X) {tg : Expr} {as : List Expr} {is : List IE} {p pos : Pos} (hx : globOf L.T c "range" = some .free) (hn : ∀ a ∈ as, nst a = true) (hl : as.length = is.length) (h : SA L n xb W X as is) (h4 : as.length < 4) (h0 : 0 < as.length) :
    SI L n xb W X tg (.Call (.Name "range" p) as [] pos) (.rng is) := by
  obtain ⟨hg, hm⟩ := gl_free C hx
  have key : ∀ (σ : L2.St) (H : Hp) (R : L2.It → Hp → Prop), tI L.g xb W (RIf L.g) (evIt L.T.P (L.D n) xb.v (.rng is)) σ H R → tEs L.g xb W L.T.P (L.D n) is σ H fun vs H1 => ∃ ps ι v, ps.length = as.length ∧ RVs L.g H1 ι ps vs ∧ rngOf ps = some v ∧ ∀ J, RIf L.g H1 ι (v, []) J → R J H1 := by
    rintro σ H R ⟨ι, ρ, μ, re, rm, q⟩
    have q : Fin L.g W σ (RIf L.g) H ι μ ((evEs L.T.P (L.D n) xb.v is ρ μ).bind fun xs μ => Res.ofO ((rngOf xs).map fun vs => (vs, [])) μ) R := by rw [evIt] at q; exact q
    refine ⟨ι, ρ, μ, re, rm, (Fin.bind2 (R := RVsf L.g) q).imp fun ps μ2 vs H2 ι2 e2 x2 m2 r2 ⟨ps', ι3, μ3, e3, x3, m3, r3, h3⟩ => ?_⟩
    obtain ⟨v, hv, k⟩ := ofO_here m3 h3
    exact ⟨ps', ι3, v, by rw [hl]; exact evEs_len e3, r3, hv, k⟩
  match as, h0, h4, hn, hl, h, key with
  | [a], _, _, hn, hl, h, key =>
    refine (pi_range1 hg hm h (st1 (hn a List.mem_cons_self) _)).imp fun σ H R q => tI_mono (key σ H R q) fun vs H1 ⟨ps, ι, v, hl, rv, e, k⟩ => ?_
    unfold rngOf at e
    split at e
    · obtain ⟨w, rfl, r1⟩ := rvs1 rv
      cases r1
      split at e
      · rename_i b
        cases e
        exact ⟨_, rfl, by have := b.2.2.1; omega, b.2.2.2, k _ fun μ m => rit_rng⟩
      · cases e
    · cases hl
    · cases hl
    · cases e
  | [a, b], _, _, hn, hl, h, key =>
    have hb : nst b = true := hn b (by simp)
    refine (pi_range2 hg hm h ((star_cons (hn a List.mem_cons_self) [b] _).trans (by rw [st1 hb])) (st1 hb _)).imp fun σ H R q => tI_mono (key σ H R q) fun vs H1 ⟨ps, ι, v, hl, rv, e, k⟩ => ?_
    unfold rngOf at e
    split at e
    · cases hl
    · obtain ⟨w, u, rfl, r1, r2⟩ := rvs2 rv
      cases r1; cases r2
      split at e
      · rename_i b
        cases e
        exact ⟨_, _, rfl, b, k _ fun μ m => rit_rng⟩
      · cases e
    · cases hl
    · cases e
  | [a, b, d], _, _, hn, hl, h, key =>
    have hb : nst b = true := hn b (by simp)
    have hd : nst d = true := hn d (by simp)
    refine (pi_range3 hg hm h (star_cons (hn a List.mem_cons_self) [b, d] _) (star_any fun e he => hn e (List.mem_cons_of_mem _ he))).imp fun σ H R q => tI_mono (key σ H R q) fun vs H1 ⟨ps, ι, v, hl, rv, e, k⟩ => ?_
    unfold rngOf at e
    split at e
    · cases hl
    · cases hl
    · obtain ⟨w, q1, rfl, r1, rv⟩ := rv
      obtain ⟨u, z, rfl, r2, r3⟩ := rvs2 rv
      cases r1; cases r2; cases r3
      split at e
      · rename_i b
        cases e
        exact ⟨_, _, _, _, rfl, ⟨b.1, b.2.1, b.2.2.1, (Int.toNat_of_nonneg b.2.2.2).symm⟩, k _ fun μ m => rit_rngC⟩
      · cases e
    · cases e
theorem si_rrng (C : CtxE L n c xb W X) {tg : Expr} {as : List Expr} {is : List IE} {p p2 pos pos2 : Pos} (hx : globOf L.T c "range" = some .free) (hx2 : globOf L.T c "reversed" = some .free) (hn : ∀ a ∈ as, nst a = true) (h4 : as.length < 3) (h0 : 0 < as.length)
    (h : (∃ a ia, as = [a] ∧ is = [ia] ∧ SE L n xb W X a ia) ∨ ∃ a b ia ib, as = [a, b] ∧ is = [ia, ib] ∧ SE L n xb W X a ia ∧ SE L n xb W X b ib) :
    SI L n xb W X tg (.Call (.Name "reversed" p) [.Call (.Name "range" p2) as [] pos2] [] pos) (.rrng is) := by
  obtain ⟨hg, hm⟩ := gl_free C hx
  obtain ⟨hg2, hm2⟩ := gl_free C hx2
  rcases h with ⟨a, ia, rfl, rfl, ha⟩ | ⟨a, b, ia, ib, rfl, rfl, ha, hb⟩
  · refine (pi_revR hg2 hm2 (prg_1 hg hm ha (star_cons (hn a List.mem_cons_self) [] _)) (star_cons rfl [] _)).imp fun σ H R h => ?_
    have h := tI_congr (r' := fun ρ μ => (evE L.T.P (L.D n) xb.v ia ρ μ).bind fun x μ => Res.ofO ((rrngOf [x]).map fun vs => (vs, [])) μ) (fun ρ μ => by simp only [evIt, evEs_cons', evEs_nil', bind_assoc', Res.bind_ok]) h
    refine tI_mono (tI_bind (R := RVf L.g) (S := RIf L.g) (f := fun _ x μ => Res.ofO ((rrngOf [x]).map fun vs => (vs, [])) μ) h) fun v H1 ⟨px, ι1, ρ, μ1, re, rm, rx, h1⟩ => ?_
    obtain ⟨v2, e, k⟩ := ofO_here rm h1
    cases px with
    | int i =>
      cases rx
      have e : (if rng1 0 i then some (rngV (0 + (i.toNat : Nat) - 1) (-1) i.toNat) else none) = some v2 := e
      split at e
      · rename_i b
        cases e
        refine ⟨i, rfl, by omega, by omega, by have := b.2.2.1; omega, b.2.2.2, ?_⟩
        rw [Int.sub_zero]
        exact k _ fun μ m => rit_rngC
      · cases e
    | _ => cases e
  · refine (pi_revR hg2 hm2 (prg_2 hg hm ha hb (star_cons (hn a List.mem_cons_self) [b] _) (star_cons (hn b (by simp)) [] _) (star_any fun e he => hn e (List.mem_cons_of_mem _ he))) (star_cons rfl [] _)).imp fun σ H R h => ?_
    have h := tI_congr (r' := fun ρ μ => (evE L.T.P (L.D n) xb.v ia ρ μ).bind fun x μ => (evE L.T.P (L.D n) xb.v ib ρ μ).bind fun y μ => Res.ofO ((rrngOf [x, y]).map fun vs => (vs, [])) μ) (fun ρ μ => by simp only [evIt, evEs_cons', evEs_nil', bind_assoc', Res.bind_ok]) h
    refine tI_mono (tI_bind (R := RVf L.g) (S := RIf L.g) (f := fun ρ x μ => (evE L.T.P (L.D n) xb.v ib ρ μ).bind fun y μ => Res.ofO ((rrngOf [x, y]).map fun vs => (vs, [])) μ) h) fun v H1 ⟨px, ι1, ρ, μ1, re, rm, rx, h1⟩ => ?_
    refine ⟨ι1, ρ, μ1, re, rm, (Fin.bind (R := RVf L.g) h1).imp fun py μ2 w H2 ι2 e2 x2 m2 r2 ⟨py, ι3, μ3, x3, m3, r3, h3⟩ => ?_⟩
    obtain ⟨v2, e, k⟩ := ofO_here m3 h3
    cases px with
    | int i =>
      cases rx
      cases py with
      | int j =>
        cases r3
        have e : (if rng1 i j then some (rngV (i + ((j - i).toNat : Nat) - 1) (-1) (j - i).toNat) else none) = some v2 := e
        split at e
        · rename_i b
          cases e
          exact ⟨i, j, rfl, rfl, b.1, b.2.1, b.2.2.1, b.2.2.2, k _ fun μ m => rit_rngC⟩
        · cases e
      | _ => cases e
    | _ => cases e
end
end BW
set_option maxHeartbeats 4000000
/-! The translation is sound: list comprehensions. -/
namespace BW
open PySem PySem.Spec PyProof.Rows L2 LamX NdefX
/-! ### a list beside the store -/
section
variable {g : G} {H H' : Hp} {ι ι' : List Addr} {μ μ' : Store}
mutual
theorem RV.mono2 (pre : ι <+: ι') (ht : ∀ a vs, H a = some (.tup vs) → H' a = some (.tup vs)) : ∀ {pv : PV} {v : V}, RV g H ι pv v → RV g H' ι' pv v
  | .non, _, h => h
  | .bl _, _, h => h
  | .int _, _, h => h
  | .str _, _, h => h
  | .tup xs, _, h => by
    obtain ⟨a, vs, e, h1, h2⟩ := h
    exact ⟨a, vs, e, ht _ _ h1, RVs.mono2 pre ht h2⟩
  | .loc n, _, h => by
    obtain ⟨a, e, h1⟩ := h
    exact ⟨a, get_pre pre e, h1⟩
theorem RVs.mono2 (pre : ι <+: ι') (ht : ∀ a vs, H a = some (.tup vs) → H' a = some (.tup vs)) : ∀ {pvs : List PV} {vs : List V}, RVs g H ι pvs vs → RVs g H' ι' pvs vs
  | [], _, h => h
  | p :: ps, _, h => by
    obtain ⟨v, q, e, h1, h2⟩ := h
    exact ⟨v, q, e, RV.mono2 pre ht h1, RVs.mono2 pre ht h2⟩
end
theorem RFs.mono2 (pre : ι <+: ι') (ht : ∀ a vs, H a = some (.tup vs) → H' a = some (.tup vs)) : ∀ {fs : List (Nat × PV)} {vs : List (Str × V)}, RFs g H ι fs vs → RFs g H' ι' fs vs
  | [], _, h => h
  | p :: ps, _, h => by
    obtain ⟨v, q, e, h1, h2⟩ := h
    exact ⟨v, q, e, RV.mono2 pre ht h1, RFs.mono2 pre ht h2⟩
theorem RKs.mono2 (pre : ι <+: ι') (ht : ∀ a vs, H a = some (.tup vs) → H' a = some (.tup vs)) : ∀ {fs : List (List Int × PV)} {vs : List (List Key × V)}, RKs g H ι fs vs → RKs g H' ι' fs vs
  | [], _, h => h
  | p :: ps, _, h => by
    obtain ⟨v, q, e, h1, h2⟩ := h
    exact ⟨v, q, e, RV.mono2 pre ht h1, RKs.mono2 pre ht h2⟩
theorem tup_side {D : Addr} {w w' : List V} (h : H D = some (.lst w)) {a : Addr} {vs : List V} (s : H a = some (.tup vs)) : upd H D (.lst w') a = some (.tup vs) := by
  rw [upd_ne]; exact s; rintro rfl; rw [h] at s; cases s
theorem RM.side {D : Addr} {w w' : List V} (rm : RM g H ι μ) (h : H D = some (.lst w)) (no : ¬ Own ι μ D) : RM g (upd H D (.lst w')) ι μ := by
  have ht : ∀ a vs, H a = some (.tup vs) → upd H D (.lst w') a = some (.tup vs) := fun a vs s => tup_side h s
  refine ⟨rm.len, fun n c e => ?_, rm.sep, fun q hq => tab_keep (rm.tab q hq) fun b o e hm => by
    rw [upd_ne]
    · exact e
    · rintro rfl; rw [h] at e; cases e; cases hm⟩
  obtain ⟨a, e1, rc⟩ := rm.at_ n c e
  refine ⟨a, e1, ?_⟩
  cases c with
  | lst xs =>
    obtain ⟨vs, q, t⟩ := rc
    exact ⟨vs, by rw [upd_ne]; exact q; rintro rfl; exact no ⟨n, _, e1, e, rfl⟩, t.mono2 List.prefix_rfl ht⟩
  | frz xs =>
    obtain ⟨vs, q, t⟩ := rc
    refine ⟨vs, ?_, t.mono2 List.prefix_rfl ht⟩
    rcases q with ⟨o, q⟩ | q
    · exact .inl ⟨o, by rw [upd_ne]; exact q; rintro rfl; rw [h] at q; cases q⟩
    · exact .inr q
  | ins cc fs =>
    obtain ⟨dx, fvs, q, t, ic⟩ := rc
    exact ⟨dx, fvs, by rw [upd_ne]; exact q; rintro rfl; exact no ⟨n, _, e1, e, rfl⟩, t.mono2 List.prefix_rfl ht, ic⟩
  | dic kvs =>
    obtain ⟨dvs, q, t⟩ := rc
    exact ⟨dvs, by rw [upd_ne]; exact q; rintro rfl; exact no ⟨n, _, e1, e, rfl⟩, t.mono2 List.prefix_rfl ht⟩
  | clo v =>
    obtain ⟨cl, c, u, c', h1, h2, h3, h4, h5⟩ := rc
    have k : ∀ {b : Addr} {o : HO}, H b = some o → mutH o = false → upd H D (.lst w') b = some o := fun {b o} e hm => by
      rw [upd_ne]
      · exact e
      · rintro rfl; rw [h] at e; cases e; cases hm
    exact ⟨cl, c, u, c', k h1 rfl, k h2 rfl, h3, k h4 rfl, h5.mono2 List.prefix_rfl ht⟩
  | dead => trivial
theorem Ext.side {H1 : Hp} {ι1 : List Addr} {μ1 : Store} {D : Addr} {o : HO} (x : Ext H1 ι1 μ1 H ι μ) (hD : H1 D = none) : Ext H1 ι1 μ1 (upd H D o) ι μ :=
  ⟨x.pre, fun a o' h n ht => by rw [upd_ne (ne_of_none h hD)]; exact x.stay a o' h n ht, x.new, fun a h => by
    by_cases z : a = D
    · subst z; exact hD
    · rw [upd_ne z] at h; exact x.there a h⟩
/-- the list joins the store -/
theorem RM.adopt {D : Addr} {acc : List PV} {w : List V} (rm : RM g H ι μ) (h : H D = some (.lst w)) (no : ¬ Own ι μ D) (t : RVs g H ι acc w) : RM g H (ι ++ [D]) (μ ++ [.lst acc]) := by
  have pre : ι <+: ι ++ [D] := List.prefix_append _ _
  have ht : ∀ a vs, H a = some (.tup vs) → H a = some (.tup vs) := fun a vs s => s
  have last : ∀ {α : Type} {l : List α} {x y : α} {n : Nat}, (l ++ [x])[n]? = some y → (n < l.length ∧ l[n]? = some y) ∨ (n = l.length ∧ y = x) := by
    intro α l x y n h
    by_cases hn : n < l.length
    · rw [List.getElem?_append_left hn] at h
      exact .inl ⟨hn, h⟩
    · rw [List.getElem?_append_right (by omega)] at h
      cases e : n - l.length with
      | zero => rw [e] at h; exact .inr ⟨by omega, by simpa using h.symm⟩
      | succ k => rw [e] at h; simp at h
  have hl := rm.len
  refine ⟨by simp [hl], fun n c e => ?_, fun n m a c d nm e1 e2 e3 e4 => ?_, rm.tab⟩
  · rcases last e with ⟨hn, e⟩ | ⟨hn, rfl⟩
    · obtain ⟨a, e1, rc⟩ := rm.at_ n c e
      refine ⟨a, get_pre pre e1, ?_⟩
      cases c with
      | lst xs => obtain ⟨vs, q, t⟩ := rc; exact ⟨vs, q, t.mono2 pre ht⟩
      | frz xs => obtain ⟨vs, q, t⟩ := rc; exact ⟨vs, q, t.mono2 pre ht⟩
      | ins cc fs => obtain ⟨dx, fvs, q, t, ic⟩ := rc; exact ⟨dx, fvs, q, t.mono2 pre ht, ic⟩
      | dic kvs => obtain ⟨dvs, q, t⟩ := rc; exact ⟨dvs, q, t.mono2 pre ht⟩
      | clo v => obtain ⟨cl, c, u, c', h1, h2, h3, h4, h5⟩ := rc; exact ⟨cl, c, u, c', h1, h2, h3, h4, h5.mono2 pre ht⟩
      | dead => trivial
    · exact ⟨D, by rw [hn, ← hl]; simp, w, h, t.mono2 pre ht⟩
  · have nf : ∀ {k : Nat} {x : Cell}, ι[k]? = some D → μ[k]? = some x → frz x = true := fun {k x} q1 q2 => by
      cases hx : frz x with
      | true => rfl
      | false => exact absurd ⟨k, x, q1, q2, hx⟩ no
    rcases last e1 with ⟨h1, f1⟩ | ⟨h1, y1⟩
    · rcases last e3 with ⟨h3, f3⟩ | ⟨h3, y3⟩
      · rcases last e2 with ⟨h2, f2⟩ | ⟨h2, y2⟩
        · rcases last e4 with ⟨h4, f4⟩ | ⟨h4, y4⟩
          · exact rm.sep n m a c d nm f1 f2 f3 f4
          · omega
        · subst y2
          exact .inl (nf f1 f3)
      · omega
    · rcases last e2 with ⟨h2, f2⟩ | ⟨h2, y2⟩
      · rcases last e4 with ⟨h4, f4⟩ | ⟨h4, y4⟩
        · subst y1
          exact .inr (nf f2 f4)
        · omega
      · omega
theorem Ext.adopt {H1 : Hp} {ι1 : List Addr} {μ1 : Store} {D : Addr} {c : Cell} (x : Ext H1 ι1 μ1 H ι μ) (hD : H1 D = none) (len : ι.length = μ.length) : Ext H1 ι1 μ1 H (ι ++ [D]) (μ ++ [c]) :=
  ⟨x.pre.trans (List.prefix_append _ _), x.stay, fun a h => by
    rcases own_app len h with z | z
    · exact x.new a z
    · exact .inr (by rw [z]; exact hD), x.there⟩
/-! ### slots forgotten -/
theorem RE.wipe {σ : L2.St} {ρ : BW.Env} (re : RE g none H ι σ ρ) : ∀ vs : List Nat, RE g none H ι (L2.wipe σ vs) (BW.wipe ρ vs)
  | [] => re
  | v :: vs => by
    have ih := RE.wipe re vs
    refine ⟨?_, fun i pv e => ?_, fun q hq => by cases hq⟩
    · unfold L2.wipe BW.wipe
      rw [List.length_set, List.length_set]
      exact ih.1
    · unfold BW.wipe at e
      unfold L2.wipe
      by_cases hv : v = i
      · subst hv
        by_cases hl : v < (BW.wipe ρ vs).length
        · rw [List.getElem?_set_self hl] at e; cases e
        · rw [List.getElem?_eq_none (by simpa using hl)] at e; cases e
      · rw [List.getElem?_set_ne hv] at e ⊢
        exact ih.2 i pv e
theorem wipe_get {σ : L2.St} {i : Nat} : ∀ {vs : List Nat}, (L2.wipe σ vs)[i]? = if i ∈ vs then (σ[i]?).map (fun _ => none) else σ[i]?
  | [] => by simp [L2.wipe]
  | v :: vs => by
    unfold L2.wipe
    by_cases hv : v = i
    · subst hv
      rw [if_pos List.mem_cons_self, List.getElem?_set]
      have hl := wipe_length σ vs
      rw [if_pos rfl]
      by_cases hlt : v < σ.length
      · rw [if_pos (by rw [hl]; exact hlt), List.getElem?_eq_getElem hlt]; rfl
      · rw [if_neg (by rw [hl]; exact hlt), List.getElem?_eq_none (by omega)]; rfl
    · rw [List.getElem?_set_ne hv, wipe_get (vs := vs)]
      by_cases hm : i ∈ vs
      · rw [if_pos hm, if_pos (List.mem_cons_of_mem _ hm)]
      · rw [if_neg hm, if_neg fun z => by rcases List.mem_cons.mp z with z | z; exact hv z.symm; exact hm z]
theorem wipe_eq {σ σ1 : L2.St} {vs : List Nat} (hl : σ1.length = (L2.wipe σ vs).length) (h : ∀ i, i ∉ vs → σ1[i]? = (L2.wipe σ vs)[i]?) : L2.wipe σ1 vs = L2.wipe σ vs := by
  refine List.ext_getElem? fun i => ?_
  rw [wipe_get, wipe_get]
  by_cases hm : i ∈ vs
  · rw [if_pos hm, if_pos hm]
    rw [wipe_length] at hl
    by_cases hlt : i < σ.length
    · rw [List.getElem?_eq_getElem hlt, List.getElem?_eq_getElem (by omega)]; rfl
    · rw [List.getElem?_eq_none (by omega), List.getElem?_eq_none (by omega)]
  · rw [if_neg hm, if_neg hm, h i hm, wipe_get, if_neg hm]
end
abbrev Wno : WX := fun _ _ _ _ => False
/-- the walk of a comprehension -/
theorem lc_walk {g : G} {P : Prog} {Dn : Den} {W : WX} {σ : L2.St} {H : Hp} {Q : VK} {it : BW.It} {t : Tg} {own : List Nat} {cD : BW.Env → Store → Res Bool} {eD : BW.Env → Store → Res PV} {tt : TT} {te : TE} (hsub : ∀ i ∈ tgs t, i ∈ own)
    (htt : ∀ σ H Q, tI g none Wno RB cD σ H Q → tt σ H Q) (hte : ∀ σ H Q, tI g none Wno (RVf g) eD σ H Q → te σ H Q)
    (h : tI g none W (RVf g) (fun ρ μ => (evIt P Dn none it ρ μ).bind fun q μ => (lcDen q.2 (BW.wipe ρ own) t cD eD q.1 [] μ).bind fun xs μ => .ok (.loc μ.length) (μ ++ [.lst xs])) σ H Q) :
    tLc (tI g none W (RIf g) (evIt P Dn none it)) (gI g none t) tt te own σ H Q := by
  refine tI_mono (tI_bind (R := RIf g) (S := RVf g) (f := fun ρ q μ => (lcDen q.2 (BW.wipe ρ own) t cD eD q.1 [] μ).bind fun xs μ => .ok (.loc μ.length) (μ ++ [.lst xs])) h) fun J H1 ⟨q, ι1, ρ, μ1, re, rm, rit, h1⟩ => ?_
  obtain ⟨items, ls⟩ := q
  have rit := rit μ1 rm
  intro D hD
  refine ⟨fun i m H' => m = items.length - i ∧ i ≤ items.length ∧ ∃ (ι' : List Addr) (μ' : Store) (acc : List PV) (w : List V), Ext H1 ι1 μ1 H' ι' μ' ∧ RM g H' ι' μ' ∧ ¬ Own ι' μ' D ∧ H' D = some (.lst w) ∧ RVs g H' ι' acc w ∧
    Fin g W σ (RVf g) H1 ι1 μ1 ((lcDen ls (BW.wipe ρ own) t cD eD (items.drop i) acc μ').bind fun xs μ => .ok (.loc μ.length) (μ ++ [Cell.lst xs])) Q, ⟨_, rfl, Nat.zero_le _, ι1, μ1, [], [], Ext.laid hD, RM.laid rm hD, ?_, upd_same, rfl, by rw [List.drop_zero]; exact h1⟩, ?_⟩
  · intro z
    obtain ⟨_, z, _⟩ := rm.own z; rw [hD] at z; cases z
  rintro i m H' ⟨rfl, hi, ι', μ', acc, w, x', m', no, hDw, racc, h2⟩
  have reb : RE g none H' ι' (L2.wipe σ own) (BW.wipe ρ own) := (re.mono rm x').wipe own
  by_cases hlt : i < items.length
  · have hdrop : items.drop i = items[i] :: items.drop (i + 1) := List.drop_eq_getElem_cons hlt
    rw [hdrop, lcDen] at h2
    split at h2
    rotate_left
    · exact h2.elim
    rename_i st
    obtain ⟨go, yld⟩ := rit.go i H' ι' μ' items[i] (List.getElem?_eq_getElem hlt) x' m' st
    refine .inr ⟨go, fun H2 => ∃ m', m' < items.length - i ∧ (m' = items.length - (i + 1) ∧ i + 1 ≤ items.length ∧ ∃ (ι' : List Addr) (μ' : Store) (acc : List PV) (w : List V), Ext H1 ι1 μ1 H2 ι' μ' ∧ RM g H2 ι' μ' ∧ ¬ Own ι' μ' D ∧ H2 D = some (.lst w) ∧ RVs g H2 ι' acc w ∧
      Fin g W σ (RVf g) H1 ι1 μ1 ((lcDen ls (BW.wipe ρ own) t cD eD (items.drop (i + 1)) acc μ').bind fun xs μ => .ok (.loc μ.length) (μ ++ [Cell.lst xs])) Q), fun H2 z => z, fun x H2 y => ?_⟩
    obtain ⟨x2, m2, rx⟩ := yld x H2 y
    cases e1 : asg t items[i] (BW.wipe ρ own) μ' with
    | none => rw [e1] at h2; exact h2.elim
    | some ρ1 =>
      rw [e1] at h2
      dsimp only at h2
      refine ⟨ι', BW.wipe ρ own, μ', items[i], ρ1, reb.mono m' x2, m2, rx, e1, fun σ1 re1 l1 f1 => ⟨wipe_eq l1 fun j hj => f1 j fun z => hj (hsub j z), ?_⟩⟩
      have hD2 : H2 D = some (.lst w) := x2.stay D _ hDw no rfl
      have xx := x'.trans x2
      refine htt σ1 H2 _ ⟨ι', ρ1, μ', re1, m2, ?_⟩
      -- the state behind a step: D stands
      have keep : ∀ {H3 : Hp} {ι3 : List Addr} {μ3 : Store}, Ext H2 ι' μ' H3 ι3 μ3 → H3 D = some (.lst w) ∧ ¬ Own ι3 μ3 D := fun {H3 ι3 μ3} x3 => ⟨x3.stay D _ hD2 no rfl, fun z => by
        rcases x3.new D z with z | z
        · exact no z
        · rw [hD2] at z; cases z⟩
      cases e2 : cD ρ1 μ' with
      | bad => rw [e2] at h2; exact h2.elim
      | ex e μ3 => rw [e2] at h2; exact h2.elim
      | ok b μ3 =>
        rw [e2] at h2
        intro b' H3 ι3 x3 m3 eb
        cases eb
        obtain ⟨hD3, no3⟩ := keep x3
        have racc3 := (racc.mono m' x2).mono m2 x3
        cases b with
        | false =>
          rw [if_neg Bool.false_ne_true]
          exact ⟨_, by omega, rfl, hlt, ι3, μ3, acc, w, xx.trans x3, m3, no3, hD3, racc3, h2⟩
        | true =>
          rw [if_pos rfl]
          refine hte σ1 H3 _ ⟨ι3, ρ1, μ3, re1.mono m2 x3, m3, ?_⟩
          cases e3 : eD ρ1 μ3 with
          | bad => simp only [e3] at h2; exact h2.elim
          | ex e μ4 => simp only [e3] at h2; exact h2.elim
          | ok v μ4 =>
            simp only [e3] at h2
            intro y4 H4 ι4 x4 m4 r4
            obtain ⟨hD4, no4⟩ := keep (x3.trans x4)
            split at h2
            · rename_i hlen
              have racc4 := racc3.mono m3 x4
              refine ⟨w, hD4, by rw [← racc4.length]; exact hlen, _, by omega, rfl, hlt, ι4, μ4, acc ++ [v], w ++ [y4], ((xx.trans x3).trans x4).side hD, m4.side hD4 no4, no4, upd_same, ?_, h2⟩
              exact (racc4.append (.one r4)).mono2 List.prefix_rfl fun a vs s => tup_side hD4 s
            · exact h2.elim
  · have e : i = items.length := by omega
    subst e
    rw [List.drop_length, lcDen] at h2
    split at h2
    · rename_i st
      refine .inl ⟨rit.stop H' ι' μ' x' m' st, ?_⟩
      have la : (ι' ++ [D])[μ'.length]? = some D := by rw [← m'.len]; simp
      exact h2 _ H' (ι' ++ [D]) (x'.adopt hD m'.len) (m'.adopt hDw no racc) ⟨D, la, rfl⟩
    · exact h2.elim
section
variable {L : Lk} {n : Nat} {c : TC} {xb : XB} {W : WX} {X : Cx}
/-- the block's context -/
theorem CtxE.blk (C : CtxE L n c xb W X) (hot : c.hot = false) (s : Shared) (H : Hp) (scope : Scope) (Ca : Addr) (cl : List (Str × Addr)) (fp : List Addr) : CtxE L n { c with sc := relS scope c.sc, blk := some scope.names } none Wno (X.blk s H scope (compEnvC scope cl Ca X.env) fp) where
  K := C.K
  lok := C.lok
  N := C.N
  nd := C.nd
  sc := by show relS scope X.env.scope = _; rw [C.sc]
  calm := C.calm
  room := C.room
  unit := C.unit
  fns := C.fns
  nest := C.nest
  takes := fun _ u s' ⟨_, _, _, _, _, _, _, _, _, _, _, _, _, _, _, _, w⟩ => w.elim
  cell := fun x _ h => by
    have h : scope.names.lookup x = some .cell := of_decide_eq_true h
    show (scope.names.lookup x == some .cell) = true
    rw [h]; rfl
  cool := fun h => ⟨(C.cool h).1, rfl⟩
  exn := fun q hq => by cases hq
  exf := fun x hx => by rw [(C.cool hot).1] at hx; cases hx
  exi := fun x hx => by rw [(C.cool hot).1] at hx; cases hx
theorem CtxE.sub (C : CtxE L n c xb W X) : ∀ {x : Str} {i : Nat}, locOf c x = some i → X.N[i]? = some x ∧ Loc X.env.scope x ∧ (X.fn x = true ∨ X.env.scope.names.lookup x = some .local) ∧ ∀ q, xb = some q → q.2.1 ≠ i := fun h => C.loc h
/-- in the block: a name that is stored -/
theorem blk_loc (C : CtxE L n c xb W X) (s : Shared) (H : Hp) (scope : Scope) (Ca : Addr) (cl : List (Str × Addr)) (fp : List Addr) (hk : blkC c.N c.sc scope (ownOf c.N scope) = true) :
    ∀ {x : Str} {i : Nat}, locOf { c with sc := relS scope c.sc, blk := some scope.names } x = some i → (X.blk s H scope (compEnvC scope cl Ca X.env) fp).N[i]? = some x ∧ Loc (X.blk s H scope (compEnvC scope cl Ca X.env) fp).env.scope x ∧ ((X.blk s H scope (compEnvC scope cl Ca X.env) fp).fn x = true ∨ (X.blk s H scope (compEnvC scope cl Ca X.env) fp).env.scope.names.lookup x = some .local) ∧ ∀ q, (none : XB) = some q → q.2.1 ≠ i := by
  intro x i h
  obtain ⟨h1, h2, h3, h4⟩ := locOf_ok h
  have e : (X.blk s H scope (compEnvC scope cl Ca X.env) fp).env.scope = relS scope c.sc := by show relS scope X.env.scope = _; rw [C.sc]
  refine ⟨by show X.N[i]? = _; rw [C.N]; exact h1, by rw [e]; exact h2, ?_, fun q hq => by cases hq⟩
  rcases h3 with h3 | ⟨_, h3⟩
  · exact .inr (by rw [e]; exact h3)
  · refine .inl ?_
    have h3 : scope.names.lookup x = some .cell := of_decide_eq_true h3
    show (scope.names.lookup x == some .cell) = true
    rw [h3]; rfl
theorem s_lc (C : CtxE L n c xb W X) (hot : c.hot = false) {elt tg iter : Expr} {ifs : List Expr} {scope : Scope} {pos : Pos} {t : Tg} {it : BW.It} {e : IE} {cc : Option IT} (hs : nset iter = true) (hk : blkC c.N c.sc scope (ownOf c.N scope) = true)
    (ht : trTg { c with sc := relS scope c.sc, blk := some scope.names } tg = some t) (hall : ((tgs t).all fun i => ((ownOf c.N scope).map (·.2)).contains i) = true) (hi : SI L n none W X tg iter it)
    (he : ∀ X', CtxE L n { c with sc := relS scope c.sc, blk := some scope.names } none Wno X' → SE L n none Wno X' elt e)
    (hc : (ifs = [] ∧ cc = none) ∨ ∃ q k, ifs = [q] ∧ cc = some k ∧ ∀ X', CtxE L n { c with sc := relS scope c.sc, blk := some scope.names } none Wno X' → ST L n none Wno X' q k) :
    ∃ (wi : TI) (g : TG) (tt : TT) (te : TE), PI X tg iter wi ∧ BlkOk X.N X.env.scope scope (ownOf c.N scope) ∧ (∀ (s : Shared) (H : Hp) (C : Addr) (cl : List (Str × Addr)) (fp : List Addr), PG (X.blk s H scope (compEnvC scope cl C X.env) fp) tg g) ∧ (∀ (s : Shared) (H : Hp) (C : Addr) (cl : List (Str × Addr)) (fp : List Addr), PTs (X.blk s H scope (compEnvC scope cl C X.env) fp) ifs tt) ∧
    (∀ (s : Shared) (H : Hp) (C : Addr) (cl : List (Str × Addr)) (fp : List Addr), PE (X.blk s H scope (compEnvC scope cl C X.env) fp) elt te) ∧
    ∀ σ H Q, tE L.g none W L.T.P (L.D n) (.lc e t it cc ((ownOf c.N scope).map (·.2))) σ H Q → tLc wi g tt te ((ownOf c.N scope).map (·.2)) σ H Q := by
  have hsub : ∀ i ∈ tgs t, i ∈ (ownOf c.N scope).map (·.2) := fun i hi => by
    have := List.all_eq_true.mp hall i hi
    simpa using this
  have ok : BlkOk X.N X.env.scope scope (ownOf c.N scope) := by rw [C.N, C.sc]; exact blkOk_by hk
  have pg : ∀ (s : Shared) (H : Hp) (Ca : Addr) (cl : List (Str × Addr)) (fp : List Addr), PG (X.blk s H scope (compEnvC scope cl Ca X.env) fp) tg (gI L.g none t) := fun s H Ca cl fp =>
    s_tg (L := L) (xb := none) (X := X.blk s H scope (compEnvC scope cl Ca X.env) fp) (c := { c with sc := relS scope c.sc, blk := some scope.names }) C.N C.nd (C.calm hot) C.gK (blk_loc C s H scope Ca cl fp hk) tg t ht
  rcases hc with ⟨rfl, rfl⟩ | ⟨q, k, rfl, rfl, hq⟩
  · refine ⟨_, _, tYes, _, hi, ok, pg, fun _ _ _ _ _ => pts_nil, fun s H Ca cl fp => he _ (C.blk hot s H scope Ca cl fp), fun σ H Q h => ?_⟩
    refine lc_walk hsub (cD := fun _ μ => .ok true μ) (fun σ H Q ⟨ι, ρ, μ, re, rm, q⟩ => (show Fin L.g Wno σ RB H ι μ (.ok true μ) Q from q).here rm rfl) (fun σ H Q h => h) ?_
    exact tI_congr (fun ρ μ => by first | (rw [evE]; done) | (rw [evE]; rfl)) h
  · refine ⟨_, _, _, _, hi, ok, pg, fun s H Ca cl fp => pts_one (hq _ (C.blk hot s H scope Ca cl fp)), fun s H Ca cl fp => he _ (C.blk hot s H scope Ca cl fp), fun σ H Q h => ?_⟩
    refine lc_walk hsub (fun σ H Q h => h) (fun σ H Q h => h) ?_
    exact tI_congr (fun ρ μ => by first | (rw [evE]; done) | (rw [evE]; rfl)) h
theorem s_lcE (C : CtxE L n c none W X) (hot : c.hot = false) {elt tg iter : Expr} {ifs : List Expr} {scope : Scope} {pos : Pos} {t : Tg} {it : BW.It} {e : IE} {cc : Option IT} (hs : nset iter = true) (hk : blkC c.N c.sc scope (ownOf c.N scope) = true)
    (ht : trTg { c with sc := relS scope c.sc, blk := some scope.names } tg = some t) (hall : ((tgs t).all fun i => ((ownOf c.N scope).map (·.2)).contains i) = true) (hi : SI L n none W X tg iter it)
    (he : ∀ X', CtxE L n { c with sc := relS scope c.sc, blk := some scope.names } none Wno X' → SE L n none Wno X' elt e)
    (hc : (ifs = [] ∧ cc = none) ∨ ∃ q k, ifs = [q] ∧ cc = some k ∧ ∀ X', CtxE L n { c with sc := relS scope c.sc, blk := some scope.names } none Wno X' → ST L n none Wno X' q k) :
    SE L n none W X (.ListComp elt [⟨tg, iter, ifs, .ofNat 0⟩] scope pos) (.lc e t it cc ((ownOf c.N scope).map (·.2))) := by
  obtain ⟨wi, g, tt, te, h1, h2, h3, h4, h5, h6⟩ := s_lc (pos := pos) C hot hs hk ht hall hi he hc
  exact (pe_lc (C.calm hot) (by rw [C.N]; exact C.nd) h1 h2 h3 h4 h5 (nset_ok hs)).imp h6
end
end BW
set_option maxHeartbeats 4000000
/-! The translation is sound: calls of functions that keep a value. -/
namespace BW
open PySem PySem.Spec PyProof.Rows L2 LamX NdefX
theorem frz_hush (c : Cell) : frz (hushC c) = frz c := by cases c <;> rfl
theorem hush_get {μ : Store} {n : Nat} {d : Cell} (h : (hush μ)[n]? = some d) : ∃ c, μ[n]? = some c ∧ d = hushC c := by
  unfold hush at h
  rw [List.getElem?_map] at h
  obtain ⟨c, h1, h2⟩ := Option.map_eq_some_iff.mp h
  exact ⟨c, h1, h2.symm⟩
theorem own_hush {ι : List Addr} {μ : Store} {a : Addr} (h : Own ι (hush μ) a) : Own ι μ a := by
  obtain ⟨n, d, h1, h2, h3⟩ := h
  obtain ⟨c, h4, rfl⟩ := hush_get h2
  exact ⟨n, c, h1, h4, by rw [← frz_hush]; exact h3⟩
section
variable {g : G} {P : Program} {w : World} {H H' : Hp} {h : Heap} {ι ι' : List Addr} {μ : Store} {c : Addr} {u : V}
theorem rid_tup (hc : H c = some (CellO c u)) (a : Addr) (vs : List V) (e : H a = some (.tup vs)) : rid H c a = some (.tup vs) := by
  rw [rid_ne (cell_ne hc e fun _ z => by cases z)]; exact e
theorem rm_hush (hok : HOk P w H h) (rm : RM g H ι μ) (hc : H c = some (CellO c u)) : RM g (rid H c) ι (hush μ) := by
  refine ⟨by unfold hush; rw [List.length_map]; exact rm.len, fun n d e => ?_, fun n m a d e nm e1 e2 e3 e4 => ?_, fun q hq => tab_rid hok hc (rm.tab q hq)⟩
  · obtain ⟨c0, h1, rfl⟩ := hush_get e
    obtain ⟨a, e1, rc⟩ := rm.at_ n c0 h1
    refine ⟨a, e1, ?_⟩
    have k : ∀ {b : Addr} {o : HO}, H b = some o → (∀ φ, o ≠ .ext φ) → rid H c b = some o := fun {b o} e ho => by rw [rid_ne (cell_ne hc e ho)]; exact e
    have ht := rid_tup hc
    cases c0 with
    | lst xs => obtain ⟨vs, q, t⟩ := rc; exact ⟨vs, k q (fun _ z => by cases z), t.mono2 List.prefix_rfl ht⟩
    | frz xs =>
      obtain ⟨vs, q, t⟩ := rc
      refine ⟨vs, ?_, t.mono2 List.prefix_rfl ht⟩
      rcases q with ⟨o, q⟩ | q
      · exact .inl ⟨o, k q (fun _ z => by cases z)⟩
      · exact .inr q
    | ins cc fs => obtain ⟨dx, fvs, q, t, ic⟩ := rc; exact ⟨dx, fvs, k q (fun _ z => by cases z), t.mono2 List.prefix_rfl ht, ic⟩
    | dic kvs => obtain ⟨dvs, q, t⟩ := rc; exact ⟨dvs, k q (fun _ z => by cases z), t.mono2 List.prefix_rfl ht⟩
    | clo v => trivial
    | dead => trivial
  · obtain ⟨c1, h1, rfl⟩ := hush_get e3
    obtain ⟨c2, h2, rfl⟩ := hush_get e4
    rw [frz_hush, frz_hush]
    exact rm.sep n m a c1 c2 nm e1 e2 h1 h2
theorem rm_back (hok : HOk P w H h) (rm : RM g H ι μ) (hc : H c = some (CellO c u)) (x : Ext (rid H c) ι (hush μ) H' ι' (hush μ)) (m : RM g H' ι' (hush μ)) (hn : H' c = none) : ι' = ι ∧ Ext H ι μ (upd H' c (CellO c u)) ι μ ∧ RM g (upd H' c (CellO c u)) ι μ := by
  have el : ι' = ι := by
    have l1 : ι.length = ι'.length := by
      have := m.len
      have := rm.len
      have : (hush μ).length = μ.length := by unfold hush; rw [List.length_map]
      omega
    exact (x.pre.eq_of_length l1).symm
  subst el
  have rh := rm_hush hok rm hc
  have keep : ∀ {a : Addr} {o : HO}, H a = some o → a ≠ c → ¬ Own ι' μ a → tblH o = false → upd H' c (CellO c u) a = some o := fun {a o} e ne no ht => by
    rw [upd_ne ne]
    exact x.stay a o (by rw [rid_ne ne]; exact e) (fun z => no (own_hush z)) ht
  have E : Ext H ι' μ (upd H' c (CellO c u)) ι' μ := by
    refine ⟨List.prefix_rfl, fun a o e no ht => ?_, fun a h => .inl h, fun a e => ?_⟩
    · by_cases z : a = c
      · subst z
        rw [hc] at e
        cases e
        exact upd_same
      · exact keep e z no ht
    · by_cases z : a = c
      · subst z; rw [upd_same] at e; cases e
      · rw [upd_ne z] at e
        have := x.there a e
        rw [rid_ne z] at this
        exact this
  refine ⟨rfl, E, rm.len, fun n d e => ?_, rm.sep, ?_⟩
  · have ml := RM.laid (o := CellO c u) m hn
    cases d with
    | clo v =>
      obtain ⟨a, e1, cl, c1, u1, c', h1, h2, h3, h4, h5⟩ := rm.at_ n _ e
      refine ⟨a, e1, cl, c1, u1, c', keep h1 (fn_ne_cell hok h1 hc) (rm.notOwn h1 rfl) rfl, keep h2 (code_ne_cell hok h2 hc) (rm.notOwn h2 rfl) rfl, h3, ?_, h5.mono rm E⟩
      by_cases z : c1 = c
      · subst z
        rw [hc] at h4
        rw [upd_same]; exact h4
      · exact keep h4 z (rm.notOwn h4 rfl) rfl
    | dead => obtain ⟨a, e1, _⟩ := rm.at_ n _ e; exact ⟨a, e1, trivial⟩
    | lst xs => exact ml.at_ n (.lst xs) (by unfold hush; rw [List.getElem?_map, e]; rfl)
    | frz xs => exact ml.at_ n (.frz xs) (by unfold hush; rw [List.getElem?_map, e]; rfl)
    | ins cc fs => exact ml.at_ n (.ins cc fs) (by unfold hush; rw [List.getElem?_map, e]; rfl)
    | dic kvs => exact ml.at_ n (.dic kvs) (by unfold hush; rw [List.getElem?_map, e]; rfl)
  · exact (RM.laid (o := CellO c u) m hn).tab
end
/-- the callee is evaluated, then called -/
def callsOf (f : Expr) (as : List Expr) (pos : Pos) (env : PySem.Env) : Prop := eval (.Call f as [] pos) env = (do callWith pos (← eval f env) [] (backTo pos (starEach as env)) (backToKw pos (keywordEach [] env)))
def tCloV (X : Cx) (CX : CXT) (k : Nat) (ps : List Str) (x : Str) (sp : List (Option V) → Sp) (ta : TE) (t : TA) : TE := fun σ H Q => ta σ H fun y H1 => ∃ (f : Addr) (F1 : NF), y = .ref f ∧ H1 f = some (FnO f F1) ∧ t σ H1 fun vs H2 => ∃ (F : NF) (c : Addr) (u : V), H2 f = some (FnO f F) ∧ H2 F.c = some (CodeO F.c F.qual) ∧ OneC F.cl x c ∧ H2 c = some (CellO c u) ∧
  NOk X.prog X.w X.K X.mg X.base CX k f F ps [x] sp ∧ ∀ h, HOk X.prog X.w H2 h → sp [some u] vs (rid H2 c) (fun v H' => H' c = none → Q v (upd H' c (CellO c u))) fun _ _ _ => False
section
variable {L : Lk} {n : Nat} {c : TC} {xb : XB} {W : WX} {X : Cx}
theorem pe_cloV {k j : Nat} {ps : List Str} {x : Str} {sp : List (Option V) → Sp} {f e : Expr} {es : List Expr} {pos : Pos} {ta : TE} {t : TA} (hc : callsOf f (e :: es) pos X.env) (he : PE X f ta) (ha : PA X (e :: es) t) (hr : Room j X.A) (hk : k ≤ j) (h1 : starEach (e :: es) X.env = (false, eval e X.env) :: starEach es X.env) (h2 : (backTo pos (starEach es X.env)).any (·.1) = false) :
    PE X (.Call f (e :: es) [] pos) (tCloV X (L2.CX X.prog X.w) k ps x sp ta t) := by
  refine ⟨fun pins s σ H Q I h => ?_⟩
  rw [hc]
  refine wpAny_bind (thn (he.run pins s σ H _ I h) fun u s1 ⟨y, H1, I1, r1, f, F1, ey, hf, ht⟩ => ?_)
  subst ey
  obtain rfl : u = Value.ref f := r1
  refine PySem.W.callWith_F (first := []) (fnAt_of I1 hf) (thn (ha.run pos pins s1 σ H1 _ I1 ht) fun us s2 ⟨vs, H2, I2, r, F, c, u, q1, q2, q3, q4, Fn, q⟩ => ⟨fnAt_of I2 q1, ?_⟩) h1 h2
  show wpAny _ _ (call (.ref f) us) _ _ _
  have cxf : ∀ {H : Hp} {s : Shared} {e : Value} {s' : Shared}, L2.CX X.prog X.w X.stack H s (fun _ _ _ => False) e s' → False := fun {H s e s'} z => by
    obtain ⟨_, _, _, _, _, _, _, _, _, _, _, _, z⟩ := z
    exact z
  have q := q s2.heap I2.hok
  refine wpAny_call (codeAny_mono (clo_run (Q := Q) (E := fun _ _ _ => False) (E' := fun _ _ _ => False) Fn (hr.mono hk) I2.env0 q1 q2 q3 q4 (fun e s' z => cxf z) r q) fun r s' hq => ?_)
  cases r with
  | error e => exact (cxf hq).elim
  | ok fl =>
    cases fl with
    | ret u => exact I2.after hq
    | next => exact False.elim hq
    | brk => exact False.elim hq
    | cont => exact False.elim hq
theorem cloAt_ok {μ : Store} {p v : PV} (h : cloAt μ p = some v) : ∃ l, p = .loc l ∧ μ[l]? = some (.clo v) := by
  unfold cloAt at h
  split at h
  · split at h
    · rename_i e; cases h; exact ⟨_, rfl, e⟩
    · cases h
  · cases h
theorem s_callv (C : CtxE L n c xb W X) (hot : c.hot = false) (hnf : L.T.P.nf ≠ []) {f e : Expr} {es : List Expr} {io : IE} {is : List IE} {pos : Pos} (hc : ∀ env, callsOf f (e :: es) pos env) (hn : ∀ a ∈ e :: es, nst a = true) (ho : SE L n xb W X f io) (ha : SA L n xb W X (e :: es) is) :
    SE L n xb W X (.Call f (e :: es) [] pos) (.callv io is) := by
  refine (pe_cloV (k := 3 * n) (j := 3 * n) (ps := L.nd.ps) (x := L.nd.x) (sp := spN L n) (hc _) ho ha ((C.room hot).mono (by omega)) (Nat.le_refl _) (star_cons (hn e List.mem_cons_self) es _) (star_any fun a h => hn a (List.mem_cons_of_mem _ h))).imp fun σ H Q h => ?_
  have h := tI_congr (r' := fun ρ μ => (evE L.T.P (L.D n) xb.v io ρ μ).bind fun x μ => if (cloAt μ x).isSome = true then (evEs L.T.P (L.D n) xb.v is ρ μ).bind fun xs μ => clv L.T.P (L.D n) x xs μ else .bad) (fun ρ μ => by first | (rw [evE]; done) | (rw [evE]; rfl)) h
  refine tI_mono (tI_bind (R := RVf L.g) (S := RVf L.g) (f := fun ρ x μ => if (cloAt μ x).isSome = true then (evEs L.T.P (L.D n) xb.v is ρ μ).bind fun xs μ => clv L.T.P (L.D n) x xs μ else .bad) h) fun x H1 ⟨px, ι1, ρ, μ1, re, rm, rx, h1⟩ => ?_
  split at h1
  · rename_i hs
    obtain ⟨v, hv⟩ := Option.isSome_iff_exists.mp hs
    obtain ⟨l, rfl, hl⟩ := cloAt_ok hv
    obtain ⟨a, ia, rfl⟩ := rx
    obtain ⟨b, ib, cl, c1, u1, c', k1, k2, k3, k4, k5⟩ := rm.at_ l _ hl
    rw [ia] at ib; cases ib
    refine ⟨a, _, rfl, k1, ι1, ρ, μ1, re, rm, (Fin.bind (R := RVsf L.g) h1).imp fun ps μ2 vs H2 ι2 e2 x2 m2 r2 ⟨ps', ι3, μ3, x3, m3, r3, h3⟩ => ?_⟩
    unfold clv at h3
    cases hv3 : cloAt μ3 (.loc l) with
    | none => rw [hv3] at h3; exact h3.elim
    | some v3 =>
      rw [hv3] at h3
      dsimp only at h3
      obtain ⟨l', el, hl3⟩ := cloAt_ok hv3
      cases el
      obtain ⟨b, ib, cl, c1, u1, c', k1, k2, k3, k4, k5⟩ := m3.at_ l _ hl3
      have ia3 := get_pre x3.pre ia
      rw [ia3] at ib; cases ib
      refine ⟨L.g.nF cl c', c1, u1, k1, k2, k3, k4, C.nest hnf a cl c', fun hh hok => ?_⟩
      have hlen : L.D n L.T.P.fn.length (ps' ++ [v3]) (hush μ3) ≠ .bad → vs.length = L.nd.ps.length := fun nb => by
        obtain ⟨F, h1, h2⟩ := den_np nb
        have h4 := C.lok.nfp F h1
        rw [← r3.length]
        simp at h2
        omega
      cases hd : L.D n L.T.P.fn.length (ps' ++ [v3]) (hush μ3) with
      | bad => rw [hd] at h3; exact h3.elim
      | ex e μ => rw [hd] at h3; exact h3.elim
      | ok r μ' =>
        rw [hd] at h3
        dsimp only at h3
        split at h3
        · rename_i em
          subst em
          have ht := rid_tup k4
          refine ⟨u1, rfl, hlen (by rw [hd]; intro z; cases z), σ, ι3, hush μ3, ps', v3, rm_hush hok m3 k4, r3.mono2 List.prefix_rfl ht, k5.mono2 List.prefix_rfl ht, ?_⟩
          rw [hd]
          intro v' H' ι' x' m' rv' hn'
          obtain ⟨rfl, E, M⟩ := rm_back hok m3 k4 x' m' hn'
          exact h3 v' _ ι' E M (rv'.mono m' (Ext.laid hn'))
        · exact h3.elim
  · exact h1.elim
end
end BW
set_option maxHeartbeats 4000000
/-! The translation is sound: every expression. -/
namespace BW
open PySem PySem.Spec PyProof.Rows L2
theorem obind {α β : Type} {o : Option α} {f : α → Option β} {b : β} (h : o.bind f = some b) : ∃ a, o = some a ∧ f a = some b := by
  cases o with
  | none => cases h
  | some a => exact ⟨a, rfl, h⟩
theorem omap {α β : Type} {o : Option α} {f : α → β} {b : β} (h : o.map f = some b) : ∃ a, o = some a ∧ f a = b := by
  cases o with
  | none => cases h
  | some a => exact ⟨a, rfl, Option.some.inj h⟩
theorem oif {α : Type} {b : Prop} [Decidable b] {o : Option α} {a : α} (h : (if b then o else none) = some a) : b ∧ o = some a := by
  split at h
  · rename_i z; exact ⟨z, h⟩
  · cases h
theorem oif' {α : Type} {b : Prop} [Decidable b] {o : Option α} {a : α} (h : (if b then none else o) = some a) : ¬ b ∧ o = some a := by
  split at h
  · cases h
  · rename_i z; exact ⟨z, h⟩
theorem bfalse {b : Bool} (h : ¬ b = true) : b = false := by cases b; rfl; exact absurd rfl h
structure SndAll (L : Lk) (m : Nat) : Prop where
  e : ∀ {n : Nat} {c : TC} {xb : XB} {W : WX} {X : Cx} {e : Expr} {i : IE}, CtxE L n c xb W X → trE L.T m c e = some i → SE L n xb W X e i
  es : ∀ {n : Nat} {c : TC} {xb : XB} {W : WX} {X : Cx} {es : List Expr} {is : List IE}, CtxE L n c xb W X → trEs L.T m c es = some is → SA L n xb W X es is
  len : ∀ {c : TC} {es : List Expr} {is : List IE}, trEs L.T m c es = some is → es.length = is.length ∧ ∀ a ∈ es, nst a = true
  t : ∀ {n : Nat} {c : TC} {xb : XB} {W : WX} {X : Cx} {e : Expr} {i : IT}, CtxE L n c xb W X → trT L.T m c e = some i → ST L n xb W X e i ∧ ∀ op es pos, e = .BoolOp op es pos → PW X (.BoolOp op es pos) (tT L.g xb W L.T.P (L.D n) i)
  it : ∀ {n : Nat} {c : TC} {xb : XB} {W : WX} {X : Cx} {tg e : Expr} {i : BW.It}, CtxE L n c xb W X → trIt L.T m c tg e = some i → SI L n xb W X tg e i
section
variable {L : Lk} {n : Nat} {c : TC} {xb : XB} {W : WX} {X : Cx}
theorem s_name (C : CtxE L n c xb W X) {x : Str} {v : PV} {pos : Pos} (h : globOf L.T c x = some (.con v)) : SE L n xb W X (.Name x pos) (.con v) := by
  obtain ⟨hg, ent, hd⟩ := C.gl h
  cases ent with
  | con _ u w hm hr hv => exact se_con hv (pe_glob hg hm hr hd)
theorem sound_zero (L : Lk) : SndAll L 0 where
  e := fun _ h => by unfold trE at h; cases h
  es := fun _ h => by unfold trEs at h; cases h
  len := fun h => by unfold trEs at h; cases h
  t := fun _ h => by unfold trT at h; cases h
  it := fun _ h => by unfold trIt at h; cases h
theorem sound_es {m : Nat} (ih : SndAll L m) {es : List Expr} {is : List IE} (C : CtxE L n c xb W X) (h : trEs L.T (m + 1) c es = some is) : SA L n xb W X es is := by
  unfold trEs at h
  cases es with
  | nil => cases h; exact sa_nil
  | cons e r =>
    obtain ⟨h1, h⟩ := oif h
    obtain ⟨i, h2, h⟩ := obind h
    obtain ⟨is, h3, rfl⟩ := omap h
    exact sa_cons h1 (ih.e C h2) (ih.es C h3)
theorem sound_len {m : Nat} (ih : SndAll L m) {es : List Expr} {is : List IE} (h : trEs L.T (m + 1) c es = some is) : es.length = is.length ∧ ∀ a ∈ es, nst a = true := by
  unfold trEs at h
  cases es with
  | nil => cases h; exact ⟨rfl, fun a ha => by cases ha⟩
  | cons e r =>
    obtain ⟨h1, h⟩ := oif h
    obtain ⟨i, h2, h⟩ := obind h
    obtain ⟨is, h3, rfl⟩ := omap h
    obtain ⟨h4, h5⟩ := ih.len h3
    refine ⟨by simp [h4], fun a ha => ?_⟩
    rcases List.mem_cons.mp ha with rfl | ha
    · exact h1
    · exact h5 a ha
theorem sound_t {m : Nat} (ih : SndAll L m) (ihs : ∀ k, k ≤ m → SndAll L k) {e : Expr} {i : IT} (C : CtxE L n c xb W X) (h : trT L.T (m + 1) c e = some i) : ST L n xb W X e i ∧ ∀ op es pos, e = .BoolOp op es pos → PW X (.BoolOp op es pos) (tT L.g xb W L.T.P (L.D n) i) := by
  have pw : ∀ {op : BoolOp} {es : List Expr} {pos : Pos}, PW X (.BoolOp op es pos) (tT L.g xb W L.T.P (L.D n) i) → ST L n xb W X (.BoolOp op es pos) i ∧ ∀ op' es' pos', Expr.BoolOp op es pos = .BoolOp op' es' pos' → PW X (.BoolOp op' es' pos') (tT L.g xb W L.T.P (L.D n) i) := fun h => ⟨h.pt, fun _ _ _ e => by cases e; exact h⟩
  unfold trT at h
  split at h
  · obtain ⟨a, h1, rfl⟩ := omap h
    exact ⟨st_not (ih.t C h1).1, fun _ _ _ e => by cases e⟩
  · exact pw (st_one (ih.t C h).1)
  · obtain ⟨a, h1, h⟩ := obind h
    obtain ⟨b, h2, rfl⟩ := omap h
    exact pw (st_and (ih.t C h1).1 ((ih.t C h2).2 _ _ _ rfl))
  · obtain ⟨a, h1, h⟩ := obind h
    obtain ⟨b, h2, rfl⟩ := omap h
    exact pw (st_or (ih.t C h1).1 ((ih.t C h2).2 _ _ _ rfl))
  · obtain ⟨a, h1, rfl⟩ := omap h
    refine ⟨?_, fun _ _ _ e => by cases e⟩
    cases m with
    | zero => unfold trE at h1; cases h1
    | succ m =>
      have ih := ihs m (Nat.le_succ m)
      unfold trE at h1
      split at h1
      all_goals first | (rename_i e0; cases e0; done) | skip
      · rename_i e0
        cases e0
        obtain ⟨hz, h⟩ := oif h1
        obtain ⟨a, h2, h⟩ := obind h
        obtain ⟨b, h3, rfl⟩ := omap h
        exact st_cmp C hz (ih.e C h2) (ih.e C h3)
      · rename_i e0
        cases e0
        obtain ⟨hz, h⟩ := oif h1
        rw [Bool.and_eq_true] at hz
        obtain ⟨a, h2, h⟩ := obind h
        obtain ⟨b, h3, h⟩ := obind h
        obtain ⟨d, h4, rfl⟩ := omap h
        exact st_chain C hz.2 (ih.e C h2) (ih.e C h3) (ih.e C h4)
      · cases h1
  · rename_i hx
    obtain ⟨h1, h⟩ := oif h
    obtain ⟨a, h2, rfl⟩ := omap h
    rw [Bool.and_eq_true] at h1
    refine ⟨st_truth C h1.1 (ih.e C h2), fun op es pos e => ?_⟩
    subst e
    cases h1.1
theorem sound_it {m : Nat} (ih : SndAll L m) (ihs : ∀ k, k ≤ m → SndAll L k) {tg e : Expr} {i : BW.It} (C : CtxE L n c xb W X) (h : trIt L.T (m + 1) c tg e = some i) : SI L n xb W X tg e i := by
  unfold trIt at h
  split at h
  · rename_i x p a as pos
    split at h
    · rename_i hx
      split at h
      · rename_i ex
        subst ex
        obtain ⟨hlt, h⟩ := oif h
        obtain ⟨is, h1, rfl⟩ := omap h
        obtain ⟨l1, l2⟩ := ih.len h1
        exact si_rng C hx l2 l1 (ih.es C h1) (by simp; omega) (by simp)
      · split at h
        · rename_i ex
          subst ex
          split at h
          · obtain ⟨h1, h⟩ := oif h
            obtain ⟨ie, h2, rfl⟩ := omap h
            exact si_enum C hx h1 (ih.e C h2)
          · cases h
        · split at h
          · rename_i ex
            subst ex
            split at h
            · obtain ⟨h1, h⟩ := oif h
              rw [Bool.and_eq_true] at h1
              obtain ⟨ia, h2, h⟩ := obind h
              obtain ⟨ib, h3, rfl⟩ := omap h
              exact si_zip C hx h1.1 h1.2 (ih.e C h2) (ih.e C h3)
            · cases h
          · split at h
            · rename_i ex
              subst ex
              split at h
              · rename_i y p2 u us pos2
                split at h
                · rename_i hy
                  obtain ⟨h1, h⟩ := oif h
                  rw [Bool.and_eq_true] at h1
                  obtain ⟨is, h2, rfl⟩ := omap h
                  obtain ⟨ey, hlt⟩ := h1
                  have ey := of_decide_eq_true ey
                  subst ey
                  have hlt : us.length < 2 := of_decide_eq_true hlt
                  obtain ⟨l1, l2⟩ := ih.len h2
                  refine si_rrng C hy hx l2 (by simp; omega) (by simp) ?_
                  cases m with
                  | zero => unfold trEs at h2; cases h2
                  | succ m =>
                    unfold trEs at h2
                    obtain ⟨_, h2⟩ := oif h2
                    obtain ⟨iu, h3, h2⟩ := obind h2
                    obtain ⟨ius, h4, rfl⟩ := omap h2
                    have e1 := (ihs m (Nat.le_succ m)).e C h3
                    rcases us with _ | ⟨v, _ | ⟨v2, us⟩⟩
                    · have := (ihs m (Nat.le_succ m)).len h4
                      cases ius with
                      | nil => exact .inl ⟨u, iu, rfl, rfl, e1⟩
                      | cons _ _ => cases this.1
                    · cases m with
                      | zero => unfold trEs at h4; cases h4
                      | succ m =>
                        unfold trEs at h4
                        obtain ⟨_, h4⟩ := oif h4
                        obtain ⟨iv, h5, h4⟩ := obind h4
                        obtain ⟨ivs, h6, rfl⟩ := omap h4
                        have := (ihs m (by omega)).len h6
                        cases ivs with
                        | nil => exact .inr ⟨u, v, iu, iv, rfl, rfl, e1, (ihs m (by omega)).e C h5⟩
                        | cons _ _ => cases this.1
                    · simp at hlt
                      omega
                · obtain ⟨ie, h2, rfl⟩ := omap h
                  exact si_rev C hx rfl (ih.e C h2)
              · obtain ⟨h1, h⟩ := oif h
                obtain ⟨ie, h2, rfl⟩ := omap h
                exact si_rev C hx h1 (ih.e C h2)
              · cases h
            · cases h
    · obtain ⟨ie, h2, rfl⟩ := omap h
      exact si_seq C (ih.e C h2)
  · obtain ⟨h1, h⟩ := oif h
    obtain ⟨ie, h2, rfl⟩ := omap h
    exact si_seq C (ih.e C h2)
theorem sound_e {m : Nat} (ih : SndAll L m) {e : Expr} {i : IE} (C : CtxE L n c xb W X) (h : trE L.T (m + 1) c e = some i) : SE L n xb W X e i := by
  unfold trE at h
  split at h
  · cases h; exact se_con (fun _ _ => rfl) pe_int
  · cases h; exact se_con (fun _ _ => rfl) pe_bl
  · cases h; exact se_con (fun _ _ => rfl) pe_non
  · cases h; exact se_con (fun _ _ => rfl) pe_str
  · split at h
    · rename_i hx; cases h; exact se_var (C.var hx)
    · split at h
      · rename_i hx; cases h; exact s_name C hx
      · cases h
  · obtain ⟨o, h1, h⟩ := obind h
    obtain ⟨a, h2, h⟩ := obind h
    obtain ⟨b, h3, rfl⟩ := omap h
    exact s_bin C h1 (ih.e C h2) (ih.e C h3)
  · obtain ⟨a, h1, rfl⟩ := omap h
    exact s_neg (ih.e C h1)
  · obtain ⟨a, h1, rfl⟩ := omap h
    exact s_not (ih.e C h1)
  · obtain ⟨h1, h⟩ := oif h
    obtain ⟨a, h2, h⟩ := obind h
    obtain ⟨b, h3, rfl⟩ := omap h
    exact s_cmp C h1 (ih.e C h2) (ih.e C h3)
  · obtain ⟨h1, h⟩ := oif h
    rw [Bool.and_eq_true] at h1
    obtain ⟨a, h2, h⟩ := obind h
    obtain ⟨b, h3, h⟩ := obind h
    obtain ⟨d, h4, rfl⟩ := omap h
    exact s_chain C h1.2 (ih.e C h2) (ih.e C h3) (ih.e C h4)
  · exact pe_one (ih.e C h)
  · obtain ⟨a, h1, h⟩ := obind h
    obtain ⟨b, h2, rfl⟩ := omap h
    exact s_and (ih.e C h1) (ih.e C h2)
  · obtain ⟨a, h1, h⟩ := obind h
    obtain ⟨b, h2, rfl⟩ := omap h
    exact s_or (ih.e C h1) (ih.e C h2)
  · obtain ⟨t, h1, h⟩ := obind h
    obtain ⟨a, h2, h⟩ := obind h
    obtain ⟨b, h3, rfl⟩ := omap h
    exact s_ite (ih.t C h1).1 (ih.e C h2) (ih.e C h3)
  · obtain ⟨a, h1, rfl⟩ := omap h
    exact s_tup (ih.es C h1)
  · obtain ⟨a, h1, rfl⟩ := omap h
    exact s_lst (ih.es C h1)
  · cases h; exact s_dic
  · obtain ⟨a, h1, rfl⟩ := omap h
    exact s_slc0 C (ih.e C h1)
  · obtain ⟨a, h1, h⟩ := obind h
    obtain ⟨b, h2, rfl⟩ := omap h
    exact s_slc1 C (ih.e C h1) (ih.e C h2)
  · obtain ⟨a, h1, h⟩ := obind h
    obtain ⟨b, h2, rfl⟩ := omap h
    exact s_slc2 C (ih.e C h1) (ih.e C h2)
  · obtain ⟨a, h1, h⟩ := obind h
    obtain ⟨b, h2, h⟩ := obind h
    obtain ⟨d, h3, rfl⟩ := omap h
    exact s_slc3 C (ih.e C h1) (ih.e C h2) (ih.e C h3)
  · obtain ⟨h1, h⟩ := oif h
    obtain ⟨a, h2, h⟩ := obind h
    obtain ⟨b, h3, rfl⟩ := omap h
    exact s_idx C h1 (ih.e C h2) (ih.e C h3)
  · split at h
    · rename_i hx
      obtain ⟨k, h1, rfl⟩ := omap h
      exact C.exf _ hx _ _ _ _ h1
    · obtain ⟨a, h1, h⟩ := obind h
      obtain ⟨k, h2, rfl⟩ := omap h
      exact s_fld C rfl h2 (ih.e C h1)
  · obtain ⟨h0, h⟩ := oif h
    obtain ⟨a, h1, h⟩ := obind h
    obtain ⟨k, h2, rfl⟩ := omap h
    exact s_fld C h0 h2 (ih.e C h1)
  · rename_i x p a as pos
    split at h
    · rename_i hx
      obtain ⟨h0, h⟩ := oif' h
      obtain ⟨es, h1, h⟩ := obind h
      obtain ⟨d, h2, rfl⟩ := omap h
      exact s_call C (bfalse h0) hx (ih.len h1).2 (ih.es C h1) h2
    · rename_i hx
      obtain ⟨h0, h⟩ := oif' h
      obtain ⟨es, h1, h⟩ := obind h
      split at h
      · rename_i Cc hc
        obtain ⟨i0, h3, h⟩ := obind h
        obtain ⟨d, h2, rfl⟩ := omap h
        exact s_make C (bfalse h0) hx hc h3 (ih.len h1).2 (ih.es C h1) h2
      · cases h
    · rename_i hx
      obtain ⟨h0, h⟩ := oif' h
      split at h
      · rename_i u hr
        obtain ⟨h2, h⟩ := oif h
        obtain ⟨iu, h1, rfl⟩ := omap h
        simp only [Bool.and_eq_true, decide_eq_true_eq, Bool.not_eq_true'] at h2
        obtain ⟨ex, hb, hot, hf, hn⟩ := h2
        subst ex
        have hb := isLst_ok hb
        subst hb
        have hf := isFree_ok hf
        obtain ⟨p2, pos2, ea⟩ := revArg_ok hr
        rw [ea]
        exact s_lstRev (x := "list") C hot hx hf hn (ih.e C h1)
      · obtain ⟨es, h1, rfl⟩ := omap h
        have h0 := bfalse h0
        rw [Bool.or_eq_false_iff] at h0
        refine s_bi C (isMD_ne h0.2) (fun hb => ?_) hx (ih.len h1).2 (ih.es C h1)
        have h0 := h0.1
        rw [hb] at h0
        simpa using h0
    · rename_i hx
      obtain ⟨ex, h⟩ := oif h
      subst ex
      rcases as with _ | ⟨t, _ | ⟨t2, r⟩⟩
      · cases h
      · dsimp only at h
        obtain ⟨ts, h1, h⟩ := obind h
        split at h
        · split at h
          · rename_i hy
            obtain ⟨h3, h⟩ := oif h
            cases h
            exact C.exi _ hy _ _ _ _ _ hx h1 h3
          · obtain ⟨h3, h⟩ := oif h
            obtain ⟨ia, h2, rfl⟩ := omap h
            exact s_isin C hx h1 h3 rfl (ih.e C h2)
        · obtain ⟨h3, h⟩ := oif h
          rw [Bool.and_eq_true] at h3
          obtain ⟨ia, h2, rfl⟩ := omap h
          exact s_isin C hx h1 h3.2 h3.1 (ih.e C h2)
      · cases h
    · split at h
      · rename_i hs
        obtain ⟨h0, h⟩ := oif' h
        have h0 := bfalse h0
        rw [Bool.or_eq_false_iff] at h0
        obtain ⟨es, h1, rfl⟩ := omap h
        exact s_callv C h0.1 (fun z => by rw [z] at h0; cases h0.2) (fun _ => rfl) (ih.len h1).2 (se_var (C.var hs)) (ih.es C h1)
      · cases h
  · obtain ⟨h0, h⟩ := oif' h
    have h0 := bfalse h0
    rw [Bool.or_eq_false_iff] at h0
    obtain ⟨f, h2, h⟩ := obind h
    obtain ⟨es, h1, rfl⟩ := omap h
    exact s_callv C h0.1 (fun z => by rw [z] at h0; cases h0.2) (fun _ => rfl) (ih.len h1).2 (ih.e C h2) (ih.es C h1)
  · split at h
    · rename_i hx
      obtain ⟨h0, h⟩ := oif' h
      obtain ⟨d, h2, rfl⟩ := omap h
      exact s_call0 C (bfalse h0) hx h2
    · cases h
  · obtain ⟨h0, h7⟩ := oif h
    clear h
    simp only [Bool.and_eq_true, decide_eq_true_eq, Bool.not_eq_true'] at h0
    obtain ⟨hot, ek, hn, hm⟩ := h0
    subst ek
    obtain ⟨a, h1, h8⟩ := obind h7
    obtain ⟨d, h2, rfl⟩ := omap h8
    exact s_minD C hot (isMin_ok hm) hn (ih.e C h1) (ih.e C h2)
  · obtain ⟨h0, h⟩ := oif' h
    have h0 := bfalse h0
    simp only [Bool.or_eq_false_iff, Bool.not_eq_false', decide_eq_true_eq] at h0
    obtain ⟨⟨⟨h0, h5⟩, h6⟩, h7⟩ := h0
    split at h
    · rename_i i hi
      obtain ⟨he, h⟩ := oif' h
      obtain ⟨es, h1, h⟩ := obind h
      obtain ⟨d, h2, rfl⟩ := omap h
      exact s_clsF C h0 hi (bfalse he) h6 (ih.len h1).2 h7 (ih.es C h1) h2
    split at h
    · rename_i k hk
      obtain ⟨o, h1, h⟩ := obind h
      obtain ⟨es, h2, rfl⟩ := omap h
      exact s_meth C h0 hk h5 h6 (ih.len h2).2 h7 (ih.len h2).1 (ih.e C h1) (ih.es C h2)
    · obtain ⟨b, hb, h⟩ := obind h
      obtain ⟨o, h1, h⟩ := obind h
      obtain ⟨es, h2, rfl⟩ := omap h
      exact s_bm C hb h5 h6 (ih.len h2).2 h7 (ih.len h2).1 (ih.e C h1) (ih.es C h2)
  · obtain ⟨h0, h⟩ := oif' h
    have h0 := bfalse h0
    simp only [Bool.or_eq_false_iff, Bool.not_eq_false'] at h0
    obtain ⟨⟨h0, h5⟩, h6⟩ := h0
    obtain ⟨t, h1, h⟩ := obind h
    obtain ⟨h2, h⟩ := oif h
    obtain ⟨it, h3, h⟩ := obind h
    obtain ⟨e1, h4, h⟩ := obind h
    obtain ⟨_, rfl⟩ := C.cool h0
    split at h
    · cases h
      exact s_lcE C h0 h5 h6 h1 h2 (ih.it C h3) (fun X' C' => ih.e C' h4) (.inl ⟨rfl, rfl⟩)
    · obtain ⟨k, h7, rfl⟩ := omap h
      exact s_lcE C h0 h5 h6 h1 h2 (ih.it C h3) (fun X' C' => ih.e C' h4) (.inr ⟨_, k, rfl, rfl, fun X' C' => (ih.t C' h7).1⟩)
    · cases h
  · cases h
theorem sound_all (L : Lk) : ∀ m k, k ≤ m → SndAll L k
  | 0, k, h => by
    have : k = 0 := by omega
    subst this
    exact sound_zero L
  | m + 1, k, h => by
    by_cases e : k = m + 1
    · subst e
      have ihs := sound_all L m
      have ih := ihs m (Nat.le_refl m)
      exact ⟨fun C h => sound_e ih C h, fun C h => sound_es ih C h, fun h => sound_len ih h, fun C h => sound_t ih ihs C h, fun C h => sound_it ih ihs C h⟩
    · exact sound_all L m k (by omega)
theorem sound (L : Lk) (m : Nat) : SndAll L m := sound_all L m m (Nat.le_refl m)
end
end BW
set_option maxHeartbeats 4000000
/-! Statements: the translation's parts, the readings. -/
namespace BW
open PySem PySem.Spec PyProof.Rows L2
/-- what a statement's result asks -/
def FinS (g : G) (xb : XB) (W : WX) (D : Ends) (H : Hp) (ι : List Addr) (μ : Store) (r : RS) : Prop := match r with
  | .mk (.nx ρ) μ' => ∀ σ H' ι', Ext H ι μ H' ι' μ' → RM g H' ι' μ' → RE g xb H' ι' σ ρ → D.nx σ H'
  | .mk (.bk ρ) μ' => ∀ σ H' ι', Ext H ι μ H' ι' μ' → RM g H' ι' μ' → RE g xb H' ι' σ ρ → D.bk σ H'
  | .mk (.ct ρ) μ' => ∀ σ H' ι', Ext H ι μ H' ι' μ' → RM g H' ι' μ' → RE g xb H' ι' σ ρ → D.ct σ H'
  | .mk (.rt v) μ' => ∀ w H' ι', Ext H ι μ H' ι' μ' → RM g H' ι' μ' → RV g H' ι' v w → D.rt w H'
  | .mk (.ex e ρ) μ' => ∀ cls d σ H' ι', Ext H ι μ H' ι' μ' → RM g H' ι' μ' → RE g xb H' ι' σ ρ → RX g H' cls d e → W cls d σ H'
  | .bad => False
section
variable {g : G} {xb : XB} {W : WX} {D : Ends} {H H' : Hp} {ι ι' : List Addr} {μ μ' : Store}
theorem FinS.ext {r : RS} (x : Ext H ι μ H' ι' μ') (h : FinS g xb W D H ι μ r) : FinS g xb W D H' ι' μ' r := by
  cases r with
  | bad => exact h
  | mk f μ1 =>
    cases f with
    | nx ρ => exact fun σ H1 ι1 y => h σ H1 ι1 (x.trans y)
    | bk ρ => exact fun σ H1 ι1 y => h σ H1 ι1 (x.trans y)
    | ct ρ => exact fun σ H1 ι1 y => h σ H1 ι1 (x.trans y)
    | rt v => exact fun σ H1 ι1 y => h σ H1 ι1 (x.trans y)
    | ex e ρ => exact fun cls d σ H1 ι1 y => h cls d σ H1 ι1 (x.trans y)
theorem FinS.nx {ρ : BW.Env} {σ : L2.St} (h : FinS g xb W D H ι μ (.mk (.nx ρ) μ)) (rm : RM g H ι μ) (re : RE g xb H ι σ ρ) : D.nx σ H := h σ H ι .refl rm re
theorem FinS.rt {v : PV} {w : V} (h : FinS g xb W D H ι μ (.mk (.rt v) μ)) (rm : RM g H ι μ) (rv : RV g H ι v w) : D.rt w H := h w H ι .refl rm rv
theorem FinS.nx' {ρ : BW.Env} {σ : L2.St} (x : Ext H ι μ H' ι' μ') (h : FinS g xb W D H ι μ (.mk (.nx ρ) μ')) (rm : RM g H' ι' μ') (re : RE g xb H' ι' σ ρ) : D.nx σ H' := h σ H' ι' x rm re
end
/-- the reading of a statement that is r of the slots and the store -/
def tR (g : G) (xb : XB) (W : WX) (r : BW.Env → Store → RS) : TS := fun Dn σ H => ∃ ι ρ μ, RE g xb H ι σ ρ ∧ RM g H ι μ ∧ FinS g xb W Dn H ι μ (r ρ μ)
theorem tR_congr {g : G} {xb : XB} {W : WX} {r r' : BW.Env → Store → RS} {D : Ends} {σ : L2.St} {H : Hp} (e : ∀ ρ μ, r ρ μ = r' ρ μ) (h : tR g xb W r D σ H) : tR g xb W r' D σ H := by
  have : r = r' := funext fun ρ => funext fun μ => e ρ μ
  rw [← this]; exact h
/-- the first expression of a statement is read -/
theorem fs_st {g : G} {xb : XB} {W : WX} {D : Ends} {α β : Type} {R : Hp → List Addr → α → β → Prop} {σ : L2.St} {H : Hp} {ι : List Addr} {ρ : BW.Env} {μ : Store} {r : Res α} {k : α → Store → RS} (re : RE g xb H ι σ ρ) (rm : RM g H ι μ) (h : FinS g xb W D H ι μ (r.st ρ k)) :
    Fin g W σ R H ι μ r fun v H1 => ∃ a ι1 μ1, r = .ok a μ1 ∧ Ext H ι μ H1 ι1 μ1 ∧ RE g xb H1 ι1 σ ρ ∧ RM g H1 ι1 μ1 ∧ R H1 ι1 a v ∧ FinS g xb W D H1 ι1 μ1 (k a μ1) := by
  cases r with
  | bad => exact h
  | ok a μ1 => exact fun v H1 ι1 x m q => ⟨a, ι1, μ1, rfl, x, re.mono rm x, m, q, FinS.ext x h⟩
  | ex e μ1 => exact fun cls d H1 ι1 x m q => h cls d σ H1 ι1 x m (re.mono rm x) q
theorem tR_st {g : G} {xb : XB} {W : WX} {D : Ends} {α β : Type} {R : Hp → List Addr → α → β → Prop} {σ : L2.St} {H : Hp} {r : BW.Env → Store → Res α} {k : BW.Env → α → Store → RS} (h : tR g xb W (fun ρ μ => (r ρ μ).st ρ (k ρ)) D σ H) :
    tI g xb W R r σ H fun v H1 => ∃ a ι1 ρ μ1, RE g xb H1 ι1 σ ρ ∧ RM g H1 ι1 μ1 ∧ R H1 ι1 a v ∧ FinS g xb W D H1 ι1 μ1 (k ρ a μ1) := by
  obtain ⟨ι, ρ, μ, re, rm, h⟩ := h
  exact ⟨ι, ρ, μ, re, rm, (fs_st (R := R) re rm h).imp fun a μ1 v H1 ι1 e x m q ⟨a', ι2, μ2, _, x2, re2, m2, q2, h2⟩ => ⟨a', ι2, ρ, μ2, re2, m2, q2, h2⟩⟩
/-- where a statement stands -/
structure CtxS (L : Lk) (n : Nat) (c : TC) (xb : XB) (W : WX) (X : Cx) : Prop extends CtxE L n c xb W X where
  pass : PassesOwn (model X.prog X.w) X.A X.env X.xe
  stk : X.stack = X.env :: X.outer
  frm : X.env.frame = some X.env.locals
abbrev tSt (g : G) (xb : XB) (W : WX) (P : Prog) (D : Den) (s : IS) : TS := tR g xb W (evS P D s xb.v)
abbrev tSts (g : G) (xb : XB) (W : WX) (P : Prog) (D : Den) (s : List IS) : TS := tR g xb W (evSs P D s xb.v)
abbrev SS (L : Lk) (n : Nat) (xb : XB) (W : WX) (X : Cx) (st : Stmt) (s : IS) : Prop := PS X st (tSt L.g xb W L.T.P (L.D n) s)
abbrev SSs (L : Lk) (n : Nat) (xb : XB) (W : WX) (X : Cx) (st : List Stmt) (s : List IS) : Prop := PSs X st (tSts L.g xb W L.T.P (L.D n) s)
section
variable {L : Lk} {n : Nat} {c : TC} {xb : XB} {W : WX} {X : Cx}
/-! ### suites -/
theorem ss_nil : SSs L n xb W X [] [] := pss_nil.imp fun D σ H ⟨ι, ρ, μ, re, rm, q⟩ => by
  rw [evSs] at q
  exact q.nx rm re
theorem ss_cons {st : Stmt} {r : List Stmt} {s : IS} {rs : List IS} (h1 : SS L n xb W X st s) (h2 : SSs L n xb W X r rs) : SSs L n xb W X (st :: r) (s :: rs) := (pss_cons h1 h2).imp fun D σ H ⟨ι, ρ, μ, re, rm, q⟩ => by
  rw [evSs] at q
  refine ⟨ι, ρ, μ, re, rm, ?_⟩
  cases e : evS L.T.P (L.D n) s xb.v ρ μ with
  | bad => rw [e] at q; exact q
  | mk f μ1 =>
    rw [e] at q
    cases f with
    | nx ρ1 => exact fun σ1 H1 ι1 x m r => ⟨ι1, ρ1, μ1, r, m, FinS.ext x q⟩
    | bk ρ1 => exact q
    | ct ρ1 => exact q
    | rt v => exact q
    | ex e ρ1 => exact q
/-! ### names, targets -/
theorem ss_set (C : CtxS L n c xb W X) {x : Str} {i : Nat} {e : Expr} {ie : IE} {p pos : Pos} (hx : locOf c x = some i) (hn : ncomp e = true) (he : SE L n xb W X e ie) : SS L n xb W X (.Assign [.Name x p] e pos) (.set i ie) := by
  obtain ⟨h1, h2, h3, h4⟩ := C.loc hx
  refine (ps_set (by rw [C.N]; exact C.nd) h1 h2 he (ncomp_ok hn) h3).imp fun D σ H h => ?_
  have h := tR_congr (r' := fun ρ μ => (evE L.T.P (L.D n) xb.v ie ρ μ).st ρ fun x μ => .mk (.nx (ρ.set i (some x))) μ) (fun ρ μ => by rw [evS]) h
  exact tI_mono (tR_st (R := RVf L.g) (k := fun ρ x μ => .mk (.nx (ρ.set i (some x))) μ) h) fun v H1 ⟨a, ι1, ρ, μ1, re, rm, rv, q⟩ => q.nx rm (re.set rv h4)
theorem ss_setCell (C : CtxS L n c xb W X) {x : Str} {i : Nat} {elt : Expr} {gs : List Comprehension} {scope : Scope} {cpos : Pos} {ie : IE} {p pos : Pos} (hx : locOf c x = some i) (hc : c.sc.names.lookup x = some .cell) (he : SE L n xb W X (.ListComp elt gs scope cpos) ie) : SS L n xb W X (.Assign [.Name x p] (.ListComp elt gs scope cpos) pos) (.set i ie) := by
  obtain ⟨h1, h2, h3, h4⟩ := C.loc hx
  have hk : X.env.kindOf x = some .cell := by
    show X.env.scope.names.lookup x = _
    rw [C.sc]; exact hc
  have hs : swapsWith (.ListComp elt gs scope cpos) (some (.Name x p)) pos.line X.env = pure false := by
    unfold swapsWith
    simp only [hk]
    rw [show (some NameKind.cell == some NameKind.local) = false from rfl]
    simp
  refine (ps_set (by rw [C.N]; exact C.nd) h1 h2 he hs h3).imp fun D σ H h => ?_
  have h := tR_congr (r' := fun ρ μ => (evE L.T.P (L.D n) xb.v ie ρ μ).st ρ fun x μ => .mk (.nx (ρ.set i (some x))) μ) (fun ρ μ => by rw [evS]) h
  exact tI_mono (tR_st (R := RVf L.g) (k := fun ρ x μ => .mk (.nx (ρ.set i (some x))) μ) h) fun v H1 ⟨a, ι1, ρ, μ1, re, rm, rv, q⟩ => q.nx rm (re.set rv h4)
theorem ss_setLc (C : CtxS L n c none W X) (hot : c.hot = false) {x : Str} {i : Nat} {p pos : Pos} {elt tg iter : Expr} {ifs : List Expr} {scope : Scope} {cpos : Pos} {t : Tg} {it : BW.It} {e : IE} {cc : Option IT} (hx : locOf c x = some i) (hl : (p.line == cpos.line) = true) (hloc : c.sc.names.lookup x = some .local)
    (hsw : (scope.names.any fun (n, k) => n == x && (k == .local || k == .cell)) = false) (hs : nset iter = true) (hk : blkC c.N c.sc scope (ownOf c.N scope) = true)
    (ht : trTg { c with sc := relS scope c.sc, blk := some scope.names } tg = some t) (hall : ((tgs t).all fun i => ((ownOf c.N scope).map (·.2)).contains i) = true) (hi : SI L n none W X tg iter it)
    (he : ∀ X', CtxE L n { c with sc := relS scope c.sc, blk := some scope.names } none Wno X' → SE L n none Wno X' elt e)
    (hc : (ifs = [] ∧ cc = none) ∨ ∃ q k, ifs = [q] ∧ cc = some k ∧ ∀ X', CtxE L n { c with sc := relS scope c.sc, blk := some scope.names } none Wno X' → ST L n none Wno X' q k) :
    SS L n none W X (.Assign [.Name x p] (.ListComp elt [⟨tg, iter, ifs, .ofNat 0⟩] scope cpos) pos) (.set i (.lc e t it cc ((ownOf c.N scope).map (·.2)))) := by
  obtain ⟨h1, h2, h3, h4⟩ := C.loc hx
  obtain ⟨wi, g, tt, te, g1, g2, g3, g4, g5, g6⟩ := s_lc (pos := cpos) C.toCtxE hot hs hk ht hall hi he hc
  have hloc : X.env.scope.names.lookup x = some .local := by rw [C.sc]; exact hloc
  have base : PS X (.Assign [.Name x p] (.ListComp elt [⟨tg, iter, ifs, .ofNat 0⟩] scope cpos) pos) (tAsg (tLc wi g tt te ((ownOf c.N scope).map (·.2))) (gName i)) :=
    ⟨fun pins s σ H D I h => (ps_setLc (C.calm hot) (by rw [C.N]; exact C.nd) h1 hloc (sw_true I.ok.kind hloc hl hsw) g1 g2 g3 g4 g5 (nset_ok hs)).run pins s σ H D I h⟩
  refine base.imp fun D σ H h => g6 _ _ _ ?_
  have h := tR_congr (r' := fun ρ μ => (evE L.T.P (L.D n) none (.lc e t it cc ((ownOf c.N scope).map (·.2))) ρ μ).st ρ fun x μ => .mk (.nx (ρ.set i (some x))) μ) (fun ρ μ => by first | (rw [evS]; done) | (rw [evS]; rfl)) h
  exact tI_mono (tR_st (R := RVf L.g) (k := fun ρ x μ => .mk (.nx (ρ.set i (some x))) μ) h) fun v H1 ⟨a, ι1, ρ, μ1, re, rm, rv, q⟩ => q.nx rm (re.set rv h4)
def ntup : Expr → Bool
  | .Tuple _ _ _ => false
  | _ => true
theorem ntup_ok {tg e : Expr} {env : PySem.Env} (h : ntup e = true) : swappedStores [tg] e env = pure none := by
  cases e with
  | Tuple _ _ _ => cases h
  | _ => cases tg <;> rfl
theorem ss_asg (C : CtxS L n c xb W X) (hot : c.hot = false) {tg e : Expr} {t : Tg} {ie : IE} {pos : Pos} (ht : trTg c tg = some t) (hn : ncomp e = true) (hu : ntup e = true) (he : SE L n xb W X e ie) : SS L n xb W X (.Assign [tg] e pos) (.asg t ie) := by
  have pg := s_tg (L := L) (xb := xb) C.N C.nd (C.calm hot) C.gK C.loc tg t ht
  have e1 : (assignEach [tg] X.env).map (·.2) = [assign tg X.env] := asgn_map X.env [] ht
  refine (ps_asg he pg (ncomp_ok hn) (ntup_ok hu) e1).imp fun D σ H h => ?_
  have h := tR_congr (r' := fun ρ μ => (evE L.T.P (L.D n) xb.v ie ρ μ).st ρ fun x μ => match asg t x ρ μ with
    | some ρ1 => .mk (.nx ρ1) μ
    | none => .bad) (fun ρ μ => by first | (rw [evS]; done) | (rw [evS]; rfl)) h
  refine tI_mono (tR_st (R := RVf L.g) (k := fun ρ x μ => match asg t x ρ μ with
    | some ρ1 => .mk (.nx ρ1) μ
    | none => .bad) h) fun v H1 ⟨a, ι1, ρ, μ1, re, rm, rv, q⟩ => ?_
  cases e2 : asg t a ρ μ1 with
  | none => rw [e2] at q; exact q.elim
  | some ρ1 =>
    rw [e2] at q
    exact ⟨ι1, ρ, μ1, a, ρ1, re, rm, rv, e2, fun σ1 re1 _ _ => q.nx rm re1⟩
/-! ### x, y = U[e]: a table of the module -/
def tblPV (rows : List (List Int)) : PV := .tup (rows.map fun r => .tup (r.map .int))
theorem TupK.sqT {K : PySem.W.Frag} {a : Addr} {us : List Value} (h : TupK K a us) {vs : List V} (r : Vals vs us) (H : Hp) : SqT K H a vs := by
  obtain ⟨o, its, n, h1, h2, h3, h4, h5⟩ := h
  exact .inr ⟨o, its, n, h1, h2, h3, h4, by rw [h5]; exact r⟩
/-- the rows, by their addresses -/
theorem RowsK.vals {K : PySem.W.Frag} {us : List Value} {rows : List (List Int)} (h : RowsK K us rows) : ∃ as : List Addr, Vals (as.map V.ref) us ∧ as.length = rows.length ∧ ∀ (j : Nat) (r : List Int), rows[j]? = some r → ∃ b, as[j]? = some b ∧ ∀ H, SqT K H b (r.map V.int) := by
  induction h with
  | nil => exact ⟨[], .nil, rfl, fun j r e => by simp at e⟩
  | cons b vs us r rs h h2 t ih =>
    obtain ⟨as, i1, i2, i3⟩ := ih
    refine ⟨b :: as, .cons rfl i1, by simp [i2], fun j q e => ?_⟩
    cases j with
    | zero =>
      cases (show r = q from Option.some.inj e)
      exact ⟨b, rfl, fun H => h.sqT h2 H⟩
    | succ j => exact i3 j q e
theorem atI_mapT {α β : Type} (f : α → β) {xs : List α} {k : Int} {v : β} (h : L2.atI (xs.map f) k = some v) : ∃ (j : Nat) (x : α), xs[j]? = some x ∧ f x = v ∧ ∀ {γ : Type} (ys : List γ) (y : γ), ys.length = xs.length → ys[j]? = some y → L2.atI ys k = some y := by
  unfold L2.atI at h
  rw [List.length_map] at h
  cases e : L2.ixN xs.length k with
  | none => rw [e] at h; cases h
  | some j =>
    rw [e] at h
    have h : (xs.map f)[j]? = some v := h
    rw [List.getElem?_map] at h
    cases e2 : xs[j]? with
    | none => rw [e2] at h; cases h
    | some x =>
      rw [e2] at h
      refine ⟨j, x, e2, Option.some.inj h, fun ys y hl hy => ?_⟩
      unfold L2.atI
      rw [hl, e]
      exact hy
theorem st_bind {α β : Type} {r : Res α} {f : α → Store → Res β} {k : β → Store → RS} {ρ : BW.Env} : (r.bind f).st ρ k = r.st ρ fun a μ => (f a μ).st ρ k := by
  cases r <;> rfl
theorem ss_unp (C : CtxS L n c xb W X) (hot : c.hot = false) {U : Str} {up sp p pos : Pos} {k : Nat} {ix : Expr} {ts : List Expr} {rows : List (List Int)} {tts : List Tg} {ie : IE} (hU : globOf L.T c U = some (.tbl rows)) (hs : nsl ix = true) (hi : SE L n xb W X ix ie) (ht : trTg c (.Tuple ts k p) = some (.tup tts)) :
    SS L n xb W X (.Assign [.Tuple ts k p] (.Subscript (.Name U up) ix sp) pos) (.asg (.tup tts) (.idx (.con (tblPV rows)) ie)) := by
  obtain ⟨hG, hE, hD⟩ := C.toCtxE.gl hU
  cases hE with
  | tbl rows a us h h2 h3 =>
  have hn : trTgs c ts = some tts := by
    unfold trTg at ht
    cases q : trTgs c ts with
    | none => rw [q] at ht; cases ht
    | some t2 => rw [q] at ht; cases ht; rfl
  obtain ⟨n1, n2, n3⟩ := asgn_none X.env ts tts hn
  have pg := pg_tup (C.calm hot) (s_tgs (L := L) (xb := xb) C.N C.nd (C.calm hot) C.gK C.loc ts tts hn) n2 n1 (k := k) (pos := p)
  have e1 : (assignEach [.Tuple ts k p] X.env).map (·.2) = [assign (.Tuple ts k p) X.env] := asgn_map X.env [] ht
  refine (ps_asg (pe_ix ix_tup (pe_glob hG h (v := .ref a) rfl hD) hi (nsl_ok hs)) pg rfl rfl e1).imp fun D σ H q => ?_
  have q := tR_congr (r' := fun ρ μ => (evE L.T.P (L.D n) xb.v ie ρ μ).st ρ fun y μ => (idxV (tblPV rows) y μ).st ρ fun x μ => match asg (.tup tts) x ρ μ with
    | some ρ1 => .mk (.nx ρ1) μ
    | none => .bad) (fun ρ μ => by
      rw [evS, evE, st_bind]
      rw [show evE L.T.P (L.D n) xb.v (.con (tblPV rows)) ρ μ = .ok (tblPV rows) μ by rw [evE]]
      show (Res.bind _ _).st ρ _ = _
      rw [st_bind]
      first | done | rfl) q
  refine tI_mono (tR_st (R := RVf L.g) (k := fun ρ y μ => (idxV (tblPV rows) y μ).st ρ fun x μ => match asg (.tup tts) x ρ μ with
    | some ρ1 => .mk (.nx ρ1) μ
    | none => .bad) q) fun y H1 ⟨py, ι1, ρ, μ1, re, rm, ry, q⟩ => ?_
  cases py with
  | int j =>
    cases (show y = .int j from ry)
    have q : FinS L.g xb W D H1 ι1 μ1 ((Res.ofO (L2.atI (rows.map fun r => PV.tup (r.map .int)) j) μ1).st ρ fun x μ => match asg (.tup tts) x ρ μ with
      | some ρ1 => .mk (.nx ρ1) μ
      | none => .bad) := q
    cases e : L2.atI (rows.map fun r => PV.tup (r.map .int)) j with
    | none => rw [e] at q; exact q.elim
    | some pv =>
      rw [e] at q
      obtain ⟨i, r, g1, rfl, g2⟩ := atI_mapT _ e
      obtain ⟨as, v1, v2, v3⟩ := h3.vals
      obtain ⟨b, g3, g4⟩ := v3 i r g1
      have q : FinS L.g xb W D H1 ι1 μ1 (match asg (.tup tts) (.tup (r.map .int)) ρ μ1 with
        | some ρ1 => .mk (.nx ρ1) μ1
        | none => .bad) := q
      cases e2 : asg (.tup tts) (.tup (r.map .int)) ρ μ1 with
      | none => rw [e2] at q; exact q.elim
      | some ρ1 =>
        rw [e2] at q
        have e3 : asgs tts (r.map .int) ρ μ1 = some ρ1 := by rw [← e2, asg]; rfl
        refine ⟨a, as.map V.ref, j, .ref b, rfl, rfl, by rw [← C.K]; exact h2.sqT v1 H1, g2 _ _ (by rw [List.length_map, v2]) (by rw [List.getElem?_map, g3]; rfl), b, r.map V.int, rfl, by rw [← C.K]; exact g4 H1, by rw [List.length_map, ← asgs_len e3, List.length_map], ?_⟩
        exact ⟨ι1, ρ, μ1, r.map .int, ρ1, re, rm, RVs.of_ints r, e3, fun σ1 re1 _ _ => q.nx rm re1⟩
  | _ => exact q.elim
/-! ### a, b = x, y -/
theorem swapped2 {env : PySem.Env} {x y : Str} {a b : Expr} {px py pt pt2 : Pos} {kt k2 : Nat} (hk : env.scope.kind = .function) (hx : env.scope.names.lookup x = some .local) (hy : env.scope.names.lookup y = some .local) (hl : (py.line == px.line) = true) (ne : x ≠ y) (na : nst a = true) (nb : nst b = true)
    (h1 : ([a, b].all (foldedForSure 8)) = false) (h2 : ([a, b].all (constantsAlone 8)) = false) : swappedStores [.Tuple [.Name x px, .Name y py] kt pt] (.Tuple [a, b] k2 pt2) env = pure (some [x, y]) := by
  have hb : env.blockKind = .function := by unfold Env.blockKind; rw [hk]; rfl
  have kx : env.kindOf x = some .local := hx
  have ky : env.kindOf y = some .local := hy
  have st : ∀ {e : Expr}, nst e = true → (match e with | .Starred .. => true | _ => false) = false := fun {e} h => by cases e <;> first | rfl | cases h
  have e1 : [x, y].eraseDups.length = 2 := by
    have : (y == x) = false := by simpa using Ne.symm ne
    simp [List.eraseDups, List.eraseDupsBy, List.eraseDupsBy.loop, this]
  unfold swappedStores
  simp only [hb, kx, ky, hl, h1, h2, List.any_cons, st na, st nb, List.any_nil, List.filterMap_cons, List.filterMap_nil, List.head?_cons, Option.map_some, Option.getD_some, Expr.pos, beq_self_eq_true, Bool.and_self, if_true, e1, List.length_cons, List.length_nil]
  simp
  intro h
  rcases h with h | h
  · cases a <;> first | (cases na; done) | (cases h; done)
  · cases b <;> first | (cases nb; done) | (cases h; done)
theorem swapped3 {env : PySem.Env} {x y z : Str} {a b d : Expr} {px py pz pt pt2 : Pos} {kt k2 : Nat} (hk : env.scope.kind = .function) (hx : env.scope.names.lookup x = some .local) (hy : env.scope.names.lookup y = some .local) (hz : env.scope.names.lookup z = some .local) (hl : (py.line == px.line) = true) (hl2 : (pz.line == px.line) = true) (ne : x ≠ y) (ne2 : x ≠ z) (ne3 : y ≠ z) (na : nst a = true) (nb : nst b = true) (nd : nst d = true)
    (h1 : ([a, b, d].all (foldedForSure 8)) = false) (h2 : ([a, b, d].all (constantsAlone 8)) = false) : swappedStores [.Tuple [.Name x px, .Name y py, .Name z pz] kt pt] (.Tuple [a, b, d] k2 pt2) env = pure (some [x, y, z]) := by
  have hb : env.blockKind = .function := by unfold Env.blockKind; rw [hk]; rfl
  have kx : env.kindOf x = some .local := hx
  have ky : env.kindOf y = some .local := hy
  have kz : env.kindOf z = some .local := hz
  have st : ∀ {e : Expr}, nst e = true → (match e with | .Starred .. => true | _ => false) = false := fun {e} h => by cases e <;> first | rfl | cases h
  have e1 : [x, y, z].eraseDups.length = 3 := by
    have q1 : (y == x) = false := by simpa using Ne.symm ne
    have q2 : (z == x) = false := by simpa using Ne.symm ne2
    have q3 : (z == y) = false := by simpa using Ne.symm ne3
    simp [List.eraseDups, List.eraseDupsBy, List.eraseDupsBy.loop, q1, q2, q3]
  unfold swappedStores
  simp only [hb, kx, ky, kz, hl, hl2, h1, h2, List.any_cons, st na, st nb, st nd, List.any_nil, List.filterMap_cons, List.filterMap_nil, List.head?_cons, Option.map_some, Option.getD_some, Expr.pos, beq_self_eq_true, Bool.and_self, if_true, e1, List.length_cons, List.length_nil]
  simp
  intro h
  rcases h with h | h | h
  · cases a <;> first | (cases na; done) | (cases h; done)
  · cases b <;> first | (cases nb; done) | (cases h; done)
  · cases d <;> first | (cases nd; done) | (cases h; done)
theorem ss_par2 (C : CtxS L n c xb W X) (hot : c.hot = false) {x y : Str} {i j : Nat} {a b : Expr} {es : List IE} {px py pt pt2 pos : Pos} {kt k2 : Nat} (hx : locOf c x = some i) (hy : locOf c y = some j) (lx : c.sc.names.lookup x = some .local) (ly : c.sc.names.lookup y = some .local) (hl : (py.line == px.line) = true) (ne : x ≠ y) (na : nst a = true) (nb : nst b = true)
    (h1 : ([a, b].all (foldedForSure 8)) = false) (h2 : ([a, b].all (constantsAlone 8)) = false) (ha : SA L n xb W X [a, b] es) : SS L n xb W X (.Assign [.Tuple [.Name x px, .Name y py] kt pt] (.Tuple [a, b] k2 pt2) pos) (.par [i, j] es) := by
  obtain ⟨x1, x2, x3, x4⟩ := C.loc hx
  obtain ⟨y1, y2, y3, y4⟩ := C.loc hy
  have lx : X.env.scope.names.lookup x = some .local := by rw [C.sc]; exact lx
  have ly : X.env.scope.names.lookup y = some .local := by rw [C.sc]; exact ly
  have hij : i ≠ j := fun e => by rw [e, y1] at x1; exact ne (Option.some.inj x1).symm
  have base : PS X (.Assign [.Tuple [.Name x px, .Name y py] kt pt] (.Tuple [a, b] k2 pt2) pos) (tPar i j (tEs L.g xb W L.T.P (L.D n) es)) :=
    ⟨fun pins s σ H D I h => (ps_par (C.calm hot) (by rw [C.N]; exact C.nd) x1 y1 hij lx ly ha (swapped2 I.ok.kind lx ly hl ne na nb h1 h2) rfl).run pins s σ H D I h⟩
  refine base.imp fun D σ H h => ?_
  have h := tR_congr (r' := fun ρ μ => (evEs L.T.P (L.D n) xb.v es ρ μ).st ρ fun xs μ => match xs with
    | [v, w] => .mk (.nx ((ρ.set i (some v)).set j (some w))) μ
    | _ => .bad) (fun ρ μ => by first | (rw [evS]; done) | (rw [evS]; rfl)) h
  refine tI_mono (tR_st (R := RVsf L.g) (k := fun ρ xs μ => match xs with
    | [v, w] => .mk (.nx ((ρ.set i (some v)).set j (some w))) μ
    | _ => .bad) h) fun vs H1 ⟨xs, ι1, ρ, μ1, re, rm, rv, q⟩ => ?_
  split at q
  · obtain ⟨u, w, rfl, r1, r2⟩ := rvs2 rv
    exact ⟨u, w, rfl, q.nx rm ((re.set r1 x4).set r2 y4)⟩
  · exact q.elim
theorem ss_par3 (C : CtxS L n c xb W X) (hot : c.hot = false) {x y z : Str} {i j l : Nat} {a b d : Expr} {es : List IE} {px py pz pt pt2 pos : Pos} {kt k2 : Nat} (hx : locOf c x = some i) (hy : locOf c y = some j) (hz : locOf c z = some l) (lx : c.sc.names.lookup x = some .local) (ly : c.sc.names.lookup y = some .local) (lz : c.sc.names.lookup z = some .local) (hl : (py.line == px.line) = true) (hl2 : (pz.line == px.line) = true) (ne : x ≠ y) (ne2 : x ≠ z) (ne3 : y ≠ z) (na : nst a = true) (nb : nst b = true) (nd : nst d = true)
    (h1 : ([a, b, d].all (foldedForSure 8)) = false) (h2 : ([a, b, d].all (constantsAlone 8)) = false) (ha : SA L n xb W X [a, b, d] es) : SS L n xb W X (.Assign [.Tuple [.Name x px, .Name y py, .Name z pz] kt pt] (.Tuple [a, b, d] k2 pt2) pos) (.par [i, j, l] es) := by
  obtain ⟨x1, x2, x3, x4⟩ := C.loc hx
  obtain ⟨y1, y2, y3, y4⟩ := C.loc hy
  obtain ⟨z1, z2, z3, z4⟩ := C.loc hz
  have lx : X.env.scope.names.lookup x = some .local := by rw [C.sc]; exact lx
  have ly : X.env.scope.names.lookup y = some .local := by rw [C.sc]; exact ly
  have lz : X.env.scope.names.lookup z = some .local := by rw [C.sc]; exact lz
  have hij : i ≠ j := fun e => by rw [e, y1] at x1; exact ne (Option.some.inj x1).symm
  have hil : i ≠ l := fun e => by rw [e, z1] at x1; exact ne2 (Option.some.inj x1).symm
  have hjl : j ≠ l := fun e => by rw [e, z1] at y1; exact ne3 (Option.some.inj y1).symm
  have base : PS X (.Assign [.Tuple [.Name x px, .Name y py, .Name z pz] kt pt] (.Tuple [a, b, d] k2 pt2) pos) (tPar3 i j l (tEs L.g xb W L.T.P (L.D n) es)) :=
    ⟨fun pins s σ H D I h => (ps_par3 (C.calm hot) (by rw [C.N]; exact C.nd) x1 y1 z1 hij hil hjl lx ly lz ha (swapped3 I.ok.kind lx ly lz hl hl2 ne ne2 ne3 na nb nd h1 h2) rfl).run pins s σ H D I h⟩
  refine base.imp fun D σ H h => ?_
  have h := tR_congr (r' := fun ρ μ => (evEs L.T.P (L.D n) xb.v es ρ μ).st ρ fun xs μ => match xs with
    | [v, w, z] => .mk (.nx (((ρ.set i (some v)).set j (some w)).set l (some z))) μ
    | _ => .bad) (fun ρ μ => by first | (rw [evS]; done) | (rw [evS]; rfl)) h
  refine tI_mono (tR_st (R := RVsf L.g) (k := fun ρ xs μ => match xs with
    | [v, w, z] => .mk (.nx (((ρ.set i (some v)).set j (some w)).set l (some z))) μ
    | _ => .bad) h) fun vs H1 ⟨xs, ι1, ρ, μ1, re, rm, rv, q⟩ => ?_
  split at q
  · obtain ⟨u, q1, rfl, r1, rv⟩ := rv
    obtain ⟨w, z, rfl, r2, r3⟩ := rvs2 rv
    exact ⟨u, w, z, rfl, q.nx rm (((re.set r1 x4).set r2 y4).set r3 z4)⟩
  · exact q.elim
/-! ### o[i] = v, o.f = v -/
theorem pset_or {X : Cx} {t t' : TSet} (h : PSet X t) (h' : PSet X t') : PSet X (fun o i v H Q => t o i v H Q ∨ t' o i v H Q) := by
  intro pins s σ H o i v ov iv u Q I ro ri rv q
  exact q.elim (h pins s σ H o i v ov iv u Q I ro ri rv) (h' pins s σ H o i v ov iv u Q I ro ri rv)
theorem ss_sub (C : CtxS L n c xb W X) {a i e : Expr} {ia ii ie : IE} {p pos : Pos} (hs : nsl i = true) (hn : ncomp e = true) (hu : ntup e = true) (he : SE L n xb W X e ie) (ha : SE L n xb W X a ia) (hi : SE L n xb W X i ii) : SS L n xb W X (.Assign [.Subscript a i p] e pos) (.sub ia ii ie) := by
  have pg := pg_sub (pos := p) ha hi (pset_or (set_list (X := X)) (set_dict (X := X) (by have := C.toCtxE.unit; omega))) (by cases i <;> first | (intro v; rfl) | cases hs)
  refine (ps_asg (pos := pos) he pg (show swapsWithSole [.Subscript a i p] e pos.line X.env = pure false from ncomp_ok (t := some (.Subscript a i p)) (l := pos.line) (env := X.env) hn) (ntup_ok hu) rfl).imp fun D σ H h => ?_
  have h := tR_congr (r' := fun ρ μ => (evE L.T.P (L.D n) xb.v ie ρ μ).st ρ fun v μ => (evE L.T.P (L.D n) xb.v ia ρ μ).st ρ fun x μ => (evE L.T.P (L.D n) xb.v ii ρ μ).st ρ fun y μ => match x, y with
    | .loc l, .int k => match μ[l]? with
      | some (.lst xs) => match L2.ixN xs.length k with
        | some j => .mk (.nx ρ) (μ.set l (.lst (xs.set j v)))
        | none => .bad
      | _ => .bad
    | .loc l, .tup ks => match μ[l]?, intsOf ks with
      | some (.dic kvs), some k => if kvs.length < sizeLine then .mk (.nx ρ) (μ.set l (.dic (dput k v kvs))) else .bad
      | _, _ => .bad
    | _, _ => .bad) (fun ρ μ => by first | (rw [evS]; done) | (rw [evS]; rfl)) h
  refine tI_mono (tR_st (R := RVf L.g) (k := fun ρ v μ => (evE L.T.P (L.D n) xb.v ia ρ μ).st ρ fun x μ => (evE L.T.P (L.D n) xb.v ii ρ μ).st ρ fun y μ => match x, y with
    | .loc l, .int k => match μ[l]? with
      | some (.lst xs) => match L2.ixN xs.length k with
        | some j => .mk (.nx ρ) (μ.set l (.lst (xs.set j v)))
        | none => .bad
      | _ => .bad
    | .loc l, .tup ks => match μ[l]?, intsOf ks with
      | some (.dic kvs), some k => if kvs.length < sizeLine then .mk (.nx ρ) (μ.set l (.dic (dput k v kvs))) else .bad
      | _, _ => .bad
    | _, _ => .bad) h) fun v H1 ⟨pv, ι1, ρ, μ1, re, rm, rv, q⟩ => ?_
  refine ⟨ι1, ρ, μ1, re, rm, (fs_st (R := RVf L.g) re rm q).imp fun _ _ x H2 _ _ _ _ _ ⟨px, ι2, μ2, _, x2, re2, rm2, rx, q2⟩ => ?_⟩
  refine ⟨ι2, ρ, μ2, re2, rm2, (fs_st (R := RVf L.g) re2 rm2 q2).imp fun _ _ y H3 _ _ _ _ _ ⟨py, ι3, μ3, _, x3, re3, rm3, ry, q3⟩ => ?_⟩
  have rv3 := (rv.mono rm x2).mono rm2 x3
  have rx3 := rx.mono rm2 x3
  cases px with
  | loc l =>
    cases py with
    | int k =>
      cases ry
      dsimp only at q3
      cases e1 : μ3[l]? with
      | none => rw [e1] at q3; exact q3.elim
      | some cell =>
        cases cell with
        | lst xs =>
          rw [e1] at q3
          dsimp only at q3
          cases e2 : L2.ixN xs.length k with
          | none => rw [e2] at q3; exact q3.elim
          | some j =>
            rw [e2] at q3
            obtain ⟨b, vs, ib, hb, t⟩ := rm_lst rm3 e1
            obtain ⟨b', ib', rfl⟩ := rx3
            rw [ib] at ib'; cases ib'
            refine .inl ⟨b, vs, k, j, rfl, rfl, hb, by rw [← t.length]; exact e2, ?_⟩
            have xw := Ext.write (o := .lst (vs.set j v)) (c' := .lst (xs.set j pv)) rm3 ib e1 rfl
            exact q3.nx' xw (RM.write rm3 ib e1 rfl rfl ⟨_, upd_same, (t.mono rm3 xw).set (rv3.mono rm3 xw) j⟩) (re3.mono rm3 xw)
        | frz xs => rw [e1] at q3; exact q3.elim
        | clo _ => rw [e1] at q3; exact q3.elim
        | dead => rw [e1] at q3; exact q3.elim
        | ins _ _ => rw [e1] at q3; exact q3.elim
        | dic _ => rw [e1] at q3; exact q3.elim
    | tup ks =>
      dsimp only at q3
      cases e1 : μ3[l]? with
      | none => rw [e1] at q3; exact q3.elim
      | some cell =>
        cases cell with
        | dic kvs =>
          rw [e1] at q3
          cases e2 : intsOf ks with
          | none => rw [e2] at q3; exact q3.elim
          | some k =>
            rw [e2] at q3
            try dsimp only at q3
            split at q3
            · rename_i hlen
              have hd : dicAt μ3 (.loc l) = some kvs := by
                show (match μ3[l]? with | some (.dic kvs) => some kvs | _ => none) = _
                rw [e1]
              obtain ⟨b, dvs, ib, rfl, hb, t⟩ := rm_dic rm3 hd rx3
              obtain ⟨kb, rfl, hk⟩ := key_rv ry (show keyOf (.tup ks) = some k from e2)
              refine .inr ⟨b, _, rfl, DPut.t hb hk (by rw [← t.length]; exact hlen), ?_⟩
              have xw := Ext.write (o := .dT (putK dvs (k.map Sum.inl) v)) (c' := .dic (dput k pv kvs)) rm3 ib e1 rfl
              exact q3.nx' xw (RM.write rm3 ib e1 rfl rfl ⟨_, upd_same, (t.mono rm3 xw).put (rv3.mono rm3 xw)⟩) (re3.mono rm3 xw)
            · exact q3.elim
        | lst _ => rw [e1] at q3; exact q3.elim
        | frz _ => rw [e1] at q3; exact q3.elim
        | clo _ => rw [e1] at q3; exact q3.elim
        | dead => rw [e1] at q3; exact q3.elim
        | ins _ _ => rw [e1] at q3; exact q3.elim
    | _ => exact q3.elim
  | _ => exact q3.elim
theorem ss_sfld (C : CtxS L n c xb W X) {a e : Expr} {f : Str} {k : Nat} {ia ie : IE} {p pos : Pos} (hk : idx? f L.T.flds = some k) (hn : ncomp e = true) (he : SE L n xb W X e ie) (ha : SE L n xb W X a ia) : SS L n xb W X (.Assign [.Attribute a f p] e pos) (.sfld ia k ie) := by
  refine (ps_fld ha he (ncomp_ok hn)).imp fun D σ H h => ?_
  have h := tR_congr (r' := fun ρ μ => (evE L.T.P (L.D n) xb.v ie ρ μ).st ρ fun v μ => (evE L.T.P (L.D n) xb.v ia ρ μ).st ρ fun x μ => match x with
    | .loc l => match μ[l]? with
      | some (.ins c fs) => if fs.length < 1000 then .mk (.nx ρ) (μ.set l (.ins c (put k v fs))) else .bad
      | _ => .bad
    | _ => .bad) (fun ρ μ => by first | (rw [evS]; done) | (rw [evS]; rfl)) h
  refine tI_mono (tR_st (R := RVf L.g) (k := fun ρ v μ => (evE L.T.P (L.D n) xb.v ia ρ μ).st ρ fun x μ => match x with
    | .loc l => match μ[l]? with
      | some (.ins c fs) => if fs.length < 1000 then .mk (.nx ρ) (μ.set l (.ins c (put k v fs))) else .bad
      | _ => .bad
    | _ => .bad) h) fun v H1 ⟨pv, ι1, ρ, μ1, re, rm, rv, q⟩ => ?_
  refine ⟨ι1, ρ, μ1, re, rm, (fs_st (R := RVf L.g) re rm q).imp fun _ _ x H2 _ _ _ _ _ ⟨px, ι2, μ2, _, x2, re2, rm2, rx, q2⟩ => ?_⟩
  have rv2 := rv.mono rm x2
  cases px with
  | loc l =>
    dsimp only at q2
    cases e1 : μ2[l]? with
    | none => rw [e1] at q2; exact q2.elim
    | some cell =>
      cases cell with
      | ins cc fs =>
        rw [e1] at q2
        dsimp only at q2
        split at q2
        · rename_i hlen
          obtain ⟨b, dx, fvs, ib, hb, t, ic⟩ := rm_ins rm2 e1
          obtain ⟨b', ib', rfl⟩ := rx
          rw [ib] at ib'; cases ib'
          have io := C.lok.ins _ ic
          have hf : fnmOf L.T.flds k = f := by unfold fnmOf; rw [idx?_ok hk]
          refine ⟨b, L.ca cc, dx, fvs, rfl, hb, by rw [← C.K]; exact io.cls, by rw [← C.K]; exact io.no f (List.mem_of_getElem? (idx?_ok hk)), by rw [← t.length]; exact hlen, ?_⟩
          have xw := Ext.write (o := .ins (L.ca cc) dx (putF f v fvs)) (c' := .ins cc (put k pv fs)) rm2 ib e1 rfl
          have tw := (t.mono rm2 xw).put (g := L.g) (fnm_inj C.lok.fl) (f := k) (rv2.mono rm2 xw)
          exact q2.nx' xw (RM.write rm2 ib e1 rfl rfl ⟨dx, _, upd_same, by rw [← hf]; rw [← hf] at tw; exact tw, ic⟩) (re2.mono rm2 xw)
        · exact q2.elim
      | lst _ => rw [e1] at q2; exact q2.elim
      | frz _ => rw [e1] at q2; exact q2.elim
      | clo _ => rw [e1] at q2; exact q2.elim
      | dead => rw [e1] at q2; exact q2.elim
      | dic _ => rw [e1] at q2; exact q2.elim
  | _ => exact q2.elim
/-! ### augmented -/
theorem augV_noex (o : Op) (x y : PV) (μ : Store) (e : PX) (μ' : Store) : augV o x y μ ≠ .ex e μ' := by
  unfold augV
  split <;> first | (intro h; cases h; done) | (split <;> (intro h; cases h))
theorem ip_aug {g : G} {o : Operator} {p : Op} (ho : opI o = some p) : OpR X (inplaceOp o) (rB g (augV p)) := by
  have key : ∀ {x y : V} {H : Hp} {Q : VK}, rB g (augV p) x y H Q → ∃ i j, x = .int i ∧ y = .int j ∧ ((p = .add ∧ Q (.int (i + j)) H) ∨ (p = .sub ∧ Q (.int (i - j)) H) ∨ (p = .mul ∧ CMulX i j ∧ Q (.int (i * j)) H)) := by
    rintro x y H Q ⟨σ, ι, μ, px, py, rm, r1, r2, _, q⟩
    unfold augV at q
    split at q
    · cases r1; cases r2; exact ⟨_, _, rfl, rfl, .inl ⟨rfl, q.here rm rfl⟩⟩
    · cases r1; cases r2; exact ⟨_, _, rfl, rfl, .inr (.inl ⟨rfl, q.here rm rfl⟩)⟩
    · cases r1; cases r2
      split at q
      · rename_i z
        exact ⟨_, _, rfl, rfl, .inr (.inr ⟨rfl, mulOk_ok z, q.here rm rfl⟩)⟩
      · exact q.elim
    · exact q.elim
  intro pins s σ H x y v u Q I rx ry z
  obtain ⟨i, j, rfl, rfl, h⟩ := key z
  rcases h with ⟨rfl, q⟩ | ⟨rfl, q⟩ | ⟨rfl, hc, q⟩
  · cases o <;> cases ho
    exact iop_add pins s σ H _ _ v u Q I rx ry ⟨i, j, rfl, rfl, q⟩
  · cases o <;> cases ho
    exact iop_sub pins s σ H _ _ v u Q I rx ry ⟨i, j, rfl, rfl, q⟩
  · cases o <;> cases ho
    exact (show OpR X (inplaceOp .Mult) (rI CMulX fun i j => .int (i * j)) from L2.opI fun _ _ _ _ _ _ _ hc q => imul_int q hc.ok) pins s σ H _ _ v u Q I rx ry ⟨i, j, rfl, rfl, hc, q⟩
theorem ss_aug (C : CtxS L n c xb W X) {x : Str} {i : Nat} {o : Operator} {p : Op} {e : Expr} {ie : IE} {pp pos : Pos} (hx : locOf c x = some i) (ho : opI o = some p) (he : SE L n xb W X e ie) : SS L n xb W X (.AugAssign (.Name x pp) o e pos) (.aug i p ie) := by
  obtain ⟨h1, h2, h3, h4⟩ := C.loc hx
  refine (ps_aug (by rw [C.N]; exact C.nd) h1 h2 he (ip_aug (g := L.g) ho) h3).imp fun D σ H ⟨ι, ρ, μ, re, rm, q⟩ => ?_
  have q : FinS L.g xb W D H ι μ (match ρ[i]? with
    | some (some x) => (evE L.T.P (L.D n) xb.v ie ρ μ).st ρ fun y μ => (augV p x y μ).st ρ fun z μ => .mk (.nx (ρ.set i (some z))) μ
    | _ => .bad) := by rw [evS] at q; exact q
  split at q
  · rename_i pv e1
    obtain ⟨v, e2, rv⟩ := re.2 i pv e1
    refine ⟨v, e2, ι, ρ, μ, re, rm, (fs_st (R := RVf L.g) re rm q).imp fun _ _ y H2 _ _ _ _ _ ⟨py, ι2, μ2, _, x2, re2, rm2, ry, q2⟩ => ?_⟩
    exact ⟨σ, ι2, μ2, pv, py, rm2, rv.mono rm x2, ry, augV_noex _ _ _ _, (Fin.noex (W := W) (σ := σ) (fs_st (R := RVf L.g) re2 rm2 q2) (augV_noex _ _ _ _)).imp fun _ _ z H3 _ _ _ _ _ ⟨pz, ι3, μ3, _, x3, re3, rm3, rz, q3⟩ => q3.nx rm3 (re3.set rz h4)⟩
  · exact q.elim
theorem pget_list : PGet X (rIxL X.K) := by
  intro pins s σ H o i ov iv Q I ro ri h
  obtain ⟨p, xs, k, z, rfl, rfl, hq, he, q⟩ := h
  cases ro
  obtain ⟨t, rfl⟩ := ri
  obtain ⟨its, r, pl, hz⟩ := I.list hq
  obtain ⟨j, h1, h2, h3, h4, h5⟩ := atI_get he
  obtain ⟨w, ew, rw'⟩ := r.get h2
  have hl := r.length
  have hn := line63
  by_cases h0 : 0 ≤ k
  · have hj : k.toNat = j := by
      rw [seqIndex_of h0 h5] at h1
      exact Option.some.inj h1
    exact wpAny_getItem_list pl.isList h0 (by omega) (by rw [hj]; simpa using ew) ⟨z, H, I, rw', q⟩
  · have hj : (k + (its.toArray.size : Int)).toNat = j := by
      rw [seqIndex_neg (by omega) h4] at h1
      rw [List.size_toArray, ← hl]
      exact Option.some.inj h1
    exact wpAny_getItem_list_neg pl.isList (by omega) (by rw [List.size_toArray] <;> omega) (by omega) (by rw [hj]; simpa using ew) ⟨z, H, I, rw', q⟩
theorem ss_augS (C : CtxS L n c xb W X) {a i e : Expr} {ia ii ie : IE} {o : Operator} {p : Op} {pp pos : Pos} (hs : nsl i = true) (ho : opI o = some p) (ha : SE L n xb W X a ia) (hi : SE L n xb W X i ii) (he : SE L n xb W X e ie) : SS L n xb W X (.AugAssign (.Subscript a i pp) o e pos) (.augS ia ii p ie) := by
  refine (ps_augS ha hi pget_list he (ip_aug (g := L.g) ho) set_list (by cases i <;> first | (intros; rfl) | cases hs)).imp fun D σ H h => ?_
  have h := tR_congr (r' := fun ρ μ => (evE L.T.P (L.D n) xb.v ia ρ μ).st ρ fun x μ => (evE L.T.P (L.D n) xb.v ii ρ μ).st ρ fun y μ => (lixV x y μ).st ρ fun u μ => (evE L.T.P (L.D n) xb.v ie ρ μ).st ρ fun v μ => (augV p u v μ).st ρ fun z μ => match x, y with
    | .loc l, .int k => match μ[l]? with
      | some (.lst xs) => match L2.ixN xs.length k with
        | some j => .mk (.nx ρ) (μ.set l (.lst (xs.set j z)))
        | none => .bad
      | _ => .bad
    | _, _ => .bad) (fun ρ μ => by first | (rw [evS]; done) | (rw [evS]; rfl)) h
  refine tI_mono (tR_st (R := RVf L.g) (k := fun ρ x μ => (evE L.T.P (L.D n) xb.v ii ρ μ).st ρ fun y μ => (lixV x y μ).st ρ fun u μ => (evE L.T.P (L.D n) xb.v ie ρ μ).st ρ fun v μ => (augV p u v μ).st ρ fun z μ => match x, y with
    | .loc l, .int k => match μ[l]? with
      | some (.lst xs) => match L2.ixN xs.length k with
        | some j => .mk (.nx ρ) (μ.set l (.lst (xs.set j z)))
        | none => .bad
      | _ => .bad
    | _, _ => .bad) h) fun x H1 ⟨px, ι1, ρ, μ1, re, rm, rx, q⟩ => ?_
  refine ⟨ι1, ρ, μ1, re, rm, (fs_st (R := RVf L.g) re rm q).imp fun _ _ y H2 _ _ _ _ _ ⟨py, ι2, μ2, _, x2, re2, rm2, ry, q2⟩ => ?_⟩
  cases px with
  | loc l =>
    cases py with
    | int k =>
      cases ry
      have rx2 := rx.mono rm x2
      dsimp only [lixV] at q2
      cases e0 : listAt μ2 (.loc l) with
      | none => rw [e0] at q2; exact q2.elim
      | some xs =>
        rw [e0] at q2
        simp only [Res.ofO_some, Res.bind_ok] at q2
        cases e1 : L2.atI xs k with
        | none => rw [e1] at q2; exact q2.elim
        | some pu =>
          rw [e1] at q2
          simp only [Res.ofO_some, Res.st_ok] at q2
          obtain ⟨ar, vs, e, s1, t1⟩ := rm_list rm2 e0 rx2
          obtain ⟨a', ia', e'⟩ := rx2
          rw [e'] at e
          have ea : a' = ar := by cases e; rfl
          subst ea
          subst e'
          obtain ⟨w, e2, rw2⟩ := at_of t1 e1
          refine ⟨a', vs, k, w, rfl, rfl, by rw [← C.gK]; exact s1, e2, ι2, ρ, μ2, re2, rm2, (fs_st (R := RVf L.g) re2 rm2 q2).imp fun _ _ y3 H3 _ _ _ _ _ ⟨pv, ι3, μ3, _, x3, re3, rm3, rv3, q3⟩ => ?_⟩
          refine ⟨σ, ι3, μ3, pu, pv, rm3, rw2.mono rm2 x3, rv3, augV_noex _ _ _ _, (Fin.noex (W := W) (σ := σ) (fs_st (R := RVf L.g) re3 rm3 q3) (augV_noex _ _ _ _)).imp fun _ _ z H4 _ _ _ _ _ ⟨pz, ι4, μ4, _, x4, re4, rm4, rz, q4⟩ => ?_⟩
          cases e4 : μ4[l]? with
          | none => rw [e4] at q4; exact q4.elim
          | some cell =>
            cases cell with
            | lst ys =>
              rw [e4] at q4
              dsimp only at q4
              cases e5 : L2.ixN ys.length k with
              | none => rw [e5] at q4; exact q4.elim
              | some j =>
                rw [e5] at q4
                obtain ⟨b, ws, ib, hb, t⟩ := rm_lst rm4 e4
                have := get_pre (x3.trans x4).pre ia'
                rw [ib] at this; cases this
                refine ⟨_, ws, k, j, rfl, rfl, hb, by rw [← t.length]; exact e5, ?_⟩
                have xw := Ext.write (o := .lst (ws.set j z)) (c' := .lst (ys.set j pz)) rm4 ib e4 rfl
                exact q4.nx' xw (RM.write rm4 ib e4 rfl rfl ⟨_, upd_same, (t.mono rm4 xw).set (rz.mono rm4 xw) j⟩) (re4.mono rm4 xw)
            | frz _ => rw [e4] at q4; exact q4.elim
            | clo _ => rw [e4] at q4; exact q4.elim
            | dead => rw [e4] at q4; exact q4.elim
            | ins _ _ => rw [e4] at q4; exact q4.elim
            | dic _ => rw [e4] at q4; exact q4.elim
    | _ => exact q2.elim
  | _ => exact q2.elim
/-! ### plain statements -/
theorem ss_doc {s : Str} {j : Nat} {p pos : Pos} : SS L n xb W X (.Expr (.Constant (.str s) j p) pos) .pass := ps_doc.imp fun D σ H ⟨ι, ρ, μ, re, rm, q⟩ => by
  rw [evS] at q
  exact q.nx rm re
theorem ss_expr {e : Expr} {ie : IE} {pos : Pos} (hn : ncomp e = true) (he : SE L n xb W X e ie) : SS L n xb W X (.Expr e pos) (.ex ie) := by
  refine (ps_expr he (ncomp_ok hn)).imp fun D σ H h => ?_
  have h := tR_congr (r' := fun ρ μ => (evE L.T.P (L.D n) xb.v ie ρ μ).st ρ fun _ μ => .mk (.nx ρ) μ) (fun ρ μ => by rw [evS]) h
  exact tI_mono (tR_st (R := RVf L.g) (k := fun ρ _ μ => .mk (.nx ρ) μ) h) fun v H1 ⟨a, ι1, ρ, μ1, re, rm, rv, q⟩ => q.nx rm re
theorem ss_ret {e : Expr} {ie : IE} {pos : Pos} (he : SE L n xb W X e ie) : SS L n xb W X (.Return (some e) pos) (.ret ie) := by
  refine (ps_ret he).imp fun D σ H h => ?_
  have h := tR_congr (r' := fun ρ μ => (evE L.T.P (L.D n) xb.v ie ρ μ).st ρ fun x μ => .mk (.rt x) μ) (fun ρ μ => by rw [evS]) h
  exact tI_mono (tR_st (R := RVf L.g) (k := fun ρ x μ => .mk (.rt x) μ) h) fun v H1 ⟨a, ι1, ρ, μ1, re, rm, rv, q⟩ => q.rt rm rv
theorem ss_retN {pos : Pos} : SS L n xb W X (.Return none pos) (.ret (.con .non)) := ps_retN.imp fun D σ H ⟨ι, ρ, μ, re, rm, q⟩ => by
  have e : evS L.T.P (L.D n) (.ret (.con .non)) xb.v ρ μ = .mk (.rt .non) μ := by rw [evS, evE]; rfl
  rw [e] at q
  exact q.rt rm rfl
theorem ss_pass {pos : Pos} : SS L n xb W X (.Pass pos) .pass := ps_pass.imp fun D σ H ⟨ι, ρ, μ, re, rm, q⟩ => by
  rw [evS] at q
  exact q.nx rm re
theorem ss_brk {pos : Pos} : SS L n xb W X (.Break pos) .brk := ps_break.imp fun D σ H ⟨ι, ρ, μ, re, rm, q⟩ => by
  rw [evS] at q
  exact q σ H ι .refl rm re
theorem ss_cnt {pos : Pos} : SS L n xb W X (.Continue pos) .cnt := ps_continue.imp fun D σ H ⟨ι, ρ, μ, re, rm, q⟩ => by
  rw [evS] at q
  exact q σ H ι .refl rm re
theorem ss_if {t : Expr} {sa sb : List Stmt} {it : IT} {ia ib : List IS} {pos : Pos} (ht : ST L n xb W X t it) (ha : SSs L n xb W X sa ia) (hb : SSs L n xb W X sb ib) : SS L n xb W X (.If t sa sb pos) (.ifs it ia ib) := by
  refine (ps_if ht ha hb).imp fun D σ H h => ?_
  have h := tR_congr (r' := fun ρ μ => (evT L.T.P (L.D n) xb.v it ρ μ).st ρ fun k μ => if k = true then evSs L.T.P (L.D n) ia xb.v ρ μ else evSs L.T.P (L.D n) ib xb.v ρ μ) (fun ρ μ => by rw [evS]) h
  refine tI_mono (tR_st (R := RB) (k := fun ρ k μ => if k = true then evSs L.T.P (L.D n) ia xb.v ρ μ else evSs L.T.P (L.D n) ib xb.v ρ μ) h) fun v H1 ⟨k, ι1, ρ, μ1, re, rm, rv, q⟩ => ?_
  cases rv
  cases v with
  | true => exact ⟨ι1, ρ, μ1, re, rm, q⟩
  | false => exact ⟨ι1, ρ, μ1, re, rm, q⟩
/-! ### raise -/
theorem ss_raise1 (C : CtxS L n c xb W X) (hot : c.hot = false) {x m : Str} {j k : Nat} {Cc : Cl} {p p2 pos pos2 : Pos} (hx : globOf L.T c x = some (.cls k)) (hc : L.T.P.cl[k]? = some Cc) (h1 : Cc.exk = 1) (h2 : Cc.exf = []) :
    SS L n xb W X (.Raise (some (.Call (.Name x p) [.Constant (.str m) j p2] [] pos2)) none pos) (.raise k []) := by
  obtain ⟨hg, ent, hd⟩ := C.gl hx
  cases ent with
  | cls _ hm _ =>
    obtain ⟨e1, e2, e3, e4⟩ := C.lok.exc k Cc hc h1
    rw [C.K] at e1 e2 e3 e4
    refine (ps_raise (C.calm hot) (C.takes hot) (pmk_own PySem.F.excBase_ValueError e1 hm e2 (raises_own e3 e4) hg hd)).imp fun D σ H ⟨ι, ρ, μ, re, rm, q⟩ => ?_
    have e : evS L.T.P (L.D n) (.raise k []) xb.v ρ μ = .mk (.ex ⟨k, []⟩ ρ) μ := by
      rw [evS, evEs_nil']
      simp only [Res.st_ok, hc, h2, intsOf, List.length_nil, if_true]
      rfl
    rw [e] at q
    exact q _ _ σ H ι .refl rm re ⟨rfl, ⟨Cc, hc, .inl h1⟩, .inl ⟨rfl, rfl⟩⟩
theorem ints_vals {g : G} {H : Hp} {ι : List Addr} : ∀ {xs : List PV} {vs : List V} {ns : List Int}, RVs g H ι xs vs → intsOf xs = some ns → vs = ns.map V.int
  | [], vs, ns, r, h => by cases h; cases r; rfl
  | x :: xs, vs, ns, r, h => by
    obtain ⟨v, w, rfl, rv, rw'⟩ := r
    cases x with
    | int i =>
      unfold intsOf at h
      obtain ⟨ms, h2, rfl⟩ := Option.map_eq_some_iff.mp h
      cases rv
      rw [ints_vals rw' h2]; rfl
    | _ => cases h
theorem zip_mem {f : Nat} {i : Int} {nm : Nat → Str} : ∀ {fs : List Nat} {ns : List Int}, (f, i) ∈ fs.zip ns → (nm f, V.int i) ∈ (fs.map nm).zip (ns.map V.int)
  | [], ns, h => by cases h
  | k :: fs, [], h => by cases h
  | k :: fs, n :: ns, h => by
    rcases List.mem_cons.mp h with e | e
    · cases e; exact List.mem_cons_self
    · exact List.mem_cons_of_mem _ (zip_mem e)
theorem ss_raise2 (C : CtxS L n c xb W X) (hot : c.hot = false) {x : Str} {k : Nat} {Cc : Cl} {e : Expr} {es : List Expr} {is : List IE} {p pos2 pos : Pos} (hx : globOf L.T c x = some (.cls k)) (hc : L.T.P.cl[k]? = some Cc) (h1 : Cc.exk = 2) (hn : ∀ a ∈ e :: es, nst a = true) (ha : SA L n xb W X (e :: es) is) :
    SS L n xb W X (.Raise (some (.Call (.Name x p) (e :: es) [] pos2)) none pos) (.raise k is) := by
  obtain ⟨hg, ent, hd⟩ := C.gl hx
  cases ent with
  | cls _ hm _ =>
    have xi := C.lok.xi k Cc hc h1
    obtain ⟨f, fd, ps, iC, tI, hb, F1⟩ := xi.ini
    have T := xi.cls
    have tk := C.takes hot
    rw [C.K] at T iC tI hb F1
    refine (ps_raise (C.calm hot) tk (pmk_oex T iC tI (F1 X.prog X.w X.mg X.base) ((C.room hot).mono (by omega)) hb .nil (passes_call tk fun _ _ _ _ h => h.elim) hg hm ha hd (star_cons (hn e List.mem_cons_self) es _) (star_any fun a h => hn a (List.mem_cons_of_mem _ h)))).imp fun D σ H h => ?_
    have h := tR_congr (r' := fun ρ μ => (evEs L.T.P (L.D n) xb.v is ρ μ).st ρ fun xs μ => match L.T.P.cl[k]? with
      | some C => match intsOf xs with
        | some ns => if ns.length = C.exf.length then .mk (.ex ⟨k, C.exf.zip ns⟩ ρ) μ else .bad
        | none => .bad
      | none => .bad) (fun ρ μ => by first | (rw [evS]; done) | (rw [evS]; rfl)) h
    refine tI_mono (tR_st (R := RVsf L.g) (k := fun ρ xs μ => match L.T.P.cl[k]? with
      | some C => match intsOf xs with
        | some ns => if ns.length = C.exf.length then .mk (.ex ⟨k, C.exf.zip ns⟩ ρ) μ else .bad
        | none => .bad
      | none => .bad) h) fun vs H1 ⟨xs, ι1, ρ, μ1, re, rm, rv, q⟩ => ?_
    rw [hc] at q
    dsimp only at q
    cases hi : intsOf xs with
    | none => rw [hi] at q; exact q.elim
    | some ns =>
      rw [hi] at q
      dsimp only at q
      by_cases hl : ns.length = Cc.exf.length
      rotate_left
      · rw [if_neg hl] at q; exact q.elim
      rw [if_pos hl] at q
      have ev := ints_vals rv hi
      have lv : vs.length = (Cc.exf.map (fnmOf L.T.flds)).length := by rw [ev, List.length_map, List.length_map, hl]
      refine ⟨by rw [lv]; have := xi.le; omega, fun a hna => ⟨a, vs, by rw [List.append_nil], lv, upd_same, fun H2 dx hdx ne e1 e2 e3 => ⟨rfl, dx, _, e1, e2, ?_, ?_⟩⟩⟩
      · rw [upd_ne ne] at hdx; exact hdx
      · have hdx1 : H1 dx = none := by rw [upd_ne ne] at hdx; exact hdx
        have eH : upd (del H2 a) dx (.xd ((Cc.exf.map (fnmOf L.T.flds)).zip vs).reverse) = upd H1 dx (.xd ((Cc.exf.map (fnmOf L.T.flds)).zip vs).reverse) := by
          funext b
          by_cases hb : b = dx
          · rw [hb, upd_same, upd_same]
          · rw [upd_ne hb, upd_ne hb]
            by_cases hb2 : b = a
            · rw [hb2, del_same, hna]
            · rw [del_ne hb2, e3 b hb2 hb, upd_ne hb2]
        rw [eH]
        have x2 := Ext.laid (μ := μ1) (ι := ι1) (o := .xd ((Cc.exf.map (fnmOf L.T.flds)).zip vs).reverse) hdx1
        have m2 := RM.laid (o := .xd ((Cc.exf.map (fnmOf L.T.flds)).zip vs).reverse) rm hdx1
        refine q _ _ σ _ ι1 x2 m2 (re.mono rm x2) ⟨rfl, ⟨Cc, hc, .inr h1⟩, .inr ⟨dx, _, rfl, upd_same, fun f i hf => ?_⟩⟩
        refine lookup_nd ?_ ?_
        · have hk : (((Cc.exf.map (fnmOf L.T.flds)).zip vs).reverse.map (·.1)) = (Cc.exf.map (fnmOf L.T.flds)).reverse := by
            rw [List.map_reverse, List.map_fst_zip (by omega)]
          rw [hk]
          exact List.pairwise_reverse.mpr (List.Pairwise.imp (fun h => Ne.symm h) xi.nd)
        · rw [List.mem_reverse, ev]
          exact zip_mem (look_mem' hf)
/-! ### while -/
theorem ss_wh (C : CtxS L n c xb W X) {t : Expr} {b : List Stmt} {it : IT} {ib : List IS} {pos : Pos} (ht : ST L n xb W X t it) (hb : SSs L n xb W X b ib) : SS L n xb W X (.While t b [] pos) (.wh it ib) := by
  refine (ps_while C.pass ht hb).imp fun D σ H ⟨ι, ρ, μ, re, rm, q⟩ => ?_
  rw [evS] at q
  unfold whDen at q
  split at q
  rotate_left
  · exact q.elim
  rename_i hx
  refine ⟨fun m σ H => ∃ ι ρ μ r, RE L.g xb H ι σ ρ ∧ RM L.g H ι μ ∧ whN (fun ρ μ => evT L.T.P (L.D n) xb.v it ρ μ) (fun ρ μ => evSs L.T.P (L.D n) ib xb.v ρ μ) m ρ μ = some r ∧ FinS L.g xb W D H ι μ r, ⟨_, ι, ρ, μ, _, re, rm, hx.choose_spec.choose_spec, q⟩, ?_⟩
  rintro m σ H ⟨ι, ρ, μ, r, re, rm, e, q⟩
  cases m with
  | zero => cases e
  | succ m =>
    rw [whN] at e
    refine ⟨ι, ρ, μ, re, rm, ?_⟩
    cases e1 : evT L.T.P (L.D n) xb.v it ρ μ with
    | bad => rw [e1] at e; cases e; exact q.elim
    | ex x μ1 =>
      rw [e1] at e
      cases e
      exact fun cls d H1 ι1 x mm r => q cls d σ H1 ι1 x mm (re.mono rm x) r
    | ok k μ1 =>
      rw [e1] at e
      intro k' H1 ι1 x mm ek
      cases ek
      have re1 := re.mono rm x
      have q1 := FinS.ext x q
      cases k with
      | false =>
        rw [if_neg Bool.false_ne_true]
        cases e
        exact q1.nx mm re1
      | true =>
        rw [if_pos rfl]
        dsimp only at e
        refine ⟨fun σ' H' => ∃ m', m' < m + 1 ∧ ∃ ι ρ μ r, RE L.g xb H' ι σ' ρ ∧ RM L.g H' ι μ ∧ whN (fun ρ μ => evT L.T.P (L.D n) xb.v it ρ μ) (fun ρ μ => evSs L.T.P (L.D n) ib xb.v ρ μ) m' ρ μ = some r ∧ FinS L.g xb W D H' ι μ r, fun σ' H' z => z, ι1, ρ, μ1, re1, mm, ?_⟩
        cases e2 : evSs L.T.P (L.D n) ib xb.v ρ μ1 with
        | bad => rw [e2] at e; cases e; exact q1.elim
        | mk f μ2 =>
          rw [e2] at e
          cases f with
          | nx ρ2 => exact fun σ2 H2 ι2 x2 m2 re2 => ⟨_, Nat.lt_succ_self _, ι2, ρ2, μ2, r, re2, m2, e, FinS.ext x2 q1⟩
          | ct ρ2 => exact fun σ2 H2 ι2 x2 m2 re2 => ⟨_, Nat.lt_succ_self _, ι2, ρ2, μ2, r, re2, m2, e, FinS.ext x2 q1⟩
          | bk ρ2 => cases e; exact fun σ2 H2 ι2 x2 m2 re2 => q1 σ2 H2 ι2 x2 m2 re2
          | rt v => cases e; exact q1
          | ex x ρ2 => cases e; exact q1
/-! ### for -/
theorem ss_for (C : CtxS L n c xb W X) (hot : c.hot = false) {tg iter : Expr} {b : List Stmt} {t : Tg} {it : BW.It} {ib : List IS} {pos : Pos} (hs : nset iter = true) (ht : trTg c tg = some t) (hi : SI L n xb W X tg iter it) (hb : SSs L n xb W X b ib) : SS L n xb W X (.For tg iter b [] pos) (.for t it ib) := by
  have pg := s_tg (L := L) (xb := xb) C.N C.nd (C.calm hot) C.gK C.loc tg t ht
  refine (ps_for C.pass (C.calm hot) hi pg hb (nset_ok hs)).imp fun D σ H h => ?_
  have h := tR_congr (r' := fun ρ μ => (evIt L.T.P (L.D n) xb.v it ρ μ).st ρ fun q μ => forDen q.2 t (fun ρ μ => evSs L.T.P (L.D n) ib xb.v ρ μ) q.1 ρ μ) (fun ρ μ => by rw [evS]) h
  refine tI_mono (tR_st (R := RIf L.g) (k := fun ρ q μ => forDen q.2 t (fun ρ μ => evSs L.T.P (L.D n) ib xb.v ρ μ) q.1 ρ μ) h) fun J H1 ⟨q, ι1, ρ, μ1, re, rm, rit, h1⟩ => ?_
  obtain ⟨items, ls⟩ := q
  have rit := rit μ1 rm
  refine ⟨fun i m σ H' => m = items.length - i ∧ i ≤ items.length ∧ ∃ (ι' : List Addr) (ρ' : BW.Env) (μ' : Store), Ext H1 ι1 μ1 H' ι' μ' ∧ RM L.g H' ι' μ' ∧ RE L.g xb H' ι' σ ρ' ∧ FinS L.g xb W D H' ι' μ' (forDen ls t (fun ρ μ => evSs L.T.P (L.D n) ib xb.v ρ μ) (items.drop i) ρ' μ'), ⟨_, rfl, Nat.zero_le _, ι1, ρ, μ1, .refl, rm, re, by rw [List.drop_zero]; exact h1⟩, ?_⟩
  rintro i m σ1 H' ⟨rfl, hi, ι', ρ', μ', x', m', re', h2⟩
  by_cases hlt : i < items.length
  · rw [List.drop_eq_getElem_cons hlt, forDen] at h2
    split at h2
    rotate_left
    · exact h2.elim
    rename_i st
    obtain ⟨go, yld⟩ := rit.go i H' ι' μ' items[i] (List.getElem?_eq_getElem hlt) x' m' st
    refine .inr ⟨go, fun σ2 H2 => ∃ m', m' < items.length - i ∧ (m' = items.length - (i + 1) ∧ i + 1 ≤ items.length ∧ ∃ (ι' : List Addr) (ρ' : BW.Env) (μ' : Store), Ext H1 ι1 μ1 H2 ι' μ' ∧ RM L.g H2 ι' μ' ∧ RE L.g xb H2 ι' σ2 ρ' ∧ FinS L.g xb W D H2 ι' μ' (forDen ls t (fun ρ μ => evSs L.T.P (L.D n) ib xb.v ρ μ) (items.drop (i + 1)) ρ' μ')), fun σ2 H2 z => z, fun y H2 hy => ?_⟩
    obtain ⟨x2, m2, rx⟩ := yld y H2 hy
    cases e1 : asg t items[i] ρ' μ' with
    | none => rw [e1] at h2; exact h2.elim
    | some ρ1 =>
      rw [e1] at h2
      dsimp only at h2
      refine ⟨ι', ρ', μ', items[i], ρ1, re'.mono m' x2, m2, rx, e1, fun σ2 re2 _ _ => ⟨ι', ρ1, μ', re2, m2, ?_⟩⟩
      have h3 := FinS.ext x2 h2
      cases e2 : evSs L.T.P (L.D n) ib xb.v ρ1 μ' with
      | bad => rw [e2] at h3; exact h3.elim
      | mk f μ2 =>
        rw [e2] at h3
        cases f with
        | nx ρ2 => exact fun σ3 H3 ι3 x3 m3 re3 => ⟨_, by omega, rfl, hlt, ι3, ρ2, μ2, (x'.trans x2).trans x3, m3, re3, FinS.ext x3 h3⟩
        | ct ρ2 => exact fun σ3 H3 ι3 x3 m3 re3 => ⟨_, by omega, rfl, hlt, ι3, ρ2, μ2, (x'.trans x2).trans x3, m3, re3, FinS.ext x3 h3⟩
        | bk ρ2 => exact fun σ3 H3 ι3 x3 m3 re3 => h3 σ3 H3 ι3 x3 m3 re3
        | rt v => exact h3
        | ex x ρ2 => exact h3
  · have e : i = items.length := by omega
    subst e
    rw [List.drop_length, forDen] at h2
    split at h2
    · rename_i st
      exact .inl ⟨rit.stop H' ι' μ' x' m' st, h2.nx m' re'⟩
    · exact h2.elim
end
end BW
set_option maxHeartbeats 4000000
/-! try: several clauses, classes by name or by a tuple of names, with or without 'as'. -/
namespace BW
open PySem PySem.Spec PyProof.Rows L2
/-! ### an except clause's test -/
section
variable {M : Model} {A : Around} {E : Value → Shared → Prop} {s : Shared}
theorem loop_yield {f : Value → PUnit → Sem (ForInStep PUnit)} {Q : PUnit → Shared → Prop} : ∀ {cs : List Value}, (∀ c ∈ cs, ∀ Q' : ForInStep PUnit → Shared → Prop, Q' (.yield ⟨⟩) s → wpAny M A (f c ⟨⟩) Q' E s) → Q ⟨⟩ s → wpAny M A (forIn cs PUnit.unit f) Q E s
  | [], _, q => by rw [List.forIn_nil]; exact wpAny_pure q
  | c :: cs, h, q => by
    rw [List.forIn_cons]
    exact wpAny_bind (h c List.mem_cons_self _ (loop_yield (fun x hx => h x (List.mem_cons_of_mem _ hx)) q))
theorem loop_find {β : Type} {f : Value → β → Sem (ForInStep β)} {y d : β} {Q : β → Shared → Prop} {g : Value → Option Bool} : ∀ {cs : List Value}, (∀ c ∈ cs, ∀ b, g c = some b → ∀ Q' : ForInStep β → Shared → Prop, (b = true → Q' (.done d) s) → (b = false → Q' (.yield y) s) → wpAny M A (f c y) Q' E s) → (∀ c ∈ cs, (g c).isSome = true) →
    ((cs.any fun c => g c == some true) = true → Q d s) → ((cs.any fun c => g c == some true) = false → Q y s) → wpAny M A (forIn cs y f) Q E s
  | [], _, _, _, q => by rw [List.forIn_nil]; exact wpAny_pure (q rfl)
  | c :: cs, h, hg, q1, q2 => by
    rw [List.forIn_cons]
    obtain ⟨b, hb⟩ := Option.isSome_iff_exists.mp (hg c List.mem_cons_self)
    refine wpAny_bind (h c List.mem_cons_self b hb _ (fun e => ?_) (fun e => ?_))
    · refine wpAny_pure (q1 ?_)
      rw [List.any_cons, hb, e]; rfl
    · refine loop_find (fun x hx => h x (List.mem_cons_of_mem _ hx)) (fun x hx => hg x (List.mem_cons_of_mem _ hx)) (fun z => q1 ?_) (fun z => q2 ?_)
      · rw [List.any_cons, z]; simp
      · rw [List.any_cons, z, hb, e]; rfl
end
theorem exmAny_all {K : PySem.W.Frag} {cls : Value} : ∀ {cs : List Value} {b : Bool}, PySem.W.exmAny K cls cs = some b → (∀ c ∈ cs, (PySem.W.exmOne K cls c).isSome = true) ∧ b = cs.any fun c => PySem.W.exmOne K cls c == some true
  | [], b, h => by
    have : some false = some b := h
    cases this
    exact ⟨fun c hc => (by cases hc), rfl⟩
  | c :: cs, b, h => by
    obtain ⟨b1, d1, h1, h2, rfl⟩ := PySem.W.exmAny_cons h
    obtain ⟨g1, g2⟩ := exmAny_all h2
    refine ⟨fun x hx => ?_, ?_⟩
    · rcases List.mem_cons.mp hx with rfl | hx
      · rw [h1]; rfl
      · exact g1 x hx
    · rw [List.any_cons, h1, ← g2]
      cases b1 <;> rfl
theorem exm_any {M : Model} {K : PySem.W.Frag} {cs : List Value} {cls : Value} {tp e : Addr} {b : Bool} {h : Heap} (X : K.In h) (LT : PySem.W.Looks M h (typeOf (.ref e)) cls) (hp : h.get? tp = some { cls := .type "tuple", data := .seq cs.toArray }) (hx : PySem.W.exmAny K cls cs = some b) : PySem.W.Looks M h (excMatches (.ref e) (.ref tp)) b := by
  intro A Q E s k q
  have LT0 : PySem.W.Looks M h (isInstance (.ref tp) (.type "tuple")) true := ((PySem.W.Looks.ld hp).andThen .now).andThen (PySem.W.Looks.of_pure isSubtype_tuple_tuple)
  obtain ⟨g1, g2⟩ := exmAny_all hx
  unfold excMatches
  refine wpAny_bind ((LT0.keeps k).here ?_)
  rw [if_pos rfl]
  refine wpAny_bind (wpAny_seqItems (k _ _ hp) rfl ?_)
  refine wpAny_bind (wpAny_pure ?_)
  show wpAny M A (do
      forIn cs PUnit.unit _
      let te ← typeOf (Value.ref e)
      _) Q E s
  refine wpAny_bind (loop_yield (fun c hc Q' q' => ?_) ?_)
  · have := g1 c hc
    obtain ⟨b1, hb1⟩ := Option.isSome_iff_exists.mp this
    obtain ⟨e1, _⟩ := PySem.W.exm_cls (M := M) X hb1
    refine wpAny_bind ((e1.keeps k).here ?_)
    exact wpAny_pure q'
  · refine wpAny_bind ((LT.keeps k).here ?_)
    refine wpAny_bind (loop_find (g := fun c => PySem.W.exmOne K cls c) (d := (some true, ())) (fun c hc b1 hb1 Q' h1 h2 => ?_) g1 (fun z => ?_) (fun z => ?_))
    · obtain ⟨_, e1⟩ := PySem.W.exm_cls (M := M) X hb1
      refine wpAny_bind ((e1.keeps k).here ?_)
      cases b1 with
      | true => exact wpAny_pure (h1 rfl)
      | false => exact wpAny_pure (h2 rfl)
    · have z : (cs.any fun c => PySem.W.exmOne K cls c == some true) = true := z
      rw [g2, z] at q
      exact wpAny_pure q
    · have z : (cs.any fun c => PySem.W.exmOne K cls c == some true) = false := z
      rw [g2, z] at q
      exact wpAny_pure q
/-- a clause's test, at an exception of the class cls: m cls -/
structure Tst (X : Cx) (t : Expr) (m : Value → Option Bool) : Prop where
  run : ∀ {a : Addr} {oe : Obj} {pn : List (Addr × Obj)} {σ : L2.St} {H : Hp} {s : Shared} {cls : Value} {b : Bool} {Q : Bool → Shared → Prop} {E : Value → Shared → Prop}, Inv (X.suite a ((a, oe) :: pn)) [] σ H s → s.heap.get? a = some oe → oe.cls = cls → m cls = some b →
    (∀ h', (∀ q o, s.heap.get? q = some o → h'.get? q = some o) → Q b { s with heap := h' }) →
    wpAny (model X.prog X.w) (X.A.mark (some (.ref a))) (eval t X.env) (fun c s1 => wpAny (model X.prog X.w) (X.A.mark (some (.ref a))) (excMatches (.ref a) c) Q E s1) E s
section
variable {X : Cx}
theorem nm_run {x : Str} {c : Value} {np : Pos} (hc : Names X x c) {a : Addr} {oe : Obj} {pn : List (Addr × Obj)} {σ : L2.St} {H : Hp} {s : Shared} {Q E : Value → Shared → Prop} (I : Inv (X.suite a ((a, oe) :: pn)) [] σ H s) (q : Q c s) :
    wpAny (model X.prog X.w) (X.A.mark (some (.ref a))) (eval (.Name x np) X.env) Q E s := by
  obtain ⟨hg, hdbg, hm | ⟨hm, hv, hnn⟩⟩ := hc
  · exact ld_glob (X := X.suite a ((a, oe) :: pn)) I hg hm q hdbg
  · exact ld_blt (X := X.suite a ((a, oe) :: pn)) I hg hm hv q hnn hdbg
theorem tst_name {x : Str} {c : Value} {np : Pos} (hc : Names X x c) : Tst X (.Name x np) (fun cls => PySem.W.exmOne X.K cls c) := ⟨fun {a oe pn σ H s cls b Q E} I he hz hm q => by
  have LT : PySem.W.Looks (model X.prog X.w) s.heap (typeOf (.ref a)) cls := fun A Q E s k q => wpAny_typeOf_ref (k _ _ he) (by rw [hz]; exact q)
  exact nm_run hc I ((PySem.W.exm_one (M := model X.prog X.w) I.kIn LT hm).here (q s.heap fun _ _ z => z))⟩
inductive NamesL (X : Cx) : List Expr → List Value → Prop
  | nil : NamesL X [] []
  | cons {x : Str} {c : Value} {np : Pos} {es : List Expr} {cs : List Value} (h : Names X x c) (r : NamesL X es cs) : NamesL X (.Name x np :: es) (c :: cs)
theorem NamesL.len {es : List Expr} {cs : List Value} (h : NamesL X es cs) : cs.length = es.length := by
  induction h with
  | nil => rfl
  | cons _ _ ih => simp [ih]
theorem nms_run {es : List Expr} {cs : List Value} {pos : Pos} (hc : NamesL X es cs) {a : Addr} {oe : Obj} {pn : List (Addr × Obj)} {σ : L2.St} {H : Hp} {s : Shared} {E : Value → Shared → Prop} (I : Inv (X.suite a ((a, oe) :: pn)) [] σ H s) {Q : List Value → Shared → Prop} (q : Q cs s) :
    wpAny (model X.prog X.w) (X.A.mark (some (.ref a))) (spliced (backTo pos (starEach es X.env))) Q E s := by
  induction hc generalizing Q with
  | nil => exact Calls.spliced_nil q
  | cons h r ih => exact wpAny_items_cons (nm_run h I (ih q))
theorem tst_tup {es : List Expr} {cs : List Value} {k : Nat} {pos : Pos} (hc : NamesL X es cs) (hl : es.length ≤ sizeLine) : Tst X (.Tuple es k pos) (fun cls => PySem.W.exmAny X.K cls cs) := ⟨fun {a oe pn σ H s cls b Q E} I he hz hm q => by
  refine wpAny_Tuple (nms_run hc I ⟨by rw [hc.len]; exact hl, ?_⟩)
  have kp : ∀ q o, s.heap.get? q = some o → (s.heap.push { cls := .type "tuple", data := .seq cs.toArray }).get? q = some o := fun _ _ z => Heap.get?_push_of_some _ z
  have LT : PySem.W.Looks (model X.prog X.w) (s.heap.push { cls := .type "tuple", data := .seq cs.toArray }) (typeOf (.ref a)) cls := fun A Q E s k q => wpAny_typeOf_ref (k _ _ (kp _ _ he)) (by rw [hz]; exact q)
  exact (exm_any (M := model X.prog X.w) (I.kIn.keeps kp) LT (Heap.get?_push_size s.heap rfl) hm).here (q _ kp)⟩
end
theorem fly_grow {B : Heap} {l : List PySem.Env} {e : Addr} {Z : Obj → Prop} {h h' : Heap} (k : ∀ q o, h.get? q = some o → h'.get? q = some o) (f : HandSPX.FlyingZ B l e Z h) : HandSPX.FlyingZ B l e Z h' := by
  obtain ⟨f1, f2, f3, oe, vs, T, oT, ts, h1, h2, h3, h4, h5, h6, h7, h8, h9⟩ := f
  exact ⟨fun b o e => k _ _ (f1 b o e), f2, f3.of_keeps fun b o e _ => ⟨o, k _ _ e, rfl⟩, oe, vs, T, oT, ts, k _ _ h1, h2, h3, h4, h5, h6, k _ _ h7, h8, h9⟩
/-- the ends behind a clause with a name: its slot goes -/
def gone (D : Ends) (i : Nat) : Ends := { nx := fun σ' H' => D.nx (σ'.set i none) H', rt := D.rt, bk := fun σ' H' => D.bk (σ'.set i none) H', ct := fun σ' H' => D.ct (σ'.set i none) H' }
structure Clz where
  m : Value → Option Bool
  i : Option Nat
  ts : Addr → Value → Option Addr → TS
/-- what the clauses wish of an exception of the body -/
def wG (Wout : WX) (D : Ends) : List Clz → WX
  | [] => Wout
  | c :: r => fun cls d σ H => ∃ b, c.m cls = some b ∧ (b = true → ∀ a, H a = none → (match c.i with
    | none => c.ts a cls d D σ H
    | some i => c.ts a cls d (gone D i) (σ.set i (some (.ref a))) H)) ∧ (b = false → wG Wout D r cls d σ H)
inductive HdG (X : Cx) : List ExceptHandler → List Clz → Prop
  | nil : HdG X [] []
  | only {t : Expr} {m : Value → Option Bool} {ts : Addr → Value → Option Addr → TS} {b₀ : Stmt} {suite : List Stmt} {pos' : Pos} {hds : List ExceptHandler} {l : List Clz} (ht : Tst X t m)
      (hsu : ∀ (a : Addr) (oe : Obj) (cls : Value) (d : Option Addr) (pn : List (Addr × Obj)), Zc cls d oe → (∃ vs, oe.data = .fields vs) → PSs (X.suite a ((a, oe) :: pn)) (b₀ :: suite) (ts a cls d)) (r : HdG X hds l) :
      HdG X (.ExceptHandler (some t) none (b₀ :: suite) pos' :: hds) (⟨m, none, ts⟩ :: l)
  | as {t : Expr} {n : Str} {i : Nat} {m : Value → Option Bool} {ts : Addr → Value → Option Addr → TS} {b₀ : Stmt} {suite : List Stmt} {pos' : Pos} {hds : List ExceptHandler} {l : List Clz} (ht : Tst X t m) (hN : X.N.Nodup) (hi : X.N[i]? = some n) (hln : X.env.kindOf n = some .local)
      (hsu : ∀ (a : Addr) (oe : Obj) (cls : Value) (d : Option Addr) (pn : List (Addr × Obj)), Zc cls d oe → (∃ vs, oe.data = .fields vs) → PSs (X.suite a ((a, oe) :: pn)) (b₀ :: suite) (ts a cls d)) (r : HdG X hds l) :
      HdG X (.ExceptHandler (some t) (some n) (b₀ :: suite) pos' :: hds) (⟨m, some i, ts⟩ :: l)
section
variable {X : Cx} {body : List Stmt} {h₀ : ExceptHandler} {hds : List ExceptHandler} {l : List Clz} {pos : Pos} {tb : WX → TS} {Wout : WX}
theorem ps_tryG (hs : X.stack = X.env :: X.outer) (hf : X.env.frame = some X.env.locals) (tk : Takes X Wout)
    (hb : ∀ (W : WX) (pn : List (Addr × Obj)) (xe : Value → Shared → Prop), Takes (X.tr pn xe) W → PassesOwn (model X.prog X.w) X.A X.env xe → PSs (X.tr pn xe) body (tb W))
    (hh : HdG X (h₀ :: hds) l) : PS X (.Try body (h₀ :: hds) [] [] pos) (fun D σ H => tb (wG Wout D l) D σ H) := by
  refine ⟨fun pins s σ H D I h => ?_⟩
  have ok := I.ok
  have hfr : X.A.frames = some (X.env :: X.outer) := by rw [ok.frames, hs]
  refine wpAny_Try_except ?_
  refine wpAny_mono ((hb (wG Wout D l) (X.pn ++ pins) (fun e s₁ => wpAny (model X.prog X.w) X.A (noteFrame e X.env) (fun _ s₂ => wpAny (model X.prog X.w) X.A (setFlight e none) (fun _ s₃ =>
    wpAny (model X.prog X.w) X.A (handleBy e X.env (h₀ :: hds)) (SP X pins D) X.xe s₃) X.xe s₂) X.xe s₁) (fun u s' xx => ?_) PassesOwn.looking).run [] s σ H D (I.toTry _) h) (fun f s1 hsp => ?_) (fun e s1 he => he)
  · obtain ⟨a, B, sI, pins', σ', H', cls, d, rfl, J', nb, up, sky, na, os, ag, w⟩ := xx
    have J : Inv X pins σ' H' sI := J'.ofTry ok
    have sky' : Sky B (X.env :: X.outer) a (Zc cls d) X.env.locals s'.heap := by rw [← hs]; exact sky
    show wpAny (model X.prog X.w) X.A (noteFrame (.ref a) X.env) _ _ _
    refine Sky.land Zc.steady hfr hf sky' fun h3 fl3 up3 => ?_
    have notFr : ∀ {h : Heap} {o : Obj} {vs : Array Value}, h.FunFrames B (X.env :: X.outer) → h.get? a = some o → o.data = .fields vs → a ∉ frs (X.env :: X.outer) := fun {h o vs} ff e dd hm => by
      obtain ⟨_, o', e', hnf⟩ := ff.mem hm
      rw [e] at e'; cases e'
      exact hnf _ dd
    have suiteI : ∀ {h3 : Heap}, HandSPX.FlyingZ B (X.env :: X.outer) a (Zc cls d) h3 → sI.heap.UpToSlots h3 → ∃ oe vs, h3.get? a = some oe ∧ Zc cls d oe ∧ oe.data = .fields vs ∧ Inv (X.suite a ((a, oe) :: (X.pn ++ pins))) [] σ' H' { s' with heap := h3 } := fun {h3} fl3 up3 => by
      have J3 : Inv X pins σ' H' { s' with heap := h3 } := J.landed nb fl3.1 up3 os ag
      obtain ⟨oe3, vs3, he3, hz3, hd3⟩ := fl3.there
      have nfr := notFr fl3.2.2.1 he3 hd3
      have nL : a ≠ X.env.locals := fun z => nfr (List.mem_filterMap.mpr ⟨X.env, List.mem_cons_self, by rw [hf, z]⟩)
      have nF : a ∉ X.fs := fun hm => by
        obtain ⟨e, he, q⟩ := List.mem_filterMap.mp hm
        exact nfr (List.mem_filterMap.mpr ⟨e, List.mem_cons_of_mem _ he, q⟩)
      exact ⟨oe3, vs3, he3, hz3, hd3, J3.suite he3 hd3 na nL nF⟩
    have go : ∀ {hds' : List ExceptHandler} {l' : List Clz}, HdG X hds' l' → wG Wout D l' cls d σ' H' → ∀ h3, HandSPX.FlyingZ B (X.env :: X.outer) a (Zc cls d) h3 → sI.heap.UpToSlots h3 →
        wpAny (model X.prog X.w) X.A (handleBy (.ref a) X.env hds') (SP X pins D) X.xe { s' with heap := h3 } := by
      intro hds' l' hk
      induction hk with
      | nil =>
        intro w h3 fl3 up3
        have J3 : Inv X pins σ' H' { s' with heap := h3 } := J.landed nb fl3.1 up3 os ag
        refine wpAny_handleBy_nil ?_
        obtain ⟨k1, k2, k3, oe, vs, T, oT, ts', he, hz, hd, h1, hr⟩ := id fl3
        unfold PySem.passOn
        refine wpAny_bind (wpAny_field he hd h1 ?_)
        rw [if_neg (show ¬ ((Value.ref T == Value.none) = true) from by simp)]
        have fin : wpAny (model X.prog X.w) X.A (setFlight (.ref a) X.env.frame) (fun _ s4 => wpAny (model X.prog X.w) X.A (throw (.ref a) : Sem Flow) (SP X pins D) X.xe s4) X.xe { s' with heap := h3 } := by
          rw [hf]
          refine HandSPX.setFlight_upZ fl3 fun h4 hh4 up4 => wpAny_throw (tk _ _ ?_)
          exact ⟨a, B, sI, pins, σ', H', cls, d, rfl, J, nb, up3.trans up4, .inr (.inr (by rw [hs]; exact hh4)), na, os, ag, w⟩
        first
          | exact wpAny_bind (wpAny_pure (wpAny_bind fin))
          | exact wpAny_bind fin
      | @only t m ts b₀ suite pos' hds2 l2 ht hsu r ih =>
        intro w h3 fl3 up3
        obtain ⟨b, hb1, hyes, hno⟩ := w
        obtain ⟨oe3, vs3, he3, hz3, hd3, S3⟩ := suiteI fl3 up3
        refine wpAny_handleBy_cons (codeAny_handlers_test (ht.run S3 he3 hz3.1 hb1 fun h5 k5 => ?_)) (by intro q; cases q)
        have fl5 := fly_grow k5 fl3
        have up5 : sI.heap.UpToSlots h5 := up3.trans (Heap.UpToSlots.of_keeps k5)
        cases b with
        | true =>
          refine codeAny_handlers_suite ?_
          refine HandSPX.lands_againZ fl5 fun h4 fl4 up4 => ?_
          obtain ⟨oe4, vs4, he4, hz4, hd4, S4⟩ := suiteI fl4 (up5.trans up4)
          refine wpAny_mono ((hsu a oe4 cls d (X.pn ++ pins) hz4 ⟨_, hd4⟩).run [] _ _ H' _ S4 (hyes rfl a na)) (fun f s6 hsp => ?_) (fun _ _ z => False.elim z)
          cases f with
          | next =>
            obtain ⟨σ6, H6, S6, q6⟩ := hsp
            exact ⟨_, _, S6.unsuite ok, q6⟩
          | brk =>
            obtain ⟨σ6, H6, S6, q6⟩ := hsp
            exact ⟨_, _, S6.unsuite ok, q6⟩
          | cont =>
            obtain ⟨σ6, H6, S6, q6⟩ := hsp
            exact ⟨_, _, S6.unsuite ok, q6⟩
          | ret u =>
            obtain ⟨v6, σ6, H6, S6, r6, q6⟩ := hsp
            exact ⟨_, _, _, S6.unsuite ok, r6, q6⟩
        | false =>
          show wpAny _ X.A (handleBy (.ref a) X.env hds2) _ _ _
          exact ih (hno rfl) h5 fl5 up5
      | @as t n i m ts b₀ suite pos' hds2 l2 ht hN hi hln hsu r ih =>
        intro w h3 fl3 up3
        obtain ⟨b, hb1, hyes, hno⟩ := w
        obtain ⟨oe3, vs3, he3, hz3, hd3, S3⟩ := suiteI fl3 up3
        refine wpAny_handleBy_cons (codeAny_handlers_test (ht.run S3 he3 hz3.1 hb1 fun h5 k5 => ?_)) (by intro q; cases q)
        have fl5 := fly_grow k5 fl3
        have up5 : sI.heap.UpToSlots h5 := up3.trans (Heap.UpToSlots.of_keeps k5)
        cases b with
        | true =>
          refine codeAny_handlers_suite_as ?_
          refine HandSPX.lands_againZ fl5 fun h4 fl4 up4 => ?_
          obtain ⟨oe4, vs4, he4, hz4, hd4, S4⟩ := suiteI fl4 (up5.trans up4)
          refine store_ok (X := X.suite a ((a, oe4) :: (X.pn ++ pins))) (v := .ref a) S4 hN hi (.inl hln) rfl (fun s5 S5 => ?_) (.inr hln)
          refine wpAny_mono ((hsu a oe4 cls d (X.pn ++ pins) hz4 ⟨_, hd4⟩).run [] s5 _ H' _ S5 (hyes rfl a na)) (fun f s6 hsp => ?_) (fun _ _ z => False.elim z)
          have end_ : ∀ {σ6 : L2.St} {H6 : Hp} {Q : Shared → Prop}, Inv (X.suite a ((a, oe4) :: (X.pn ++ pins))) [] σ6 H6 s6 → (∀ s7, Inv X pins (σ6.set i none) H6 s7 → Q s7) →
              wpAny (model X.prog X.w) X.A (do bindName X.env n .none; unbindBehindTheSuite X.env n pos') (fun _ s7 => Q s7) X.xe s6 := fun {σ6 H6 Q} S6 hq => gone_ok (S6.unsuite ok) hN hi hln hq
          cases f with
          | next =>
            obtain ⟨σ6, H6, S6, q6⟩ := hsp
            exact end_ S6 fun s7 J7 => ⟨_, _, J7, q6⟩
          | brk =>
            obtain ⟨σ6, H6, S6, q6⟩ := hsp
            exact end_ S6 fun s7 J7 => ⟨_, _, J7, q6⟩
          | cont =>
            obtain ⟨σ6, H6, S6, q6⟩ := hsp
            exact end_ S6 fun s7 J7 => ⟨_, _, J7, q6⟩
          | ret u =>
            obtain ⟨v6, σ6, H6, S6, r6, q6⟩ := hsp
            exact end_ S6 fun s7 J7 => ⟨_, _, _, J7, r6, q6⟩
        | false =>
          show wpAny _ X.A (handleBy (.ref a) X.env hds2) _ _ _
          exact ih (hno rfl) h5 fl5 up5
    exact go hh w h3 fl3 (up.trans up3)
  · cases f with
    | next =>
      obtain ⟨σ', H', J', q⟩ := hsp
      exact wpAny_execs_nil ⟨σ', H', J'.ofTry ok, q⟩
    | brk =>
      obtain ⟨σ', H', J', q⟩ := hsp
      exact ⟨σ', H', J'.ofTry ok, q⟩
    | cont =>
      obtain ⟨σ', H', J', q⟩ := hsp
      exact ⟨σ', H', J'.ofTry ok, q⟩
    | ret u =>
      obtain ⟨v, σ', H', J', r, q⟩ := hsp
      exact ⟨v, σ', H', J'.ofTry ok, r, q⟩
end
end BW
set_option maxHeartbeats 4000000
/-! try. -/
namespace BW
open PySem PySem.Spec PyProof.Rows L2
/-- the exception's dict -/
def DOk (d : Option Addr) (H : Hp) : Prop := d = none ∨ ∃ dd fvs, d = some dd ∧ H dd = some (.xd fvs)
section
variable {X : Cx} {a D : Addr} {oe : Obj} {d : Option Addr} {pn : List (Addr × Obj)}
theorem kit_x {pins : List (Addr × Obj)} {σ : L2.St} {H : Hp} {s : Shared} {flds : List Str} (C : XcOk X.K flds D) (hz : Zc (.ref D) d oe) (hf : ∃ vs, oe.data = .fields vs) (I : Inv (X.suite a ((a, oe) :: pn)) pins σ H s) (hd : DOk d H) :
    ∃ P : Heap → Prop, PySem.W.KitX X.K (.ref a) (.ref D) P ∧ P s.heap := by
  obtain ⟨hget, _⟩ := I.pin (a, oe) (List.mem_append.mpr (.inl List.mem_cons_self))
  obtain ⟨vs, hv⟩ := hf
  obtain ⟨cd, hcl, _⟩ := PySem.W.any_some C.xf.hdC
  have hcl : (PySem.W.clsIn X.K D).isSome = true := by rw [hcl]; rfl
  rcases hd with rfl | ⟨dd, fvs, rfl, hx⟩
  · have J : PySem.W.InstAt s.heap a oe D none := by
      obtain ⟨oc, od, oda, osl⟩ := oe
      obtain ⟨h1, h2⟩ := hz
      dsimp only at h1 h2 hv
      subst h1 h2 hv
      exact ⟨hget, rfl, rfl, trivial⟩
    exact ⟨_, PySem.W.kitx_exc hcl C.xf.ga C.xf.gg C.xf.exC C.ha C.hn C.ht C.hm, J⟩
  · have hx : ObjOk X.prog X.w H s.heap dd (.xd fvs) := I.hok dd _ hx
    obtain ⟨mA, hns, hr⟩ := hx
    obtain ⟨od, ho, hl⟩ := lookIn_ns hns
    have J : PySem.W.InstAt s.heap a oe D (some od) := ⟨hget, hz.1, by unfold PySem.W.notCls; rw [hv] <;> rfl, by rw [hz.2]; exact ho⟩
    exact ⟨_, PySem.W.kitx_exc hcl C.xf.ga C.xf.gg C.xf.exC C.ha C.hn C.ht C.hm, J⟩
theorem call_isX {flds : List Str} (C : XcOk X.K flds D) (hz : Zc (.ref D) d oe) (hf : ∃ vs, oe.data = .fields vs) : CallR (X.suite a ((a, oe) :: pn)) (.builtin "isinstance") (fun xs H Q => ∃ (c : V) (u : Value) (b : Bool), xs = [.ref a, c] ∧ ClsV c u ∧ DOk d H ∧ PySem.W.kitOne X.K (.ref D) u = some b ∧ Q (.bl b) H) := by
  intro pins s σ H xs us Q I r h
  obtain ⟨c, u, b, rfl, k, hd, e, q⟩ := h
  obtain ⟨u1, u2, rfl, r1, r2⟩ := vals2 r
  cases (show u1 = Value.ref a from r1)
  have e2 := k.eq r2
  subst e2
  obtain ⟨P, Z, p⟩ := kit_x C hz hf I hd
  exact PySem.W.kia_one Z I.kIn p e (fun z => nomatch z) fun tk => ⟨.bl b, H, I.tok tk, rfl, q⟩
theorem call_isXT {flds : List Str} (C : XcOk X.K flds D) (hz : Zc (.ref D) d oe) (hf : ∃ vs, oe.data = .fields vs) : CallR (X.suite a ((a, oe) :: pn)) (.builtin "isinstance") (fun xs H Q => ∃ (tp : Addr) (cs : List V) (us : List Value) (b : Bool), xs = [.ref a, .ref tp] ∧ H tp = some (.tup cs) ∧ Paired ClsV cs us ∧ DOk d H ∧ PySem.W.kitAny X.K (.ref D) us = some b ∧ Q (.bl b) H) := by
  intro pins s σ H xs us Q I r h
  obtain ⟨tp, cs, ws, b, rfl, hT, k, hd, e, q⟩ := h
  obtain ⟨u1, u2, rfl, r1, r2⟩ := vals2 r
  cases (show u1 = Value.ref a from r1)
  cases (show u2 = Value.ref tp from r2)
  obtain ⟨P, Z, p⟩ := kit_x C hz hf I hd
  obtain ⟨_, its, rv, o, h1, h2, n, h3⟩ := (show ObjOk X.prog X.w H s.heap tp (.tup cs) from I.hok tp _ hT)
  have e3 := ClsV.all k rv
  subst e3
  obtain ⟨oc, od, dt, sl⟩ := o
  simp only at h2 h3
  subst h2 h3
  exact PySem.W.kia_tup Z I.kIn p h1 e (fun z => nomatch z) fun tk => ⟨.bl b, H, I.tok tk, rfl, q⟩
end
section
variable {L : Lk} {n : Nat} {c : TC} {W Wout : WX} {X : Cx}
/-- the context of a clause's suite: no name -/
theorem ctx_only (C : CtxS L n c none Wout X) (hot : c.hot = false) (a : Addr) (pn : List (Addr × Obj)) : CtxS L n { c with hot := true, xn := none } none Wno (X.suite a pn) := {
  K := C.K
  lok := C.lok
  N := C.N
  nd := C.nd
  sc := C.sc
  calm := fun h => by cases h
  room := fun h => by cases h
  unit := C.unit
  fns := C.fns
  nest := C.nest
  takes := fun h => by cases h
  cell := C.cell
  cool := fun h => by cases h
  exn := fun q hq => by cases hq
  exf := fun x hx => by cases hx
  exi := fun x hx => by cases hx
  pass := PassesOwn.never
  stk := C.stk
  frm := C.frm }
theorem ctx_try (C : CtxS L n c none Wout X) (hot : c.hot = false) (W : WX) (pn : List (Addr × Obj)) (xe : Value → Shared → Prop) (tk : Takes (X.tr pn xe) W) (hp : PassesOwn (model X.prog X.w) X.A X.env xe) : CtxS L n c none W (X.tr pn xe) := {
  K := C.K
  lok := C.lok
  N := C.N
  nd := C.nd
  sc := C.sc
  calm := C.calm
  room := C.room
  unit := C.unit
  fns := C.fns
  nest := C.nest
  takes := fun _ => tk
  cell := C.cell
  cool := C.cool
  exn := C.exn
  exf := fun x hx => by rw [(C.cool hot).1] at hx; cases hx
  exi := fun x hx => by rw [(C.cool hot).1] at hx; cases hx
  pass := hp
  stk := C.stk
  frm := C.frm }
theorem rx_dok {g : G} {H : Hp} {cls : Value} {d : Option Addr} {e : PX} (h : RX g H cls d e) : DOk d H := by
  obtain ⟨_, _, h | ⟨dd, fvs, h1, h2, _⟩⟩ := h
  · exact .inl h.2
  · exact .inr ⟨dd, fvs, h1, h2⟩
theorem xm_any (lok : LOk L X.mg) {k : Nat} (hk : L.xk k) : ∀ {ts : List Ty}, ts.all (tyX L.T) = true → ∃ b, isTags L.T.P (.exc k) ts = some b ∧ PySem.W.exmAny L.K (.ref (L.ca k)) (ts.map (tyW L)) = some b
  | [], _ => ⟨false, rfl, rfl⟩
  | t :: ts, h => by
    rw [List.all_cons, Bool.and_eq_true] at h
    obtain ⟨b2, h2, h3⟩ := xm_any lok hk h.2
    obtain ⟨C, hC, _⟩ := id hk
    have ht : ∃ b1, isTag L.T.P (.exc k) t = some b1 := by
      cases t with
      | own d => exact ⟨_, by show (L.T.P.cl[k]?).map _ = _; rw [hC]; rfl⟩
      | ve => exact ⟨true, rfl⟩
      | _ => exact ⟨false, rfl⟩
    obtain ⟨b1, h1⟩ := ht
    obtain ⟨q1, _⟩ := lok.xm k t b1 hk h.1 h1
    refine ⟨b1 || b2, ?_, ?_⟩
    · unfold isTags
      rw [h1]
      cases b1 with
      | true => rfl
      | false => exact h2
    · show (match PySem.W.exmOne L.K (.ref (L.ca k)) (tyW L t), PySem.W.exmAny L.K (.ref (L.ca k)) (ts.map (tyW L)) with
        | some b, some d => some (b || d)
        | _, _ => none) = _
      rw [q1, h3]
theorem xm_kit (lok : LOk L X.mg) {k : Nat} (hk : L.xk k) : ∀ (ts : List Ty) (b : Bool), ts.all (tyX L.T) = true → isTags L.T.P (.exc k) ts = some b → PySem.W.kitAny L.K (.ref (L.ca k)) (ts.map (tyW L)) = some b
  | [], b, _, h => by
    cases h
    exact kitAny_nil
  | t :: ts, b, ht, h => by
    rw [List.all_cons, Bool.and_eq_true] at ht
    unfold isTags at h
    split at h
    · rename_i e
      cases h
      exact kitAny_cons (lok.xm k t true hk ht.1 e).2 (fun z => by cases z) (fun _ => rfl)
    · rename_i e
      exact kitAny_cons (lok.xm k t false hk ht.1 e).2 (fun _ => xm_kit lok hk ts b ht.2 h) (fun z => by cases z)
    · cases h
theorem trTys_xn {T : GT} {o : Option Str} : ∀ es, trTys T { c with hot := true, xn := o } es = trTys T { c with hot := true, xn := none } es
  | [] => rfl
  | e :: es => by
    unfold trTys
    cases e <;> first | rfl | (dsimp only; rw [trTys_xn es]; rfl)
theorem trIs_xn {T : GT} {o : Option Str} {t : Expr} : trIs T { c with hot := true, xn := o } t = trIs T { c with hot := true, xn := none } t := by
  unfold trIs
  cases t <;> first | rfl | (dsimp only; rw [trTys_xn])
/-- the context of a clause's suite with a name -/
theorem ctx_as (C : CtxS L n c none Wout X) (hot : c.hot = false) {x : Str} {i : Nat} (hi : X.N[i]? = some x) (hln : X.env.kindOf x = some .local) (hdx : (x == ("__debug__" : Str)) = false) (hdc : (x == ("__classdict__" : Str)) = false) {a : Addr} {oe : Obj} {cls : Value} {d : Option Addr} (pn : List (Addr × Obj)) (hz : Zc cls d oe) (hf : ∃ vs, oe.data = .fields vs) (e : PX) :
    CtxS L n { c with hot := true, xn := some x } (some (e, i, a, cls, d)) Wno (X.suite a ((a, oe) :: pn)) :=
  have C0 := ctx_only C hot a ((a, oe) :: pn)
  have var : ∀ p, PE (X.suite a ((a, oe) :: pn)) (.Name x p) (tVar i) := fun p => pe_var hi (.inl hln) hdx hdc
  { K := C.K
    lok := C.lok
    N := C.N
    nd := C.nd
    sc := C.sc
    calm := fun h => by cases h
    room := fun h => by cases h
    unit := C.unit
    fns := C.fns
    nest := C.nest
    takes := fun h => by cases h
    cell := C.cell
    cool := fun h => by cases h
    exn := fun q hq => by
      cases hq
      exact ⟨x, rfl, hi⟩
    exf := fun y hy f k p pos hk => by
      cases hy
      refine ⟨fun pins s σ H Q I h => ?_⟩
      obtain ⟨ι, ρ, μ, re, rm, q⟩ := h
      obtain ⟨hs, ec, hk1, hfs⟩ := re.exc _ rfl
      have q : Fin L.g Wno σ (RVf L.g) H ι μ (evE L.T.P (L.D n) (some e) (.xfld k) ρ μ) Q := q
      rw [evE] at q
      cases hl : look k e.fs with
      | none => rw [hl] at q; exact q.elim
      | some j =>
        rw [hl] at q
        rcases hfs with ⟨h0, _⟩ | ⟨dd, fvs, h1, h2, h3⟩
        · have h0 : e.fs = [] := h0
          rw [h0] at hl; cases hl
        · have xc := C.lok.xc e.c hk1
          rw [C.K] at xc
          have ec : cls = .ref (L.ca e.c) := ec
          have hname : L.T.flds[k]? = some f := idx?_ok hk
          have hno := xc.no f (List.mem_of_getElem? hname)
          refine (pe_xf (X := X) (C := L.ca e.c) (n := f) xc.xf hno hz hf (var p)).run pins s σ H Q I ?_
          refine ⟨.ref a, hs, rfl, ec, dd, fvs, .int j, h1, h2, ?_, q.here rm rfl⟩
          have := h3 k j hl
          have e1 : L.g.fnm k = f := by
            show fnmOf L.T.flds k = f
            unfold fnmOf
            rw [hname]
          rw [e1] at this
          exact this
    exi := fun y hy t ts p p2 pos hx ht hty => by
      cases hy
      rw [trIs_xn] at ht
      refine ⟨fun pins s σ H Q I h => ?_⟩
      obtain ⟨ι, ρ, μ, re, rm, q⟩ := h
      obtain ⟨hs, ec, hk1, hfs⟩ := re.exc _ rfl
      have dok := rx_dok (e := e) (re.exc _ rfl).2
      have ec : cls = .ref (L.ca e.c) := ec
      have q : Fin L.g Wno σ (RVf L.g) H ι μ (evE L.T.P (L.D n) (some e) (.xis ts) ρ μ) Q := q
      rw [evE] at q
      obtain ⟨b, eb, q'⟩ := ofO_bind q
      have xc := C.lok.xc e.c hk1
      rw [C.K] at xc
      obtain ⟨hg, ent, hd⟩ := C0.gl (x := "isinstance") (g := .free) hx
      cases ent with
      | free hm hnn =>
        unfold trIs at ht
        split at ht
        · rename_i z p3
          cases qz : trTy L.T { c with hot := true, xn := none } z with
          | none => rw [qz] at ht; cases ht
          | some t1 =>
            rw [qz] at ht
            cases ht
            rw [List.all_cons, Bool.and_eq_true] at hty
            have h3 := s_ty (pos := p3) C0.toCtxE qz
            have pa : PA (X.suite a ((a, oe) :: pn)) [.Name x p2, .Name z p3] (fun σ H Q => ∃ v, σ[i]? = some (some v) ∧ Q [v, tyU L t1] H) := (pa_cons (var p2) (pa_cons h3 pa_nil (star_cons rfl [] _)) (star_cons rfl _ _)).imp fun σ H Q z => z
            refine (pe_callB (call_isX (X := X) (D := L.ca e.c) (d := d) xc (by rw [← ec]; exact hz) hf) hg hm boot_isinstance pa hnn hd (star_cons rfl _ _) (star_any fun e he => by rcases List.mem_cons.mp he with rfl | he; rfl; cases he)).run pins s σ H Q I ?_
            refine ⟨.ref a, hs, tyU L t1, tyW L t1, b, rfl, clsv t1, dok, ?_, q'.here rm rfl⟩
            rw [← C.K]
            exact (C.lok.xm e.c t1 b hk1 hty.1 (isTags_one eb)).2
        · rename_i es k p3
          split at ht
          rotate_left
          · cases ht
          rename_i hlen
          have h3 := s_tys C0.toCtxE ht
          have pa : PA (X.suite a ((a, oe) :: pn)) [.Name x p2, .Tuple es k p3] (fun σ H Q => ∃ v, σ[i]? = some (some v) ∧ ((ts.map (tyU L)).length ≤ sizeLine ∧ ∀ p, H p = none → Q [v, .ref p] (upd H p (.tup (ts.map (tyU L)))))) := (pa_cons (var p2) (pa_cons (pe_tup h3) pa_nil (star_cons rfl [] _)) (star_cons rfl _ _)).imp fun σ H Q z => z
          refine (pe_callB (call_isXT (X := X) (D := L.ca e.c) (d := d) xc (by rw [← ec]; exact hz) hf) hg hm boot_isinstance pa hnn hd (star_cons rfl _ _) (star_any fun e he => by rcases List.mem_cons.mp he with rfl | he; rfl; cases he)).run pins s σ H Q I ?_
          refine ⟨.ref a, hs, ?_, fun p hp => ?_⟩
          · rw [List.length_map, trTys_len ht, sizeLine_eq]; omega
          · refine ⟨p, ts.map (tyU L), ts.map (tyW L), b, rfl, upd_same, clsvs ts, ?_, ?_, q' _ _ ι (Ext.laid hp) (RM.laid rm hp) rfl⟩
            · rcases dok with h | ⟨dd, fvs, h1, h2⟩
              · exact .inl h
              · exact .inr ⟨dd, fvs, h1, (Ext.laid (ι := ι) (μ := μ) hp).stay dd _ h2 (rm.notOwn h2 rfl) rfl⟩
            · rw [← C.K]; exact xm_kit C.lok hk1 ts b hty eb
        · cases ht
    pass := PassesOwn.never
    stk := C.stk
    frm := C.frm }
/-- a clause's classes -/
def trHt (T : GT) (c : TC) (t : Expr) : Option (List Ty) := (trIs T c t).bind fun ts => if ts.all (tyX T) then some ts else none
theorem nm_of (C : CtxE L n c none Wout X) {x : Str} {t : Ty} (h : trTy L.T c x = some t) (ht : tyX L.T t = true) : Names X x (tyW L t) := by
  unfold trTy at h
  split at h
  · rename_i d e
    cases h
    obtain ⟨hg, ent, hd⟩ := C.gl e
    cases ent with
    | cls _ hm h2 => exact ⟨hg, hd, .inl hm⟩
  · cases h; cases ht
  · cases h; cases ht
  · cases h; cases ht
  · cases h; cases ht
  · rename_i e
    obtain ⟨hg, ent, hd⟩ := C.gl e
    cases ent with
    | free hm hn =>
      split at h
      · cases h; cases ht
      · split at h
        · cases h; cases ht
        · split at h
          · rename_i z; cases h; subst z
            exact ⟨hg, hd, .inr ⟨hm, by show bootBuiltins "ValueError" = some (.type "ValueError"); decide +kernel, hn⟩⟩
          · cases h
  · cases h
theorem nms_of (C : CtxE L n c none Wout X) : ∀ {es : List Expr} {ts : List Ty}, trTys L.T c es = some ts → ts.all (tyX L.T) = true → NamesL X es (ts.map (tyW L))
  | [], _, h, _ => by
    cases h
    exact .nil
  | e :: es, ts, h, ht => by
    unfold trTys at h
    split at h
    · rename_i e0; cases e0
    · rename_i x p r e0
      cases e0
      cases q : trTy L.T c x with
      | none => rw [q] at h; cases h
      | some t =>
        rw [q] at h
        cases q2 : trTys L.T c es with
        | none => rw [q2] at h; cases h
        | some ts2 =>
          rw [q2] at h
          cases h
          rw [List.all_cons, Bool.and_eq_true] at ht
          exact .cons (nm_of C q ht.1) (nms_of C q2 ht.2)
    · cases h
theorem tst_of (C : CtxE L n c none Wout X) {t : Expr} {ts : List Ty} (h : trHt L.T c t = some ts) : ts.all (tyX L.T) = true ∧ Tst X t (fun cls => PySem.W.exmAny L.K cls (ts.map (tyW L))) := by
  unfold trHt at h
  obtain ⟨ts', h1, h⟩ := obind h
  obtain ⟨hx, h⟩ := oif h
  cases h
  refine ⟨hx, ?_⟩
  rw [C.K]
  unfold trIs at h1
  split at h1
  · rename_i x p
    obtain ⟨t1, q, rfl⟩ := omap h1
    have hx1 : tyX L.T t1 = true := by
      rw [List.all_cons, Bool.and_eq_true] at hx
      exact hx.1
    have T := tst_name (np := p) (nm_of C q hx1)
    refine ⟨fun {a oe pn σ H s cls b Q E} I he hz hm q => T.run I he hz ?_ q⟩
    obtain ⟨b1, d1, g1, g2, rfl⟩ := PySem.W.exmAny_cons hm
    have : some false = some d1 := g2
    cases this
    rw [Bool.or_false]
    exact g1
  · rename_i es k p
    split at h1
    · rename_i hl
      exact tst_tup (nms_of C h1 hx) (by rw [sizeLine_eq]; omega)
    · cases h1
  · cases h1
/-- a clause, as the rule wishes it -/
def clz (L : Lk) (n : Nat) (q : List Ty × Option Nat × List IS) : Clz := ⟨fun cls => PySem.W.exmAny L.K cls (q.1.map (tyW L)), q.2.1, match q.2.1 with
  | none => fun _ _ _ => tSts L.g none Wno L.T.P (L.D n) q.2.2
  | some i => fun a cls d D σ H => ∃ e, tSts L.g (some (e, i, a, cls, d)) Wno L.T.P (L.D n) q.2.2 D σ H⟩
theorem PSs.ex {α : Type} {st : List Stmt} {t : α → TS} (h : ∀ e, PSs X st (t e)) : PSs X st (fun D σ H => ∃ e, t e D σ H) := ⟨fun pins s σ H D I ⟨e, q⟩ => (h e).run pins s σ H D I q⟩
theorem fin_nox {g : G} {xb xb' : XB} {W W' : WX} {D : Ends} {H : Hp} {ι : List Addr} {μ : Store} {r : RS} (hx : xb = xb') (h : FinS g xb W D H ι μ r.nox) : FinS g xb' W' D H ι μ r := by
  subst hx
  cases r with
  | bad => exact h
  | mk f μ1 => cases f <;> first | exact h | exact h.elim
theorem re_gone {g : G} {q : PX × Nat × Addr × Value × Option Addr} {H : Hp} {ι : List Addr} {σ : L2.St} {ρ : BW.Env} (i : Nat) (h : RE g (some q) H ι σ ρ) : RE g none H ι (σ.set i none) (ρ.set i none) := by
  refine ⟨by rw [List.length_set, List.length_set]; exact h.len, fun j pv e => ?_, fun q hq => by cases hq⟩
  by_cases hj : i = j
  · subst hj
    by_cases hl : i < ρ.length
    · rw [List.getElem?_set_self hl] at e; cases e
    · rw [List.getElem?_eq_none (by rw [List.length_set]; omega)] at e; cases e
  · rw [List.getElem?_set_ne hj] at e ⊢
    exact h.at_ j pv e
theorem fin_gone {g : G} {q : PX × Nat × Addr × Value × Option Addr} {W : WX} {D : Ends} {H : Hp} {ι : List Addr} {μ : Store} {r : RS} {i : Nat} (h : FinS g none W D H ι μ (r.nox.gone i)) : FinS g (some q) Wno (gone D i) H ι μ r := by
  cases r with
  | bad => exact h
  | mk f μ1 =>
    cases f with
    | nx ρ => exact fun σ H' ι' x m r => h _ H' ι' x m (re_gone i r)
    | bk ρ => exact fun σ H' ι' x m r => h _ H' ι' x m (re_gone i r)
    | ct ρ => exact fun σ H' ι' x m r => h _ H' ι' x m (re_gone i r)
    | rt v => exact h
    | ex e ρ => exact h.elim
theorem re_as {g : G} {H : Hp} {ι : List Addr} {σ : L2.St} {ρ : BW.Env} {i : Nat} {a : Addr} {cls : Value} {d : Option Addr} {e : PX} (h : RE g none H ι σ ρ) (hi : i < ρ.length) (rx : RX g H cls d e) : RE g (some (e, i, a, cls, d)) H ι (σ.set i (some (.ref a))) (ρ.set i none) := by
  refine ⟨by rw [List.length_set, List.length_set]; exact h.len, fun j pv e => ?_, fun q hq => ?_⟩
  · by_cases hj : i = j
    · subst hj
      rw [List.getElem?_set_self hi] at e; cases e
    · rw [List.getElem?_set_ne hj] at e ⊢
      exact h.at_ j pv e
  · cases hq
    exact ⟨by rw [List.getElem?_set_self (by rw [h.len]; exact hi)], rx⟩
theorem wg_of (lok : LOk L X.mg) {D : Ends} {e : PX} : ∀ {hs : List (List Ty × Option Nat × List IS)} {H : Hp} {ι : List Addr} {μ : Store} {ρ : BW.Env} {σ : L2.St} {cls : Value} {d : Option Addr}, (∀ q ∈ hs, q.1.all (tyX L.T) = true) → RE L.g none H ι σ ρ → RM L.g H ι μ → RX L.g H cls d e →
    FinS L.g none Wout D H ι μ (evHs L.T.P (L.D n) hs e ρ μ) → wG Wout D (hs.map (clz L n)) cls d σ H
  | [], H, ι, μ, ρ, σ, cls, d, _, re, rm, rx, q => by
    rw [evHs] at q
    exact q _ _ σ H ι .refl rm re rx
  | (ts, oi, b) :: hs, H, ι, μ, ρ, σ, cls, d, hx, re, rm, rx, q => by
    obtain ⟨k, e1, e2⟩ := xm_any lok rx.2.1 (hx _ List.mem_cons_self)
    have e2 : PySem.W.exmAny L.K cls (ts.map (tyW L)) = some k := by rw [rx.1]; exact e2
    have e1 : isTags L.T.P (.exc e.c) ts = some k := e1
    refine ⟨k, e2, fun hk a ha => ?_, fun hk => ?_⟩
    · subst hk
      cases oi with
      | none =>
        rw [evHs] at q
        simp only [e1] at q
        exact ⟨ι, ρ, μ, re, rm, fin_nox rfl q⟩
      | some i =>
        rw [evHs] at q
        simp only [e1] at q
        split at q
        · rename_i hi
          exact ⟨e, ι, ρ.set i none, μ, re_as re hi rx, rm, fin_gone q⟩
        · exact q.elim
    · subst hk
      have q' : FinS L.g none Wout D H ι μ (evHs L.T.P (L.D n) hs e ρ μ) := by
        cases oi with
        | none =>
          rw [evHs] at q
          simp only [e1] at q
          exact q
        | some i =>
          rw [evHs] at q
          simp only [e1] at q
          exact q
      exact wg_of lok (fun q hq => hx q (List.mem_cons_of_mem _ hq)) re rm rx q'
theorem ss_try (C : CtxS L n c none Wout X) (hot : c.hot = false) {body : List Stmt} {h₀ : ExceptHandler} {hds : List ExceptHandler} {b : List IS} {hs : List (List Ty × Option Nat × List IS)} {pos : Pos} (hx : ∀ q ∈ hs, q.1.all (tyX L.T) = true)
    (hb : ∀ (W : WX) (X' : Cx), CtxS L n c none W X' → SSs L n none W X' body b) (hh : HdG X (h₀ :: hds) (hs.map (clz L n))) : SS L n none Wout X (.Try body (h₀ :: hds) [] [] pos) (.try b hs) := by
  refine (ps_tryG (tb := fun W => tSts L.g none W L.T.P (L.D n) b) C.stk C.frm (C.takes hot) (fun W pn xe tk hp => hb W _ (ctx_try C hot W pn xe tk hp)) hh).imp fun D σ H ⟨ι, ρ, μ, re, rm, q⟩ => ?_
  rw [evS] at q
  refine ⟨ι, ρ, μ, re, rm, ?_⟩
  have q : FinS L.g none Wout D H ι μ (match evSs L.T.P (L.D n) b none ρ μ with
    | .mk (.ex e ρ1) μ1 => evHs L.T.P (L.D n) hs e ρ1 μ1
    | r => r) := q
  show FinS L.g none _ D H ι μ (evSs L.T.P (L.D n) b none ρ μ)
  cases e : evSs L.T.P (L.D n) b none ρ μ with
  | bad => rw [e] at q; exact q
  | mk f μ1 =>
    rw [e] at q
    cases f with
    | nx ρ1 => exact q
    | bk ρ1 => exact q
    | ct ρ1 => exact q
    | rt v => exact q
    | ex e ρ1 => exact fun cls d σ1 H1 ι1 x m r rx => wg_of C.lok hx r m rx (FinS.ext x q)
end
end BW
set_option maxHeartbeats 4000000
/-! From the text to the small language: statements, defs. -/
namespace BW
open PySem PySem.Spec PyProof.Rows L2 LamX NdefX
section
variable (T : GT)
mutual
def trS : Nat → TC → Stmt → Option IS
  | 0, _, _ => none
  | n + 1, c, st => match st with
    | .Assign [.Name x p] (.ListComp elt [⟨tg, it, ifs, .ofNat 0⟩] scope cpos) _ =>
      if (p.line == cpos.line) && decide (c.sc.names.lookup x = some .local) && !(scope.names.any fun (n, k) => n == x && (k == .local || k == .cell)) then
        (locOf c x).bind fun i => (trE T n c (.ListComp elt [⟨tg, it, ifs, .ofNat 0⟩] scope cpos)).map (.set i ·) else
      if decide (c.sc.names.lookup x = some .cell) then (locOf c x).bind fun i => (trE T n c (.ListComp elt [⟨tg, it, ifs, .ofNat 0⟩] scope cpos)).map (.set i ·) else none
    | .Assign [.Name x _] e _ => if ncomp e then (locOf c x).bind fun i => (trE T n c e).map (.set i ·) else none
    | .Assign [.Tuple [.Name x px, .Name y py] kt pt] (.Tuple [a, b] k2 pt2) _ =>
      if c.hot then none else
      if decide (c.sc.names.lookup x = some .local) && (decide (c.sc.names.lookup y = some .local) && ((py.line == px.line) && (decide (x ≠ y) && (nst a && (nst b && (!([a, b].all (foldedForSure 8)) && !([a, b].all (constantsAlone 8)))))))) then
        (locOf c x).bind fun i => (locOf c y).bind fun j => (trEs T n c [a, b]).map (.par [i, j] ·) else none
    | .Assign [.Tuple [.Name x px, .Name y py, .Name z pz] kt pt] (.Tuple [a, b, d] k2 pt2) _ =>
      if c.hot then none else
      if decide (c.sc.names.lookup x = some .local) && (decide (c.sc.names.lookup y = some .local) && (decide (c.sc.names.lookup z = some .local) && ((py.line == px.line) && ((pz.line == px.line) && (decide (x ≠ y) && (decide (x ≠ z) && (decide (y ≠ z) && (nst a && (nst b && (nst d && (!([a, b, d].all (foldedForSure 8)) && !([a, b, d].all (constantsAlone 8))))))))))))) then
        (locOf c x).bind fun i => (locOf c y).bind fun j => (locOf c z).bind fun l => (trEs T n c [a, b, d]).map (.par [i, j, l] ·) else none
    | .Assign [.Subscript a i _] e _ => if nsl i && (ncomp e && ntup e) then (trE T n c a).bind fun a => (trE T n c i).bind fun i => (trE T n c e).map (.sub a i ·) else none
    | .Assign [.Attribute a f _] e _ => if ncomp e then (trE T n c a).bind fun a => (idx? f T.flds).bind fun k => (trE T n c e).map (.sfld a k ·) else none
    | .Assign [.Tuple ts k p] (.Subscript (.Name U up) ix sp) _ => if c.hot then none else match globOf T c U with
      | some (.tbl rows) => if nsl ix then (trTgs c ts).bind fun t => (trE T n c ix).map fun i => .asg (.tup t) (.idx (.con (tblPV rows)) i) else none
      | _ => (trTg c (.Tuple ts k p)).bind fun t => (trE T n c (.Subscript (.Name U up) ix sp)).map (.asg t ·)
    | .Assign [.Tuple ts k p] e _ => if c.hot then none else if ncomp e && ntup e then (trTg c (.Tuple ts k p)).bind fun t => (trE T n c e).map (.asg t ·) else none
    | .AugAssign (.Name x _) o e _ => (locOf c x).bind fun i => (opI o).bind fun p => (trE T n c e).map (.aug i p ·)
    | .AugAssign (.Subscript a i _) o e _ => if nsl i then (opI o).bind fun p => (trE T n c a).bind fun a => (trE T n c i).bind fun i => (trE T n c e).map (.augS a i p ·) else none
    | .Expr (.Constant (.str _) _ _) _ => some .pass
    | .Expr e _ => if ncomp e then (trE T n c e).map .ex else none
    | .Return (some e) _ => (trE T n c e).map .ret
    | .Return none _ => some (.ret (.con .non))
    | .If t a b _ => (trT T n c t).bind fun t => (trSs n c a).bind fun a => (trSs n c b).map (.ifs t a ·)
    | .While t b [] _ => (trT T n c t).bind fun t => (trSs n c b).map (.wh t ·)
    | .For tg it b [] _ => if c.hot then none else if nset it then (trTg c tg).bind fun t => (trIt T n c tg it).bind fun i => (trSs n c b).map (.for t i ·) else none
    | .Raise (some (.Call (.Name x _) [.Constant (.str _) _ _] [] _)) none _ => if c.hot then none else match globOf T c x with
      | some (.cls k) => match T.P.cl[k]? with
        | some C => if C.exk = 1 ∧ C.exf = [] then some (.raise k []) else none
        | none => none
      | _ => none
    | .Raise (some (.Call (.Name x _) (e :: es) [] _)) none _ => if c.hot then none else match globOf T c x with
      | some (.cls k) => match T.P.cl[k]? with
        | some C => if C.exk = 2 ∧ (e :: es).all nst = true then (trEs T n c (e :: es)).map (.raise k ·) else none
        | none => none
      | _ => none
    | .Try b (h0 :: hds) [] [] _ => if c.hot then none else (trSs n c b).bind fun b => (trHs n c (h0 :: hds)).map (.try b ·)
    | .Break _ => some .brk
    | .Continue _ => some .cnt
    | .Pass _ => some .pass
    | _ => none
def trSs : Nat → TC → List Stmt → Option (List IS)
  | 0, _, _ => none
  | n + 1, c, sts => match sts with
    | [] => some []
    | s :: r => (trS n c s).bind fun s => (trSs n c r).map (s :: ·)
def trHs : Nat → TC → List ExceptHandler → Option (List (List Ty × Option Nat × List IS))
  | 0, _, _ => none
  | n + 1, c, hs => match hs with
    | [] => some []
    | .ExceptHandler (some t) none (b0 :: su) _ :: r => (trHt T c t).bind fun ts => (trSs n { c with hot := true, xn := none } (b0 :: su)).bind fun b => (trHs n c r).map ((ts, none, b) :: ·)
    | .ExceptHandler (some t) (some x) (b0 :: su) _ :: r => if c.sc.names.lookup x = some .local then (trHt T c t).bind fun ts => (locOf c x).bind fun i => (trSs n { c with hot := true, xn := some x } (b0 :: su)).bind fun b => (trHs n c r).map ((ts, some i, b) :: ·) else none
    | _ => none
end
end
section
variable {L : Lk} {n : Nat} {c : TC} {xb : XB} {W : WX} {X : Cx}
structure SndS (L : Lk) (m : Nat) : Prop where
  s : ∀ {n : Nat} {c : TC} {xb : XB} {W : WX} {X : Cx} {st : Stmt} {i : IS}, CtxS L n c xb W X → trS L.T m c st = some i → SS L n xb W X st i
  ss : ∀ {n : Nat} {c : TC} {xb : XB} {W : WX} {X : Cx} {st : List Stmt} {i : List IS}, CtxS L n c xb W X → trSs L.T m c st = some i → SSs L n xb W X st i
  hs : ∀ {n : Nat} {c : TC} {W : WX} {X : Cx} {hds : List ExceptHandler} {l : List (List Ty × Option Nat × List IS)}, CtxS L n c none W X → c.hot = false → trHs L.T m c hds = some l → (∀ q ∈ l, q.1.all (tyX L.T) = true) ∧ HdG X hds (l.map (clz L n))
theorem bnot {b : Bool} (h : (!b) = true) : b = false := by cases b; rfl; cases h
theorem lc_parts {m : Nat} {elt tg it : Expr} {ifs : List Expr} {scope : Scope} {pos : Pos} {i : IE} (h : trE L.T (m + 1) c (.ListComp elt [⟨tg, it, ifs, .ofNat 0⟩] scope pos) = some i) :
    c.hot = false ∧ nset it = true ∧ blkC c.N c.sc scope (ownOf c.N scope) = true ∧ ∃ t iit e cc, trTg { c with sc := relS scope c.sc, blk := some scope.names } tg = some t ∧ ((tgs t).all fun i => ((ownOf c.N scope).map (·.2)).contains i) = true ∧ trIt L.T m c tg it = some iit ∧ trE L.T m { c with sc := relS scope c.sc, blk := some scope.names } elt = some e ∧
      ((ifs = [] ∧ cc = none) ∨ ∃ q k, ifs = [q] ∧ cc = some k ∧ trT L.T m { c with sc := relS scope c.sc, blk := some scope.names } q = some k) ∧ i = .lc e t iit cc ((ownOf c.N scope).map (·.2)) := by
  unfold trE at h
  obtain ⟨h0, h⟩ := oif' h
  have h0 := bfalse h0
  simp only [Bool.or_eq_false_iff, Bool.not_eq_false'] at h0
  obtain ⟨⟨h0, h5⟩, h6⟩ := h0
  obtain ⟨t, h1, h⟩ := obind h
  obtain ⟨h2, h⟩ := oif h
  obtain ⟨it, h3, h⟩ := obind h
  obtain ⟨e1, h4, h⟩ := obind h
  refine ⟨h0, h5, h6, t, it, e1, ?_⟩
  split at h
  · cases h
    exact ⟨none, h1, h2, h3, h4, .inl ⟨rfl, rfl⟩, rfl⟩
  · obtain ⟨k, h7, rfl⟩ := omap h
    exact ⟨some k, h1, h2, h3, h4, .inr ⟨_, k, rfl, rfl, h7⟩, rfl⟩
  · cases h
theorem sndS_s {m : Nat} (ih : SndS L m) {st : Stmt} {i : IS} (C : CtxS L n c xb W X) (h : trS L.T (m + 1) c st = some i) : SS L n xb W X st i := by
  have E := sound L m
  have CE := C.toCtxE
  unfold trS at h
  split at h
  · split at h
    · rename_i h0
      simp only [Bool.and_eq_true, decide_eq_true_eq] at h0
      obtain ⟨⟨g1, g2⟩, g3⟩ := h0
      obtain ⟨j, h1, h⟩ := obind h
      obtain ⟨e, h2, rfl⟩ := omap h
      cases m with
      | zero => unfold trE at h2; cases h2
      | succ m =>
        have E := sound L m
        obtain ⟨hot, k1, k2, t, iit, e1, cc, k3, k4, k5, k6, k7, rfl⟩ := lc_parts h2
        obtain ⟨_, rfl⟩ := C.cool hot
        refine ss_setLc C hot h1 g1 g2 (bnot g3) k1 k2 k3 k4 (E.it CE k5) (fun X' C' => E.e C' k6) ?_
        rcases k7 with k7 | ⟨q, k, k7, k8, k9⟩
        · exact .inl k7
        · exact .inr ⟨q, k, k7, k8, fun X' C' => (E.t C' k9).1⟩
    · obtain ⟨h0, h⟩ := oif h
      rw [decide_eq_true_eq] at h0
      obtain ⟨j, h1, h⟩ := obind h
      obtain ⟨e, h2, rfl⟩ := omap h
      exact ss_setCell C h1 h0 (E.e CE h2)
  · obtain ⟨h0, h⟩ := oif h
    obtain ⟨j, h1, h⟩ := obind h
    obtain ⟨e, h2, rfl⟩ := omap h
    exact ss_set C h1 h0 (E.e CE h2)
  · obtain ⟨hot, h⟩ := oif' h
    obtain ⟨h0, h⟩ := oif h
    simp only [Bool.and_eq_true, decide_eq_true_eq] at h0
    obtain ⟨g1, g2, g3, g4, g5, g6, g7, g8⟩ := h0
    obtain ⟨j, h1, h⟩ := obind h
    obtain ⟨l, h2, h⟩ := obind h
    obtain ⟨es, h3, rfl⟩ := omap h
    exact ss_par2 C (bfalse hot) h1 h2 g1 g2 g3 g4 g5 g6 (bnot g7) (bnot g8) (E.es CE h3)
  · obtain ⟨hot, h⟩ := oif' h
    obtain ⟨h0, h⟩ := oif h
    simp only [Bool.and_eq_true, decide_eq_true_eq] at h0
    obtain ⟨g1, g2, g3, g4, g5, g6, g7, g8, g9, ga, gb, gc, gd⟩ := h0
    obtain ⟨j, h1, h⟩ := obind h
    obtain ⟨l, h2, h⟩ := obind h
    obtain ⟨o, h3, h⟩ := obind h
    obtain ⟨es, h4, rfl⟩ := omap h
    exact ss_par3 C (bfalse hot) h1 h2 h3 g1 g2 g3 g4 g5 g6 g7 g8 g9 ga gb (bnot gc) (bnot gd) (E.es CE h4)
  · obtain ⟨h0, h⟩ := oif h
    simp only [Bool.and_eq_true] at h0
    obtain ⟨g1, g2, g3⟩ := h0
    obtain ⟨a, h1, h⟩ := obind h
    obtain ⟨j, h2, h⟩ := obind h
    obtain ⟨e, h3, rfl⟩ := omap h
    exact ss_sub C g1 g2 g3 (E.e CE h3) (E.e CE h1) (E.e CE h2)
  · obtain ⟨h0, h⟩ := oif h
    obtain ⟨a, h1, h⟩ := obind h
    obtain ⟨k, h2, h⟩ := obind h
    obtain ⟨e, h3, rfl⟩ := omap h
    exact ss_sfld C h2 h0 (E.e CE h3) (E.e CE h1)
  · obtain ⟨hot, h⟩ := oif' h
    split at h
    · rename_i hU
      obtain ⟨h0, h⟩ := oif h
      obtain ⟨t, h1, h⟩ := obind h
      obtain ⟨e, h2, rfl⟩ := omap h
      exact ss_unp C (bfalse hot) hU h0 (E.e CE h2) (by unfold trTg; rw [h1]; rfl)
    · obtain ⟨t, h1, h⟩ := obind h
      obtain ⟨e, h2, rfl⟩ := omap h
      exact ss_asg C (bfalse hot) h1 rfl rfl (E.e CE h2)
  · obtain ⟨hot, h⟩ := oif' h
    obtain ⟨h0, h⟩ := oif h
    rw [Bool.and_eq_true] at h0
    obtain ⟨t, h1, h⟩ := obind h
    obtain ⟨e, h2, rfl⟩ := omap h
    exact ss_asg C (bfalse hot) h1 h0.1 h0.2 (E.e CE h2)
  · obtain ⟨j, h1, h⟩ := obind h
    obtain ⟨p, h2, h⟩ := obind h
    obtain ⟨e, h3, rfl⟩ := omap h
    exact ss_aug C h1 h2 (E.e CE h3)
  · obtain ⟨h0, h⟩ := oif h
    obtain ⟨p, h1, h⟩ := obind h
    obtain ⟨a, h2, h⟩ := obind h
    obtain ⟨j, h3, h⟩ := obind h
    obtain ⟨e, h4, rfl⟩ := omap h
    exact ss_augS C h0 h1 (E.e CE h2) (E.e CE h3) (E.e CE h4)
  · cases h; exact ss_doc
  · obtain ⟨h0, h⟩ := oif h
    obtain ⟨e, h1, rfl⟩ := omap h
    exact ss_expr h0 (E.e CE h1)
  · obtain ⟨e, h1, rfl⟩ := omap h
    exact ss_ret (E.e CE h1)
  · cases h; exact ss_retN
  · obtain ⟨t, h1, h⟩ := obind h
    obtain ⟨a, h2, h⟩ := obind h
    obtain ⟨b, h3, rfl⟩ := omap h
    exact ss_if (E.t CE h1).1 (ih.ss C h2) (ih.ss C h3)
  · obtain ⟨t, h1, h⟩ := obind h
    obtain ⟨b, h3, rfl⟩ := omap h
    exact ss_wh C (E.t CE h1).1 (ih.ss C h3)
  · obtain ⟨hot, h⟩ := oif' h
    obtain ⟨h0, h⟩ := oif h
    obtain ⟨t, h1, h⟩ := obind h
    obtain ⟨j, h2, h⟩ := obind h
    obtain ⟨b, h3, rfl⟩ := omap h
    exact ss_for C (bfalse hot) h0 h1 (E.it CE h2) (ih.ss C h3)
  · obtain ⟨hot, h⟩ := oif' h
    split at h
    · rename_i hx
      split at h
      · rename_i hc
        obtain ⟨h0, h⟩ := oif h
        cases h
        exact ss_raise1 C (bfalse hot) hx hc h0.1 h0.2
      · cases h
    · cases h
  · obtain ⟨hot, h⟩ := oif' h
    split at h
    · rename_i hx
      split at h
      · rename_i hc
        obtain ⟨h0, h⟩ := oif h
        obtain ⟨is, h1, rfl⟩ := omap h
        exact ss_raise2 C (bfalse hot) hx hc h0.1 (List.all_eq_true.mp h0.2) (E.es CE h1)
      · cases h
    · cases h
  · obtain ⟨hot, h⟩ := oif' h
    have hot := bfalse hot
    obtain ⟨b, h1, h⟩ := obind h
    obtain ⟨l, h2, rfl⟩ := omap h
    obtain ⟨_, rfl⟩ := C.cool hot
    obtain ⟨g1, g2⟩ := ih.hs C hot h2
    exact ss_try C hot g1 (fun W X' C' => ih.ss C' h1) g2
  · cases h; exact ss_brk
  · cases h; exact ss_cnt
  · cases h; exact ss_pass
  · cases h
theorem locOf_dbg {x : Str} {i : Nat} (h : locOf c x = some i) : dbg x = false := by
  unfold locOf at h
  split at h
  · cases h
  · rename_i z
    cases e : dbg x with
    | false => rfl
    | true => rw [e] at z; exact (z rfl).elim
theorem sndS_h {m : Nat} (ih : SndS L m) {hds : List ExceptHandler} {l : List (List Ty × Option Nat × List IS)} (C : CtxS L n c none W X) (hot : c.hot = false) (h : trHs L.T (m + 1) c hds = some l) : (∀ q ∈ l, q.1.all (tyX L.T) = true) ∧ HdG X hds (l.map (clz L n)) := by
  unfold trHs at h
  split at h
  · cases h
    exact ⟨fun q hq => (by cases hq), .nil⟩
  · obtain ⟨ts, h1, h⟩ := obind h
    obtain ⟨b, h2, h⟩ := obind h
    obtain ⟨r, h3, rfl⟩ := omap h
    obtain ⟨g1, g2⟩ := ih.hs C hot h3
    obtain ⟨k1, k2⟩ := tst_of C.toCtxE h1
    refine ⟨fun q hq => ?_, .only k2 (fun a oe cls d pn hz hf => ih.ss (ctx_only C hot a ((a, oe) :: pn)) h2) g2⟩
    rcases List.mem_cons.mp hq with rfl | hq
    · exact k1
    · exact g1 q hq
  · rename_i t0 x0 b00 su0 ps0 r0
    obtain ⟨hx, h⟩ := oif h
    obtain ⟨ts, h1, h⟩ := obind h
    obtain ⟨i, h0, h⟩ := obind h
    obtain ⟨b, h2, h⟩ := obind h
    obtain ⟨r, h3, rfl⟩ := omap h
    obtain ⟨g1, g2⟩ := ih.hs C hot h3
    obtain ⟨k1, k2⟩ := tst_of C.toCtxE h1
    have hdb := locOf_dbg h0
    obtain ⟨q1, q2, q3, q4⟩ := C.loc h0
    have hln : X.env.kindOf x0 = some .local := by
      show X.env.scope.names.lookup x0 = _
      rw [C.sc]; exact hx
    refine ⟨fun q hq => ?_, .as k2 (by rw [C.N]; exact C.nd) q1 hln (fun a oe cls d pn hz hf => PSs.ex fun e => ih.ss (ctx_as C hot q1 hln (dbg_no hdb).1 (dbg_no hdb).2 pn hz hf e) h2) g2⟩
    rcases List.mem_cons.mp hq with rfl | hq
    · exact k1
    · exact g1 q hq
  · cases h
theorem sndS (L : Lk) : ∀ m, SndS L m
  | 0 => { s := fun _ h => (by unfold trS at h; cases h), ss := fun _ h => (by unfold trSs at h; cases h), hs := fun _ _ h => (by unfold trHs at h; cases h) }
  | m + 1 => by
    have ih := sndS L m
    refine ⟨fun C h => sndS_s ih C h, fun {n c xb W X st i} C h => ?_, fun C hot h => sndS_h ih C hot h⟩
    unfold trSs at h
    cases st with
    | nil => cases h; exact ss_nil
    | cons s r =>
      obtain ⟨a, h1, h⟩ := obind h
      obtain ⟨b, h2, rfl⟩ := omap h
      exact ss_cons (ih.s C h1) (ih.ss C h2)
/-! ### a def -/
/-- the text's def i is F -/
structure DefOk (L : Lk) (i : Nat) (F : Fn) : Prop where
  run : ∃ (oc : Value) (od : Option Addr) (name qual : Str) (params : Arguments) (body : List Stmt) (scope : Scope) (dV kV doc pm cdv ct : Value) (an : Option Addr) (osl : Array (Option Value)) (N : List Str) (m : Nat),
    L.K.lookup (L.fa i) = some ⟨oc, od, .func (PySem.W.fnOf name qual params body scope dV kV doc pm an cdv ct), osl⟩ ∧ L.fd i = PySem.W.fnOf name qual params body scope dV kV doc pm an cdv ct ∧ PySem.W.codeIn L.K cdv qual = true ∧ FnScope N (L.ps i) scope ∧
    F.np = (L.ps i).length ∧ F.slots = N.length ∧ trSs L.T m ⟨N, scope, none, false, none⟩ body = some F.body
theorem re_start {g : G} {H : Hp} {ι : List Addr} {N : List Str} {ps : List PV} {vs : List V} (r : RVs g H ι ps vs) : RE g none H ι (L2.start N vs) (ps.map some ++ List.replicate (N.length - ps.length) none) := by
  refine ⟨?_, fun i pv e => ?_, fun q hq => by cases hq⟩
  · unfold L2.start
    have := r.length
    simp [this]
  · by_cases hi : i < ps.length
    · rw [List.getElem?_append_left (by simpa using hi), List.getElem?_map] at e
      cases e1 : ps[i]? with
      | none => rw [e1] at e; cases e
      | some p =>
        rw [e1] at e
        cases e
        obtain ⟨v, e2, rv⟩ := r.get e1
        refine ⟨v, ?_, rv⟩
        unfold L2.start
        rw [List.getElem?_append_left (by rw [List.length_map, ← r.length]; exact hi), List.getElem?_map, e2]
        rfl
    · rw [List.getElem?_append_right (by simpa using hi), List.getElem?_replicate] at e
      split at e <;> cases e
theorem fins_out {g : G} {σ : L2.St} {E : XK} {H : Hp} {ι : List Addr} {μ : Store} {r : RS} {Q : VK} (h : Fin g (fun cls d _ H => E cls d H) σ (RVf g) H ι μ r.out Q) : FinS g none (fun cls d _ H => E cls d H) { nx := fun _ H' => Q .non H', rt := Q } H ι μ r := by
  cases r with
  | bad => exact h.elim
  | mk f μ1 =>
    cases f with
    | nx ρ => exact fun σ1 H1 ι1 x m r => h .non H1 ι1 x m rfl
    | bk ρ => exact h.elim
    | ct ρ => exact h.elim
    | rt v => exact fun w H1 ι1 x m r => h w H1 ι1 x m r
    | ex e ρ => exact fun cls d σ1 H1 ι1 x m _ r => h cls d H1 ι1 x m r
/-- a def that makes a function which keeps its one parameter -/
structure CloDef (L : Lk) (i : Nat) (F : Fn) : Prop where
  body : F.body = [.ret (.clo (.var 0))]
  np : F.np = 1
  slots : F.slots = 2
  ps : L.ps i = [L.nd.x]
  run : ∃ (oc : Value) (od : Option Addr) (name qual : Str) (params : Arguments) (body : List Stmt) (scope : Scope) (dV kV doc pm ct : Value) (an : Option Addr) (osl : Array (Option Value)) (cd P0 : Addr) (p2 pos pos2 : Pos),
    L.K.lookup (L.fa i) = some ⟨oc, od, .func (PySem.W.fnOf name qual params body scope dV kV doc pm an (.ref cd) ct), osl⟩ ∧ L.fd i = PySem.W.fnOf name qual params body scope dV kV doc pm an (.ref cd) ct ∧ PySem.W.codeIn L.K (.ref cd) qual = true ∧ FnScope [L.nd.x, L.nd.nm] [L.nd.x] scope ∧
    body = [L.nd.st, .Return (some (.Name L.nd.nm p2)) pos2] ∧ L.nd.st = .FunctionDef L.nd.nm (C8.fnArgs L.nd.st) (C8.fnBody L.nd.st) [] none [] (C8.fnScope L.nd.st) none L.nd.nm pos ∧ (cd, P0) ∈ L.nd.cs ∧ L.nd.tb = some (P0, fun _ _ => L.nd.q) ∧ L.nd.q = (qual ++ ".<locals>.") ++ L.nd.nm ∧ scope.names.lookup L.nd.x = some .cell ∧ scope.names.lookup L.nd.nm = some .local
  fr : freeB (C8.fnScope L.nd.st) L.nd.x = true
  d0 : (C8.fnArgs L.nd.st).defaults = []
  k0 : (C8.fnArgs L.nd.st).kw_defaults = []
  an : ∀ env, annTrees (C8.fnArgs L.nd.st) none env = []
  g1 : (L.nd.nm == ("__debug__" : Str)) = false
  g2 : (L.nd.nm == ("__classdict__" : Str)) = false
/-- the function that it makes -/
structure NestDef (L : Lk) : Prop where
  ex : ∃ (F : Fn) (m : Nat), L.T.P.nf = [F] ∧ F.np = L.nd.ps.length + 1 ∧ F.slots = L.nd.N.length ∧ trSs L.T m ⟨L.nd.N, C8.fnScope L.nd.st, none, false, none⟩ (C8.fnBody L.nd.st) = some F.body
  S : NScope L.nd.N L.nd.ps [L.nd.x] (C8.fnScope L.nd.st)
  hb : ∀ (cl : List (Str × Addr)) (c' : Addr) (doc pm ctv : Value) (us : List Value), us.length = L.nd.ps.length → bindArgs ((L.g.nF cl c').fd doc pm ctv) ⟨us, []⟩ = pure (L.nd.ps.zip us)
theorem den_fn {P : Prog} {n i : Nat} {F : Fn} (hF : P.fn[i]? = some F) {ps : List PV} (hl : ps.length = F.np) (μ : Store) : den P (n + 1) i ps μ = (evSs P (den P n) F.body none (ps.map some ++ List.replicate (F.slots - F.np) none) μ).out := by
  rw [den, List.getElem?_append_left (List.getElem?_eq_some_iff.mp hF).1, hF]
  simp only [hl, if_true]
theorem den_nf {P : Prog} {n : Nat} {F : Fn} (hF : P.nf = [F]) {ps : List PV} (hl : ps.length = F.np) (μ : Store) : den P (n + 1) P.fn.length ps μ = (evSs P (den P n) F.body none (ps.map some ++ List.replicate (F.slots - F.np) none) μ).out := by
  rw [den, List.getElem?_append_right (Nat.le_refl _), Nat.sub_self, hF]
  simp only [List.getElem?_cons_zero, hl, if_true]
theorem fn_at {P : Prog} {i : Nat} {F F' : Fn} (hF : P.fn[i]? = some F) (h : (P.fn ++ P.nf)[i]? = some F') : F' = F := by
  rw [List.getElem?_append_left (List.getElem?_eq_some_iff.mp hF).1, hF] at h
  exact (Option.some.inj h).symm
/-- every def keeps its promise, n calls deep -/
theorem prog_ok {P : Program} {w : World} {mg : Str → Option Value} {base : Heap} (L : Lk) (lok : LOk L mg) (defs : ∀ i F, L.T.P.fn[i]? = some F → DefOk L i F ∨ CloDef L i F) (nest : L.T.P.nf ≠ [] → NestDef L) (TB : ∀ p ∈ L.nd.cs, TabB base mg p.1 p.2) :
    ∀ n, (∀ i F, L.T.P.fn[i]? = some F → FnOk P w L.K mg base (L2.CX P w) (3 * n) (L.fa i) (L.fd i) (L.ps i) (spI L n i)) ∧ (L.T.P.nf ≠ [] → ∀ f cl c', NOk P w L.K mg base (L2.CX P w) (3 * n) f (L.g.nF cl c') L.nd.ps [L.nd.x] (spN L n))
  | 0 => by
    refine ⟨fun i F hF => ?_, fun _ f cl c' => ⟨fun ws vs H Q E ⟨u, _, h, _⟩ => h, fun A outer s H us vs ws Q E hr e0 hf hc C r ⟨u, _, _, σ, ι, μ, ps, pv, _, _, _, q⟩ => q.elim⟩⟩
    have np : F.np = (L.ps i).length := (lok.bind0 i F hF).2.symm
    refine ⟨fun vs H Q E h => ?_, fun A outer s H args us vs Q E hr e0 hb hv h => ?_⟩
    · obtain ⟨F', h1, h2, _⟩ := h
      cases fn_at hF h1
      rw [h2, np]
    · obtain ⟨F', h1, h2, σ, ι, μ, ps, rm, rv, q⟩ := h
      exact q.elim
  | n + 1 => by
    have ih := prog_ok (P := P) (w := w) (base := base) L lok defs nest TB n
    refine ⟨fun i F hF => ?_, fun hnf f cl c' => ?_⟩
    · have np : F.np = (L.ps i).length := (lok.bind0 i F hF).2.symm
      rcases defs i F hF with D | D
      · obtain ⟨oc, od, name, qual, params, body, scope, dV, kV, doc, pm, cdv, ct, an, osl, N, m, lk, efd, hcd, S, hnp, hsl, htr⟩ := D.run
        rw [efd]
        refine fn_of (k := 3 * n + 2) (N := N) lk hcd S (fun vs H Q E h => ?_) fun A outer s H vs Q E hr h => ?_
        · obtain ⟨F', h1, h2, _⟩ := h
          cases fn_at hF h1
          rw [h2, np]
        · obtain ⟨F', h1, h2, σ, ι, μ, ps, rm, rv, q⟩ := h
          cases fn_at hF h1
          have C : CtxS L n ⟨N, scope, none, false, none⟩ none (fun cls d _ H => E cls d H) (cxOf (L2.CX P w) P w L.K mg base N qual scope (L.fa i) cdv A outer s H E) := {
            K := rfl
            lok := lok
            N := rfl
            nd := S.nd
            sc := rfl
            calm := fun _ => rfl
            room := fun _ => hr
            unit := by have := hr.un; show (A.deeper _).units + 65 < cLine; omega
            fns := fun j F' hF' => ih.1 j F' hF'
            nest := ih.2
            takes := fun _ => takes_of rfl rfl rfl rfl
            cell := fun x hx _ => rfl
            cool := fun _ => ⟨rfl, rfl⟩
            exn := fun q hq => by cases hq
            exf := fun x hx => by cases hx
            exi := fun x hx => by cases hx
            pass := passes_of rfl
            stk := rfl
            frm := rfl }
          refine ⟨_, (sndS L m).ss C htr, ι, ps.map some ++ List.replicate (N.length - ps.length) none, μ, re_start rv, rm, fins_out (σ := σ) ?_⟩
          have hl : ps.length = F.np := by rw [rv.length, h2]
          have e : L.D (n + 1) i ps μ = (evSs L.T.P (den L.T.P n) F.body none (ps.map some ++ List.replicate (F.slots - F.np) none) μ).out := den_fn hF hl μ
          rw [e, ← hl, hsl] at q
          exact q
      · obtain ⟨oc, od, name, qual, params, body, scope, dV, kV, doc, pm, ct, an, osl, cd, P0, p2, pos, pos2, lk, efd, hcd, S, hb, hst, hcs, htb, hq, hx, hnm⟩ := D.run
        rw [efd, D.ps]
        refine fn_clo (k := 3 * n + 2) lk hcd S hb hst (TB _ hcs) hx hnm D.fr D.d0 D.k0 D.an D.g1 D.g2 fun vs H Q E h => ?_
        obtain ⟨F', h1, h2, σ, ι, μ, ps, rm, rv, q⟩ := h
        cases fn_at hF h1
        have hl : ps.length = F.np := by rw [rv.length, h2]
        have e : L.D (n + 1) i ps μ = (evSs L.T.P (den L.T.P n) F.body none (ps.map some ++ List.replicate (F.slots - F.np) none) μ).out := den_fn hF hl μ
        rw [e, D.body, D.slots, D.np] at q
        rw [D.np] at hl
        obtain ⟨pv, rfl⟩ := List.length_eq_one_iff.mp hl
        obtain ⟨v, r0, rfl, rpv, r1⟩ := rv
        cases (show r0 = [] from r1)
        have eq0 : (envOfC qual scope 0 (L.fa i) (.ref cd)).qual ++ L.nd.nm = L.nd.q := by rw [hq]; rfl
        rw [eq0]
        refine ⟨v, rfl, rm.tab _ htb, fun g c c' cl H1 ext nn tab hg one hgf hcc hcu => ?_⟩
        have q : Fin L.g (fun cls d _ H => E cls d H) σ (RVf L.g) H ι μ (.ok (.loc μ.length) (μ ++ [.clo pv])) Q := by
          have e2 : (evSs L.T.P (den L.T.P n) [.ret (.clo (.var 0))] none (([pv] : List PV).map some ++ List.replicate (2 - 1) none) μ).out = .ok (.loc μ.length) (μ ++ [.clo pv]) := by
            simp [evSs, evS, evE, Res.bind, Res.st, RS.seq, RS.out]
          rw [e2] at q
          exact q
        have E : Ext H ι μ H1 (ι ++ [g]) (μ ++ [.clo pv]) := by
          refine ⟨List.prefix_append _ _, fun a o h _ ht => ext a o h (fun ps z => by subst z; cases ht), fun a h => ?_, nn⟩
          rcases own_app rm.len h with z | z
          · exact .inl z
          · exact .inr (by rw [z]; exact hg)
        have old : ∀ {a : Addr}, Own ι μ a → H1 a = H a := fun {a} h => by
          obtain ⟨o, e, hm⟩ := rm.own h
          rw [e]
          exact ext a o e (fun ps z => by subst z; cases hm)
        refine q (.ref g) H1 (ι ++ [g]) E ⟨by simp [rm.len], fun m c0 e => ?_, fun m m' a c1 c2 nm e1 e2 e3 e4 => ?_, fun p hp => by have hp : L.nd.tb = some p := hp; rw [htb] at hp; cases hp; exact tab⟩ ⟨g, by rw [← rm.len]; simp, rfl⟩
        · by_cases hm : m < μ.length
          · rw [List.getElem?_append_left hm] at e
            obtain ⟨a, e1, rc⟩ := rm.at_ m c0 e
            exact ⟨a, get_pre (List.prefix_append _ _) e1, rc.mono rm E fun hf => old ⟨m, c0, e1, e, hf⟩⟩
          · rw [List.getElem?_append_right (by omega)] at e
            cases e0 : m - μ.length with
            | succ k => rw [e0] at e; simp at e
            | zero =>
              rw [e0] at e
              cases (show Cell.clo pv = c0 from Option.some.inj e)
              have : m = ι.length := by rw [rm.len]; omega
              exact ⟨g, by rw [this]; simp, cl, c, v, c', hgf, hcc, one, hcu, rpv.mono rm E⟩
        · have key : ∀ {k : Nat} {d : Cell}, (μ ++ [.clo pv])[k]? = some d → μ[k]? = some d ∨ frz d = true := fun {k d} e => by
            by_cases hk : k < μ.length
            · rw [List.getElem?_append_left hk] at e; exact .inl e
            · rw [List.getElem?_append_right (by omega)] at e
              cases e0 : k - μ.length with
              | succ k => rw [e0] at e; simp at e
              | zero => rw [e0] at e; cases (show Cell.clo pv = d from Option.some.inj e); exact .inr rfl
          rcases key e3 with f3 | f3
          · rcases key e4 with f4 | f4
            · have l3 := (List.getElem?_eq_some_iff.mp f3).1
              have l4 := (List.getElem?_eq_some_iff.mp f4).1
              rw [List.getElem?_append_left (by rw [rm.len]; exact l3)] at e1
              rw [List.getElem?_append_left (by rw [rm.len]; exact l4)] at e2
              exact rm.sep m m' a c1 c2 nm e1 e2 f3 f4
            · exact .inr f4
          · exact .inl f3
    · have ND := nest hnf
      obtain ⟨F, m, hF, hnp, hsl, htr⟩ := ND.ex
      refine nok_of (k := 3 * n + 2) (N := L.nd.N) ND.S (fun doc pm ctv us hu => ND.hb cl c' doc pm ctv us hu) (fun ws vs H Q E ⟨u, _, h, _⟩ => h) fun A outer s H vs ws Q E hr hf hc hwl h => ?_
      obtain ⟨u, rfl, hvl, σ, ι, μ, ps, pv, rm, rv, rp, q⟩ := h
      have C : CtxS L n ⟨L.nd.N, C8.fnScope L.nd.st, none, false, none⟩ none (fun cls d _ H => E cls d H) (ncx (L2.CX P w) P w L.K mg base L.nd.N (L.g.nF cl c') f A outer s H E) := {
        K := rfl
        lok := lok
        N := rfl
        nd := ND.S.nd
        sc := rfl
        calm := fun _ => rfl
        room := fun _ => hr
        unit := by have := hr.un; show (A.deeper _).units + 65 < cLine; omega
        fns := fun j F' hF' => ih.1 j F' hF'
        nest := ih.2
        takes := fun _ => takes_of rfl rfl rfl rfl
        cell := fun x hx _ => absurd rfl (ND.S.nocell (x, .cell) (PySem.mem_of_lookup hx))
        cool := fun _ => ⟨rfl, rfl⟩
        exn := fun q hq => by cases hq
        exf := fun x hx => by cases hx
        exi := fun x hx => by cases hx
        pass := passes_of rfl
        stk := rfl
        frm := rfl }
      have rv2 := rv.append (RVs.one rp)
      have es : startF L.nd.N vs [some u] = L2.start L.nd.N (vs ++ [u]) := by
        unfold startF L2.start
        rw [List.map_append, List.append_assoc, List.length_append]
        simp [Nat.sub_sub]
      refine ⟨_, (sndS L m).ss C htr, ι, (ps ++ [pv]).map some ++ List.replicate (L.nd.N.length - (ps ++ [pv]).length) none, μ, by rw [es]; exact re_start rv2, rm, fins_out (σ := σ) ?_⟩
      have hl : (ps ++ [pv]).length = F.np := by rw [rv2.length, hnp, List.length_append, hvl]; rfl
      have e : L.D (n + 1) L.T.P.fn.length (ps ++ [pv]) μ = (evSs L.T.P (den L.T.P n) F.body none ((ps ++ [pv]).map some ++ List.replicate (F.slots - F.np) none) μ).out := den_nf hF hl μ
      rw [e, ← hl, hsl] at q
      exact q
end
end BW
set_option maxHeartbeats 4000000
/-! How plain parameters are bound. -/
namespace BW
open PySem PySem.Spec PyProof.Rows L2
theorem zip_lookup : ∀ {names : List Str} {us : List Value} {i : Nat} {x : Str}, names.Nodup → names[i]? = some x → (names.zip us).lookup x = us[i]?
  | [], _, _, _, _, h => by cases h
  | y :: ns, [], i, x, _, h => by simp
  | y :: ns, u :: us, 0, x, _, h => by
    cases h
    simp [List.lookup]
  | y :: ns, u :: us, i + 1, x, nd, h => by
    have h : ns[i]? = some x := h
    have hne : x ≠ y := by
      rintro rfl
      exact (List.nodup_cons.mp nd).1 (List.mem_of_getElem? h)
    have : (x == y) = false := by simpa using hne
    simp only [List.zip_cons_cons, List.lookup, this]
    exact zip_lookup (List.nodup_cons.mp nd).2 h
def addS (s : List (Str × Value)) (x : Str × Value) : List (Str × Value) := if (s.lookup x.1).isNone = true then s ++ [(x.1, x.2)] else s
theorem lookup_app {s t : List (Str × Value)} {x : Str} : (s ++ t).lookup x = (s.lookup x).or (t.lookup x) := by
  induction s with
  | nil => simp
  | cons p s ih =>
    obtain ⟨a, b⟩ := p
    simp only [List.cons_append, List.lookup]
    split
    · simp
    · exact ih
theorem fold_lookup : ∀ {l s : List (Str × Value)} {x : Str}, (l.foldl addS s).lookup x = (s.lookup x).or (l.lookup x)
  | [], s, x => by simp
  | p :: l, s, x => by
    rw [List.foldl_cons, fold_lookup (l := l)]
    unfold addS
    obtain ⟨a, b⟩ := p
    simp only [List.lookup]
    split
    · rename_i h
      rw [lookup_app]
      simp only [List.lookup]
      cases e : x == a with
      | true =>
        have := eq_of_beq e
        subst this
        simp only [Option.isNone_iff_eq_none] at h
        rw [h]
        simp
      | false => simp
    · rename_i h
      cases e : x == a with
      | true =>
        have := eq_of_beq e
        subst this
        cases e2 : s.lookup x with
        | none => rw [e2] at h; exact absurd rfl h
        | some v => simp
      | false => rfl
theorem filterMap_zip {names : List Str} {vs : List Value} {f : Str → Option (Str × Value)} (hl : vs.length = names.length) (h : ∀ (i : Nat) x v, names[i]? = some x → vs[i]? = some v → f x = some (x, v)) : names.filterMap f = names.zip vs := by
  induction names generalizing vs with
  | nil => simp
  | cons n ns ih =>
    cases vs with
    | nil => cases hl
    | cons v vs =>
      rw [List.filterMap_cons, h 0 n v rfl rfl, List.zip_cons_cons]
      simp only
      rw [ih (by simpa using hl) fun i x w h1 h2 => h (i + 1) x w h1 h2]
/-- the binder behind its defaults -/
theorem bind_plain {fd : FuncData} {us : List Value} (h1 : fd.params.posonlyargs = []) (h2 : fd.params.kwonlyargs = []) (h3 : fd.params.vararg = none) (h4 : fd.params.kwarg = none) (nd : (fd.params.args.map (·.arg)).Nodup) (hl : us.length ≤ fd.params.args.length) :
    ∃ k : Option (Array Value) → Sem (List (Str × Value)), bindArgs fd ⟨us, []⟩ = seqItems? fd.defaults >>= k ∧ ∀ o : Option (Array Value), ((o.getD #[]).toList).length ≤ fd.params.args.length → fd.params.args.length - ((o.getD #[]).toList).length ≤ us.length →
      k o = pure ((fd.params.args.map (·.arg)).zip (us ++ ((o.getD #[]).toList).drop (us.length - (fd.params.args.length - ((o.getD #[]).toList).length)))) := by
  unfold bindArgs
  simp only [h1, h2, h3, h4, List.map_nil, List.nil_append, List.append_nil, List.forIn_nil, pure_bind, List.length_map]
  refine ⟨_, rfl, fun o hd hu => ?_⟩
  generalize hD : (o.getD #[]).toList = D at hd hu ⊢
  generalize hN : fd.params.args.map (·.arg) = names at nd ⊢
  have hn : names.length = fd.params.args.length := by rw [← hN]; simp
  rw [← hn] at hl hd hu ⊢
  have e0 : D.length - names.length = 0 := by omega
  have miss : List.filter (fun n => (List.lookup n (names.zip us)).isNone) (List.take (names.length - D.length) names) = [] := by
    rw [List.filter_eq_nil_iff]
    intro x hx
    obtain ⟨i, hi, e⟩ := List.mem_iff_getElem.mp hx
    have hi' : i < names.length - D.length := by
      have := hi
      rw [List.length_take] at this
      omega
    have e1 : names[i]? = some x := by
      rw [List.getElem?_eq_getElem (by omega), ← e, List.getElem_take]
    rw [zip_lookup nd e1, List.getElem?_eq_getElem (by omega)]
    simp
  rw [e0, List.drop_zero, miss]
  have e1 : decide (us.length > names.length) = false := by simpa using hl
  have loop : (forIn ((List.drop (names.length - D.length) names).zip D) (names.zip us) fun x __s => if (List.lookup x.fst __s).isNone = true then (pure (ForInStep.yield (__s ++ [(x.fst, x.snd)])) : Sem _) else pure (ForInStep.yield __s)) = pure (((List.drop (names.length - D.length) names).zip D).foldl addS (names.zip us)) := by
    rw [← List.forIn_pure_yield_eq_foldl]
    congr 1
    funext x s
    unfold addS
    split <;> rfl
  simp only [e1, Bool.false_and, Bool.false_eq_true, if_false, List.isEmpty_nil, Bool.not_true, loop, pure_bind]
  refine congrArg pure ?_
  refine filterMap_zip ?_ fun i x v hx hv => ?_
  · rw [List.length_append, List.length_drop]
    omega
  · rw [fold_lookup, zip_lookup nd hx]
    by_cases hi : i < us.length
    · rw [List.getElem?_append_left hi] at hv
      rw [hv]
      rfl
    · rw [List.getElem?_append_right (by omega), List.getElem?_drop] at hv
      rw [List.getElem?_eq_none (by omega)]
      have hx2 : (List.drop (names.length - D.length) names)[i - (names.length - D.length)]? = some x := by
        rw [List.getElem?_drop, ← hx]
        congr 1
        have := (List.getElem?_eq_some_iff.mp hx).1
        omega
      rw [zip_lookup (nd.sublist (List.drop_sublist _ _)) hx2, Option.none_or]
      have : i - (names.length - D.length) = us.length - (names.length - D.length) + (i - us.length) := by omega
      rw [this, hv]
      rfl
end BW
set_option maxHeartbeats 4000000
/-! A law's text and the small language's program. -/
namespace BW
open PySem PySem.Spec PyProof.Rows L2 LamX NdefX
/-- the def at place i makes a function that keeps its parameter x: the statement st, the name nm; its own parameters ps, its names N -/
structure NestC where
  i : Nat
  at_ : Str × Option Str
  q0 : Str
  st : Stmt
  nm : Str
  x : Str
  N : List Str
  ps : List Str
structure Cfg where
  ents : List (Str × GEnt)
  flds : List Str
  mths : List Str
  cls : List Str
  defs : List He.DefD
  ns : List (List Str)
  tys : List Nat
  P : Prog
  nest : Option NestC
def dvPV : He.Dv → PV
  | .bl b => .bl b
  | .int i => .int i
  | .str s => .str s
  | _ => .non
def dvOk : He.Dv → Bool
  | .non | .bl _ | .int _ | .str _ => true
  | _ => false
def Cfg.T (c : Cfg) : GT := ⟨c.ents, c.flds, c.mths, c.defs.map fun d => d.dfl.map dvPV, c.tys, c.P⟩
def psOf (d : He.DefD) : List Str := d.params.args.map (·.arg)
def scB (N ps : List Str) (sc : Scope) : Bool := (sc.kind == .function) && (!sc.isCoroutine && (!sc.isGenerator && (decide N.Nodup && (decide (N.take ps.length = ps) && ((ps.all fun x => decide (sc.names.lookup x = some .local) || decide (sc.names.lookup x = some .cell)) && sc.names.all fun y => decide (y.2 ≠ .free))))))
def defB (d : He.DefD) (F : Fn) (N : List Str) : Bool := d.params.posonlyargs.isEmpty && (d.params.kwonlyargs.isEmpty && (d.params.vararg.isNone && (d.params.kwarg.isNone && (scB N (psOf d) d.scope && (decide (F.np = (psOf d).length) && (decide (F.slots = N.length) && (decide (d.dfl.length ≤ d.params.args.length) && (d.dfl.all dvOk && d.kwd.isEmpty))))))))
def entS (c : Cfg) (x : Str) : GEnt → Bool
  | .fn i => decide (i < c.P.fn.length)
  | .cls k => decide (k < c.P.cl.length)
  | .con (.int _) => true
  | .con (.str _) => true
  | .con _ => false
  | .bi b => decide (bootBuiltins x = some (biF b)) && decide (x ≠ "__name__")
  | .free => decide (x ≠ "__name__")
  | .tbl _ => true
def Cfg.mkAt (c : Cfg) (i : Nat) : Bool := match c.nest with
  | some n => decide (i = n.i)
  | none => false
/-- a def's body -/
def Cfg.trD (c : Cfg) (m : Nat) (p : (He.DefD × List Str) × Nat) : Option (List IS) := if c.mkAt p.2 = true then some [.ret (.clo (.var 0))] else trSs c.T m ⟨p.1.2, p.1.1.scope, none, false, none⟩ p.1.1.body
/-- the maker and what it makes, by the text -/
structure NestC.Ok (c : Cfg) (n : NestC) : Prop where
  def_ : ∃ (dd : He.DefD) (p2 pos pos2 : Pos), c.defs[n.i]? = some dd ∧ dd.at_ = n.at_ ∧ dd.qual = n.q0 ∧ psOf dd = [n.x] ∧ c.ns[n.i]? = some [n.x, n.nm] ∧ dd.body = [n.st, .Return (some (.Name n.nm p2)) pos2] ∧ n.st = .FunctionDef n.nm (C8.fnArgs n.st) (C8.fnBody n.st) [] none [] (C8.fnScope n.st) none n.nm pos ∧
    dd.scope.names.lookup n.x = some .cell ∧ dd.scope.names.lookup n.nm = some .local
  fr : freeB (C8.fnScope n.st) n.x = true
  d0 : (C8.fnArgs n.st).defaults = []
  k0 : (C8.fnArgs n.st).kw_defaults = []
  an : ∀ env, annTrees (C8.fnArgs n.st) none env = []
  g1 : (n.nm == ("__debug__" : Str)) = false
  g2 : (n.nm == ("__classdict__" : Str)) = false
  ex : ∃ (F : Fn) (m : Nat), c.P.nf = [F] ∧ F.np = n.ps.length + 1 ∧ F.slots = n.N.length ∧ trSs c.T m ⟨n.N, C8.fnScope n.st, none, false, none⟩ (C8.fnBody n.st) = some F.body
  S : nscB n.N n.ps [n.x] (C8.fnScope n.st) = true
  po : (C8.fnArgs n.st).posonlyargs = []
  ko : (C8.fnArgs n.st).kwonlyargs = []
  va : (C8.fnArgs n.st).vararg = none
  kw : (C8.fnArgs n.st).kwarg = none
  ar : (C8.fnArgs n.st).args.map (·.arg) = n.ps
/-- what the text alone tells -/
structure Cfg.Ok (c : Cfg) : Prop where
  fl : fldsOk c.T
  ents : (c.ents.all fun q => entS c q.1 q.2) = true
  len : c.defs.length = c.P.fn.length
  len2 : c.ns.length = c.P.fn.length
  len3 : c.cls.length = c.P.cl.length
  defs : ((c.defs.zip (c.P.fn.zip c.ns)).all fun p => defB p.1 p.2.1 p.2.2) = true
  tr : ∃ m, ((c.defs.zip c.ns).zipIdx.map fun p => c.trD m p) = c.P.fn.map fun F => some F.body
  nst : ∀ n, c.nest = some n → n.Ok c
  nf0 : c.nest = none → c.P.nf = []
/-- a tuple of the module -/
def tupIn (K : PySem.W.Frag) (a : Addr) : Option (List Value) := match K.lookup a with
  | some ⟨.type "tuple", _, .seq its _, _⟩ => if its.size ≤ sizeLine then some its.toList else none
  | _ => none
theorem tupIn_ok {K : PySem.W.Frag} {a : Addr} {us : List Value} (h : tupIn K a = some us) : TupK K a us := by
  unfold tupIn at h
  split at h
  · rename_i e
    split at h
    · rename_i hz
      cases h
      exact ⟨_, _, _, e, rfl, rfl, hz, rfl⟩
    · cases h
  · cases h
def intsB : List Value → List Int → Bool
  | [], [] => true
  | .int i _ :: us, j :: r => decide (i = j) && intsB us r
  | _, _ => false
theorem intsB_ok : ∀ {us : List Value} {r : List Int}, intsB us r = true → Vals (r.map V.int) us
  | [], [], _ => .nil
  | .int i t :: us, j :: r, h => by
    unfold intsB at h
    rw [Bool.and_eq_true, decide_eq_true_eq] at h
    obtain ⟨rfl, h⟩ := h
    exact .cons ⟨t, rfl⟩ (intsB_ok h)
  | [], _ :: _, h => by cases h
  | .int _ _ :: _, [], h => by cases h
def rowsB (K : PySem.W.Frag) : List Value → List (List Int) → Bool
  | [], [] => true
  | .ref b :: us, r :: rs => (match tupIn K b with
    | some vs => intsB vs r
    | none => false) && rowsB K us rs
  | _, _ => false
theorem rowsB_ok {K : PySem.W.Frag} : ∀ {us : List Value} {rs : List (List Int)}, rowsB K us rs = true → RowsK K us rs
  | [], [], _ => .nil
  | .ref b :: us, r :: rs, h => by
    unfold rowsB at h
    rw [Bool.and_eq_true] at h
    obtain ⟨h1, h2⟩ := h
    split at h1
    · rename_i vs e
      exact .cons b vs us r rs (tupIn_ok e) (intsB_ok h1) (rowsB_ok h2)
    · cases h1
  | [], _ :: _, h => by cases h
  | .ref _ :: _, [], h => by cases h
def tblB (K : PySem.W.Frag) (x : Str) (rows : List (List Int)) : Bool := match PySem.W.nsIn K mainGlobals x with
  | some (some (.ref a)) => (match tupIn K a with
    | some us => rowsB K us rows
    | none => false)
  | _ => false
def entB (c : Cfg) (K : PySem.W.Frag) (x : Str) : GEnt → Bool
  | .fn i => match c.defs[i]? with
    | some d => He.eqO (PySem.W.nsIn K mainGlobals x) (some (some (.ref (He.fAd K d.at_))))
    | none => false
  | .cls k => match c.cls[k]? with
    | some C => He.eqO (PySem.W.nsIn K mainGlobals x) (some (some (.ref (He.ga K C))))
    | none => false
  | .con (.int i) => (match PySem.W.nsIn K mainGlobals x with
    | some (some (.int j _)) => decide (j = i)
    | _ => false)
  | .con (.str i) => (match PySem.W.nsIn K mainGlobals x with
    | some (some (.str j _)) => decide (j = i)
    | _ => false)
  | .con _ => false
  | .bi _ => He.eqO (PySem.W.nsIn K mainGlobals x) (some none)
  | .free => He.eqO (PySem.W.nsIn K mainGlobals x) (some none)
  | .tbl rows => tblB K x rows
def clB (K : PySem.W.Frag) (C : Cl) (x : Str) : Bool := if C.exk = 1 then (He.Fa.exc x).ok K else true
def xcB (K : PySem.W.Frag) (flds : List Str) (C : Addr) : Bool := xfB K C && ((flds.all fun f => He.eqO (PySem.W.findIn K (.ref C) f) (some none)) && (He.eqO (PySem.W.findIn K (.ref C) "__class__") (some (some (.builtin "object.__class__"))) &&
  (He.eqO (PySem.W.specialIn K (.builtin "object.__class__") "__get__") (some (some (.builtin "getset_descriptor.__get__"))) && (decide (PySem.W.takesIn K (.builtin "object.__class__") = some true) && decide (PySem.W.mroIn K C (.type "object") = some true)))))
theorem xcB_ok {K : PySem.W.Frag} {flds : List Str} {C : Addr} (h : xcB K flds C = true) : XcOk K flds C := by
  unfold xcB at h
  simp only [Bool.and_eq_true, decide_eq_true_eq, List.all_eq_true] at h
  obtain ⟨h1, h2, h3, h4, h5, h6⟩ := h
  exact ⟨xfB_ok h1, fun f hf => He.eqO_ok (h2 f hf), He.eqO_ok h3, He.eqO_ok h4, h5, h6⟩
/-- one class of exceptions against another class -/
def xmB (K : PySem.W.Frag) (C : Addr) (v : Value) (b : Bool) : Bool := decide (PySem.W.exmOne K (.ref C) v = some b) && decide (PySem.W.kitOne K (.ref C) v = some b)
def xB (c : Cfg) (K : PySem.W.Frag) (C : Cl) (x : Str) : Bool := if C.exk = 1 ∨ C.exk = 2 then xcB K c.flds (He.ga K x) && (xmB K (He.ga K x) (.type "ValueError") true && (List.range c.cls.length).all fun d => match c.P.cl[d]?, c.cls[d]? with
  | some D, some y => if 1 ≤ D.exk then xmB K (He.ga K x) (.ref (He.ga K y)) (C.sup.contains d) else true
  | _, _ => true) else true
def exE0 (c : Cfg) (K : PySem.W.Frag) : Bool := (c.ents.all fun q => entB c K q.1 q.2) && ((c.P.cl.zip c.cls).all fun p => clB K p.1 p.2 && xB c K p.1 p.2)
def Cfg.nd (c : Cfg) (K : PySem.W.Frag) : ND := match c.nest with
  | some n => ⟨n.st, n.nm, (n.q0 ++ ".<locals>.") ++ n.nm, n.x, n.N, n.ps, some ((He.cT K n.at_).2, fun _ _ => (n.q0 ++ ".<locals>.") ++ n.nm), [He.cT K n.at_]⟩
  | none => ⟨.Pass ⟨0, 0, 0, 0⟩, "", "", "", [], [], none, []⟩
def Cfg.L (c : Cfg) (K : PySem.W.Frag) (fd : Nat → FuncData) : Lk := ⟨c.T, K, fun k => He.ga K (c.cls.getD k ""), fun i => match c.defs[i]? with
  | some d => He.fAd K d.at_
  | none => 0, fd, fun i => match c.defs[i]? with
  | some d => psOf d
  | none => [], c.nd K⟩
/-! ### the classes of instances, by the text's part of the heap -/
def Cfg.caA (c : Cfg) (K : PySem.W.Frag) (k : Nat) : Addr := He.ga K (c.cls.getD k "")
def Cfg.faA (c : Cfg) (K : PySem.W.Frag) (i : Nat) : Addr := match c.defs[i]? with
  | some d => He.fAd K d.at_
  | none => 0
def insB (flds : List Str) (K : PySem.W.Frag) (x : Str) : Bool := (He.Fa.cls x).ok K && ((flds.all fun f => (He.Fa.noat x f).ok K) && (He.eqO (PySem.W.findIn K (.ref (He.ga K x)) "__class__") (some (some (.builtin "object.__class__"))) &&
  (He.eqO (PySem.W.specialIn K (.builtin "object.__class__") "__get__") (some (some (.builtin "getset_descriptor.__get__"))) && (decide (PySem.W.takesIn K (.builtin "object.__class__") = some true) && decide (PySem.W.mroIn K (He.ga K x) (.type "object") = some true)))))
def iniB (c : Cfg) (K : PySem.W.Frag) (x : Str) (f : Nat) : Bool := (He.Fa.mkr x).ok K && (decide (He.ma K (He.ga K x) "__init__" = c.faA K f) && (decide (f < c.P.fn.length) && (PySem.W.readsIn K (He.ga K x) (.type "type") &&
  (He.eqO (PySem.W.specialIn K (.ref (He.ga K x)) "__getattribute__") (some (some (.builtin "type.__getattribute__"))) && (match PySem.W.findCls K (.ref (He.ga K x)) (.type "type") "__init__" with
  | some (.val (.ref a)) => decide (a = c.faA K f)
  | _ => false)))))
def metB (c : Cfg) (K : PySem.W.Frag) (x : Str) (C : Cl) : Bool := C.meth.all fun q => match c.mths[q.1]? with
  | some m => (He.Fa.meth x m).ok K && (decide (He.ma K (He.ga K x) m = c.faA K q.2) && decide (q.2 < c.P.fn.length))
  | none => true
def tyKs : List String := ["int", "bool", "str", "tuple", "list", "dict", "ValueError"]
def tagKs : List String := ["NoneType", "bool", "int", "str", "list", "tuple", "dict"]
def kinB (c : Cfg) (K : PySem.W.Frag) (x : Str) (C : Cl) : Bool := (tyKs.all fun s => decide (PySem.W.kitOne K (.ref (He.ga K x)) (.type s) = some false)) && (c.tys.all fun d => decide (PySem.W.kitOne K (.ref (He.ga K x)) (.ref (c.caA K d)) = some (C.sup.contains d)))
def kioB (c : Cfg) (K : PySem.W.Frag) : Bool := c.tys.all fun d => tagKs.all fun s => decide (PySem.W.kitOne K (.type s) (.ref (c.caA K d)) = some false)
def icB (c : Cfg) (K : PySem.W.Frag) (k : Nat) (C : Cl) : Bool := match C.init with
  | none => true
  | some f => insB c.flds K (c.cls.getD k "") && (iniB c K (c.cls.getD k "") f && (metB c K (c.cls.getD k "") C && kinB c K (c.cls.getD k "") C))
def icsB (c : Cfg) (K : PySem.W.Frag) : Bool := kioB c K && (List.range c.P.cl.length).all fun k => match c.P.cl[k]? with
  | some C => icB c K k C
  | none => true
/-! ### exceptions with an own __init__ -/
def oxB (K : PySem.W.Frag) (C : Addr) : Bool := match K.lookup C with
  | some ⟨.type "type", _, .cls cd, sl⟩ => (match cd.mro, sl.toList with
    | .ref C' :: bm, [_, _, _, _, some (.builtin n), _] => C' == C && (n == "ValueError.__new__" && (!cd.hasDel && (cd.hasDict && PySem.HandSPX.refsVE bm)))
    | _, _ => false)
  | _ => false
def oexB (K : PySem.W.Frag) (C : Addr) : Bool := oxB K C && (He.eqO (PySem.W.findIn K (.ref C) "__setattr__") (some (some (.builtin "object.__setattr__"))) && (decide (PySem.W.subIn K (.ref C) (.type "BaseException") = some true) && (decide (PySem.W.typeIn K (.ref C) = some (.type "type")) && PySem.W.keepIn K (.ref C))))
theorem oexB_ok {K : PySem.W.Frag} {C : Addr} (h : oexB K C = true) : OexC K C := by
  unfold oexB at h
  simp only [Bool.and_eq_true, decide_eq_true_eq] at h
  obtain ⟨q, h2, h3, h4, h5⟩ := h
  refine ⟨?_, He.eqO_ok h2, h3, h4, h5⟩
  unfold oxB at q
  split at q
  · rename_i dd cd sl ho
    split at q
    · rename_i C' bm k0 k1 k2 k3 n k5 hm hs
      simp only [Bool.and_eq_true, beq_iff_eq, Bool.not_eq_true'] at q
      obtain ⟨rfl, rfl, hdel, hdct, ht⟩ := q
      obtain ⟨nm, bs, mro, ns, qn, hd, sn, sub, ab, col, del⟩ := cd
      dsimp only at hm hdel hdct
      subst hm hdel hdct
      have hsl : sl = #[k0, k1, k2, k3, some (.builtin "ValueError.__new__"), k5] := by
        obtain ⟨l⟩ := sl
        simp only at hs
        rw [hs]
      subst hsl
      exact ⟨nm, qn, ns, bs, bm, sn, sub, ab, col, dd, k0, k1, k2, k3, k5, ho, ht⟩
    · cases q
  · cases q
def xiB (c : Cfg) (K : PySem.W.Frag) (C : Cl) (x : Str) : Bool := if C.exk = 2 then (match C.meth with
  | [(_, f)] => (match c.defs[f]?, c.ns[f]? with
    | some d, some N => oexB K (He.ga K x) && (He.eqO (PySem.W.findIn K (.ref (He.ga K x)) "__init__") (some (some (.ref (He.fAd K d.at_)))) && (decide (PySem.W.typeIn K (.ref (He.fAd K d.at_)) = some (.type "function")) && (decide (C.exf.map (fnmOf c.flds) ≠ []) && (decide ((C.exf.map (fnmOf c.flds)).length ≤ 900) &&
      (decide (C.exf.map (fnmOf c.flds)).Nodup && (xbB ⟨N, d.scope, none, false, none⟩ 1 (C.exf.map (fnmOf c.flds)) d.body && (decide ((psOf d).length = (C.exf.map (fnmOf c.flds)).length + 1) && (decide (f < c.P.fn.length) && (C.exf.map (fnmOf c.flds)).all fun g => He.eqO (PySem.W.findIn K (.ref (He.ga K x)) g) (some none)))))))))
    | _, _ => false)
  | _ => false) else true
def xisB (c : Cfg) (K : PySem.W.Frag) : Bool := (List.range c.P.cl.length).all fun k => match c.P.cl[k]? with
  | some C => xiB c K C (c.cls.getD k "")
  | none => true
def exE (c : Cfg) (K : PySem.W.Frag) : Bool := (exE0 c K && xisB c K) && icsB c K
/-- what the classes must tell -/
structure ClsOk (L : Lk) : Prop where
  ins : ∀ c, L.ic c → InsOk L.K L.T.flds (L.ca c)
  meth : ∀ c C k f m, L.ic c → L.T.P.cl[c]? = some C → look k C.meth = some f → L.T.mths[k]? = some m → Meth L.K (L.ca c) m (L.fa f) ∧ (L.T.P.fn[f]?).isSome = true
  make : ∀ c C f, L.T.P.cl[c]? = some C → C.init = some f → Mk L.K (L.ca c) (L.fa f) ∧ (L.T.P.fn[f]?).isSome = true
  cini : ∀ c C f, L.T.P.cl[c]? = some C → C.init = some f → ClX.CRead L.K (L.ca c) (.type "type") ∧ PySem.W.findCls L.K (.ref (L.ca c)) (.type "type") "__init__" = some (.val (.ref (L.fa f))) ∧ (L.T.P.fn[f]?).isSome = true
  kit : ∀ g t b, tagIn L g → tyIn L t → isTag L.T.P g t = some b → PySem.W.kitOne L.K (tagV L g) (tyW L t) = some b
theorem look_all {α : Type} {l : List (Str × α)} {p : Str → α → Bool} {x : Str} {e : α} (h : (l.all fun q => p q.1 q.2) = true) (hl : l.lookup x = some e) : p x e = true := by
  induction l with
  | nil => cases hl
  | cons q r ih =>
    obtain ⟨y, v⟩ := q
    rw [List.all_cons, Bool.and_eq_true] at h
    simp only [List.lookup] at hl
    cases e1 : x == y with
    | true =>
      have := eq_of_beq e1
      subst this
      rw [e1] at hl
      cases hl
      exact h.1
    | false =>
      rw [e1] at hl
      exact ih h.2 hl
section
variable {c : Cfg} {K : PySem.W.Frag} {fd : Nat → FuncData}
/-- the defs as they stand -/
def Says (c : Cfg) (K : PySem.W.Frag) (fd : Nat → FuncData) : Prop := ∀ i d, c.defs[i]? = some d → FunD K d.name d.qual d.params d.body d.scope (d.dvs K) (d.kws K) (He.fAd K d.at_) (fd i)
theorem look_mem {α : Type} {k : Nat} {v : α} : ∀ {l : List (Nat × α)}, look k l = some v → (k, v) ∈ l
  | [], h => by cases h
  | (j, u) :: r, h => by
    unfold look at h
    split at h
    · rename_i e
      cases h
      rw [e]; exact List.mem_cons_self
    · exact List.mem_cons_of_mem _ (look_mem h)
theorem cls_of (ex : exE c K = true) : ClsOk (c.L K fd) := by
  obtain ⟨_, ex⟩ := Bool.and_eq_true_iff.mp ex
  obtain ⟨hk, ex⟩ := Bool.and_eq_true_iff.mp ex
  have at_ : ∀ {k : Nat} {C : Cl} {f : Nat}, c.P.cl[k]? = some C → C.init = some f → insB c.flds K (c.cls.getD k "") = true ∧ iniB c K (c.cls.getD k "") f = true ∧ metB c K (c.cls.getD k "") C = true ∧ kinB c K (c.cls.getD k "") C = true := fun {k C f} hC hf => by
    have := List.all_eq_true.mp ex k (List.mem_range.mpr (List.getElem?_eq_some_iff.mp hC).1)
    rw [hC] at this
    have this : icB c K k C = true := this
    unfold icB at this
    rw [hf] at this
    simp only [Bool.and_eq_true] at this
    exact this
  have isf : ∀ {f : Nat}, f < c.P.fn.length → (c.P.fn[f]?).isSome = true := fun h => by rw [List.getElem?_eq_getElem h]; rfl
  refine ⟨fun k ⟨C, hC, hi⟩ => ?_, fun k C m f x ⟨C', hC', hi⟩ hC hl hm => ?_, fun k C f hC hf => ?_, fun k C f hC hf => ?_, fun g t b hg ht hb => ?_⟩
  · obtain ⟨f, hf⟩ := Option.isSome_iff_exists.mp hi
    obtain ⟨h, _⟩ := at_ hC hf
    unfold insB at h
    simp only [Bool.and_eq_true, decide_eq_true_eq, List.all_eq_true] at h
    obtain ⟨h1, h2, h3, h4, h5, h6⟩ := h
    exact ⟨He.cls_ok h1, fun f hf => He.noat_ok (h2 f hf), He.eqO_ok h3, He.eqO_ok h4, h5, h6⟩
  · obtain ⟨f0, hf0⟩ := Option.isSome_iff_exists.mp hi
    obtain ⟨_, _, h, _⟩ := at_ hC' hf0
    have hC'' : c.P.cl[k]? = some C := hC
    rw [show c.P.cl[k]? = some C' from hC'] at hC''
    cases hC''
    have := List.all_eq_true.mp h (m, f) (look_mem hl)
    rw [show c.mths[m]? = some x from hm] at this
    simp only [Bool.and_eq_true, decide_eq_true_eq] at this
    obtain ⟨h1, h2, h3⟩ := this
    have M := He.meth_ok h1
    rw [h2] at M
    exact ⟨M, isf h3⟩
  · obtain ⟨_, h, _⟩ := at_ hC hf
    unfold iniB at h
    simp only [Bool.and_eq_true, decide_eq_true_eq] at h
    obtain ⟨h1, h2, h3, _⟩ := h
    have M := He.mkr_ok h1
    rw [h2] at M
    exact ⟨M, isf h3⟩
  · obtain ⟨_, h, _⟩ := at_ hC hf
    unfold iniB at h
    simp only [Bool.and_eq_true, decide_eq_true_eq] at h
    obtain ⟨_, _, h3, h4, h5, h6⟩ := h
    refine ⟨⟨h4, He.eqO_ok h5⟩, ?_, isf h3⟩
    split at h6
    · rename_i a e
      rw [of_decide_eq_true h6] at e
      exact e
    · cases h6
  · cases g with
    | exc _ => exact hg.elim
    | ins k =>
      obtain ⟨C, hC, hi⟩ := hg
      obtain ⟨f, hf⟩ := Option.isSome_iff_exists.mp hi
      obtain ⟨_, _, _, h⟩ := at_ hC hf
      unfold kinB at h
      simp only [Bool.and_eq_true, decide_eq_true_eq, List.all_eq_true] at h
      obtain ⟨h1, h2⟩ := h
      cases t with
      | own d =>
        have hd : d ∈ c.tys := by
          have ht : c.tys.contains d = true := ht
          simpa using ht
        have hb : (c.P.cl[k]?.map fun C => C.sup.contains d) = some b := hb
        rw [show c.P.cl[k]? = some C from hC] at hb
        cases hb
        exact h2 d hd
      | int => cases hb; exact h1 "int" (by decide)
      | bool => cases hb; exact h1 "bool" (by decide)
      | str => cases hb; exact h1 "str" (by decide)
      | tuple => cases hb; exact h1 "tuple" (by decide)
      | list => cases hb; exact h1 "list" (by decide)
      | dict => cases hb; exact h1 "dict" (by decide)
      | ve => cases hb; exact h1 "ValueError" (by decide)
    | _ =>
      have own : ∀ d, c.tys.contains d = true → ∀ s ∈ tagKs, PySem.W.kitOne K (.type s) (.ref (c.caA K d)) = some false := fun d hd s hs => by
        have hd : d ∈ c.tys := by simpa using hd
        exact of_decide_eq_true (List.all_eq_true.mp (List.all_eq_true.mp hk d hd) s hs)
      cases t with
      | own d => cases hb; exact own d ht _ (by decide)
      | _ => cases hb; exact kit_ty (by decide +kernel)
theorem zip_at {i : Nat} {d : He.DefD} {F : Fn} (hd : c.defs[i]? = some d) (hF : c.P.fn[i]? = some F) (ok : c.Ok) : ∃ N, c.ns[i]? = some N ∧ defB d F N = true := by
  have hi : i < c.ns.length := by rw [ok.len2]; exact (List.getElem?_eq_some_iff.mp hF).1
  refine ⟨_, List.getElem?_eq_getElem hi, ?_⟩
  have : (c.defs.zip (c.P.fn.zip c.ns))[i]? = some (d, F, c.ns[i]) := by
    rw [List.getElem?_zip_eq_some]
    exact ⟨hd, by rw [List.getElem?_zip_eq_some]; exact ⟨hF, List.getElem?_eq_getElem hi⟩⟩
  exact List.all_eq_true.mp ok.defs (d, F, c.ns[i]) (List.mem_of_getElem? this)
theorem def_at {i : Nat} {F : Fn} (hF : c.P.fn[i]? = some F) (ok : c.Ok) : ∃ d N, c.defs[i]? = some d ∧ c.ns[i]? = some N ∧ defB d F N = true := by
  have hi : i < c.defs.length := by rw [ok.len]; exact (List.getElem?_eq_some_iff.mp hF).1
  obtain ⟨N, h1, h2⟩ := zip_at (List.getElem?_eq_getElem hi) hF ok
  exact ⟨_, N, List.getElem?_eq_getElem hi, h1, h2⟩
theorem dv_rel {g : G} {H : Hp} {ι : List Addr} {K : PySem.W.Frag} : ∀ {ds : List He.Dv}, ds.all dvOk = true → RVs g H ι (ds.map dvPV) (ds.map (He.Dv.v K))
  | [], _ => rfl
  | d :: ds, h => by
    rw [List.all_cons, Bool.and_eq_true] at h
    refine ⟨_, _, rfl, ?_, dv_rel h.2⟩
    cases d <;> first | rfl | cases h.1
theorem bind_of {i : Nat} {d : He.DefD} {F : Fn} {N : List Str} (hd : c.defs[i]? = some d) (hF : c.P.fn[i]? = some F) (hb : defB d F N = true) (D : FunD K d.name d.qual d.params d.body d.scope (d.dvs K) (d.kws K) (He.fAd K d.at_) (fd i)) (n j : Nat) (hn : n + (d.dfl.length - j) = (psOf d).length) :
    ∃ dvs ds, Vals dvs ds ∧ L2.Binds K (fd i) (psOf d) ds ∧ dvs = (d.dvs K).drop j := by
  unfold defB at hb
  simp only [Bool.and_eq_true, decide_eq_true_eq, List.isEmpty_iff, Option.isNone_iff_eq_none] at hb
  obtain ⟨h1, h2, h3, h4, hs, h5, h6, h7, h8, h9⟩ := hb
  have nd : (d.params.args.map (·.arg)).Nodup := by
    unfold scB at hs
    simp only [Bool.and_eq_true, decide_eq_true_eq] at hs
    obtain ⟨_, _, _, g1, g2, _⟩ := hs
    have : psOf d = d.params.args.map (·.arg) := rfl
    rw [← this, ← g2]
    exact g1.sublist (List.take_sublist _ _)
  have pl : (psOf d).length = d.params.args.length := by unfold psOf; simp
  have dl : (d.dvs K).length = d.dfl.length := by unfold He.DefD.dvs; simp
  cases hd0 : d.dfl with
  | nil =>
    have e0 : d.dvs K = [] := by unfold He.DefD.dvs; rw [hd0]; rfl
    rw [e0] at D ⊢
    refine ⟨[], [], .nil, ?_, by simp⟩
    refine FunD.bindsN D fun kV doc pm an cdv ct us hl => ?_
    obtain ⟨k, e1, e2⟩ := bind_plain (fd := PySem.W.fnOf d.name d.qual d.params d.body d.scope .none kV doc pm an cdv ct) (us := us) h1 h2 h3 h4 nd (by rw [hl, pl]; exact Nat.le_refl _)
    have e3 := e2 none (Nat.zero_le _) (by show d.params.args.length - 0 ≤ us.length; rw [hl, pl]; omega)
    rw [e1]
    show seqItems? .none >>= k = _
    rw [show seqItems? .none = pure none from rfl, pure_bind, e3]
    have : ((none : Option (Array Value)).getD #[]).toList = [] := rfl
    rw [this, List.drop_nil, List.append_nil]
    rfl
  | cons q qs =>
    have ne : d.dvs K ≠ [] := by unfold He.DefD.dvs; rw [hd0]; simp
    have hl0 : d.dfl.length = (q :: qs).length := by rw [hd0]
    rw [← hd0] at *
    obtain ⟨ds, hv, hbd⟩ := FunD.binds1 (ps := psOf d) D n j ne (by rw [dl]; exact hn) (fun T kV doc pm an cdv ct us its hu hi => by
      obtain ⟨k, e1, e2⟩ := bind_plain (fd := PySem.W.fnOf d.name d.qual d.params d.body d.scope (.ref T) kV doc pm an cdv ct) (us := us) h1 h2 h3 h4 nd (by rw [hu, ← pl]; omega)
      refine ⟨k, e1, ?_⟩
      have hi' : its.length = d.dfl.length := by rw [hi, dl]
      have e3 := e2 (some its.toArray) (by show its.length ≤ _; rw [hi']; exact h7) (by show d.params.args.length - its.length ≤ us.length; rw [hi', hu, ← pl]; omega)
      rw [e3]
      have e4 : ((some its.toArray).getD #[]).toList = its := rfl
      rw [e4]
      show pure ((psOf d).zip _) = _
      by_cases hj : j ≤ d.dfl.length
      · have : us.length - (d.params.args.length - its.length) = j := by rw [hu, hi', ← pl]; omega
        rw [this]
      · have z1 : its.drop j = [] := List.drop_eq_nil_of_le (by omega)
        have z2 : its.drop (us.length - (d.params.args.length - its.length)) = [] := List.drop_eq_nil_of_le (by rw [hu, hi', ← pl]; omega)
        rw [z1, z2])
    exact ⟨_, ds, hv, hbd, rfl⟩
theorem xb_at (ok : c.Ok) (ex : exE0 c K = true) {k : Nat} {C : Cl} (hC : c.P.cl[k]? = some C) : ∃ hi : k < c.cls.length, (c.L K fd).ca k = He.ga K c.cls[k] ∧ xB c K C c.cls[k] = true := by
  have hi : k < c.cls.length := by rw [ok.len3]; exact (List.getElem?_eq_some_iff.mp hC).1
  have hz : (c.P.cl.zip c.cls)[k]? = some (C, c.cls[k]) := by rw [List.getElem?_zip_eq_some]; exact ⟨hC, List.getElem?_eq_getElem hi⟩
  refine ⟨hi, ?_, (Bool.and_eq_true_iff.mp (List.all_eq_true.mp (Bool.and_eq_true_iff.mp ex).2 (C, c.cls[k]) (List.mem_of_getElem? hz))).2⟩
  show He.ga K (c.cls.getD k "") = _
  rw [List.getD_eq_getElem?_getD, List.getElem?_eq_getElem hi]; rfl
theorem lok_of {mg : Str → Option Value} {h : Heap} (ok : c.Ok) (X : K.In h) (G : h.Ns mainGlobals mg) (ex : exE0 c K = true) (xs : xisB c K = true) (sy : Says c K fd) (cl : ClsOk (c.L K fd)) : LOk (c.L K fd) mg where
  fl := ok.fl
  ents := fun x e hl => by
    have hs := look_all ok.ents hl
    have hb := look_all (Bool.and_eq_true_iff.mp ex).1 hl
    cases e with
    | fn i =>
      have hi : i < c.P.fn.length := of_decide_eq_true hs
      cases e1 : c.defs[i]? with
      | none =>
        rw [List.getElem?_eq_none_iff, ok.len] at e1
        omega
      | some d =>
        unfold entB at hb
        dsimp only at hb
        rw [e1] at hb
        have hm := PySem.W.mg_of X G (He.eqO_ok hb)
        refine .fn i ?_ (by show (c.P.fn[i]?).isSome = true; rw [List.getElem?_eq_getElem hi]; rfl)
        rw [hm]
        show _ = some (Value.ref (match c.defs[i]? with | some d => He.fAd K d.at_ | none => 0))
        rw [e1]
    | cls k =>
      have hi : k < c.P.cl.length := of_decide_eq_true hs
      unfold entB at hb
      dsimp only at hb
      cases e1 : c.cls[k]? with
      | none => rw [e1] at hb; cases hb
      | some C =>
        rw [e1] at hb
        have hm := PySem.W.mg_of X G (He.eqO_ok hb)
        refine .cls k ?_ (by show (c.P.cl[k]?).isSome = true; rw [List.getElem?_eq_getElem hi]; rfl)
        rw [hm]
        show _ = some (Value.ref (He.ga K (c.cls.getD k "")))
        rw [List.getD_eq_getElem?_getD, e1]
        rfl
    | con v =>
      cases v with
      | int i =>
        unfold entB at hb
        cases e1 : PySem.W.nsIn K mainGlobals x with
        | none => rw [e1] at hb; cases hb
        | some o =>
          cases o with
          | none => rw [e1] at hb; cases hb
          | some u =>
            cases u with
            | int j t =>
              rw [e1] at hb
              have : j = i := of_decide_eq_true hb
              subst this
              exact .con _ _ (.int j) (PySem.W.mg_of X G e1) ⟨t, rfl⟩ fun H ι => rfl
            | _ => rw [e1] at hb; cases hb
      | str i =>
        unfold entB at hb
        cases e1 : PySem.W.nsIn K mainGlobals x with
        | none => rw [e1] at hb; cases hb
        | some o =>
          cases o with
          | none => rw [e1] at hb; cases hb
          | some u =>
            cases u with
            | str j t =>
              rw [e1] at hb
              have : j = i := of_decide_eq_true hb
              subst this
              exact .con _ _ (.str j) (PySem.W.mg_of X G e1) ⟨t, rfl⟩ fun H ι => rfl
            | _ => rw [e1] at hb; cases hb
      | _ => cases hs
    | bi b =>
      have hs : (decide (bootBuiltins x = some (biF b)) && decide (x ≠ "__name__")) = true := hs
      rw [Bool.and_eq_true, decide_eq_true_eq, decide_eq_true_eq] at hs
      exact .bi b (PySem.W.mg_none_of X G (He.eqO_ok hb)) hs.1 hs.2
    | free => exact .free (PySem.W.mg_none_of X G (He.eqO_ok hb)) (of_decide_eq_true hs)
    | tbl rows =>
      have hb : tblB K x rows = true := hb
      unfold tblB at hb
      split at hb
      · rename_i a e1
        split at hb
        · rename_i us e2
          exact .tbl rows a us (PySem.W.mg_of X G e1) (tupIn_ok e2) (rowsB_ok hb)
        · cases hb
      · cases hb
  ins := cl.ins
  meth := cl.meth
  make := cl.make
  cini := cl.cini
  exc := fun k C hC h1 => by
    have hC : c.P.cl[k]? = some C := hC
    have hi : k < c.cls.length := by rw [ok.len3]; exact (List.getElem?_eq_some_iff.mp hC).1
    have hz : (c.P.cl.zip c.cls)[k]? = some (C, c.cls[k]) := by rw [List.getElem?_zip_eq_some]; exact ⟨hC, List.getElem?_eq_getElem hi⟩
    have hb : clB K C c.cls[k] = true := (Bool.and_eq_true_iff.mp (List.all_eq_true.mp (Bool.and_eq_true_iff.mp ex).2 (C, c.cls[k]) (List.mem_of_getElem? hz))).1
    unfold clB at hb
    rw [if_pos h1] at hb
    have e : (c.L K fd).ca k = He.ga K c.cls[k] := by
      show He.ga K (c.cls.getD k "") = _
      rw [List.getD_eq_getElem?_getD, List.getElem?_eq_getElem hi]; rfl
    rw [e]
    exact He.exc_ok hb
  xi := fun k C hC h1 => by
    have hC : c.P.cl[k]? = some C := hC
    have hk : k < c.P.cl.length := (List.getElem?_eq_some_iff.mp hC).1
    have hb := List.all_eq_true.mp xs k (List.mem_range.mpr hk)
    rw [hC] at hb
    dsimp only at hb
    unfold xiB at hb
    rw [if_pos h1] at hb
    split at hb
    rotate_left
    · cases hb
    rename_i j f hm
    split at hb
    rotate_left
    · cases hb
    rename_i d N hd hN
    simp only [Bool.and_eq_true, decide_eq_true_eq, List.all_eq_true] at hb
    obtain ⟨b1, b2, b3, b4, b5, b6, b7, b8, b9, b10⟩ := hb
    have T := oexB_ok b1
    obtain ⟨F, hF⟩ : ∃ F, c.P.fn[f]? = some F := ⟨_, List.getElem?_eq_getElem b9⟩
    obtain ⟨d', N', hd', hN', hdb⟩ := def_at hF ok
    rw [hd] at hd'; cases hd'
    rw [hN] at hN'; cases hN'
    have hb' := hdb
    unfold defB at hb'
    simp only [Bool.and_eq_true, decide_eq_true_eq, List.isEmpty_iff, Option.isNone_iff_eq_none] at hb'
    obtain ⟨_, _, _, _, hs, h5, h6, h7, h8, _⟩ := hb'
    obtain ⟨oc, od, dV, kV, doc, pm, an, cdv, ct, osl, e, lk, hcd, _, _⟩ := (sy f d hd).ex
    unfold scB at hs
    simp only [Bool.and_eq_true, decide_eq_true_eq, List.all_eq_true, Bool.or_eq_true] at hs
    obtain ⟨s1, s2, s3, s4, s5, s6, s7⟩ := hs
    have k1 : d.scope.kind = .function := by
      cases hk : d.scope.kind <;> first | rfl | (rw [hk] at s1; cases s1)
    obtain ⟨dvs, ds, hv, hbd, rfl⟩ := bind_of hd hF hdb (sy f d hd) (psOf d).length d.dfl.length (by omega)
    have z : (d.dvs K).drop d.dfl.length = [] := List.drop_eq_nil_of_le (by unfold He.DefD.dvs; simp)
    rw [z] at hv
    cases hv
    refine ⟨T, b4, b5, b6, He.fAd K d.at_, fd f, psOf d, He.eqO_ok b2, b3, hbd, fun P w mg base => ?_⟩
    have lk' := lk
    rw [e] at lk'
    rw [e]
    exact xi_fn lk' hcd ⟨k1, bnot s2, bnot s3, s4, s5, fun x hx => s6 x hx, fun y hy => s7 y hy⟩ T (fun g hg => He.eqO_ok (b10 g hg)) b7 b4 b5 b8
  xc := fun k ⟨C, hC, h1⟩ => by
    obtain ⟨hi, e, hb⟩ := xb_at ok ex (fd := fd) hC
    unfold xB at hb
    rw [if_pos h1, Bool.and_eq_true] at hb
    rw [e]
    exact xcB_ok hb.1
  xm := fun k t b ⟨C, hC, h1⟩ ht hb0 => by
    obtain ⟨hi, e, hb⟩ := xb_at ok ex (fd := fd) hC
    unfold xB at hb
    rw [if_pos h1, Bool.and_eq_true, Bool.and_eq_true] at hb
    obtain ⟨_, hv, hd⟩ := hb
    have fin : ∀ {v : Value} {b : Bool}, xmB K (He.ga K c.cls[k]) v b = true → PySem.W.exmOne K (.ref ((c.L K fd).ca k)) v = some b ∧ PySem.W.kitOne K (.ref ((c.L K fd).ca k)) v = some b := fun {v b} h => by
      unfold xmB at h
      rw [Bool.and_eq_true, decide_eq_true_eq, decide_eq_true_eq] at h
      rw [e]
      exact h
    cases t with
    | ve =>
      have : some true = some b := hb0
      cases this
      exact fin hv
    | own d =>
      have ht : (match c.P.cl[d]? with | some C => decide (1 ≤ C.exk) | none => false) = true := ht
      cases hD : c.P.cl[d]? with
      | none => rw [hD] at ht; cases ht
      | some D =>
        rw [hD] at ht
        have hD1 : 1 ≤ D.exk := of_decide_eq_true ht
        have hdi : d < c.cls.length := by rw [ok.len3]; exact (List.getElem?_eq_some_iff.mp hD).1
        have hb1 : some (C.sup.contains d) = some b := by
          rw [← hb0]
          show _ = (c.P.cl[k]?).map fun C => C.sup.contains d
          rw [show c.P.cl[k]? = some C from hC]; rfl
        cases hb1
        have := List.all_eq_true.mp hd d (List.mem_range.mpr hdi)
        rw [hD, List.getElem?_eq_getElem hdi] at this
        dsimp only at this
        rw [if_pos hD1] at this
        have q := fin this
        have e2 : tyW (c.L K fd) (.own d) = .ref (He.ga K c.cls[d]) := by
          show Value.ref (He.ga K (c.cls.getD d "")) = _
          rw [List.getD_eq_getElem?_getD, List.getElem?_eq_getElem hdi]; rfl
        rw [e2]
        exact q
    | _ => cases ht
  keep := fun i F hF => by
    obtain ⟨d, N, hd, _, _⟩ := def_at hF ok
    show PySem.W.keepIn K (.ref (match c.defs[i]? with | some d => He.fAd K d.at_ | none => 0)) = true
    rw [hd]
    exact (sy i d hd).kp
  bind := fun i F k es hF hf => by
    obtain ⟨d, N, hd, hN, hb⟩ := def_at hF ok
    have hb' := hb
    unfold defB at hb'
    simp only [Bool.and_eq_true, decide_eq_true_eq, List.isEmpty_iff, Option.isNone_iff_eq_none] at hb'
    obtain ⟨_, _, _, _, _, h5, _, h7, h8, _⟩ := hb'
    unfold fill at hf
    rw [show (c.L K fd).T.P.fn[i]? = some F from hF] at hf
    have e1 : (c.L K fd).T.dfl[i]? = some (d.dfl.map dvPV) := by
      show (c.defs.map fun d => d.dfl.map dvPV)[i]? = _
      rw [List.getElem?_map, hd]; rfl
    rw [e1] at hf
    dsimp only at hf
    obtain ⟨⟨g1, g2⟩, hf⟩ := oif hf
    cases hf
    rw [List.length_map] at g2
    obtain ⟨dvs, ds, hv, hbd, rfl⟩ := bind_of hd hF hb (sy i d hd) k (d.dfl.length - (F.np - k)) (by rw [← h5]; omega)
    refine ⟨_, ds, hv, ?_, (d.dfl.map dvPV).drop ((d.dfl.map dvPV).length - (F.np - k)), by rw [List.map_drop], fun H ι => ?_⟩
    · show L2.Binds K (fd i) (match c.defs[i]? with | some d => psOf d | none => []) ds
      rw [hd]
      exact hbd
    · rw [List.length_map]
      exact (dv_rel h8).drop _
  bind0 := fun i F hF => by
    obtain ⟨d, N, hd, hN, hb⟩ := def_at hF ok
    have hb' := hb
    unfold defB at hb'
    simp only [Bool.and_eq_true, decide_eq_true_eq, List.isEmpty_iff, Option.isNone_iff_eq_none] at hb'
    obtain ⟨_, _, _, _, _, h5, _, h7, h8, _⟩ := hb'
    have e1 : (c.L K fd).ps i = psOf d := by
      show (match c.defs[i]? with | some d => psOf d | none => []) = _
      rw [hd]
    obtain ⟨dvs, ds, hv, hbd, rfl⟩ := bind_of hd hF hb (sy i d hd) (psOf d).length d.dfl.length (by omega)
    have : (d.dvs K).drop d.dfl.length = [] := List.drop_eq_nil_of_le (by unfold He.DefD.dvs; simp)
    rw [this] at hv
    cases hv
    rw [e1]
    exact ⟨hbd, h5.symm⟩
  kit := cl.kit
  nfp := fun F hF => by
    have hF : (c.P.fn ++ c.P.nf)[c.P.fn.length]? = some F := hF
    rw [List.getElem?_append_right (Nat.le_refl _), Nat.sub_self] at hF
    cases hn : c.nest with
    | none => rw [ok.nf0 hn] at hF; cases hF
    | some n =>
      obtain ⟨F', m, h1, h2, _⟩ := (ok.nst n hn).ex
      rw [h1] at hF
      cases hF
      show _ = (c.nd K).ps.length + 1
      unfold Cfg.nd
      rw [hn]
      exact h2
theorem nest_of (ok : c.Ok) : (c.L K fd).T.P.nf ≠ [] → NestDef (c.L K fd) := fun hnf => by
  cases hn : c.nest with
  | none => exact absurd (ok.nf0 hn) hnf
  | some n =>
    have o := ok.nst n hn
    have en : (c.L K fd).nd = ⟨n.st, n.nm, (n.q0 ++ ".<locals>.") ++ n.nm, n.x, n.N, n.ps, some ((He.cT K n.at_).2, fun _ _ => (n.q0 ++ ".<locals>.") ++ n.nm), [He.cT K n.at_]⟩ := by
      show c.nd K = _
      unfold Cfg.nd
      rw [hn]
    refine ⟨by rw [en]; exact o.ex, by rw [en]; exact nscope_by o.S, fun cl c' doc pm ctv us hu => ?_⟩
    have eF : (c.L K fd).g.nF cl c' = NF.of n.st n.nm ((n.q0 ++ ".<locals>.") ++ n.nm) cl c' := by
      show NF.of (c.L K fd).nd.st (c.L K fd).nd.nm (c.L K fd).nd.q cl c' = _
      rw [en]
    rw [eF]
    rw [en] at hu ⊢
    have hu : us.length = n.ps.length := hu
    have lp : (C8.fnArgs n.st).args.length = n.ps.length := by rw [← o.ar, List.length_map]
    have nd : ((C8.fnArgs n.st).args.map (·.arg)).Nodup := by
      rw [o.ar]
      have S := nscope_by o.S
      have h1 := S.nd.sublist (List.take_sublist (n.ps.length + [n.x].length) n.N)
      rw [S.pre] at h1
      exact h1.sublist (List.sublist_append_left _ _)
    obtain ⟨k, e1, e2⟩ := bind_plain (fd := (NF.of n.st n.nm ((n.q0 ++ ".<locals>.") ++ n.nm) cl c').fd doc pm ctv) (us := us) o.po o.ko o.va o.kw nd (by show us.length ≤ (C8.fnArgs n.st).args.length; omega)
    have e3 := e2 none (Nat.zero_le _) (by show (C8.fnArgs n.st).args.length - 0 ≤ us.length; omega)
    rw [e1]
    show seqItems? .none >>= k = _
    rw [show seqItems? .none = pure none from rfl, pure_bind, e3]
    have z : ((none : Option (Array Value)).getD #[]).toList = [] := rfl
    rw [z, List.drop_nil, List.append_nil]
    show pure (((C8.fnArgs n.st).args.map (·.arg)).zip us) = _
    rw [o.ar]
theorem defs_of (ok : c.Ok) (sy : Says c K fd) : ∀ i F, (c.L K fd).T.P.fn[i]? = some F → DefOk (c.L K fd) i F ∨ CloDef (c.L K fd) i F := by
  intro i F hF
  have hF : c.P.fn[i]? = some F := hF
  obtain ⟨d, N, hd, hN, hb⟩ := def_at hF ok
  unfold defB at hb
  simp only [Bool.and_eq_true, decide_eq_true_eq, List.isEmpty_iff, Option.isNone_iff_eq_none] at hb
  obtain ⟨_, _, _, _, hs, h5, h6, h7, h8, _⟩ := hb
  obtain ⟨oc, od, dV, kV, doc, pm, an, cdv, ct, osl, e, lk, hcd, _, _⟩ := (sy i d hd).ex
  have e1 : (c.L K fd).ps i = psOf d := by
    show (match c.defs[i]? with | some d => psOf d | none => []) = _
    rw [hd]
  have e2 : (c.L K fd).fa i = He.fAd K d.at_ := by
    show (match c.defs[i]? with | some d => He.fAd K d.at_ | none => 0) = _
    rw [hd]
  obtain ⟨m, tr⟩ := ok.tr
  have trd : c.trD m ((d, N), i) = some F.body := by
    have : ((c.defs.zip c.ns).zipIdx.map fun p => c.trD m p)[i]? = (c.P.fn.map fun F => some F.body)[i]? := by rw [tr]
    rw [List.getElem?_map, List.getElem?_map, hF, List.getElem?_zipIdx, show (c.defs.zip c.ns)[i]? = some (d, N) by rw [List.getElem?_zip_eq_some]; exact ⟨hd, hN⟩] at this
    have e0 := Option.some.inj this
    rw [Nat.zero_add] at e0
    exact e0
  unfold scB at hs
  simp only [Bool.and_eq_true, decide_eq_true_eq, List.all_eq_true, Bool.or_eq_true] at hs
  obtain ⟨s1, s2, s3, s4, s5, s6, s7⟩ := hs
  have k1 : d.scope.kind = .function := by
    cases hk : d.scope.kind <;> first | rfl | (rw [hk] at s1; cases s1)
  have lk2 : (c.L K fd).K.lookup ((c.L K fd).fa i) = some ⟨oc, od, .func (fd i), osl⟩ := by rw [e2]; exact lk
  have Sc : FnScope N (psOf d) d.scope := ⟨k1, bnot s2, bnot s3, s4, s5, fun x hx => s6 x hx, fun y hy => s7 y hy⟩
  cases hm : c.mkAt i with
  | false =>
    have tr' : trSs c.T m ⟨N, d.scope, none, false, none⟩ d.body = some F.body := by
      unfold Cfg.trD at trd
      rw [hm, if_neg (by simp)] at trd
      exact trd
    refine .inl ⟨oc, od, d.name, d.qual, d.params, d.body, d.scope, dV, kV, doc, pm, cdv, ct, an, osl, N, m, ?_, e, hcd, ?_, ?_, h6, tr'⟩
    · rw [← e]; exact lk2
    · rw [e1]
      exact Sc
    · rw [e1]; exact h5
  | true =>
    have hb : F.body = [.ret (.clo (.var 0))] := by
      unfold Cfg.trD at trd
      rw [hm, if_pos rfl] at trd
      exact (Option.some.inj trd).symm
    unfold Cfg.mkAt at hm
    cases hn : c.nest with
    | none => rw [hn] at hm; cases hm
    | some n =>
      rw [hn] at hm
      have hm := of_decide_eq_true hm
      subst hm
      have o := ok.nst n hn
      obtain ⟨dd, p2, pos, pos2, q1, q2, q3, q4, q5, q6, q7, q8, q9⟩ := o.def_
      rw [hd] at q1; cases q1
      rw [hN] at q5; cases q5
      have en : (c.L K fd).nd = ⟨n.st, n.nm, (n.q0 ++ ".<locals>.") ++ n.nm, n.x, n.N, n.ps, some ((He.cT K n.at_).2, fun _ _ => (n.q0 ++ ".<locals>.") ++ n.nm), [He.cT K n.at_]⟩ := by
        show c.nd K = _
        unfold Cfg.nd
        rw [hn]
      obtain ⟨cd, rfl⟩ := He.codeIn_ref hcd
      have ec : He.codeOf K n.at_ = cd := by
        rw [← q2]
        exact He.codeOf_eq lk (by rw [e])
      have ect : He.cT K n.at_ = (cd, He.tabOf K cd) := by
        unfold He.cT
        rw [ec]
      refine .inr ⟨hb, by rw [h5, q4]; rfl, h6, by rw [e1, q4, en], ?_, by rw [en]; exact o.fr, by rw [en]; exact o.d0, by rw [en]; exact o.k0, by rw [en]; exact o.an, by rw [en]; exact o.g1, by rw [en]; exact o.g2⟩
      refine ⟨oc, od, d.name, d.qual, d.params, d.body, d.scope, dV, kV, doc, pm, ct, an, osl, cd, He.tabOf K cd, p2, pos, pos2, by rw [← e]; exact lk2, e, hcd, ?_, ?_, ?_, ?_, ?_, ?_, ?_, ?_⟩
      · rw [en]
        rw [q4] at Sc
        exact Sc
      · rw [en]; exact q6
      · rw [en]; exact q7
      · rw [en, ect]; simp
      · rw [en, ect]
      · rw [en, q3]
      · rw [en]; exact q8
      · rw [en]; exact q9
end
/-! ### the Hook: with the table of the interpreter's own statics -/
abbrev AlY : Type := He.AlD × Bool
/-- what the head tells -/
structure SaysZ (fn : List He.DefD) (tf : List He.Defn) (ex : PySem.W.Frag → Bool) (h : Heap) (K : PySem.W.Frag) : Prop where
  d : He.SaysD [] fn K
  ex : ex K = true
  hd : ∀ p ∈ tf, PySem.W.codeHdIn K (He.cT K p).1 (He.cT K p).2 = true
  out : ∀ p ∈ tf, K.lookup (He.cT K p).2 = none
  empty : ∀ p ∈ tf, h.get? (He.cT K p).2 = some { cls := .none, data := .fields #[] }
/-! ### the end -/
theorem cx_end {P : Program} {w : World} (H : Hp) (s : Shared) (e : Value) (s' : Shared) (h : L2.CX P w [] H s (fun _ _ _ => False) e s') : False := by
  obtain ⟨_, _, _, _, _, _, _, _, _, _, _, _, h⟩ := h
  exact h
/-- the script in the store -/
theorem script_rm {g : G} {H : Hp} {a : Addr} {ns : List Int} (hT : ∀ p, g.tb = some p → H p.1 = some (.tbl #[])) (hS : SqL g.K H a (ns.map V.int)) : ∃ S0 : Store, S0.length = 1 ∧ listAt S0 (.loc 0) = some (ns.map .int) ∧ RM g H [a] S0 := by
  have one : ∀ c : Cell, RC g H [a] a c → RM g H [a] [c] := fun c rc => by
    refine ⟨rfl, fun n d e => ?_, fun n m b d d' nm e1 e2 e3 e4 => ?_, fun p hp => TabN.nil (hT p hp)⟩
    · cases n with
      | succ n => cases e
      | zero => cases e; exact ⟨a, rfl, rc⟩
    · cases n with
      | succ n => cases e3
      | zero =>
        cases m with
        | zero => exact absurd rfl nm
        | succ m => cases e4
  rcases hS with (hS | ⟨o, hS⟩) | hS
  · exact ⟨[.lst (ns.map .int)], rfl, rfl, one _ ⟨_, hS, RVs.of_ints ns⟩⟩
  · exact ⟨[.frz (ns.map .int)], rfl, rfl, one _ ⟨_, .inl ⟨o, hS⟩, RVs.of_ints ns⟩⟩
  · exact ⟨[.frz (ns.map .int)], rfl, rfl, one _ ⟨_, .inr hS, RVs.of_ints ns⟩⟩
/-- the tables' defs -/
def Cfg.tf (c : Cfg) : List He.Defn := match c.nest with
  | some n => [n.at_]
  | none => []
theorem law_F {l : PySem.W.OpenLaw} {c : Cfg} {n i : Nat} {d : He.DefD} {F : Fn} {x : Str} (ok : c.Ok) (hF : c.P.fn[i]? = some F) (hd : c.defs[i]? = some d) (hx : psOf d = [x]) (hent : c.ents.lookup d.name = some (.fn i)) (hdfl : d.dfl = [])
    (hl : ∀ ns : List Int, ns.length ≤ 63 → (∀ z ∈ ns, Builtin.Int.intBits z ≤ 1048576) → ∀ S0 : Store, S0.length = 1 → listAt S0 (.loc 0) = some (ns.map .int) → ∃ μ, den c.P n i [.loc 0] S0 = .ok (.bl true) μ)
    (w : World) (mg : Str → Option Value) (fa : Addr) (h : Heap) (Y : ∃ K : PySem.W.Frag, K.In h ∧ SaysZ c.defs c.tf (exE c) h K) (G : h.Ns mainGlobals mg) (hmg : mg d.name = some (.ref fa)) :
    ∃ K : PySem.W.Frag, K.In h ∧ LawAtS l w K (L2.CX l.prog w) (3 * n) 63 x mg fa h := by
  obtain ⟨K, KX, sz⟩ := Y
  have says := sz.d
  have ex := sz.ex
  obtain ⟨fd0, _⟩ := says.def_ i hd
  have all : ∀ j : Nat, ∃ f : FuncData, ∀ d' : He.DefD, c.defs[j]? = some d' → FunD K d'.name d'.qual d'.params d'.body d'.scope (d'.dvs K) (d'.kws K) (He.fAd K d'.at_) f := fun j => by
    cases e : c.defs[j]? with
    | none => exact ⟨fd0, fun d' h => by cases h⟩
    | some d1 =>
      obtain ⟨f, F1⟩ := says.def_ j e
      exact ⟨f, fun d' h => by cases h; exact F1⟩
  let fd : Nat → FuncData := fun j => (all j).choose
  have sy : Says c K fd := fun j d' h => (all j).choose_spec d' h
  have lok := lok_of ok KX G (Bool.and_eq_true_iff.mp (Bool.and_eq_true_iff.mp ex).1).1 (Bool.and_eq_true_iff.mp (Bool.and_eq_true_iff.mp ex).1).2 sy (cls_of ex)
  have defs := defs_of ok sy
  obtain ⟨N, hN, hb⟩ := zip_at hd hF ok
  have hps : (c.L K fd).ps i = [x] := by
    show (match c.defs[i]? with | some d => psOf d | none => []) = _
    rw [hd]; exact hx
  have hfa : (c.L K fd).fa i = fa := by
    have e := lok.ents _ _ hent
    cases e with
    | fn _ hm _ => rw [hmg] at hm; cases hm; rfl
  have hb' := hb
  unfold defB at hb'
  simp only [Bool.and_eq_true, decide_eq_true_eq, List.isEmpty_iff, Option.isNone_iff_eq_none] at hb'
  obtain ⟨h1, h2, h3, h4, hs, h5, h6, h7, h8, h9⟩ := hb'
  have np : F.np = 1 := by rw [h5, hx]; rfl
  have nd : (d.params.args.map (·.arg)).Nodup := by
    have : d.params.args.map (·.arg) = [x] := hx
    rw [this]; simp
  have csm : ∀ p ∈ (c.nd K).cs, ∃ q ∈ c.tf, p = He.cT K q := fun p hp => by
    unfold Cfg.nd at hp
    unfold Cfg.tf
    cases hn : c.nest with
    | none => rw [hn] at hp; cases hp
    | some n =>
      rw [hn] at hp
      exact ⟨n.at_, by simp, List.mem_singleton.mp hp⟩
  have tbm : ∀ p, (c.L K fd).g.tb = some p → ∃ q ∈ (c.nd K).cs, q.2 = p.1 := fun p hp => by
    have hp : (c.nd K).tb = some p := hp
    unfold Cfg.nd at hp ⊢
    cases hn : c.nest with
    | none => rw [hn] at hp; cases hp
    | some n =>
      rw [hn] at hp
      cases hp
      exact ⟨_, List.mem_singleton.mpr rfl, rfl⟩
  refine ⟨K, KX, fd i, (c.nd K).cs, spI (c.L K fd) n i, fun p hp => ?_, fun p hp => ?_, fun p hp => ?_, fun s u => ?_, fun H a ns hlen hbits hT hS => ?_, fun base hK hB TB => ?_⟩
  · obtain ⟨q, hq, rfl⟩ := csm p hp
    exact sz.empty q hq
  · obtain ⟨q, hq, rfl⟩ := csm p hp
    exact sz.out q hq
  · obtain ⟨q, hq, rfl⟩ := csm p hp
    exact PySem.W.codeHd_of_K KX (sz.hd q hq)
  · have D := sy i d hd
    have e0 : d.dvs K = [] := by unfold He.DefD.dvs; rw [hdfl]; rfl
    rw [e0] at D
    have := FunD.bindsA (ps := [x]) D (fun kV doc pm an cdv ct us hl => by
      obtain ⟨k, e1, e2⟩ := bind_plain (fd := PySem.W.fnOf d.name d.qual d.params d.body d.scope .none kV doc pm an cdv ct) (us := us) h1 h2 h3 h4 nd (by
        show us.length ≤ d.params.args.length
        have : d.params.args.length = 1 := by
          have := congrArg List.length hx
          unfold psOf at this
          simpa using this
        rw [this]; simpa using Nat.le_of_eq hl)
      have pl : d.params.args.length = 1 := by
        have := congrArg List.length hx
        unfold psOf at this
        simpa using this
      have e3 := e2 none (Nat.zero_le _) (by show d.params.args.length - 0 ≤ us.length; rw [pl]; simpa using Nat.le_of_eq hl.symm)
      rw [e1]
      show seqItems? .none >>= k = _
      rw [show seqItems? .none = pure none from rfl, pure_bind, e3]
      have : ((none : Option (Array Value)).getD #[]).toList = [] := rfl
      rw [this, List.drop_nil, List.append_nil]
      exact congrArg (fun z => pure (List.zip z us)) hx) s [u] rfl
    exact this
  · obtain ⟨S0, hS1, hS2, rm⟩ := script_rm (g := (c.L K fd).g) (fun p hp => by
      obtain ⟨q, hq, e⟩ := tbm p hp
      rw [← e]
      exact hT q hq) hS
    obtain ⟨μ, e⟩ := hl ns hlen hbits S0 hS1 hS2
    refine ⟨F, by show (c.P.fn ++ c.P.nf)[i]? = some F; rw [List.getElem?_append_left (List.getElem?_eq_some_iff.mp hF).1]; exact hF, by rw [np]; rfl, [], [a], S0, [.loc 0], rm, ⟨_, [], rfl, ⟨a, rfl, rfl⟩, rfl⟩, ?_⟩
    have e : (c.L K fd).D n i [.loc 0] S0 = .ok (.bl true) μ := e
    rw [e]
    intro v H' ι' x m r
    exact r
  · have := (prog_ok (P := l.prog) (w := w) (base := base) (c.L K fd) lok defs (nest_of ok) TB n).1 i F hF
    rw [hfa, hps] at this
    exact this
end BW
set_option maxHeartbeats 4000000
/-! The small language, step by step. -/
namespace BW
open PySem PySem.Spec PyProof.Rows L2
section
variable (P : Prog) (D : Den) (xv : Option PX)
def gv : Option (Option PV) → Store → Res PV
  | some (some v), μ => .ok v μ
  | _, _ => .bad
@[simp] theorem gv_some (v : PV) (μ : Store) : gv (some (some v)) μ = .ok v μ := rfl
noncomputable def kBin (o : Op) (b : IE) (ρ : BW.Env) (x : PV) (μ : Store) : Res PV := (evE P D xv b ρ μ).bind (binV o x)
noncomputable def kCmp (o : Cm) (b : IE) (ρ : BW.Env) (x : PV) (μ : Store) : Res PV := (evE P D xv b ρ μ).bind (cmpV o x)
noncomputable def kCh3 (o2 : Cm) (y : PV) (c : IE) (ρ : BW.Env) (k : PV) (μ : Store) : Res PV := match k with
  | .bl true => (evE P D xv c ρ μ).bind (cmpV o2 y)
  | .bl false => .ok (.bl false) μ
  | _ => .bad
noncomputable def kCh2 (o o2 : Cm) (x : PV) (c : IE) (ρ : BW.Env) (y : PV) (μ : Store) : Res PV := (cmpV o x y μ).bind (kCh3 P D xv o2 y c ρ)
noncomputable def kCh1 (o o2 : Cm) (b c : IE) (ρ : BW.Env) (x : PV) (μ : Store) : Res PV := (evE P D xv b ρ μ).bind (kCh2 P D xv o o2 x c ρ)
noncomputable def kAnd (b : IE) (ρ : BW.Env) (x : PV) (μ : Store) : Res PV := match x with
  | .bl true => evE P D xv b ρ μ
  | .bl false => .ok (.bl false) μ
  | _ => .bad
noncomputable def kOr (b : IE) (ρ : BW.Env) (x : PV) (μ : Store) : Res PV := match x with
  | .bl true => .ok (.bl true) μ
  | .bl false => evE P D xv b ρ μ
  | _ => .bad
def kNot (x : PV) (μ : Store) : Res PV := match x with
  | .bl b => .ok (.bl (!b)) μ
  | _ => .bad
noncomputable def kIte (a b : IE) (ρ : BW.Env) (k : Bool) (μ : Store) : Res PV := if k = true then evE P D xv a ρ μ else evE P D xv b ρ μ
def kTup (xs : List PV) (μ : Store) : Res PV := if xs.length ≤ sizeLine then .ok (.tup xs) μ else .bad
def kLst (xs : List PV) (μ : Store) : Res PV := if xs.length ≤ sizeLine then .ok (.loc μ.length) (μ ++ [.lst xs]) else .bad
noncomputable def kIdx (i : IE) (ρ : BW.Env) (x : PV) (μ : Store) : Res PV := (evE P D xv i ρ μ).bind (idxV x)
def kS0 (x : PV) (μ : Store) : Res PV := slcV x none none μ
def kS1b (x l : PV) (μ : Store) : Res PV := slcV x (some l) none μ
def kS2b (x l : PV) (μ : Store) : Res PV := slcV x none (some l) μ
def kS3c (x l h : PV) (μ : Store) : Res PV := slcV x (some l) (some h) μ
noncomputable def kS3b (u : IE) (ρ : BW.Env) (x l : PV) (μ : Store) : Res PV := if isInt l = true then (evE P D xv u ρ μ).bind (kS3c x l) else .bad
noncomputable def kS1 (l : IE) (ρ : BW.Env) (x : PV) (μ : Store) : Res PV := (evE P D xv l ρ μ).bind (kS1b x)
noncomputable def kS2 (l : IE) (ρ : BW.Env) (x : PV) (μ : Store) : Res PV := (evE P D xv l ρ μ).bind (kS2b x)
noncomputable def kS3 (l u : IE) (ρ : BW.Env) (x : PV) (μ : Store) : Res PV := (evE P D xv l ρ μ).bind (kS3b P D xv u ρ x)
def kFld (f : Nat) (x : PV) (μ : Store) : Res PV := fldV x f μ
noncomputable def kMe2 (f : Nat) (x : PV) (xs : List PV) (μ : Store) : Res PV := D f (x :: xs) μ
noncomputable def kMe1 (es : List IE) (ρ : BW.Env) (x : PV) (μ : Store) : Option Nat → Res PV
  | some f => (evEs P D xv es ρ μ).bind (kMe2 D f x)
  | none => .bad
noncomputable def kMeth (m : Nat) (es : List IE) (ρ : BW.Env) (x : PV) (μ : Store) : Res PV := kMe1 P D xv es ρ x μ (methOf P μ m x)
def kMk2 (l : Nat) (v : PV) (μ : Store) : Res PV := match v with
  | .non => .ok (.loc l) μ
  | _ => .bad
noncomputable def kMk1 (c : Nat) (xs : List PV) (μ : Store) : Option Nat → Res PV
  | some f => (D f (.loc μ.length :: xs) (μ ++ [.ins c []])).bind (kMk2 μ.length)
  | none => .bad
noncomputable def kMake (c : Nat) (xs : List PV) (μ : Store) : Res PV := kMk1 D c xs μ (P.cl[c]?.bind (·.init))
noncomputable def kBm (m : Bm) (es : List IE) (ρ : BW.Env) (x : PV) (μ : Store) : Res PV := if bmOk m x μ = true then (evEs P D xv es ρ μ).bind (bmV m x) else .bad
def kClo (v : PV) (μ : Store) : Res PV := .ok (.loc μ.length) (μ ++ [.clo v])
noncomputable def kCv (es : List IE) (ρ : BW.Env) (x : PV) (μ : Store) : Res PV := if (cloAt μ x).isSome = true then (evEs P D xv es ρ μ).bind (clv P D x) else .bad
def kBl (b : Bool) (μ : Store) : Res PV := .ok (.bl b) μ
@[simp] theorem kBl_ (b : Bool) (μ : Store) : kBl b μ = .ok (.bl b) μ := rfl
def kIsin (ts : List Ty) (x : PV) (μ : Store) : Res PV := (Res.ofO ((tagOf μ x).bind (isTags P · ts)) μ).bind kBl
def kLcE (xs : List PV) (μ : Store) : Res PV := .ok (.loc μ.length) (μ ++ [.lst xs])
noncomputable def kLc (e : IE) (t : Tg) (c : Option IT) (own : List Nat) (ρ : BW.Env) (q : List PV × Sts) (μ : Store) : Res PV := (lcDen q.2 (wipe ρ own) t (match c with
  | none => fun _ μ => .ok true μ
  | some c => evT P D xv c) (evE P D xv e) q.1 [] μ).bind kLcE
def kCons2 (x : PV) (xs : List PV) (μ : Store) : Res (List PV) := .ok (x :: xs) μ
noncomputable def kCons (es : List IE) (ρ : BW.Env) (x : PV) (μ : Store) : Res (List PV) := (evEs P D xv es ρ μ).bind (kCons2 x)
def kTr (x : PV) (μ : Store) : Res Bool := Res.ofO (truthy μ x) μ
noncomputable def kTAnd (b : IT) (ρ : BW.Env) (k : Bool) (μ : Store) : Res Bool := if k = true then evT P D xv b ρ μ else .ok false μ
noncomputable def kTOr (b : IT) (ρ : BW.Env) (k : Bool) (μ : Store) : Res Bool := if k = true then .ok true μ else evT P D xv b ρ μ
def kTNot (k : Bool) (μ : Store) : Res Bool := .ok (!k) μ
def kSeq (x : PV) (μ : Store) : Res (List PV × Sts) := Res.ofO (seqOf μ x) μ
def enumOf (x : PV) (q : List PV × Sts) : Option (List PV × Sts) := match x with
  | .loc _ => some (q.1.mapIdx fun k v => .tup [.int (k : Nat), v], q.2)
  | _ => none
def kEnum (x : PV) (μ : Store) : Res (List PV × Sts) := Res.ofO ((seqOf μ x).bind (enumOf x)) μ
def zipOf (x y : PV) (q r : List PV × Sts) : Option (List PV × Sts) := match x, y with
  | .loc _, .loc _ => some (List.zipWith (fun u v => .tup [u, v]) q.1 r.1, q.2 ++ r.2)
  | _, _ => none
def kZip2 (x y : PV) (μ : Store) : Res (List PV × Sts) := Res.ofO ((seqOf μ x).bind fun q => (seqOf μ y).bind (zipOf x y q)) μ
noncomputable def kZip (b : IE) (ρ : BW.Env) (x : PV) (μ : Store) : Res (List PV × Sts) := (evE P D xv b ρ μ).bind (kZip2 x)
def revOf (x : PV) (q : List PV × Sts) : Option (List PV × Sts) := match x with
  | .loc _ => some (q.1.reverse, q.2)
  | _ => none
def kRev (x : PV) (μ : Store) : Res (List PV × Sts) := Res.ofO ((seqOf μ x).bind (revOf x)) μ
def kRng (xs : List PV) (μ : Store) : Res (List PV × Sts) := Res.ofO ((rngOf xs).map fun vs => (vs, [])) μ
def kRrng (xs : List PV) (μ : Store) : Res (List PV × Sts) := Res.ofO ((rrngOf xs).map fun vs => (vs, [])) μ
section
variable (ρ : BW.Env) (μ : Store)

@[simp] theorem e_con (v : PV) : evE P D xv (.con v) ρ μ = .ok v μ := by first | (rw [evE]; done) | (rw [evE]; rfl)
@[simp] theorem e_var (i : Nat) : evE P D xv (.var i) ρ μ = gv ρ[i]? μ := by
  rw [evE]
  cases ρ[i]? with
  | none => rfl
  | some o => cases o <;> rfl
@[simp] theorem e_bin (o : Op) (a b : IE) : evE P D xv (.bin o a b) ρ μ = (evE P D xv a ρ μ).bind (kBin P D xv o b ρ) := by first | (rw [evE]; done) | (rw [evE]; rfl)
@[simp] theorem e_neg (a : IE) : evE P D xv (.neg a) ρ μ = (evE P D xv a ρ μ).bind negV := by first | (rw [evE]; done) | (rw [evE]; rfl)
@[simp] theorem e_cmp (o : Cm) (a b : IE) : evE P D xv (.cmp o a b) ρ μ = (evE P D xv a ρ μ).bind (kCmp P D xv o b ρ) := by first | (rw [evE]; done) | (rw [evE]; rfl)
@[simp] theorem e_chain (o o2 : Cm) (a b c : IE) : evE P D xv (.chain o o2 a b c) ρ μ = (evE P D xv a ρ μ).bind (kCh1 P D xv o o2 b c ρ) := by first | (rw [evE]; done) | (rw [evE]; rfl)
@[simp] theorem e_and (a b : IE) : evE P D xv (.and a b) ρ μ = (evE P D xv a ρ μ).bind (kAnd P D xv b ρ) := by first | (rw [evE]; done) | (rw [evE]; rfl)
@[simp] theorem e_or (a b : IE) : evE P D xv (.or a b) ρ μ = (evE P D xv a ρ μ).bind (kOr P D xv b ρ) := by first | (rw [evE]; done) | (rw [evE]; rfl)
@[simp] theorem e_not (a : IE) : evE P D xv (.not a) ρ μ = (evE P D xv a ρ μ).bind kNot := by first | (rw [evE]; done) | (rw [evE]; rfl)
@[simp] theorem e_ite (c : IT) (a b : IE) : evE P D xv (.ite c a b) ρ μ = (evT P D xv c ρ μ).bind (kIte P D xv a b ρ) := by first | (rw [evE]; done) | (rw [evE]; rfl)
@[simp] theorem e_tup (es : List IE) : evE P D xv (.tup es) ρ μ = (evEs P D xv es ρ μ).bind kTup := by first | (rw [evE]; done) | (rw [evE]; rfl)
@[simp] theorem e_lst (es : List IE) : evE P D xv (.lst es) ρ μ = (evEs P D xv es ρ μ).bind kLst := by first | (rw [evE]; done) | (rw [evE]; rfl)
@[simp] theorem e_idx (a i : IE) : evE P D xv (.idx a i) ρ μ = (evE P D xv a ρ μ).bind (kIdx P D xv i ρ) := by first | (rw [evE]; done) | (rw [evE]; rfl)
@[simp] theorem e_slc0 (a : IE) : evE P D xv (.slc a none none) ρ μ = (evE P D xv a ρ μ).bind kS0 := by first | (rw [evE]; done) | (rw [evE]; rfl)
@[simp] theorem e_slc1 (a l : IE) : evE P D xv (.slc a (some l) none) ρ μ = (evE P D xv a ρ μ).bind (kS1 P D xv l ρ) := by first | (rw [evE]; done) | (rw [evE]; rfl)
@[simp] theorem e_slc2 (a l : IE) : evE P D xv (.slc a none (some l)) ρ μ = (evE P D xv a ρ μ).bind (kS2 P D xv l ρ) := by first | (rw [evE]; done) | (rw [evE]; rfl)
@[simp] theorem e_slc3 (a l u : IE) : evE P D xv (.slc a (some l) (some u)) ρ μ = (evE P D xv a ρ μ).bind (kS3 P D xv l u ρ) := by first | (rw [evE]; done) | (rw [evE]; rfl)
@[simp] theorem e_fld (a : IE) (f : Nat) : evE P D xv (.fld a f) ρ μ = (evE P D xv a ρ μ).bind (kFld f) := by first | (rw [evE]; done) | (rw [evE]; rfl)
@[simp] theorem e_call (f : Nat) (es : List IE) : evE P D xv (.call f es) ρ μ = (evEs P D xv es ρ μ).bind (D f) := by first | (rw [evE]; done) | (rw [evE]; rfl)
@[simp] theorem e_meth (m : Nat) (a : IE) (es : List IE) : evE P D xv (.meth m a es) ρ μ = (evE P D xv a ρ μ).bind (kMeth P D xv m es ρ) := by
  rw [evE]
  first | done | (congr 1; done) | (congr 1; funext x μ; unfold kMeth; cases methOf P μ m x <;> rfl)
@[simp] theorem e_dic : evE P D xv .dic ρ μ = .ok (.loc μ.length) (μ ++ [.dic []]) := by first | (rw [evE]; done) | (rw [evE]; rfl)
@[simp] theorem e_clo (a : IE) : evE P D xv (.clo a) ρ μ = (evE P D xv a ρ μ).bind kClo := by first | (rw [evE]; done) | (rw [evE]; rfl)
@[simp] theorem e_callv (a : IE) (es : List IE) : evE P D xv (.callv a es) ρ μ = (evE P D xv a ρ μ).bind (kCv P D xv es ρ) := by first | (rw [evE]; done) | (rw [evE]; rfl)
@[simp] theorem e_make (c : Nat) (es : List IE) : evE P D xv (.make c es) ρ μ = (evEs P D xv es ρ μ).bind (kMake P D c) := by
  rw [evE]
  first | done | (congr 1; done) | (congr 1; funext xs μ; unfold kMake; cases P.cl[c]?.bind (·.init) <;> rfl)
@[simp] theorem e_bi (b : Bi) (es : List IE) : evE P D xv (.bi b es) ρ μ = (evEs P D xv es ρ μ).bind (biV b) := by first | (rw [evE]; done) | (rw [evE]; rfl)
@[simp] theorem e_bm (m : Bm) (a : IE) (es : List IE) : evE P D xv (.bm m a es) ρ μ = (evE P D xv a ρ μ).bind (kBm P D xv m es ρ) := by first | (rw [evE]; done) | (rw [evE]; rfl)
@[simp] theorem e_isin (a : IE) (ts : List Ty) : evE P D xv (.isin a ts) ρ μ = (evE P D xv a ρ μ).bind (kIsin P ts) := by first | (rw [evE]; done) | (rw [evE]; rfl)
@[simp] theorem e_lc (e : IE) (t : Tg) (it : BW.It) (c : Option IT) (own : List Nat) : evE P D xv (.lc e t it c own) ρ μ = (evIt P D xv it ρ μ).bind (kLc P D xv e t c own ρ) := by cases c <;> first | (rw [evE]; done) | (rw [evE]; rfl)
@[simp] theorem e_xfld (e : PX) (f : Nat) : evE P D (some e) (.xfld f) ρ μ = Res.ofO ((look f e.fs).map .int) μ := by rw [evE]
@[simp] theorem e_xis (e : PX) (ts : List Ty) : evE P D (some e) (.xis ts) ρ μ = (Res.ofO (isTags P (.exc e.c) ts) μ).bind kBl := by first | (rw [evE]; done) | (rw [evE]; rfl)
@[simp] theorem es_nil : evEs P D xv [] ρ μ = .ok [] μ := by rw [evEs]
@[simp] theorem es_cons (e : IE) (es : List IE) : evEs P D xv (e :: es) ρ μ = (evE P D xv e ρ μ).bind (kCons P D xv es ρ) := by first | (rw [evEs]; done) | (rw [evEs]; rfl)
@[simp] theorem t_val (e : IE) : evT P D xv (.val e) ρ μ = (evE P D xv e ρ μ).bind kTr := by first | (rw [evT]; done) | (rw [evT]; rfl)
@[simp] theorem t_and (a b : IT) : evT P D xv (.and a b) ρ μ = (evT P D xv a ρ μ).bind (kTAnd P D xv b ρ) := by first | (rw [evT]; done) | (rw [evT]; rfl)
@[simp] theorem t_or (a b : IT) : evT P D xv (.or a b) ρ μ = (evT P D xv a ρ μ).bind (kTOr P D xv b ρ) := by first | (rw [evT]; done) | (rw [evT]; rfl)
@[simp] theorem t_not (a : IT) : evT P D xv (.not a) ρ μ = (evT P D xv a ρ μ).bind kTNot := by first | (rw [evT]; done) | (rw [evT]; rfl)
@[simp] theorem i_seq (e : IE) : evIt P D xv (.seq e) ρ μ = (evE P D xv e ρ μ).bind kSeq := by first | (rw [evIt]; done) | (rw [evIt]; rfl)
@[simp] theorem i_enum (e : IE) : evIt P D xv (.enum e) ρ μ = (evE P D xv e ρ μ).bind kEnum := by first | (rw [evIt]; done) | (rw [evIt]; rfl)
@[simp] theorem i_zip (a b : IE) : evIt P D xv (.zip a b) ρ μ = (evE P D xv a ρ μ).bind (kZip P D xv b ρ) := by first | (rw [evIt]; done) | (rw [evIt]; rfl)
@[simp] theorem i_rev (e : IE) : evIt P D xv (.rev e) ρ μ = (evE P D xv e ρ μ).bind kRev := by first | (rw [evIt]; done) | (rw [evIt]; rfl)
@[simp] theorem i_rng (es : List IE) : evIt P D xv (.rng es) ρ μ = (evEs P D xv es ρ μ).bind kRng := by first | (rw [evIt]; done) | (rw [evIt]; rfl)
@[simp] theorem i_rrng (es : List IE) : evIt P D xv (.rrng es) ρ μ = (evEs P D xv es ρ μ).bind kRrng := by first | (rw [evIt]; done) | (rw [evIt]; rfl)
end
/-! ### frames, at a value -/
section
variable (ρ : BW.Env) (μ : Store)
@[simp] theorem kBin_ (o : Op) (b : IE) (x : PV) : kBin P D xv o b ρ x μ = (evE P D xv b ρ μ).bind (binV o x) := rfl
@[simp] theorem kCmp_ (o : Cm) (b : IE) (x : PV) : kCmp P D xv o b ρ x μ = (evE P D xv b ρ μ).bind (cmpV o x) := rfl
@[simp] theorem kCh1_ (o o2 : Cm) (b c : IE) (x : PV) : kCh1 P D xv o o2 b c ρ x μ = (evE P D xv b ρ μ).bind (kCh2 P D xv o o2 x c ρ) := rfl
@[simp] theorem kCh2_ (o o2 : Cm) (c : IE) (x y : PV) : kCh2 P D xv o o2 x c ρ y μ = (cmpV o x y μ).bind (kCh3 P D xv o2 y c ρ) := rfl
@[simp] theorem kCh3_ (o2 : Cm) (c : IE) (y : PV) (k : Bool) : kCh3 P D xv o2 y c ρ (.bl k) μ = if k = true then (evE P D xv c ρ μ).bind (cmpV o2 y) else .ok (.bl false) μ := by cases k <;> rfl
@[simp] theorem kAnd_ (b : IE) (k : Bool) : kAnd P D xv b ρ (.bl k) μ = if k = true then evE P D xv b ρ μ else .ok (.bl false) μ := by cases k <;> rfl
@[simp] theorem kOr_ (b : IE) (k : Bool) : kOr P D xv b ρ (.bl k) μ = if k = true then .ok (.bl true) μ else evE P D xv b ρ μ := by cases k <;> rfl
@[simp] theorem kNot_ (k : Bool) : kNot (.bl k) μ = .ok (.bl (!k)) μ := rfl
@[simp] theorem kIte_ (a b : IE) (k : Bool) : kIte P D xv a b ρ k μ = if k = true then evE P D xv a ρ μ else evE P D xv b ρ μ := rfl
@[simp] theorem kTup_ (xs : List PV) (h : xs.length ≤ sizeLine) : kTup xs μ = .ok (.tup xs) μ := if_pos h
@[simp] theorem kLst_ (xs : List PV) (h : xs.length ≤ sizeLine) : kLst xs μ = .ok (.loc μ.length) (μ ++ [.lst xs]) := if_pos h
@[simp] theorem kIdx_ (i : IE) (x : PV) : kIdx P D xv i ρ x μ = (evE P D xv i ρ μ).bind (idxV x) := rfl
@[simp] theorem kS0_ (x : PV) : kS0 x μ = slcV x none none μ := rfl
@[simp] theorem kS1_ (l : IE) (x : PV) : kS1 P D xv l ρ x μ = (evE P D xv l ρ μ).bind (kS1b x) := rfl
@[simp] theorem kS1b_ (x l : PV) : kS1b x l μ = slcV x (some l) none μ := rfl
@[simp] theorem kS2_ (l : IE) (x : PV) : kS2 P D xv l ρ x μ = (evE P D xv l ρ μ).bind (kS2b x) := rfl
@[simp] theorem kS2b_ (x l : PV) : kS2b x l μ = slcV x none (some l) μ := rfl
@[simp] theorem kS3_ (l u : IE) (x : PV) : kS3 P D xv l u ρ x μ = (evE P D xv l ρ μ).bind (kS3b P D xv u ρ x) := rfl
@[simp] theorem kS3b_ (u : IE) (x : PV) (i : Int) : kS3b P D xv u ρ x (.int i) μ = (evE P D xv u ρ μ).bind (kS3c x (.int i)) := rfl
@[simp] theorem kS3c_ (x l h : PV) : kS3c x l h μ = slcV x (some l) (some h) μ := rfl
@[simp] theorem kFld_ (f : Nat) (x : PV) : kFld f x μ = fldV x f μ := rfl
@[simp] theorem kMeth_ (m : Nat) (es : List IE) (x : PV) : kMeth P D xv m es ρ x μ = kMe1 P D xv es ρ x μ (methOf P μ m x) := rfl
@[simp] theorem kMe1_ (f : Nat) (es : List IE) (x : PV) : kMe1 P D xv es ρ x μ (some f) = (evEs P D xv es ρ μ).bind (kMe2 D f x) := rfl
@[simp] theorem kMe2_ (f : Nat) (x : PV) (xs : List PV) : kMe2 D f x xs μ = D f (x :: xs) μ := rfl
@[simp] theorem kMake_ (c : Nat) (xs : List PV) : kMake P D c xs μ = kMk1 D c xs μ (P.cl[c]?.bind (·.init)) := rfl
@[simp] theorem kMk1_ (c f : Nat) (xs : List PV) : kMk1 D c xs μ (some f) = (D f (.loc μ.length :: xs) (μ ++ [.ins c []])).bind (kMk2 μ.length) := rfl
@[simp] theorem kMk2_ (l : Nat) : kMk2 l .non μ = .ok (.loc l) μ := rfl
@[simp] theorem kClo_ (v : PV) : kClo v μ = .ok (.loc μ.length) (μ ++ [.clo v]) := rfl
theorem cloAt_at {l : Nat} {v : PV} {μ : Store} (h : μ[l]? = some (.clo v)) : cloAt μ (.loc l) = some v := by
  show (match μ[l]? with | some (.clo v) => some v | _ => none) = some v
  rw [h]
@[simp] theorem kCv_ (es : List IE) (l : Nat) (v : PV) (h : μ[l]? = some (.clo v)) : kCv P D xv es ρ (.loc l) μ = (evEs P D xv es ρ μ).bind (clv P D (.loc l)) := by
  unfold kCv; rw [cloAt_at h]; rfl
@[simp] theorem kBm_ (m : Bm) (es : List IE) (x : PV) : kBm P D xv m es ρ x μ = if bmOk m x μ = true then (evEs P D xv es ρ μ).bind (bmV m x) else .bad := rfl
@[simp] theorem kIsin_ (ts : List Ty) (x : PV) : kIsin P ts x μ = (Res.ofO ((tagOf μ x).bind (isTags P · ts)) μ).bind kBl := rfl
@[simp] theorem kLcE_ (xs : List PV) : kLcE xs μ = .ok (.loc μ.length) (μ ++ [.lst xs]) := rfl
@[simp] theorem kLc_ (e : IE) (t : Tg) (c : Option IT) (own : List Nat) (q : List PV × Sts) : kLc P D xv e t c own ρ q μ = (lcDen q.2 (wipe ρ own) t (match c with
  | none => fun _ μ => .ok true μ
  | some c => evT P D xv c) (evE P D xv e) q.1 [] μ).bind kLcE := rfl
@[simp] theorem kCons_ (es : List IE) (x : PV) : kCons P D xv es ρ x μ = (evEs P D xv es ρ μ).bind (kCons2 x) := rfl
@[simp] theorem kCons2_ (x : PV) (xs : List PV) : kCons2 x xs μ = .ok (x :: xs) μ := rfl
@[simp] theorem kTr_ (x : PV) : kTr x μ = Res.ofO (truthy μ x) μ := rfl
@[simp] theorem kTAnd_ (b : IT) (k : Bool) : kTAnd P D xv b ρ k μ = if k = true then evT P D xv b ρ μ else .ok false μ := rfl
@[simp] theorem kTOr_ (b : IT) (k : Bool) : kTOr P D xv b ρ k μ = if k = true then .ok true μ else evT P D xv b ρ μ := rfl
@[simp] theorem kTNot_ (k : Bool) : kTNot k μ = .ok (!k) μ := rfl
@[simp] theorem kSeq_ (x : PV) : kSeq x μ = Res.ofO (seqOf μ x) μ := rfl
@[simp] theorem kEnum_ (x : PV) : kEnum x μ = Res.ofO ((seqOf μ x).bind (enumOf x)) μ := rfl
@[simp] theorem kZip_ (b : IE) (x : PV) : kZip P D xv b ρ x μ = (evE P D xv b ρ μ).bind (kZip2 x) := rfl
@[simp] theorem kZip2_ (x y : PV) : kZip2 x y μ = Res.ofO ((seqOf μ x).bind fun q => (seqOf μ y).bind (zipOf x y q)) μ := rfl
@[simp] theorem kRev_ (x : PV) : kRev x μ = Res.ofO ((seqOf μ x).bind (revOf x)) μ := rfl
@[simp] theorem kRng_ (xs : List PV) : kRng xs μ = Res.ofO ((rngOf xs).map fun vs => (vs, [])) μ := rfl
@[simp] theorem kRrng_ (xs : List PV) : kRrng xs μ = Res.ofO ((rrngOf xs).map fun vs => (vs, [])) μ := rfl
end
end
/-! ### statements -/
section
variable (P : Prog) (D : Den) (xv : Option PX)
def kSet (i : Nat) (ρ : BW.Env) (x : PV) (μ : Store) : RS := .mk (.nx (ρ.set i (some x))) μ
def kAsg2 : Option BW.Env → Store → RS
  | some ρ, μ => .mk (.nx ρ) μ
  | none, _ => .bad
def kAsg (t : Tg) (ρ : BW.Env) (x : PV) (μ : Store) : RS := kAsg2 (asg t x ρ μ) μ
def kPar2 (i j : Nat) (ρ : BW.Env) (xs : List PV) (μ : Store) : RS := match xs with
  | [v, w] => .mk (.nx ((ρ.set i (some v)).set j (some w))) μ
  | _ => .bad
def kPar3 (i j k : Nat) (ρ : BW.Env) (xs : List PV) (μ : Store) : RS := match xs with
  | [v, w, z] => .mk (.nx (((ρ.set i (some v)).set j (some w)).set k (some z))) μ
  | _ => .bad
def stL (l : Nat) (ρ : BW.Env) (v : PV) (k : Int) (μ : Store) : Option Cell → RS
  | some (.lst xs) => match L2.ixN xs.length k with
    | some j => .mk (.nx ρ) (μ.set l (.lst (xs.set j v)))
    | none => .bad
  | _ => .bad
def kSub3 (v x : PV) (ρ : BW.Env) (y : PV) (μ : Store) : RS := match x, y with
  | .loc l, .int k => stL l ρ v k μ μ[l]?
  | _, _ => .bad
def stD (l : Nat) (ρ : BW.Env) (v : PV) (μ : Store) : Option Cell → Option (List Int) → RS
  | some (.dic kvs), some k => if kvs.length < sizeLine then .mk (.nx ρ) (μ.set l (.dic (dput k v kvs))) else .bad
  | _, _ => .bad
def kSubD (v x : PV) (ρ : BW.Env) (y : PV) (μ : Store) : RS := match x, y with
  | .loc l, .int k => stL l ρ v k μ μ[l]?
  | .loc l, .tup ks => stD l ρ v μ μ[l]? (intsOf ks)
  | _, _ => .bad
noncomputable def kSub2 (i : IE) (v : PV) (ρ : BW.Env) (x : PV) (μ : Store) : RS := (evE P D xv i ρ μ).st ρ (kSubD v x ρ)
noncomputable def kSub1 (a i : IE) (ρ : BW.Env) (v : PV) (μ : Store) : RS := (evE P D xv a ρ μ).st ρ (kSub2 P D xv i v ρ)
def stF (l : Nat) (ρ : BW.Env) (f : Nat) (v : PV) (μ : Store) : Option Cell → RS
  | some (.ins c fs) => if fs.length < 1000 then .mk (.nx ρ) (μ.set l (.ins c (put f v fs))) else .bad
  | _ => .bad
def kSf2 (f : Nat) (v : PV) (ρ : BW.Env) (x : PV) (μ : Store) : RS := match x with
  | .loc l => stF l ρ f v μ μ[l]?
  | _ => .bad
noncomputable def kSf1 (a : IE) (f : Nat) (ρ : BW.Env) (v : PV) (μ : Store) : RS := (evE P D xv a ρ μ).st ρ (kSf2 f v ρ)
def kAug2 (o : Op) (x : PV) (i : Nat) (ρ : BW.Env) (y : PV) (μ : Store) : RS := (augV o x y μ).st ρ (kSet i ρ)
noncomputable def kAug (i : Nat) (o : Op) (e : IE) (ρ : BW.Env) (μ : Store) : Option (Option PV) → RS
  | some (some x) => (evE P D xv e ρ μ).st ρ (kAug2 o x i ρ)
  | _ => .bad
def kAS4 (x y : PV) (ρ : BW.Env) (z : PV) (μ : Store) : RS := kSub3 z x ρ y μ
def kAS3b (o : Op) (x y u : PV) (ρ : BW.Env) (v : PV) (μ : Store) : RS := (augV o u v μ).st ρ (kAS4 x y ρ)
noncomputable def kAS3 (e : IE) (o : Op) (x y : PV) (ρ : BW.Env) (u : PV) (μ : Store) : RS := (evE P D xv e ρ μ).st ρ (kAS3b o x y u ρ)
noncomputable def kAS2 (e : IE) (o : Op) (x : PV) (ρ : BW.Env) (y : PV) (μ : Store) : RS := (lixV x y μ).st ρ (kAS3 P D xv e o x y ρ)
noncomputable def kAS1 (i e : IE) (o : Op) (ρ : BW.Env) (x : PV) (μ : Store) : RS := (evE P D xv i ρ μ).st ρ (kAS2 P D xv e o x ρ)
def kDrop (ρ : BW.Env) (_ : PV) (μ : Store) : RS := .mk (.nx ρ) μ
def kRet (x : PV) (μ : Store) : RS := .mk (.rt x) μ
noncomputable def kIfs (a b : List IS) (ρ : BW.Env) (k : Bool) (μ : Store) : RS := if k = true then evSs P D a xv ρ μ else evSs P D b xv ρ μ
noncomputable def kSs (ss : List IS) (ρ : BW.Env) (μ : Store) : RS := evSs P D ss xv ρ μ
noncomputable def kFor (t : Tg) (b : List IS) (ρ : BW.Env) (q : List PV × Sts) (μ : Store) : RS := forDen q.2 t (evSs P D b xv) q.1 ρ μ
section
variable (ρ : BW.Env) (μ : Store)
@[simp] theorem s_set (i : Nat) (e : IE) : evS P D (.set i e) xv ρ μ = (evE P D xv e ρ μ).st ρ (kSet i ρ) := by first | (rw [evS]; done) | (rw [evS]; rfl)
@[simp] theorem s_asg (t : Tg) (e : IE) : evS P D (.asg t e) xv ρ μ = (evE P D xv e ρ μ).st ρ (kAsg t ρ) := by
  rw [evS]
  first | done | (congr 1; done) | (congr 1; funext x μ; unfold kAsg; cases asg t x ρ μ <;> rfl)
@[simp] theorem s_par2 (i j : Nat) (es : List IE) : evS P D (.par [i, j] es) xv ρ μ = (evEs P D xv es ρ μ).st ρ (kPar2 i j ρ) := by first | (rw [evS]; done) | (rw [evS]; rfl)
@[simp] theorem s_par3 (i j k : Nat) (es : List IE) : evS P D (.par [i, j, k] es) xv ρ μ = (evEs P D xv es ρ μ).st ρ (kPar3 i j k ρ) := by first | (rw [evS]; done) | (rw [evS]; rfl)
theorem sub3_eq (v x y : PV) : kSub3 v x ρ y μ = (match x, y with
    | .loc l, .int k => match μ[l]? with
      | some (.lst xs) => match L2.ixN xs.length k with
        | some j => .mk (.nx ρ) (μ.set l (.lst (xs.set j v)))
        | none => .bad
      | _ => .bad
    | _, _ => .bad) := by
  unfold kSub3
  split
  · rename_i l k
    unfold stL
    cases μ[l]? with
    | none => rfl
    | some c => cases c <;> rfl
  · rfl
theorem subD_eq (v x y : PV) : kSubD v x ρ y μ = (match x, y with
    | .loc l, .int k => match μ[l]? with
      | some (.lst xs) => match L2.ixN xs.length k with
        | some j => .mk (.nx ρ) (μ.set l (.lst (xs.set j v)))
        | none => .bad
      | _ => .bad
    | .loc l, .tup ks => match μ[l]?, intsOf ks with
      | some (.dic kvs), some k => if kvs.length < sizeLine then .mk (.nx ρ) (μ.set l (.dic (dput k v kvs))) else .bad
      | _, _ => .bad
    | _, _ => .bad) := by
  unfold kSubD
  split
  · rename_i l k
    unfold stL
    cases μ[l]? with
    | none => rfl
    | some c => cases c <;> rfl
  · rename_i l ks
    unfold stD
    cases μ[l]? with
    | none => rfl
    | some c => cases c <;> cases intsOf ks <;> rfl
  · rfl
@[simp] theorem s_sub (a i e : IE) : evS P D (.sub a i e) xv ρ μ = (evE P D xv e ρ μ).st ρ (kSub1 P D xv a i ρ) := by
  rw [evS]
  first
    | done
    | (congr 1; done)
    | (congr 1
       funext v μ
       unfold kSub1
       congr 1
       funext x μ
       unfold kSub2
       congr 1
       funext y μ
       exact (subD_eq ρ μ v x y).symm)
@[simp] theorem s_sfld (a : IE) (f : Nat) (e : IE) : evS P D (.sfld a f e) xv ρ μ = (evE P D xv e ρ μ).st ρ (kSf1 P D xv a f ρ) := by
  rw [evS]
  first
    | done
    | (congr 1; done)
@[simp] theorem s_aug (i : Nat) (o : Op) (e : IE) : evS P D (.aug i o e) xv ρ μ = kAug P D xv i o e ρ μ ρ[i]? := by
  rw [evS]
  unfold kAug
  cases ρ[i]? with
  | none => rfl
  | some q => cases q <;> rfl
@[simp] theorem s_augS (a i : IE) (o : Op) (e : IE) : evS P D (.augS a i o e) xv ρ μ = (evE P D xv a ρ μ).st ρ (kAS1 P D xv i e o ρ) := by
  rw [evS]
  first
    | done
    | (congr 1; done)
    | (congr 1
       funext x μ
       unfold kAS1
       congr 1
       funext y μ
       unfold kAS2
       congr 1
       funext u μ
       unfold kAS3
       congr 1
       funext v μ
       unfold kAS3b
       congr 1
       funext z μ
       exact (sub3_eq ρ μ z x y).symm)
@[simp] theorem s_ex (e : IE) : evS P D (.ex e) xv ρ μ = (evE P D xv e ρ μ).st ρ (kDrop ρ) := by first | (rw [evS]; done) | (rw [evS]; rfl)
@[simp] theorem s_ret (e : IE) : evS P D (.ret e) xv ρ μ = (evE P D xv e ρ μ).st ρ kRet := by first | (rw [evS]; done) | (rw [evS]; rfl)
@[simp] theorem s_ifs (c : IT) (a b : List IS) : evS P D (.ifs c a b) xv ρ μ = (evT P D xv c ρ μ).st ρ (kIfs P D xv a b ρ) := by first | (rw [evS]; done) | (rw [evS]; rfl)
@[simp] theorem s_wh (c : IT) (b : List IS) : evS P D (.wh c b) xv ρ μ = whDen (evT P D xv c) (evSs P D b xv) ρ μ := by rw [evS]
@[simp] theorem s_for (t : Tg) (it : BW.It) (b : List IS) : evS P D (.for t it b) xv ρ μ = (evIt P D xv it ρ μ).st ρ (kFor P D xv t b ρ) := by first | (rw [evS]; done) | (rw [evS]; rfl)
@[simp] theorem s_brk : evS P D .brk xv ρ μ = .mk (.bk ρ) μ := by rw [evS]
@[simp] theorem s_cnt : evS P D .cnt xv ρ μ = .mk (.ct ρ) μ := by rw [evS]
@[simp] theorem s_pass : evS P D .pass xv ρ μ = .mk (.nx ρ) μ := by rw [evS]
@[simp] theorem ss_nil' : evSs P D [] xv ρ μ = .mk (.nx ρ) μ := by rw [evSs]
@[simp] theorem ss_cons' (s : IS) (ss : List IS) : evSs P D (s :: ss) xv ρ μ = (evS P D s xv ρ μ).seq (kSs P D xv ss) := by first | (rw [evSs]; done) | (rw [evSs]; rfl)
@[simp] theorem kSs_ (ss : List IS) : kSs P D xv ss ρ μ = evSs P D ss xv ρ μ := rfl
@[simp] theorem kSet_ (i : Nat) (x : PV) : kSet i ρ x μ = .mk (.nx (ρ.set i (some x))) μ := rfl
@[simp] theorem kAsg_ (t : Tg) (x : PV) : kAsg t ρ x μ = kAsg2 (asg t x ρ μ) μ := rfl
@[simp] theorem kAsg2_ : kAsg2 (some ρ) μ = .mk (.nx ρ) μ := rfl
@[simp] theorem kPar2_ (i j : Nat) (v w : PV) : kPar2 i j ρ [v, w] μ = .mk (.nx ((ρ.set i (some v)).set j (some w))) μ := rfl
@[simp] theorem kPar3_ (i j k : Nat) (v w z : PV) : kPar3 i j k ρ [v, w, z] μ = .mk (.nx (((ρ.set i (some v)).set j (some w)).set k (some z))) μ := rfl
@[simp] theorem kSub1_ (a i : IE) (v : PV) : kSub1 P D xv a i ρ v μ = (evE P D xv a ρ μ).st ρ (kSub2 P D xv i v ρ) := rfl
@[simp] theorem kSub2_ (i : IE) (v x : PV) : kSub2 P D xv i v ρ x μ = (evE P D xv i ρ μ).st ρ (kSubD v x ρ) := rfl
@[simp] theorem kSubD_ (v : PV) (l : Nat) (k : Int) : kSubD v (.loc l) ρ (.int k) μ = stL l ρ v k μ μ[l]? := rfl
@[simp] theorem kSubDd_ (v : PV) (l : Nat) (ks : List PV) : kSubD v (.loc l) ρ (.tup ks) μ = stD l ρ v μ μ[l]? (intsOf ks) := rfl
@[simp] theorem stD_ (l : Nat) (v : PV) (kvs : List (List Int × PV)) (k : List Int) (h : kvs.length < sizeLine) : stD l ρ v μ (some (.dic kvs)) (some k) = .mk (.nx ρ) (μ.set l (.dic (dput k v kvs))) := if_pos h
@[simp] theorem kSub3_ (v : PV) (l : Nat) (k : Int) : kSub3 v (.loc l) ρ (.int k) μ = stL l ρ v k μ μ[l]? := rfl
@[simp] theorem stL_ (v : PV) (l j : Nat) (k : Int) (xs : List PV) (h : L2.ixN xs.length k = some j) : stL l ρ v k μ (some (.lst xs)) = .mk (.nx ρ) (μ.set l (.lst (xs.set j v))) := by
  unfold stL
  dsimp only
  rw [h]
@[simp] theorem kSf1_ (a : IE) (f : Nat) (v : PV) : kSf1 P D xv a f ρ v μ = (evE P D xv a ρ μ).st ρ (kSf2 f v ρ) := rfl
@[simp] theorem kSf2_ (f : Nat) (v : PV) (l : Nat) : kSf2 f v ρ (.loc l) μ = stF l ρ f v μ μ[l]? := rfl
@[simp] theorem stF_ (f l c : Nat) (v : PV) (fs : List (Nat × PV)) (h : fs.length < 1000) : stF l ρ f v μ (some (.ins c fs)) = .mk (.nx ρ) (μ.set l (.ins c (put f v fs))) := if_pos h
@[simp] theorem kAug_ (i : Nat) (o : Op) (e : IE) (x : PV) : kAug P D xv i o e ρ μ (some (some x)) = (evE P D xv e ρ μ).st ρ (kAug2 o x i ρ) := rfl
@[simp] theorem kAug2_ (o : Op) (x y : PV) (i : Nat) : kAug2 o x i ρ y μ = (augV o x y μ).st ρ (kSet i ρ) := rfl
@[simp] theorem kAS1_ (i e : IE) (o : Op) (x : PV) : kAS1 P D xv i e o ρ x μ = (evE P D xv i ρ μ).st ρ (kAS2 P D xv e o x ρ) := rfl
@[simp] theorem kAS2_ (e : IE) (o : Op) (x y : PV) : kAS2 P D xv e o x ρ y μ = (lixV x y μ).st ρ (kAS3 P D xv e o x y ρ) := rfl
@[simp] theorem kAS3_ (e : IE) (o : Op) (x y u : PV) : kAS3 P D xv e o x y ρ u μ = (evE P D xv e ρ μ).st ρ (kAS3b o x y u ρ) := rfl
@[simp] theorem kAS3b_ (o : Op) (x y u v : PV) : kAS3b o x y u ρ v μ = (augV o u v μ).st ρ (kAS4 x y ρ) := rfl
@[simp] theorem kAS4_ (x y z : PV) : kAS4 x y ρ z μ = kSub3 z x ρ y μ := rfl
@[simp] theorem kDrop_ (x : PV) : kDrop ρ x μ = .mk (.nx ρ) μ := rfl
@[simp] theorem kRet_ (x : PV) : kRet x μ = .mk (.rt x) μ := rfl
@[simp] theorem kIfs_ (a b : List IS) (k : Bool) : kIfs P D xv a b ρ k μ = if k = true then evSs P D a xv ρ μ else evSs P D b xv ρ μ := rfl
@[simp] theorem kFor_ (t : Tg) (b : List IS) (q : List PV × Sts) : kFor P D xv t b ρ q μ = forDen q.2 t (evSs P D b xv) q.1 ρ μ := rfl
@[simp] theorem out_nx : (RS.mk (.nx ρ) μ).out = .ok .non μ := rfl
@[simp] theorem out_rt (v : PV) : (RS.mk (.rt v) μ).out = .ok v μ := rfl
@[simp] theorem out_ex (e : PX) : (RS.mk (.ex e ρ) μ).out = .ex e μ := rfl
end
end
end BW
set_option maxHeartbeats 4000000
/-! Operators, bounds, loops of the small language. -/
namespace BW
open PySem PySem.Spec PyProof.Rows L2
/-! ### bounds -/
/-- below 2 ^ k either way -/
class Bd (x : Int) (k : outParam Nat) : Prop where
  h : x.natAbs < 2 ^ k
theorem pow_mono {a b : Nat} (h : a ≤ b) : 2 ^ a ≤ 2 ^ b := Nat.pow_le_pow_right (by decide) h
instance bd_lit (n : Nat) : Bd (no_index (OfNat.ofNat n) : Int) (n.log2 + 1) := ⟨by
  show n < 2 ^ (n.log2 + 1)
  exact Nat.lt_log2_self⟩
instance bd_neg (a : Int) (k : Nat) [h : Bd a k] : Bd (-a) k := ⟨by rw [Int.natAbs_neg]; exact h.h⟩
instance bd_add (a b : Int) (k l : Nat) [h : Bd a k] [h2 : Bd b l] : Bd (a + b) (max k l + 1) := ⟨by
  have h1 := Int.natAbs_add_le a b
  have q1 := pow_mono (Nat.le_max_left k l)
  have q2 := pow_mono (Nat.le_max_right k l)
  have := h.h
  have := h2.h
  rw [Nat.pow_succ]
  omega⟩
instance bd_sub (a b : Int) (k l : Nat) [h : Bd a k] [h2 : Bd b l] : Bd (a - b) (max k l + 1) := ⟨by
  have h1 := Int.natAbs_sub_le a b
  have q1 := pow_mono (Nat.le_max_left k l)
  have q2 := pow_mono (Nat.le_max_right k l)
  have := h.h
  have := h2.h
  rw [Nat.pow_succ]
  omega⟩
instance bd_mul (a b : Int) (k l : Nat) [h : Bd a k] [h2 : Bd b l] : Bd (a * b) (k + l) := ⟨by
  rw [Int.natAbs_mul, Nat.pow_add]
  exact Nat.mul_lt_mul'' h.h h2.h⟩
theorem fdiv_le (a b : Int) : (a.fdiv b).natAbs ≤ a.natAbs := by
  rcases Int.le_total 0 b with h | h
  · rw [Int.fdiv_eq_ediv_of_nonneg a h]
    exact Int.natAbs_ediv_le_natAbs a b
  · rw [← Int.neg_fdiv_neg, Int.fdiv_eq_ediv_of_nonneg (-a) (by omega), ← Int.natAbs_neg a]
    exact Int.natAbs_ediv_le_natAbs (-a) (-b)
instance bd_fdiv (a b : Int) (k : Nat) [h : Bd a k] : Bd (a.fdiv b) k := ⟨Nat.lt_of_le_of_lt (fdiv_le a b) h.h⟩
theorem fmod_le (a b : Int) (hb : b ≠ 0) : (a.fmod b).natAbs < b.natAbs := by
  rcases Int.lt_or_gt_of_ne hb with h | h
  · have e := Int.neg_fmod_neg a b
    have m1 : (-a).fmod (-b) < -b := Int.fmod_lt_of_pos (-a) (by omega)
    have m2 : 0 ≤ (-a).fmod (-b) := Int.fmod_nonneg_of_pos (-a) (by omega)
    omega
  · have m1 : a.fmod b < b := Int.fmod_lt_of_pos a h
    have m2 : 0 ≤ a.fmod b := Int.fmod_nonneg_of_pos a h
    omega
instance bd_fmod (a b : Int) (k l : Nat) [h : Bd a k] [h2 : Bd b l] : Bd (a.fmod b) (max k l) := ⟨by
  have q1 := pow_mono (Nat.le_max_left k l)
  have q2 := pow_mono (Nat.le_max_right k l)
  have := h.h
  have := h2.h
  by_cases hb : b = 0
  · subst hb
    simp
    omega
  · have := fmod_le a b hb
    omega⟩
instance bd_pow (a : Int) (k n : Nat) [h : Bd a k] : Bd (a ^ n) (k * n + 1) := ⟨by
  rw [Int.natAbs_pow, Nat.pow_succ, Nat.pow_mul]
  have h1 := Nat.pow_le_pow_left (Nat.le_of_lt h.h) n
  have h2 : 0 < (2 ^ k) ^ n := Nat.pow_pos (Nat.pow_pos (by decide))
  omega⟩
instance bd_abs (a : Int) (k : Nat) [h : Bd a k] : Bd (a.natAbs : Int) k := ⟨by rw [Int.natAbs_natCast]; exact h.h⟩
instance bd_max (a b : Int) (k l : Nat) [h : Bd a k] [h2 : Bd b l] : Bd (max a b) (max k l) := ⟨by
  have q1 := pow_mono (Nat.le_max_left k l)
  have q2 := pow_mono (Nat.le_max_right k l)
  have := h.h
  have := h2.h
  rcases Int.le_total a b with z | z
  · rw [Int.max_eq_right z]; omega
  · rw [Int.max_eq_left z]; omega⟩
instance bd_min (a b : Int) (k l : Nat) [h : Bd a k] [h2 : Bd b l] : Bd (min a b) (max k l) := ⟨by
  have q1 := pow_mono (Nat.le_max_left k l)
  have q2 := pow_mono (Nat.le_max_right k l)
  have := h.h
  have := h2.h
  rcases Int.le_total a b with z | z
  · rw [Int.min_eq_left z]; omega
  · rw [Int.min_eq_right z]; omega⟩
instance (priority := high) bd_fmod_lit (a : Int) (n : Nat) [hn : NeZero n] : Bd (a.fmod (no_index (OfNat.ofNat n))) (n.log2 + 1) := ⟨by
  have h0 : (OfNat.ofNat n : Int) ≠ 0 := by
    have := hn.out
    show ((n : Nat) : Int) ≠ 0
    omega
  exact Nat.lt_trans (fmod_le a _ h0) (show n < 2 ^ (n.log2 + 1) from Nat.lt_log2_self)⟩
theorem Bd.mono {a : Int} {k l : Nat} (h : Bd a k) (hl : k ≤ l) : Bd a l := ⟨Nat.lt_of_lt_of_le h.h (pow_mono hl)⟩
theorem log2_lt {n k : Nat} (h : n < 2 ^ k) (hk : 0 < k) : n.log2 < k := by
  by_cases hn : n = 0
  · subst hn; simpa using hk
  · exact (Nat.log2_lt hn).mpr h
theorem mulOk_of (a b : Int) {k l : Nat} [h : Bd a k] [h2 : Bd b l] (hk : Nat.ble (k + l) 99999990 = true) : mulOk a b := by
  have := Nat.le_of_ble_eq_true hk
  have h1 := h.h
  have h2 := h2.h
  have q1 : a.natAbs.log2 ≤ k := by
    by_cases z : k = 0
    · subst z
      have : a.natAbs = 0 := by simpa using h1
      rw [this]; simp
    · exact Nat.le_of_lt (log2_lt h1 (by omega))
  have q2 : b.natAbs.log2 ≤ l := by
    by_cases z : l = 0
    · subst z
      have : b.natAbs = 0 := by simpa using h2
      rw [this]; simp
    · exact Nat.le_of_lt (log2_lt h2 (by omega))
  unfold mulOk
  omega
theorem divOk_of (a b : Int) {l : Nat} [h2 : Bd b l] (hb : b ≠ 0) (hk : Nat.ble l 9000 = true) : divOk a b := by
  have := Nat.le_of_ble_eq_true hk
  refine ⟨hb, ?_⟩
  by_cases z : l = 0
  · subst z
    have h := h2.h
    have : b.natAbs = 0 := by simpa using h
    rw [this]; simp
  · have := log2_lt h2.h (by omega)
    omega
/-! ### operators -/
section
variable (a b : Int) (μ : Store)
@[simp] theorem binV_add : binV .add (.int a) (.int b) μ = .ok (.int (a + b)) μ := rfl
@[simp] theorem binV_sub : binV .sub (.int a) (.int b) μ = .ok (.int (a - b)) μ := rfl
@[simp] theorem binV_mul (h : mulOk a b) : binV .mul (.int a) (.int b) μ = .ok (.int (a * b)) μ := if_pos h
@[simp] theorem binV_fdiv (h : divOk a b) : binV .fdiv (.int a) (.int b) μ = .ok (.int (a.fdiv b)) μ := if_pos h
@[simp] theorem binV_mod (h : b ≠ 0) : binV .mod (.int a) (.int b) μ = .ok (.int (a.fmod b)) μ := if_pos h
@[simp] theorem binV_pow (h : powOk a b) : binV .pow (.int a) (.int b) μ = .ok (.int (a ^ b.toNat)) μ := if_pos h
@[simp] theorem negV_ : negV (.int a) μ = .ok (.int (-a)) μ := rfl
@[simp] theorem cmpV_lt : cmpV .lt (.int a) (.int b) μ = .ok (.bl (decide (a < b))) μ := rfl
@[simp] theorem cmpV_le : cmpV .le (.int a) (.int b) μ = .ok (.bl (decide (a ≤ b))) μ := rfl
@[simp] theorem cmpV_gt : cmpV .gt (.int a) (.int b) μ = .ok (.bl (decide (b < a))) μ := rfl
@[simp] theorem cmpV_ge : cmpV .ge (.int a) (.int b) μ = .ok (.bl (decide (b ≤ a))) μ := rfl
theorem shaped_int : SeqAt.shaped (.int a) = true := rfl
theorem eqB_int : eqB μ (.int a) (.int b) = some (decide (a = b)) := by
  unfold eqB
  show (if SeqAt.shaped (.int a) = true ∧ SeqAt.shaped (.int b) = true then some (PyData.eqv (.int a) (.int b)) else none) = _
  rw [if_pos ⟨rfl, rfl⟩]
  congr 1
  first | done | rfl | (rw [Bool.eq_iff_iff]; simp [PyData.eqv])
@[simp] theorem cmpV_eq : cmpV .eq (.int a) (.int b) μ = .ok (.bl (decide (a = b))) μ := by
  rw [show cmpV .eq (.int a) (.int b) μ = (Res.ofO (eqB μ (.int a) (.int b)) μ).bind (fun b μ => Res.ok (PV.bl b) μ) from rfl, eqB_int]
  rfl
@[simp] theorem cmpV_ne : cmpV .ne (.int a) (.int b) μ = .ok (.bl (!decide (a = b))) μ := by
  rw [show cmpV .ne (.int a) (.int b) μ = (Res.ofO (eqB μ (.int a) (.int b)) μ).bind (fun b μ => Res.ok (PV.bl (!b)) μ) from rfl, eqB_int]
  rfl
@[simp] theorem cmpV_isN : cmpV .is .non .non μ = .ok (.bl true) μ := rfl
@[simp] theorem cmpV_isnN : cmpV .isnot .non .non μ = .ok (.bl false) μ := rfl
@[simp] theorem tr_bl (k : Bool) : BW.truthy μ (.bl k) = some k := rfl
@[simp] theorem tr_int : BW.truthy μ (.int a) = some (a != 0) := rfl
@[simp] theorem tr_non : BW.truthy μ .non = some false := rfl
@[simp] theorem tr_tup (xs : List PV) : BW.truthy μ (.tup xs) = some (!xs.isEmpty) := rfl
@[simp] theorem bi_abs : biV .abs [.int a] μ = .ok (.int (a.natAbs : Nat)) μ := by
  show Res.ok (PV.int (if a < 0 then -a else a)) μ = _
  congr 2
  split <;> omega
@[simp] theorem bi_max : biV .max [.int a, .int b] μ = .ok (.int (max a b)) μ := by
  show Res.ok (PV.int (if b > a then b else a)) μ = _
  congr 2
  split <;> omega
@[simp] theorem bi_min : biV .min [.int a, .int b] μ = .ok (.int (min a b)) μ := by
  show Res.ok (PV.int (if b < a then b else a)) μ = _
  congr 2
  split <;> omega
@[simp] theorem bi_int : biV .int [.int a] μ = .ok (.int a) μ := rfl
@[simp] theorem bi_intb (k : Bool) : biV .int [.bl k] μ = .ok (.int (if k then 1 else 0)) μ := rfl
@[simp] theorem bi_len_t (xs : List PV) : biV .len [.tup xs] μ = .ok (.int xs.length) μ := rfl
@[simp] theorem bi_len_l (l : Nat) : biV .len [.loc l] μ = (Res.ofO (listAt μ (.loc l)) μ).bind (fun xs μ => .ok (.int xs.length) μ) := rfl
@[simp] theorem listAt_loc (l : Nat) : listAt μ (.loc l) = (match μ[l]? with
    | some (.lst xs) => some xs
    | some (.frz xs) => some xs
    | _ => none) := rfl
@[simp] theorem idx_t (xs : List PV) : idxV (.tup xs) (.int a) μ = Res.ofO (L2.atI xs a) μ := rfl
@[simp] theorem idx_l (l : Nat) : idxV (.loc l) (.int a) μ = (Res.ofO (listAt μ (.loc l)) μ).bind fun xs μ => Res.ofO (L2.atI xs a) μ := rfl
@[simp] theorem tag_int : tagOf μ (.int a) = some .int := rfl
@[simp] theorem tag_bl (k : Bool) : tagOf μ (.bl k) = some .bl := rfl
@[simp] theorem tag_non : tagOf μ .non = some .non := rfl
@[simp] theorem tag_tup (xs : List PV) : tagOf μ (.tup xs) = some .tup := rfl
@[simp] theorem tag_str (s : Str) : tagOf μ (.str s) = some .str := rfl
@[simp] theorem isTags_nil (P : Prog) (g : Tag) : isTags P g [] = some false := rfl
@[simp] theorem isTags_cons (P : Prog) (g : Tag) (t : Ty) (r : List Ty) : isTags P g (t :: r) = (match isTag P g t with
    | some true => some true
    | some false => isTags P g r
    | none => none) := rfl
@[simp] theorem asg_nm (i : Nat) (v : PV) (ρ : BW.Env) : asg (.nm i) v ρ μ = some (ρ.set i (some v)) := by rw [asg]
@[simp] theorem asg_tup (ts : List Tg) (vs : List PV) (ρ : BW.Env) : asg (.tup ts) (.tup vs) ρ μ = asgs ts vs ρ μ := by rw [asg]; rfl
@[simp] theorem asgs_nil (ρ : BW.Env) : asgs [] [] ρ μ = some ρ := by rw [asgs]
@[simp] theorem asgs_cons (t : Tg) (ts : List Tg) (v : PV) (vs : List PV) (ρ : BW.Env) : asgs (t :: ts) (v :: vs) ρ μ = (asg t v ρ μ).bind fun ρ => asgs ts vs ρ μ := by rw [asgs]
@[simp] theorem le_size {n : Nat} (h : n ≤ 1000000) : (n ≤ sizeLine) = True := by
  rw [eq_iff_iff]
  exact ⟨fun _ => trivial, fun _ => by rw [sizeLine_eq]; omega⟩
theorem le_size' {n : Nat} (h : n ≤ 1000000) : n ≤ sizeLine := by rw [sizeLine_eq]; omega
end
/-! ### the store -/
section
variable (μ ν : Store)
@[simp] theorem get_end (k : Nat) : (μ ++ ν)[μ.length + k]? = ν[k]? := by
  rw [List.getElem?_append_right (by omega)]
  congr 1
  omega
@[simp] theorem get_end0 : (μ ++ ν)[μ.length]? = ν[0]? := get_end μ ν 0
@[simp] theorem set_end (k : Nat) (c : Cell) : (μ ++ ν).set (μ.length + k) c = μ ++ ν.set k c := by
  rw [List.set_append_right _ _ (by omega)]
  congr 2
  omega
@[simp] theorem set_end0 (c : Cell) : (μ ++ ν).set μ.length c = μ ++ ν.set 0 c := set_end μ ν 0 c
end
/-- new cells behind the store -/
def Gr (μ μ' : Store) : Prop := ∃ ν, μ' = μ ++ ν
theorem Gr.refl {μ : Store} : Gr μ μ := ⟨[], by simp⟩
theorem Gr.app {μ ν : Store} : Gr μ (μ ++ ν) := ⟨ν, rfl⟩
theorem Gr.trans {a b c : Store} (h : Gr a b) (h2 : Gr b c) : Gr a c := by
  obtain ⟨ν, rfl⟩ := h
  obtain ⟨ν2, rfl⟩ := h2
  exact ⟨ν ++ ν2, by simp⟩
theorem Gr.get {μ μ' : Store} (h : Gr μ μ') {l : Nat} {c : Cell} (e : μ[l]? = some c) : μ'[l]? = some c := by
  obtain ⟨ν, rfl⟩ := h
  exact get_pre (List.prefix_append _ _) e
/-! ### loops -/
/-- a for: I by the turn -/
theorem for_run {ls : Sts} {t : Tg} {b : BW.Env → Store → RS} {items : List PV} (I : Nat → BW.Env → Store → Prop) (Post : RS → Prop) (hs : ∀ i ρ μ, I i ρ μ → stand μ ls)
    (step : ∀ i ρ μ x, items[i]? = some x → I i ρ μ → ∃ ρ1, asg t x ρ μ = some ρ1 ∧
      ((∃ ρ2 μ2, (b ρ1 μ = .mk (.nx ρ2) μ2 ∨ b ρ1 μ = .mk (.ct ρ2) μ2) ∧ I (i + 1) ρ2 μ2) ∨ (∃ ρ2 μ2, b ρ1 μ = .mk (.bk ρ2) μ2 ∧ Post (.mk (.nx ρ2) μ2)) ∨ (∃ v μ2, b ρ1 μ = .mk (.rt v) μ2 ∧ Post (.mk (.rt v) μ2))))
    (fin : ∀ ρ μ, I items.length ρ μ → Post (.mk (.nx ρ) μ)) {ρ : BW.Env} {μ : Store} (h0 : I 0 ρ μ) : ∃ r, forDen ls t b items ρ μ = r ∧ Post r := by
  have key : ∀ (k : Nat) (i : Nat) (ρ : BW.Env) (μ : Store), items.length - i = k → i ≤ items.length → I i ρ μ → ∃ r, forDen ls t b (items.drop i) ρ μ = r ∧ Post r := by
    intro k
    induction k with
    | zero =>
      intro i ρ μ hk hi hI
      have : i = items.length := by omega
      subst this
      rw [List.drop_length, forDen, if_pos (hs _ _ _ hI)]
      exact ⟨_, rfl, fin _ _ hI⟩
    | succ k ih =>
      intro i ρ μ hk hi hI
      have hlt : i < items.length := by omega
      obtain ⟨ρ1, e1, h⟩ := step i ρ μ items[i] (List.getElem?_eq_getElem hlt) hI
      rw [List.drop_eq_getElem_cons hlt, forDen, if_pos (hs _ _ _ hI), e1]
      dsimp only
      rcases h with ⟨ρ2, μ2, e2, hI2⟩ | ⟨ρ2, μ2, e2, p⟩ | ⟨v, μ2, e2, p⟩
      · obtain ⟨r, h, p⟩ := ih (i + 1) ρ2 μ2 (by omega) hlt hI2
        refine ⟨r, ?_, p⟩
        rcases e2 with e2 | e2
        · rw [e2]; exact h
        · rw [e2]; exact h
      · rw [e2]; exact ⟨_, rfl, p⟩
      · rw [e2]; exact ⟨_, rfl, p⟩
  have := key _ 0 ρ μ rfl (Nat.zero_le _) h0
  rw [List.drop_zero] at this
  exact this
theorem for_post {ls : Sts} {t : Tg} {b : BW.Env → Store → RS} {items : List PV} {ρ : BW.Env} {μ : Store} (I : Nat → BW.Env → Store → Prop) (Post : RS → Prop) (h0 : I 0 ρ μ) (hs : ∀ i ρ μ, I i ρ μ → stand μ ls)
    (fin : ∀ ρ μ, I items.length ρ μ → Post (.mk (.nx ρ) μ))
    (step : ∀ i ρ μ x, items[i]? = some x → I i ρ μ → ∃ ρ1, asg t x ρ μ = some ρ1 ∧
      ((∃ ρ2 μ2, (b ρ1 μ = .mk (.nx ρ2) μ2 ∨ b ρ1 μ = .mk (.ct ρ2) μ2) ∧ I (i + 1) ρ2 μ2) ∨ (∃ ρ2 μ2, b ρ1 μ = .mk (.bk ρ2) μ2 ∧ Post (.mk (.nx ρ2) μ2)) ∨ (∃ v μ2, b ρ1 μ = .mk (.rt v) μ2 ∧ Post (.mk (.rt v) μ2)))) : Post (forDen ls t b items ρ μ) := by
  obtain ⟨r, e, p⟩ := for_run I Post hs step fin h0
  rw [e]; exact p
/-- a comprehension: I by the turn and the items so far -/
theorem lc_run {ls : Sts} {t : Tg} {c : BW.Env → Store → Res Bool} {e : BW.Env → Store → Res PV} {items : List PV} {ρ : BW.Env} (I : Nat → List PV → Store → Prop) (hs : ∀ i acc μ, I i acc μ → stand μ ls ∧ acc.length ≤ i) (hsz : items.length ≤ sizeLine)
    (step : ∀ i acc μ x, items[i]? = some x → I i acc μ → ∃ ρ1, asg t x ρ μ = some ρ1 ∧ ((∃ μ1 v μ2, c ρ1 μ = .ok true μ1 ∧ e ρ1 μ1 = .ok v μ2 ∧ I (i + 1) (acc ++ [v]) μ2) ∨ (∃ μ1, c ρ1 μ = .ok false μ1 ∧ I (i + 1) acc μ1)))
    {μ : Store} (h0 : I 0 [] μ) : ∃ acc μ', lcDen ls ρ t c e items [] μ = .ok acc μ' ∧ I items.length acc μ' := by
  have key : ∀ (k : Nat) (i : Nat) (acc : List PV) (μ : Store), items.length - i = k → i ≤ items.length → I i acc μ → ∃ acc' μ', lcDen ls ρ t c e (items.drop i) acc μ = .ok acc' μ' ∧ I items.length acc' μ' := by
    intro k
    induction k with
    | zero =>
      intro i acc μ hk hi hI
      have : i = items.length := by omega
      subst this
      rw [List.drop_length, lcDen, if_pos (hs _ _ _ hI).1]
      exact ⟨_, _, rfl, hI⟩
    | succ k ih =>
      intro i acc μ hk hi hI
      have hlt : i < items.length := by omega
      obtain ⟨ρ1, e1, h⟩ := step i acc μ items[i] (List.getElem?_eq_getElem hlt) hI
      have hl := (hs _ _ _ hI).2
      rw [List.drop_eq_getElem_cons hlt, lcDen, if_pos (hs _ _ _ hI).1, e1]
      dsimp only
      rcases h with ⟨μ1, v, μ2, e2, e3, hI2⟩ | ⟨μ1, e2, hI2⟩
      · rw [e2]
        dsimp only
        rw [e3]
        dsimp only
        rw [if_pos (by omega)]
        exact ih (i + 1) _ μ2 (by omega) hlt hI2
      · rw [e2]
        exact ih (i + 1) _ μ1 (by omega) hlt hI2
  have := key _ 0 [] μ rfl (Nat.zero_le _) h0
  rw [List.drop_zero] at this
  exact this
/-! ### no classes of instances -/
end BW
set_option maxHeartbeats 4000000
/-! Plain arithmetic, ranges, sorted pairs. -/
namespace BW
open PySem PySem.Spec PyProof.Rows L2
theorem fmod_eq (x y : Int) : x.fmod y = x - y * x.fdiv y := by
  have := Int.mul_fdiv_add_fmod x y
  omega
theorem rngOf_one {hi : Int} (h3 : -(2 ^ 62) ≤ hi) (h4 : hi < 2 ^ 62) : rngOf [.int hi] = some (rngV 0 1 hi.toNat) := if_pos (show rng1 0 hi from ⟨by decide, by decide, h3, h4⟩)
/-! ### slices, sums of lists -/
def kCut (lo hi : Option Int) (xs : List PV) (μ : Store) : Res PV := .ok (.loc μ.length) (μ ++ [.lst (cut xs lo hi)])
section
variable (μ : Store)
@[simp] theorem kCut_ (lo hi : Option Int) (xs : List PV) : kCut lo hi xs μ = .ok (.loc μ.length) (μ ++ [.lst (cut xs lo hi)]) := rfl
@[simp] theorem slcL0 (l : Nat) : slcV (.loc l) none none μ = (Res.ofO (listAt μ (.loc l)) μ).bind (kCut none none) := rfl
@[simp] theorem slcL1 (l : Nat) (a : Int) : slcV (.loc l) (some (.int a)) none μ = (Res.ofO (listAt μ (.loc l)) μ).bind (kCut (some a) none) := rfl
@[simp] theorem slcL2 (l : Nat) (a : Int) : slcV (.loc l) none (some (.int a)) μ = (Res.ofO (listAt μ (.loc l)) μ).bind (kCut none (some a)) := rfl
@[simp] theorem slcL3 (l : Nat) (a b : Int) : slcV (.loc l) (some (.int a)) (some (.int b)) μ = (Res.ofO (listAt μ (.loc l)) μ).bind (kCut (some a) (some b)) := rfl
@[simp] theorem slcT0 (xs : List PV) : slcV (.tup xs) none none μ = .ok (.tup (cut xs none none)) μ := rfl
@[simp] theorem slcT1 (xs : List PV) (a : Int) : slcV (.tup xs) (some (.int a)) none μ = .ok (.tup (cut xs (some a) none)) μ := rfl
@[simp] theorem slcT2 (xs : List PV) (a : Int) : slcV (.tup xs) none (some (.int a)) μ = .ok (.tup (cut xs none (some a))) μ := rfl
@[simp] theorem slcT3 (xs : List PV) (a b : Int) : slcV (.tup xs) (some (.int a)) (some (.int b)) μ = .ok (.tup (cut xs (some a) (some b))) μ := rfl
def addL (μ : Store) : Option Cell → Option Cell → Res PV
  | some (.lst xs), some (.lst ys) => if xs.length + ys.length ≤ sizeLine then .ok (.loc μ.length) (μ ++ [.lst (xs ++ ys)]) else .bad
  | _, _ => .bad
@[simp] theorem binV_addL (a b : Nat) : binV .add (.loc a) (.loc b) μ = addL μ μ[a]? μ[b]? := by
  show (match μ[a]?, μ[b]? with
    | some (.lst xs), some (.lst ys) => if xs.length + ys.length ≤ sizeLine then Res.ok (PV.loc μ.length) (μ ++ [Cell.lst (xs ++ ys)]) else .bad
    | _, _ => .bad) = _
  unfold addL
  cases μ[a]? with
  | none => rfl
  | some c =>
    cases c <;> first | rfl | (cases μ[b]? with
      | none => rfl
      | some d => cases d <;> rfl)
@[simp] theorem addL_ (xs ys : List PV) (h : xs.length + ys.length ≤ sizeLine) : addL μ (some (.lst xs)) (some (.lst ys)) = .ok (.loc μ.length) (μ ++ [.lst (xs ++ ys)]) := if_pos h
end
theorem cut_to {xs : List PV} {k : Int} (h : 0 ≤ k) : cut xs none (some k) = xs.take k.toNat := by
  obtain ⟨n, rfl⟩ := Int.eq_ofNat_of_zero_le h
  unfold cut
  rw [HT.sIx_none, HT.sIx_nat, List.drop_zero, Int.toNat_natCast, Nat.sub_zero]
  rcases Nat.le_total n xs.length with z | z
  · rw [Nat.min_eq_left z]
  · rw [Nat.min_eq_right z, List.take_of_length_le (Nat.le_refl _), List.take_of_length_le z]
theorem cut_from {xs : List PV} {k : Int} (h : 0 ≤ k) : cut xs (some k) none = xs.drop k.toNat := by
  obtain ⟨n, rfl⟩ := Int.eq_ofNat_of_zero_le h
  unfold cut
  rw [HT.sIx_none, HT.sIx_nat, Int.toNat_natCast]
  rcases Nat.le_total n xs.length with z | z
  · rw [Nat.min_eq_left z, List.take_of_length_le (by simp)]
  · rw [Nat.min_eq_right z, List.drop_of_length_le (Nat.le_refl _), List.drop_of_length_le z]; simp
theorem atI_map {xs : List Int} {i : Int} (h0 : 0 ≤ i) (h1 : i < xs.length) : L2.atI (xs.map PV.int) i = some (.int (xs.getD i.toNat 0)) := by
  obtain ⟨n, rfl⟩ := Int.eq_ofNat_of_zero_le h0
  have hn : n < xs.length := by omega
  have : (xs.map PV.int)[n]? = some (.int (xs.getD n 0)) := by
    rw [List.getElem?_map, List.getElem?_eq_getElem hn, List.getD_eq_getElem?_getD, List.getElem?_eq_getElem hn]
    rfl
  exact L2.atI_nat this
theorem bits_bd {z : Int} {n : Nat} (h : Builtin.Int.intBits z ≤ n) : Bd z n := ⟨by
  unfold Builtin.Int.intBits at h
  split at h
  · rename_i e
    have e : z = 0 := by simpa using e
    subst e
    exact Nat.pow_pos (by decide)
  · exact Nat.lt_of_lt_of_le Nat.lt_log2_self (pow_mono h)⟩
theorem stand_nil {μ : Store} : stand μ [] := fun q hq => by cases hq
end BW
set_option maxHeartbeats 4000000
/-! Defs that many laws have, once: divisor, is_int, measure, time_of, point_of. -/
local macro_rules | `(tactic| walk_at "dv") => `(tactic| first | assumption | exact BW.mulOk_of _ _ (by decide) | exact BW.divOk_of _ _ (by first | decide | assumption | omega) (by decide) | decide | omega | (refine BW.le_size' ?_; first | omega | (simp only [List.length_cons, List.length_nil, List.length_append, List.length_map]; omega)) | simp)
namespace BW
open PySem PySem.Spec PyProof.Rows L2
theorem den_at {P : Prog} {n i : Nat} {F : Fn} {args : List PV} {μ : Store} (h : P.fn[i]? = some F) (hl : args.length = F.np) : den P (n + 1) i args μ = (evSs P (den P n) F.body none (args.map some ++ List.replicate (F.slots - F.np) none) μ).out := by
  exact den_fn h hl μ
section
variable {P : Prog} {i : Nat}
end
/-! ### equality of tuples of numbers, of truths, of empty lists -/
section
variable (μ : Store)
theorem eqB_2 (a b c d : Int) : eqB μ (.tup [.int a, .int b]) (.tup [.int c, .int d]) = some (decide (a = c) && decide (b = d)) := by
  show (if SeqAt.shaped (.tuple [.int a, .int b]) = true ∧ SeqAt.shaped (.tuple [.int c, .int d]) = true then some (PyData.eqv (.tuple [.int a, .int b]) (.tuple [.int c, .int d])) else none) = _
  rw [if_pos ⟨rfl, rfl⟩]
  congr 1
  rw [Bool.eq_iff_iff]
  simp [PyData.eqv, PyData.eqvAll]
theorem eqB_3 (a b e c d f : Int) : eqB μ (.tup [.int a, .int b, .int e]) (.tup [.int c, .int d, .int f]) = some (decide (a = c) && (decide (b = d) && decide (e = f))) := by
  show (if SeqAt.shaped (.tuple [.int a, .int b, .int e]) = true ∧ SeqAt.shaped (.tuple [.int c, .int d, .int f]) = true then some (PyData.eqv (.tuple [.int a, .int b, .int e]) (.tuple [.int c, .int d, .int f])) else none) = _
  rw [if_pos ⟨rfl, rfl⟩]
  congr 1
  rw [Bool.eq_iff_iff]
  simp [PyData.eqv, PyData.eqvAll]
theorem eqB_bl (a b : Bool) : eqB μ (.bl a) (.bl b) = some (decide (a = b)) := by
  show (if SeqAt.shaped (.bool a) = true ∧ SeqAt.shaped (.bool b) = true then some (PyData.eqv (.bool a) (.bool b)) else none) = _
  rw [if_pos ⟨rfl, rfl⟩]
  cases a <;> cases b <;> rfl
theorem cmpV_eqB {x y : PV} {b : Bool} (h : eqB μ x y = some b) : cmpV .eq x y μ = .ok (.bl b) μ := by
  rw [show cmpV .eq x y μ = (Res.ofO (eqB μ x y) μ).bind (fun b μ => Res.ok (PV.bl b) μ) from rfl, h]
  rfl
theorem cmpV_neB {x y : PV} {b : Bool} (h : eqB μ x y = some b) : cmpV .ne x y μ = .ok (.bl (!b)) μ := by
  rw [show cmpV .ne x y μ = (Res.ofO (eqB μ x y) μ).bind (fun b μ => Res.ok (PV.bl (!b)) μ) from rfl, h]
  rfl
@[simp] theorem cmpV_eq2 (a b c d : Int) : cmpV .eq (.tup [.int a, .int b]) (.tup [.int c, .int d]) μ = .ok (.bl (decide (a = c) && decide (b = d))) μ := cmpV_eqB μ (eqB_2 μ a b c d)
@[simp] theorem cmpV_ne2 (a b c d : Int) : cmpV .ne (.tup [.int a, .int b]) (.tup [.int c, .int d]) μ = .ok (.bl (!(decide (a = c) && decide (b = d)))) μ := cmpV_neB μ (eqB_2 μ a b c d)
@[simp] theorem cmpV_eq3 (a b e c d f : Int) : cmpV .eq (.tup [.int a, .int b, .int e]) (.tup [.int c, .int d, .int f]) μ = .ok (.bl (decide (a = c) && (decide (b = d) && decide (e = f)))) μ := cmpV_eqB μ (eqB_3 μ a b e c d f)
@[simp] theorem cmpV_ne3 (a b e c d f : Int) : cmpV .ne (.tup [.int a, .int b, .int e]) (.tup [.int c, .int d, .int f]) μ = .ok (.bl (!(decide (a = c) && (decide (b = d) && decide (e = f))))) μ := cmpV_neB μ (eqB_3 μ a b e c d f)
@[simp] theorem cmpV_eqb (a b : Bool) : cmpV .eq (.bl a) (.bl b) μ = .ok (.bl (decide (a = b))) μ := cmpV_eqB μ (eqB_bl μ a b)
@[simp] theorem cmpV_neb (a b : Bool) : cmpV .ne (.bl a) (.bl b) μ = .ok (.bl (!decide (a = b))) μ := cmpV_neB μ (eqB_bl μ a b)
/-- a pair of numbers among pairs -/
def pr (h : Int × Int) : PV := .tup [.int h.1, .int h.2]
end
/-! ### lists -/
section
variable (μ : Store)
theorem lc_pure {ls : Sts} {i : Nat} {c : BW.Env → Store → Res Bool} {e : BW.Env → Store → Res PV} {items : List PV} {ρ : BW.Env} {μ : Store} (f : PV → PV) (hs : stand μ ls) (hsz : items.length ≤ sizeLine)
    (hc : ∀ x ∈ items, c (ρ.set i (some x)) μ = .ok true μ) (he : ∀ x ∈ items, e (ρ.set i (some x)) μ = .ok (f x) μ) : lcDen ls ρ (.nm i) c e items [] μ = .ok (items.map f) μ := by
  obtain ⟨acc, μ', h, h2, h3⟩ := lc_run (ls := ls) (t := .nm i) (c := c) (e := e) (items := items) (ρ := ρ) (fun k acc m => m = μ ∧ acc = (items.take k).map f)
    (fun k acc m h => by
      obtain ⟨rfl, rfl⟩ := h
      exact ⟨hs, by simp; omega⟩) hsz
    (fun k acc m x hx h => by
      obtain ⟨rfl, rfl⟩ := h
      refine ⟨_, asg_nm m i x ρ, .inl ⟨m, f x, m, hc x (List.mem_of_getElem? hx), he x (List.mem_of_getElem? hx), rfl, ?_⟩⟩
      rw [List.take_succ, hx]
      simp) (μ := μ) ⟨rfl, by simp⟩
  rw [h, h2, h3, List.take_length]
@[simp] theorem bmOk_app (l : Nat) : bmOk .append (.loc l) μ = (listAt μ (.loc l)).isSome := rfl
def appL (l : Nat) (x : PV) (μ : Store) : Option Cell → Res PV
  | some (.lst xs) => if xs.length < sizeLine then .ok .non (μ.set l (.lst (xs ++ [x]))) else .bad
  | _ => .bad
@[simp] theorem bm_app (l : Nat) (x : PV) : bmV .append (.loc l) [x] μ = appL l x μ μ[l]? := by
  show (match μ[l]? with
    | some (.lst xs) => if xs.length < sizeLine then Res.ok PV.non (μ.set l (.lst (xs ++ [x]))) else .bad
    | _ => .bad) = _
  unfold appL
  cases μ[l]? with
  | none => rfl
  | some c => cases c <;> rfl
@[simp] theorem appL_ (l : Nat) (x : PV) (xs : List PV) (h : xs.length ≤ 999999) : appL l x μ (some (.lst xs)) = .ok .non (μ.set l (.lst (xs ++ [x]))) := if_pos (by rw [sizeLine_eq]; omega)
@[simp] theorem cmpV_inn (x y : PV) : cmpV .inn x y μ = (Res.ofO (inB μ x y) μ).bind fun b μ => .ok (.bl b) μ := rfl
@[simp] theorem cmpV_notin (x y : PV) : cmpV .notin x y μ = (Res.ofO (inB μ x y) μ).bind fun b μ => .ok (.bl (!b)) μ := rfl
theorem nodup_len {α : Type} [DecidableEq α] : ∀ {xs ys : List α}, xs.Nodup → (∀ x ∈ xs, x ∈ ys) → xs.length ≤ ys.length
  | [], _, _, _ => Nat.zero_le _
  | x :: xs, ys, h, hs => by
    have hx := hs x (List.mem_cons_self)
    have hn := List.nodup_cons.mp h
    have := nodup_len (xs := xs) (ys := ys.erase x) hn.2 (fun y hy => (List.mem_erase_of_ne (fun e => hn.1 (by rw [← e]; exact hy))).mpr (hs y (List.mem_cons_of_mem _ hy)))
    rw [List.length_erase_of_mem hx] at this
    have : 0 < ys.length := List.length_pos_of_mem hx
    simp
    omega
theorem cut_map {α β : Type} (f : α → β) (xs : List α) (a b : Option Int) : cut (xs.map f) a b = (cut xs a b).map f := by
  unfold cut
  rw [List.length_map, List.map_take, List.map_drop]
theorem get_app {μ : Store} {l : Nat} {c : Cell} (f : μ[l]? = some c) (ν : Store) : (μ ++ ν)[l]? = some c := (Gr.app (ν := ν)).get f
theorem get_app' {μ : Store} {l : Nat} {c : Cell} (f : μ[l]? = some c) (ν : Store) (h : l < (μ ++ ν).length) : (μ ++ ν)[l]'h = c := by
  have := get_app f ν
  rw [List.getElem?_eq_getElem h] at this
  injection this
@[simp] theorem seqOf_tup (xs : List PV) : seqOf μ (.tup xs) = some (xs, []) := rfl
@[simp] theorem seqOf_loc (l : Nat) : seqOf μ (.loc l) = (listAt μ (.loc l)).map fun xs => (xs, [(l, xs)]) := rfl
theorem lc_ints {ls : Sts} {i : Nat} {c : BW.Env → Store → Res Bool} {e : BW.Env → Store → Res PV} {xs : List Int} {ρ : BW.Env} {μ : Store} (g : Int → Int) (hs : stand μ ls) (hsz : xs.length ≤ 1000000)
    (hc : ∀ x ∈ xs, c (ρ.set i (some (.int x))) μ = .ok true μ) (he : ∀ x ∈ xs, e (ρ.set i (some (.int x))) μ = .ok (.int (g x)) μ) : lcDen ls ρ (.nm i) c e (xs.map .int) [] μ = .ok ((xs.map g).map .int) μ := by
  rw [lc_pure (fun v => match v with
    | .int x => .int (g x)
    | v => v) hs (le_size' (by simpa using hsz)) (fun v hv => ?_) (fun v hv => ?_)]
  · simp
  · obtain ⟨x, hx, rfl⟩ := List.mem_map.mp hv
    exact hc x hx
  · obtain ⟨x, hx, rfl⟩ := List.mem_map.mp hv
    exact he x hx
@[simp] theorem wipe_nil (ρ : BW.Env) : BW.wipe ρ [] = ρ := rfl
@[simp] theorem wipe_cons (ρ : BW.Env) (v : Nat) (vs : List Nat) : BW.wipe ρ (v :: vs) = (BW.wipe ρ vs).set v none := rfl
theorem stand_one {μ : Store} {l : Nat} {xs : List PV} (h : μ[l]? = some (.lst xs)) : stand μ [(l, xs)] := fun q hq => by
  rw [List.mem_singleton.mp hq]
  simp [h]
@[simp] theorem revOf_loc (l : Nat) (q : List PV × Sts) : revOf (.loc l) q = some (q.1.reverse, q.2) := rfl
theorem get_map_int {xs : List Int} {i : Nat} {v : PV} (h : (xs.map PV.int)[i]? = some v) : ∃ hi : i < xs.length, v = .int xs[i] := by
  have hi : i < xs.length := by
    have := List.getElem?_eq_some_iff.mp h
    simpa using this.1
  rw [List.getElem?_map, List.getElem?_eq_getElem hi] at h
  injection h with h
  exact ⟨hi, h.symm⟩
@[simp] theorem seqAt_tup (xs : List PV) : seqAt μ (.tup xs) = some xs := rfl
@[simp] theorem seqAt_loc (l : Nat) : seqAt μ (.loc l) = listAt μ (.loc l) := rfl
@[simp] theorem bi_tuple (x : PV) : biV .tuple [x] μ = (Res.ofO (seqAt μ x) μ).bind (fun xs μ => .ok (.tup xs) μ) := rfl
@[simp] theorem bi_list (x : PV) : biV .list [x] μ = (Res.ofO (seqAt μ x) μ).bind (fun xs μ => .ok (.loc μ.length) (μ ++ [.lst xs])) := rfl
@[simp] theorem bi_divmod (a b : Int) (h : divOk a b) : biV .divmod [.int a, .int b] μ = .ok (.tup [.int (a.fdiv b), .int (a.fmod b)]) μ := if_pos h
@[simp] theorem stand_nil' : stand μ [] = True := eq_true stand_nil
@[simp] theorem stand_cons (l : Nat) (xs : List PV) (r : Sts) : stand μ ((l, xs) :: r) = (listAt μ (.loc l) = some xs ∧ stand μ r) := by
  apply propext
  constructor
  · intro h
    exact ⟨h (l, xs) (List.mem_cons_self), fun q hq => h q (List.mem_cons_of_mem _ hq)⟩
  · rintro ⟨h1, h2⟩ q hq
    rcases List.mem_cons.mp hq with rfl | hq
    · exact h1
    · exact h2 q hq
@[simp] theorem at_0 (x0 : PV) (xs : List PV) : L2.atI (x0 :: xs) 0 = some x0 := L2.atI_nat (j := 0) rfl
@[simp] theorem at_1 (x0 x1 : PV) (xs : List PV) : L2.atI (x0 :: x1 :: xs) 1 = some x1 := L2.atI_nat (j := 1) rfl
@[simp] theorem at_2 (x0 x1 x2 : PV) (xs : List PV) : L2.atI (x0 :: x1 :: x2 :: xs) 2 = some x2 := L2.atI_nat (j := 2) rfl
@[simp] theorem at_3 (x0 x1 x2 x3 : PV) (xs : List PV) : L2.atI (x0 :: x1 :: x2 :: x3 :: xs) 3 = some x3 := L2.atI_nat (j := 3) rfl
@[simp] theorem at_4 (x0 x1 x2 x3 x4 : PV) (xs : List PV) : L2.atI (x0 :: x1 :: x2 :: x3 :: x4 :: xs) 4 = some x4 := L2.atI_nat (j := 4) rfl
@[simp] theorem at_5 (x0 x1 x2 x3 x4 x5 : PV) (xs : List PV) : L2.atI (x0 :: x1 :: x2 :: x3 :: x4 :: x5 :: xs) 5 = some x5 := L2.atI_nat (j := 5) rfl
@[simp] theorem at_6 (x0 x1 x2 x3 x4 x5 x6 : PV) (xs : List PV) : L2.atI (x0 :: x1 :: x2 :: x3 :: x4 :: x5 :: x6 :: xs) 6 = some x6 := L2.atI_nat (j := 6) rfl
@[simp] theorem at_7 (x0 x1 x2 x3 x4 x5 x6 x7 : PV) (xs : List PV) : L2.atI (x0 :: x1 :: x2 :: x3 :: x4 :: x5 :: x6 :: x7 :: xs) 7 = some x7 := L2.atI_nat (j := 7) rfl
end
end BW
set_option maxHeartbeats 4000000
/-! Times and points in lowest terms. -/
local macro_rules | `(tactic| walk_at "dv") => `(tactic| first | assumption | (apply_assumption; done) | exact BW.mulOk_of _ _ (by decide) | exact BW.divOk_of _ _ (by first | decide | assumption | omega) (by decide) | decide | omega | (refine BW.le_size' ?_; first | omega | (simp only [List.length_cons, List.length_nil, List.length_append, List.length_map]; omega)) | simp)
namespace BW
open PySem PySem.Spec PyProof.Rows L2
structure Low (t b p q : Int) : Prop where
  pos : 0 < q
  eq : p * b = t * q
  one : Int.gcd p q = 1
def sgn (b : Int) (g : Int) : Int := if b < 0 then -g else g
theorem sgn_abs {b g : Int} : (sgn b g).natAbs = g.natAbs := by
  unfold sgn
  split <;> simp
instance (b g : Int) (k : Nat) [h : Bd g k] : Bd (sgn b g) k := ⟨by rw [sgn_abs]; exact h.h⟩
theorem divOk_of' (a b : Int) {l : Nat} (h2 : Bd b l) (hb : b ≠ 0) (hk : l ≤ 9000) : divOk a b := divOk_of a b hb (Nat.ble_eq.mpr hk)
section
variable {P : Prog} {i : Nat}
/-! ### the program's -/
/-! ### a law's -/
end
end BW
set_option maxHeartbeats 4000000
/-! The head, looked at in four parts. -/
namespace BW
open PySem PySem.Spec PyProof.Rows L2
def stepF (g : Addr → Option Obj) (as : List Addr) : List Addr := as.flatMap fun a => match g a with
  | some o => He.refsD o
  | none => []
def stepN (g : Addr → Option Obj) (as : List Addr) : List Addr := as.flatMap fun a => match g a with
  | some o => (match o.data with
    | .func _ => He.refsD o
    | _ => [])
  | none => []
def asZ2 (g : Addr → Option Obj) (f1 f2 f3 : List Addr) : List Addr := mainGlobals :: (f1 ++ (f2 ++ (f3 ++ (stepN g f3 ++ [cStatics]))))
def asZ1 (g : Addr → Option Obj) (f1 f2 : List Addr) : List Addr := asZ2 g f1 f2 (stepF g f2)
def asZ0 (g : Addr → Option Obj) (f1 : List Addr) : List Addr := asZ1 g f1 (stepF g f1)
def asZ (g : Addr → Option Obj) : List Addr := asZ0 g (stepF g [mainGlobals])
def frZ (g : Addr → Option Obj) : PySem.W.Frag := He.frT g (asZ g)
def obsZ (fn : List He.DefD) (tf : List He.Defn) (ex : PySem.W.Frag → Bool) (g : Addr → Option Obj) : AlY := (He.obsD [] fn (frZ g), ex (frZ g) && He.tabsB g tf (frZ g))
theorem saysZ_of {fn : List He.DefD} {tf : List He.Defn} {ex : PySem.W.Frag → Bool} {h : Heap} (e : obsZ fn tf ex h.get? = (He.valD fn, true)) : SaysZ fn tf ex h (frZ h.get?) := by
  have e1 : He.SaysD [] fn (frZ h.get?) := congrArg (fun z : AlY => z.1) e
  have e2 : (ex (frZ h.get?) && He.tabsB h.get? tf (frZ h.get?)) = true := congrArg (fun z : AlY => z.2) e
  rw [Bool.and_eq_true] at e2
  have each : ∀ p ∈ tf, PySem.W.codeHdIn (frZ h.get?) (He.cT (frZ h.get?) p).1 (He.cT (frZ h.get?) p).2 = true ∧ ∃ o, h.get? (He.cT (frZ h.get?) p).2 = some o ∧ He.emptyTab o = true := fun p hp => by
    have a := List.all_eq_true.mp e2.2 p hp
    rw [Bool.and_eq_true] at a
    refine ⟨a.1, ?_⟩
    have b := a.2
    split at b
    · rename_i o q; exact ⟨o, q, b⟩
    · cases b
  refine ⟨e1, e2.1, fun p hp => (each p hp).1, fun p hp => ?_, fun p hp => ?_⟩
  · obtain ⟨_, o, q, z⟩ := each p hp
    exact He.frT_none q z
  · obtain ⟨_, o, q, z⟩ := each p hp
    rw [q, He.emptyTab_eq z]
def hookZ (fn : List He.DefD) (tf : List He.Defn) (ex : PySem.W.Frag → Bool) : PySem.W.Hook where
  α := AlY
  obs := fun s => obsZ fn tf ex s.heap.get?
  val := fun _ => (He.valD fn, true)
  says := fun _ h => ∃ K : PySem.W.Frag, K.In h ∧ SaysZ fn tf ex h K
  of := fun _ _ e => ⟨_, He.frT_in, saysZ_of e⟩
  keeps := fun _ _ _ ⟨K, hK, c⟩ k => ⟨K, PySem.W.Frag.In.keeps hK k, ⟨c.d, c.ex, c.hd, c.out, fun p hp => k _ _ (c.empty p hp)⟩⟩
theorem obsZ_eq {fn : List He.DefD} {tf : List He.Defn} {ex : PySem.W.Frag → Bool} {g : Addr → Option Obj} {s : Shared} (h : ∀ a, g a = s.heap.get? a) : obsZ fn tf ex g = (hookZ fn tf ex).obs s := by
  obtain rfl : g = s.heap.get? := funext h
  rfl
open HandSHeadRun PySem.W PySem.Calls in
theorem head_four {r : OpenRow} {q : Program} {c : Cfg} {fn : List He.DefD} {tf : List He.Defn} {M : Nat} {loose : List Str} {w : World} {os : OsState}
    (h1 : (endF (stepQ (denQ tabQ) r.prog w) M r.prog w os).map (fun s => (looksF r.prog (boot_heap w.params) s.abs, xisB c (frZ (getT s)) && He.tabsB (getT s) tf (frZ (getT s)))) = some (true, true))
    (h2 : (endF (stepQ (denQ tabQ) r.prog w) M r.prog w os).map (fun s => (seenQ q loose (importedModules r.prog.main.body) (fun s => xlAt q [] s && recOk r.toRowW.records s) s.abs, exE0 c (frZ (getT s)))) = some (openGood q loose, true))
    (h3 : (endF (stepQ (denQ tabQ) r.prog w) M r.prog w os).map (fun s => fn.all fun d => d.ok (frZ (getT s))) = some true)
    (h4 : (endF (stepQ (denQ tabQ) r.prog w) M r.prog w os).map (fun s => (fn.map (fun d => He.fnW (frZ (getT s)) d.at_), icsB c (frZ (getT s)))) = some (fn.map He.DefD.val, true)) :
    (endF (stepQ (denQ tabQ) r.prog w) M r.prog w os).map (fun s => (looksF r.prog (boot_heap w.params) s.abs, seenQ q loose (importedModules r.prog.main.body) (fun s => xlAt q [] s && recOk r.toRowW.records s) s.abs, obsZ fn tf (exE c) (getT s))) = some (true, openGood q loose, (He.valD fn, true)) := by
  generalize endF (stepQ (denQ tabQ) r.prog w) M r.prog w os = X at *
  cases X with
  | none => cases h1
  | some s =>
    have a1 := Prod.mk.inj (Option.some.inj h1)
    have b1 := Bool.and_eq_true_iff.mp a1.2
    have a2 := Prod.mk.inj (Option.some.inj h2)
    have a3 : (fn.all fun d => d.ok (frZ (getT s))) = true := Option.some.inj h3
    have a4 := Prod.mk.inj (Option.some.inj h4)
    show some (looksF r.prog (boot_heap w.params) s.abs, seenQ q loose (importedModules r.prog.main.body) (fun s => xlAt q [] s && recOk r.toRowW.records s) s.abs, ((([] : List He.Fa).all fun f => f.ok (frZ (getT s))) && fn.all fun d => d.ok (frZ (getT s)), fn.map fun d => He.fnW (frZ (getT s)) d.at_), ((exE0 c (frZ (getT s)) && xisB c (frZ (getT s))) && icsB c (frZ (getT s))) && He.tabsB (getT s) tf (frZ (getT s))) = _
    rw [a1.1, b1.1, b1.2, a2.1, a2.2, a3, a4.1, a4.2]
    rfl
end BW
set_option maxHeartbeats 0
namespace K91
open PySem PySem.Spec PyProof.Rows L2 BW
abbrev prog : Program := PySem.Challenge.pw_bouncewise_k91_a_drawing
def top (i : Nat) : Stmt := PySem.Challenge.pw_bouncewise_k91_a_drawing.main.body.getD i (.Pass ⟨0, 0, 0, 0⟩)
def sub (s : Stmt) (j : Nat) : Stmt := match s with
  | .ClassDef _ _ _ b .. => b.getD j (.Pass ⟨0, 0, 0, 0⟩)
  | s => s
/-- _wall(k) -/
def b0 : List IS := [.wh (.val (.con (.bl true))) [.pass]]
/-- Overlap.__init__(self, one, other) -/
def b1 : List IS := [.sfld (.var 0) 1 (.var 1), .sfld (.var 0) 2 (.var 2)]
/-- BadDrawing.__init__(self, row) -/
def b2 : List IS := [.sfld (.var 0) 3 (.var 1)]
/-- are_upon(wall, other) -/
def b3 : List IS := [.ifs (.val (.cmp .ne (.meth 7 (.var 0) []) (.meth 7 (.var 1) []))) [.ret (.con (.bl false))] [], .set 2 (.bin .sub (.idx (.fld (.var 0) 5) (.con (.int 0))) (.idx (.fld (.var 0) 1) (.con (.int 0)))), .set 3 (.bin .sub (.idx (.fld (.var 0) 5) (.con (.int 1))) (.idx (.fld (.var 0) 1) (.con (.int 1)))), .ifs (.val (.cmp .ne (.bin .mul (.var 2) (.bin .sub (.idx (.fld (.var 1) 1) (.con (.int 1))) (.idx (.fld (.var 0) 1) (.con (.int 1))))) (.bin .mul (.var 3) (.bin .sub (.idx (.fld (.var 1) 1) (.con (.int 0))) (.idx (.fld (.var 0) 1) (.con (.int 0))))))) [.ret (.con (.bl false))] [], .ret (.cmp .lt (.bi .max [.fld (.var 0) 1, .fld (.var 1) 1]) (.bi .min [.fld (.var 0) 5, .fld (.var 1) 5]))]
/-- Room.__init__(self, walls) -/
def b4 : List IS := [.ifs (.val (.cmp .gt (.bi .len [.var 1]) (.con (.int 40)))) [.raise 2 []] [], .for (.tup [(.nm 2), (.nm 3)]) (.enum (.var 1)) [.for (.tup [(.nm 4), (.nm 5)]) (.enum (.slc (.var 1) none (some (.var 2)))) [.ifs (.val (.call 3 [.var 5, .var 3])) [.raise 3 [.var 4, .var 2]] []]], .sfld (.var 0) 4 (.bi .list [.var 1])]
/-- Room.walls(self) -/
def b5 : List IS := [.ret (.bi .list [.fld (.var 0) 4])]
/-- Room.on(self, P) -/
def b6 : List IS := [.ret (.lc (.var 2) (.tup [(.nm 2), (.nm 3)]) (.enum (.fld (.var 0) 4)) (some (.val (.meth 4 (.var 3) [.var 1]))) [2, 3])]
/-- Room.is_corner(self, P) -/
def b7 : List IS := [.ex (.call 0 [.con (.int 0)])]
/-- Room.box(self) -/
def b8 : List IS := [.ifs (.val (.cmp .eq (.fld (.var 0) 4) (.lst []))) [.ret (.con .non)] [], .set 1 (.bin .add (.lc (.fld (.var 4) 1) (.nm 4) (.seq (.fld (.var 0) 4)) none [4]) (.lc (.fld (.var 4) 5) (.nm 4) (.seq (.fld (.var 0) 4)) none [4])), .set 2 (.lc (.var 5) (.tup [(.nm 5), (.nm 6)]) (.seq (.var 1)) none [5, 6]), .set 3 (.lc (.var 6) (.tup [(.nm 5), (.nm 6)]) (.seq (.var 1)) none [5, 6]), .ret (.tup [.bi .min [.var 2], .bi .min [.var 3], .bi .max [.var 2], .bi .max [.var 3]])]
/-- line_between(one, two) -/
def b9 : List IS := [.set 2 (.bin .sub (.idx (.var 1) (.con (.int 0))) (.idx (.var 0) (.con (.int 0)))), .set 3 (.bin .sub (.idx (.var 1) (.con (.int 1))) (.idx (.var 0) (.con (.int 1)))), .ifs (.and (.val (.cmp .eq (.var 2) (.con (.int 0)))) (.val (.cmp .eq (.var 3) (.con (.int 0))))) [.ret (.con .non)] [], .ifs (.val (.cmp .eq (.var 3) (.con (.int 0)))) [.ret (.con (.int 0))] [], .ifs (.val (.cmp .eq (.var 2) (.var 3))) [.ret (.con (.int 1))] [], .ifs (.val (.cmp .eq (.var 2) (.con (.int 0)))) [.ret (.con (.int 2))] [], .ifs (.val (.cmp .eq (.var 2) (.neg (.var 3)))) [.ret (.con (.int 3))] [], .ret (.con .non)]
/-- is_far(spot) -/
def b10 : List IS := [.ret (.cmp .gt (.bi .max [.bi .abs [.idx (.var 0) (.con (.int 0))], .bi .abs [.idx (.var 0) (.con (.int 1))]]) (.con (.int 1000)))]
/-- Wall.__init__(self, one, two) -/
def b11 : List IS := [.ifs (.or (.val (.cmp .is (.call 9 [.var 1, .var 2]) (.con .non))) (.or (.val (.call 10 [.var 1])) (.val (.call 10 [.var 2])))) [.raise 1 []] [], .sfld (.var 0) 1 (.bi .min [.var 1, .var 2]), .sfld (.var 0) 5 (.bi .max [.var 1, .var 2])]
/-- Wall.line(self) -/
def b12 : List IS := [.ret (.call 9 [.fld (.var 0) 1, .fld (.var 0) 5])]
/-- Wall.holds(self, P) -/
def b13 : List IS := [.asg (.tup [(.nm 2), (.nm 3), (.nm 4)]) (.var 1), .set 5 (.bin .sub (.idx (.fld (.var 0) 5) (.con (.int 0))) (.idx (.fld (.var 0) 1) (.con (.int 0)))), .set 6 (.bin .sub (.idx (.fld (.var 0) 5) (.con (.int 1))) (.idx (.fld (.var 0) 1) (.con (.int 1)))), .set 7 (.bin .sub (.var 2) (.bin .mul (.var 4) (.idx (.fld (.var 0) 1) (.con (.int 0))))), .set 8 (.bin .sub (.var 3) (.bin .mul (.var 4) (.idx (.fld (.var 0) 1) (.con (.int 1))))), .ifs (.val (.cmp .ne (.bin .mul (.var 5) (.var 8)) (.bin .mul (.var 6) (.var 7)))) [.ret (.con (.bl false))] [], .ret (.chain .le .le (.con (.int 0)) (.bin .add (.bin .mul (.var 5) (.var 7)) (.bin .mul (.var 6) (.var 8))) (.bin .mul (.var 4) (.bin .add (.bin .mul (.var 5) (.var 5)) (.bin .mul (.var 6) (.var 6)))))]
/-- Wall.ends_at(self, P) -/
def b14 : List IS := [.ex (.call 0 [.con (.int 1)])]
/-- Wall.image(self, P) -/
def b15 : List IS := [.ex (.call 0 [.con (.int 2)])]
/-- Wall.behind(self, heading, count) -/
def b16 : List IS := [.ex (.call 0 [.con (.int 3)])]
/-- Wall.turns(self) -/
def b17 : List IS := [.ex (.call 0 [.con (.int 4)])]
/-- Wall.every(self) -/
def b18 : List IS := [.ret (.con (.int 1))]
/-- Wall.word(self) -/
def b19 : List IS := [.ex (.call 0 [.con (.int 5)])]
/-- Mirror.word(self) -/
def b20 : List IS := [.ex (.call 0 [.con (.int 6)])]
/-- Glass.behind(self, heading, count) -/
def b21 : List IS := [.ex (.call 0 [.con (.int 7)])]
/-- Glass.turns(self) -/
def b22 : List IS := [.ex (.call 0 [.con (.int 8)])]
/-- Glass.word(self) -/
def b23 : List IS := [.ex (.call 0 [.con (.int 9)])]
/-- Hole.behind(self, heading, count) -/
def b24 : List IS := [.ex (.call 0 [.con (.int 10)])]
/-- Hole.turns(self) -/
def b25 : List IS := [.ex (.call 0 [.con (.int 11)])]
/-- Hole.word(self) -/
def b26 : List IS := [.ex (.call 0 [.con (.int 12)])]
/-- Door.__init__(self, one, two, every) -/
def b27 : List IS := [.ex (.call 11 [.var 0, .var 1, .var 2]), .ifs (.or (.val (.cmp .lt (.var 3) (.con (.int 1)))) (.val (.cmp .gt (.var 3) (.con (.int 9))))) [.raise 1 []] [], .sfld (.var 0) 0 (.var 3)]
/-- Door.behind(self, heading, count) -/
def b28 : List IS := [.ex (.call 0 [.con (.int 13)])]
/-- Door.every(self) -/
def b29 : List IS := [.ret (.fld (.var 0) 0)]
/-- Door.word(self) -/
def b30 : List IS := [.ex (.call 0 [.con (.int 14)])]
/-- spots_along(wall) -/
def b31 : List IS := [.asg (.tup [(.nm 1), (.nm 2)]) (.idx (.con (tblPV [[1, 0], [1, 1], [0, 1], [1, -1]])) (.meth 7 (.var 0) [])), .set 3 (.bi .max [.bin .sub (.idx (.fld (.var 0) 5) (.con (.int 0))) (.idx (.fld (.var 0) 1) (.con (.int 0))), .bin .sub (.idx (.fld (.var 0) 5) (.con (.int 1))) (.idx (.fld (.var 0) 1) (.con (.int 1)))]), .ret (.lc (.tup [.bin .add (.idx (.fld (.var 0) 1) (.con (.int 0))) (.bin .mul (.var 4) (.var 1)), .bin .add (.idx (.fld (.var 0) 1) (.con (.int 1))) (.bin .mul (.var 4) (.var 2))]) (.nm 4) (.rng [.bin .add (.var 3) (.con (.int 1))]) none [4])]
/-- masks_of(room) -/
def b32 : List IS := [.set 1 .dic, .for (.nm 2) (.seq (.meth 10 (.var 0) [])) [.set 3 (.call 31 [.var 2]), .for (.tup [(.nm 4), (.nm 5)]) (.enum (.var 3)) [.set 6 (.bm .get (.var 1) [.var 5, .con (.int 0)]), .ifs (.val (.cmp .lt (.var 4) (.bin .sub (.bi .len [.var 3]) (.con (.int 1))))) [.set 6 (.bin .bor (.var 6) (.bin .shl (.con (.int 1)) (.meth 7 (.var 2) [])))] [], .ifs (.val (.cmp .gt (.var 4) (.con (.int 0)))) [.set 6 (.bin .bor (.var 6) (.bin .shl (.con (.int 16)) (.meth 7 (.var 2) [])))] [], .ifs (.or (.val (.cmp .eq (.var 4) (.con (.int 0)))) (.val (.cmp .eq (.var 4) (.bin .sub (.bi .len [.var 3]) (.con (.int 1)))))) [.set 6 (.bin .bor (.var 6) (.con (.int 256)))] [], .sub (.var 1) (.var 5) (.var 6)]], .ret (.var 1)]
/-- halves_of(room) -/
def b33 : List IS := [.set 1 .dic, .for (.nm 2) (.seq (.meth 10 (.var 0) [])) [.set 3 (.call 31 [.var 2]), .for (.tup [(.nm 4), (.nm 5)]) (.zip (.var 3) (.slc (.var 3) (some (.con (.int 1))) none)) [.set 6 (.tup [.bin .add (.idx (.var 4) (.con (.int 0))) (.idx (.var 5) (.con (.int 0))), .bin .add (.idx (.var 4) (.con (.int 1))) (.idx (.var 5) (.con (.int 1)))]), .ifs (.val (.cmp .inn (.var 6) (.var 1))) [.sub (.var 1) (.var 6) (.con (.str "X"))] [.sub (.var 1) (.var 6) (.idx (.con (.str "-/|\\")) (.meth 7 (.var 2) []))]]], .ret (.var 1)]
/-- sign_of(bits) -/
def b34 : List IS := [.ifs (.val (.cmp .eq (.var 0) (.con (.int 0)))) [.ret (.con (.str "."))] [], .for (.nm 1) (.rng [.con (.int 4)]) [.ifs (.val (.cmp .eq (.var 0) (.bin .shl (.con (.int 17)) (.var 1)))) [.ret (.idx (.con (.str "-/|\\")) (.var 1))] []], .ret (.con (.str "+"))]
/-- drawn(room, wide, high) -/
def b35 : List IS := [.ifs (.or (.val (.cmp .gt (.var 1) (.con (.int 40)))) (.val (.cmp .gt (.var 2) (.con (.int 40))))) [.raise 2 []] [], .for (.nm 3) (.seq (.meth 10 (.var 0) [])) [.for (.tup [(.nm 4), (.nm 5)]) (.seq (.tup [.fld (.var 3) 1, .fld (.var 3) 5])) [.ifs (.or (.val (.cmp .lt (.var 4) (.con (.int 0)))) (.or (.val (.cmp .gt (.var 4) (.var 1))) (.or (.val (.cmp .lt (.var 5) (.con (.int 0)))) (.val (.cmp .gt (.var 5) (.var 2)))))) [.raise 4 []] []]], .set 6 (.call 32 [.var 0]), .set 7 (.call 33 [.var 0]), .set 8 (.lst []), .for (.nm 9) (.rrng [.bin .add (.bin .mul (.con (.int 2)) (.var 2)) (.con (.int 1))]) [.set 10 (.con (.str "")), .for (.nm 11) (.rng [.bin .add (.bin .mul (.con (.int 2)) (.var 1)) (.con (.int 1))]) [.ifs (.and (.val (.cmp .eq (.bin .mod (.var 11) (.con (.int 2))) (.con (.int 0)))) (.val (.cmp .eq (.bin .mod (.var 9) (.con (.int 2))) (.con (.int 0))))) [.set 10 (.bin .add (.var 10) (.call 34 [.bm .get (.var 6) [.tup [.bin .fdiv (.var 11) (.con (.int 2)), .bin .fdiv (.var 9) (.con (.int 2))], .con (.int 0)]]))] [.set 10 (.bin .add (.var 10) (.bm .get (.var 7) [.tup [.var 11, .var 9], .con (.str " ")]))]], .ex (.bm .append (.var 8) [.var 10])], .ret (.var 8)]
/-- _law_cell_at(_law_script, _law_k) -/
def b36 : List IS := [.ifs (.val (.cmp .lt (.var 1) (.bi .len [.var 0]))) [.ret (.idx (.var 0) (.var 1))] [], .ret (.con (.int 0))]
/-- _law_unit(_law_line) -/
def b37 : List IS := [.ret (.idx (.lst [.tup [.con (.int 1), .con (.int 0)], .tup [.con (.int 1), .con (.int 1)], .tup [.con (.int 0), .con (.int 1)], .tup [.con (.int 1), .neg (.con (.int 1))]]) (.var 0))]
/-- _law_told(_law_cell, _law_most) -/
def b38 : List IS := [.set 2 (.bin .mod (.bin .mul (.bin .mod (.var 0) (.con (.int 2147483647))) (.con (.int 48271))) (.con (.int 2147483647))), .set 3 (.bin .mod (.bin .fdiv (.var 2) (.con (.int 4))) (.var 1)), .set 4 (.bin .mod (.bin .fdiv (.bin .fdiv (.var 2) (.con (.int 4))) (.var 1)) (.var 1)), .set 2 (.bin .add (.bin .mod (.var 2) (.con (.int 4))) (.bin .mul (.con (.int 4)) (.bin .fdiv (.bin .fdiv (.bin .fdiv (.var 2) (.con (.int 4))) (.var 1)) (.var 1)))), .ifs (.val (.cmp .eq (.bin .mod (.var 2) (.con (.int 4))) (.con (.int 3)))) [.set 4 (.bin .add (.var 4) (.con (.int 3)))] [], .ret (.tup [.bin .mod (.var 2) (.con (.int 4)), .var 3, .var 4, .bin .add (.con (.int 1)) (.bin .mod (.bin .fdiv (.var 2) (.con (.int 4))) (.con (.int 3))), .bin .mod (.bin .fdiv (.var 2) (.con (.int 12))) (.con (.int 5))])]
/-- _law_pieces(_law_told_here) -/
def b39 : List IS := [.set 1 (.call 37 [.idx (.var 0) (.con (.int 0))]), .ret (.lc (.tup [.bin .add (.idx (.var 0) (.con (.int 1))) (.bin .mul (.var 2) (.idx (.var 1) (.con (.int 0)))), .bin .add (.idx (.var 0) (.con (.int 2))) (.bin .mul (.var 2) (.idx (.var 1) (.con (.int 1)))), .idx (.var 0) (.con (.int 0))]) (.nm 2) (.rng [.idx (.var 0) (.con (.int 3))]) none [2])]
/-- _law_good(_law_some) -/
def b40 : List IS := [.set 1 .dic, .set 2 (.lst []), .for (.nm 3) (.seq (.var 0)) [.ifs (.val (.cmp .eq (.lc (.var 4) (.nm 4) (.seq (.call 39 [.var 3])) (some (.val (.cmp .inn (.var 4) (.var 1)))) [4]) (.lst []))) [.ex (.bm .append (.var 2) [.var 3]), .for (.nm 4) (.seq (.call 39 [.var 3])) [.sub (.var 1) (.var 4) (.con (.bl true))]] []], .ret (.var 2)]
/-- _law_put_off(_law_good_here, _law_cell) -/
def b41 : List IS := [.ifs (.val (.cmp .ne (.bin .mod (.var 1) (.con (.int 6))) (.con (.int 1)))) [.ret (.var 0)] [], .set 2 (.bin .add (.con (.int 1)) (.bin .mod (.bin .fdiv (.var 1) (.con (.int 6))) (.con (.int 3)))), .ifs (.val (.cmp .eq (.bin .mod (.bin .fdiv (.var 1) (.con (.int 18))) (.con (.int 2))) (.con (.int 0)))) [.ret (.lc (.tup [.idx (.var 3) (.con (.int 0)), .bin .sub (.idx (.var 3) (.con (.int 1))) (.var 2), .idx (.var 3) (.con (.int 2)), .idx (.var 3) (.con (.int 3)), .idx (.var 3) (.con (.int 4))]) (.nm 3) (.seq (.var 0)) none [3])] [], .ret (.lc (.tup [.idx (.var 3) (.con (.int 0)), .idx (.var 3) (.con (.int 1)), .bin .sub (.idx (.var 3) (.con (.int 2))) (.var 2), .idx (.var 3) (.con (.int 3)), .idx (.var 3) (.con (.int 4))]) (.nm 3) (.seq (.var 0)) none [3])]
/-- _law_ends(_law_told_here) -/
def b42 : List IS := [.set 1 (.call 37 [.idx (.var 0) (.con (.int 0))]), .ret (.lst [.tup [.idx (.var 0) (.con (.int 1)), .idx (.var 0) (.con (.int 2))], .tup [.bin .add (.idx (.var 0) (.con (.int 1))) (.bin .mul (.idx (.var 0) (.con (.int 3))) (.idx (.var 1) (.con (.int 0)))), .bin .add (.idx (.var 0) (.con (.int 2))) (.bin .mul (.idx (.var 0) (.con (.int 3))) (.idx (.var 1) (.con (.int 1))))]])]
/-- _law_made(_law_told_here) -/
def b43 : List IS := [.asg (.tup [(.nm 1), (.nm 2)]) (.call 42 [.var 0]), .ifs (.val (.cmp .lt (.idx (.var 0) (.con (.int 4))) (.con (.int 2)))) [.ret (.make 8 [.var 1, .var 2])] [], .ifs (.val (.cmp .eq (.idx (.var 0) (.con (.int 4))) (.con (.int 2)))) [.ret (.make 9 [.var 1, .var 2])] [], .ifs (.val (.cmp .eq (.idx (.var 0) (.con (.int 4))) (.con (.int 3)))) [.ret (.make 10 [.var 1, .var 2])] [], .ret (.make 11 [.var 1, .var 2, .con (.int 2)])]
/-- _law_holds(_law_told_here, _law_right_here, _law_up) -/
def b44 : List IS := [.set 3 (.call 37 [.idx (.var 0) (.con (.int 0))]), .set 4 (.bin .sub (.var 1) (.bin .mul (.con (.int 2)) (.idx (.var 0) (.con (.int 1))))), .set 5 (.bin .sub (.var 2) (.bin .mul (.con (.int 2)) (.idx (.var 0) (.con (.int 2))))), .ifs (.val (.cmp .ne (.bin .mul (.var 4) (.idx (.var 3) (.con (.int 1)))) (.bin .mul (.var 5) (.idx (.var 3) (.con (.int 0)))))) [.ret (.con (.bl false))] [], .set 6 (.var 4), .ifs (.val (.cmp .eq (.idx (.var 0) (.con (.int 0))) (.con (.int 2)))) [.set 6 (.var 5)] [], .ret (.and (.cmp .le (.con (.int 0)) (.var 6)) (.cmp .le (.var 6) (.bin .mul (.con (.int 2)) (.idx (.var 0) (.con (.int 3))))))]
/-- _law_sign(_law_good_here, _law_right_here, _law_up) -/
def b45 : List IS := [.set 3 (.lc (.var 4) (.nm 4) (.seq (.var 0)) (some (.val (.call 44 [.var 4, .var 1, .var 2]))) [4]), .ifs (.or (.val (.cmp .eq (.bin .mod (.var 1) (.con (.int 2))) (.con (.int 1)))) (.val (.cmp .eq (.bin .mod (.var 2) (.con (.int 2))) (.con (.int 1))))) [.ifs (.val (.cmp .eq (.bi .len [.var 3]) (.con (.int 2)))) [.ret (.con (.str "X"))] [], .ret (.idx (.bin .add (.lst [.con (.str " ")]) (.lc (.idx (.con (.str "-/|\\")) (.idx (.var 4) (.con (.int 0)))) (.nm 4) (.seq (.var 3)) none [4])) (.neg (.con (.int 1))))] [], .ifs (.val (.cmp .eq (.var 3) (.lst []))) [.ret (.con (.str "."))] [], .ifs (.or (.val (.cmp .gt (.bi .len [.var 3]) (.con (.int 1)))) (.val (.cmp .inn (.tup [.bin .fdiv (.var 1) (.con (.int 2)), .bin .fdiv (.var 2) (.con (.int 2))]) (.call 42 [.idx (.var 3) (.con (.int 0))])))) [.ret (.con (.str "+"))] [], .ret (.idx (.con (.str "-/|\\")) (.idx (.idx (.var 3) (.con (.int 0))) (.con (.int 0))))]
/-- _law_size(_law_need, _law_cell) -/
def b46 : List IS := [.set 2 (.bin .mod (.var 1) (.con (.int 5))), .ifs (.val (.cmp .eq (.var 2) (.con (.int 1)))) [.ret (.bin .add (.var 0) (.bin .mod (.bin .fdiv (.var 1) (.con (.int 5))) (.con (.int 4))))] [], .ifs (.and (.val (.cmp .eq (.var 2) (.con (.int 2)))) (.val (.cmp .gt (.var 0) (.con (.int 0))))) [.ret (.bin .sub (.var 0) (.con (.int 1)))] [], .ifs (.and (.val (.cmp .eq (.var 2) (.con (.int 3)))) (.val (.cmp .eq (.bin .mod (.bin .fdiv (.var 1) (.con (.int 5))) (.con (.int 3))) (.con (.int 1))))) [.ret (.bin .add (.con (.int 41)) (.bin .mod (.bin .fdiv (.var 1) (.con (.int 15))) (.bin .pow (.con (.int 10)) (.con (.int 30)))))] [], .ifs (.and (.val (.cmp .eq (.var 2) (.con (.int 4)))) (.val (.cmp .eq (.bin .mod (.bin .fdiv (.var 1) (.con (.int 5))) (.con (.int 6))) (.con (.int 1))))) [.ret (.con (.int 40))] [], .ret (.var 0)]
/-- _law_right(_law_found, _law_good_here, _law_wide, _law_high) -/
def b47 : List IS := [.ifs (.or (.not (.val (.isin (.var 0) [.list]))) (.val (.cmp .ne (.bi .len [.var 0]) (.bin .add (.bin .mul (.con (.int 2)) (.var 3)) (.con (.int 1)))))) [.ret (.con (.bl false))] [], .for (.nm 4) (.rng [.bi .len [.var 0]]) [.set 5 (.bin .sub (.bin .mul (.con (.int 2)) (.var 3)) (.var 4)), .set 6 (.bm .join (.con (.str "")) [.lc (.call 45 [.var 1, .var 7, .var 5]) (.nm 7) (.rng [.bin .add (.bin .mul (.con (.int 2)) (.var 2)) (.con (.int 1))]) none [7]]), .ifs (.or (.not (.val (.isin (.idx (.var 0) (.var 4)) [.str]))) (.val (.cmp .ne (.idx (.var 0) (.var 4)) (.var 6)))) [.ret (.con (.bl false))] []], .ret (.con (.bl true))]
/-- law(_law_script) -/
def b48 : List IS := [.set 1 (.con (.int 6)), .ifs (.val (.cmp .eq (.bin .mod (.call 36 [.var 0, .con (.int 2)]) (.con (.int 16))) (.con (.int 1)))) [.set 1 (.con (.int 34))] [], .set 2 (.lc (.call 38 [.var 13, .var 1]) (.nm 13) (.seq (.slc (.var 0) (some (.con (.int 3))) (some (.con (.int 23))))) none [13]), .ifs (.val (.cmp .eq (.var 1) (.con (.int 34)))) [.set 2 (.slc (.var 2) none (some (.con (.int 2))))] [], .set 3 (.call 41 [.call 40 [.var 2], .bin .fdiv (.call 36 [.var 0, .con (.int 2)]) (.con (.int 16))]), .set 4 (.lst []), .for (.nm 5) (.seq (.var 3)) [.set 4 (.bin .add (.var 4) (.call 42 [.var 5]))], .set 6 (.lc (.bi .max [.bin .add (.lst [.con (.int 0)]) (.lc (.idx (.var 15) (.var 14)) (.nm 15) (.seq (.var 4)) none [15])]) (.nm 14) (.rng [.con (.int 2)]) none [14]), .set 7 (.call 46 [.idx (.var 6) (.con (.int 0)), .call 36 [.var 0, .con (.int 0)]]), .set 8 (.call 46 [.idx (.var 6) (.con (.int 1)), .call 36 [.var 0, .con (.int 1)]]), .ifs (.and (.val (.cmp .eq (.var 7) (.con (.int 40)))) (.val (.cmp .eq (.var 8) (.con (.int 40))))) [.set 8 (.idx (.var 6) (.con (.int 1)))] [], .set 9 (.bi .minD [.lc (.bi .min [.var 15]) (.nm 15) (.seq (.var 4)) none [15], .con (.int 0)]), .set 10 (.con .non), .set 11 (.con (.str "")), .try [.set 10 (.call 35 [.make 6 [.lc (.call 43 [.var 5]) (.nm 5) (.seq (.var 3)) none [5]], .var 7, .var 8])] [([.own 0], (some 12), [.set 11 (.bin .add (.bin .mul (.con (.str "many")) (.bi .int [.xis [.own 2]])) (.bin .mul (.con (.str "out")) (.bi .int [.xis [.own 4]]))), .set 11 (.bin .add (.var 11) (.bin .mul (.con (.str "bad")) (.bi .int [.or (.xis [.own 5]) (.not (.xis [.ve]))])))])], .ifs (.or (.val (.cmp .gt (.var 7) (.con (.int 40)))) (.val (.cmp .gt (.var 8) (.con (.int 40))))) [.ret (.cmp .eq (.var 11) (.con (.str "many")))] [], .ifs (.or (.val (.cmp .gt (.idx (.var 6) (.con (.int 0))) (.var 7))) (.or (.val (.cmp .gt (.idx (.var 6) (.con (.int 1))) (.var 8))) (.val (.cmp .lt (.var 9) (.con (.int 0)))))) [.ret (.cmp .eq (.var 11) (.con (.str "out")))] [], .ret (.and (.cmp .eq (.var 11) (.con (.str ""))) (.call 47 [.var 10, .var 3, .var 7, .var 8]))]
def P : Prog := ⟨[⟨1, 1, b0⟩, ⟨3, 3, b1⟩, ⟨2, 2, b2⟩, ⟨4, 2, b3⟩, ⟨6, 2, b4⟩, ⟨1, 1, b5⟩, ⟨4, 2, b6⟩, ⟨2, 2, b7⟩, ⟨7, 1, b8⟩, ⟨4, 2, b9⟩, ⟨1, 1, b10⟩, ⟨3, 3, b11⟩, ⟨1, 1, b12⟩, ⟨9, 2, b13⟩, ⟨2, 2, b14⟩, ⟨2, 2, b15⟩, ⟨3, 3, b16⟩, ⟨1, 1, b17⟩, ⟨1, 1, b18⟩, ⟨1, 1, b19⟩, ⟨1, 1, b20⟩, ⟨3, 3, b21⟩, ⟨1, 1, b22⟩, ⟨1, 1, b23⟩, ⟨3, 3, b24⟩, ⟨1, 1, b25⟩, ⟨1, 1, b26⟩, ⟨4, 4, b27⟩, ⟨3, 3, b28⟩, ⟨1, 1, b29⟩, ⟨1, 1, b30⟩, ⟨5, 1, b31⟩, ⟨7, 1, b32⟩, ⟨7, 1, b33⟩, ⟨2, 1, b34⟩, ⟨12, 3, b35⟩, ⟨2, 2, b36⟩, ⟨1, 1, b37⟩, ⟨5, 2, b38⟩, ⟨3, 1, b39⟩, ⟨5, 1, b40⟩, ⟨4, 2, b41⟩, ⟨2, 1, b42⟩, ⟨3, 1, b43⟩, ⟨7, 3, b44⟩, ⟨5, 3, b45⟩, ⟨3, 2, b46⟩, ⟨8, 4, b47⟩, ⟨16, 1, b48⟩], [⟨none, [], [0], [], 3⟩, ⟨none, [], [1, 0], [], 1⟩, ⟨none, [], [2, 0], [], 1⟩, ⟨none, [(0, 1)], [3, 0], [1, 2], 2⟩, ⟨none, [], [4, 0], [], 1⟩, ⟨none, [], [5, 0], [], 3⟩, ⟨(some 4), [(10, 5), (8, 6), (6, 7), (1, 8)], [6], [], 0⟩, ⟨(some 11), [(7, 12), (4, 13), (2, 14), (5, 15), (0, 16), (9, 17), (3, 18), (11, 19)], [7], [], 0⟩, ⟨(some 11), [(11, 20), (7, 12), (4, 13), (2, 14), (5, 15), (0, 16), (9, 17), (3, 18)], [8, 7], [], 0⟩, ⟨(some 11), [(0, 21), (9, 22), (11, 23), (7, 12), (4, 13), (2, 14), (5, 15), (3, 18)], [9, 7], [], 0⟩, ⟨(some 11), [(0, 24), (9, 25), (11, 26), (7, 12), (4, 13), (2, 14), (5, 15), (3, 18)], [10, 7], [], 0⟩, ⟨(some 27), [(0, 28), (3, 29), (11, 30), (7, 12), (4, 13), (2, 14), (5, 15), (9, 17)], [11, 7], [], 0⟩], []⟩
theorem dn38 (n : Nat) (v0 v1 : PV) (μ : Store) : den P (n + 1) 38 [v0, v1] μ = (evSs P (den P n) b38 none [some v0, some v1, none, none, none] μ).out := by first | rfl | (rw [den]; rfl)
theorem dn41 (n : Nat) (v0 v1 : PV) (μ : Store) : den P (n + 1) 41 [v0, v1] μ = (evSs P (den P n) b41 none [some v0, some v1, none, none] μ).out := by first | rfl | (rw [den]; rfl)
theorem dn42 (n : Nat) (v0 : PV) (μ : Store) : den P (n + 1) 42 [v0] μ = (evSs P (den P n) b42 none [some v0, none] μ).out := by first | rfl | (rw [den]; rfl)
theorem dn43 (n : Nat) (v0 : PV) (μ : Store) : den P (n + 1) 43 [v0] μ = (evSs P (den P n) b43 none [some v0, none, none] μ).out := by first | rfl | (rw [den]; rfl)
theorem dn44 (n : Nat) (v0 v1 v2 : PV) (μ : Store) : den P (n + 1) 44 [v0, v1, v2] μ = (evSs P (den P n) b44 none [some v0, some v1, some v2, none, none, none, none] μ).out := by first | rfl | (rw [den]; rfl)
theorem dn45 (n : Nat) (v0 v1 v2 : PV) (μ : Store) : den P (n + 1) 45 [v0, v1, v2] μ = (evSs P (den P n) b45 none [some v0, some v1, some v2, none, none] μ).out := by first | rfl | (rw [den]; rfl)
theorem dn46 (n : Nat) (v0 v1 : PV) (μ : Store) : den P (n + 1) 46 [v0, v1] μ = (evSs P (den P n) b46 none [some v0, some v1, none] μ).out := by first | rfl | (rw [den]; rfl)
theorem dn47 (n : Nat) (v0 v1 v2 v3 : PV) (μ : Store) : den P (n + 1) 47 [v0, v1, v2, v3] μ = (evSs P (den P n) b47 none [some v0, some v1, some v2, some v3, none, none, none, none] μ).out := by first | rfl | (rw [den]; rfl)
theorem dn48 (n : Nat) (v0 : PV) (μ : Store) : den P (n + 1) 48 [v0] μ = (evSs P (den P n) b48 none [some v0, none, none, none, none, none, none, none, none, none, none, none, none, none, none, none] μ).out := by first | rfl | (rw [den]; rfl)
def ents : List (Str × GEnt) := ("BadDrawing", .cls 5) :: ("BadWall", .cls 1) :: ("Door", .cls 11) :: ("FARTHEST", .con (.int 1000)) :: ("Glass", .cls 9) :: ("Hole", .cls 10) :: ("MOST_drawings", .con (.int 40)) :: ("MOST_rooms", .con (.int 40)) :: ("Mirror", .cls 8) :: ("OutOfBox", .cls 4) :: ("Overlap", .cls 3) :: ("Room", .cls 6) :: ("RoomError", .cls 0) :: ("SIGNS", .con (.str "-/|\\")) :: ("TooMany", .cls 2) :: ("UNITS", .tbl [[1, 0], [1, 1], [0, 1], [1, -1]]) :: ("ValueError", .free) :: ("Wall", .cls 7) :: ("_law_cell_at", .fn 36) :: ("_law_ends", .fn 42) :: ("_law_good", .fn 40) :: ("_law_holds", .fn 44) :: ("_law_made", .fn 43) :: ("_law_pieces", .fn 39) :: ("_law_put_off", .fn 41) :: ("_law_right", .fn 47) :: ("_law_sign", .fn 45) :: ("_law_size", .fn 46) :: ("_law_told", .fn 38) :: ("_law_unit", .fn 37) :: ("_wall", .fn 0) :: ("abs", .bi .abs) :: ("are_upon", .fn 3) :: ("drawn", .fn 35) :: ("enumerate", .free) :: ("halves_of", .fn 33) :: ("int", .bi .int) :: ("is_far", .fn 10) :: ("isinstance", .free) :: ("law", .fn 48) :: ("len", .bi .len) :: ("line_between", .fn 9) :: ("list", .bi .list) :: ("masks_of", .fn 32) :: ("max", .bi .max) :: ("min", .bi .min) :: ("range", .free) :: ("reversed", .free) :: ("sign_of", .fn 34) :: ("spots_along", .fn 31) :: ("str", .bi .str) :: ("zip", .free) :: []
def d0 : He.DefD := ⟨("_wall", none), "_wall", "_wall", defArgs (top 0), defBody (top 0), defScope (top 0), [], []⟩
def d1 : He.DefD := ⟨("Overlap", (some "__init__")), "__init__", "Overlap.__init__", defArgs (sub (top 5) 0), defBody (sub (top 5) 0), defScope (sub (top 5) 0), [], []⟩
def d2 : He.DefD := ⟨("BadDrawing", (some "__init__")), "__init__", "BadDrawing.__init__", defArgs (sub (top 7) 0), defBody (sub (top 7) 0), defScope (sub (top 7) 0), [], []⟩
def d3 : He.DefD := ⟨("are_upon", none), "are_upon", "are_upon", defArgs (top 10), defBody (top 10), defScope (top 10), [], []⟩
def d4 : He.DefD := ⟨("Room", (some "__init__")), "__init__", "Room.__init__", defArgs (sub (top 11) 0), defBody (sub (top 11) 0), defScope (sub (top 11) 0), [], []⟩
def d5 : He.DefD := ⟨("Room", (some "walls")), "walls", "Room.walls", defArgs (sub (top 11) 1), defBody (sub (top 11) 1), defScope (sub (top 11) 1), [], []⟩
def d6 : He.DefD := ⟨("Room", (some "on")), "on", "Room.on", defArgs (sub (top 11) 2), defBody (sub (top 11) 2), defScope (sub (top 11) 2), [], []⟩
def d7 : He.DefD := ⟨("Room", (some "is_corner")), "is_corner", "Room.is_corner", defArgs (sub (top 11) 3), defBody (sub (top 11) 3), defScope (sub (top 11) 3), [], []⟩
def d8 : He.DefD := ⟨("Room", (some "box")), "box", "Room.box", defArgs (sub (top 11) 4), defBody (sub (top 11) 4), defScope (sub (top 11) 4), [], []⟩
def d9 : He.DefD := ⟨("line_between", none), "line_between", "line_between", defArgs (top 14), defBody (top 14), defScope (top 14), [], []⟩
def d10 : He.DefD := ⟨("is_far", none), "is_far", "is_far", defArgs (top 15), defBody (top 15), defScope (top 15), [], []⟩
def d11 : He.DefD := ⟨("Wall", (some "__init__")), "__init__", "Wall.__init__", defArgs (sub (top 16) 0), defBody (sub (top 16) 0), defScope (sub (top 16) 0), [], []⟩
def d12 : He.DefD := ⟨("Wall", (some "line")), "line", "Wall.line", defArgs (sub (top 16) 1), defBody (sub (top 16) 1), defScope (sub (top 16) 1), [], []⟩
def d13 : He.DefD := ⟨("Wall", (some "holds")), "holds", "Wall.holds", defArgs (sub (top 16) 2), defBody (sub (top 16) 2), defScope (sub (top 16) 2), [], []⟩
def d14 : He.DefD := ⟨("Wall", (some "ends_at")), "ends_at", "Wall.ends_at", defArgs (sub (top 16) 3), defBody (sub (top 16) 3), defScope (sub (top 16) 3), [], []⟩
def d15 : He.DefD := ⟨("Wall", (some "image")), "image", "Wall.image", defArgs (sub (top 16) 4), defBody (sub (top 16) 4), defScope (sub (top 16) 4), [], []⟩
def d16 : He.DefD := ⟨("Wall", (some "behind")), "behind", "Wall.behind", defArgs (sub (top 16) 5), defBody (sub (top 16) 5), defScope (sub (top 16) 5), [], []⟩
def d17 : He.DefD := ⟨("Wall", (some "turns")), "turns", "Wall.turns", defArgs (sub (top 16) 6), defBody (sub (top 16) 6), defScope (sub (top 16) 6), [], []⟩
def d18 : He.DefD := ⟨("Wall", (some "every")), "every", "Wall.every", defArgs (sub (top 16) 7), defBody (sub (top 16) 7), defScope (sub (top 16) 7), [], []⟩
def d19 : He.DefD := ⟨("Wall", (some "word")), "word", "Wall.word", defArgs (sub (top 16) 8), defBody (sub (top 16) 8), defScope (sub (top 16) 8), [], []⟩
def d20 : He.DefD := ⟨("Mirror", (some "word")), "word", "Mirror.word", defArgs (sub (top 17) 0), defBody (sub (top 17) 0), defScope (sub (top 17) 0), [], []⟩
def d21 : He.DefD := ⟨("Glass", (some "behind")), "behind", "Glass.behind", defArgs (sub (top 18) 0), defBody (sub (top 18) 0), defScope (sub (top 18) 0), [], []⟩
def d22 : He.DefD := ⟨("Glass", (some "turns")), "turns", "Glass.turns", defArgs (sub (top 18) 1), defBody (sub (top 18) 1), defScope (sub (top 18) 1), [], []⟩
def d23 : He.DefD := ⟨("Glass", (some "word")), "word", "Glass.word", defArgs (sub (top 18) 2), defBody (sub (top 18) 2), defScope (sub (top 18) 2), [], []⟩
def d24 : He.DefD := ⟨("Hole", (some "behind")), "behind", "Hole.behind", defArgs (sub (top 19) 0), defBody (sub (top 19) 0), defScope (sub (top 19) 0), [], []⟩
def d25 : He.DefD := ⟨("Hole", (some "turns")), "turns", "Hole.turns", defArgs (sub (top 19) 1), defBody (sub (top 19) 1), defScope (sub (top 19) 1), [], []⟩
def d26 : He.DefD := ⟨("Hole", (some "word")), "word", "Hole.word", defArgs (sub (top 19) 2), defBody (sub (top 19) 2), defScope (sub (top 19) 2), [], []⟩
def d27 : He.DefD := ⟨("Door", (some "__init__")), "__init__", "Door.__init__", defArgs (sub (top 20) 0), defBody (sub (top 20) 0), defScope (sub (top 20) 0), [.int 2], []⟩
def d28 : He.DefD := ⟨("Door", (some "behind")), "behind", "Door.behind", defArgs (sub (top 20) 1), defBody (sub (top 20) 1), defScope (sub (top 20) 1), [], []⟩
def d29 : He.DefD := ⟨("Door", (some "every")), "every", "Door.every", defArgs (sub (top 20) 2), defBody (sub (top 20) 2), defScope (sub (top 20) 2), [], []⟩
def d30 : He.DefD := ⟨("Door", (some "word")), "word", "Door.word", defArgs (sub (top 20) 3), defBody (sub (top 20) 3), defScope (sub (top 20) 3), [], []⟩
def d31 : He.DefD := ⟨("spots_along", none), "spots_along", "spots_along", defArgs (top 25), defBody (top 25), defScope (top 25), [], []⟩
def d32 : He.DefD := ⟨("masks_of", none), "masks_of", "masks_of", defArgs (top 26), defBody (top 26), defScope (top 26), [], []⟩
def d33 : He.DefD := ⟨("halves_of", none), "halves_of", "halves_of", defArgs (top 27), defBody (top 27), defScope (top 27), [], []⟩
def d34 : He.DefD := ⟨("sign_of", none), "sign_of", "sign_of", defArgs (top 28), defBody (top 28), defScope (top 28), [], []⟩
def d35 : He.DefD := ⟨("drawn", none), "drawn", "drawn", defArgs (top 29), defBody (top 29), defScope (top 29), [], []⟩
def d36 : He.DefD := ⟨("_law_cell_at", none), "_law_cell_at", "_law_cell_at", defArgs (top 31), defBody (top 31), defScope (top 31), [], []⟩
def d37 : He.DefD := ⟨("_law_unit", none), "_law_unit", "_law_unit", defArgs (top 32), defBody (top 32), defScope (top 32), [], []⟩
def d38 : He.DefD := ⟨("_law_told", none), "_law_told", "_law_told", defArgs (top 33), defBody (top 33), defScope (top 33), [], []⟩
def d39 : He.DefD := ⟨("_law_pieces", none), "_law_pieces", "_law_pieces", defArgs (top 34), defBody (top 34), defScope (top 34), [], []⟩
def d40 : He.DefD := ⟨("_law_good", none), "_law_good", "_law_good", defArgs (top 35), defBody (top 35), defScope (top 35), [], []⟩
def d41 : He.DefD := ⟨("_law_put_off", none), "_law_put_off", "_law_put_off", defArgs (top 36), defBody (top 36), defScope (top 36), [], []⟩
def d42 : He.DefD := ⟨("_law_ends", none), "_law_ends", "_law_ends", defArgs (top 37), defBody (top 37), defScope (top 37), [], []⟩
def d43 : He.DefD := ⟨("_law_made", none), "_law_made", "_law_made", defArgs (top 38), defBody (top 38), defScope (top 38), [], []⟩
def d44 : He.DefD := ⟨("_law_holds", none), "_law_holds", "_law_holds", defArgs (top 39), defBody (top 39), defScope (top 39), [], []⟩
def d45 : He.DefD := ⟨("_law_sign", none), "_law_sign", "_law_sign", defArgs (top 40), defBody (top 40), defScope (top 40), [], []⟩
def d46 : He.DefD := ⟨("_law_size", none), "_law_size", "_law_size", defArgs (top 41), defBody (top 41), defScope (top 41), [], []⟩
def d47 : He.DefD := ⟨("_law_right", none), "_law_right", "_law_right", defArgs (top 42), defBody (top 42), defScope (top 42), [], []⟩
def d48 : He.DefD := ⟨("law", none), "law", "law", defArgs (top 43), defBody (top 43), defScope (top 43), [], []⟩
def defs : List He.DefD := d0 :: d1 :: d2 :: d3 :: d4 :: d5 :: d6 :: d7 :: d8 :: d9 :: d10 :: d11 :: d12 :: d13 :: d14 :: d15 :: d16 :: d17 :: d18 :: d19 :: d20 :: d21 :: d22 :: d23 :: d24 :: d25 :: d26 :: d27 :: d28 :: d29 :: d30 :: d31 :: d32 :: d33 :: d34 :: d35 :: d36 :: d37 :: d38 :: d39 :: d40 :: d41 :: d42 :: d43 :: d44 :: d45 :: d46 :: d47 :: d48 :: []
def ns : List (List Str) := ["k"] :: ["self", "one", "other"] :: ["self", "row"] :: ["wall", "other", "right", "up"] :: ["self", "walls", "k", "other", "m", "wall"] :: ["self"] :: ["self", "P", "k", "wall"] :: ["self", "P"] :: ["self", "ends", "rights", "ups", "wall", "x", "y"] :: ["one", "two", "right", "up"] :: ["spot"] :: ["self", "one", "two"] :: ["self"] :: ["self", "P", "x", "y", "w", "right", "up", "far", "high"] :: ["self", "P"] :: ["self", "P"] :: ["self", "heading", "count"] :: ["self"] :: ["self"] :: ["self"] :: ["self"] :: ["self", "heading", "count"] :: ["self"] :: ["self"] :: ["self", "heading", "count"] :: ["self"] :: ["self"] :: ["self", "one", "two", "every"] :: ["self", "heading", "count"] :: ["self"] :: ["self"] :: ["wall", "right", "up", "size", "k"] :: ["room", "masks", "wall", "spots", "k", "spot", "bits"] :: ["room", "halves", "wall", "spots", "one", "two", "place"] :: ["bits", "line"] :: ["room", "wide", "high", "wall", "x", "y", "masks", "halves", "rows", "up", "row", "right"] :: ["_law_script", "_law_k"] :: ["_law_line"] :: ["_law_cell", "_law_most", "_law_number", "_law_x", "_law_y"] :: ["_law_told_here", "_law_unit_here", "_law_k"] :: ["_law_some", "_law_taken", "_law_good_here", "_law_told_here", "_law_piece"] :: ["_law_good_here", "_law_cell", "_law_far", "_law_told_here"] :: ["_law_told_here", "_law_unit_here"] :: ["_law_told_here", "_law_one", "_law_two"] :: ["_law_told_here", "_law_right_here", "_law_up", "_law_unit_here", "_law_far", "_law_high", "_law_along"] :: ["_law_good_here", "_law_right_here", "_law_up", "_law_on", "_law_told_here"] :: ["_law_need", "_law_cell", "_law_way"] :: ["_law_found", "_law_good_here", "_law_wide", "_law_high", "_law_k", "_law_up", "_law_due", "_law_right_here"] :: ["_law_script", "_law_most", "_law_some", "_law_good_here", "_law_ends_here", "_law_told_here", "_law_need", "_law_wide", "_law_high", "_law_low", "_law_found", "_law_word", "e", "_law_cell", "_law_k", "_law_end"] :: []
def cfg : Cfg := ⟨ents, ["cycle", "one", "other", "row", "some", "two"], ["behind", "box", "ends_at", "every", "holds", "image", "is_corner", "line", "on", "turns", "walls", "word"], ["RoomError", "BadWall", "TooMany", "Overlap", "OutOfBox", "BadDrawing", "Room", "Wall", "Mirror", "Glass", "Hole", "Door"], defs, ns, [], P, none⟩
theorem ok : cfg.Ok := ⟨by decide +kernel, by decide +kernel, by decide +kernel, by decide +kernel, by decide +kernel, by decide +kernel, ⟨200, by kernel_rfl⟩, fun n h => (by cases h), fun _ => rfl⟩
abbrev R : PySem.W.OpenRow := PySem.W.OpenLaw.row PySem.Challenge.rw_bouncewise_k91_a_drawing
def loose0 : List Str := ["_wall", "RoomError", "BadWall", "TooMany", "Overlap", "OutOfBox", "BadDrawing", "MOST_rooms", "are_upon", "Room", "FARTHEST", "line_between", "is_far", "Wall", "Mirror", "Glass", "Hole", "Door", "MOST_drawings", "SIGNS", "UNITS", "spots_along", "masks_of", "halves_of", "sign_of", "drawn", "_law_cell_at", "_law_unit", "_law_told", "_law_pieces"]
def loose1 : List Str := ["_law_good", "_law_put_off", "_law_ends", "_law_made", "_law_holds", "_law_sign", "_law_size", "_law_right"]
def loose : List Str := loose0 ++ loose1
abbrev QV : Program := PySem.W.view R.prog [43]
abbrev hk : PySem.W.Hook := hookZ defs cfg.tf (exE cfg)
def ob (s : PySem.W.SharedT) : AlY := obsZ defs cfg.tf (exE cfg) (HandSHeadRun.getT s)
theorem ob_eq (s : PySem.W.SharedT) : ob s = hk.obs s.abs := obsZ_eq (HandSHeadRun.getT_eq s)
section
open HandSHeadRun PySem.W PySem.Calls
theorem run1 (w : World) (os : OsState) : (endF (stepQ (denQ tabQ) R.prog w) 8000 R.prog w os).map (fun s => (looksF R.prog (boot_heap w.params) s.abs, xisB cfg (frZ (getT s)) && He.tabsB (getT s) cfg.tf (frZ (getT s)))) = some (true, true) := by kernel_rfl
theorem run2 (w : World) (os : OsState) : (endF (stepQ (denQ tabQ) R.prog w) 8000 R.prog w os).map (fun s => (seenQ QV loose (importedModules R.prog.main.body) (fun s => xlAt QV [] s && recOk R.toRowW.records s) s.abs, exE0 cfg (frZ (getT s)))) = some (openGood QV loose, true) := by kernel_rfl
theorem run3 (w : World) (os : OsState) : (endF (stepQ (denQ tabQ) R.prog w) 8000 R.prog w os).map (fun s => defs.all fun d => d.ok (frZ (getT s))) = some true := by kernel_rfl
theorem run4 (w : World) (os : OsState) : (endF (stepQ (denQ tabQ) R.prog w) 8000 R.prog w os).map (fun s => (defs.map (fun d => He.fnW (frZ (getT s)) d.at_), icsB cfg (frZ (getT s)))) = some (defs.map He.DefD.val, true) := by kernel_rfl
end
theorem run (w : World) : HandSHeadRun.RunEq R QV hk ob 8000 loose w := fun os => head_four (run1 w os) (run2 w os) (run3 w os) (run4 w os)
end K91
set_option maxHeartbeats 4000000
local macro_rules | `(tactic| walk_at "dv") => `(tactic| first | assumption | (apply_assumption; done) | exact BW.mulOk_of _ _ (by decide) | exact BW.divOk_of _ _ (by first | decide | assumption | omega) (by decide) | decide | omega | (refine BW.le_size' ?_; first | omega | (simp only [List.length_cons, List.length_nil, List.length_append, List.length_map]; omega)) | simp)
namespace BW
open PySem PySem.Spec PyProof.Rows L2
theorem cells_bd' {ns : List Int} {m k : Nat} (hb : ∀ z ∈ ns, Builtin.Int.intBits z ≤ 1048576) : ∀ z ∈ ns.take m ++ List.replicate k 0, Bd z 1048576 := by
  intro z hz
  rcases List.mem_append.mp hz with h | h
  · exact bits_bd (hb z (List.mem_of_mem_take h))
  · rw [(List.mem_replicate.mp h).2]
    exact ⟨Nat.pow_pos (by decide)⟩
section
variable {P : Prog} {i : Nat}
end
end BW
set_option maxHeartbeats 4000000
/-! Stepping: raise, try. -/
namespace BW
open PySem PySem.Spec PyProof.Rows L2
section
variable (P : Prog) (D : Den) (xv : Option PX) (ρ : BW.Env) (μ : Store)
theorem s_raise {c : Nat} {C : Cl} (h : P.cl[c]? = some C) (hx : C.exf = []) : evS P D (.raise c []) xv ρ μ = .mk (.ex ⟨c, []⟩ ρ) μ := by
  rw [evS, evEs_nil']
  simp only [Res.st_ok, h, hx, intsOf, List.length_nil, if_true]
  rfl
noncomputable def kTry (hs : List (List Ty × Option Nat × List IS)) : RS → RS
  | .mk (.ex e ρ1) μ1 => evHs P D hs e ρ1 μ1
  | r => r
@[simp] theorem s_try (b : List IS) (hs : List (List Ty × Option Nat × List IS)) : evS P D (.try b hs) xv ρ μ = kTry P D hs (evSs P D b xv ρ μ) := by
  rw [evS]
  unfold kTry
  cases evSs P D b xv ρ μ with
  | bad => rfl
  | mk f μ1 => cases f <;> rfl
@[simp] theorem kTry_ex (hs : List (List Ty × Option Nat × List IS)) (e : PX) : kTry P D hs (.mk (.ex e ρ) μ) = evHs P D hs e ρ μ := rfl
@[simp] theorem kTry_nx (hs : List (List Ty × Option Nat × List IS)) : kTry P D hs (.mk (.nx ρ) μ) = .mk (.nx ρ) μ := rfl
@[simp] theorem kTry_bk (hs : List (List Ty × Option Nat × List IS)) : kTry P D hs (.mk (.bk ρ) μ) = .mk (.bk ρ) μ := rfl
@[simp] theorem kTry_ct (hs : List (List Ty × Option Nat × List IS)) : kTry P D hs (.mk (.ct ρ) μ) = .mk (.ct ρ) μ := rfl
@[simp] theorem kTry_rt (hs : List (List Ty × Option Nat × List IS)) (v : PV) : kTry P D hs (.mk (.rt v) μ) = .mk (.rt v) μ := rfl
@[simp] theorem nox_nx : (RS.mk (.nx ρ) μ).nox = .mk (.nx ρ) μ := rfl
@[simp] theorem nox_bk : (RS.mk (.bk ρ) μ).nox = .mk (.bk ρ) μ := rfl
@[simp] theorem nox_ct : (RS.mk (.ct ρ) μ).nox = .mk (.ct ρ) μ := rfl
@[simp] theorem nox_rt (v : PV) : (RS.mk (.rt v) μ).nox = .mk (.rt v) μ := rfl
@[simp] theorem gone_nx (i : Nat) : (RS.mk (.nx ρ) μ).gone i = .mk (.nx (ρ.set i none)) μ := rfl
@[simp] theorem gone_bk (i : Nat) : (RS.mk (.bk ρ) μ).gone i = .mk (.bk (ρ.set i none)) μ := rfl
@[simp] theorem gone_ct (i : Nat) : (RS.mk (.ct ρ) μ).gone i = .mk (.ct (ρ.set i none)) μ := rfl
@[simp] theorem gone_rt (i : Nat) (v : PV) : (RS.mk (.rt v) μ).gone i = .mk (.rt v) μ := rfl
@[simp] theorem h_nil (e : PX) : evHs P D [] e ρ μ = .mk (.ex e ρ) μ := by rw [evHs]
theorem h_no {ts : List Ty} {oi : Option Nat} {b : List IS} {hs : List (List Ty × Option Nat × List IS)} {e : PX} (h : isTags P (.exc e.c) ts = some false) : evHs P D ((ts, oi, b) :: hs) e ρ μ = evHs P D hs e ρ μ := by
  cases oi <;> (rw [evHs]; simp only [h])
theorem h_as {ts : List Ty} {i : Nat} {b : List IS} {hs : List (List Ty × Option Nat × List IS)} {e : PX} (h : isTags P (.exc e.c) ts = some true) (hi : i < ρ.length) : evHs P D ((ts, some i, b) :: hs) e ρ μ = ((evSs P D b (some e) (ρ.set i none) μ).nox).gone i := by
  rw [evHs]; simp only [h, if_pos hi]
end
end BW
set_option maxHeartbeats 4000000
/-! The box's defs. -/
local macro_rules | `(tactic| walk_at "dv") => `(tactic| first | assumption | (apply_assumption; done) | exact BW.mulOk_of _ _ (by decide) | exact BW.divOk_of _ _ (by first | decide | assumption | omega) (by decide) | decide | omega | (refine BW.le_size' ?_; first | omega | (simp only [List.length_cons, List.length_nil, List.length_append, List.length_map]; omega)) | simp)
namespace BW
open PySem PySem.Spec PyProof.Rows L2
section
variable {P : Prog} {i : Nat}
end
end BW
set_option maxHeartbeats 4000000
/-! What the laws of the box draw. -/
local macro_rules | `(tactic| walk_at "dv") => `(tactic| first | assumption | (apply_assumption; done) | exact BW.mulOk_of _ _ (by decide) | exact BW.divOk_of _ _ (by first | decide | assumption | omega) (by decide) | decide | omega | (refine BW.le_size' ?_; first | omega | (simp only [List.length_cons, List.length_nil, List.length_append, List.length_map]; omega)) | simp)
namespace BW
open PySem PySem.Spec PyProof.Rows L2
@[simp] theorem at_8 (x0 x1 x2 x3 x4 x5 x6 x7 x8 : PV) (xs : List PV) : L2.atI (x0 :: x1 :: x2 :: x3 :: x4 :: x5 :: x6 :: x7 :: x8 :: xs) 8 = some x8 := L2.atI_nat (j := 8) rfl
@[simp] theorem at_9 (x0 x1 x2 x3 x4 x5 x6 x7 x8 x9 : PV) (xs : List PV) : L2.atI (x0 :: x1 :: x2 :: x3 :: x4 :: x5 :: x6 :: x7 :: x8 :: x9 :: xs) 9 = some x9 := L2.atI_nat (j := 9) rfl
theorem cut_29 (x0 x1 x2 x3 x4 x5 x6 x7 x8 : PV) : cut [x0, x1, x2, x3, x4, x5, x6, x7, x8] (some 2) (some 9) = [x2, x3, x4, x5, x6, x7, x8] := rfl
@[simp] theorem is_tup_non (xs : List PV) (μ : Store) : cmpV .is (.tup xs) .non μ = .ok (.bl false) μ := rfl
@[simp] theorem isnot_tup_non (xs : List PV) (μ : Store) : cmpV .isnot (.tup xs) .non μ = .ok (.bl true) μ := rfl
@[simp] theorem is_int_non (x : Int) (μ : Store) : cmpV .is (.int x) .non μ = .ok (.bl false) μ := rfl
@[simp] theorem isnot_int_non (x : Int) (μ : Store) : cmpV .isnot (.int x) .non μ = .ok (.bl true) μ := rfl
@[simp] theorem is_loc_non (l : Nat) (μ : Store) : cmpV .is (.loc l) .non μ = .ok (.bl false) μ := rfl
@[simp] theorem isnot_loc_non (l : Nat) (μ : Store) : cmpV .isnot (.loc l) .non μ = .ok (.bl true) μ := rfl
theorem eqB_32 (μ : Store) (a b c d e a' b' c' d' e' : Int) : eqB μ (.tup [.tup [.int a, .int b, .int c], .tup [.int d, .int e]]) (.tup [.tup [.int a', .int b', .int c'], .tup [.int d', .int e']]) = some (decide (a = a' ∧ b = b' ∧ c = c' ∧ d = d' ∧ e = e')) := by
  show (if SeqAt.shaped (.tuple [.tuple [.int a, .int b, .int c], .tuple [.int d, .int e]]) = true ∧ SeqAt.shaped (.tuple [.tuple [.int a', .int b', .int c'], .tuple [.int d', .int e']]) = true then some (PyData.eqv (.tuple [.tuple [.int a, .int b, .int c], .tuple [.int d, .int e]]) (.tuple [.tuple [.int a', .int b', .int c'], .tuple [.int d', .int e']])) else none) = _
  rw [if_pos ⟨rfl, rfl⟩]
  congr 1
  rw [Bool.eq_iff_iff]
  simp [PyData.eqv, PyData.eqvAll, and_assoc]
@[simp] theorem cmpV_ne32 (μ : Store) (a b c d e a' b' c' d' e' : Int) : cmpV .ne (.tup [.tup [.int a, .int b, .int c], .tup [.int d, .int e]]) (.tup [.tup [.int a', .int b', .int c'], .tup [.int d', .int e']]) μ = .ok (.bl (!decide (a = a' ∧ b = b' ∧ c = c' ∧ d = d' ∧ e = e'))) μ := cmpV_neB μ (eqB_32 μ a b c d e a' b' c' d' e')
@[simp] theorem cmpV_eq32 (μ : Store) (a b c d e a' b' c' d' e' : Int) : cmpV .eq (.tup [.tup [.int a, .int b, .int c], .tup [.int d, .int e]]) (.tup [.tup [.int a', .int b', .int c'], .tup [.int d', .int e']]) μ = .ok (.bl (decide (a = a' ∧ b = b' ∧ c = c' ∧ d = d' ∧ e = e'))) μ := cmpV_eqB μ (eqB_32 μ a b c d e a' b' c' d' e')
theorem lt_of_mul {s a b : Int} (h : s * a < s * b) (hs : 0 < s) : a < b := by
  rcases Int.lt_or_le a b with h1 | h1
  · exact h1
  · have := Int.mul_le_mul_of_nonneg_left h1 (Int.le_of_lt hs)
    omega
theorem ss_app (P : Prog) (D : Den) (xv : Option PX) : ∀ (a b : List IS) (ρ : BW.Env) (μ : Store), evSs P D (a ++ b) xv ρ μ = (evSs P D a xv ρ μ).seq (kSs P D xv b)
  | [], b, ρ, μ => by
    rw [ss_nil']
    rfl
  | s :: a, b, ρ, μ => by
    rw [List.cons_append, ss_cons', ss_cons']
    cases evS P D s xv ρ μ with
    | bad => rfl
    | mk f μ1 =>
      cases f with
      | nx ρ1 => exact ss_app P D xv a b ρ1 μ1
      | bk ρ1 => rfl
      | ct ρ1 => rfl
      | rt v => rfl
      | ex e ρ1 => rfl
/-- the body of a for in a body -/
def forB (b : List IS) (k : Nat) : List IS := match b[k]? with
  | some (.for _ _ s) => s
  | _ => []
theorem ss_cut (P : Prog) (D : Den) (xv : Option PX) (k : Nat) (b : List IS) (ρ : BW.Env) (μ : Store) : evSs P D b xv ρ μ = (evSs P D (b.take k) xv ρ μ).seq (kSs P D xv (b.drop k)) := by
  rw [← ss_app, List.take_append_drop]
section
variable {P : Prog} {i : Nat}
end
end BW
set_option maxHeartbeats 4000000
/-! Comprehensions that make cells; swinging, once more. -/
namespace BW
open PySem PySem.Spec PyProof.Rows L2
@[simp] theorem bi_max2t (a b c d : Int) (μ : Store) : biV .max [.tup [.int a, .int b], .tup [.int c, .int d]] μ = .ok (.tup (if HT.lexLt [a, b] [c, d] = true then [.int c, .int d] else [.int a, .int b])) μ := rfl
@[simp] theorem bi_min2t (a b c d : Int) (μ : Store) : biV .min [.tup [.int a, .int b], .tup [.int c, .int d]] μ = .ok (.tup (if HT.lexLt [c, d] [a, b] = true then [.int c, .int d] else [.int a, .int b])) μ := rfl
@[simp] theorem bi_max1t (i j : Int) (μ : Store) : biV .max [.tup [.int i, .int j]] μ = .ok (.int (max i j)) μ := by
  have e : (if j > i then j else i) = max i j := by omega
  rw [← e]; rfl
theorem cut_nat {α : Type} (xs : List α) (a b : Nat) : cut xs (some (a : Int)) (some (b : Int)) = (xs.drop a).take (b - a) := by
  unfold cut
  rw [HT.sIx_nat, HT.sIx_nat]
  apply List.ext_getElem?
  intro i
  simp only [List.getElem?_take, List.getElem?_drop]
  by_cases h1 : a ≤ xs.length
  · rw [Nat.min_eq_left h1]
    by_cases h2 : i < b - a
    · rw [if_pos h2]
      by_cases h3 : i < min b xs.length - a
      · rw [if_pos h3]
      · rw [if_neg h3]
        exact (List.getElem?_eq_none (by omega)).symm
    · rw [if_neg h2, if_neg (by omega)]
  · rw [if_neg (by omega)]
    split
    · exact (List.getElem?_eq_none (by omega)).symm
    · rfl
/-! ### swinging -/
end BW
set_option maxHeartbeats 8000000
/-! Walls; what the laws of walls draw. -/
local macro_rules | `(tactic| walk_at "dv") => `(tactic| first | assumption | (apply_assumption; done) | exact BW.mulOk_of _ _ (by decide) | exact BW.divOk_of _ _ (by first | decide | assumption | omega) (by decide) | decide | omega | (refine BW.le_size' ?_; first | omega | (simp only [List.length_cons, List.length_nil, List.length_append, List.length_map]; omega)) | simp)
namespace BW
open PySem PySem.Spec PyProof.Rows L2
/-- all bounded (hidden from the search for bounds) -/
structure BdA (zs : List Int) (k : Nat) : Prop where
  h : ∀ z ∈ zs, Bd z k
theorem bd_getD {ns : List Int} (hb : BdA ns 1048576) (j : Nat) : Bd (ns.getD j 0) 1048576 := by
  rw [List.getD_eq_getElem?_getD]
  cases h : ns[j]? with
  | none => exact ⟨by decide +kernel⟩
  | some v => exact hb.h v (List.mem_of_getElem? h)
def fldL (f : Nat) (μ : Store) : Option Cell → Res PV
  | some (.ins _ fs) => Res.ofO (look f fs) μ
  | _ => .bad
@[simp] theorem fldV_loc (l f : Nat) (μ : Store) : fldV (.loc l) f μ = fldL f μ μ[l]? := by
  show (match μ[l]? with | some (.ins _ fs) => Res.ofO (look f fs) μ | _ => .bad) = _
  cases μ[l]? with
  | none => rfl
  | some c => cases c <;> rfl
@[simp] theorem fldL_ (c f : Nat) (fs : List (Nat × PV)) (μ : Store) : fldL f μ (some (.ins c fs)) = Res.ofO (look f fs) μ := rfl
theorem meth_at {P : Prog} {C : Cl} {c m f l : Nat} {fs : List (Nat × PV)} {μ : Store} (h : μ[l]? = some (.ins c fs)) (hc : P.cl[c]? = some C) (hf : look m C.meth = some f) : methOf P μ m (.loc l) = some f := by
  have e : instCls μ (.loc l) = some (l, c) := by
    show (match μ[l]? with | some (.ins c _) => some (l, c) | _ => none) = _
    rw [h]
  unfold methOf
  rw [e]
  show (P.cl[c]?.bind fun C => look m C.meth) = some f
  rw [hc]; exact hf
theorem lex2 (a b c d : Int) : HT.lexLt [a, b] [c, d] = decide (a < c ∨ (a = c ∧ b < d)) := by
  rw [Bool.eq_iff_iff, decide_eq_true_iff]
  by_cases h1 : a = c
  · subst h1
    by_cases h2 : b = d
    · subst h2; simp [HT.lexLt]
    · simp [HT.lexLt, h2]
  · simp [HT.lexLt, h1]
/-! ### lines -/
def lineB (r u : Int) : Option Int := if r = 0 ∧ u = 0 then none else if u = 0 then some 0 else if r = u then some 1 else if r = 0 then some 2 else if r = -u then some 3 else none
def oI : Option Int → PV
  | none => .non
  | some i => .int i
section
variable {P : Prog} {i : Nat}
def fLB : Fn := ⟨4, 2, [.set 2 (.bin .sub (.idx (.var 1) (.con (.int 0))) (.idx (.var 0) (.con (.int 0)))), .set 3 (.bin .sub (.idx (.var 1) (.con (.int 1))) (.idx (.var 0) (.con (.int 1)))), .ifs (.and (.val (.cmp .eq (.var 2) (.con (.int 0)))) (.val (.cmp .eq (.var 3) (.con (.int 0))))) [.ret (.con .non)] [], .ifs (.val (.cmp .eq (.var 3) (.con (.int 0)))) [.ret (.con (.int 0))] [], .ifs (.val (.cmp .eq (.var 2) (.var 3))) [.ret (.con (.int 1))] [], .ifs (.val (.cmp .eq (.var 2) (.con (.int 0)))) [.ret (.con (.int 2))] [], .ifs (.val (.cmp .eq (.var 2) (.neg (.var 3)))) [.ret (.con (.int 3))] [], .ret (.con .non)]⟩
theorem lb_ok (h : P.fn[i]? = some fLB) (n : Nat) (a b c d : Int) (μ : Store) : den P (n + 1) i [.tup [.int a, .int b], .tup [.int c, .int d]] μ = .ok (oI (lineB (c - a) (d - b))) μ := by
  rw [den_at h rfl]
  show (evSs P (den P n) fLB.body none [some (.tup [.int a, .int b]), some (.tup [.int c, .int d]), none, none] μ).out = _
  unfold fLB lineB
  generalize hr : c - a = r
  generalize hu : d - b = u
  by_cases h1 : r = 0
  · by_cases h2 : u = 0
    · simp [hr, hu, h1, h2, oI]
    · have h3 : ¬ (0 : Int) = u := fun z => h2 z.symm
      simp [hr, hu, h1, h2, h3, oI]
  · by_cases h2 : u = 0
    · simp [hr, hu, h1, h2, oI]
    · by_cases h3 : r = u
      · have h4 : ¬ u = 0 := h2
        simp [hr, hu, h3, h2, oI]
      · by_cases h4 : r = -u
        · have h5 : ¬ -u = u := fun z => h3 (by omega)
          have h6 : ¬ -u = 0 := by omega
          simp [hr, hu, h2, h4, h5, h6, oI]
        · simp [hr, hu, h1, h2, h3, h4, oI]
def fFar : Fn := ⟨1, 1, [.ret (.cmp .gt (.bi .max [.bi .abs [.idx (.var 0) (.con (.int 0))], .bi .abs [.idx (.var 0) (.con (.int 1))]]) (.con (.int 1000)))]⟩
def farB (a b : Int) : Bool := decide (1000 < max (a.natAbs : Int) (b.natAbs : Int))
theorem far_ok (h : P.fn[i]? = some fFar) (n : Nat) (a b : Int) (μ : Store) : den P (n + 1) i [.tup [.int a, .int b]] μ = .ok (.bl (farB a b)) μ := by
  rw [den_at h rfl]
  show (evSs P (den P n) fFar.body none [some (.tup [.int a, .int b])] μ).out = _
  unfold fFar farB
  simp
/-- the ends of a wall, the lesser one ahead -/
structure Wl (x y u v k : Int) : Prop where
  lt : x < u ∨ (x = u ∧ y < v)
  ln : lineB (u - x) (v - y) = some k
  f1 : farB x y = false
  f2 : farB u v = false
theorem lineB_neg {r u k : Int} (h : lineB r u = some k) : lineB (-r) (-u) = some k := by
  unfold lineB at h ⊢
  by_cases h1 : r = 0
  · by_cases h2 : u = 0
    · rw [if_pos ⟨h1, h2⟩] at h; cases h
    · simp only [h1, h2, Int.neg_zero, and_false, if_false, Int.neg_eq_zero] at h ⊢
      have e1 : ¬ (0 : Int) = u := fun z => h2 z.symm
      have e2 : ¬ (0 : Int) = -u := by omega
      rw [if_neg e1] at h
      rw [if_neg e2]
      exact h
  · have e0 : ¬ -r = 0 := by omega
    simp only [h1, e0, false_and, if_false] at h ⊢
    by_cases h2 : u = 0
    · rw [if_pos h2] at h; rw [if_pos (by omega)]; exact h
    · rw [if_neg h2] at h; rw [if_neg (by omega)]
      by_cases h3 : r = u
      · rw [if_pos h3] at h; rw [if_pos (by omega)]; exact h
      · rw [if_neg h3] at h; rw [if_neg (by omega)]
        by_cases h4 : r = -u
        · rw [if_pos h4] at h; rw [if_pos (by omega)]; exact h
        · rw [if_neg h4] at h; cases h
def fWI (lb far c fo ft : Nat) : Fn := ⟨3, 3, [.ifs (.or (.val (.cmp .is (.call lb [.var 1, .var 2]) (.con .non))) (.or (.val (.call far [.var 1])) (.val (.call far [.var 2])))) [.raise c []] [], .sfld (.var 0) fo (.bi .min [.var 1, .var 2]), .sfld (.var 0) ft (.bi .max [.var 1, .var 2])]⟩
@[simp] theorem stF_ins (l c f : Nat) (ρ : BW.Env) (v : PV) (μ : Store) (fs : List (Nat × PV)) (h : fs.length < 1000) : stF l ρ f v μ (some (.ins c fs)) = .mk (.nx ρ) (μ.set l (.ins c (put f v fs))) := if_pos h
theorem wi_new {lb far c fo ft : Nat} (hl : P.fn[lb]? = some fLB) (hf : P.fn[far]? = some fFar) (h : P.fn[i]? = some (fWI lb far c fo ft)) (ne : fo ≠ ft) (n k : Nat) {x y u v z : Int} (w : Wl x y u v z) (sw : Bool) (μ : Store) :
    den P (n + 2) i [.loc μ.length, .tup (if sw then [.int u, .int v] else [.int x, .int y]), .tup (if sw then [.int x, .int y] else [.int u, .int v])] (μ ++ [.ins k []]) = .ok .non (μ ++ [.ins k [(fo, .tup [.int x, .int y]), (ft, .tup [.int u, .int v])]]) := by
  rw [den_at h rfl]
  show (evSs P (den P (n + 1)) (fWI lb far c fo ft).body none [some (.loc μ.length), some (.tup (if sw then [.int u, .int v] else [.int x, .int y])), some (.tup (if sw then [.int x, .int y] else [.int u, .int v]))] (μ ++ [.ins k []])).out = _
  unfold fWI
  obtain ⟨lt, ln, f1, f2⟩ := w
  have lx : HT.lexLt [x, y] [u, v] = true := by rw [lex2]; exact decide_eq_true lt
  have lx2 : HT.lexLt [u, v] [x, y] = false := by rw [lex2]; exact decide_eq_false (by omega)
  have a1 := far_ok hf n x y (μ ++ [.ins k []])
  have a2 := far_ok hf n u v (μ ++ [.ins k []])
  rw [f1] at a1
  rw [f2] at a2
  cases sw with
  | false =>
    have a3 := lb_ok hl n x y u v (μ ++ [.ins k []])
    rw [ln] at a3
    simp [a1, a2, a3, oI, lx, lx2, put, ne]
  | true =>
    have a3 := lb_ok hl n u v x y (μ ++ [.ins k []])
    have e1 : x - u = -(u - x) := by omega
    have e2 : y - v = -(v - y) := by omega
    rw [e1, e2, lineB_neg ln] at a3
    simp [a1, a2, a3, oI, lx, lx2, put, ne]
def fDI (wi c fc : Nat) : Fn := ⟨4, 4, [.ex (.call wi [.var 0, .var 1, .var 2]), .ifs (.or (.val (.cmp .lt (.var 3) (.con (.int 1)))) (.val (.cmp .gt (.var 3) (.con (.int 9))))) [.raise c []] [], .sfld (.var 0) fc (.var 3)]⟩
theorem di_new {lb far c fo ft wi fc : Nat} (hl : P.fn[lb]? = some fLB) (hf : P.fn[far]? = some fFar) (hw : P.fn[wi]? = some (fWI lb far c fo ft)) (h : P.fn[i]? = some (fDI wi c fc)) (ne : fo ≠ ft) (ne2 : fo ≠ fc) (ne3 : ft ≠ fc) (n k : Nat) {x y u v z : Int} (w : Wl x y u v z) (sw : Bool) {e : Int} (e1 : 1 ≤ e) (e2 : e ≤ 9) (μ : Store) :
    den P (n + 3) i [.loc μ.length, .tup (if sw then [.int u, .int v] else [.int x, .int y]), .tup (if sw then [.int x, .int y] else [.int u, .int v]), .int e] (μ ++ [.ins k []]) = .ok .non (μ ++ [.ins k [(fo, .tup [.int x, .int y]), (ft, .tup [.int u, .int v]), (fc, .int e)]]) := by
  rw [den_at h rfl]
  show (evSs P (den P (n + 2)) (fDI wi c fc).body none [some (.loc μ.length), some (.tup (if sw then [.int u, .int v] else [.int x, .int y])), some (.tup (if sw then [.int x, .int y] else [.int u, .int v])), some (.int e)] (μ ++ [.ins k []])).out = _
  unfold fDI
  have a := wi_new hl hf hw ne n k w sw μ
  have g1 : ¬ e < 1 := by omega
  have g2 : ¬ 9 < e := by omega
  simp [a, g1, g2, put, ne2, ne3]
def fLn (lb fo ft : Nat) : Fn := ⟨1, 1, [.ret (.call lb [.fld (.var 0) fo, .fld (.var 0) ft])]⟩
theorem ln_ok {lb fo ft : Nat} (hl : P.fn[lb]? = some fLB) (h : P.fn[i]? = some (fLn lb fo ft)) (n : Nat) {l c : Nat} {fs : List (Nat × PV)} {x y u v : Int} {μ : Store} (hc : μ[l]? = some (.ins c fs)) (h1 : look fo fs = some (.tup [.int x, .int y])) (h2 : look ft fs = some (.tup [.int u, .int v])) :
    den P (n + 2) i [.loc l] μ = .ok (oI (lineB (u - x) (v - y))) μ := by
  rw [den_at h rfl]
  show (evSs P (den P (n + 1)) (fLn lb fo ft).body none [some (.loc l)] μ).out = _
  unfold fLn
  have a3 := lb_ok hl n x y u v μ
  simp [hc, h1, h2, a3]
def fHolds (fo ft : Nat) : Fn := ⟨9, 2, [.asg (.tup [(.nm 2), (.nm 3), (.nm 4)]) (.var 1), .set 5 (.bin .sub (.idx (.fld (.var 0) ft) (.con (.int 0))) (.idx (.fld (.var 0) fo) (.con (.int 0)))), .set 6 (.bin .sub (.idx (.fld (.var 0) ft) (.con (.int 1))) (.idx (.fld (.var 0) fo) (.con (.int 1)))), .set 7 (.bin .sub (.var 2) (.bin .mul (.var 4) (.idx (.fld (.var 0) fo) (.con (.int 0))))), .set 8 (.bin .sub (.var 3) (.bin .mul (.var 4) (.idx (.fld (.var 0) fo) (.con (.int 1))))), .ifs (.val (.cmp .ne (.bin .mul (.var 5) (.var 8)) (.bin .mul (.var 6) (.var 7)))) [.ret (.con (.bl false))] [], .ret (.chain .le .le (.con (.int 0)) (.bin .add (.bin .mul (.var 5) (.var 7)) (.bin .mul (.var 6) (.var 8))) (.bin .mul (.var 4) (.bin .add (.bin .mul (.var 5) (.var 5)) (.bin .mul (.var 6) (.var 6)))))]⟩
def holdsB (x y u v X Y W : Int) : Bool := decide ((u - x) * (Y - W * y) = (v - y) * (X - W * x)) && (decide (0 ≤ (u - x) * (X - W * x) + (v - y) * (Y - W * y)) && decide ((u - x) * (X - W * x) + (v - y) * (Y - W * y) ≤ W * ((u - x) * (u - x) + (v - y) * (v - y))))
theorem holds_ok {fo ft : Nat} (h : P.fn[i]? = some (fHolds fo ft)) (n : Nat) {l c : Nat} {fs : List (Nat × PV)} {x y u v X Y W : Int} {μ : Store} (hc : μ[l]? = some (.ins c fs)) (h1 : look fo fs = some (.tup [.int x, .int y])) (h2 : look ft fs = some (.tup [.int u, .int v])) {k : Nat} (bx : Bd x k) (by_ : Bd y k) (bu : Bd u k) (bv : Bd v k) (bX : Bd X k) (bY : Bd Y k) (bW : Bd W k) (hk : k ≤ 10000000) :
    den P (n + 1) i [.loc l, .tup [.int X, .int Y, .int W]] μ = .ok (.bl (holdsB x y u v X Y W)) μ := by
  have bx := bx.mono (l := 10000000) hk
  have by_ := by_.mono (l := 10000000) hk
  have bu := bu.mono (l := 10000000) hk
  have bv := bv.mono (l := 10000000) hk
  have bX := bX.mono (l := 10000000) hk
  have bY := bY.mono (l := 10000000) hk
  have bW := bW.mono (l := 10000000) hk
  rw [den_at h rfl]
  show (evSs P (den P n) (fHolds fo ft).body none [some (.loc l), some (.tup [.int X, .int Y, .int W]), none, none, none, none, none, none, none] μ).out = _
  unfold fHolds holdsB
  by_cases e1 : (u - x) * (Y - W * y) = (v - y) * (X - W * x)
  · by_cases e2 : 0 ≤ (u - x) * (X - W * x) + (v - y) * (Y - W * y)
    · simp (disch := walk_at "dv") [hc, h1, h2, e1, e2]
    · simp (disch := walk_at "dv") [hc, h1, h2, e1, e2]
  · simp (disch := walk_at "dv") [hc, h1, h2, e1]
def fEnds (fo ft : Nat) : Fn := ⟨2, 2, [.ret (.and (.cmp .eq (.idx (.var 1) (.con (.int 2))) (.con (.int 1))) (.cmp .inn (.tup [.idx (.var 1) (.con (.int 0)), .idx (.var 1) (.con (.int 1))]) (.tup [.fld (.var 0) fo, .fld (.var 0) ft])))]⟩
theorem inB_two (μ : Store) (a b x y u v : Int) : inB μ (.tup [.int a, .int b]) (.tup [.tup [.int x, .int y], .tup [.int u, .int v]]) = some (decide (a = x ∧ b = y) || decide (a = u ∧ b = v)) := by
  show (if SeqAt.shaped (.tuple [.int a, .int b]) = true ∧ SeqAt.shaped (.list [.tuple [.int x, .int y], .tuple [.int u, .int v]]) = true then some (([PyData.tuple [.int x, .int y], .tuple [.int u, .int v]]).any fun z => PyData.eqv z (.tuple [.int a, .int b])) else none) = _
  rw [if_pos ⟨rfl, rfl⟩]
  congr 1
  rw [Bool.eq_iff_iff]
  simp [PyData.eqv, PyData.eqvAll, @eq_comm Int x a, @eq_comm Int y b, @eq_comm Int u a, @eq_comm Int v b]
theorem ends_ok {fo ft : Nat} (h : P.fn[i]? = some (fEnds fo ft)) (n : Nat) {l c : Nat} {fs : List (Nat × PV)} {x y u v X Y W : Int} {μ : Store} (hc : μ[l]? = some (.ins c fs)) (h1 : look fo fs = some (.tup [.int x, .int y])) (h2 : look ft fs = some (.tup [.int u, .int v])) :
    den P (n + 1) i [.loc l, .tup [.int X, .int Y, .int W]] μ = .ok (.bl (decide (W = 1 ∧ ((X = x ∧ Y = y) ∨ (X = u ∧ Y = v))))) μ := by
  rw [den_at h rfl]
  show (evSs P (den P n) (fEnds fo ft).body none [some (.loc l), some (.tup [.int X, .int Y, .int W])] μ).out = _
  unfold fEnds
  by_cases e1 : W = 1
  · simp [hc, h1, h2, e1, inB_two]
  · simp [e1]
/-! ### drawn things -/
def fCell : Fn := ⟨2, 2, [.ifs (.val (.cmp .lt (.var 1) (.bi .len [.var 0]))) [.ret (.idx (.var 0) (.var 1))] [], .ret (.con (.int 0))]⟩
theorem cell_ok (h : P.fn[i]? = some fCell) (n : Nat) {l : Nat} {ns : List Int} {k : Int} (hk : 0 ≤ k) {μ : Store} (hl : listAt μ (.loc l) = some (ns.map .int)) (hn : ns.length ≤ 1000) : den P (n + 1) i [.loc l, .int k] μ = .ok (.int (ns.getD k.toNat 0)) μ := by
  rw [den_at h rfl]
  show (evSs P (den P n) fCell.body none [some (.loc l), some (.int k)] μ).out = _
  unfold fCell
  by_cases e : k < ns.length
  · have a := atI_map (xs := ns) hk e
    simp [hl, e, a]
  · have : ns.getD k.toNat 0 = 0 := by
      rw [List.getD_eq_getElem?_getD, List.getElem?_eq_none (by omega)]; rfl
    rw [this]
    simp [hl, e]
def fUnit : Fn := ⟨1, 1, [.ret (.idx (.lst [.tup [.con (.int 1), .con (.int 0)], .tup [.con (.int 1), .con (.int 1)], .tup [.con (.int 0), .con (.int 1)], .tup [.con (.int 1), .neg (.con (.int 1))]]) (.var 0))]⟩
/-- a line's way -/
def unitX (k : Int) : Int := if k = 2 then 0 else 1
def unitY (k : Int) : Int := if k = 0 then 0 else if k = 3 then -1 else 1
def units : Cell := .lst [.tup [.int 1, .int 0], .tup [.int 1, .int 1], .tup [.int 0, .int 1], .tup [.int 1, .int (-1)]]
theorem unit_ok (h : P.fn[i]? = some fUnit) (n : Nat) {k : Int} (h0 : 0 ≤ k) (h1 : k < 4) (μ : Store) : den P (n + 1) i [.int k] μ = .ok (.tup [.int (unitX k), .int (unitY k)]) (μ ++ [units]) := by
  rw [den_at h rfl]
  show (evSs P (den P n) fUnit.body none [some (.int k)] μ).out = _
  unfold fUnit units
  rcases (show k = 0 ∨ k = 1 ∨ k = 2 ∨ k = 3 by omega) with rfl | rfl | rfl | rfl <;> simp [unitX, unitY]
def fSize : Fn := ⟨3, 2, [.set 2 (.idx (.lst [.bin .sub (.con (.int 1000)) (.idx (.var 1) (.con (.int 0))), .bin .sub (.con (.int 1000)) (.bi .max [.var 1]), .bin .sub (.con (.int 1000)) (.idx (.var 1) (.con (.int 1))), .bin .sub (.con (.int 1000)) (.bi .max [.idx (.var 1) (.con (.int 0)), .bin .sub (.con (.int 0)) (.idx (.var 1) (.con (.int 1)))])]) (.bin .mod (.idx (.var 0) (.con (.int 0))) (.con (.int 4)))), .ifs (.val (.cmp .eq (.bin .mod (.idx (.var 0) (.con (.int 3))) (.con (.int 3))) (.con (.int 0)))) [.set 2 (.bi .min [.var 2, .con (.int 4)])] [], .ret (.bin .add (.con (.int 1)) (.bin .mod (.bin .fdiv (.idx (.var 0) (.con (.int 3))) (.con (.int 3))) (.var 2)))]⟩
def reach (k x y : Int) : Int := if k = 0 then 1000 - x else if k = 1 then 1000 - max x y else if k = 2 then 1000 - y else 1000 - max x (-y)
def sizeV (c3 rc : Int) : Int := 1 + (c3.fdiv 3).fmod (if c3.fmod 3 = 0 then min rc 4 else rc)
theorem size_ok (h : P.fn[i]? = some fSize) (n : Nat) {l : Nat} {c0 c1 c2 c3 x y : Int} {r : List PV} {μ : Store} (hl : μ[l]? = some (.lst (.int c0 :: .int c1 :: .int c2 :: .int c3 :: r))) (hr : r.length ≤ 100) (hp : 1 ≤ reach (c0.fmod 4) x y) : ∃ μ', den P (n + 1) i [.loc l, .tup [.int x, .int y]] μ = .ok (.int (sizeV c3 (reach (c0.fmod 4) x y))) μ' ∧ Gr μ μ' := by
  rw [den_at h rfl]
  refine ⟨μ ++ [.lst [.int (1000 - x), .int (1000 - max x y), .int (1000 - y), .int (1000 - max x (-y))]], ?_, Gr.app⟩
  show (evSs P (den P n) fSize.body none [some (.loc l), some (.tup [.int x, .int y]), none] μ).out = _
  unfold fSize sizeV
  have k0 := Int.fmod_nonneg_of_pos c0 (show (0 : Int) < 4 by decide)
  have k1 := Int.fmod_lt_of_pos c0 (show (0 : Int) < 4 by decide)
  generalize hk : c0.fmod 4 = k at k0 k1 hp
  generalize hR : reach k x y = R at hp ⊢
  have hat : L2.atI [PV.int (1000 - x), .int (1000 - max x y), .int (1000 - y), .int (1000 - max x (-y))] k = some (.int R) := by
    rw [← hR]
    rcases (show k = 0 ∨ k = 1 ∨ k = 2 ∨ k = 3 by omega) with rfl | rfl | rfl | rfl <;> simp [reach]
  have R0 : R ≠ 0 := by omega
  have R1 : min R 4 ≠ 0 := by omega
  by_cases e : c3.fmod 3 = 0
  · simp (disch := walk_at "dv") [hl, get_app hl, get_app' hl, hk, hat, e, R1]
  · simp (disch := walk_at "dv") [hl, get_app hl, get_app' hl, hk, hat, e, R0]
end
end BW
set_option maxHeartbeats 8000000
/-! The time to a wall; what the laws of meetings draw. -/
local macro_rules | `(tactic| walk_at "dv") => `(tactic| first | assumption | (apply_assumption; done) | exact BW.mulOk_of _ _ (by decide) | exact BW.divOk_of _ _ (by first | decide | assumption | omega) (by decide) | decide | omega | (refine BW.le_size' ?_; first | omega | (simp only [List.length_cons, List.length_nil, List.length_append, List.length_map]; omega)) | simp)
namespace BW
open PySem PySem.Spec PyProof.Rows L2
/-! ### the plain law -/
def sideV (xe ye x y w a b : Int) : Int := a * (ye * w - y) - b * (xe * w - x)
def offV (x1 y1 x2 y2 x y w : Int) : Int := (x1 * w - x) * (y2 - y1) - (y1 * w - y) * (x2 - x1)
def acrV (x1 y1 x2 y2 a b : Int) : Int := a * (y2 - y1) - b * (x2 - x1)
def oT : Option (Int × Int) → PV
  | none => .non
  | some t => .tup [.int t.1, .int t.2]
/-- the nearer of the two that lie ahead -/
def aheadV (p1 q1 p2 q2 : Int) : Option (Int × Int) := if 0 < p2 ∧ (p1 ≤ 0 ∨ p2 * q1 < p1 * q2) then some (p2, q2) else if 0 < p1 then some (p1, q1) else none
def alT (xe ye x y w a b : Int) : Int := if a ≠ 0 then xe * w - x else ye * w - y
def alB (w a b : Int) : Int := if a ≠ 0 then a * w else b * w
/-- what the time to a wall is -/
structure TimeTo (x1 y1 x2 y2 x y w a b : Int) (v : Option (Int × Int)) : Prop where
  cross : acrV x1 y1 x2 y2 a b ≠ 0 → ∃ p q, Low (offV x1 y1 x2 y2 x y w) (acrV x1 y1 x2 y2 a b * w) p q ∧ v = if 0 < p ∧ sideV x1 y1 x y w a b * sideV x2 y2 x y w a b ≤ 0 then some (p, q) else none
  beside : acrV x1 y1 x2 y2 a b = 0 → offV x1 y1 x2 y2 x y w ≠ 0 → v = none
  along : acrV x1 y1 x2 y2 a b = 0 → offV x1 y1 x2 y2 x y w = 0 → ∃ p1 q1 p2 q2, Low (alT x1 y1 x y w a b) (alB w a b) p1 q1 ∧ Low (alT x2 y2 x y w a b) (alB w a b) p2 q2 ∧ v = aheadV p1 q1 p2 q2
section
variable {P : Prog} {i : Nat}
end
end BW
set_option maxHeartbeats 8000000
/-! What the laws of meetings draw. -/
local macro_rules | `(tactic| walk_at "dv") => `(tactic| first | assumption | (apply_assumption; done) | exact BW.mulOk_of _ _ (by decide) | exact BW.divOk_of _ _ (by first | decide | assumption | omega) (by decide) | decide | omega | (refine BW.le_size' ?_; first | omega | (simp only [List.length_cons, List.length_nil, List.length_append, List.length_map]; omega)) | simp)
namespace BW
open PySem PySem.Spec PyProof.Rows L2
@[simp] theorem is_non_non (μ : Store) : cmpV .is .non .non μ = .ok (.bl true) μ := rfl
@[simp] theorem isnot_int_bl (x : Int) (b : Bool) (μ : Store) : cmpV .isnot (.int x) (.bl b) μ = .ok (.bl true) μ := rfl
section
variable {P : Prog} {i : Nat}
/-! ### the common divisor of a list -/
/-! ### a box and a wall -/
def fMade (m g ho d : Nat) : Fn := ⟨5, 1, [.asg (.tup [(.nm 1), (.nm 2), (.nm 3), (.nm 4)]) (.var 0), .ifs (.val (.cmp .eq (.bin .mod (.bin .fdiv (.var 4) (.con (.int 7))) (.con (.int 2))) (.con (.int 1)))) [.par [2, 3] [.var 3, .var 2]] [], .ifs (.val (.cmp .eq (.bin .mod (.var 4) (.con (.int 4))) (.con (.int 0)))) [.ret (.make g [.var 2, .var 3])] [], .ifs (.val (.cmp .eq (.bin .mod (.var 4) (.con (.int 4))) (.con (.int 1)))) [.ret (.make ho [.var 2, .var 3])] [], .ifs (.val (.cmp .eq (.bin .mod (.var 4) (.con (.int 4))) (.con (.int 2)))) [.ret (.make d [.var 2, .var 3, .bin .add (.con (.int 1)) (.bin .mod (.bin .fdiv (.var 4) (.con (.int 14))) (.con (.int 9)))])] [], .ret (.make m [.var 2, .var 3])]⟩
theorem made_ok {m g ho d lb far cx fo ft wi di fc : Nat} (hl : P.fn[lb]? = some fLB) (hf : P.fn[far]? = some fFar) (hw : P.fn[wi]? = some (fWI lb far cx fo ft)) (hd : P.fn[di]? = some (fDI wi cx fc)) (ne : fo ≠ ft) (ne2 : fo ≠ fc) (ne3 : ft ≠ fc)
    (c1 : P.cl[m]?.bind (·.init) = some wi) (c2 : P.cl[g]?.bind (·.init) = some wi) (c3 : P.cl[ho]?.bind (·.init) = some wi) (c4 : P.cl[d]?.bind (·.init) = some di) (h : P.fn[i]? = some (fMade m g ho d)) (n : Nat) (k cc : Int) {x y u v z : Int} (w : Wl x y u v z) (bc : Bd cc 32) :
    ∃ c fs, (c = m ∨ c = g ∨ c = ho ∨ c = d) ∧ look fo fs = some (.tup [.int x, .int y]) ∧ look ft fs = some (.tup [.int u, .int v]) ∧
      ∀ μ, den P (n + 4) i [.tup [.int k, .tup [.int x, .int y], .tup [.int u, .int v], .int cc]] μ = .ok (.loc μ.length) (μ ++ [.ins c fs]) := by
  have n1 : 1 ≤ 1 + (cc.fdiv 14).fmod 9 ∧ 1 + (cc.fdiv 14).fmod 9 ≤ 9 := by
    have n0 := Int.fmod_nonneg_of_pos (cc.fdiv 14) (show (0 : Int) < 9 by decide)
    have n1 := Int.fmod_lt_of_pos (cc.fdiv 14) (show (0 : Int) < 9 by decide)
    omega
  have l1 : look fo [(fo, PV.tup [.int x, .int y]), (ft, .tup [.int u, .int v])] = some (.tup [.int x, .int y]) := by simp [look]
  have l2 : look ft [(fo, PV.tup [.int x, .int y]), (ft, .tup [.int u, .int v])] = some (.tup [.int u, .int v]) := by simp [look, ne]
  have l3 : ∀ q, look fo [(fo, PV.tup [.int x, .int y]), (ft, .tup [.int u, .int v]), (fc, q)] = some (.tup [.int x, .int y]) := fun q => by simp [look]
  have l4 : ∀ q, look ft [(fo, PV.tup [.int x, .int y]), (ft, .tup [.int u, .int v]), (fc, q)] = some (.tup [.int u, .int v]) := fun q => by simp [look, ne]
  have key : ∀ sw : Bool, (((cc.fdiv 7).fmod 2 = 1) ↔ sw = true) → ∃ c fs, (c = m ∨ c = g ∨ c = ho ∨ c = d) ∧ look fo fs = some (.tup [.int x, .int y]) ∧ look ft fs = some (.tup [.int u, .int v]) ∧
      ∀ μ, den P (n + 4) i [.tup [.int k, .tup [.int x, .int y], .tup [.int u, .int v], .int cc]] μ = .ok (.loc μ.length) (μ ++ [.ins c fs]) := by
    intro sw hsw
    by_cases e0 : cc.fmod 4 = 0
    · refine ⟨g, _, .inr (.inl rfl), l1, l2, fun μ => ?_⟩
      have a := wi_new hl hf hw ne (n + 1) g w sw μ
      rw [den_at h rfl]
      show (evSs P (den P (n + 3)) (fMade m g ho d).body none [some (.tup [.int k, .tup [.int x, .int y], .tup [.int u, .int v], .int cc]), none, none, none, none] μ).out = _
      unfold fMade
      cases sw
      · have e7 : ¬ (cc.fdiv 7).fmod 2 = 1 := fun z => by have := hsw.mp z; contradiction
        simp at a
        simp (disch := walk_at "dv") [e7, e0, c2, a, kMake]
      · have e7 := hsw.mpr rfl
        simp at a
        simp (disch := walk_at "dv") [e7, e0, c2, a, kMake]
    · by_cases e1 : cc.fmod 4 = 1
      · refine ⟨ho, _, .inr (.inr (.inl rfl)), l1, l2, fun μ => ?_⟩
        have a := wi_new hl hf hw ne (n + 1) ho w sw μ
        rw [den_at h rfl]
        show (evSs P (den P (n + 3)) (fMade m g ho d).body none [some (.tup [.int k, .tup [.int x, .int y], .tup [.int u, .int v], .int cc]), none, none, none, none] μ).out = _
        unfold fMade
        cases sw
        · have e7 : ¬ (cc.fdiv 7).fmod 2 = 1 := fun z => by have := hsw.mp z; contradiction
          simp at a
          simp (disch := walk_at "dv") [e7, e1, c3, a, kMake]
        · have e7 := hsw.mpr rfl
          simp at a
          simp (disch := walk_at "dv") [e7, e1, c3, a, kMake]
      · by_cases e2 : cc.fmod 4 = 2
        · refine ⟨d, _, .inr (.inr (.inr rfl)), l3 (.int (1 + (cc.fdiv 14).fmod 9)), l4 (.int (1 + (cc.fdiv 14).fmod 9)), fun μ => ?_⟩
          have a := di_new hl hf hw hd ne ne2 ne3 n d w sw n1.1 n1.2 μ
          rw [den_at h rfl]
          show (evSs P (den P (n + 3)) (fMade m g ho d).body none [some (.tup [.int k, .tup [.int x, .int y], .tup [.int u, .int v], .int cc]), none, none, none, none] μ).out = _
          unfold fMade
          cases sw
          · have e7 : ¬ (cc.fdiv 7).fmod 2 = 1 := fun z => by have := hsw.mp z; contradiction
            simp at a
            simp (disch := walk_at "dv") [e7, e2, c4, a, kMake]
          · have e7 := hsw.mpr rfl
            simp at a
            simp (disch := walk_at "dv") [e7, e2, c4, a, kMake]
        · refine ⟨m, _, .inl rfl, l1, l2, fun μ => ?_⟩
          have a := wi_new hl hf hw ne (n + 1) m w sw μ
          rw [den_at h rfl]
          show (evSs P (den P (n + 3)) (fMade m g ho d).body none [some (.tup [.int k, .tup [.int x, .int y], .tup [.int u, .int v], .int cc]), none, none, none, none] μ).out = _
          unfold fMade
          cases sw
          · have e7 : ¬ (cc.fdiv 7).fmod 2 = 1 := fun z => by have := hsw.mp z; contradiction
            simp at a
            simp (disch := walk_at "dv") [e7, e0, e1, e2, c1, a, kMake]
          · have e7 := hsw.mpr rfl
            simp at a
            simp (disch := walk_at "dv") [e7, e0, e1, e2, c1, a, kMake]
  by_cases e7 : (cc.fdiv 7).fmod 2 = 1
  · exact key true ⟨fun _ => rfl, fun _ => e7⟩
  · exact key false ⟨fun z => absurd z e7, fun z => nomatch z⟩
end
/-! ### lists of numbers -/
section
variable {P : Prog} {i : Nat}
theorem intsOf_map : ∀ ns : List Int, intsOf (ns.map .int) = some ns
  | [] => rfl
  | n :: ns => by
    rw [List.map_cons]
    show (intsOf (ns.map .int)).map (n :: ·) = _
    rw [intsOf_map ns]; rfl
theorem bi_maxL {l : Nat} {x : Int} {xs : List Int} {μ : Store} (h : μ[l]? = some (.lst ((x :: xs).map .int))) : biV .max [.loc l] μ = .ok (.int (xs.foldl max x)) μ := by
  show (match (listAt μ (.loc l)).bind intsOf with
    | some (n :: ns) => Res.ok (PV.int (ns.foldl max n)) μ
    | _ => .bad) = _
  rw [listAt_loc, h]
  show (match intsOf ((x :: xs).map .int) with
    | some (n :: ns) => Res.ok (PV.int (ns.foldl max n)) μ
    | _ => .bad) = _
  rw [intsOf_map]
end
end BW
set_option maxHeartbeats 8000000
/-! The times as the laws of meetings reckon them. -/
local macro_rules | `(tactic| walk_at "dv") => `(tactic| first | assumption | (apply_assumption; done) | exact BW.mulOk_of _ _ (by decide) | exact BW.divOk_of _ _ (by first | decide | assumption | omega) (by decide) | decide | omega | (refine BW.le_size' ?_; first | omega | (simp only [List.length_cons, List.length_nil, List.length_append, List.length_map]; omega)) | simp)
namespace BW
open PySem PySem.Spec PyProof.Rows L2
section
variable {P : Prog} {i : Nat}
/-! ### a point of a wall -/
/-! ### far back -/
/-! ### along the wall -/
end
/-! ### the plain law of times -/
end BW
set_option maxHeartbeats 8000000
/-! Rooms. -/
local macro_rules | `(tactic| walk_at "dv") => `(tactic| first | assumption | (apply_assumption; done) | exact BW.mulOk_of _ _ (by decide) | exact BW.divOk_of _ _ (by first | decide | assumption | omega) (by decide) | decide | omega | (refine BW.le_size' ?_; first | omega | (simp only [List.length_cons, List.length_nil, List.length_append, List.length_map]; omega)) | simp)
namespace BW
open PySem PySem.Spec PyProof.Rows L2
def kRevl2 (xs : List PV) (μ : Store) : Res PV := .ok (.loc μ.length) (μ ++ [.lst xs.reverse])
@[simp] theorem kRevl2_ (xs : List PV) (μ : Store) : kRevl2 xs μ = .ok (.loc μ.length) (μ ++ [.lst xs.reverse]) := rfl
def kRevl (x : PV) (μ : Store) : Res PV := (Res.ofO (listAt μ x) μ).bind kRevl2
@[simp] theorem kRevl_ (x : PV) (μ : Store) : kRevl x μ = (Res.ofO (listAt μ x) μ).bind kRevl2 := rfl
@[simp] theorem e_revl (P : Prog) (D : Den) (xv : Option PX) (a : IE) (ρ : BW.Env) (μ : Store) : evE P D xv (.revl a) ρ μ = (evE P D xv a ρ μ).bind kRevl := by first | (rw [evE]; done) | (rw [evE]; rfl)
structure W4 where
  x : Int
  y : Int
  u : Int
  v : Int
  deriving DecidableEq
/-- the indices of a wall's fields and methods -/
structure WI where
  fo : Nat
  ft : Nat
  mh : Nat
  ho : Nat
  ml : Nat
  ln : Nat
/-- a wall at l -/
structure WK (P : Prog) (I : WI) (μ : Store) (l : Nat) (w : W4) : Prop where
  ex : ∃ c fs C k, μ[l]? = some (.ins c fs) ∧ look I.fo fs = some (.tup [.int w.x, .int w.y]) ∧ look I.ft fs = some (.tup [.int w.u, .int w.v]) ∧ P.cl[c]? = some C ∧ look I.mh C.meth = some I.ho ∧ look I.ml C.meth = some I.ln ∧ Wl w.x w.y w.u w.v k
theorem WK.mono {P : Prog} {I : WI} {μ μ' : Store} {l : Nat} {w : W4} (h : WK P I μ l w) (G : Gr μ μ') : WK P I μ' l w := by
  obtain ⟨c, fs, C, k, h1, h2, h3, h4, h5, h6, h7⟩ := h.ex
  exact ⟨c, fs, C, k, G.get h1, h2, h3, h4, h5, h6, h7⟩
theorem far_bd {a b : Int} (h : farB a b = false) : Bd a 20 ∧ Bd b 20 := by
  have := of_decide_eq_false h
  exact ⟨⟨by omega⟩, ⟨by omega⟩⟩
/-- do two walls have more than a point in common -/
def upB (a b : W4) : Bool := decide (lineB (a.u - a.x) (a.v - a.y) = lineB (b.u - b.x) (b.v - b.y)) && (decide ((a.u - a.x) * (b.y - a.y) = (a.v - a.y) * (b.x - a.x)) &&
  (if HT.lexLt [a.x, a.y] [b.x, b.y] = true then (if HT.lexLt [b.u, b.v] [a.u, a.v] = true then HT.lexLt [b.x, b.y] [b.u, b.v] else HT.lexLt [b.x, b.y] [a.u, a.v]) else (if HT.lexLt [b.u, b.v] [a.u, a.v] = true then HT.lexLt [a.x, a.y] [b.u, b.v] else HT.lexLt [a.x, a.y] [a.u, a.v])))
section
variable {P : Prog} {i : Nat}
def fUpon (ml fo ft : Nat) : Fn := ⟨4, 2, [.ifs (.val (.cmp .ne (.meth ml (.var 0) []) (.meth ml (.var 1) []))) [.ret (.con (.bl false))] [], .set 2 (.bin .sub (.idx (.fld (.var 0) ft) (.con (.int 0))) (.idx (.fld (.var 0) fo) (.con (.int 0)))), .set 3 (.bin .sub (.idx (.fld (.var 0) ft) (.con (.int 1))) (.idx (.fld (.var 0) fo) (.con (.int 1)))), .ifs (.val (.cmp .ne (.bin .mul (.var 2) (.bin .sub (.idx (.fld (.var 1) fo) (.con (.int 1))) (.idx (.fld (.var 0) fo) (.con (.int 1))))) (.bin .mul (.var 3) (.bin .sub (.idx (.fld (.var 1) fo) (.con (.int 0))) (.idx (.fld (.var 0) fo) (.con (.int 0))))))) [.ret (.con (.bl false))] [], .ret (.cmp .lt (.bi .max [.fld (.var 0) fo, .fld (.var 1) fo]) (.bi .min [.fld (.var 0) ft, .fld (.var 1) ft]))]⟩
theorem cmp_lt_t2 (a b c d : Int) (μ : Store) : cmpV .lt (.tup [.int a, .int b]) (.tup [.int c, .int d]) μ = .ok (.bl (HT.lexLt [a, b] [c, d])) μ := rfl
theorem upon_ok {I : WI} {lb : Nat} (hl : P.fn[lb]? = some fLB) (hln : P.fn[I.ln]? = some (fLn lb I.fo I.ft)) (h : P.fn[i]? = some (fUpon I.ml I.fo I.ft)) (n : Nat) {μ : Store} {l1 l2 : Nat} {a b : W4} (h1 : WK P I μ l1 a) (h2 : WK P I μ l2 b) : den P (n + 3) i [.loc l1, .loc l2] μ = .ok (.bl (upB a b)) μ := by
  obtain ⟨c1, fs1, C1, k1, p1, p2, p3, p4, p5, p6, p7⟩ := h1.ex
  obtain ⟨c2, fs2, C2, k2, q1, q2, q3, q4, q5, q6, q7⟩ := h2.ex
  have m1 := meth_at p1 p4 p6
  have m2 := meth_at q1 q4 q6
  have e1 := ln_ok hl hln n p1 p2 p3
  have e2 := ln_ok hl hln n q1 q2 q3
  have bx := far_bd p7.f1
  have bu := far_bd p7.f2
  have cx := far_bd q7.f1
  have cu := far_bd q7.f2
  obtain ⟨b1, b2⟩ := bx
  obtain ⟨b3, b4⟩ := bu
  obtain ⟨b5, b6⟩ := cx
  obtain ⟨b7, b8⟩ := cu
  rw [p7.ln] at e1
  rw [q7.ln] at e2
  unfold upB
  rw [p7.ln, q7.ln]
  rw [den_at h rfl]
  show (evSs P (den P (n + 2)) (fUpon I.ml I.fo I.ft).body none [some (.loc l1), some (.loc l2), none, none] μ).out = _
  unfold fUpon
  simp only [oI] at e1 e2
  by_cases hk : k1 = k2
  · by_cases hc : (a.u - a.x) * (b.y - a.y) = (a.v - a.y) * (b.x - a.x)
    · by_cases x1 : HT.lexLt [a.x, a.y] [b.x, b.y] = true
      · by_cases x2 : HT.lexLt [b.u, b.v] [a.u, a.v] = true
        · simp (disch := walk_at "dv") [m1, m2, e1, e2, hk, p1, p2, p3, q1, q2, q3, hc, x1, x2, cmp_lt_t2]
        · simp (disch := walk_at "dv") [m1, m2, e1, e2, hk, p1, p2, p3, q1, q2, q3, hc, x1, x2, cmp_lt_t2]
      · by_cases x2 : HT.lexLt [b.u, b.v] [a.u, a.v] = true
        · simp (disch := walk_at "dv") [m1, m2, e1, e2, hk, p1, p2, p3, q1, q2, q3, hc, x1, x2, cmp_lt_t2]
        · simp (disch := walk_at "dv") [m1, m2, e1, e2, hk, p1, p2, p3, q1, q2, q3, hc, x1, x2, cmp_lt_t2]
    · simp (disch := walk_at "dv") [m1, m2, e1, e2, hk, p1, p2, p3, q1, q2, q3, hc]
  · simp (disch := walk_at "dv") [m1, m2, e1, e2, hk]
/-! ### a room made -/
theorem cut_take {α : Type} (xs : List α) (j : Nat) : cut xs none (some (j : Int)) = xs.take j := by
  have := cut_nat xs 0 j
  rw [List.drop_zero, Nat.sub_zero] at this
  rw [← this]
  unfold cut
  rw [show (some ((0 : Nat) : Int)) = some (0 : Int) from rfl]
  have e : HT.sIx xs.length 0 none = HT.sIx xs.length 0 (some (0 : Int)) := by
    have := HT.sIx_nat xs.length 0 0
    simp at this
    rw [this]
    simp [HT.sIx]
  rw [e]
theorem slcL2' (l : Nat) (a : Int) (μ : Store) : slcV (.loc l) none (some (.int a)) μ = (Res.ofO (listAt μ (.loc l)) μ).bind (kCut none (some a)) := rfl
def enumL (xs : List PV) : List PV := xs.mapIdx fun k v => .tup [.int (k : Nat), v]
theorem enumL_get {xs : List PV} {j : Nat} {q : PV} (h : (enumL xs)[j]? = some q) : ∃ v, xs[j]? = some v ∧ q = .tup [.int (j : Nat), v] := by
  unfold enumL at h
  rw [List.getElem?_mapIdx] at h
  obtain ⟨v, h1, rfl⟩ := Option.map_eq_some_iff.mp h
  exact ⟨v, h1, rfl⟩
theorem enumOf_loc (l : Nat) (q : List PV × Sts) : enumOf (.loc l) q = some (enumL q.1, q.2) := rfl
theorem stand_at {l : Nat} {xs : List PV} {μ : Store} (h : listAt μ (.loc l) = some xs) : stand μ [(l, xs)] := fun q hq => by
  rcases List.mem_singleton.mp hq with rfl
  exact h
theorem Gr.listAt {μ μ' : Store} (G : Gr μ μ') {l : Nat} {xs : List PV} (h : BW.listAt μ (.loc l) = some xs) : BW.listAt μ' (.loc l) = some xs := by
  rw [listAt_loc] at h ⊢
  cases e : μ[l]? with
  | none => rw [e] at h; cases h
  | some c => rw [G.get e]; rw [e] at h; exact h
def fRoomI (tm up ov f : Nat) : Fn := ⟨6, 2, [.ifs (.val (.cmp .gt (.bi .len [.var 1]) (.con (.int 40)))) [.raise tm []] [], .for (.tup [(.nm 2), (.nm 3)]) (.enum (.var 1)) [.for (.tup [(.nm 4), (.nm 5)]) (.enum (.slc (.var 1) none (some (.var 2)))) [.ifs (.val (.call up [.var 5, .var 3])) [.raise ov [.var 4, .var 2]] []]], .sfld (.var 0) f (.bi .list [.var 1])]⟩
theorem get_set_last {μ ν : Store} {c d : Cell} : (μ ++ c :: ν).set μ.length d = μ ++ d :: ν := by
  induction μ with
  | nil => rfl
  | cons x xs ih => simp [ih]
/-- a room of walls no two of which lie on one another -/
theorem room_ok {I : WI} {lb tm up ov f : Nat} (hl : P.fn[lb]? = some fLB) (hln : P.fn[I.ln]? = some (fLn lb I.fo I.ft)) (hup : P.fn[up]? = some (fUpon I.ml I.fo I.ft)) (h : P.fn[i]? = some (fRoomI tm up ov f)) (n c : Nat) {μ : Store} {lw : Nat} {ls : List Nat} {ws : List W4} (h40 : ls.length ≤ 40) (hlw : listAt μ (.loc lw) = some (ls.map PV.loc))
    (hw : ∀ (j l : Nat) (w : W4), ls[j]? = some l → ws[j]? = some w → WK P I μ l w) (hlen : ls.length = ws.length) (hn : ∀ (j k : Nat) (a b : W4), j < k → ws[j]? = some a → ws[k]? = some b → upB a b = false) :
    ∃ ν m, den P (n + 4) i [.loc μ.length, .loc lw] (μ ++ [.ins c []]) = .ok .non (μ ++ Cell.ins c [(f, PV.loc m)] :: ν) ∧ (μ ++ Cell.ins c [(f, PV.loc m)] :: ν)[m]? = some (.lst (ls.map PV.loc)) ∧ μ.length < m := by
  obtain ⟨S, hS⟩ : ∃ S, S = μ ++ [.ins c []] := ⟨_, rfl⟩
  have GS : Gr μ S := by rw [hS]; exact Gr.app
  have hlwS := GS.listAt hlw
  obtain ⟨r, hr⟩ : ∃ r, r = forDen [(lw, ls.map PV.loc)] (.tup [(.nm 2), (.nm 3)]) (evSs P (den P (n + 3)) (forB (fRoomI tm up ov f).body 1) none) (enumL (ls.map .loc)) [some (.loc μ.length), some (.loc lw), none, none, none, none] S := ⟨_, rfl⟩
  have hp : ∃ z2 z3 z4 z5 μ', r = .mk (.nx [some (.loc μ.length), some (.loc lw), z2, z3, z4, z5]) μ' ∧ Gr S μ' := by
    rw [hr]
    refine for_post (fun j ρ μ' => Gr S μ' ∧ ∃ z2 z3 z4 z5, ρ = [some (.loc μ.length), some (.loc lw), z2, z3, z4, z5]) (fun r => ∃ z2 z3 z4 z5 μ', r = .mk (.nx [some (.loc μ.length), some (.loc lw), z2, z3, z4, z5]) μ' ∧ Gr S μ') ⟨Gr.refl, _, _, _, _, rfl⟩ (fun _ _ _ ⟨G, _⟩ => stand_at (G.listAt hlwS)) ?_ ?_
    · rintro ρ μ' ⟨G, z2, z3, z4, z5, rfl⟩
      exact ⟨z2, z3, z4, z5, μ', rfl, G⟩
    · rintro j ρ μ' q hq ⟨G, z2, z3, z4, z5, rfl⟩
      obtain ⟨v, hv, rfl⟩ := enumL_get hq
      rw [List.getElem?_map] at hv
      obtain ⟨l, hl1, rfl⟩ := Option.map_eq_some_iff.mp hv
      have hj : j < ls.length := (List.getElem?_eq_some_iff.mp hl1).1
      have GM := GS.trans G
      have hla := G.listAt hlwS
      obtain ⟨b, hb⟩ : ∃ b, ws[j]? = some b := ⟨_, List.getElem?_eq_getElem (by omega)⟩
      have wb := hw j l b hl1 hb
      obtain ⟨M, hM⟩ : ∃ M, M = μ' ++ [.lst ((ls.map PV.loc).take j)] := ⟨_, rfl⟩
      have G2 : Gr μ' M := by rw [hM]; exact Gr.app
      have hsl : listAt M (.loc μ'.length) = some ((ls.map PV.loc).take j) := by rw [listAt_loc, hM]; simp
      obtain ⟨r2, hr2⟩ : ∃ r2, r2 = forDen [(μ'.length, (ls.map PV.loc).take j)] (.tup [(.nm 4), (.nm 5)]) (evSs P (den P (n + 3)) (forB (forB (fRoomI tm up ov f).body 1) 0) none) (enumL ((ls.map PV.loc).take j)) [some (.loc μ.length), some (.loc lw), some (.int (j : Nat)), some (.loc l), z4, z5] M := ⟨_, rfl⟩
      have hp2 : ∃ y4 y5, r2 = .mk (.nx [some (.loc μ.length), some (.loc lw), some (.int (j : Nat)), some (.loc l), y4, y5]) M := by
        rw [hr2]
        refine for_post (fun k ρ m => m = M ∧ ∃ y4 y5, ρ = [some (.loc μ.length), some (.loc lw), some (.int (j : Nat)), some (.loc l), y4, y5]) (fun r => ∃ y4 y5, r = .mk (.nx [some (.loc μ.length), some (.loc lw), some (.int (j : Nat)), some (.loc l), y4, y5]) M) ⟨rfl, _, _, rfl⟩ (fun _ _ _ ⟨e, _⟩ => by rw [e]; exact stand_at hsl) ?_ ?_
        · rintro ρ m ⟨rfl, y4, y5, rfl⟩
          exact ⟨y4, y5, rfl⟩
        · rintro k ρ m q hq ⟨rfl, y4, y5, rfl⟩
          obtain ⟨v, hv, rfl⟩ := enumL_get hq
          rw [List.getElem?_take] at hv
          split at hv
          rotate_left
          · cases hv
          rename_i hkj
          rw [List.getElem?_map] at hv
          obtain ⟨l1, hl2, rfl⟩ := Option.map_eq_some_iff.mp hv
          obtain ⟨a, ha⟩ : ∃ a, ws[k]? = some a := ⟨_, List.getElem?_eq_getElem (by omega)⟩
          have wa := hw k l1 a hl2 ha
          have eu := upon_ok hl hln hup n (wa.mono (GM.trans G2)) (wb.mono (GM.trans G2))
          rw [hn k j a b hkj ha hb] at eu
          refine ⟨[some (.loc μ.length), some (.loc lw), some (.int (j : Nat)), some (.loc l), some (.int (k : Nat)), some (.loc l1)], ?_, .inl ⟨[some (.loc μ.length), some (.loc lw), some (.int (j : Nat)), some (.loc l), some (.int (k : Nat)), some (.loc l1)], m, .inl ?_, rfl, _, _, rfl⟩⟩
          · simp
          · simp only [fRoomI, forB, List.getElem?_cons_succ, List.getElem?_cons_zero]
            simp [eu]
      obtain ⟨y4, y5, hp2⟩ := hp2
      rw [hr2] at hp2
      simp only [fRoomI, forB, List.getElem?_cons_succ, List.getElem?_cons_zero] at hp2
      refine ⟨[some (.loc μ.length), some (.loc lw), some (.int (j : Nat)), some (.loc l), z4, z5], ?_, .inl ⟨[some (.loc μ.length), some (.loc lw), some (.int (j : Nat)), some (.loc l), y4, y5], M, .inl ?_, G.trans G2, _, _, _, _, rfl⟩⟩
      · simp
      · simp only [fRoomI, forB, List.getElem?_cons_succ, List.getElem?_cons_zero]
        simp (disch := walk_at "dv") [slcL2', hla, cut_take, ← hM, hsl, enumOf_loc, hp2]
  obtain ⟨z2, z3, z4, z5, μ', hp, G⟩ := hp
  obtain ⟨ν, hν⟩ := G
  have hla := (show Gr S μ' from ⟨ν, hν⟩).listAt hlwS
  have hμ' : μ' = μ ++ Cell.ins c [] :: ν := by rw [hν, hS]; simp
  have hfor := hp
  rw [hr] at hfor
  simp only [fRoomI, forB, List.getElem?_cons_succ, List.getElem?_cons_zero] at hfor
  refine ⟨ν ++ [.lst (ls.map PV.loc)], μ'.length, ?_, ?_, by rw [hμ']; simp⟩
  · rw [den_at h rfl, ← hS]
    show (evSs P (den P (n + 3)) (fRoomI tm up ov f).body none [some (.loc μ.length), some (.loc lw), none, none, none, none] S).out = _
    unfold fRoomI
    have hself : (μ' ++ [Cell.lst (ls.map PV.loc)])[μ.length]? = some (.ins c []) := by rw [hμ']; simp
    have hset : (μ' ++ [Cell.lst (ls.map PV.loc)]).set μ.length (.ins c [(f, .loc μ'.length)]) = μ ++ Cell.ins c [(f, PV.loc μ'.length)] :: (ν ++ [Cell.lst (ls.map PV.loc)]) := by
      rw [hμ', List.append_assoc, List.cons_append, get_set_last]
    have hpn : put f (PV.loc μ'.length) [] = [(f, PV.loc μ'.length)] := rfl
    have h40' : ¬ (40 : Int) < (ls.length : Int) := by omega
    simp (disch := walk_at "dv") [hlwS, h40', enumOf_loc, hfor, hla, hself, hpn, hset]
  · rw [hμ']
    simp
end
end BW
set_option maxHeartbeats 8000000
/-! Rooms: their walls, where a point lies, the first meeting. -/
local macro_rules | `(tactic| walk_at "dv") => `(tactic| first | assumption | (apply_assumption; done) | exact BW.mulOk_of _ _ (by decide) | exact BW.divOk_of _ _ (by first | decide | assumption | omega) (by decide) | decide | omega | (refine BW.le_size' ?_; first | omega | (simp only [List.length_cons, List.length_nil, List.length_append, List.length_map]; omega)) | simp)
namespace BW
open PySem PySem.Spec PyProof.Rows L2
/-- a room at l, of class c: its walls -/
structure RK (P : Prog) (I : WI) (f mw fw mo fo2 : Nat) (μ : Store) (l : Nat) (ls : List Nat) (ws : List W4) : Prop where
  ex : ∃ c C fs m, μ[l]? = some (.ins c fs) ∧ look f fs = some (.loc m) ∧ P.cl[c]? = some C ∧ look mw C.meth = some fw ∧ look mo C.meth = some fo2 ∧ μ[m]? = some (.lst (ls.map .loc))
  len : ls.length = ws.length
  le : ls.length ≤ 40
  wk : ∀ (j l : Nat) (w : W4), ls[j]? = some l → ws[j]? = some w → WK P I μ l w
theorem RK.mono {P : Prog} {I : WI} {f mw fw mo fo2 : Nat} {μ μ' : Store} {l : Nat} {ls : List Nat} {ws : List W4} (h : RK P I f mw fw mo fo2 μ l ls ws) (G : Gr μ μ') : RK P I f mw fw mo fo2 μ' l ls ws := by
  obtain ⟨c, C, fs, m, h1, h2, h3, h4, h5, h6⟩ := h.ex
  exact ⟨⟨c, C, fs, m, G.get h1, h2, h3, h4, h5, G.get h6⟩, h.len, h.le, fun j l w a b => (h.wk j l w a b).mono G⟩
section
variable {P : Prog} {i : Nat}
def fWalls (f : Nat) : Fn := ⟨1, 1, [.ret (.bi .list [.fld (.var 0) f])]⟩
theorem walls_ok {I : WI} {f mw fw mo fo2 : Nat} (h : P.fn[i]? = some (fWalls f)) (n : Nat) {μ : Store} {l : Nat} {ls : List Nat} {ws : List W4} (R : RK P I f mw fw mo fo2 μ l ls ws) : den P (n + 1) i [.loc l] μ = .ok (.loc μ.length) (μ ++ [.lst (ls.map .loc)]) := by
  obtain ⟨c, C, fs, m, h1, h2, h3, h4, h5, h6⟩ := R.ex
  rw [den_at h rfl]
  show (evSs P (den P n) (fWalls f).body none [some (.loc l)] μ).out = _
  unfold fWalls
  simp [h1, h2, h6]
/-! ### the first meeting -/
@[simp] theorem isnot_non_non (μ : Store) : cmpV .isnot .non .non μ = .ok (.bl false) μ := rfl
theorem TimeTo.pos {x1 y1 x2 y2 x y w a b : Int} {v : Option (Int × Int)} (h : TimeTo x1 y1 x2 y2 x y w a b v) {t : Int × Int} (e : v = some t) : 0 < t.1 ∧ 0 < t.2 ∧ Int.gcd t.1 t.2 = 1 := by
  by_cases hA : acrV x1 y1 x2 y2 a b = 0
  · by_cases hF : offV x1 y1 x2 y2 x y w = 0
    · obtain ⟨p1, q1, p2, q2, l1, l2, e2⟩ := h.along hA hF
      rw [e] at e2
      unfold aheadV at e2
      split at e2
      · rename_i c
        cases e2
        exact ⟨c.1, l2.pos, l2.one⟩
      · split at e2
        · rename_i c
          cases e2
          exact ⟨c, l1.pos, l1.one⟩
        · cases e2
    · rw [h.beside hA hF] at e; cases e
  · obtain ⟨p, q, l, e2⟩ := h.cross hA
    rw [e] at e2
    split at e2
    · rename_i c
      cases e2
      exact ⟨c.1, l.pos, l.one⟩
    · cases e2
end
end BW
set_option maxHeartbeats 8000000
/-! What the laws of rooms draw and reckon. -/
local macro_rules | `(tactic| walk_at "dv") => `(tactic| first | assumption | (apply_assumption; done) | exact BW.mulOk_of _ _ (by decide) | exact BW.divOk_of _ _ (by first | decide | assumption | omega) (by decide) | decide | omega | (refine BW.le_size' ?_; first | omega | (simp only [List.length_cons, List.length_nil, List.length_append, List.length_map]; omega)) | simp)
namespace BW
open PySem PySem.Spec PyProof.Rows L2
section
variable {P : Prog} {i : Nat}
theorem lc_mapA {α : Type} {ls : Sts} {i : Nat} {c : BW.Env → Store → Res Bool} {e : BW.Env → Store → Res PV} {xs : List α} (emb g : α → PV) {ρ : BW.Env} {μ : Store} (hs : stand μ ls) (hsz : xs.length ≤ 1000000)
    (hc : ∀ x ∈ xs, c (ρ.set i (some (emb x))) μ = .ok true μ) (he : ∀ x ∈ xs, e (ρ.set i (some (emb x))) μ = .ok (g x) μ) : lcDen ls ρ (.nm i) c e (xs.map emb) [] μ = .ok (xs.map g) μ := by
  obtain ⟨acc, μ', h, h2, h3⟩ := lc_run (ls := ls) (t := .nm i) (c := c) (e := e) (items := xs.map emb) (ρ := ρ) (fun k acc m => m = μ ∧ acc = (xs.take k).map g)
    (fun k acc m h => by
      obtain ⟨rfl, rfl⟩ := h
      exact ⟨hs, by rw [List.length_map, List.length_take]; omega⟩) (le_size' (by simpa using hsz))
    (fun k acc m x hx h => by
      obtain ⟨rfl, rfl⟩ := h
      rw [List.getElem?_map] at hx
      obtain ⟨y, hy, rfl⟩ := Option.map_eq_some_iff.mp hx
      have hm := List.mem_of_getElem? hy
      refine ⟨_, asg_nm m i _ ρ, .inl ⟨m, g y, m, hc y hm, he y hm, rfl, ?_⟩⟩
      rw [List.take_succ, hy]
      simp) (μ := μ) ⟨rfl, by simp⟩
  rw [h, h2, h3, List.length_map, List.take_length]
end
end BW
set_option maxHeartbeats 8000000
/-! Where a point lies, the times, what is told: as the laws of rooms reckon. -/
local macro_rules | `(tactic| walk_at "dv") => `(tactic| first | assumption | (apply_assumption; done) | exact BW.mulOk_of _ _ (by decide) | exact BW.divOk_of _ _ (by first | decide | assumption | omega) (by decide) | decide | omega | (refine BW.le_size' ?_; first | omega | (simp only [List.length_cons, List.length_nil, List.length_append, List.length_map]; omega)) | simp)
namespace BW
open PySem PySem.Spec PyProof.Rows L2
section
variable {P : Prog} {i : Nat}
end
end BW
set_option maxHeartbeats 8000000
/-! What is told of a meeting, looked at. -/
local macro_rules | `(tactic| walk_at "dv") => `(tactic| first | assumption | (apply_assumption; done) | exact BW.mulOk_of _ _ (by decide) | exact BW.divOk_of _ _ (by first | decide | assumption | omega) (by decide) | decide | omega | (refine BW.le_size' ?_; first | omega | (simp only [List.length_cons, List.length_nil, List.length_append, List.length_map]; omega)) | simp)
namespace BW
open PySem PySem.Spec PyProof.Rows L2
section
variable {P : Prog} {i : Nat}
end
end BW
set_option maxHeartbeats 8000000
/-! Rooms made of drawn walls. -/
local macro_rules | `(tactic| walk_at "dv") => `(tactic| first | assumption | (apply_assumption; done) | exact BW.mulOk_of _ _ (by decide) | exact BW.divOk_of _ _ (by first | decide | assumption | omega) (by decide) | decide | omega | (refine BW.le_size' ?_; first | omega | (simp only [List.length_cons, List.length_nil, List.length_append, List.length_map]; omega)) | simp)
namespace BW
open PySem PySem.Spec PyProof.Rows L2
theorem Gr.le {μ μ' : Store} (h : Gr μ μ') : μ.length ≤ μ'.length := by
  obtain ⟨ν, rfl⟩ := h
  simp
theorem tag_lst {μ : Store} {l : Nat} {xs : List PV} (h : μ[l]? = some (.lst xs)) : tagOf μ (.loc l) = some .lst := by
  show (match μ[l]? with
    | some (.lst _) => some Tag.lst
    | some (.frz _) => some .lst
    | some (.dic _) => some Tag.dic
    | some (.clo _) => none
    | some .dead => none
    | some (.ins c _) => some (.ins c)
    | none => none) = _
  rw [h]
/-! ### walls the other way about -/
/-! ### rooms made -/
section
variable {P : Prog} {i : Nat}
theorem get_set_ins {μ : Store} {l q c : Nat} {fs : List (Nat × PV)} {xs : List PV} (d : Cell) (h : μ[l]? = some (.ins c fs)) (hq : μ[q]? = some (.lst xs)) : (μ.set q d)[l]? = some (.ins c fs) := by
  rw [List.getElem?_set_ne, h]
  rintro rfl
  rw [h] at hq; cases hq
theorem WK.set {I : WI} {μ : Store} {l q : Nat} {w : W4} {xs : List PV} (h : WK P I μ l w) (d : Cell) (hq : μ[q]? = some (.lst xs)) : WK P I (μ.set q d) l w := by
  obtain ⟨c, fs, C, k, h1, h2, h3, h4, h5, h6, h7⟩ := h.ex
  exact ⟨c, fs, C, k, get_set_ins d h1 hq, h2, h3, h4, h5, h6, h7⟩
theorem RK.set {I : WI} {f mw fw mo fo2 : Nat} {μ : Store} {l q c m : Nat} {ll : List Nat} {ws : List W4} {xs : List PV} (h : RK P I f mw fw mo fo2 μ l ll ws) (d : Cell) (hq : μ[q]? = some (.lst xs)) (h1 : μ[l]? = some (.ins c [(f, PV.loc m)])) (hm : m ≠ q) : RK P I f mw fw mo fo2 (μ.set q d) l ll ws := by
  obtain ⟨c', C, fs, m', p1, p2, p3, p4, p5, p6⟩ := h.ex
  rw [h1] at p1
  cases p1
  simp [look] at p2
  subst p2
  exact ⟨⟨c, C, _, m, get_set_ins d h1 hq, by simp [look], p3, p4, p5, by rw [List.getElem?_set_ne (fun z => hm z.symm), p6]⟩, h.len, h.le, fun j l w a b => (h.wk j l w a b).set d hq⟩
end
end BW
set_option maxHeartbeats 8000000
/-! Data without lists, compared; growing stores; dicts. -/
namespace BW
open PySem PySem.Spec PyProof.Rows L2
/-! ### data -/
mutual
def pureV (n : Nat) (v : PV) : Bool := match v with
  | .non => true
  | .int _ => true
  | .str s => PyData.strOk s
  | .tup xs => match n with
    | 0 => false
    | n + 1 => pureAll n xs
  | .bl _ => false
  | .loc _ => false
def pureAll (n : Nat) (xs : List PV) : Bool := match xs with
  | [] => true
  | x :: xs => pureV n x && pureAll n xs
end
mutual
def dP (v : PV) : PyData := match v with
  | .non => .none
  | .bl b => .bool b
  | .int i => .int i
  | .str s => .str s
  | .tup xs => .tuple (dPs xs)
  | .loc _ => .none
def dPs (xs : List PV) : List PyData := match xs with
  | [] => []
  | x :: xs => dP x :: dPs xs
end
mutual
theorem toD_pure (μ : Store) (n : Nat) (v : PV) (h : pureV n v = true) : toD n μ v = some (dP v) := match v with
  | .non => by cases n <;> rfl
  | .int _ => by cases n <;> rfl
  | .str _ => by cases n <;> rfl
  | .bl _ => by unfold pureV at h; cases h
  | .loc _ => by unfold pureV at h; cases h
  | .tup xs => by
    cases n with
    | zero => unfold pureV at h; cases h
    | succ n =>
      unfold pureV at h
      show (xs.mapM (toD n μ)).map PyData.tuple = _
      rw [toDs_pure μ n xs h, dP]
      rfl
theorem toDs_pure (μ : Store) (n : Nat) (xs : List PV) (h : pureAll n xs = true) : xs.mapM (toD n μ) = some (dPs xs) := match xs with
  | [] => by rw [dPs]; rfl
  | x :: xs => by
    rw [pureAll, Bool.and_eq_true] at h
    rw [List.mapM_cons, toD_pure μ n x h.1, toDs_pure μ n xs h.2, dPs]
    rfl
end
mutual
theorem lay_pure (n : Nat) (v : PV) (h : pureV n v = true) : PyData.canLay0 (dP v) = true ∧ PyData.depth (dP v) ≤ n + 1 := match v with
  | .non => by rw [dP]; exact ⟨rfl, by rw [PyData.depth]; omega⟩
  | .int _ => by rw [dP]; exact ⟨rfl, by rw [PyData.depth]; omega⟩
  | .str s => by
    rw [pureV] at h
    rw [dP]; exact ⟨by rw [PyData.canLay0]; exact h, by rw [PyData.depth]; omega⟩
  | .bl _ => by unfold pureV at h; cases h
  | .loc _ => by unfold pureV at h; cases h
  | .tup xs => by
    cases n with
    | zero => unfold pureV at h; cases h
    | succ n =>
      unfold pureV at h
      have := lays_pure n xs h
      rw [dP]
      exact ⟨by rw [PyData.canLay0]; exact this.1, by rw [PyData.depth]; omega⟩
theorem lays_pure (n : Nat) (xs : List PV) (h : pureAll n xs = true) : PyData.canLayAll0 (dPs xs) = true ∧ PyData.depthAll (dPs xs) ≤ n + 1 := match xs with
  | [] => by rw [dPs]; exact ⟨rfl, by rw [PyData.depthAll]; omega⟩
  | x :: xs => by
    rw [pureAll, Bool.and_eq_true] at h
    have h1 := lay_pure n x h.1
    have h2 := lays_pure n xs h.2
    rw [dPs, PyData.canLayAll0, PyData.depthAll, h1.1, h2.1]
    exact ⟨rfl, by omega⟩
end
open Classical in
mutual
theorem eqv_pure (n : Nat) (v w : PV) (h : pureV n v = true) (h' : pureV n w = true) : PyData.eqv (dP v) (dP w) = decide (v = w) := match v with
  | .non => by
    cases w with
    | non => rw [dP]; simp [PyData.eqv]
    | bl _ => unfold pureV at h'; cases h'
    | loc _ => unfold pureV at h'; cases h'
    | _ => rw [dP, dP]; simp [PyData.eqv]
  | .int a => by
    cases w with
    | int b =>
      rw [dP, dP, PyData.eqv]
      by_cases e : a = b <;> simp [e]
    | bl _ => unfold pureV at h'; cases h'
    | loc _ => unfold pureV at h'; cases h'
    | _ => rw [dP, dP]; simp [PyData.eqv]
  | .str a => by
    cases w with
    | str b =>
      rw [dP, dP, PyData.eqv]
      by_cases e : a = b <;> simp [e]
    | bl _ => unfold pureV at h'; cases h'
    | loc _ => unfold pureV at h'; cases h'
    | _ => rw [dP, dP]; simp [PyData.eqv]
  | .bl _ => by unfold pureV at h; cases h
  | .loc _ => by unfold pureV at h; cases h
  | .tup xs => by
    cases n with
    | zero => unfold pureV at h; cases h
    | succ n =>
      cases w with
      | tup ys =>
        unfold pureV at h h'
        rw [dP, dP, PyData.eqv, eqvs_pure n xs ys h h']
        simp
      | bl _ => unfold pureV at h'; cases h'
      | loc _ => unfold pureV at h'; cases h'
      | _ => rw [dP, dP]; simp [PyData.eqv]
theorem eqvs_pure (n : Nat) (xs ys : List PV) (h : pureAll n xs = true) (h' : pureAll n ys = true) : PyData.eqvAll (dPs xs) (dPs ys) = decide (xs = ys) := match xs with
  | [] => by
    cases ys with
    | nil => rw [dPs]; simp [PyData.eqvAll]
    | cons y ys => rw [dPs, dPs]; simp [PyData.eqvAll]
  | x :: xs => by
    cases ys with
    | nil => rw [dPs, dPs]; simp [PyData.eqvAll]
    | cons y ys =>
      rw [pureAll, Bool.and_eq_true] at h h'
      rw [dPs, dPs, PyData.eqvAll, eqv_pure n x y h.1 h'.1, eqvs_pure n xs ys h.2 h'.2]
      simp
end
theorem shaped_pure {v : PV} (h : pureV 12 v = true) : SeqAt.shaped (dP v) = true := by
  have := lay_pure 12 v h
  unfold SeqAt.shaped
  rw [Bool.and_eq_true, decide_eq_true_eq]
  exact ⟨this.1, by omega⟩
theorem shapeds_pure {xs : List PV} (h : pureAll 12 xs = true) : SeqAt.shaped (.list (dPs xs)) = true := by
  have := lays_pure 12 xs h
  unfold SeqAt.shaped
  rw [Bool.and_eq_true, decide_eq_true_eq, PyData.canLay0, PyData.depth]
  exact ⟨this.1, by omega⟩
mutual
theorem pureV_mono (n : Nat) (v : PV) (h : pureV n v = true) : pureV (n + 1) v = true := match v with
  | .non => by rw [pureV]
  | .int _ => by rw [pureV]
  | .str _ => by rw [pureV] at h ⊢; exact h
  | .bl _ => by unfold pureV at h; cases h
  | .loc _ => by unfold pureV at h; cases h
  | .tup xs => by
    cases n with
    | zero => unfold pureV at h; cases h
    | succ n =>
      unfold pureV at h ⊢
      exact pureAll_mono n xs h
theorem pureAll_mono (n : Nat) (xs : List PV) (h : pureAll n xs = true) : pureAll (n + 1) xs = true := match xs with
  | [] => by rw [pureAll]
  | x :: xs => by
    rw [pureAll, Bool.and_eq_true] at h ⊢
    exact ⟨pureV_mono n x h.1, pureAll_mono n xs h.2⟩
end
theorem toD_lst {l : Nat} {zs : List PV} {μ : Store} (h : listAt μ (.loc l) = some zs) (hp : pureAll 11 zs = true) : toD 12 μ (.loc l) = some (.list (dPs zs)) := by
  have e : toD 12 μ (.loc l) = (match μ[l]? with
      | some (.lst xs) => (xs.mapM (toD 11 μ)).map PyData.list
      | some (.frz xs) => (xs.mapM (toD 11 μ)).map PyData.list
      | _ => none) := rfl
  rw [e]
  rw [listAt_loc] at h
  split at h
  · rename_i xs q
    cases h
    try rw [q]
    try dsimp only
    rw [toDs_pure μ 11 zs hp]; rfl
  · rename_i xs q
    cases h
    try rw [q]
    try dsimp only
    rw [toDs_pure μ 11 zs hp]; rfl
  · cases h
open Classical in
theorem eqB_lsts {a b : Nat} {xs ys : List PV} {μ : Store} (h1 : listAt μ (.loc a) = some xs) (h2 : listAt μ (.loc b) = some ys) (hx : pureAll 11 xs = true) (hy : pureAll 11 ys = true) : eqB μ (.loc a) (.loc b) = some (decide (xs = ys)) := by
  unfold eqB
  rw [toD_lst h1 hx, toD_lst h2 hy]
  dsimp only
  rw [if_pos ⟨shapeds_pure (pureAll_mono _ _ hx), shapeds_pure (pureAll_mono _ _ hy)⟩, PyData.eqv, eqvs_pure 11 xs ys hx hy]
theorem pureAll_map {α : Type} {n : Nat} {f : α → PV} {xs : List α} (h : ∀ x ∈ xs, pureV n (f x) = true) : pureAll n (xs.map f) = true := by
  induction xs with
  | nil => rw [List.map_nil, pureAll]
  | cons x xs ih =>
    rw [List.map_cons, pureAll, h x List.mem_cons_self, ih fun y hy => h y (List.mem_cons_of_mem _ hy)]
    rfl
open Classical in
theorem inB_pure {x y : PV} {ys : List PV} {μ : Store} (h : seqAt μ y = some ys) (hx : pureV 12 x = true) (hy : pureAll 12 ys = true) : inB μ x y = some (decide (x ∈ ys)) := by
  unfold inB
  rw [h]
  dsimp only
  rw [toD_pure μ 12 x hx, toDs_pure μ 12 ys hy]
  dsimp only
  rw [if_pos ⟨shaped_pure hx, shapeds_pure hy⟩]
  congr 1
  clear h
  induction ys with
  | nil => rw [dPs]; simp
  | cons z zs ih =>
    rw [pureAll, Bool.and_eq_true] at hy
    rw [dPs, List.any_cons, eqv_pure 12 z x hy.1 hx, ih hy.2]
    by_cases e : z = x
    · simp [e]
    · have e' : ¬ x = z := fun q => e q.symm
      simp [e, e']
/-- a tuple of whole numbers -/
def tupI (is : List Int) : PV := .tup (is.map .int)
theorem pure_tupI (n : Nat) (is : List Int) : pureV (n + 1) (tupI is) = true := by
  unfold tupI pureV
  exact pureAll_map fun x _ => by rw [pureV]
/-! ### stores -/
theorem Gr.of_get {μ μ' : Store} (h : ∀ (l : Nat) (c : Cell), μ[l]? = some c → μ'[l]? = some c) : Gr μ μ' := by
  refine ⟨μ'.drop μ.length, ?_⟩
  apply List.ext_getElem?
  intro k
  by_cases hk : k < μ.length
  · rw [List.getElem?_append_left hk, List.getElem?_eq_getElem hk]
    exact h k _ (List.getElem?_eq_getElem hk)
  · rw [List.getElem?_append_right (by omega), List.getElem?_drop]
    congr 1
    omega
theorem Gr.set {μ μ' : Store} (G : Gr μ μ') {l : Nat} (h : μ.length ≤ l) (c : Cell) : Gr μ (μ'.set l c) :=
  Gr.of_get fun k d e => by
    have hk : k < μ.length := (List.getElem?_eq_some_iff.mp e).1
    rw [List.getElem?_set_ne (by omega)]
    exact G.get e
theorem get_lt {μ : Store} {l : Nat} {c : Cell} (h : μ[l]? = some c) : l < μ.length := (List.getElem?_eq_some_iff.mp h).1
theorem get_set_eq {μ : Store} {l : Nat} {c d : Cell} (h : μ[l]? = some c) : (μ.set l d)[l]? = some d := List.getElem?_set_self (get_lt h)
theorem get_set_ne {μ : Store} {l k : Nat} {c d : Cell} (h : μ[k]? = some c) (ne : l ≠ k) : (μ.set l d)[k]? = some c := by rw [List.getElem?_set_ne ne]; exact h
theorem lst_at {μ : Store} {l : Nat} {xs : List PV} (h : μ[l]? = some (.lst xs)) : listAt μ (.loc l) = some xs := by rw [listAt_loc, h]
/-! ### dicts -/
theorem dicAt_at {l : Nat} {kvs : List (List Int × PV)} {μ : Store} (h : μ[l]? = some (.dic kvs)) : dicAt μ (.loc l) = some kvs := by
  show (match μ[l]? with | some (.dic kvs) => some kvs | _ => none) = _
  rw [h]
theorem inB_dic {l : Nat} {kvs : List (List Int × PV)} {μ : Store} (h : μ[l]? = some (.dic kvs)) (k : List Int) : inB μ (tupI k) (.loc l) = some (dlook k kvs).isSome := by
  unfold inB
  rw [show seqAt μ (.loc l) = none by rw [seqAt_loc, listAt_loc, h]]
  dsimp only
  rw [show inS (tupI k) (.loc l) = none from rfl]
  dsimp only
  unfold inD
  rw [dicAt_at h, show keyOf (tupI k) = some k from intsOf_map k]
theorem dlook_mem {k : List Int} : ∀ {kvs : List (List Int × PV)}, (dlook k kvs).isSome = decide (k ∈ kvs.map (·.1))
  | [] => rfl
  | p :: r => by
    rw [dlook]
    by_cases e : p.1 = k
    · rw [if_pos e]; simp [e]
    · rw [if_neg e, dlook_mem (kvs := r)]
      have e' : ¬ k = p.1 := fun q => e q.symm
      simp [e']
theorem dput_keys {k : List Int} {v : PV} {kvs : List (List Int × PV)} (j : List Int) : j ∈ (dput k v kvs).map (·.1) ↔ j = k ∨ j ∈ kvs.map (·.1) := by
  unfold dput
  split
  · rename_i h
    rw [List.any_eq_true] at h
    obtain ⟨p, hp, e⟩ := h
    have e := of_decide_eq_true e
    have : (kvs.map (fun p => if p.1 = k then (p.1, v) else p)).map (·.1) = kvs.map (·.1) := by
      rw [List.map_map]
      apply List.map_congr_left
      intro q _
      show (if q.1 = k then (q.1, v) else q).1 = q.1
      split <;> rfl
    rw [this]
    constructor
    · exact .inr
    · rintro (rfl | h)
      · exact List.mem_map.mpr ⟨p, hp, e⟩
      · exact h
  · rw [List.map_append, List.mem_append]
    constructor
    · rintro (h | h)
      · exact .inr h
      · simp at h; exact .inl h
    · rintro (rfl | h)
      · exact .inr (by simp)
      · exact .inl h
theorem dput_len {k : List Int} {v : PV} {kvs : List (List Int × PV)} : (dput k v kvs).length ≤ kvs.length + 1 := by
  unfold dput
  split
  · rw [List.length_map]; omega
  · rw [List.length_append]; simp
theorem dput_look {k j : List Int} {v : PV} {kvs : List (List Int × PV)} : dlook j (dput k v kvs) = if j = k then some v else dlook j kvs := by
  have app : ∀ kvs : List (List Int × PV), (∀ p ∈ kvs, p.1 ≠ k) → dlook j (kvs ++ [(k, v)]) = if j = k then some v else dlook j kvs := by
    intro kvs h
    induction kvs with
    | nil =>
      rw [List.nil_append, dlook, dlook]
      by_cases e : j = k
      · rw [if_pos e, if_pos e.symm]
      · rw [if_neg e, if_neg (fun q => e q.symm)]; rfl
    | cons p r ih =>
      rw [List.cons_append, dlook, dlook, ih fun q hq => h q (List.mem_cons_of_mem _ hq)]
      by_cases e : j = k
      · rw [if_pos e]
        have := h p List.mem_cons_self
        rw [if_neg (by rw [e]; exact this)]
        rw [if_pos e]
      · rw [if_neg e]
        rw [if_neg e]
  have mp : ∀ kvs : List (List Int × PV), dlook j (kvs.map (fun p => if p.1 = k then (p.1, v) else p)) = if j = k ∧ k ∈ kvs.map (·.1) then some v else dlook j kvs := by
    intro kvs
    induction kvs with
    | nil => simp [dlook]
    | cons p r ih =>
      rw [List.map_cons, dlook, dlook, ih]
      by_cases e1 : p.1 = k
      · by_cases e2 : j = k
        · simp [e1, e2]
        · have e3 : ¬ k = j := fun q => e2 q.symm
          simp [e1, e2, e3]
      · have e3 : ¬ k = p.1 := fun q => e1 q.symm
        have hh : (j = k ∧ k ∈ List.map (fun x => x.fst) (p :: r)) ↔ (j = k ∧ k ∈ List.map (fun x => x.fst) r) := by
          rw [List.map_cons, List.mem_cons]
          constructor
          · rintro ⟨a, b | b⟩
            · exact absurd b e3
            · exact ⟨a, b⟩
          · rintro ⟨a, b⟩
            exact ⟨a, .inr b⟩
        simp only [hh]
        rw [if_neg e1]
        by_cases e2 : j = k
        · have e4 : ¬ p.1 = j := by rw [e2]; exact e1
          simp only [e4, if_false]
        · simp [e2]
  unfold dput
  split
  · rename_i h
    rw [mp]
    have : k ∈ kvs.map (·.1) := by
      rw [List.any_eq_true] at h
      obtain ⟨p, hp, e⟩ := h
      exact List.mem_map.mpr ⟨p, hp, of_decide_eq_true e⟩
    simp [this]
  · rename_i h
    refine app kvs fun p hp e => h ?_
    rw [List.any_eq_true]
    exact ⟨p, hp, decide_eq_true e⟩
/-- each of a row of keys is put into a dict -/
theorem for_put (P : Prog) (D : Den) (xv : Option PX) {d x : Nat} {v : PV} {ls : Sts} (ks : List (List Int)) {ρ : BW.Env} {μ : Store} {l : Nat} {kvs : List (List Int × PV)} (hs : ∀ c, stand (μ.set l (.dic c)) ls) (hx : x ≠ d) (hd : ρ[d]? = some (some (.loc l))) (hl : μ[l]? = some (.dic kvs)) (hxl : x < ρ.length) (hsz : kvs.length + ks.length ≤ 1000000) :
    ∃ z, forDen ls (.nm x) (evSs P D [.sub (.var d) (.var x) (.con v)] xv) (ks.map tupI) ρ μ = .mk (.nx (ρ.set x z)) (μ.set l (.dic (ks.foldl (fun c k => dput k v c) kvs))) := by
  induction ks generalizing ρ μ kvs with
  | nil =>
    refine ⟨ρ[x]'hxl, ?_⟩
    rw [List.map_nil, forDen, List.foldl_nil]
    have e : μ.set l (.dic kvs) = μ := by
      apply List.ext_getElem?
      intro k
      by_cases q : l = k
      · subst q; rw [List.getElem?_set_self (get_lt hl), hl]
      · rw [List.getElem?_set_ne q]
    have h0 := hs kvs
    rw [e] at h0
    rw [if_pos h0, e]
    congr 2
    rw [List.set_getElem_self]
  | cons k ks ih =>
    rw [List.map_cons, forDen]
    have e : μ.set l (.dic kvs) = μ := by
      apply List.ext_getElem?
      intro k
      by_cases q : l = k
      · subst q; rw [List.getElem?_set_self (get_lt hl), hl]
      · rw [List.getElem?_set_ne q]
    have h0 := hs kvs
    rw [e] at h0
    rw [if_pos h0, asg_nm]
    try dsimp only
    have lt : kvs.length < sizeLine := by
      rw [sizeLine_eq]
      rw [List.length_cons] at hsz
      omega
    have hb : evSs P D [.sub (.var d) (.var x) (.con v)] xv (ρ.set x (some (tupI k))) μ = .mk (.nx (ρ.set x (some (tupI k)))) (μ.set l (.dic (dput k v kvs))) := by
      have e1 : (ρ.set x (some (tupI k)))[d]? = some (some (.loc l)) := by rw [List.getElem?_set_ne hx]; exact hd
      have e2 : (ρ.set x (some (tupI k)))[x]? = some (some (tupI k)) := List.getElem?_set_self hxl
      rw [ss_cons', s_sub, e_con, Res.st_ok, kSub1_, e_var, e1, gv_some, Res.st_ok, kSub2_, e_var, e2, gv_some, Res.st_ok]
      show (kSubD v (.loc l) (ρ.set x (some (tupI k))) (.tup (k.map .int)) μ).seq _ = _
      rw [kSubDd_, hl, intsOf_map, stD_ _ _ _ _ _ _ lt, RS.seq_nx, kSs_, ss_nil']
    rw [hb]
    try dsimp only
    obtain ⟨z, hz⟩ := ih (ρ := ρ.set x (some (tupI k))) (μ := μ.set l (.dic (dput k v kvs))) (kvs := dput k v kvs) (fun c => by rw [List.set_set]; exact hs c) (by rw [List.getElem?_set_ne hx]; exact hd) (get_set_eq hl) (by rw [List.length_set]; exact hxl) (by
      have := dput_len (k := k) (v := v) (kvs := kvs)
      rw [List.length_cons] at hsz
      omega)
    refine ⟨z, ?_⟩
    rw [hz, List.set_set, List.set_set, List.foldl_cons]
theorem puts_keys {v : PV} (j : List Int) : ∀ (ks : List (List Int)) (kvs : List (List Int × PV)), j ∈ (ks.foldl (fun c k => dput k v c) kvs).map (·.1) ↔ j ∈ ks ∨ j ∈ kvs.map (·.1)
  | [], kvs => by simp
  | k :: ks, kvs => by
    rw [List.foldl_cons, puts_keys j ks, dput_keys, List.mem_cons]
    constructor
    · rintro (h | h | h)
      · exact .inl (.inr h)
      · exact .inl (.inl h)
      · exact .inr h
    · rintro ((h | h) | h)
      · exact .inr (.inl h)
      · exact .inl h
      · exact .inr (.inr h)
theorem puts_len {v : PV} : ∀ (ks : List (List Int)) (kvs : List (List Int × PV)), (ks.foldl (fun c k => dput k v c) kvs).length ≤ kvs.length + ks.length
  | [], kvs => by simp
  | k :: ks, kvs => by
    rw [List.foldl_cons, List.length_cons]
    have := puts_len ks (dput k v kvs) (v := v)
    have := dput_len (k := k) (v := v) (kvs := kvs)
    omega
end BW
set_option maxHeartbeats 8000000
/-! Walls with their kinds, made; rooms of them. -/
local macro_rules | `(tactic| walk_at "dv") => `(tactic| first | assumption | (apply_assumption; done) | exact BW.mulOk_of _ _ (by decide) | exact BW.divOk_of _ _ (by first | decide | assumption | omega) (by decide) | decide | omega | (refine BW.le_size' ?_; first | omega | (simp only [List.length_cons, List.length_nil, List.length_append, List.length_map]; omega)) | simp)
namespace BW
open PySem PySem.Spec PyProof.Rows L2
inductive Kd where
  | mir | gla | hol | dor (n : Int)
  deriving DecidableEq
/-- a program's walls and rooms -/
structure TW (P : Prog) where
  I : WI
  (lb far cx wi di fc cm cg ch cd tm up ov ri rc f mw fw mo fo2 : Nat)
  RC : Cl
  hlb : P.fn[lb]? = some fLB
  hfar : P.fn[far]? = some fFar
  hwi : P.fn[wi]? = some (fWI lb far cx I.fo I.ft)
  hdi : P.fn[di]? = some (fDI wi cx fc)
  ne1 : I.fo ≠ I.ft
  ne2 : I.fo ≠ fc
  ne3 : I.ft ≠ fc
  c1 : P.cl[cm]?.bind (·.init) = some wi
  c2 : P.cl[cg]?.bind (·.init) = some wi
  c3 : P.cl[ch]?.bind (·.init) = some wi
  c4 : P.cl[cd]?.bind (·.init) = some di
  hcl : ∀ c, (c = cm ∨ c = cg ∨ c = ch ∨ c = cd) → ∃ C, P.cl[c]? = some C ∧ look I.mh C.meth = some I.ho ∧ look I.ml C.meth = some I.ln
  hln : P.fn[I.ln]? = some (fLn lb I.fo I.ft)
  hup : P.fn[up]? = some (fUpon I.ml I.fo I.ft)
  hri : P.fn[ri]? = some (fRoomI tm up ov f)
  hrc : P.cl[rc]? = some RC
  hri2 : RC.init = some ri
  hmw : look mw RC.meth = some fw
  hmo : look mo RC.meth = some fo2
  hfw : P.fn[fw]? = some (fWalls f)
section
variable {P : Prog} (T : TW P)
def TW.c : Kd → Nat
  | .mir => T.cm
  | .gla => T.cg
  | .hol => T.ch
  | .dor _ => T.cd
def TW.fs (w : W4) : Kd → List (Nat × PV)
  | .dor n => [(T.I.fo, .tup [.int w.x, .int w.y]), (T.I.ft, .tup [.int w.u, .int w.v]), (T.fc, .int n)]
  | _ => [(T.I.fo, .tup [.int w.x, .int w.y]), (T.I.ft, .tup [.int w.u, .int w.v])]
def Kd.ok : Kd → Prop
  | .dor n => 1 ≤ n ∧ n ≤ 9
  | _ => True
/-- a wall at l, of a kind -/
structure WlX (μ : Store) (l : Nat) (w : W4) (k : Kd) : Prop where
  at_ : μ[l]? = some (.ins (T.c k) (T.fs w k))
  wl : ∃ z, Wl w.x w.y w.u w.v z
  ok : k.ok
variable {T}
theorem TW.fo_ (w : W4) (k : Kd) : look T.I.fo (T.fs w k) = some (.tup [.int w.x, .int w.y]) := by
  cases k <;> simp [TW.fs, look]
theorem TW.ft_ (w : W4) (k : Kd) : look T.I.ft (T.fs w k) = some (.tup [.int w.u, .int w.v]) := by
  have := T.ne1
  cases k <;> simp [TW.fs, look, this]
theorem TW.cl_ (k : Kd) : ∃ C, P.cl[T.c k]? = some C ∧ look T.I.mh C.meth = some T.I.ho ∧ look T.I.ml C.meth = some T.I.ln :=
  T.hcl _ (by cases k <;> simp [TW.c])
theorem WlX.wk {μ : Store} {l : Nat} {w : W4} {k : Kd} (h : WlX T μ l w k) : WK P T.I μ l w := by
  obtain ⟨z, wl⟩ := h.wl
  obtain ⟨C, h1, h2, h3⟩ := TW.cl_ (T := T) k
  exact ⟨_, _, C, z, h.at_, TW.fo_ w k, TW.ft_ w k, h1, h2, h3, wl⟩
theorem WlX.mono {μ μ' : Store} {l : Nat} {w : W4} {k : Kd} (h : WlX T μ l w k) (G : Gr μ μ') : WlX T μ' l w k := ⟨G.get h.at_, h.wl, h.ok⟩
theorem WlX.set {μ : Store} {l q : Nat} {w : W4} {k : Kd} (h : WlX T μ l w k) (ne : q ≠ l) (c : Cell) : WlX T (μ.set q c) l w k := ⟨get_set_ne h.at_ ne, h.wl, h.ok⟩
/-- the words for a wall's making: its ends, in either order, its number -/
def argsW (w : W4) (sw : Bool) : Kd → List PV
  | .dor n => [.tup (if sw then [.int w.u, .int w.v] else [.int w.x, .int w.y]), .tup (if sw then [.int w.x, .int w.y] else [.int w.u, .int w.v]), .int n]
  | _ => [.tup (if sw then [.int w.u, .int w.v] else [.int w.x, .int w.y]), .tup (if sw then [.int w.x, .int w.y] else [.int w.u, .int w.v])]
theorem mk_wall (T : TW P) (n : Nat) {w : W4} {z : Int} (wl : Wl w.x w.y w.u w.v z) (sw : Bool) (k : Kd) (ok : k.ok) (μ : Store) : kMake P (den P (n + 3)) (T.c k) (argsW w sw k) μ = .ok (.loc μ.length) (μ ++ [.ins (T.c k) (T.fs w k)]) := by
  have c1 := T.c1
  have c2 := T.c2
  have c3 := T.c3
  have c4 := T.c4
  have a := fun k => wi_new T.hlb T.hfar T.hwi T.ne1 (n + 1) k wl sw μ
  cases k with
  | mir => simp [TW.c, TW.fs, argsW, c1, a, kMake]
  | gla => simp [TW.c, TW.fs, argsW, c2, a, kMake]
  | hol => simp [TW.c, TW.fs, argsW, c3, a, kMake]
  | dor e =>
    have b := di_new T.hlb T.hfar T.hwi T.hdi T.ne1 T.ne2 T.ne3 n T.cd wl sw ok.1 ok.2 μ
    simp [TW.c, TW.fs, argsW, c4, b, kMake]
theorem wx_new {w : W4} {z : Int} (wl : Wl w.x w.y w.u w.v z) {k : Kd} (ok : k.ok) (μ : Store) : WlX T (μ ++ [.ins (T.c k) (T.fs w k)]) μ.length w k := ⟨by simp, ⟨z, wl⟩, ok⟩
/-- walls made one by one -/
theorem lc_wx {α : Type} {ls : Sts} {iv : Nat} {e : BW.Env → Store → Res PV} {xs : List α} (emb : α → PV) (sp : α → W4 × Kd) {ρ : BW.Env} {μ : Store} (hs : ∀ μ', Gr μ μ' → stand μ' ls) (hsz : xs.length ≤ 1000000)
    (he : ∀ x ∈ xs, ∀ μ', Gr μ μ' → ∃ l μ'', e (ρ.set iv (some (emb x))) μ' = .ok (.loc l) μ'' ∧ Gr μ' μ'' ∧ WlX T μ'' l (sp x).1 (sp x).2) :
    ∃ (ll : List Nat) (μ' : Store), lcDen ls ρ (.nm iv) (fun _ m => .ok true m) e (xs.map emb) [] μ = .ok (ll.map PV.loc) μ' ∧ Gr μ μ' ∧ ll.length = xs.length ∧ ∀ (j l : Nat) (x : α), ll[j]? = some l → xs[j]? = some x → WlX T μ' l (sp x).1 (sp x).2 := by
  obtain ⟨acc, μ', h, h2⟩ := lc_run (ls := ls) (t := .nm iv) (c := fun _ m => .ok true m) (e := e) (items := xs.map emb) (ρ := ρ) (fun k acc m => Gr μ m ∧ ∃ ll : List Nat, acc = ll.map PV.loc ∧ ll.length = k ∧ k ≤ xs.length ∧ ∀ (j l : Nat) (x : α), ll[j]? = some l → xs[j]? = some x → WlX T m l (sp x).1 (sp x).2)
    (fun k acc m h => by
      obtain ⟨G, ll, rfl, e1, e2, _⟩ := h
      exact ⟨hs m G, by rw [List.length_map]; omega⟩) (le_size' (by simpa using hsz))
    (fun k acc m x hx h => by
      obtain ⟨G, ll, rfl, e1, e2, e3⟩ := h
      rw [List.getElem?_map] at hx
      obtain ⟨y, hy, rfl⟩ := Option.map_eq_some_iff.mp hx
      have hk : k < xs.length := (List.getElem?_eq_some_iff.mp hy).1
      obtain ⟨l2, m2, q1, q2, q3⟩ := he y (List.mem_of_getElem? hy) m G
      refine ⟨_, asg_nm m iv _ ρ, .inl ⟨m, .loc l2, m2, rfl, q1, G.trans q2, ll ++ [l2], by simp, by simp [e1], by omega, fun j l w a b => ?_⟩⟩
      have hj : j < (ll ++ [l2]).length := (List.getElem?_eq_some_iff.mp a).1
      rw [List.length_append, List.length_singleton] at hj
      rcases (show j < ll.length ∨ j = ll.length by omega) with z | z
      · rw [List.getElem?_append_left z] at a
        exact (e3 j l w a b).mono q2
      · subst z
        simp at a
        subst a
        rw [e1, hy] at b
        cases b
        exact q3) (μ := μ) ⟨Gr.refl, [], rfl, rfl, by omega, fun j l w a b => (by simp at a)⟩
  obtain ⟨G, ll, e1, e2, e3, e4⟩ := h2
  rw [List.length_map] at e2
  rw [e1] at h
  exact ⟨ll, μ', h, G, e2, e4⟩
variable (T)
/-- a room at l: its walls, with their kinds -/
structure RmX (μ : Store) (l : Nat) (ls : List Nat) (ws : List (W4 × Kd)) : Prop where
  at_ : ∃ m, μ[l]? = some (.ins T.rc [(T.f, .loc m)]) ∧ μ[m]? = some (.lst (ls.map .loc))
  len : ls.length = ws.length
  le : ls.length ≤ 40
  wx : ∀ (j l : Nat) (w : W4 × Kd), ls[j]? = some l → ws[j]? = some w → WlX T μ l w.1 w.2
  gt : ∀ m, μ[l]? = some (.ins T.rc [(T.f, .loc m)]) → l < m
variable {T}
theorem RmX.mono {μ μ' : Store} {l : Nat} {ls : List Nat} {ws : List (W4 × Kd)} (h : RmX T μ l ls ws) (G : Gr μ μ') : RmX T μ' l ls ws := by
  obtain ⟨m, h1, h2⟩ := h.at_
  exact ⟨⟨m, G.get h1, G.get h2⟩, h.len, h.le, fun j l w a b => (h.wx j l w a b).mono G, fun m' e => by rw [G.get h1] at e; cases e; exact h.gt m h1⟩
theorem RmX.set {μ : Store} {l q : Nat} {ls : List Nat} {ws : List (W4 × Kd)} {xs : List PV} (h : RmX T μ l ls ws) (hq : μ[q]? = some (.lst xs)) (lt : q < l) (c : Cell) : RmX T (μ.set q c) l ls ws := by
  obtain ⟨m, h1, h2⟩ := h.at_
  have := h.gt m h1
  refine ⟨⟨m, get_set_ne h1 (by omega), get_set_ne h2 (by omega)⟩, h.len, h.le, fun j a w h3 h4 => (h.wx j a w h3 h4).set ?_ c, fun m' e => ?_⟩
  · rintro rfl
    have := (h.wx j q w h3 h4).at_
    rw [hq] at this; cases this
  · rw [get_set_ne h1 (by omega)] at e
    cases e
    exact this
theorem RmX.rk {μ : Store} {l : Nat} {ls : List Nat} {ws : List (W4 × Kd)} (h : RmX T μ l ls ws) : RK P T.I T.f T.mw T.fw T.mo T.fo2 μ l ls (ws.map (·.1)) := by
  obtain ⟨m, h1, h2⟩ := h.at_
  refine ⟨⟨T.rc, T.RC, _, m, h1, by simp [look], T.hrc, T.hmw, T.hmo, h2⟩, by rw [List.length_map]; exact h.len, h.le, fun j l w a b => ?_⟩
  rw [List.getElem?_map] at b
  obtain ⟨q, hq, rfl⟩ := Option.map_eq_some_iff.mp b
  exact (h.wx j l q a hq).wk
/-- a room made -/
theorem mk_room (T : TW P) (n : Nat) {μ : Store} {lw : Nat} {ls : List Nat} {ws : List (W4 × Kd)} (h40 : ls.length ≤ 40) (hlw : listAt μ (.loc lw) = some (ls.map PV.loc))
    (hw : ∀ (j l : Nat) (w : W4 × Kd), ls[j]? = some l → ws[j]? = some w → WlX T μ l w.1 w.2) (hlen : ls.length = ws.length) (hn : ∀ (j k : Nat) (a b : W4 × Kd), j < k → ws[j]? = some a → ws[k]? = some b → upB a.1 b.1 = false) :
    ∃ μ', kMake P (den P (n + 4)) T.rc [.loc lw] μ = .ok (.loc μ.length) μ' ∧ Gr μ μ' ∧ RmX T μ' μ.length ls ws := by
  obtain ⟨ν, m, e, e2, e3⟩ := room_ok (ws := ws.map (·.1)) T.hlb T.hln T.hup T.hri n T.rc h40 hlw (fun j l w a b => by
    rw [List.getElem?_map] at b
    obtain ⟨q, hq, rfl⟩ := Option.map_eq_some_iff.mp b
    exact (hw j l q a hq).wk) (by rw [List.length_map]; exact hlen) (fun j k a b hjk h1 h2 => by
    rw [List.getElem?_map] at h1 h2
    obtain ⟨q1, hq1, rfl⟩ := Option.map_eq_some_iff.mp h1
    obtain ⟨q2, hq2, rfl⟩ := Option.map_eq_some_iff.mp h2
    exact hn j k q1 q2 hjk hq1 hq2)
  refine ⟨μ ++ Cell.ins T.rc [(T.f, PV.loc m)] :: ν, ?_, ⟨_, rfl⟩, ⟨⟨m, by simp, e2⟩, hlen, h40, fun j l w a b => (hw j l w a b).mono ⟨_, rfl⟩, fun m' e => by simp at e; omega⟩⟩
  have hi : P.cl[T.rc]?.bind (·.init) = some T.ri := by rw [T.hrc]; exact T.hri2
  simp [kMake, hi, e]
/-- its walls told -/
theorem told_walls (n : Nat) {μ : Store} {l : Nat} {ls : List Nat} {ws : List (W4 × Kd)} (R : RmX T μ l ls ws) : methOf P μ T.mw (.loc l) = some T.fw ∧ den P (n + 1) T.fw [.loc l] μ = .ok (.loc μ.length) (μ ++ [.lst (ls.map .loc)]) := by
  obtain ⟨m, h1, h2⟩ := R.at_
  exact ⟨meth_at h1 T.hrc T.hmw, walls_ok T.hfw n R.rk⟩
/-! ### the number of a wall -/
def fOne : Fn := ⟨1, 1, [.ret (.con (.int 1))]⟩
def fCyc (fc : Nat) : Fn := ⟨1, 1, [.ret (.fld (.var 0) fc)]⟩
/-- every() -/
structure TE (T : TW P) where
  (me f1 f2 : Nat)
  h1 : P.fn[f1]? = some fOne
  h2 : P.fn[f2]? = some (fCyc T.fc)
  hm : ∀ k : Kd, ∃ C, P.cl[T.c k]? = some C ∧ look me C.meth = some (match k with | .dor _ => f2 | _ => f1)
end
end BW
set_option maxHeartbeats 8000000
/-! Fences: rows of walls that share no piece. -/
local macro_rules | `(tactic| walk_at "dv") => `(tactic| first | assumption | (apply_assumption; done) | exact BW.mulOk_of _ _ (by decide) | exact BW.divOk_of _ _ (by first | decide | assumption | omega) (by decide) | decide | omega | (refine BW.le_size' ?_; first | omega | (simp only [List.length_cons, List.length_nil, List.length_append, List.length_map]; omega)) | simp)
namespace BW
open PySem PySem.Spec PyProof.Rows L2
section
variable {P : Prog} {i : Nat}
/-! ### pieces -/
def piecesL (x y k : Int) (L : Nat) : List (List Int) := (List.range L).map fun j : Nat => [x + (j : Int) * unitX k, y + (j : Int) * unitY k, k]
theorem bd_ux (k : Int) : Bd (unitX k) 2 := ⟨by unfold unitX; split <;> decide⟩
theorem bd_uy (k : Int) : Bd (unitY k) 2 := ⟨by unfold unitY; repeat' split
                                                all_goals decide⟩
theorem rng_nat {L : Int} (h : -1000000 ≤ L) (h2 : L ≤ 1000000) : rngOf [.int L] = some ((List.range L.toNat).map fun j : Nat => PV.int (j : Int)) := by
  rw [rngOf_one (hi := L) (by omega) (by omega)]
  unfold rngV
  congr 1
  apply List.map_congr_left
  intro j _
  congr 1
  omega
/-! ### rows -/
end
end BW
set_option maxHeartbeats 8000000
/-! Fences: the walk. -/
local macro_rules | `(tactic| walk_at "dv") => `(tactic| first | assumption | (apply_assumption; done) | exact BW.mulOk_of _ _ (by decide) | exact BW.divOk_of _ _ (by first | decide | assumption | omega) (by decide) | decide | omega | (refine BW.le_size' ?_; first | omega | (simp only [List.length_cons, List.length_nil, List.length_append, List.length_map]; omega)) | simp)
namespace BW
open PySem PySem.Spec PyProof.Rows L2
inductive Wd where
  | mir | gla | hol | dor
  deriving DecidableEq
def Wd.s : Wd → Str
  | .mir => "mirror"
  | .gla => "glass"
  | .hol => "hole"
  | .dor => "door"
structure Fnc where
  w : Wd
  e : Int
  x : Int
  y : Int
  k : Int
  L : Int
def Fnc.u (f : Fnc) : Int := f.x + f.L * unitX f.k
def Fnc.v (f : Fnc) : Int := f.y + f.L * unitY f.k
def Fnc.ps (f : Fnc) : List (List Int) := piecesL f.x f.y f.k f.L.toNat
structure Fnc.Ok (wide high : Int) (ws : List Wd) (ns : List Int) (f : Fnc) : Prop where
  x0 : 0 ≤ f.x
  x1 : f.x ≤ wide
  y0 : 0 ≤ f.y
  y1 : f.y ≤ high
  k0 : 0 ≤ f.k
  k4 : f.k < 4
  L0 : 1 ≤ f.L
  L1 : f.L ≤ 200
  u1 : f.u ≤ wide
  v0 : 0 ≤ f.v
  v1 : f.v ≤ high
  hw : f.w ∈ ws
  he : f.e ∈ ns
section
variable {P : Prog} {i : Nat}
theorem lc_filtA {α : Type} {ls : Sts} {i : Nat} {c : BW.Env → Store → Res Bool} {e : BW.Env → Store → Res PV} {xs : List α} (emb : α → PV) {ρ : BW.Env} {μ : Store} (p : α → Bool) (hs : stand μ ls) (hsz : xs.length ≤ 1000000)
    (hc : ∀ x ∈ xs, c (ρ.set i (some (emb x))) μ = .ok (p x) μ) (he : ∀ x ∈ xs, e (ρ.set i (some (emb x))) μ = .ok (emb x) μ) : lcDen ls ρ (.nm i) c e (xs.map emb) [] μ = .ok ((xs.filter p).map emb) μ := by
  obtain ⟨acc, μ', h, h2, h3⟩ := lc_run (ls := ls) (t := .nm i) (c := c) (e := e) (items := xs.map emb) (ρ := ρ) (fun k acc m => m = μ ∧ acc = ((xs.take k).filter p).map emb)
    (fun k acc m h => by
      obtain ⟨rfl, rfl⟩ := h
      refine ⟨hs, ?_⟩
      rw [List.length_map]
      exact Nat.le_trans (List.length_filter_le _ _) (by rw [List.length_take]; omega)) (le_size' (by simpa using hsz))
    (fun k acc m x hx h => by
      obtain ⟨rfl, rfl⟩ := h
      rw [List.getElem?_map] at hx
      obtain ⟨y, hy, rfl⟩ := Option.map_eq_some_iff.mp hx
      have hm := List.mem_of_getElem? hy
      refine ⟨_, asg_nm m i _ ρ, ?_⟩
      have ht : xs.take (k + 1) = xs.take k ++ [y] := by
        rw [List.take_succ, hy]; rfl
      rw [ht, List.filter_append, List.map_append]
      cases hp : p y with
      | true =>
        exact .inl ⟨m, _, m, by rw [hc _ hm, hp], he _ hm, rfl, by simp [List.filter, hp]⟩
      | false =>
        exact .inr ⟨m, by rw [hc _ hm, hp], rfl, by simp [List.filter, hp]⟩) (μ := μ) ⟨rfl, by simp⟩
  rw [h, h2, h3, List.length_map, List.take_length]
theorem pieces_len {x y k : Int} {n : Nat} : (piecesL x y k n).length = n := by
  unfold piecesL
  rw [List.length_map, List.length_range]
end
end BW
set_option maxHeartbeats 8000000
/-! Fences: the whole function; put, built. -/
local macro_rules | `(tactic| walk_at "dv") => `(tactic| first | assumption | (apply_assumption; done) | exact BW.mulOk_of _ _ (by decide) | exact BW.divOk_of _ _ (by first | decide | assumption | omega) (by decide) | decide | omega | (refine BW.le_size' ?_; first | omega | (simp only [List.length_cons, List.length_nil, List.length_append, List.length_map]; omega)) | simp)
namespace BW
open PySem PySem.Spec PyProof.Rows L2
section
variable {P : Prog} {i : Nat}
/-! ### put elsewhere -/
/-! ### built -/
def Wd.kd (e : Int) : Wd → Kd
  | .mir => .mir
  | .gla => .gla
  | .hol => .hol
  | .dor => .dor e
end
end BW
set_option maxHeartbeats 8000000
/-! Fences as walls; a room's box, its latest time. -/
local macro_rules | `(tactic| walk_at "dv") => `(tactic| first | assumption | (apply_assumption; done) | exact BW.mulOk_of _ _ (by decide) | exact BW.divOk_of _ _ (by first | decide | assumption | omega) (by decide) | decide | omega | (refine BW.le_size' ?_; first | omega | (simp only [List.length_cons, List.length_nil, List.length_append, List.length_map]; omega)) | simp)
namespace BW
open PySem PySem.Spec PyProof.Rows L2
def Fnc.w4 (f : Fnc) : W4 := ⟨f.x, f.y, f.u, f.v⟩
theorem mul_eq_iff {s a b : Int} (hs : 0 < s) : s * a = s * b ↔ a = b := ⟨fun h => Int.eq_of_mul_eq_mul_left (by omega) h, fun h => by rw [h]⟩
theorem piece_mem {x y k : Int} {L : Nat} {q : List Int} (j : Nat) (hj : j < L) (h : q = [x + (j : Int) * unitX k, y + (j : Int) * unitY k, k]) : q ∈ piecesL x y k L := by
  rw [h]
  exact List.mem_map.mpr ⟨j, List.mem_range.mpr hj, rfl⟩
theorem line_k {k L : Int} (k0 : 0 ≤ k) (k4 : k < 4) (hL : 1 ≤ L) : lineB (L * unitX k) (L * unitY k) = some k := by
  have h0 : ¬ L = 0 := by omega
  have h1 : ¬ (0 : Int) = L := by omega
  have h2 : ¬ L = -L := by omega
  rcases (show k = 0 ∨ k = 1 ∨ k = 2 ∨ k = 3 by omega) with rfl | rfl | rfl | rfl <;> simp [lineB, unitX, unitY, h0, h1, h2]
structure Fnc.Ln (f : Fnc) : Prop where
  k0 : 0 ≤ f.k
  k4 : f.k < 4
  L0 : 1 ≤ f.L
theorem up_apart' {a b : Fnc} (ha : a.Ln) (hb : b.Ln) (ap : ∀ q ∈ b.ps, q ∉ a.ps) : upB a.w4 b.w4 = false := by
  cases h : upB a.w4 b.w4 with
  | false => rfl
  | true =>
    exfalso
    unfold upB Fnc.w4 at h
    rw [Bool.and_eq_true, Bool.and_eq_true, decide_eq_true_eq, decide_eq_true_eq] at h
    dsimp only at h
    obtain ⟨h1, h2, h3⟩ := h
    have au : a.u - a.x = a.L * unitX a.k := by unfold Fnc.u; omega
    have av : a.v - a.y = a.L * unitY a.k := by unfold Fnc.v; omega
    have bu : b.u - b.x = b.L * unitX b.k := by unfold Fnc.u; omega
    have bv : b.v - b.y = b.L * unitY b.k := by unfold Fnc.v; omega
    rw [au, av, bu, bv, line_k ha.k0 ha.k4 ha.L0, line_k hb.k0 hb.k4 hb.L0] at h1
    have hk : a.k = b.k := Option.some.inj h1
    rw [au, av] at h2
    simp only [lex2, Bool.decide_eq_true] at h3
    have aL := ha.L0
    have bL := hb.L0
    have k0 := ha.k0
    have k4 := ha.k4
    unfold Fnc.u Fnc.v at h3
    have h2' : unitX a.k * (b.y - a.y) = unitY a.k * (b.x - a.x) := by
      have e1 : a.L * (unitX a.k * (b.y - a.y)) = a.L * (unitY a.k * (b.x - a.x)) := by rw [← Int.mul_assoc, ← Int.mul_assoc]; exact h2
      exact (mul_eq_iff (by omega)).mp e1
    clear h1 h2 au av bu bv
    rw [← hk] at h3
    have go : ∀ m : Int, 0 ≤ m - a.x → 0 ≤ m - b.x → a.k ≠ 2 → m < a.x + a.L → m < b.x + b.L → False := by
      intro m m1 m2 ne m3 m4
      have ux : unitX a.k = 1 := by unfold unitX; rw [if_neg ne]
      rw [ux] at h2'
      refine ap [m, b.y + (m - b.x) * unitY a.k, a.k] ?_ ?_
      · refine piece_mem (m - b.x).toNat (by omega) ?_
        rw [← hk, ux, Int.toNat_of_nonneg m2]
        congr 1
        omega
      · refine piece_mem (m - a.x).toNat (by omega) ?_
        rw [ux, Int.toNat_of_nonneg m1]
        congr 1
        · omega
        · congr 1
          have e : b.y - a.y = unitY a.k * (b.x - a.x) := by omega
          have e2 : (m - b.x) * unitY a.k = (m - a.x) * unitY a.k - unitY a.k * (b.x - a.x) := by grind
          omega
    rcases (show a.k = 0 ∨ a.k = 1 ∨ a.k = 2 ∨ a.k = 3 by omega) with e | e | e | e
    · rw [e] at h3 h2' go
      simp [unitX, unitY] at h3 h2'
      by_cases c1 : a.x < b.x
      · exact go b.x (by omega) (by omega) (by decide) (by repeat' split at h3
                                                           all_goals omega) (by omega)
      · exact go a.x (by omega) (by omega) (by decide) (by omega) (by repeat' split at h3
                                                                      all_goals omega)
    · rw [e] at h3 h2' go
      simp [unitX, unitY] at h3 h2'
      by_cases c1 : a.x < b.x
      · exact go b.x (by omega) (by omega) (by decide) (by repeat' split at h3
                                                           all_goals omega) (by omega)
      · exact go a.x (by omega) (by omega) (by decide) (by omega) (by repeat' split at h3
                                                                      all_goals omega)
    · rw [e] at h3 h2'
      simp [unitX, unitY] at h3 h2'
      have hx : b.x = a.x := by omega
      have g2 : ∀ m : Int, 0 ≤ m - a.y → 0 ≤ m - b.y → m < a.y + a.L → m < b.y + b.L → False := by
        intro m m1 m2 m3 m4
        refine ap [a.x, m, 2] ?_ ?_
        · refine piece_mem (m - b.y).toNat (by omega) ?_
          rw [← hk, e, Int.toNat_of_nonneg m2]
          simp [unitX, unitY]
          omega
        · refine piece_mem (m - a.y).toNat (by omega) ?_
          rw [e, Int.toNat_of_nonneg m1]
          simp [unitX, unitY]
          omega
      by_cases c1 : a.y < b.y
      · exact g2 b.y (by omega) (by omega) (by repeat' split at h3
                                               all_goals omega) (by omega)
      · exact g2 a.y (by omega) (by omega) (by omega) (by repeat' split at h3
                                                          all_goals omega)
    · rw [e] at h3 h2' go
      simp [unitX, unitY] at h3 h2'
      by_cases c1 : a.x < b.x
      · exact go b.x (by omega) (by omega) (by decide) (by repeat' split at h3
                                                           all_goals omega) (by omega)
      · exact go a.x (by omega) (by omega) (by decide) (by omega) (by repeat' split at h3
                                                                      all_goals omega)
theorem far_no {a b : Int} (h1 : -1000 ≤ a) (h2 : a ≤ 1000) (h3 : -1000 ≤ b) (h4 : b ≤ 1000) : farB a b = false := decide_eq_false (by omega)
theorem Fnc.Ok.u0 {wide high : Int} {ws : List Wd} {ns : List Int} {f : Fnc} (h : f.Ok wide high ws ns) : 0 ≤ f.u := by
  have := h.x0
  have := h.L0
  unfold Fnc.u unitX
  split <;> omega
/-! ### a room's box -/
def minL : List Int → Int
  | [] => 0
  | x :: xs => xs.foldl min x
def maxL : List Int → Int
  | [] => 0
  | x :: xs => xs.foldl max x
theorem bi_maxL' {l : Nat} {xs : List Int} {μ : Store} (h : μ[l]? = some (.lst (xs.map .int))) (ne : xs ≠ []) : biV .max [.loc l] μ = .ok (.int (maxL xs)) μ := by
  cases xs with
  | nil => exact absurd rfl ne
  | cons x xs => exact bi_maxL h
section
variable {P : Prog} {T : TW P} {i : Nat}
theorem RmX.zip {μ : Store} {l : Nat} {ls : List Nat} {ws : List (W4 × Kd)} (R : RmX T μ l ls ws) : (∀ p ∈ ls.zip ws, WlX T μ p.1 p.2.1 p.2.2) ∧ (ls.zip ws).map (·.1) = ls ∧ (ls.zip ws).map (·.2) = ws := by
  refine ⟨fun p hp => ?_, ?_, ?_⟩
  · obtain ⟨j, hj⟩ := List.getElem?_of_mem hp
    obtain ⟨h1, h2⟩ := List.getElem?_zip_eq_some.mp hj
    exact R.wx j p.1 p.2 h1 h2
  · exact List.map_fst_zip (by rw [R.len]; exact Nat.le_refl _)
  · exact List.map_snd_zip (by rw [R.len]; exact Nat.le_refl _)
end
end BW
set_option maxHeartbeats 8000000
/-! Rows of light. -/
local macro_rules | `(tactic| walk_at "dv") => `(tactic| first | assumption | (apply_assumption; done) | exact BW.mulOk_of _ _ (by decide) | exact BW.divOk_of _ _ (by first | decide | assumption | omega) (by decide) | decide | omega | (refine BW.le_size' ?_; first | omega | (simp only [List.length_cons, List.length_nil, List.length_append, List.length_map]; omega)) | simp)
namespace BW
open PySem PySem.Spec PyProof.Rows L2
/-! ### the order of rows -/
open PySem.W in
open PySem.W in
open PySem.W in
/-! ### rows, one number longer -/
/-! ### the walk -/
def Kd.turns : Kd → Bool
  | .mir => true
  | .dor _ => true
  | _ => false
section
variable {P : Prog} {T : TW P} {i : Nat}
end
end BW
set_option maxHeartbeats 8000000
/-! Rooms refused; walls on one another share a piece. -/
local macro_rules | `(tactic| walk_at "dv") => `(tactic| first | assumption | (apply_assumption; done) | exact BW.mulOk_of _ _ (by decide) | exact BW.divOk_of _ _ (by first | decide | assumption | omega) (by decide) | decide | omega | (refine BW.le_size' ?_; first | omega | (simp only [List.length_cons, List.length_nil, List.length_append, List.length_map]; omega)) | simp)
namespace BW
open PySem PySem.Spec PyProof.Rows L2
/-- a for, that may raise -/
theorem for_postX {ls : Sts} {t : Tg} {b : BW.Env → Store → RS} {items : List PV} {ρ : BW.Env} {μ : Store} (I : Nat → BW.Env → Store → Prop) (Post : RS → Prop) (h0 : I 0 ρ μ) (hs : ∀ i ρ μ, I i ρ μ → stand μ ls)
    (fin : ∀ ρ μ, I items.length ρ μ → Post (.mk (.nx ρ) μ))
    (step : ∀ i ρ μ x, items[i]? = some x → I i ρ μ → ∃ ρ1, asg t x ρ μ = some ρ1 ∧
      ((∃ ρ2 μ2, (b ρ1 μ = .mk (.nx ρ2) μ2 ∨ b ρ1 μ = .mk (.ct ρ2) μ2) ∧ I (i + 1) ρ2 μ2) ∨ (∃ ρ2 μ2, b ρ1 μ = .mk (.bk ρ2) μ2 ∧ Post (.mk (.nx ρ2) μ2)) ∨ (∃ v μ2, b ρ1 μ = .mk (.rt v) μ2 ∧ Post (.mk (.rt v) μ2)) ∨ (∃ e ρ2 μ2, b ρ1 μ = .mk (.ex e ρ2) μ2 ∧ Post (.mk (.ex e ρ2) μ2)))) : Post (forDen ls t b items ρ μ) := by
  have key : ∀ (k : Nat) (i : Nat) (ρ : BW.Env) (μ : Store), items.length - i = k → i ≤ items.length → I i ρ μ → Post (forDen ls t b (items.drop i) ρ μ) := by
    intro k
    induction k with
    | zero =>
      intro i ρ μ hk hi hI
      have : i = items.length := by omega
      subst this
      rw [List.drop_length, forDen, if_pos (hs _ _ _ hI)]
      exact fin _ _ hI
    | succ k ih =>
      intro i ρ μ hk hi hI
      have hlt : i < items.length := by omega
      obtain ⟨ρ1, e1, h⟩ := step i ρ μ items[i] (List.getElem?_eq_getElem hlt) hI
      rw [List.drop_eq_getElem_cons hlt, forDen, if_pos (hs _ _ _ hI), e1]
      dsimp only
      rcases h with ⟨ρ2, μ2, e2, hI2⟩ | ⟨ρ2, μ2, e2, p⟩ | ⟨v, μ2, e2, p⟩ | ⟨e, ρ2, μ2, e2, p⟩
      · have := ih (i + 1) ρ2 μ2 (by omega) hlt hI2
        rcases e2 with e2 | e2
        · rw [e2]; exact this
        · rw [e2]; exact this
      · rw [e2]; exact p
      · rw [e2]; exact p
      · rw [e2]; exact p
  have := key _ 0 ρ μ rfl (Nat.zero_le _) h0
  rw [List.drop_zero] at this
  exact this
/-! ### on one another -/
theorem piece_iff {x y k : Int} {L : Nat} {q : List Int} : q ∈ piecesL x y k L ↔ ∃ j : Nat, j < L ∧ q = [x + (j : Int) * unitX k, y + (j : Int) * unitY k, k] := by
  constructor
  · intro h
    obtain ⟨j, hj, e⟩ := List.mem_map.mp h
    exact ⟨j, List.mem_range.mp hj, e.symm⟩
  · rintro ⟨j, hj, e⟩
    exact piece_mem j hj e
/-! ### a room refused -/
section
variable {P : Prog} {i : Nat}
/-! ### the word of a wall -/
def Kd.wd : Kd → Wd
  | .mir => .mir
  | .gla => .gla
  | .hol => .hol
  | .dor _ => .dor
end
end BW
set_option maxHeartbeats 4000000
/-! Texts: their steps; the number that a text writes. -/
namespace BW
open PySem PySem.Spec PyProof.Rows L2 TL
def txt (l : List Nat) : Str := ⟨l.toArray⟩
@[simp] theorem tl_txt (l : List Nat) : tl (txt l) = l := rfl
@[simp] theorem txt_tl (s : Str) : txt (tl s) = s := mk_tl s
@[simp] theorem len_txt (l : List Nat) : (txt l).length = l.length := by rw [len_tl, tl_txt]
theorem txt_inj {a b : List Nat} (h : txt a = txt b) : a = b := by rw [← tl_txt a, h, tl_txt]
section
variable (μ : Store)
theorem idx_s (z : Str) (i : Int) (h : z.length ≤ 1000000) : idxV (.str z) (.int i) μ = Res.ofO ((L2.atI (tl z) i).map signPV) μ := if_pos (le_size' h)
theorem eqB_str (a b : Str) : eqB μ (.str a) (.str b) = some (decide (a = b)) := by
  unfold eqB
  show (if SeqAt.shaped (.str a) = true ∧ SeqAt.shaped (.str b) = true then some (PyData.eqv (.str a) (.str b)) else some (decide (a = b))) = _
  have e : PyData.eqv (.str a) (.str b) = decide (a = b) := by
    rw [Bool.eq_iff_iff]
    simp [PyData.eqv]
  rw [e]
  split <;> rfl
@[simp] theorem cmpV_eqs (a b : Str) : cmpV .eq (.str a) (.str b) μ = .ok (.bl (decide (a = b))) μ := cmpV_eqB μ (eqB_str μ a b)
@[simp] theorem cmpV_nes (a b : Str) : cmpV .ne (.str a) (.str b) μ = .ok (.bl (!decide (a = b))) μ := cmpV_neB μ (eqB_str μ a b)
theorem signOf_ (c : Nat) : signOf ⟨#[c]⟩ = some c := rfl
theorem add_s (a b : Str) (h : a.length + b.length ≤ 1000000) : binV .add (.str a) (.str b) μ = .ok (.str (a ++ b)) μ := if_pos (le_size' h)
@[simp] theorem bmOk_split (a : Str) : bmOk .split (.str a) μ = true := rfl
@[simp] theorem bmOk_part (a : Str) : bmOk .partition (.str a) μ = true := rfl
@[simp] theorem bmOk_starts (a : Str) : bmOk .startswith (.str a) μ = true := rfl
@[simp] theorem bmOk_join (a : Str) : bmOk .join (.str a) μ = true := rfl
theorem strs_of : ∀ ys : List Str, strsOf (ys.map .str) = some ys
  | [] => rfl
  | y :: ys => by
    show (strsOf (ys.map .str)).map (y :: ·) = _
    rw [strs_of ys]
    rfl
theorem bm_join (a : Str) (l : Nat) (ys : List Str) (h : μ[l]? = some (.lst (ys.map .str))) (hs : (ys.map (·.length)).sum + ys.length * a.length ≤ 16777216) : bmV .join (.str a) [.loc l] μ = .ok (.str (Txt.join a ys)) μ := by
  show (match (listAt μ (.loc l)).bind strsOf with
    | some ys => if (ys.map (fun z : Str => z.length)).sum + ys.length * a.length ≤ 16777216 then Res.ok (PV.str (Txt.join a ys)) μ else Res.bad
    | none => Res.bad) = _
  have e : (listAt μ (.loc l)).bind strsOf = some ys := by
    rw [listAt_loc, h]
    exact strs_of ys
  rw [e]
  exact if_pos hs
end
/-! ### whole numbers in texts -/
open NumText in
def bareL (l : List Nat) : List Nat := if l.take 1 = [45] then l.drop 1 else l
def wholeOk (l : List Nat) : Prop := bareL l ≠ [] ∧ (bareL l).length ≤ 60 ∧ (∀ c ∈ bareL l, 48 ≤ c ∧ c ≤ 57) ∧ ((bareL l).take 1 = [48] → l = [48])
instance (l : List Nat) : Decidable (wholeOk l) := inferInstanceAs (Decidable (_ ∧ _ ∧ _ ∧ _))
def wholeV (l : List Nat) : Int := if l.take 1 = [45] then -((NumText.digitsVal (l.drop 1) : Nat) : Int) else ((NumText.digitsVal l : Nat) : Int)
/-- the whole number that a text writes -/
def whole (l : List Nat) : Option Int := if wholeOk l then some (wholeV l) else none
/-! printed numbers -/
end BW
set_option maxHeartbeats 4000000
/-! Texts read by the program: whole numbers, fractions, points, headings. -/
local macro_rules | `(tactic| walk_at "dv") => `(tactic| first | assumption | exact BW.mulOk_of _ _ (by decide) | exact BW.divOk_of _ _ (by first | decide | assumption | omega) (by decide) | decide | omega | (refine BW.le_size' ?_; first | omega | (simp only [List.length_cons, List.length_nil, List.length_append, List.length_map]; omega)) | simp)
namespace BW
open PySem PySem.Spec PyProof.Rows L2 TL
theorem lc_genT {α : Type} {ls : Sts} {i : Nat} {c : BW.Env → Store → Res Bool} {e : BW.Env → Store → Res PV} {ρ : BW.Env} {μ : Store} (xs : List α) (g f : α → PV) (p : α → Bool) (hs : stand μ ls) (hsz : xs.length ≤ 1000000)
    (hc : ∀ x ∈ xs, c (ρ.set i (some (g x))) μ = .ok (p x) μ) (he : ∀ x ∈ xs, p x = true → e (ρ.set i (some (g x))) μ = .ok (f x) μ) : lcDen ls ρ (.nm i) c e (xs.map g) [] μ = .ok ((xs.filter p).map f) μ := by
  obtain ⟨acc, μ', h, h2, h3⟩ := lc_run (ls := ls) (t := .nm i) (c := c) (e := e) (items := xs.map g) (ρ := ρ) (fun k acc m => m = μ ∧ acc = ((xs.take k).filter p).map f)
    (fun k acc m h => by
      obtain ⟨rfl, rfl⟩ := h
      refine ⟨hs, ?_⟩
      rw [List.length_map]
      exact Nat.le_trans (List.length_filter_le _ _) (by rw [List.length_take]; omega)) (le_size' (by simpa using hsz))
    (fun k acc m x hx h => by
      obtain ⟨rfl, rfl⟩ := h
      rw [List.getElem?_map] at hx
      cases e0 : xs[k]? with
      | none => rw [e0] at hx; cases hx
      | some y =>
        rw [e0] at hx
        cases hx
        have hm := List.mem_of_getElem? e0
        refine ⟨_, asg_nm m i (g y) ρ, ?_⟩
        cases hp : p y with
        | true =>
          refine .inl ⟨m, f y, m, by rw [hc y hm, hp], he y hm hp, rfl, ?_⟩
          rw [List.take_succ, e0]
          simp [List.filter_append, hp]
        | false =>
          refine .inr ⟨m, by rw [hc y hm, hp], rfl, ?_⟩
          rw [List.take_succ, e0]
          simp [List.filter_append, hp]) (μ := μ) ⟨rfl, by simp⟩
  rw [h, h2, h3, List.take_of_length_le (by simp)]
theorem lc_each {α : Type} {ls : Sts} {i : Nat} {c : BW.Env → Store → Res Bool} {e : BW.Env → Store → Res PV} {ρ : BW.Env} {μ : Store} (xs : List α) (g f : α → PV) (hs : stand μ ls) (hsz : xs.length ≤ 1000000)
    (hc : ∀ x ∈ xs, c (ρ.set i (some (g x))) μ = .ok true μ) (he : ∀ x ∈ xs, e (ρ.set i (some (g x))) μ = .ok (f x) μ) : lcDen ls ρ (.nm i) c e (xs.map g) [] μ = .ok (xs.map f) μ := by
  rw [lc_genT xs g f (fun _ => true) hs hsz hc fun x hx _ => he x hx, List.filter_eq_self.mpr fun _ _ => rfl]
theorem lit_no : ("" : Str) = txt [] := by decide +kernel
section
variable {P : Prog} {i : Nat}
end
end BW
set_option maxHeartbeats 4000000
/-! Texts read by the program: fractions, points, headings. -/
local macro_rules | `(tactic| walk_at "dv") => `(tactic| first | assumption | exact BW.mulOk_of _ _ (by decide) | exact BW.divOk_of _ _ (by first | decide | assumption | omega) (by decide) | decide | omega | (refine BW.le_size' ?_; first | omega | (simp only [List.length_cons, List.length_nil, List.length_append, List.length_map]; omega)) | simp)
namespace BW
open PySem PySem.Spec PyProof.Rows L2 TL
/-! ### cutting -/
/-! ### what is read -/
def both {α : Type} : Option α → Option α → Option (α × α)
  | some p, some q => some (p, q)
  | _, _ => none
@[simp] theorem both_some {α : Type} (p q : α) : both (some p) (some q) = some (p, q) := rfl
@[simp] theorem both_no {α : Type} (o : Option α) : both none o = none := rfl
@[simp] theorem both_no2 {α : Type} (o : Option α) : both o none = none := by cases o <;> rfl
/-- two parts -/
def two {α : Type} (f : List Nat → Option α) : List (List Nat) → Option (α × α)
  | [a, b] => both (f a) (f b)
  | _ => none
@[simp] theorem two_ {α : Type} (f : List Nat → Option α) (a b : List Nat) : two f [a, b] = both (f a) (f b) := rfl
theorem two_ne {α : Type} {f : List Nat → Option α} : ∀ {l : List (List Nat)}, l.length ≠ 2 → two f l = none
  | [], _ => rfl
  | [_], _ => rfl
  | [_, _], h => absurd rfl h
  | _ :: _ :: _ :: _, _ => rfl
def pt2 (a b : Int) : PV := .tup [.int (a.fdiv (Int.gcd a b)), .int (b.fdiv (Int.gcd a b))]
section
variable {P : Prog} {i : Nat}
end
end BW
set_option maxHeartbeats 4000000
/-! Points and headings read and told by the program. -/
local macro_rules | `(tactic| walk_at "dv") => `(tactic| first | assumption | exact BW.mulOk_of _ _ (by decide) | exact BW.divOk_of _ _ (by first | decide | assumption | omega) (by decide) | decide | omega | (refine BW.le_size' ?_; first | omega | (simp only [List.length_cons, List.length_nil, List.length_append, List.length_map]; omega)) | simp)
namespace BW
open PySem PySem.Spec PyProof.Rows L2 TL
section
variable {P : Prog} {i : Nat}
/-! headings -/
/-! ### told -/
theorem txt_app (a b : List Nat) : txt a ++ txt b = txt (a ++ b) := ext_tl (by rw [tl_append]; rfl)
theorem add_t (μ : Store) (a b : List Nat) (h : a.length + b.length ≤ 1000000) : binV .add (.str (txt a)) (.str (txt b)) μ = .ok (.str (txt (a ++ b))) μ := by
  rw [add_s μ _ _ (by rw [len_txt, len_txt]; exact h), txt_app]
end
end BW
set_option maxHeartbeats 4000000
/-! Texts by a law's own look. -/
local macro_rules | `(tactic| walk_at "dv") => `(tactic| first | assumption | exact BW.mulOk_of _ _ (by decide) | exact BW.divOk_of _ _ (by first | decide | assumption | omega) (by decide) | decide | omega | (refine BW.le_size' ?_; first | omega | (simp only [List.length_cons, List.length_nil, List.length_append, List.length_map]; omega)) | simp)
namespace BW
open PySem PySem.Spec PyProof.Rows L2 TL
/-- a loop of calls: the store grows -/
theorem lc_gr {α : Type} {ls : Sts} {i : Nat} {e : BW.Env → Store → Res PV} {ρ : BW.Env} {μ : Store} (xs : List α) (g f : α → PV) (hs : ∀ m, Gr μ m → stand m ls) (hsz : xs.length ≤ 1000000)
    (he : ∀ x ∈ xs, ∀ m, Gr μ m → ∃ m', e (ρ.set i (some (g x))) m = .ok (f x) m' ∧ Gr m m') : ∃ μ', lcDen ls ρ (.nm i) (fun _ m => .ok true m) e (xs.map g) [] μ = .ok (xs.map f) μ' ∧ Gr μ μ' := by
  obtain ⟨acc, μ', h, h2, h3⟩ := lc_run (ls := ls) (t := .nm i) (c := fun _ m => .ok true m) (e := e) (items := xs.map g) (ρ := ρ) (fun k acc m => Gr μ m ∧ acc = (xs.take k).map f)
    (fun k acc m h => by
      obtain ⟨G, rfl⟩ := h
      refine ⟨hs m G, ?_⟩
      rw [List.length_map, List.length_take]
      omega) (le_size' (by simpa using hsz))
    (fun k acc m x hx h => by
      obtain ⟨G, rfl⟩ := h
      rw [List.getElem?_map] at hx
      cases e0 : xs[k]? with
      | none => rw [e0] at hx; cases hx
      | some y =>
        rw [e0] at hx
        cases hx
        obtain ⟨m', e1, G1⟩ := he y (List.mem_of_getElem? e0) m G
        refine ⟨_, asg_nm m i (g y) ρ, .inl ⟨m, f y, m', rfl, e1, G.trans G1, ?_⟩⟩
        rw [List.take_succ, e0]
        simp) (μ := μ) ⟨Gr.refl, by simp⟩
  exact ⟨μ', by rw [h, h3, List.take_of_length_le (by simp)], h2⟩
section
variable {P : Prog} {i : Nat}
end
end BW
set_option maxHeartbeats 8000000
/-! Drawn walls: told in short, their pieces, such as share none. -/
local macro_rules | `(tactic| walk_at "dv") => `(tactic| first | assumption | (apply_assumption; done) | exact BW.mulOk_of _ _ (by decide) | exact BW.divOk_of _ _ (by first | decide | assumption | omega) (by decide) | decide | omega | (refine BW.le_size' ?_; first | omega | (simp only [List.length_cons, List.length_nil, List.length_append, List.length_map]; omega)) | simp)
namespace BW
open PySem PySem.Spec PyProof.Rows L2
section
variable {P : Prog} {i : Nat}
structure Td where
  k : Int
  x : Int
  y : Int
  L : Int
  t : Int
  e : Int
def Td.wd (d : Td) : Wd := if d.t < 2 then .mir else if d.t = 2 then .gla else if d.t = 3 then .hol else .dor
def Td.f (d : Td) : Fnc := ⟨d.wd, d.e, d.x, d.y, d.k, d.L⟩
def Td.kd (d : Td) : Kd := d.wd.kd d.e
def Td.sp (d : Td) : W4 × Kd := (d.f.w4, d.kd)
structure Td.Ok (d : Td) : Prop where
  k0 : 0 ≤ d.k
  k4 : d.k < 4
  L0 : 1 ≤ d.L
  L1 : d.L ≤ 2000
  x0 : -1000 ≤ d.x
  x1 : d.x ≤ 1000
  y0 : -1000 ≤ d.y
  y1 : d.y ≤ 1000
  u0 : -1000 ≤ d.f.u
  u1 : d.f.u ≤ 1000
  v0 : -1000 ≤ d.f.v
  v1 : d.f.v ≤ 1000
  t0 : 0 ≤ d.t
  t1 : d.t < 5
  e0 : 1 ≤ d.e
  e1 : d.e ≤ 9
theorem Td.Ok.ln {d : Td} (h : d.Ok) : d.f.Ln := ⟨h.k0, h.k4, h.L0⟩
theorem Td.Ok.wl {d : Td} (h : d.Ok) : Wl d.f.w4.x d.f.w4.y d.f.w4.u d.f.w4.v d.k := by
  have := h.u0
  have := h.u1
  have := h.v0
  have := h.v1
  have L := h.L0
  have k0 := h.k0
  have k4 := h.k4
  have := h.x0
  have := h.x1
  have := h.y0
  have := h.y1
  have e1 : d.f.u = d.x + d.L * unitX d.k := rfl
  have e2 : d.f.v = d.y + d.L * unitY d.k := rfl
  refine ⟨?_, ?_, far_no (a := d.x) (b := d.y) (by omega) (by omega) (by omega) (by omega), far_no (a := d.f.u) (b := d.f.v) (by omega) (by omega) (by omega) (by omega)⟩
  · show d.x < d.f.u ∨ (d.x = d.f.u ∧ d.y < d.f.v)
    rw [e1, e2]
    rcases (show d.k = 0 ∨ d.k = 1 ∨ d.k = 2 ∨ d.k = 3 by omega) with e | e | e | e <;> rw [e] <;> simp [unitX, unitY] <;> omega
  · show lineB (d.f.u - d.x) (d.f.v - d.y) = some d.k
    have a1 : d.f.u - d.x = d.L * unitX d.k := by rw [e1]; omega
    have a2 : d.f.v - d.y = d.L * unitY d.k := by rw [e2]; omega
    rw [a1, a2]
    exact line_k k0 k4 L
theorem Td.Ok.kok {d : Td} (h : d.Ok) : d.kd.ok := by
  have := h.e0
  have := h.e1
  unfold Td.kd
  cases d.wd <;> first | exact trivial | exact ⟨by assumption, by assumption⟩
def fPiecesQ (un : Nat) : Fn := ⟨3, 1, [.set 1 (.call un [.idx (.var 0) (.con (.int 0))]), .ret (.lc (.tup [.bin .add (.idx (.var 0) (.con (.int 1))) (.bin .mul (.var 2) (.idx (.var 1) (.con (.int 0)))), .bin .add (.idx (.var 0) (.con (.int 2))) (.bin .mul (.var 2) (.idx (.var 1) (.con (.int 1)))), .idx (.var 0) (.con (.int 0))]) (.nm 2) (.rng [.idx (.var 0) (.con (.int 3))]) none [2])]⟩
def Shr (a b : Td) : Prop := ∃ q, q ∈ a.f.ps ∧ q ∈ b.f.ps
def Ap (tds : List Td) (k : Nat) : Prop := ∀ (i j : Nat) (a b : Td), i < j → j < k → tds[i]? = some a → tds[j]? = some b → ¬ Shr a b
theorem ps_len {d : Td} (h : d.Ok) : d.f.ps.length ≤ 2000 := by
  unfold Fnc.ps
  rw [pieces_len]
  have : d.f.L = d.L := rfl
  rw [this]
  have := h.L1
  omega
def fGoodQ (pc : Nat) : Fn := ⟨5, 1, [.set 1 .dic, .set 2 (.lst []), .for (.nm 3) (.seq (.var 0)) [.ifs (.val (.cmp .eq (.lc (.var 4) (.nm 4) (.seq (.call pc [.var 3])) (some (.val (.cmp .inn (.var 4) (.var 1)))) [4]) (.lst []))) [.ex (.bm .append (.var 2) [.var 3]), .for (.nm 4) (.seq (.call pc [.var 3])) [.sub (.var 1) (.var 4) (.con (.bl true))]] []], .ret (.var 2)]⟩
end
end BW
set_option maxHeartbeats 8000000
/-! Drawings: the signs at the places, by the walls through there. -/
namespace BW
open PySem PySem.Spec PyProof.Rows L2
def spotV (d : Td) (j : Nat) : List Int := [d.x + (j : Int) * unitX d.k, d.y + (j : Int) * unitY d.k]
def halfV (d : Td) (j : Nat) : List Int := [2 * d.x + (2 * (j : Int) + 1) * unitX d.k, 2 * d.y + (2 * (j : Int) + 1) * unitY d.k]
theorem Td.Ok.k_cases {d : Td} (h : d.Ok) : (d.k = 0 ∧ unitX d.k = 1 ∧ unitY d.k = 0) ∨ (d.k = 1 ∧ unitX d.k = 1 ∧ unitY d.k = 1) ∨ (d.k = 2 ∧ unitX d.k = 0 ∧ unitY d.k = 1) ∨ (d.k = 3 ∧ unitX d.k = 1 ∧ unitY d.k = -1) := by
  have h0 := h.k0
  have h4 := h.k4
  rcases (show d.k = 0 ∨ d.k = 1 ∨ d.k = 2 ∨ d.k = 3 by omega) with e | e | e | e <;> rw [e] <;> decide
theorem pair_eq {a b c d : Int} : [a, b] = [c, d] ↔ a = c ∧ b = d := by
  constructor
  · intro h; cases h; exact ⟨rfl, rfl⟩
  · rintro ⟨rfl, rfl⟩; rfl
theorem spot_inj {d : Td} (h : d.Ok) {i j : Nat} (e : spotV d i = spotV d j) : i = j := by
  unfold spotV at e
  rw [pair_eq] at e
  obtain ⟨e1, e2⟩ := e
  rcases h.k_cases with ⟨_, a, b⟩ | ⟨_, a, b⟩ | ⟨_, a, b⟩ | ⟨_, a, b⟩ <;> rw [a] at e1 <;> rw [b] at e2 <;> omega
theorem half_inj {d : Td} (h : d.Ok) {i j : Nat} (e : halfV d i = halfV d j) : i = j := by
  unfold halfV at e
  rw [pair_eq] at e
  obtain ⟨e1, e2⟩ := e
  rcases h.k_cases with ⟨_, a, b⟩ | ⟨_, a, b⟩ | ⟨_, a, b⟩ | ⟨_, a, b⟩ <;> rw [a] at e1 <;> rw [b] at e2 <;> omega
theorem spot_shr {d e : Td} {i j : Nat} (hk : d.k = e.k) (hi : (i : Int) < d.L) (hj : (j : Int) < e.L) (h : spotV d i = spotV e j) : Shr d e := by
  unfold spotV at h
  rw [pair_eq] at h
  obtain ⟨h1, h2⟩ := h
  refine ⟨[d.x + (i : Int) * unitX d.k, d.y + (i : Int) * unitY d.k, d.k], ?_, ?_⟩
  · exact piece_mem (x := d.x) (y := d.y) (k := d.k) (L := d.L.toNat) i (by omega) rfl
  · rw [h1, h2, hk]
    exact piece_mem (x := e.x) (y := e.y) (k := e.k) (L := e.L.toNat) j (by omega) rfl
theorem half_shr {d e : Td} (hd : d.Ok) {i j : Nat} (hk : d.k = e.k) (hi : (i : Int) < d.L) (hj : (j : Int) < e.L) (h : halfV d i = halfV e j) : Shr d e := by
  refine spot_shr hk hi hj ?_
  unfold halfV at h
  rw [pair_eq] at h
  obtain ⟨h1, h2⟩ := h
  unfold spotV
  rw [pair_eq]
  rw [← hk] at h1 h2 ⊢
  rcases hd.k_cases with ⟨_, a, b⟩ | ⟨_, a, b⟩ | ⟨_, a, b⟩ | ⟨_, a, b⟩ <;> rw [a] at h1 ⊢ <;> rw [b] at h2 ⊢ <;> omega
/-! ### which walls go through a place, counted in halves -/
def holdsQ (d : Td) (X Y : Int) : Prop := (X - 2 * d.x) * unitY d.k = (Y - 2 * d.y) * unitX d.k ∧ 0 ≤ (if d.k = 2 then Y - 2 * d.y else X - 2 * d.x) ∧ (if d.k = 2 then Y - 2 * d.y else X - 2 * d.x) ≤ 2 * d.L
instance (d : Td) (X Y : Int) : Decidable (holdsQ d X Y) := inferInstanceAs (Decidable (_ ∧ _ ∧ _))
theorem holds_even {d : Td} (h : d.Ok) (a b : Int) : holdsQ d (2 * a) (2 * b) ↔ ∃ i : Nat, (i : Int) ≤ d.L ∧ spotV d i = [a, b] := by
  unfold holdsQ spotV
  have hL := h.L0
  constructor
  · rintro ⟨h1, h2, h3⟩
    rcases h.k_cases with ⟨e, u, v⟩ | ⟨e, u, v⟩ | ⟨e, u, v⟩ | ⟨e, u, v⟩
    · rw [if_neg (by omega)] at h2 h3
      rw [u, v] at h1 ⊢
      exact ⟨(a - d.x).toNat, by omega, by rw [pair_eq]; omega⟩
    · rw [if_neg (by omega)] at h2 h3
      rw [u, v] at h1 ⊢
      exact ⟨(a - d.x).toNat, by omega, by rw [pair_eq]; omega⟩
    · rw [if_pos e] at h2 h3
      rw [u, v] at h1 ⊢
      exact ⟨(b - d.y).toNat, by omega, by rw [pair_eq]; omega⟩
    · rw [if_neg (by omega)] at h2 h3
      rw [u, v] at h1 ⊢
      exact ⟨(a - d.x).toNat, by omega, by rw [pair_eq]; omega⟩
  · rintro ⟨i, h1, h2⟩
    rw [pair_eq] at h2
    obtain ⟨h2, h3⟩ := h2
    rcases h.k_cases with ⟨e, u, v⟩ | ⟨e, u, v⟩ | ⟨e, u, v⟩ | ⟨e, u, v⟩
    · rw [if_neg (by omega)]
      rw [u] at h2 ⊢; rw [v] at h3 ⊢
      refine ⟨?_, ?_, ?_⟩ <;> omega
    · rw [if_neg (by omega)]
      rw [u] at h2 ⊢; rw [v] at h3 ⊢
      refine ⟨?_, ?_, ?_⟩ <;> omega
    · rw [if_pos e]
      rw [u] at h2 ⊢; rw [v] at h3 ⊢
      refine ⟨?_, ?_, ?_⟩ <;> omega
    · rw [if_neg (by omega)]
      rw [u] at h2 ⊢; rw [v] at h3 ⊢
      refine ⟨?_, ?_, ?_⟩ <;> omega
theorem holds_odd {d : Td} (h : d.Ok) {X Y : Int} (o : X.fmod 2 = 1 ∨ Y.fmod 2 = 1) : holdsQ d X Y ↔ ∃ i : Nat, (i : Int) < d.L ∧ halfV d i = [X, Y] := by
  unfold holdsQ halfV
  have hL := h.L0
  have oo : X % 2 = 1 ∨ Y % 2 = 1 := by
    rw [Int.fmod_eq_emod_of_nonneg _ (by decide), Int.fmod_eq_emod_of_nonneg _ (by decide)] at o
    exact o
  constructor
  · rintro ⟨h1, h2, h3⟩
    rcases h.k_cases with ⟨e, u, v⟩ | ⟨e, u, v⟩ | ⟨e, u, v⟩ | ⟨e, u, v⟩
    · rw [if_neg (by omega)] at h2 h3
      rw [u, v] at h1 ⊢
      exact ⟨((X - 2 * d.x) / 2).toNat, by omega, by rw [pair_eq]; omega⟩
    · rw [if_neg (by omega)] at h2 h3
      rw [u, v] at h1 ⊢
      exact ⟨((X - 2 * d.x) / 2).toNat, by omega, by rw [pair_eq]; omega⟩
    · rw [if_pos e] at h2 h3
      rw [u, v] at h1 ⊢
      exact ⟨((Y - 2 * d.y) / 2).toNat, by omega, by rw [pair_eq]; omega⟩
    · rw [if_neg (by omega)] at h2 h3
      rw [u, v] at h1 ⊢
      exact ⟨((X - 2 * d.x) / 2).toNat, by omega, by rw [pair_eq]; omega⟩
  · rintro ⟨i, h1, h2⟩
    rw [pair_eq] at h2
    obtain ⟨h2, h3⟩ := h2
    rcases h.k_cases with ⟨e, u, v⟩ | ⟨e, u, v⟩ | ⟨e, u, v⟩ | ⟨e, u, v⟩
    · rw [if_neg (by omega)]
      rw [u] at h2 ⊢; rw [v] at h3 ⊢
      refine ⟨?_, ?_, ?_⟩ <;> omega
    · rw [if_neg (by omega)]
      rw [u] at h2 ⊢; rw [v] at h3 ⊢
      refine ⟨?_, ?_, ?_⟩ <;> omega
    · rw [if_pos e]
      rw [u] at h2 ⊢; rw [v] at h3 ⊢
      refine ⟨?_, ?_, ?_⟩ <;> omega
    · rw [if_neg (by omega)]
      rw [u] at h2 ⊢; rw [v] at h3 ⊢
      refine ⟨?_, ?_, ?_⟩ <;> omega
/-! ### the bits at whole points -/
def contrib (d : Td) (j : Nat) : Nat := ((if (j : Int) < d.L then 2 ^ d.k.toNat else 0) ||| (if 0 < j then 16 * 2 ^ d.k.toNat else 0)) ||| (if j = 0 ∨ (j : Int) = d.L then 256 else 0)
def addM (d : Td) : Nat → (List Int → Nat) → List Int → Nat
  | 0, f => f
  | m + 1, f => fun p => if p = spotV d m then addM d m f p ||| contrib d m else addM d m f p
def masksF (tds : List Td) (f : List Int → Nat) : List Int → Nat := tds.foldl (fun f d => addM d (d.L.toNat + 1) f) f
theorem addM_bit (d : Td) (f : List Int → Nat) (p : List Int) (b : Nat) : ∀ m, (addM d m f p).testBit b = true ↔ (f p).testBit b = true ∨ ∃ i, i < m ∧ spotV d i = p ∧ (contrib d i).testBit b = true
  | 0 => by
    unfold addM
    constructor
    · exact .inl
    · rintro (z | ⟨i, z, _⟩)
      · exact z
      · exact absurd z (Nat.not_lt_zero _)
  | m + 1 => by
    unfold addM
    have ih := addM_bit d f p b m
    by_cases hp : p = spotV d m
    · rw [if_pos hp, Nat.testBit_or, Bool.or_eq_true, ih]
      constructor
      · rintro ((z | ⟨i, z1, z2⟩) | z)
        · exact .inl z
        · exact .inr ⟨i, by omega, z2⟩
        · exact .inr ⟨m, by omega, hp.symm, z⟩
      · rintro (z | ⟨i, z1, z2, z3⟩)
        · exact .inl (.inl z)
        · rcases (show i < m ∨ i = m by omega) with q | q
          · exact .inl (.inr ⟨i, q, z2, z3⟩)
          · rw [q] at z3; exact .inr z3
    · rw [if_neg hp, ih]
      constructor
      · rintro (z | ⟨i, z1, z2⟩)
        · exact .inl z
        · exact .inr ⟨i, by omega, z2⟩
      · rintro (z | ⟨i, z1, z2, z3⟩)
        · exact .inl z
        · rcases (show i < m ∨ i = m by omega) with q | q
          · exact .inr ⟨i, q, z2, z3⟩
          · rw [q] at z2; exact absurd z2.symm hp
theorem masks_bit (p : List Int) (b : Nat) : ∀ (tds : List Td) (f : List Int → Nat), (∀ d ∈ tds, d.Ok) → ((masksF tds f p).testBit b = true ↔ (f p).testBit b = true ∨ ∃ d ∈ tds, ∃ i : Nat, (i : Int) ≤ d.L ∧ spotV d i = p ∧ (contrib d i).testBit b = true)
  | [], f, _ => by
    unfold masksF
    constructor
    · exact .inl
    · rintro (z | ⟨d, z, _⟩)
      · exact z
      · cases z
  | d :: tds, f, h => by
    have ih := masks_bit p b tds (addM d (d.L.toNat + 1) f) fun e he => h e (List.mem_cons_of_mem _ he)
    have hL := (h d List.mem_cons_self).L0
    unfold masksF at ih ⊢
    rw [List.foldl_cons, ih, addM_bit]
    constructor
    · rintro ((z | ⟨i, z1, z2⟩) | ⟨e, z1, z2⟩)
      · exact .inl z
      · exact .inr ⟨d, List.mem_cons_self, i, by omega, z2⟩
      · exact .inr ⟨e, List.mem_cons_of_mem _ z1, z2⟩
    · rintro (z | ⟨e, z1, i, z2⟩)
      · exact .inl (.inl z)
      · rcases List.mem_cons.mp z1 with q | q
        · rw [q] at z2; exact .inl (.inr ⟨i, by omega, z2.2⟩)
        · exact .inr ⟨e, q, i, z2⟩
/-! ### the signs -/
def sgnC (k : Int) : Nat := if k = 0 then 45 else if k = 1 then 47 else if k = 2 then 124 else 92
def signB (b : Nat) : Nat := if b = 0 then 46 else if b = 17 then 45 else if b = 34 then 47 else if b = 68 then 124 else if b = 136 then 92 else 43
theorem contrib_end {d : Td} {i : Nat} (hi : i = 0 ∨ (i : Int) = d.L) : (contrib d i).testBit 8 = true := by
  unfold contrib
  rw [Nat.testBit_or, if_pos hi, Bool.or_eq_true]
  exact .inr (by decide)
theorem contrib_pos {d : Td} (h : d.Ok) {i : Nat} (hi : (i : Int) ≤ d.L) : ∃ b, (contrib d i).testBit b = true := by
  have hL := h.L0
  unfold contrib
  by_cases z : i = 0
  · refine ⟨8, ?_⟩
    exact contrib_end (.inl z)
  · refine ⟨d.k.toNat + 4, ?_⟩
    rw [Nat.testBit_or, Nat.testBit_or, if_pos (show 0 < i by omega), Bool.or_eq_true, Bool.or_eq_true]
    refine .inl (.inr ?_)
    rw [show 16 * 2 ^ d.k.toNat = 2 ^ (d.k.toNat + 4) by rw [Nat.pow_add]; omega]
    exact Nat.testBit_two_pow_self
theorem contrib_in {d : Td} (h : d.Ok) {i : Nat} (hi : i ≠ 0) (hL : (i : Int) < d.L) : contrib d i = 17 * 2 ^ d.k.toNat := by
  unfold contrib
  rw [if_pos hL, if_pos (show 0 < i by omega), if_neg (by omega), Nat.or_zero]
  rcases h.k_cases with ⟨e, _⟩ | ⟨e, _⟩ | ⟨e, _⟩ | ⟨e, _⟩ <;> rw [e] <;> decide
theorem sign_in {d : Td} (h : d.Ok) : signB (17 * 2 ^ d.k.toNat) = sgnC d.k := by
  rcases h.k_cases with ⟨e, _⟩ | ⟨e, _⟩ | ⟨e, _⟩ | ⟨e, _⟩ <;> rw [e] <;> decide
theorem sign_bit8 {b : Nat} (h : b.testBit 8 = true) : signB b = 43 := by
  unfold signB
  rw [if_neg, if_neg, if_neg, if_neg, if_neg] <;> (intro e; rw [e] at h; revert h; decide)
theorem sign_two {b i j : Nat} (hi : i < 4) (hj : j < 4) (ne : i ≠ j) (h1 : b.testBit i = true) (h2 : b.testBit j = true) : signB b = 43 := by
  have key : ∀ c, (c = 0 ∨ c = 17 ∨ c = 34 ∨ c = 68 ∨ c = 136) → b ≠ c := by
    rintro c hc rfl
    have hi' : i = 0 ∨ i = 1 ∨ i = 2 ∨ i = 3 := by omega
    have hj' : j = 0 ∨ j = 1 ∨ j = 2 ∨ j = 3 := by omega
    rcases hc with rfl | rfl | rfl | rfl | rfl <;> rcases hi' with rfl | rfl | rfl | rfl <;> rcases hj' with rfl | rfl | rfl | rfl <;> first | exact ne rfl | exact absurd h1 (by decide) | exact absurd h2 (by decide)
  unfold signB
  rw [if_neg (key 0 (by omega)), if_neg (key 17 (by omega)), if_neg (key 34 (by omega)), if_neg (key 68 (by omega)), if_neg (key 136 (by omega))]
/-! ### the signs halfway -/
def halfAt (d : Td) (p : List Int) : Prop := ∃ i : Nat, (i : Int) < d.L ∧ halfV d i = p
def addH (d : Td) : Nat → (List Int → Option Nat) → List Int → Option Nat
  | 0, f => f
  | m + 1, f => fun p => if p = halfV d m then some (if addH d m f p = none then sgnC d.k else 88) else addH d m f p
def halvesF (tds : List Td) (f : List Int → Option Nat) : List Int → Option Nat := tds.foldl (fun f d => addH d d.L.toNat f) f
open Classical in
theorem addH_spec {d : Td} (h : d.Ok) (f : List Int → Option Nat) (p : List Int) : ∀ m, addH d m f p = if ∃ i, i < m ∧ halfV d i = p then some (if f p = none then sgnC d.k else 88) else f p
  | 0 => by
    unfold addH
    rw [if_neg (by rintro ⟨i, z, _⟩; exact absurd z (Nat.not_lt_zero _))]
  | m + 1 => by
    unfold addH
    have ih := addH_spec h f p m
    by_cases hp : p = halfV d m
    · have no : ¬ ∃ i, i < m ∧ halfV d i = p := by
        rintro ⟨i, z1, z2⟩
        have := half_inj h (z2.trans hp)
        omega
      rw [if_neg no] at ih
      have q : ∃ i, i < m + 1 ∧ halfV d i = p := ⟨m, by omega, hp.symm⟩
      rw [if_pos hp, if_pos q, ih]
    · rw [if_neg hp, ih]
      by_cases z : ∃ i, i < m ∧ halfV d i = p
      · have q : ∃ i, i < m + 1 ∧ halfV d i = p := by
          obtain ⟨i, z1, z2⟩ := z
          exact ⟨i, by omega, z2⟩
        rw [if_pos z, if_pos q]
      · have q : ¬ ∃ i, i < m + 1 ∧ halfV d i = p := by
          rintro ⟨i, z1, z2⟩
          rcases (show i < m ∨ i = m by omega) with q | q
          · exact z ⟨i, q, z2⟩
          · rw [q] at z2; exact hp z2.symm
        rw [if_neg z, if_neg q]
def hs3 (o : Option Nat) : List Td → Option Nat
  | [] => o
  | [d] => some (if o = none then sgnC d.k else 88)
  | _ :: _ :: _ => some 88
open Classical in
theorem halves_spec (p : List Int) : ∀ (tds : List Td) (f : List Int → Option Nat), (∀ d ∈ tds, d.Ok) → halvesF tds f p = hs3 (f p) (tds.filter fun d => decide (halfAt d p))
  | [], f, _ => rfl
  | d :: tds, f, h => by
    have ih := halves_spec p tds (addH d d.L.toNat f) fun e he => h e (List.mem_cons_of_mem _ he)
    have hd := h d List.mem_cons_self
    have hL := hd.L0
    unfold halvesF at ih ⊢
    rw [List.foldl_cons, ih, addH_spec hd]
    by_cases z : halfAt d p
    · rw [List.filter_cons_of_pos (by simpa using z), if_pos (by obtain ⟨i, z1, z2⟩ := z; exact ⟨i, by omega, z2⟩)]
      cases List.filter (fun d => decide (halfAt d p)) tds with
      | nil => rfl
      | cons e r => cases r <;> simp [hs3]
    · rw [List.filter_cons_of_neg (by simpa using z), if_neg (by rintro ⟨i, z1, z2⟩; exact z ⟨i, by omega, z2⟩)]
/-! ### what is drawn -/
def onQ (tds : List Td) (X Y : Int) : List Td := tds.filter fun d => decide (holdsQ d X Y)
def endAt (d : Td) (p : List Int) : Prop := p = spotV d 0 ∨ p = spotV d d.L.toNat
instance (d : Td) (p : List Int) : Decidable (endAt d p) := inferInstanceAs (Decidable (_ ∨ _))
def lawSign (tds : List Td) (X Y : Int) : Nat :=
  if X.fmod 2 = 1 ∨ Y.fmod 2 = 1 then (match onQ tds X Y with
    | [] => 32
    | [d] => sgnC d.k
    | _ :: _ :: _ => 88)
  else (match onQ tds X Y with
    | [] => 46
    | [d] => if endAt d [X.fdiv 2, Y.fdiv 2] then 43 else sgnC d.k
    | _ :: _ :: _ => 43)
def progSign (tds : List Td) (X Y : Int) : Nat :=
  if X.fmod 2 = 0 ∧ Y.fmod 2 = 0 then signB (masksF tds (fun _ => 0) [X.fdiv 2, Y.fdiv 2]) else (halvesF tds (fun _ => none) [X, Y]).getD 32
theorem fmod2 (X : Int) : X.fmod 2 = 0 ∨ X.fmod 2 = 1 := by
  have a := Int.fmod_nonneg_of_pos X (show (0 : Int) < 2 by decide)
  have b := Int.fmod_lt_of_pos X (show (0 : Int) < 2 by decide)
  omega
def PwN (tds : List Td) : Prop := tds.Pairwise fun a b => ¬ Shr a b
theorem ap_pw {tds : List Td} (h : Ap tds tds.length) : PwN tds := by
  unfold PwN
  rw [List.pairwise_iff_getElem]
  intro i j hi hj hij
  exact h i j _ _ hij hj (List.getElem?_eq_getElem hi) (List.getElem?_eq_getElem hj)
/-- halfway at most two walls go through a place -/
theorem on_two {tds : List Td} (hok : ∀ d ∈ tds, d.Ok) (pw : PwN tds) {X Y : Int} (o : X.fmod 2 = 1 ∨ Y.fmod 2 = 1) : (onQ tds X Y).length ≤ 2 := by
  have hm : ∀ d ∈ onQ tds X Y, d ∈ tds ∧ holdsQ d X Y := fun d hd => by
    obtain ⟨h1, h2⟩ := List.mem_filter.mp hd
    exact ⟨h1, by simpa using h2⟩
  have pw2 : (onQ tds X Y).Pairwise fun a b => ¬ Shr a b := List.Pairwise.filter _ pw
  have oo : X % 2 = 1 ∨ Y % 2 = 1 := by
    rw [Int.fmod_eq_emod_of_nonneg _ (by decide), Int.fmod_eq_emod_of_nonneg _ (by decide)] at o
    exact o
  have two : ∀ d e : Td, d ∈ onQ tds X Y → e ∈ onQ tds X Y → ¬ Shr d e → d.k ≠ e.k := fun d e hd he ns hk => by
    obtain ⟨d1, d2⟩ := hm d hd
    obtain ⟨e1, e2⟩ := hm e he
    obtain ⟨i, i1, i2⟩ := (holds_odd (hok d d1) o).mp d2
    obtain ⟨j, j1, j2⟩ := (holds_odd (hok e e1) o).mp e2
    exact ns (half_shr (hok d d1) hk i1 j1 (i2.trans j2.symm))
  have par : ∀ d : Td, d ∈ onQ tds X Y → (d.k = 0 ∧ X % 2 = 1 ∧ Y % 2 = 0) ∨ (d.k = 2 ∧ X % 2 = 0 ∧ Y % 2 = 1) ∨ (d.k = 1 ∧ X % 2 = 1 ∧ Y % 2 = 1) ∨ (d.k = 3 ∧ X % 2 = 1 ∧ Y % 2 = 1) := fun d hd => by
    obtain ⟨d1, d2⟩ := hm d hd
    obtain ⟨i, i1, i2⟩ := (holds_odd (hok d d1) o).mp d2
    unfold halfV at i2
    rw [pair_eq] at i2
    obtain ⟨i2, i3⟩ := i2
    rcases (hok d d1).k_cases with ⟨e, u, v⟩ | ⟨e, u, v⟩ | ⟨e, u, v⟩ | ⟨e, u, v⟩ <;> rw [u] at i2 <;> rw [v] at i3 <;> omega
  generalize onQ tds X Y = l at *
  match l, pw2 with
  | [], _ => exact Nat.zero_le _
  | [_], _ => simp
  | [_, _], _ => exact Nat.le_refl _
  | a :: b :: c :: r, pw2 =>
    exfalso
    rw [List.pairwise_cons, List.pairwise_cons] at pw2
    obtain ⟨p1, p2, _⟩ := pw2
    have n1 := two a b (by simp) (by simp) (p1 b (by simp))
    have n2 := two a c (by simp) (by simp) (p1 c (by simp))
    have n3 := two b c (by simp) (by simp) (p2 c (by simp))
    have q1 := par a (by simp)
    have q2 := par b (by simp)
    have q3 := par c (by simp)
    omega
theorem sign_eq {tds : List Td} (hok : ∀ d ∈ tds, d.Ok) (pw : PwN tds) (X Y : Int) : progSign tds X Y = lawSign tds X Y := by
  classical
  have hm : ∀ d ∈ onQ tds X Y, d ∈ tds ∧ holdsQ d X Y := fun d hd => by
    obtain ⟨h1, h2⟩ := List.mem_filter.mp hd
    exact ⟨h1, by simpa using h2⟩
  have pw2 : (onQ tds X Y).Pairwise fun a b => ¬ Shr a b := List.Pairwise.filter _ pw
  unfold progSign lawSign
  by_cases o : X.fmod 2 = 1 ∨ Y.fmod 2 = 1
  · rw [if_neg (by omega), if_pos o]
    have two := on_two hok pw o
    have hf : (tds.filter fun d => decide (halfAt d [X, Y])) = onQ tds X Y := by
      unfold onQ
      refine List.filter_congr fun d hd => ?_
      rw [decide_eq_decide]
      exact (holds_odd (hok d hd) o).symm
    rw [halves_spec _ _ _ hok, hf]
    match h : onQ tds X Y with
    | [] => rfl
    | [d] => rfl
    | _ :: _ :: _ => rfl
  · have o1 := fmod2 X
    have o2 := fmod2 Y
    rw [if_pos (by omega), if_neg o]
    obtain ⟨a, ha⟩ : ∃ a, a = X.fdiv 2 := ⟨_, rfl⟩
    obtain ⟨b, hb⟩ : ∃ b, b = Y.fdiv 2 := ⟨_, rfl⟩
    have hX : X = 2 * a := by have := fmod_eq X 2; omega
    have hY : Y = 2 * b := by have := fmod_eq Y 2; omega
    rw [← ha, ← hb]
    have hon : ∀ d ∈ tds, (d ∈ onQ tds X Y ↔ ∃ i : Nat, (i : Int) ≤ d.L ∧ spotV d i = [a, b]) := fun d hd => by
      rw [← holds_even (hok d hd), ← hX, ← hY]
      unfold onQ
      rw [List.mem_filter]
      simp [hd]
    have hb' := fun c => masks_bit [a, b] c tds (fun _ => 0) hok
    match h : onQ tds X Y with
    | [] =>
      have e0 : masksF tds (fun _ => 0) [a, b] = 0 := by
        refine Nat.eq_of_testBit_eq fun c => ?_
        rw [Nat.zero_testBit, Bool.eq_false_iff]
        intro z
        rw [hb', Nat.zero_testBit] at z
        rcases z with z | ⟨d, z1, i, z2, z3, z4⟩
        · cases z
        · have := (hon d z1).mpr ⟨i, z2, z3⟩
          rw [h] at this; cases this
      rw [e0]; rfl
    | [d] =>
      have hd : d ∈ onQ tds X Y := by rw [h]; exact List.mem_cons_self
      have dt := (hm d hd).1
      obtain ⟨i, i1, i2⟩ := (hon d dt).mp hd
      have e0 : masksF tds (fun _ => 0) [a, b] = contrib d i := by
        refine Nat.eq_of_testBit_eq fun c => ?_
        rw [Bool.eq_iff_iff, hb', Nat.zero_testBit]
        constructor
        · rintro (z | ⟨e, z1, j, z2, z3, z4⟩)
          · cases z
          · have he := (hon e z1).mpr ⟨j, z2, z3⟩
            rw [h] at he
            rw [List.mem_singleton.mp he] at z3 z4
            have := spot_inj (hok d dt) (z3.trans i2.symm)
            rw [this] at z4
            exact z4
        · exact fun z => .inr ⟨d, dt, i, i1, i2, z⟩
      rw [e0]
      dsimp only
      have hE : endAt d [a, b] ↔ (i = 0 ∨ (i : Int) = d.L) := by
        unfold endAt
        rw [← i2]
        have hL := (hok d dt).L0
        constructor
        · rintro (z | z)
          · exact .inl (spot_inj (hok d dt) z)
          · have := spot_inj (hok d dt) z
            exact .inr (by omega)
        · rintro (z | z)
          · rw [z]; exact .inl rfl
          · have : i = d.L.toNat := by omega
            rw [this]; exact .inr rfl
      by_cases z : i = 0 ∨ (i : Int) = d.L
      · rw [if_pos (hE.mpr z), sign_bit8 (contrib_end z)]
      · rw [if_neg (fun q => z (hE.mp q)), contrib_in (hok d dt) (by omega) (by omega), sign_in (hok d dt)]
    | d :: e :: r =>
      have hd : d ∈ onQ tds X Y := by rw [h]; simp
      have he : e ∈ onQ tds X Y := by rw [h]; simp
      have dt := (hm d hd).1
      have et := (hm e he).1
      rw [h, List.pairwise_cons] at pw2
      have ns := pw2.1 e (by simp)
      obtain ⟨i, i1, i2⟩ := (hon d dt).mp hd
      obtain ⟨j, j1, j2⟩ := (hon e et).mp he
      dsimp only
      have up : ∀ c, (contrib d i).testBit c = true → (masksF tds (fun _ => 0) [a, b]).testBit c = true := fun c z => (hb' c).mpr (.inr ⟨d, dt, i, i1, i2, z⟩)
      have up2 : ∀ c, (contrib e j).testBit c = true → (masksF tds (fun _ => 0) [a, b]).testBit c = true := fun c z => (hb' c).mpr (.inr ⟨e, et, j, j1, j2, z⟩)
      by_cases z : i = 0 ∨ (i : Int) = d.L
      · exact sign_bit8 (up 8 (contrib_end z))
      by_cases z2 : j = 0 ∨ (j : Int) = e.L
      · exact sign_bit8 (up2 8 (contrib_end z2))
      have ne : d.k ≠ e.k := fun hk => ns (spot_shr hk (by omega) (by omega) (i2.trans j2.symm))
      rw [contrib_in (hok d dt) (by omega) (by omega)] at up
      rw [contrib_in (hok e et) (by omega) (by omega)] at up2
      have kd := (hok d dt).k_cases
      have ke := (hok e et).k_cases
      refine sign_two (i := d.k.toNat) (j := e.k.toNat) (by omega) (by omega) (by omega) (up _ ?_) (up2 _ ?_)
      · rcases kd with ⟨q, _⟩ | ⟨q, _⟩ | ⟨q, _⟩ | ⟨q, _⟩ <;> rw [q] <;> decide
      · rcases ke with ⟨q, _⟩ | ⟨q, _⟩ | ⟨q, _⟩ | ⟨q, _⟩ <;> rw [q] <;> decide
end BW
set_option maxHeartbeats 8000000
local macro_rules | `(tactic| walk_at "dv") => `(tactic| first | assumption | (apply_assumption; done) | exact BW.mulOk_of _ _ (by decide) | exact BW.divOk_of _ _ (by first | decide | assumption | omega) (by decide) | decide | omega | (refine BW.le_size' ?_; first | omega | (simp only [List.length_cons, List.length_nil, List.length_append, List.length_map]; omega)) | simp)
/-! Drawings: the program's functions walked. -/
namespace BW
open PySem PySem.Spec PyProof.Rows L2
section
variable {P : Prog} {i : Nat}
theorem bitNot2 (a : Int) : Builtin.bitNot (Builtin.bitNot a) = a := by unfold Builtin.bitNot; omega
theorem bitOr_nat (a b : Nat) : Builtin.bitOr (a : Int) (b : Int) = ((a ||| b : Nat) : Int) := by
  unfold Builtin.bitOr Builtin.bitAnd
  have ha : decide (0 ≤ Builtin.bitNot (a : Int)) = false := decide_eq_false (by unfold Builtin.bitNot; omega)
  have hb : decide (0 ≤ Builtin.bitNot (b : Int)) = false := decide_eq_false (by unfold Builtin.bitNot; omega)
  rw [ha, hb]
  dsimp only
  rw [bitNot2, bitNot2, bitNot2]
  rfl
theorem bor_ (a b : Nat) (μ : Store) : binV .bor (.int (a : Int)) (.int (b : Int)) μ = .ok (.int ((a ||| b : Nat) : Int)) μ := by
  show Res.ok (PV.int (Builtin.bitOr a b)) μ = _
  rw [bitOr_nat]
theorem shl_ (a : Nat) (k : Int) (h0 : 0 ≤ k) (h1 : k < 100) (ha : a < 1000) (μ : Store) : binV .shl (.int (a : Int)) (.int k) μ = .ok (.int ((a * 2 ^ k.toNat : Nat) : Int)) μ := by
  have : binV .shl (.int (a : Int)) (.int k) μ = .ok (.int ((a : Int) * 2 ^ k.toNat)) μ := if_pos ⟨h0, by omega, by omega⟩
  rw [this]
  congr 2
theorem get_dic {l : Nat} {kvs : List (List Int × PV)} {μ : Store} (h : μ[l]? = some (.dic kvs)) (k : List Int) (d : PV) : bmOk .get (.loc l) μ = true ∧ bmV .get (.loc l) [.tup (k.map .int), d] μ = .ok ((dlook k kvs).getD d) μ := by
  constructor
  · show (dicAt μ (.loc l)).isSome = true
    rw [dicAt_at h]; rfl
  · show (match dicAt μ (.loc l), intsOf (k.map .int) with
      | some kvs, some k => Res.ok ((dlook k kvs).getD d) μ
      | _, _ => .bad) = _
    rw [dicAt_at h, intsOf_map]
theorem set_same {μ : Store} {l : Nat} {c : Cell} (h : μ[l]? = some c) : μ.set l c = μ := by
  apply List.ext_getElem?
  intro k
  by_cases q : l = k
  · subst q; rw [List.getElem?_set_self (get_lt h), h]
  · rw [List.getElem?_set_ne q]
theorem lit_signs : ("-/|\\" : Str) = txt [45, 47, 124, 92] := by decide +kernel
theorem idx_signs {k : Int} (h0 : 0 ≤ k) (h4 : k < 4) (μ : Store) : idxV (.str ("-/|\\" : Str)) (.int k) μ = .ok (signPV (sgnC k)) μ := by
  rw [lit_signs, idx_s μ _ _ (by rw [len_txt]; decide), tl_txt]
  rcases (show k = 0 ∨ k = 1 ∨ k = 2 ∨ k = 3 by omega) with rfl | rfl | rfl | rfl <;> rfl
theorem idx_units {k : Int} (h0 : 0 ≤ k) (h4 : k < 4) (μ : Store) : idxV (tblPV [[1, 0], [1, 1], [0, 1], [1, -1]]) (.int k) μ = .ok (.tup [.int (unitX k), .int (unitY k)]) μ := by
  rcases (show k = 0 ∨ k = 1 ∨ k = 2 ∨ k = 3 by omega) with rfl | rfl | rfl | rfl <;> rfl
/-- a wall's line told -/
theorem Td.line (T : TW P) {d : Td} (h : d.Ok) {μ : Store} {l : Nat} (W : WlX T μ l d.sp.1 d.sp.2) (n : Nat) : methOf P μ T.I.ml (.loc l) = some T.I.ln ∧ den P (n + 2) T.I.ln [.loc l] μ = .ok (.int d.k) μ := by
  obtain ⟨C, e1, e2, e3⟩ := TW.cl_ (T := T) d.sp.2
  refine ⟨meth_at W.at_ e1 e3, ?_⟩
  rw [ln_ok T.hlb T.hln n W.at_ (TW.fo_ _ _) (TW.ft_ _ _)]
  have := h.wl.ln
  show Res.ok (oI (lineB (d.f.w4.u - d.f.w4.x) (d.f.w4.v - d.f.w4.y))) μ = _
  rw [this]
  rfl
/-! ### spots -/
def fSpots (ml fo ft : Nat) : Fn := ⟨5, 1, [.asg (.tup [(.nm 1), (.nm 2)]) (.idx (.con (tblPV [[1, 0], [1, 1], [0, 1], [1, -1]])) (.meth ml (.var 0) [])), .set 3 (.bi .max [.bin .sub (.idx (.fld (.var 0) ft) (.con (.int 0))) (.idx (.fld (.var 0) fo) (.con (.int 0))), .bin .sub (.idx (.fld (.var 0) ft) (.con (.int 1))) (.idx (.fld (.var 0) fo) (.con (.int 1)))]), .ret (.lc (.tup [.bin .add (.idx (.fld (.var 0) fo) (.con (.int 0))) (.bin .mul (.var 4) (.var 1)), .bin .add (.idx (.fld (.var 0) fo) (.con (.int 1))) (.bin .mul (.var 4) (.var 2))]) (.nm 4) (.rng [.bin .add (.var 3) (.con (.int 1))]) none [4])]⟩
theorem Td.Ok.size {d : Td} (h : d.Ok) : max (d.f.u - d.x) (d.f.v - d.y) = d.L := by
  have e1 : d.f.u = d.x + d.L * unitX d.k := rfl
  have e2 : d.f.v = d.y + d.L * unitY d.k := rfl
  have := h.L0
  rw [e1, e2]
  rcases h.k_cases with ⟨_, a, b⟩ | ⟨_, a, b⟩ | ⟨_, a, b⟩ | ⟨_, a, b⟩ <;> rw [a, b] <;> omega
def spotsL (d : Td) : List (List Int) := (List.range (d.L.toNat + 1)).map (spotV d)
theorem spots_len (d : Td) : (spotsL d).length = d.L.toNat + 1 := by unfold spotsL; rw [List.length_map, List.length_range]
theorem spots_get (d : Td) {j : Nat} (h : j < d.L.toNat + 1) : (spotsL d)[j]? = some (spotV d j) := by
  unfold spotsL
  rw [List.getElem?_map, List.getElem?_range h]; rfl
theorem spots_ok (T : TW P) (hf : P.fn[i]? = some (fSpots T.I.ml T.I.fo T.I.ft)) (n : Nat) {d : Td} (h : d.Ok) {μ : Store} {l : Nat} (W : WlX T μ l d.sp.1 d.sp.2) :
    den P (n + 3) i [.loc l] μ = .ok (.loc μ.length) (μ ++ [.lst ((spotsL d).map tupI)]) := by
  obtain ⟨hm, hl⟩ := Td.line T h W n
  have L0 := h.L0
  have L1 := h.L1
  have eu := idx_units h.k0 h.k4 μ
  have hr := rng_nat (L := d.L + 1) (by omega) (by omega)
  have hN : (d.L + 1).toNat = d.L.toNat + 1 := by omega
  rw [hN] at hr
  have ha := W.at_
  have f1 : look T.I.fo (T.fs d.sp.1 d.sp.2) = some (.tup [.int d.x, .int d.y]) := TW.fo_ _ _
  have f2 : look T.I.ft (T.fs d.sp.1 d.sp.2) = some (.tup [.int d.f.u, .int d.f.v]) := TW.ft_ _ _
  have key : lcDen [] [some (.loc l), some (.int (unitX d.k)), some (.int (unitY d.k)), some (.int d.L), none] (.nm 4) (fun _ m => .ok true m) (evE P (den P (n + 2)) none (.tup [.bin .add (.idx (.fld (.var 0) T.I.fo) (.con (.int 0))) (.bin .mul (.var 4) (.var 1)), .bin .add (.idx (.fld (.var 0) T.I.fo) (.con (.int 1))) (.bin .mul (.var 4) (.var 2))])) ((List.range (d.L.toNat + 1)).map fun j : Nat => PV.int (j : Int)) [] μ = .ok ((spotsL d).map tupI) μ := by
    unfold spotsL
    rw [List.map_map]
    refine lc_mapA (fun j : Nat => PV.int (j : Int)) (tupI ∘ spotV d) (c := fun _ m => .ok true m) stand_nil (by rw [List.length_range]; omega) (fun _ _ => rfl) (fun j hj => ?_)
    have hj := List.mem_range.mp hj
    have bj : Bd (j : Int) 20 := ⟨by omega⟩
    have b1 := bd_ux d.k
    have b2 := bd_uy d.k
    clear hr eu hl hm
    generalize T.fs d.sp.1 d.sp.2 = FS at *
    simp (disch := walk_at "dv") [tupI, spotV, ha, f1, f2]
  have hs := h.size
  rw [den_at hf rfl]
  show (evSs P (den P (n + 2)) (fSpots T.I.ml T.I.fo T.I.ft).body none [some (.loc l), none, none, none, none] μ).out = _
  unfold fSpots
  clear W
  generalize T.fs d.sp.1 d.sp.2 = FS at *
  generalize (spotsL d).map tupI = SL at *
  simp (disch := walk_at "dv") [eu, hm, hl, ha, f1, f2, hs, hr, key]
/-! ### the bits -/
def MaskIs (kvs : List (List Int × PV)) (f : List Int → Nat) : Prop := ∀ p, dlook p kvs = if f p = 0 then none else some (.int ((f p : Nat) : Int))
theorem MaskIs.get {kvs : List (List Int × PV)} {f : List Int → Nat} (h : MaskIs kvs f) (p : List Int) : (dlook p kvs).getD (.int 0) = .int ((f p : Nat) : Int) := by
  rw [h p]
  split
  · rename_i e; rw [e]; rfl
  · rfl
theorem contrib_ne {d : Td} (h : d.Ok) {j : Nat} (hj : (j : Int) ≤ d.L) (a : Nat) : a ||| contrib d j ≠ 0 := by
  obtain ⟨c, hc⟩ := contrib_pos h hj
  intro e
  have := congrArg (fun z => z.testBit c) e
  try dsimp only at this
  rw [Nat.testBit_or, hc, Nat.zero_testBit, Bool.or_true] at this
  cases this
theorem MaskIs.step {kvs : List (List Int × PV)} {f : List Int → Nat} {d : Td} (h : d.Ok) {j : Nat} (hj : (j : Int) ≤ d.L) (M : MaskIs kvs (addM d j f)) : MaskIs (dput (spotV d j) (.int ((addM d j f (spotV d j) ||| contrib d j : Nat) : Int)) kvs) (addM d (j + 1) f) := by
  intro p
  have hs : addM d (j + 1) f p = if p = spotV d j then addM d j f p ||| contrib d j else addM d j f p := rfl
  rw [dput_look, hs]
  by_cases e : p = spotV d j
  · rw [if_pos e, if_pos e, if_neg (contrib_ne h hj _), e]
  · rw [if_neg e, if_neg e, M p]
def maIn (ml : Nat) : List IS := [.set 6 (.bm .get (.var 1) [.var 5, .con (.int 0)]), .ifs (.val (.cmp .lt (.var 4) (.bin .sub (.bi .len [.var 3]) (.con (.int 1))))) [.set 6 (.bin .bor (.var 6) (.bin .shl (.con (.int 1)) (.meth ml (.var 2) [])))] [], .ifs (.val (.cmp .gt (.var 4) (.con (.int 0)))) [.set 6 (.bin .bor (.var 6) (.bin .shl (.con (.int 16)) (.meth ml (.var 2) [])))] [], .ifs (.or (.val (.cmp .eq (.var 4) (.con (.int 0)))) (.val (.cmp .eq (.var 4) (.bin .sub (.bi .len [.var 3]) (.con (.int 1)))))) [.set 6 (.bin .bor (.var 6) (.con (.int 256)))] [], .sub (.var 1) (.var 5) (.var 6)]
theorem mask_body {ml ln : Nat} (n : Nat) {d : Td} (h : d.Ok) {S : Store} {l ld m : Nat} {kvs : List (List Int × PV)} {f : List Int → Nat} {j : Nat} (hj : (j : Int) ≤ d.L) (M : MaskIs kvs (addM d j f)) (hm : methOf P S ml (.loc l) = some ln) (hl : den P (n + 2) ln [.loc l] S = .ok (.int d.k) S)
    (hd : S[ld]? = some (.dic kvs)) (hk : kvs.length ≤ 100000) (hs : S[m]? = some (.lst ((spotsL d).map tupI))) (x0 x6 : Option PV) :
    evSs P (den P (n + 2)) (maIn ml) none [x0, some (.loc ld), some (.loc l), some (.loc m), some (.int (j : Int)), some (tupI (spotV d j)), x6] S = .mk (.nx [x0, some (.loc ld), some (.loc l), some (.loc m), some (.int (j : Int)), some (tupI (spotV d j)), some (.int ((addM d j f (spotV d j) ||| contrib d j : Nat) : Int))]) (S.set ld (.dic (dput (spotV d j) (.int ((addM d j f (spotV d j) ||| contrib d j : Nat) : Int)) kvs))) := by
  have L0 := h.L0
  have k0 := h.k0
  have k4 := h.k4
  obtain ⟨g1, g2⟩ := get_dic hd (spotV d j) (.int 0)
  rw [M.get] at g2
  have hlen : (((spotsL d).map tupI).length : Int) = d.L + 1 := by rw [List.length_map, spots_len]; omega
  have s1 : binV .shl (.int 1) (.int d.k) S = .ok (.int ((1 * 2 ^ d.k.toNat : Nat) : Int)) S := shl_ 1 d.k k0 (by omega) (by omega) S
  have s16 : binV .shl (.int 16) (.int d.k) S = .ok (.int ((16 * 2 ^ d.k.toNat : Nat) : Int)) S := shl_ 16 d.k k0 (by omega) (by omega) S
  have lt : kvs.length < sizeLine := by rw [sizeLine_eq]; omega
  have hi : intsOf ((spotV d j).map PV.int) = some (spotV d j) := intsOf_map _
  have dp := fun ρ v => stD_ ρ S ld v kvs (spotV d j) lt
  unfold tupI
  obtain ⟨A, hA⟩ : ∃ A, A = addM d j f (spotV d j) := ⟨_, rfl⟩
  rw [← hA] at g2 ⊢
  have e1 : d.L + 1 - 1 = d.L := by omega
  have L00 : 0 < d.L := by omega
  have L01 : ¬ d.L = 0 := by omega
  rcases (show j = 0 ∨ (j ≠ 0 ∧ (j : Int) < d.L) ∨ (j ≠ 0 ∧ (j : Int) = d.L) by omega) with z | ⟨z, z2⟩ | ⟨z, z2⟩
  · have hC : (A ||| 1 * 2 ^ d.k.toNat) ||| 256 = A ||| contrib d j := by
      unfold contrib
      rw [if_pos (by omega), if_neg (by omega), if_pos (.inl z), Nat.or_zero, Nat.one_mul, Nat.or_assoc]
    have b1 := bor_ A (1 * 2 ^ d.k.toNat) S
    have b2 : binV .bor (.int ((A ||| 1 * 2 ^ d.k.toNat : Nat) : Int)) (.int 256) S = .ok (.int ((A ||| contrib d j : Nat) : Int)) S := by rw [← hC]; exact bor_ (A ||| 1 * 2 ^ d.k.toNat) 256 S
    have q1 : (j : Int) < d.L := by omega
    have q2 : ¬ 0 < (j : Int) := by omega
    have q3 : (j : Int) = 0 := by omega
    clear hC M dp
    generalize ((A ||| 1 * 2 ^ d.k.toNat : Nat) : Int) = t1 at *
    generalize ((A ||| contrib d j : Nat) : Int) = t2 at *
    generalize ((A : Nat) : Int) = t3 at *
    generalize ((1 * 2 ^ d.k.toNat : Nat) : Int) = t4 at *
    generalize (spotV d j) = sv at *
    generalize (spotsL d).map tupI = SL at *
    clear hA z hj
    generalize (j : Int) = J at *
    unfold maIn
    simp (disch := walk_at "dv") [g1, g2, hs, hlen, e1, q1, q2, q3, L00, hm, hl, s1, b1, b2, hd, hi]
  · have hC : (A ||| 1 * 2 ^ d.k.toNat) ||| 16 * 2 ^ d.k.toNat = A ||| contrib d j := by
      unfold contrib
      rw [if_pos z2, if_pos (by omega), if_neg (by omega), Nat.or_zero, Nat.one_mul, Nat.or_assoc]
    have b1 := bor_ A (1 * 2 ^ d.k.toNat) S
    have b2 : binV .bor (.int ((A ||| 1 * 2 ^ d.k.toNat : Nat) : Int)) (.int ((16 * 2 ^ d.k.toNat : Nat) : Int)) S = .ok (.int ((A ||| contrib d j : Nat) : Int)) S := by rw [← hC]; exact bor_ (A ||| 1 * 2 ^ d.k.toNat) _ S
    have q2 : 0 < (j : Int) := by omega
    have q3 : ¬ (j : Int) = 0 := by omega
    have q4 : ¬ (j : Int) = d.L := by omega
    clear hC M dp
    generalize ((A ||| 1 * 2 ^ d.k.toNat : Nat) : Int) = t1 at *
    generalize ((A ||| contrib d j : Nat) : Int) = t2 at *
    generalize ((A : Nat) : Int) = t3 at *
    generalize ((1 * 2 ^ d.k.toNat : Nat) : Int) = t4 at *
    generalize ((16 * 2 ^ d.k.toNat : Nat) : Int) = t5 at *
    generalize (spotV d j) = sv at *
    generalize (spotsL d).map tupI = SL at *
    clear hA z hj
    generalize (j : Int) = J at *
    unfold maIn
    simp (disch := walk_at "dv") [g1, g2, hs, hlen, e1, z2, q2, q3, q4, hm, hl, s1, s16, b1, b2, hd, hi]
  · have hC : (A ||| 16 * 2 ^ d.k.toNat) ||| 256 = A ||| contrib d j := by
      unfold contrib
      rw [if_neg (by omega), if_pos (by omega), if_pos (.inr z2), Nat.zero_or, Nat.or_assoc]
    have b1 := bor_ A (16 * 2 ^ d.k.toNat) S
    have b2 : binV .bor (.int ((A ||| 16 * 2 ^ d.k.toNat : Nat) : Int)) (.int 256) S = .ok (.int ((A ||| contrib d j : Nat) : Int)) S := by rw [← hC]; exact bor_ (A ||| 16 * 2 ^ d.k.toNat) 256 S
    have q1 : ¬ (j : Int) < d.L := by omega
    have q2 : 0 < (j : Int) := by omega
    have q3 : ¬ (j : Int) = 0 := by omega
    clear hC M dp
    generalize ((A ||| 16 * 2 ^ d.k.toNat : Nat) : Int) = t1 at *
    generalize ((A ||| contrib d j : Nat) : Int) = t2 at *
    generalize ((A : Nat) : Int) = t3 at *
    generalize ((16 * 2 ^ d.k.toNat : Nat) : Int) = t5 at *
    generalize (spotV d j) = sv at *
    generalize (spotsL d).map tupI = SL at *
    clear hA z hj
    generalize (j : Int) = J at *
    unfold maIn
    simp (disch := walk_at "dv") [g1, g2, hs, hlen, e1, q1, q2, q3, L00, L01, z2, hm, hl, s16, b1, b2, hd, hi]
end
end BW
set_option maxHeartbeats 8000000
local macro_rules | `(tactic| walk_at "dv") => `(tactic| first | assumption | (apply_assumption; done) | exact BW.mulOk_of _ _ (by decide) | exact BW.divOk_of _ _ (by first | decide | assumption | omega) (by decide) | decide | omega | (refine BW.le_size' ?_; first | omega | (simp only [List.length_cons, List.length_nil, List.length_append, List.length_map]; omega)) | simp)
namespace BW
open PySem PySem.Spec PyProof.Rows L2
section
variable {P : Prog} {i : Nat}
theorem enum_get {xs : List PV} {j : Nat} {v : PV} (h : (xs.mapIdx fun k v => PV.tup [.int (k : Nat), v])[j]? = some v) : ∃ u, xs[j]? = some u ∧ v = .tup [.int (j : Int), u] := by
  rw [List.getElem?_mapIdx] at h
  obtain ⟨u, h1, rfl⟩ := Option.map_eq_some_iff.mp h
  exact ⟨u, h1, rfl⟩
/-- the spots of a wall, one by one -/
theorem mask_in {ml ln : Nat} (n : Nat) {d : Td} (h : d.Ok) {S : Store} {l ld m c : Nat} {kvs : List (List Int × PV)} {f : List Int → Nat} (M : MaskIs kvs f) (hm : ∀ c, methOf P (S.set ld (.dic c)) ml (.loc l) = some ln) (hl : ∀ c, den P (n + 2) ln [.loc l] (S.set ld (.dic c)) = .ok (.int d.k) (S.set ld (.dic c)))
    (hd : S[ld]? = some (.dic kvs)) (hk : kvs.length ≤ c) (hc : c ≤ 90000) (hs : S[m]? = some (.lst ((spotsL d).map tupI))) (ne : ld ≠ m) (x0 x4 x5 x6 : Option PV) :
    ∃ kvs' y4 y5 y6, forDen [(m, (spotsL d).map tupI)] (.tup [(.nm 4), (.nm 5)]) (evSs P (den P (n + 2)) (maIn ml) none) (((spotsL d).map tupI).mapIdx fun k v => .tup [.int (k : Nat), v]) [x0, some (.loc ld), some (.loc l), some (.loc m), x4, x5, x6] S
      = .mk (.nx [x0, some (.loc ld), some (.loc l), some (.loc m), y4, y5, y6]) (S.set ld (.dic kvs')) ∧ MaskIs kvs' (addM d (d.L.toNat + 1) f) ∧ kvs'.length ≤ c + 2001 := by
  have L1 := h.L1
  have L0 := h.L0
  have hlen : (((spotsL d).map tupI).mapIdx fun k v => PV.tup [.int (k : Nat), v]).length = d.L.toNat + 1 := by rw [List.length_mapIdx, List.length_map, spots_len]
  refine for_post (fun j ρ S' => ∃ kvs' y4 y5 y6, ρ = [x0, some (.loc ld), some (.loc l), some (.loc m), y4, y5, y6] ∧ S' = S.set ld (.dic kvs') ∧ MaskIs kvs' (addM d j f) ∧ kvs'.length ≤ c + j)
    (fun r => ∃ kvs' y4 y5 y6, r = .mk (.nx [x0, some (.loc ld), some (.loc l), some (.loc m), y4, y5, y6]) (S.set ld (.dic kvs')) ∧ MaskIs kvs' (addM d (d.L.toNat + 1) f) ∧ kvs'.length ≤ c + 2001)
    ⟨kvs, x4, x5, x6, rfl, (set_same hd).symm, M, hk⟩ ?_ ?_ ?_
  · rintro j ρ S' ⟨kvs', y4, y5, y6, rfl, rfl, M', hk'⟩
    exact stand_one (get_set_ne hs ne)
  · rintro ρ S' ⟨kvs', y4, y5, y6, rfl, rfl, M', hk'⟩
    rw [hlen] at M' hk'
    exact ⟨kvs', y4, y5, y6, rfl, M', by omega⟩
  · rintro j ρ S' v hv ⟨kvs', y4, y5, y6, rfl, rfl, M', hk'⟩
    have hj := (List.getElem?_eq_some_iff.mp hv).1
    rw [hlen] at hj
    obtain ⟨u, h1, rfl⟩ := enum_get hv
    rw [List.getElem?_map, spots_get d hj] at h1
    cases h1
    have e := mask_body (ml := ml) n h (S := S.set ld (.dic kvs')) (l := l) (ld := ld) (m := m) (j := j) (f := f) (by omega) M' (hm _) (hl _) (get_set_eq hd) (by omega) (get_set_ne hs ne) x0 y6
    rw [List.set_set] at e
    refine ⟨[x0, some (.loc ld), some (.loc l), some (.loc m), some (.int (j : Int)), some (tupI (spotV d j)), y6], by simp, .inl ⟨_, _, .inl e, _, _, _, _, rfl, rfl, M'.step h (by omega), ?_⟩⟩
    have := dput_len (k := spotV d j) (v := PV.int ((addM d j f (spotV d j) ||| contrib d j : Nat) : Int)) (kvs := kvs')
    omega
def fMasks (sp mw ml : Nat) : Fn := ⟨7, 1, [.set 1 .dic, .for (.nm 2) (.seq (.meth mw (.var 0) [])) [.set 3 (.call sp [.var 2]), .for (.tup [(.nm 4), (.nm 5)]) (.enum (.var 3)) [.set 6 (.bm .get (.var 1) [.var 5, .con (.int 0)]), .ifs (.val (.cmp .lt (.var 4) (.bin .sub (.bi .len [.var 3]) (.con (.int 1))))) [.set 6 (.bin .bor (.var 6) (.bin .shl (.con (.int 1)) (.meth ml (.var 2) [])))] [], .ifs (.val (.cmp .gt (.var 4) (.con (.int 0)))) [.set 6 (.bin .bor (.var 6) (.bin .shl (.con (.int 16)) (.meth ml (.var 2) [])))] [], .ifs (.or (.val (.cmp .eq (.var 4) (.con (.int 0)))) (.val (.cmp .eq (.var 4) (.bin .sub (.bi .len [.var 3]) (.con (.int 1)))))) [.set 6 (.bin .bor (.var 6) (.con (.int 256)))] [], .sub (.var 1) (.var 5) (.var 6)]], .ret (.var 1)]⟩
def maOut (sp ml : Nat) : List IS := [.set 3 (.call sp [.var 2]), .for (.tup [(.nm 4), (.nm 5)]) (.enum (.var 3)) [.set 6 (.bm .get (.var 1) [.var 5, .con (.int 0)]), .ifs (.val (.cmp .lt (.var 4) (.bin .sub (.bi .len [.var 3]) (.con (.int 1))))) [.set 6 (.bin .bor (.var 6) (.bin .shl (.con (.int 1)) (.meth ml (.var 2) [])))] [], .ifs (.val (.cmp .gt (.var 4) (.con (.int 0)))) [.set 6 (.bin .bor (.var 6) (.bin .shl (.con (.int 16)) (.meth ml (.var 2) [])))] [], .ifs (.or (.val (.cmp .eq (.var 4) (.con (.int 0)))) (.val (.cmp .eq (.var 4) (.bin .sub (.bi .len [.var 3]) (.con (.int 1)))))) [.set 6 (.bin .bor (.var 6) (.con (.int 256)))] [], .sub (.var 1) (.var 5) (.var 6)]]
theorem mask_wall (T : TW P) {sp : Nat} (hsp : P.fn[sp]? = some (fSpots T.I.ml T.I.fo T.I.ft)) (n : Nat) {d : Td} (h : d.Ok) {S : Store} {l ld c : Nat} {kvs : List (List Int × PV)} {f : List Int → Nat} (M : MaskIs kvs f) (W : WlX T S l d.sp.1 d.sp.2)
    (hd : S[ld]? = some (.dic kvs)) (hk : kvs.length ≤ c) (hc : c ≤ 90000) (x0 x3 x4 x5 x6 : Option PV) :
    ∃ kvs' y3 y4 y5 y6 S', evSs P (den P (n + 3)) (maOut sp T.I.ml) none [x0, some (.loc ld), some (.loc l), x3, x4, x5, x6] S
      = .mk (.nx [x0, some (.loc ld), some (.loc l), y3, y4, y5, y6]) (S'.set ld (.dic kvs')) ∧ Gr S S' ∧ MaskIs kvs' (addM d (d.L.toNat + 1) f) ∧ kvs'.length ≤ c + 2001 := by
  have e1 := spots_ok T hsp n h W
  obtain ⟨S1, hS1⟩ : ∃ S1, S1 = S ++ [Cell.lst ((spotsL d).map tupI)] := ⟨_, rfl⟩
  rw [← hS1] at e1
  have G1 : Gr S S1 := by rw [hS1]; exact Gr.app
  have q1 : S1[S.length]? = some (.lst ((spotsL d).map tupI)) := by rw [hS1]; simp
  have hd1 := G1.get hd
  have W1 := W.mono G1
  have nel : ld ≠ l := by
    rintro rfl
    have := W.at_
    rw [hd] at this
    cases this
  have W2 := fun c => W1.set nel (.dic c)
  have hlt := get_lt hd
  obtain ⟨kvs', y4, y5, y6, e2, M', hk'⟩ := mask_in (P := P) (ml := T.I.ml) (ln := T.I.ln) (n + 1) h (S := S1) (l := l) (ld := ld) (m := S.length) M (fun c => (Td.line T h (W2 c) n).1) (fun c => (Td.line T h (W2 c) (n + 1)).2) hd1 hk hc q1 (by omega) x0 x4 x5 x6
  refine ⟨kvs', some (.loc S.length), y4, y5, y6, S1, ?_, G1, M', hk'⟩
  unfold maIn at e2
  unfold maOut
  clear W W1 W2 M M'
  generalize (spotsL d).map tupI = SL at *
  simp (disch := walk_at "dv") [e1, q1, enumOf, e2]
theorem masks_ok (T : TW P) {sp : Nat} (hsp : P.fn[sp]? = some (fSpots T.I.ml T.I.fo T.I.ft)) (hf : P.fn[i]? = some (fMasks sp T.mw T.I.ml)) (n : Nat) {μ : Store} {l : Nat} {ls : List Nat} {tds : List Td} (hok : ∀ d ∈ tds, d.Ok) (R : RmX T μ l ls (tds.map Td.sp)) :
    ∃ kvs S, den P (n + 4) i [.loc l] μ = .ok (.loc μ.length) S ∧ Gr μ S ∧ S[μ.length]? = some (.dic kvs) ∧ MaskIs kvs (masksF tds fun _ => 0) := by
  obtain ⟨S0, hS0⟩ : ∃ S0, S0 = μ ++ [Cell.dic []] := ⟨_, rfl⟩
  have G0 : Gr μ S0 := by rw [hS0]; exact Gr.app
  have q0 : S0[μ.length]? = some (.dic []) := by rw [hS0]; simp
  obtain ⟨hm, e1⟩ := told_walls (n + 2) (R.mono G0)
  obtain ⟨S1, hS1⟩ : ∃ S1, S1 = S0 ++ [Cell.lst (ls.map PV.loc)] := ⟨_, rfl⟩
  rw [← hS1] at e1
  have G1 : Gr S0 S1 := by rw [hS1]; exact Gr.app
  have q1 : S1[S0.length]? = some (.lst (ls.map .loc)) := by rw [hS1]; simp
  have hlen : ls.length = tds.length := by have := R.len; rw [List.length_map] at this; exact this
  have h40 := R.le
  have hlt : μ.length < S0.length := get_lt q0
  obtain ⟨kvs, S, y2, y3, y4, y5, y6, e2, G2, q2, M, _⟩ : ∃ kvs S y2 y3 y4 y5 y6, forDen [(S0.length, ls.map PV.loc)] (.nm 2) (evSs P (den P (n + 3)) (maOut sp T.I.ml) none) (ls.map PV.loc) [some (.loc l), some (.loc μ.length), none, none, none, none, none] S1
      = .mk (.nx [some (.loc l), some (.loc μ.length), y2, y3, y4, y5, y6]) S ∧ Gr μ S ∧ S[μ.length]? = some (.dic kvs) ∧ MaskIs kvs (masksF tds fun _ => 0) ∧ True := by
    refine for_post (fun j ρ S => ∃ kvs y2 y3 y4 y5 y6, ρ = [some (.loc l), some (.loc μ.length), y2, y3, y4, y5, y6] ∧ Gr μ S ∧ S[μ.length]? = some (.dic kvs) ∧ S[S0.length]? = some (.lst (ls.map .loc)) ∧ MaskIs kvs (masksF (tds.take j) fun _ => 0) ∧ kvs.length ≤ 2001 * j)
      (fun r => ∃ kvs S y2 y3 y4 y5 y6, r = .mk (.nx [some (.loc l), some (.loc μ.length), y2, y3, y4, y5, y6]) S ∧ Gr μ S ∧ S[μ.length]? = some (.dic kvs) ∧ MaskIs kvs (masksF tds fun _ => 0) ∧ True)
      ⟨[], none, none, none, none, none, rfl, G0.trans G1, G1.get q0, q1, fun p => rfl, by simp⟩ ?_ ?_ ?_
    · rintro j ρ S ⟨kvs, y2, y3, y4, y5, y6, rfl, G, a1, a2, M, a3⟩
      exact stand_one a2
    · rintro ρ S ⟨kvs, y2, y3, y4, y5, y6, rfl, G, a1, a2, M, a3⟩
      rw [List.length_map, hlen, List.take_length] at M
      exact ⟨kvs, S, y2, y3, y4, y5, y6, rfl, G, a1, M, trivial⟩
    · rintro j ρ S v hv ⟨kvs, y2, y3, y4, y5, y6, rfl, G, a1, a2, M, a3⟩
      rw [List.getElem?_map] at hv
      obtain ⟨lw, hlw, rfl⟩ := Option.map_eq_some_iff.mp hv
      have hj := (List.getElem?_eq_some_iff.mp hlw).1
      have hjt : j < tds.length := by omega
      have hdj : tds[j]? = some tds[j] := List.getElem?_eq_getElem hjt
      have dok := hok _ (List.getElem_mem hjt)
      have W := (R.mono G).wx j lw tds[j].sp hlw (by rw [List.getElem?_map, hdj]; rfl)
      obtain ⟨kvs', z3, z4, z5, z6, S', e, G', M', hk'⟩ := mask_wall T hsp n dok (c := 2001 * j) M W a1 a3 (by omega) (some (.loc l)) y3 y4 y5 y6
      refine ⟨[some (.loc l), some (.loc μ.length), some (.loc lw), y3, y4, y5, y6], by simp, .inl ⟨_, _, .inl e, kvs', _, _, _, _, _, rfl, (G.trans G').set (Nat.le_refl _) _, get_set_eq (G'.get a1), get_set_ne (G'.get a2) (by omega), ?_, by omega⟩⟩
      rw [List.take_succ, hdj]
      unfold masksF at M' ⊢
      rw [Option.toList_some, List.foldl_append]
      exact M'
  refine ⟨kvs, S, ?_, G2, q2, M⟩
  rw [den_at hf rfl]
  show (evSs P (den P (n + 3)) (fMasks sp T.mw T.I.ml).body none [some (.loc l), none, none, none, none, none, none] μ).out = _
  unfold fMasks
  unfold maOut at e2
  clear M
  generalize ls.map PV.loc = LL at *
  simp (disch := walk_at "dv") [← hS0, hm, e1, q1, e2]
/-! ### halves -/
theorem lit_X : ("X" : Str) = ⟨#[88]⟩ := by decide +kernel
def HalfIs (kvs : List (List Int × PV)) (f : List Int → Option Nat) : Prop := ∀ p, dlook p kvs = (f p).map signPV
theorem HalfIs.step {kvs : List (List Int × PV)} {f : List Int → Option Nat} {d : Td} {j : Nat} (M : HalfIs kvs (addH d j f)) : HalfIs (dput (halfV d j) (signPV (if addH d j f (halfV d j) = none then sgnC d.k else 88)) kvs) (addH d (j + 1) f) := by
  intro p
  have hs : addH d (j + 1) f p = if p = halfV d j then some (if addH d j f p = none then sgnC d.k else 88) else addH d j f p := rfl
  rw [dput_look, hs]
  by_cases e : p = halfV d j
  · rw [if_pos e, if_pos e, e]; rfl
  · rw [if_neg e, if_neg e, M p]
theorem half_sum (d : Td) (j : Nat) : d.x + (j : Int) * unitX d.k + (d.x + ((j + 1 : Nat) : Int) * unitX d.k) = 2 * d.x + (2 * (j : Int) + 1) * unitX d.k ∧ d.y + (j : Int) * unitY d.k + (d.y + ((j + 1 : Nat) : Int) * unitY d.k) = 2 * d.y + (2 * (j : Int) + 1) * unitY d.k := by
  constructor
  · rw [Int.natCast_add]; grind
  · rw [Int.natCast_add]; grind
def haIn (ml : Nat) : List IS := [.set 6 (.tup [.bin .add (.idx (.var 4) (.con (.int 0))) (.idx (.var 5) (.con (.int 0))), .bin .add (.idx (.var 4) (.con (.int 1))) (.idx (.var 5) (.con (.int 1)))]), .ifs (.val (.cmp .inn (.var 6) (.var 1))) [.sub (.var 1) (.var 6) (.con (.str "X"))] [.sub (.var 1) (.var 6) (.idx (.con (.str "-/|\\")) (.meth ml (.var 2) []))]]
theorem half_body {ml ln : Nat} (n : Nat) {d : Td} (h : d.Ok) {S : Store} {l ld m : Nat} {kvs : List (List Int × PV)} {f : List Int → Option Nat} {j : Nat} (M : HalfIs kvs (addH d j f)) (hm : methOf P S ml (.loc l) = some ln) (hl : den P (n + 2) ln [.loc l] S = .ok (.int d.k) S)
    (hd : S[ld]? = some (.dic kvs)) (hk : kvs.length ≤ 100000) (x0 x3 x6 : Option PV) :
    evSs P (den P (n + 2)) (haIn ml) none [x0, some (.loc ld), some (.loc l), x3, some (tupI (spotV d j)), some (tupI (spotV d (j + 1))), x6] S = .mk (.nx [x0, some (.loc ld), some (.loc l), x3, some (tupI (spotV d j)), some (tupI (spotV d (j + 1))), some (tupI (halfV d j))]) (S.set ld (.dic (dput (halfV d j) (signPV (if addH d j f (halfV d j) = none then sgnC d.k else 88)) kvs))) := by
  have lt : kvs.length < sizeLine := by rw [sizeLine_eq]; omega
  have hin := inB_dic hd (halfV d j)
  rw [M (halfV d j), Option.isSome_map] at hin
  have is_ := idx_signs h.k0 h.k4 S
  obtain ⟨s1, s2⟩ := half_sum d j
  obtain ⟨HX, hHX⟩ : ∃ HX, HX = 2 * d.x + (2 * (j : Int) + 1) * unitX d.k := ⟨_, rfl⟩
  obtain ⟨HY, hHY⟩ : ∃ HY, HY = 2 * d.y + (2 * (j : Int) + 1) * unitY d.k := ⟨_, rfl⟩
  have hh : halfV d j = [HX, HY] := by rw [hHX, hHY]; rfl
  rw [← hHX] at s1
  rw [← hHY] at s2
  rw [hh] at hin ⊢
  have hi : intsOf [PV.int HX, .int HY] = some [HX, HY] := rfl
  have sp1 : spotV d j = [d.x + (j : Int) * unitX d.k, d.y + (j : Int) * unitY d.k] := rfl
  have sp2 : spotV d (j + 1) = [d.x + ((j + 1 : Nat) : Int) * unitX d.k, d.y + ((j + 1 : Nat) : Int) * unitY d.k] := rfl
  rw [sp1, sp2]
  generalize d.x + (j : Int) * unitX d.k = a1 at *
  generalize d.y + (j : Int) * unitY d.k = a2 at *
  generalize d.x + ((j + 1 : Nat) : Int) * unitX d.k = a3 at *
  generalize d.y + ((j + 1 : Nat) : Int) * unitY d.k = a4 at *
  clear sp1 sp2 hh hHX hHY M
  simp only [tupI, List.map_cons, List.map_nil] at *
  unfold haIn
  by_cases z : addH d j f [HX, HY] = none
  · rw [if_pos z]
    rw [z] at hin
    simp only [Option.isSome_none] at hin
    simp (disch := walk_at "dv") [s1, s2, hin, is_, hm, hl, hd, hi]
  · rw [if_neg z]
    obtain ⟨c, hc⟩ := Option.ne_none_iff_exists'.mp z
    rw [hc] at hin
    simp only [Option.isSome_some] at hin
    have lx : (PV.str ("X" : Str)) = signPV 88 := by rw [lit_X]; rfl
    simp (disch := walk_at "dv") [s1, s2, hin, hd, hi, lx]
end
end BW
set_option maxHeartbeats 8000000
local macro_rules | `(tactic| walk_at "dv") => `(tactic| first | assumption | (apply_assumption; done) | exact BW.mulOk_of _ _ (by decide) | exact BW.divOk_of _ _ (by first | decide | assumption | omega) (by decide) | decide | omega | (refine BW.le_size' ?_; first | omega | (simp only [List.length_cons, List.length_nil, List.length_append, List.length_map]; omega)) | simp)
namespace BW
open PySem PySem.Spec PyProof.Rows L2
section
variable {P : Prog} {i : Nat}
theorem zip_spots {d : Td} {j : Nat} {v : PV} (h : (List.zipWith (fun u v => PV.tup [u, v]) ((spotsL d).map tupI) (((spotsL d).map tupI).drop 1))[j]? = some v) : j < d.L.toNat ∧ v = .tup [tupI (spotV d j), tupI (spotV d (j + 1))] := by
  rw [List.getElem?_zipWith, List.getElem?_drop, List.getElem?_map, List.getElem?_map] at h
  by_cases hj : j < d.L.toNat
  · rw [spots_get d (by omega), show 1 + j = j + 1 by omega, spots_get d (by omega)] at h
    simp only [Option.map_some] at h
    cases h
    exact ⟨hj, rfl⟩
  · rw [List.getElem?_eq_none (l := spotsL d) (i := 1 + j) (by rw [spots_len]; omega)] at h
    cases h' : (spotsL d)[j]? <;> rw [h'] at h <;> cases h
theorem half_in {ml ln : Nat} (n : Nat) {d : Td} (h : d.Ok) {S : Store} {l ld m m2 c : Nat} {kvs : List (List Int × PV)} {f : List Int → Option Nat} (M : HalfIs kvs f) (hm : ∀ c, methOf P (S.set ld (.dic c)) ml (.loc l) = some ln) (hl : ∀ c, den P (n + 2) ln [.loc l] (S.set ld (.dic c)) = .ok (.int d.k) (S.set ld (.dic c)))
    (hd : S[ld]? = some (.dic kvs)) (hk : kvs.length ≤ c) (hc : c ≤ 90000) (hs : S[m]? = some (.lst ((spotsL d).map tupI))) (hs2 : S[m2]? = some (.lst (((spotsL d).map tupI).drop 1))) (ne : ld ≠ m) (ne2 : ld ≠ m2) (x0 x3 x4 x5 x6 : Option PV) :
    ∃ kvs' y4 y5 y6, forDen [(m, (spotsL d).map tupI), (m2, ((spotsL d).map tupI).drop 1)] (.tup [(.nm 4), (.nm 5)]) (evSs P (den P (n + 2)) (haIn ml) none) (List.zipWith (fun u v => PV.tup [u, v]) ((spotsL d).map tupI) (((spotsL d).map tupI).drop 1)) [x0, some (.loc ld), some (.loc l), x3, x4, x5, x6] S
      = .mk (.nx [x0, some (.loc ld), some (.loc l), x3, y4, y5, y6]) (S.set ld (.dic kvs')) ∧ HalfIs kvs' (addH d d.L.toNat f) ∧ kvs'.length ≤ c + 2001 := by
  have L1 := h.L1
  have L0 := h.L0
  have hlen : (List.zipWith (fun u v => PV.tup [u, v]) ((spotsL d).map tupI) (((spotsL d).map tupI).drop 1)).length = d.L.toNat := by rw [List.length_zipWith, List.length_drop, List.length_map, spots_len]; omega
  refine for_post (fun j ρ S' => ∃ kvs' y4 y5 y6, ρ = [x0, some (.loc ld), some (.loc l), x3, y4, y5, y6] ∧ S' = S.set ld (.dic kvs') ∧ HalfIs kvs' (addH d j f) ∧ kvs'.length ≤ c + j)
    (fun r => ∃ kvs' y4 y5 y6, r = .mk (.nx [x0, some (.loc ld), some (.loc l), x3, y4, y5, y6]) (S.set ld (.dic kvs')) ∧ HalfIs kvs' (addH d d.L.toNat f) ∧ kvs'.length ≤ c + 2001)
    ⟨kvs, x4, x5, x6, rfl, (set_same hd).symm, M, hk⟩ ?_ ?_ ?_
  · rintro j ρ S' ⟨kvs', y4, y5, y6, rfl, rfl, M', hk'⟩
    rw [stand_cons]
    exact ⟨lst_at (get_set_ne hs ne), stand_one (get_set_ne hs2 ne2)⟩
  · rintro ρ S' ⟨kvs', y4, y5, y6, rfl, rfl, M', hk'⟩
    rw [hlen] at M' hk'
    exact ⟨kvs', y4, y5, y6, rfl, M', by omega⟩
  · rintro j ρ S' v hv ⟨kvs', y4, y5, y6, rfl, rfl, M', hk'⟩
    obtain ⟨hj, rfl⟩ := zip_spots hv
    have e := half_body (ml := ml) n h (S := S.set ld (.dic kvs')) (l := l) (ld := ld) (m := m) (j := j) (f := f) M' (hm _) (hl _) (get_set_eq hd) (by omega) x0 x3 y6
    rw [List.set_set] at e
    refine ⟨[x0, some (.loc ld), some (.loc l), x3, some (tupI (spotV d j)), some (tupI (spotV d (j + 1))), y6], by simp, .inl ⟨_, _, .inl e, _, _, _, _, rfl, rfl, M'.step, ?_⟩⟩
    have := dput_len (k := halfV d j) (v := signPV (if addH d j f (halfV d j) = none then sgnC d.k else 88)) (kvs := kvs')
    omega
def fHalves (sp mw ml : Nat) : Fn := ⟨7, 1, [.set 1 .dic, .for (.nm 2) (.seq (.meth mw (.var 0) [])) [.set 3 (.call sp [.var 2]), .for (.tup [(.nm 4), (.nm 5)]) (.zip (.var 3) (.slc (.var 3) (some (.con (.int 1))) none)) [.set 6 (.tup [.bin .add (.idx (.var 4) (.con (.int 0))) (.idx (.var 5) (.con (.int 0))), .bin .add (.idx (.var 4) (.con (.int 1))) (.idx (.var 5) (.con (.int 1)))]), .ifs (.val (.cmp .inn (.var 6) (.var 1))) [.sub (.var 1) (.var 6) (.con (.str "X"))] [.sub (.var 1) (.var 6) (.idx (.con (.str "-/|\\")) (.meth ml (.var 2) []))]]], .ret (.var 1)]⟩
def haOut (sp ml : Nat) : List IS := [.set 3 (.call sp [.var 2]), .for (.tup [(.nm 4), (.nm 5)]) (.zip (.var 3) (.slc (.var 3) (some (.con (.int 1))) none)) [.set 6 (.tup [.bin .add (.idx (.var 4) (.con (.int 0))) (.idx (.var 5) (.con (.int 0))), .bin .add (.idx (.var 4) (.con (.int 1))) (.idx (.var 5) (.con (.int 1)))]), .ifs (.val (.cmp .inn (.var 6) (.var 1))) [.sub (.var 1) (.var 6) (.con (.str "X"))] [.sub (.var 1) (.var 6) (.idx (.con (.str "-/|\\")) (.meth ml (.var 2) []))]]]
theorem half_wall (T : TW P) {sp : Nat} (hsp : P.fn[sp]? = some (fSpots T.I.ml T.I.fo T.I.ft)) (n : Nat) {d : Td} (h : d.Ok) {S : Store} {l ld c : Nat} {kvs : List (List Int × PV)} {f : List Int → Option Nat} (M : HalfIs kvs f) (W : WlX T S l d.sp.1 d.sp.2)
    (hd : S[ld]? = some (.dic kvs)) (hk : kvs.length ≤ c) (hc : c ≤ 90000) (x0 x3 x4 x5 x6 : Option PV) :
    ∃ kvs' y3 y4 y5 y6 S', evSs P (den P (n + 3)) (haOut sp T.I.ml) none [x0, some (.loc ld), some (.loc l), x3, x4, x5, x6] S
      = .mk (.nx [x0, some (.loc ld), some (.loc l), y3, y4, y5, y6]) (S'.set ld (.dic kvs')) ∧ Gr S S' ∧ HalfIs kvs' (addH d d.L.toNat f) ∧ kvs'.length ≤ c + 2001 := by
  have e1 := spots_ok T hsp n h W
  obtain ⟨S1, hS1⟩ : ∃ S1, S1 = S ++ [Cell.lst ((spotsL d).map tupI)] := ⟨_, rfl⟩
  rw [← hS1] at e1
  have G1 : Gr S S1 := by rw [hS1]; exact Gr.app
  have q1 : S1[S.length]? = some (.lst ((spotsL d).map tupI)) := by rw [hS1]; simp
  have hc1 : cut ((spotsL d).map tupI) (some 1) none = ((spotsL d).map tupI).drop 1 := cut_from (by decide)
  obtain ⟨S2, hS2⟩ : ∃ S2, S2 = S1 ++ [Cell.lst (((spotsL d).map tupI).drop 1)] := ⟨_, rfl⟩
  have G2 : Gr S1 S2 := by rw [hS2]; exact Gr.app
  have q2 : S2[S1.length]? = some (.lst (((spotsL d).map tupI).drop 1)) := by rw [hS2]; simp
  have hd1 := G2.get (G1.get hd)
  have W1 := (W.mono G1).mono G2
  have nel : ld ≠ l := by
    rintro rfl
    have := W.at_
    rw [hd] at this
    cases this
  have W2 := fun c => W1.set nel (.dic c)
  have hlt := get_lt hd
  have hle : S.length ≤ S1.length := G1.le
  obtain ⟨kvs', y4, y5, y6, e2, M', hk'⟩ := half_in (P := P) (ml := T.I.ml) (ln := T.I.ln) (n + 1) h (S := S2) (l := l) (ld := ld) (m := S.length) (m2 := S1.length) M (fun c => (Td.line T h (W2 c) n).1) (fun c => (Td.line T h (W2 c) (n + 1)).2) hd1 hk hc (G2.get q1) q2 (by omega) (by omega) x0 (some (.loc S.length)) x4 x5 x6
  refine ⟨kvs', some (.loc S.length), y4, y5, y6, S2, ?_, G1.trans G2, M', hk'⟩
  unfold haIn at e2
  unfold haOut
  have q1' := G2.get q1
  clear W W1 W2 M M' hlt hle
  generalize ((spotsL d).map tupI).drop 1 = SD at *
  generalize (spotsL d).map tupI = SL at *
  simp (disch := walk_at "dv") [e1, q1, q1', hc1, ← hS2, q2, zipOf, e2]
theorem halves_ok (T : TW P) {sp : Nat} (hsp : P.fn[sp]? = some (fSpots T.I.ml T.I.fo T.I.ft)) (hf : P.fn[i]? = some (fHalves sp T.mw T.I.ml)) (n : Nat) {μ : Store} {l : Nat} {ls : List Nat} {tds : List Td} (hok : ∀ d ∈ tds, d.Ok) (R : RmX T μ l ls (tds.map Td.sp)) :
    ∃ kvs S, den P (n + 4) i [.loc l] μ = .ok (.loc μ.length) S ∧ Gr μ S ∧ S[μ.length]? = some (.dic kvs) ∧ HalfIs kvs (halvesF tds fun _ => none) := by
  obtain ⟨S0, hS0⟩ : ∃ S0, S0 = μ ++ [Cell.dic []] := ⟨_, rfl⟩
  have G0 : Gr μ S0 := by rw [hS0]; exact Gr.app
  have q0 : S0[μ.length]? = some (.dic []) := by rw [hS0]; simp
  obtain ⟨hm, e1⟩ := told_walls (n + 2) (R.mono G0)
  obtain ⟨S1, hS1⟩ : ∃ S1, S1 = S0 ++ [Cell.lst (ls.map PV.loc)] := ⟨_, rfl⟩
  rw [← hS1] at e1
  have G1 : Gr S0 S1 := by rw [hS1]; exact Gr.app
  have q1 : S1[S0.length]? = some (.lst (ls.map .loc)) := by rw [hS1]; simp
  have hlen : ls.length = tds.length := by have := R.len; rw [List.length_map] at this; exact this
  have h40 := R.le
  have hlt : μ.length < S0.length := get_lt q0
  obtain ⟨kvs, S, y2, y3, y4, y5, y6, e2, G2, q2, M, _⟩ : ∃ kvs S y2 y3 y4 y5 y6, forDen [(S0.length, ls.map PV.loc)] (.nm 2) (evSs P (den P (n + 3)) (haOut sp T.I.ml) none) (ls.map PV.loc) [some (.loc l), some (.loc μ.length), none, none, none, none, none] S1
      = .mk (.nx [some (.loc l), some (.loc μ.length), y2, y3, y4, y5, y6]) S ∧ Gr μ S ∧ S[μ.length]? = some (.dic kvs) ∧ HalfIs kvs (halvesF tds fun _ => none) ∧ True := by
    refine for_post (fun j ρ S => ∃ kvs y2 y3 y4 y5 y6, ρ = [some (.loc l), some (.loc μ.length), y2, y3, y4, y5, y6] ∧ Gr μ S ∧ S[μ.length]? = some (.dic kvs) ∧ S[S0.length]? = some (.lst (ls.map .loc)) ∧ HalfIs kvs (halvesF (tds.take j) fun _ => none) ∧ kvs.length ≤ 2001 * j)
      (fun r => ∃ kvs S y2 y3 y4 y5 y6, r = .mk (.nx [some (.loc l), some (.loc μ.length), y2, y3, y4, y5, y6]) S ∧ Gr μ S ∧ S[μ.length]? = some (.dic kvs) ∧ HalfIs kvs (halvesF tds fun _ => none) ∧ True)
      ⟨[], none, none, none, none, none, rfl, G0.trans G1, G1.get q0, q1, fun p => rfl, by simp⟩ ?_ ?_ ?_
    · rintro j ρ S ⟨kvs, y2, y3, y4, y5, y6, rfl, G, a1, a2, M, a3⟩
      exact stand_one a2
    · rintro ρ S ⟨kvs, y2, y3, y4, y5, y6, rfl, G, a1, a2, M, a3⟩
      rw [List.length_map, hlen, List.take_length] at M
      exact ⟨kvs, S, y2, y3, y4, y5, y6, rfl, G, a1, M, trivial⟩
    · rintro j ρ S v hv ⟨kvs, y2, y3, y4, y5, y6, rfl, G, a1, a2, M, a3⟩
      rw [List.getElem?_map] at hv
      obtain ⟨lw, hlw, rfl⟩ := Option.map_eq_some_iff.mp hv
      have hj := (List.getElem?_eq_some_iff.mp hlw).1
      have hjt : j < tds.length := by omega
      have hdj : tds[j]? = some tds[j] := List.getElem?_eq_getElem hjt
      have dok := hok _ (List.getElem_mem hjt)
      have W := (R.mono G).wx j lw tds[j].sp hlw (by rw [List.getElem?_map, hdj]; rfl)
      obtain ⟨kvs', z3, z4, z5, z6, S', e, G', M', hk'⟩ := half_wall T hsp n dok (c := 2001 * j) M W a1 a3 (by omega) (some (.loc l)) y3 y4 y5 y6
      refine ⟨[some (.loc l), some (.loc μ.length), some (.loc lw), y3, y4, y5, y6], by simp, .inl ⟨_, _, .inl e, kvs', _, _, _, _, _, rfl, (G.trans G').set (Nat.le_refl _) _, get_set_eq (G'.get a1), get_set_ne (G'.get a2) (by omega), ?_, by omega⟩⟩
      rw [List.take_succ, hdj]
      unfold halvesF at M' ⊢
      rw [Option.toList_some, List.foldl_append]
      exact M'
  refine ⟨kvs, S, ?_, G2, q2, M⟩
  rw [den_at hf rfl]
  show (evSs P (den P (n + 3)) (fHalves sp T.mw T.I.ml).body none [some (.loc l), none, none, none, none, none, none] μ).out = _
  unfold fHalves
  unfold haOut at e2
  clear M
  generalize ls.map PV.loc = LL at *
  simp (disch := walk_at "dv") [← hS0, hm, e1, q1, e2]
/-! ### sign_of -/
def fSignOf : Fn := ⟨2, 1, [.ifs (.val (.cmp .eq (.var 0) (.con (.int 0)))) [.ret (.con (.str "."))] [], .for (.nm 1) (.rng [.con (.int 4)]) [.ifs (.val (.cmp .eq (.var 0) (.bin .shl (.con (.int 17)) (.var 1)))) [.ret (.idx (.con (.str "-/|\\")) (.var 1))] []], .ret (.con (.str "+"))]⟩
theorem lit_dot : ("." : Str) = ⟨#[46]⟩ := by decide +kernel
theorem lit_plus : ("+" : Str) = ⟨#[43]⟩ := by decide +kernel
def sgB : List IS := [.ifs (.val (.cmp .eq (.var 0) (.bin .shl (.con (.int 17)) (.var 1)))) [.ret (.idx (.con (.str "-/|\\")) (.var 1))] []]
theorem signOf_ok (hf : P.fn[i]? = some fSignOf) (n : Nat) (b : Nat) (μ : Store) : den P (n + 1) i [.int ((b : Nat) : Int)] μ = .ok (signPV (signB b)) μ := by
  have hr := rng_nat (L := 4) (by decide) (by decide)
  have hr : rngOf [.int 4] = some [.int 0, .int 1, .int 2, .int 3] := hr
  have ld : PV.str ("." : Str) = signPV 46 := by rw [lit_dot]; rfl
  have lp : PV.str ("+" : Str) = signPV 43 := by rw [lit_plus]; rfl
  have sh : ∀ k : Int, 0 ≤ k → k < 4 → binV .shl (.int 17) (.int k) μ = .ok (.int ((17 * 2 ^ k.toNat : Nat) : Int)) μ := fun k h0 h4 => shl_ 17 k h0 (by omega) (by omega) μ
  have s0 : binV .shl (.int 17) (.int 0) μ = .ok (.int 17) μ := sh 0 (by decide) (by decide)
  have s1 : binV .shl (.int 17) (.int 1) μ = .ok (.int 34) μ := sh 1 (by decide) (by decide)
  have s2 : binV .shl (.int 17) (.int 2) μ = .ok (.int 68) μ := sh 2 (by decide) (by decide)
  have s3 : binV .shl (.int 17) (.int 3) μ = .ok (.int 136) μ := sh 3 (by decide) (by decide)
  have i0 : idxV (.str ("-/|\\" : Str)) (.int 0) μ = .ok (signPV 45) μ := idx_signs (by decide) (by decide) μ
  have i1 : idxV (.str ("-/|\\" : Str)) (.int 1) μ = .ok (signPV 47) μ := idx_signs (by decide) (by decide) μ
  have i2 : idxV (.str ("-/|\\" : Str)) (.int 2) μ = .ok (signPV 124) μ := idx_signs (by decide) (by decide) μ
  have i3 : idxV (.str ("-/|\\" : Str)) (.int 3) μ = .ok (signPV 92) μ := idx_signs (by decide) (by decide) μ
  rw [den_at hf rfl]
  show (evSs P (den P n) fSignOf.body none [some (.int ((b : Nat) : Int)), none] μ).out = _
  have B : ∀ (k : Int) (x1 : Option PV) (c : Nat) (s : Nat), binV .shl (.int 17) (.int k) μ = .ok (.int (c : Int)) μ → idxV (.str ("-/|\\" : Str)) (.int k) μ = .ok (signPV s) μ →
      evSs P (den P n) sgB none [some (.int ((b : Nat) : Int)), some (.int k)] μ = if b = c then .mk (.rt (signPV s)) μ else .mk (.nx [some (.int ((b : Nat) : Int)), some (.int k)]) μ := by
    intro k x1 c s h1 h2
    unfold sgB
    by_cases z : b = c
    · have : (b : Int) = (c : Int) := by rw [z]
      rw [if_pos z]
      simp [h1, h2, this]
    · have : ¬ (b : Int) = (c : Int) := by omega
      rw [if_neg z]
      simp [h1, h2, this]
  have F : b ≠ 0 → forDen [] (.nm 1) (evSs P (den P n) sgB none) [.int 0, .int 1, .int 2, .int 3] [some (.int ((b : Nat) : Int)), none] μ = if b = 17 ∨ b = 34 ∨ b = 68 ∨ b = 136 then .mk (.rt (signPV (signB b))) μ else .mk (.nx [some (.int ((b : Nat) : Int)), some (.int 3)]) μ := by
    intro hb
    have B0 := B 0 none 17 45 s0 i0
    have B1 := B 1 none 34 47 s1 i1
    have B2 := B 2 none 68 124 s2 i2
    have B3 := B 3 none 136 92 s3 i3
    unfold signB
    rw [if_neg hb]
    by_cases z0 : b = 17
    · rw [if_pos z0] at B0
      rw [if_pos (.inl z0), if_pos z0]
      simp [forDen, stand_nil, B0]
    rw [if_neg z0] at B0
    by_cases z1 : b = 34
    · rw [if_pos z1] at B1
      rw [if_pos (.inr (.inl z1)), if_neg z0, if_pos z1]
      simp [forDen, stand_nil, B0, B1]
    rw [if_neg z1] at B1
    by_cases z2 : b = 68
    · rw [if_pos z2] at B2
      rw [if_pos (.inr (.inr (.inl z2))), if_neg z0, if_neg z1, if_pos z2]
      simp [forDen, stand_nil, B0, B1, B2]
    rw [if_neg z2] at B2
    by_cases z3 : b = 136
    · rw [if_pos z3] at B3
      rw [if_pos (.inr (.inr (.inr z3))), if_neg z0, if_neg z1, if_neg z2, if_pos z3]
      simp [forDen, stand_nil, B0, B1, B2, B3]
    rw [if_neg z3] at B3
    rw [if_neg (by omega)]
    simp [forDen, stand_nil, B0, B1, B2, B3]
  unfold sgB at F
  unfold fSignOf
  by_cases z : b = 0
  · have : (b : Int) = 0 := by omega
    have e : signB b = 46 := by rw [z]; rfl
    rw [e]
    simp [this, ld]
  · have : ¬ (b : Int) = 0 := by omega
    have F := F z
    by_cases z2 : b = 17 ∨ b = 34 ∨ b = 68 ∨ b = 136
    · rw [if_pos z2] at F
      generalize ((b : Nat) : Int) = B at *
      simp [this, hr, F]
    · rw [if_neg z2] at F
      have e : signB b = 43 := by
        unfold signB
        rw [if_neg z, if_neg (by omega), if_neg (by omega), if_neg (by omega), if_neg (by omega)]
      rw [e]
      generalize ((b : Nat) : Int) = B at *
      simp [this, hr, F, lp]
end
end BW
set_option maxHeartbeats 8000000
local macro_rules | `(tactic| walk_at "dv") => `(tactic| first | assumption | (apply_assumption; done) | exact BW.mulOk_of _ _ (by decide) | exact BW.divOk_of _ _ (by first | decide | assumption | omega) (by decide) | decide | omega | (refine BW.le_size' ?_; first | omega | (simp only [List.length_cons, List.length_nil, List.length_append, List.length_map]; omega)) | simp)
namespace BW
open PySem PySem.Spec PyProof.Rows L2
section
variable {P : Prog} {i : Nat}
theorem s_for_rng {D : Den} {xv : Option PX} {ρ : BW.Env} {μ M : Store} {t : Tg} {b : List IS} {e : IE} {hi : Int} {its : List PV} (h : evE P D xv e ρ μ = .ok (.int hi) M) (hr : rngOf [.int hi] = some its) : evS P D (.for t (.rng [e]) b) xv ρ μ = forDen [] t (evSs P D b xv) its ρ M := by
  have e2 : evEs P D xv [e] ρ μ = .ok [.int hi] M := by
    rw [es_cons, h, Res.bind_ok, kCons_, es_nil, Res.bind_ok, kCons2_]
  have e3 : ∀ o : Option (List PV), o = some its → Res.ofO (o.map fun vs => (vs, ([] : Sts))) M = .ok (its, []) M := fun o ho => by rw [ho]; rfl
  rw [s_for, i_rng, e2, Res.bind_ok, kRng_, e3 _ hr, Res.st_ok, kFor_]
theorem s_for_rrng {D : Den} {xv : Option PX} {ρ : BW.Env} {μ M : Store} {t : Tg} {b : List IS} {e : IE} {hi : Int} {its : List PV} (h : evE P D xv e ρ μ = .ok (.int hi) M) (hr : rrngOf [.int hi] = some its) : evS P D (.for t (.rrng [e]) b) xv ρ μ = forDen [] t (evSs P D b xv) its ρ M := by
  have e2 : evEs P D xv [e] ρ μ = .ok [.int hi] M := by
    rw [es_cons, h, Res.bind_ok, kCons_, es_nil, Res.bind_ok, kCons2_]
  have e3 : ∀ o : Option (List PV), o = some its → Res.ofO (o.map fun vs => (vs, ([] : Sts))) M = .ok (its, []) M := fun o ho => by rw [ho]; rfl
  rw [s_for, i_rrng, e2, Res.bind_ok, kRrng_, e3 _ hr, Res.st_ok, kFor_]
def rowB (sg : Nat) : List IS := [.ifs (.and (.val (.cmp .eq (.bin .mod (.var 11) (.con (.int 2))) (.con (.int 0)))) (.val (.cmp .eq (.bin .mod (.var 9) (.con (.int 2))) (.con (.int 0))))) [.set 10 (.bin .add (.var 10) (.call sg [.bm .get (.var 6) [.tup [.bin .fdiv (.var 11) (.con (.int 2)), .bin .fdiv (.var 9) (.con (.int 2))], .con (.int 0)]]))] [.set 10 (.bin .add (.var 10) (.bm .get (.var 7) [.tup [.var 11, .var 9], .con (.str " ")]))]]
theorem lit_sp : ("\x20" : Str) = ⟨#[32]⟩ := by decide +kernel
theorem row_step {sg : Nat} (hsg : P.fn[sg]? = some fSignOf) (n : Nat) {tds : List Td} {S : Store} {lm lh : Nat} {km kh : List (List Int × PV)} (hm : S[lm]? = some (.dic km)) (M : MaskIs km (masksF tds fun _ => 0)) (hh : S[lh]? = some (.dic kh)) (H : HalfIs kh (halvesF tds fun _ => none))
    (X Y : Int) (L : List Nat) (hL : L.length ≤ 1000) (bX : Bd X 20) (bY : Bd Y 20) (x0 x1 x2 x3 x4 x5 x8 : Option PV) :
    evSs P (den P (n + 1)) (rowB sg) none [x0, x1, x2, x3, x4, x5, some (.loc lm), some (.loc lh), x8, some (.int Y), some (.str (txt L)), some (.int X)] S = .mk (.nx [x0, x1, x2, x3, x4, x5, some (.loc lm), some (.loc lh), x8, some (.int Y), some (.str (txt (L ++ [progSign tds X Y]))), some (.int X)]) S := by
  have ad : ∀ c, binV .add (.str (txt L)) (signPV c) S = .ok (.str (txt (L ++ [c]))) S := fun c => add_t S L [c] (by simp; omega)
  obtain ⟨m1, m2⟩ := get_dic hm [X.fdiv 2, Y.fdiv 2] (.int 0)
  rw [M.get] at m2
  obtain ⟨h1, h2⟩ := get_dic hh [X, Y] (.str ("\x20" : Str))
  have hd : (dlook [X, Y] kh).getD (.str ("\x20" : Str)) = signPV ((halvesF tds (fun _ => none) [X, Y]).getD 32) := by
    rw [H [X, Y], lit_sp]
    cases halvesF tds (fun _ => none) [X, Y] <;> rfl
  rw [hd] at h2
  have es := signOf_ok hsg n (masksF tds (fun _ => 0) [X.fdiv 2, Y.fdiv 2]) S
  simp only [List.map_cons, List.map_nil] at m2 h2
  have dX : divOk X 2 := divOk_of _ _ (by decide) (by decide)
  have dY : divOk Y 2 := divOk_of _ _ (by decide) (by decide)
  unfold progSign
  unfold rowB
  clear M H hd bX bY
  generalize ((masksF tds (fun _ => 0) [X.fdiv 2, Y.fdiv 2] : Nat) : Int) = mk at *
  generalize signB (masksF tds (fun _ => 0) [X.fdiv 2, Y.fdiv 2]) = sb at *
  generalize (halvesF tds (fun _ => none) [X, Y]).getD 32 = sh at *
  by_cases z1 : X.fmod 2 = 0
  · by_cases z2 : Y.fmod 2 = 0
    · rw [if_pos ⟨z1, z2⟩]
      have a1 := ad sb
      clear ad hL
      generalize txt (L ++ [sb]) = T1 at *
      generalize txt L = T at *
      simp (disch := walk_at "dv") [z1, z2, m1, m2, dX, dY, es, a1]
    · rw [if_neg (fun q => z2 q.2)]
      have a1 := ad sh
      clear ad hL
      generalize txt (L ++ [sh]) = T1 at *
      generalize txt L = T at *
      simp (disch := walk_at "dv") [z1, z2, h1, h2, a1]
  · rw [if_neg (fun q => z1 q.1)]
    have a1 := ad sh
    clear ad hL
    generalize txt (L ++ [sh]) = T1 at *
    generalize txt L = T at *
    simp (disch := walk_at "dv") [z1, h1, h2, a1]
def rowL (tds : List Td) (w : Nat) (Y : Int) : List Nat := (List.range (2 * w + 1)).map fun X : Nat => progSign tds (X : Int) Y
theorem row_loop {sg : Nat} (hsg : P.fn[sg]? = some fSignOf) (n : Nat) {tds : List Td} {S : Store} {lm lh : Nat} {km kh : List (List Int × PV)} (hm : S[lm]? = some (.dic km)) (M : MaskIs km (masksF tds fun _ => 0)) (hh : S[lh]? = some (.dic kh)) (H : HalfIs kh (halvesF tds fun _ => none))
    (w : Nat) (hw : w ≤ 40) (Y : Int) (bY : Bd Y 20) (x0 x1 x2 x3 x4 x5 x8 x11 : Option PV) :
    ∃ y11, forDen [] (.nm 11) (evSs P (den P (n + 1)) (rowB sg) none) ((List.range (2 * w + 1)).map fun j : Nat => PV.int (j : Int)) [x0, x1, x2, x3, x4, x5, some (.loc lm), some (.loc lh), x8, some (.int Y), some (.str (txt [])), x11] S = .mk (.nx [x0, x1, x2, x3, x4, x5, some (.loc lm), some (.loc lh), x8, some (.int Y), some (.str (txt (rowL tds w Y))), y11]) S := by
  have hlen : ((List.range (2 * w + 1)).map fun j : Nat => PV.int (j : Int)).length = 2 * w + 1 := by simp
  refine for_post (fun j ρ S' => S' = S ∧ ∃ y11, ρ = [x0, x1, x2, x3, x4, x5, some (.loc lm), some (.loc lh), x8, some (.int Y), some (.str (txt ((List.range j).map fun X : Nat => progSign tds (X : Int) Y))), y11])
    (fun r => ∃ y11, r = .mk (.nx [x0, x1, x2, x3, x4, x5, some (.loc lm), some (.loc lh), x8, some (.int Y), some (.str (txt (rowL tds w Y))), y11]) S) ⟨rfl, x11, rfl⟩ (fun _ _ _ _ => stand_nil) ?_ ?_
  · rintro ρ S' ⟨rfl, y11, rfl⟩
    rw [hlen]
    exact ⟨y11, rfl⟩
  · rintro j ρ S' v hv ⟨rfl, y11, rfl⟩
    have hj := (List.getElem?_eq_some_iff.mp hv).1
    rw [hlen] at hj
    rw [List.getElem?_map, List.getElem?_range hj] at hv
    cases hv
    have e := row_step hsg n hm M hh H (j : Int) Y ((List.range j).map fun X : Nat => progSign tds (X : Int) Y) (by rw [List.length_map, List.length_range]; omega) ⟨by omega⟩ bY x0 x1 x2 x3 x4 x5 x8
    refine ⟨_, asg_nm S' 11 _ _, .inl ⟨_, S', .inl e, rfl, some (.int (j : Int)), ?_⟩⟩
    rw [List.range_succ, List.map_append]
    rfl
def rowsBd (sg : Nat) : List IS := [.set 10 (.con (.str "")), .for (.nm 11) (.rng [.bin .add (.bin .mul (.con (.int 2)) (.var 1)) (.con (.int 1))]) (rowB sg), .ex (.bm .append (.var 8) [.var 10])]
def rowsL (tds : List Td) (w h : Nat) : List PV := (List.range (2 * h + 1)).map fun k : Nat => PV.str (txt (rowL tds w (2 * (h : Int) - (k : Int))))
theorem rows_step {sg : Nat} (hsg : P.fn[sg]? = some fSignOf) (n : Nat) {tds : List Td} {S : Store} {lm lh lr : Nat} {km kh : List (List Int × PV)} (hm : S[lm]? = some (.dic km)) (M : MaskIs km (masksF tds fun _ => 0)) (hh : S[lh]? = some (.dic kh)) (H : HalfIs kh (halvesF tds fun _ => none))
    (w : Nat) (hw : w ≤ 40) (Y : Int) (bY : Bd Y 20) {rs : List PV} (hr : S[lr]? = some (.lst rs)) (hrl : rs.length ≤ 1000) (x0 x2 x3 x4 x5 x10 x11 : Option PV) :
    ∃ y11, evSs P (den P (n + 1)) (rowsBd sg) none [x0, some (.int (w : Int)), x2, x3, x4, x5, some (.loc lm), some (.loc lh), some (.loc lr), some (.int Y), x10, x11] S = .mk (.nx [x0, some (.int (w : Int)), x2, x3, x4, x5, some (.loc lm), some (.loc lh), some (.loc lr), some (.int Y), some (.str (txt (rowL tds w Y))), y11]) (S.set lr (.lst (rs ++ [.str (txt (rowL tds w Y))]))) := by
  obtain ⟨y11, e⟩ := row_loop hsg n hm M hh H w hw Y bY x0 (some (.int (w : Int))) x2 x3 x4 x5 (some (.loc lr)) x11
  refine ⟨y11, ?_⟩
  have hrng := rng_nat (L := 2 * (w : Int) + 1) (by omega) (by omega)
  rw [show (2 * (w : Int) + 1).toNat = 2 * w + 1 by omega] at hrng
  have ap := appL_ (μ := S) lr (.str (txt (rowL tds w Y))) rs (by omega)
  rw [← lit_no] at e
  have bw : Bd (w : Int) 20 := ⟨by omega⟩
  have m1 : mulOk 2 (w : Int) := mulOk_of _ _ (by decide)
  have he : evE P (den P (n + 1)) none (.bin .add (.bin .mul (.con (.int 2)) (.var 1)) (.con (.int 1))) [x0, some (.int (w : Int)), x2, x3, x4, x5, some (.loc lm), some (.loc lh), some (.loc lr), some (.int Y), some (.str ("" : Str)), x11] S = .ok (.int (2 * (w : Int) + 1)) S := by
    clear hrng e
    generalize (w : Int) = W at *
    simp (disch := walk_at "dv") [m1]
  have hf := s_for_rng (t := .nm 11) (b := rowB sg) he hrng
  rw [e] at hf
  unfold rowsBd
  clear M H he hrng e
  generalize txt (rowL tds w Y) = T at *
  generalize (w : Int) = W at *
  generalize rowB sg = RB at *
  simp (disch := walk_at "dv") [-s_for, hf, hr, ap]
/-! ### does it fit -/
def outP (a b w h : Int) : Prop := a < 0 ∨ w < a ∨ b < 0 ∨ h < b
instance (a b w h : Int) : Decidable (outP a b w h) := inferInstanceAs (Decidable (_ ∨ _))
def fitsP (d : Td) (w h : Int) : Prop := ¬ outP d.x d.y w h ∧ ¬ outP d.f.u d.f.v w h
instance (d : Td) (w h : Int) : Decidable (fitsP d w h) := inferInstanceAs (Decidable (_ ∧ _))
def fitIn (ob : Nat) : List IS := [.ifs (.or (.val (.cmp .lt (.var 4) (.con (.int 0)))) (.or (.val (.cmp .gt (.var 4) (.var 1))) (.or (.val (.cmp .lt (.var 5) (.con (.int 0)))) (.val (.cmp .gt (.var 5) (.var 2)))))) [.raise ob []] []]
theorem fit_end {ob : Nat} {C : Cl} (hC : P.cl[ob]? = some C) (hx : C.exf = []) (D : Den) (a b w h : Int) (S : Store) (x0 x3 : Option PV) (r : List (Option PV)) :
    evSs P D (fitIn ob) none (x0 :: some (.int w) :: some (.int h) :: x3 :: some (.int a) :: some (.int b) :: r) S = if outP a b w h then .mk (.ex ⟨ob, []⟩ (x0 :: some (.int w) :: some (.int h) :: x3 :: some (.int a) :: some (.int b) :: r)) S else .mk (.nx (x0 :: some (.int w) :: some (.int h) :: x3 :: some (.int a) :: some (.int b) :: r)) S := by
  have er := fun ρ => s_raise P D none ρ S hC hx
  unfold fitIn
  by_cases z1 : a < 0
  · rw [if_pos (show outP a b w h from .inl z1)]; simp [z1, er]
  by_cases z2 : w < a
  · rw [if_pos (show outP a b w h from .inr (.inl z2))]; simp [z1, z2, er]
  by_cases z3 : b < 0
  · rw [if_pos (show outP a b w h from .inr (.inr (.inl z3)))]; simp [z1, z2, z3, er]
  by_cases z4 : h < b
  · rw [if_pos (show outP a b w h from .inr (.inr (.inr z4)))]; simp [z1, z2, z3, z4, er]
  rw [if_neg (show ¬ outP a b w h by unfold outP; omega)]
  simp [z1, z2, z3, z4]
def fitB (ob fo ft : Nat) : List IS := [.for (.tup [(.nm 4), (.nm 5)]) (.seq (.tup [.fld (.var 3) fo, .fld (.var 3) ft])) (fitIn ob)]
theorem fit_wall (T : TW P) {ob : Nat} {C : Cl} (hC : P.cl[ob]? = some C) (hx : C.exf = []) (D : Den) {d : Td} {S : Store} {l : Nat} (W : WlX T S l d.sp.1 d.sp.2) (w h : Int) (x0 x4 x5 : Option PV) (r : List (Option PV)) :
    ∃ y4 y5, (fitsP d w h ∧ evSs P D (fitB ob T.I.fo T.I.ft) none (x0 :: some (.int w) :: some (.int h) :: some (.loc l) :: x4 :: x5 :: r) S = .mk (.nx (x0 :: some (.int w) :: some (.int h) :: some (.loc l) :: y4 :: y5 :: r)) S) ∨ (¬ fitsP d w h ∧ evSs P D (fitB ob T.I.fo T.I.ft) none (x0 :: some (.int w) :: some (.int h) :: some (.loc l) :: x4 :: x5 :: r) S = .mk (.ex ⟨ob, []⟩ (x0 :: some (.int w) :: some (.int h) :: some (.loc l) :: y4 :: y5 :: r)) S) := by
  have ha := W.at_
  have f1 : look T.I.fo (T.fs d.sp.1 d.sp.2) = some (.tup [.int d.x, .int d.y]) := TW.fo_ _ _
  have f2 : look T.I.ft (T.fs d.sp.1 d.sp.2) = some (.tup [.int d.f.u, .int d.f.v]) := TW.ft_ _ _
  have e1 := fit_end hC hx D d.x d.y w h S x0 (some (.loc l)) r
  have e2 := fit_end hC hx D d.f.u d.f.v w h S x0 (some (.loc l)) r
  unfold fitB fitsP
  clear W
  generalize T.fs d.sp.1 d.sp.2 = FS at *
  generalize d.f.u = u at *
  generalize d.f.v = v at *
  generalize d.x = x at *
  generalize d.y = y at *
  generalize fitIn ob = FI at *
  by_cases z1 : outP x y w h
  · rw [if_pos z1] at e1
    refine ⟨some (.int x), some (.int y), .inr ⟨fun q => q.1 z1, ?_⟩⟩
    simp [ha, f1, f2, seqOf, forDen, stand_nil, e1]
  · rw [if_neg z1] at e1
    by_cases z2 : outP u v w h
    · rw [if_pos z2] at e2
      refine ⟨some (.int u), some (.int v), .inr ⟨fun q => q.2 z2, ?_⟩⟩
      simp [ha, f1, f2, seqOf, forDen, stand_nil, e1, e2]
    · rw [if_neg z2] at e2
      refine ⟨some (.int u), some (.int v), .inl ⟨⟨z1, z2⟩, ?_⟩⟩
      simp [ha, f1, f2, seqOf, forDen, stand_nil, e1, e2]
theorem fit_loop (T : TW P) {ob : Nat} {C : Cl} (hC : P.cl[ob]? = some C) (hx : C.exf = []) (D : Den) {S : Store} {l lw : Nat} {ls : List Nat} {tds : List Td} (R : RmX T S l ls (tds.map Td.sp)) (hl : S[lw]? = some (.lst (ls.map .loc))) (w h : Int) (x0 x3 x4 x5 : Option PV) (r : List (Option PV)) :
    ((∀ d ∈ tds, fitsP d w h) ∧ ∃ y3 y4 y5, forDen [(lw, ls.map PV.loc)] (.nm 3) (evSs P D (fitB ob T.I.fo T.I.ft) none) (ls.map PV.loc) (x0 :: some (.int w) :: some (.int h) :: x3 :: x4 :: x5 :: r) S = .mk (.nx (x0 :: some (.int w) :: some (.int h) :: y3 :: y4 :: y5 :: r)) S) ∨
    ((¬ ∀ d ∈ tds, fitsP d w h) ∧ ∃ ρ, forDen [(lw, ls.map PV.loc)] (.nm 3) (evSs P D (fitB ob T.I.fo T.I.ft) none) (ls.map PV.loc) (x0 :: some (.int w) :: some (.int h) :: x3 :: x4 :: x5 :: r) S = .mk (.ex ⟨ob, []⟩ ρ) S) := by
  have hlen : ls.length = tds.length := by have := R.len; rw [List.length_map] at this; exact this
  refine for_postX (fun j ρ S' => S' = S ∧ (∀ d ∈ tds.take j, fitsP d w h) ∧ ∃ y3 y4 y5, ρ = x0 :: some (.int w) :: some (.int h) :: y3 :: y4 :: y5 :: r)
    (fun q => ((∀ d ∈ tds, fitsP d w h) ∧ ∃ y3 y4 y5, q = .mk (.nx (x0 :: some (.int w) :: some (.int h) :: y3 :: y4 :: y5 :: r)) S) ∨ ((¬ ∀ d ∈ tds, fitsP d w h) ∧ ∃ ρ, q = .mk (.ex ⟨ob, []⟩ ρ) S))
    ⟨rfl, fun d hd => (by simp at hd), x3, x4, x5, rfl⟩ ?_ ?_ ?_
  · rintro j ρ S' ⟨rfl, _⟩
    exact stand_one hl
  · rintro ρ S' ⟨rfl, h1, y3, y4, y5, rfl⟩
    rw [List.length_map, hlen, List.take_length] at h1
    exact .inl ⟨h1, y3, y4, y5, rfl⟩
  · rintro j ρ S' v hv ⟨rfl, h1, y3, y4, y5, rfl⟩
    rw [List.getElem?_map] at hv
    obtain ⟨lx, hlx, rfl⟩ := Option.map_eq_some_iff.mp hv
    have hj := (List.getElem?_eq_some_iff.mp hlx).1
    have hjt : j < tds.length := by omega
    have hdj : tds[j]? = some tds[j] := List.getElem?_eq_getElem hjt
    have W := R.wx j lx tds[j].sp hlx (by rw [List.getElem?_map, hdj]; rfl)
    obtain ⟨z4, z5, e | e⟩ := fit_wall T hC hx D W w h x0 y4 y5 r
    · refine ⟨_, asg_nm S' 3 _ _, .inl ⟨_, S', .inl e.2, rfl, fun d hd => ?_, _, _, _, rfl⟩⟩
      rw [List.take_succ, hdj, Option.toList_some, List.mem_append, List.mem_singleton] at hd
      rcases hd with hd | rfl
      · exact h1 d hd
      · exact e.1
    · exact ⟨_, asg_nm S' 3 _ _, .inr (.inr (.inr ⟨_, _, S', e.2, .inr ⟨fun q => e.1 (q _ (List.getElem_mem hjt)), _, rfl⟩⟩))⟩
/-! ### drawn -/
def fDrawn (tm ob mw fo ft ma ha sg : Nat) : Fn := ⟨12, 3, [.ifs (.or (.val (.cmp .gt (.var 1) (.con (.int 40)))) (.val (.cmp .gt (.var 2) (.con (.int 40))))) [.raise tm []] [], .for (.nm 3) (.seq (.meth mw (.var 0) [])) (fitB ob fo ft), .set 6 (.call ma [.var 0]), .set 7 (.call ha [.var 0]), .set 8 (.lst []), .for (.nm 9) (.rrng [.bin .add (.bin .mul (.con (.int 2)) (.var 2)) (.con (.int 1))]) (rowsBd sg), .ret (.var 8)]⟩
theorem drawn_many {tm ob mw fo ft ma ha sg : Nat} {C : Cl} (hC : P.cl[tm]? = some C) (hx : C.exf = []) (hf : P.fn[i]? = some (fDrawn tm ob mw fo ft ma ha sg)) (n : Nat) {l : Nat} {w h : Int} (z : 40 < w ∨ 40 < h) (μ : Store) : den P (n + 1) i [.loc l, .int w, .int h] μ = .ex ⟨tm, []⟩ μ := by
  rw [den_at hf rfl]
  show (evSs P (den P n) (fDrawn tm ob mw fo ft ma ha sg).body none [some (.loc l), some (.int w), some (.int h), none, none, none, none, none, none, none, none, none] μ).out = _
  unfold fDrawn
  have er := fun ρ => s_raise P (den P n) none ρ μ hC hx
  by_cases z1 : 40 < w
  · simp [z1, er]
  · have z2 : 40 < h := by omega
    simp [z1, z2, er]
theorem rrngOf_one {hi : Int} (h3 : -(2 ^ 62) ≤ hi) (h4 : hi < 2 ^ 62) : rrngOf [.int hi] = some (rngV (0 + (hi.toNat : Nat) - 1) (-1) hi.toNat) := if_pos (show rng1 0 hi from ⟨by decide, by decide, h3, h4⟩)
theorem rrng_nat {L : Nat} (h : L ≤ 100) : rrngOf [.int (2 * (L : Int) + 1)] = some ((List.range (2 * L + 1)).map fun k : Nat => PV.int (2 * (L : Int) - (k : Int))) := by
  have := rrngOf_one (hi := 2 * (L : Int) + 1) (by omega) (by omega)
  rw [this, show (2 * (L : Int) + 1).toNat = 2 * L + 1 by omega]
  unfold rngV
  refine congrArg some (List.map_congr_left fun k _ => congrArg PV.int ?_)
  omega
theorem drawn_ok (T : TW P) {ob sp ma ha sg : Nat} {C : Cl} (hC : P.cl[ob]? = some C) (hx : C.exf = []) (hsp : P.fn[sp]? = some (fSpots T.I.ml T.I.fo T.I.ft)) (hma : P.fn[ma]? = some (fMasks sp T.mw T.I.ml)) (hha : P.fn[ha]? = some (fHalves sp T.mw T.I.ml)) (hsg : P.fn[sg]? = some fSignOf) {tm : Nat} (hf : P.fn[i]? = some (fDrawn tm ob T.mw T.I.fo T.I.ft ma ha sg)) (n : Nat)
    {μ : Store} {l : Nat} {ls : List Nat} {tds : List Td} (hok : ∀ d ∈ tds, d.Ok) (R : RmX T μ l ls (tds.map Td.sp)) {w h : Nat} (hw : w ≤ 40) (hh : h ≤ 40) :
    ((∀ d ∈ tds, fitsP d w h) ∧ ∃ m S, den P (n + 5) i [.loc l, .int (w : Int), .int (h : Int)] μ = .ok (.loc m) S ∧ Gr μ S ∧ S[m]? = some (.lst (rowsL tds w h))) ∨
    ((¬ ∀ d ∈ tds, fitsP d w h) ∧ ∃ S, den P (n + 5) i [.loc l, .int (w : Int), .int (h : Int)] μ = .ex ⟨ob, []⟩ S ∧ Gr μ S) := by
  obtain ⟨hmw, e1⟩ := told_walls (n + 3) R
  obtain ⟨S1, hS1⟩ : ∃ S1, S1 = μ ++ [Cell.lst (ls.map PV.loc)] := ⟨_, rfl⟩
  rw [← hS1] at e1
  have G1 : Gr μ S1 := by rw [hS1]; exact Gr.app
  have q1 : S1[μ.length]? = some (.lst (ls.map .loc)) := by rw [hS1]; simp
  have nw : ¬ 40 < (w : Int) := by omega
  have nh : ¬ 40 < (h : Int) := by omega
  rw [den_at hf rfl]
  show (_ ∧ ∃ m S, (evSs P (den P (n + 4)) (fDrawn tm ob T.mw T.I.fo T.I.ft ma ha sg).body none [some (.loc l), some (.int (w : Int)), some (.int (h : Int)), none, none, none, none, none, none, none, none, none] μ).out = _ ∧ _) ∨ (_ ∧ ∃ S, (evSs P (den P (n + 4)) (fDrawn tm ob T.mw T.I.fo T.I.ft ma ha sg).body none [some (.loc l), some (.int (w : Int)), some (.int (h : Int)), none, none, none, none, none, none, none, none, none] μ).out = _ ∧ _)
  rcases fit_loop T hC hx (den P (n + 4)) (R.mono G1) q1 w h (some (.loc l)) none none none [none, none, none, none, none, none] with ⟨hfit, y3, y4, y5, e2⟩ | ⟨hfit, ρ, e2⟩
  rotate_left
  · refine .inr ⟨hfit, S1, ?_, G1⟩
    unfold fDrawn
    generalize (w : Int) = W at *
    generalize (h : Int) = H at *
    generalize ls.map PV.loc = LL at *
    simp (disch := walk_at "dv") [nw, nh, hmw, e1, q1, e2]
  obtain ⟨km, S2, e3, G2, q2, M⟩ := masks_ok T hsp hma n hok (R.mono G1)
  obtain ⟨kh, S3, e4, G3, q3, H⟩ := halves_ok T hsp hha n hok ((R.mono G1).mono G2)
  obtain ⟨S4, hS4⟩ : ∃ S4, S4 = S3 ++ [Cell.lst []] := ⟨_, rfl⟩
  have G4 : Gr S3 S4 := by rw [hS4]; exact Gr.app
  have q4 : S4[S3.length]? = some (.lst []) := by rw [hS4]; simp
  have hr := rrng_nat (L := h) (by omega)
  have q2' := G3.get q2
  have l1 := get_lt q2'
  have l2 := get_lt q3
  obtain ⟨S5, y9, y10, y11, e5, G5, q5⟩ : ∃ S5 y9 y10 y11, forDen [] (.nm 9) (evSs P (den P (n + 4)) (rowsBd sg) none) ((List.range (2 * h + 1)).map fun k : Nat => PV.int (2 * (h : Int) - (k : Int))) [some (.loc l), some (.int (w : Int)), some (.int (h : Int)), y3, y4, y5, some (.loc S1.length), some (.loc S2.length), some (.loc S3.length), none, none, none] S4
      = .mk (.nx [some (.loc l), some (.int (w : Int)), some (.int (h : Int)), y3, y4, y5, some (.loc S1.length), some (.loc S2.length), some (.loc S3.length), y9, y10, y11]) S5 ∧ Gr μ S5 ∧ S5[S3.length]? = some (.lst (rowsL tds w h)) := by
    have hlen : ((List.range (2 * h + 1)).map fun k : Nat => PV.int (2 * (h : Int) - (k : Int))).length = 2 * h + 1 := by simp
    have hle : μ.length ≤ S3.length := ((G1.trans G2).trans G3).le
    refine for_post (fun j ρ S => Gr μ S ∧ S[S1.length]? = some (.dic km) ∧ S[S2.length]? = some (.dic kh) ∧ S[S3.length]? = some (.lst ((List.range j).map fun k : Nat => PV.str (txt (rowL tds w (2 * (h : Int) - (k : Int)))))) ∧ ∃ y9 y10 y11, ρ = [some (.loc l), some (.int (w : Int)), some (.int (h : Int)), y3, y4, y5, some (.loc S1.length), some (.loc S2.length), some (.loc S3.length), y9, y10, y11])
      (fun r => ∃ S5 y9 y10 y11, r = .mk (.nx [some (.loc l), some (.int (w : Int)), some (.int (h : Int)), y3, y4, y5, some (.loc S1.length), some (.loc S2.length), some (.loc S3.length), y9, y10, y11]) S5 ∧ Gr μ S5 ∧ S5[S3.length]? = some (.lst (rowsL tds w h)))
      ⟨((G1.trans G2).trans G3).trans G4, G4.get q2', G4.get q3, q4, none, none, none, rfl⟩ (fun _ _ _ _ => stand_nil) ?_ ?_
    · rintro ρ S ⟨G, a1, a2, a3, y9, y10, y11, rfl⟩
      rw [hlen] at a3
      exact ⟨S, y9, y10, y11, rfl, G, a3⟩
    · rintro j ρ S v hv ⟨G, a1, a2, a3, y9, y10, y11, rfl⟩
      have hj := (List.getElem?_eq_some_iff.mp hv).1
      rw [hlen] at hj
      rw [List.getElem?_map, List.getElem?_range hj] at hv
      cases hv
      obtain ⟨z11, e⟩ := rows_step hsg (n + 3) a1 M a2 H w hw (2 * (h : Int) - (j : Int)) ⟨by omega⟩ a3 (by rw [List.length_map, List.length_range]; omega) (some (.loc l)) (some (.int (h : Int))) y3 y4 y5 y10 y11
      refine ⟨_, asg_nm S 9 _ _, .inl ⟨_, _, .inl e, G.set hle _, get_set_ne a1 (by omega), get_set_ne a2 (by omega), ?_, _, _, _, rfl⟩⟩
      rw [get_set_eq a3, List.range_succ, List.map_append]
      rfl
  refine .inl ⟨hfit, S3.length, S5, ?_, G5, q5⟩
  have bh : Bd (h : Int) 20 := ⟨by omega⟩
  have m1 : mulOk 2 (h : Int) := mulOk_of _ _ (by decide)
  have he : evE P (den P (n + 4)) none (.bin .add (.bin .mul (.con (.int 2)) (.var 2)) (.con (.int 1))) [some (.loc l), some (.int (w : Int)), some (.int (h : Int)), y3, y4, y5, some (.loc S1.length), some (.loc S2.length), some (.loc S3.length), none, none, none] S4 = .ok (.int (2 * (h : Int) + 1)) S4 := by
    clear hr e5 e2
    generalize (w : Int) = W at *
    generalize (h : Int) = H at *
    simp (disch := walk_at "dv") [m1]
  have hf := s_for_rrng (t := .nm 9) (b := rowsBd sg) he hr
  rw [e5] at hf
  unfold fDrawn
  clear M H hfit R l1 l2 q2' he hr e5
  generalize rowsL tds w h = RW at *
  generalize (w : Int) = W at *
  generalize (h : Int) = H at *
  generalize ls.map PV.loc = LL at *
  generalize rowsBd sg = RB at *
  generalize fitB ob T.I.fo T.I.ft = FB at *
  have hg : evS P (den P (n + 4)) (.for (.nm 3) (.seq (.meth T.mw (.var 0) [])) FB) none [some (.loc l), some (.int W), some (.int H), none, none, none, none, none, none, none, none, none] μ = .mk (.nx [some (.loc l), some (.int W), some (.int H), y3, y4, y5, none, none, none, none, none, none]) S1 := by
    simp (disch := walk_at "dv") [hmw, e1, q1, e2]
  clear e1 e2
  simp (disch := walk_at "dv") [-s_for, nw, nh, hg, e3, e4, ← hS4, hf]
end
end BW
set_option maxHeartbeats 8000000
local macro_rules | `(tactic| walk_at "dv") => `(tactic| first | assumption | (apply_assumption; done) | exact BW.mulOk_of _ _ (by decide) | exact BW.divOk_of _ _ (by first | decide | assumption | omega) (by decide) | decide | omega | (refine BW.le_size' ?_; first | omega | (simp only [List.length_cons, List.length_nil, List.length_append, List.length_map]; omega)) | simp)
namespace BW
open PySem PySem.Spec PyProof.Rows L2
section
variable {P : Prog} {i : Nat}
def Td.pv5 (d : Td) : PV := .tup [.int d.k, .int d.x, .int d.y, .int d.L, .int d.t]
theorem pieces5_ok {un : Nat} (hUn : P.fn[un]? = some fUnit) (hf : P.fn[i]? = some (fPiecesQ un)) (n : Nat) {d : Td} (h : d.Ok) (μ : Store) : ∃ μ' m, den P (n + 2) i [d.pv5] μ = .ok (.loc m) μ' ∧ Gr μ μ' ∧ μ.length ≤ m ∧ μ'[m]? = some (.lst (d.f.ps.map tupI)) := by
  obtain ⟨N, hN⟩ : ∃ N : Int, N = d.L := ⟨_, rfl⟩
  have L0 := h.L0
  have L1 := h.L1
  have hr := rng_nat (L := d.L) (by omega) (by omega)
  have eu := unit_ok hUn n h.k0 h.k4 μ
  obtain ⟨S, hS⟩ : ∃ S : Store, S = μ ++ [units] := ⟨_, rfl⟩
  rw [← hS] at eu
  have key : lcDen [] [some d.pv5, some (.tup [.int (unitX d.k), .int (unitY d.k)]), none] (.nm 2) (fun _ m => .ok true m) (evE P (den P (n + 1)) none (.tup [.bin .add (.idx (.var 0) (.con (.int 1))) (.bin .mul (.var 2) (.idx (.var 1) (.con (.int 0)))), .bin .add (.idx (.var 0) (.con (.int 2))) (.bin .mul (.var 2) (.idx (.var 1) (.con (.int 1)))), .idx (.var 0) (.con (.int 0))])) ((List.range d.L.toNat).map fun j : Nat => PV.int (j : Int)) [] S = .ok (d.f.ps.map tupI) S := by
    unfold Fnc.ps piecesL
    rw [List.map_map]
    refine lc_mapA (fun j : Nat => PV.int (j : Int)) (tupI ∘ fun j : Nat => [d.f.x + (j : Int) * unitX d.f.k, d.f.y + (j : Int) * unitY d.f.k, d.f.k]) (c := fun _ m => .ok true m) stand_nil (by rw [List.length_range]; omega) (fun _ _ => rfl) (fun j hj => ?_)
    have hj := List.mem_range.mp hj
    have bj : Bd (j : Int) 20 := ⟨by omega⟩
    have b1 := bd_ux d.k
    have b2 := bd_uy d.k
    clear hr
    have f1 : d.f.x = d.x := rfl
    have f2 : d.f.y = d.y := rfl
    have f3 : d.f.k = d.k := rfl
    simp (disch := walk_at "dv") [tupI, Td.pv5, f1, f2, f3]
  refine ⟨S ++ [.lst (d.f.ps.map tupI)], S.length, ?_, by rw [hS]; exact (Gr.app).trans Gr.app, by rw [hS]; simp, by simp⟩
  rw [den_at hf rfl]
  show (evSs P (den P (n + 1)) (fPiecesQ un).body none [some d.pv5, none, none] μ).out = _
  unfold fPiecesQ
  unfold Td.pv5 at key ⊢
  simp (disch := walk_at "dv") [eu, hr, key]
structure GdI5 (Q : Td → Prop) (J : Nat) (μ : Store) (gd : List Td) (S : Store) : Prop where
  G : Gr μ S
  f : S[μ.length + 1]? = some (.lst (gd.map Td.pv5))
  d : ∃ kvs, S[μ.length]? = some (.dic kvs) ∧ (∀ q, q ∈ kvs.map (·.1) ↔ ∃ g ∈ gd, q ∈ g.f.ps) ∧ kvs.length ≤ 2000 * gd.length
  ok : ∀ d ∈ gd, d.Ok
  ap : Ap gd gd.length
  le : gd.length ≤ J
  qq : ∀ d ∈ gd, Q d
theorem good5_step {un pc : Nat} (hUn : P.fn[un]? = some fUnit) (hpc : P.fn[pc]? = some (fPiecesQ un)) (n : Nat) {μ S : Store} {gd : List Td} {J : Nat} (hJ : J ≤ 60) {Q : Td → Prop} (I : GdI5 Q J μ gd S) {d : Td} (dok : d.Ok) (dq : Q d) (z0 z4 : Option PV) :
    ∃ S' gd' y4, evSs P (den P (n + 2)) (forB (fGoodQ pc).body 2) none [z0, some (.loc μ.length), some (.loc (μ.length + 1)), some d.pv5, z4] S = .mk (.nx [z0, some (.loc μ.length), some (.loc (μ.length + 1)), some d.pv5, y4]) S' ∧ GdI5 Q (J + 1) μ gd' S' := by
  obtain ⟨G, hf, ⟨kvs, hd, hk, hkl⟩, ok, ap, le, qq⟩ := I
  obtain ⟨A, m1, eA, GA, leA, qA⟩ := pieces5_ok hUn hpc n dok S
  have hdA := GA.get hd
  obtain ⟨p, hp⟩ : ∃ p : List Int → Bool, p = fun q => (dlook q kvs).isSome := ⟨_, rfl⟩
  have hlc : lcDen [(m1, d.f.ps.map tupI)] [z0, some (.loc μ.length), some (.loc (μ.length + 1)), some d.pv5, none] (.nm 4) (evT P (den P (n + 2)) none (.val (.cmp .inn (.var 4) (.var 1)))) (evE P (den P (n + 2)) none (.var 4)) (d.f.ps.map tupI) [] A = .ok ((d.f.ps.filter p).map tupI) A := by
    refine lc_filtA tupI p (stand_at (lst_at qA)) (by have := ps_len dok; omega) (fun q _ => ?_) (fun q _ => ?_)
    · have := inB_dic hdA q
      rw [hp]
      simp [this]
    · simp
  obtain ⟨B, hB⟩ : ∃ B : Store, B = A ++ [.lst ((d.f.ps.filter p).map tupI)] := ⟨_, rfl⟩
  obtain ⟨C, hC⟩ : ∃ C : Store, C = B ++ [.lst []] := ⟨_, rfl⟩
  have GB : Gr A B := by rw [hB]; exact Gr.app
  have GC : Gr B C := by rw [hC]; exact Gr.app
  have qB : B[A.length]? = some (.lst ((d.f.ps.filter p).map tupI)) := by rw [hB]; simp
  have qC : C[B.length]? = some (.lst []) := by rw [hC]; simp
  have pu : ∀ zs : List (List Int), pureAll 11 (zs.map tupI) = true := fun zs => pureAll_map fun q _ => pure_tupI 10 q
  have heq := cmpV_eqB C (eqB_lsts (lst_at (GC.get qB)) (lst_at qC) (pu _) (by rw [pureAll]))
  have hcond : ((d.f.ps.filter p).map tupI = []) ↔ ∀ q ∈ d.f.ps, ∀ g ∈ gd, q ∉ g.f.ps := by
    rw [List.map_eq_nil_iff, List.filter_eq_nil_iff]
    constructor
    · intro z q hq g hg hgq
      apply z q hq
      rw [hp]
      show (dlook q kvs).isSome = true
      rw [dlook_mem, decide_eq_true_eq, hk]
      exact ⟨g, hg, hgq⟩
    · intro z q hq hpq
      rw [hp] at hpq
      have hpq : (dlook q kvs).isSome = true := hpq
      rw [dlook_mem, decide_eq_true_eq, hk] at hpq
      obtain ⟨g, hg, hgq⟩ := hpq
      exact z q hq g hg hgq
  have GAC := GA.trans (GB.trans GC)
  by_cases hemp : (d.f.ps.filter p).map tupI = []
  rotate_left
  · rw [decide_eq_false hemp] at heq
    refine ⟨C, gd, z4, ?_, ⟨G.trans GAC, GAC.get hf, ⟨kvs, GAC.get hd, hk, hkl⟩, ok, ap, Nat.le_succ_of_le le, qq⟩⟩
    clear le leA
    simp only [fGoodQ, forB, List.getElem?_cons_succ, List.getElem?_cons_zero]
    simp (disch := walk_at "dv") [hf, eA, qA, hlc, ← hB, ← hC, heq]
  rw [decide_eq_true hemp] at heq
  have free := hcond.mp hemp
  have hfC := GAC.get hf
  obtain ⟨D, hD⟩ : ∃ D : Store, D = C.set (μ.length + 1) (.lst (gd.map Td.pv5 ++ [d.pv5])) := ⟨_, rfl⟩
  have ap1 := appL_ (μ := C) (μ.length + 1) d.pv5 (gd.map Td.pv5) (by rw [List.length_map]; omega)
  rw [← hD] at ap1
  have hdD : D[μ.length]? = some (.dic kvs) := by rw [hD]; exact get_set_ne (GAC.get hd) (by omega)
  have hfD : D[μ.length + 1]? = some (.lst ((gd ++ [d]).map Td.pv5)) := by rw [hD, List.map_append]; exact get_set_eq hfC
  have GD : Gr μ D := by rw [hD]; exact (G.trans GAC).set (by omega) _
  obtain ⟨E, m2, eE, GE, leE, qE⟩ := pieces5_ok hUn hpc n dok D
  have hdE := GE.get hdD
  have hfE := GE.get hfD
  have hDl : μ.length < D.length := get_lt hdD
  obtain ⟨z, hput⟩ := for_put P (den P (n + 2)) none (d := 1) (x := 4) (v := .bl true) (ls := [(m2, d.f.ps.map tupI)]) d.f.ps (ρ := [z0, some (.loc μ.length), some (.loc (μ.length + 1)), some d.pv5, z4]) (μ := E) (fun c => stand_at (lst_at (get_set_ne qE (by omega)))) (by decide) rfl hdE (by simp) (by have := ps_len dok; omega)
  obtain ⟨kvs', hkvs'⟩ : ∃ kvs', kvs' = d.f.ps.foldl (fun c k => dput k (.bl true) c) kvs := ⟨_, rfl⟩
  rw [← hkvs'] at hput
  obtain ⟨F, hF⟩ : ∃ F : Store, F = E.set μ.length (.dic kvs') := ⟨_, rfl⟩
  rw [← hF] at hput
  simp only [List.set_cons_succ, List.set_cons_zero] at hput
  refine ⟨F, gd ++ [d], z, ?_, ⟨?_, ?_, ⟨kvs', ?_, fun q => ?_, ?_⟩, fun g hg => ?_, fun i j a b hij hj ha hb => ?_, by rw [List.length_append, List.length_singleton]; omega, fun g hg => by
    rcases List.mem_append.mp hg with z | z
    · exact qq g z
    · rw [List.mem_singleton.mp z]; exact dq⟩⟩
  · clear le leA leE hDl
    simp only [fGoodQ, forB, List.getElem?_cons_succ, List.getElem?_cons_zero]
    simp (disch := walk_at "dv") [hf, eA, qA, hlc, ← hB, ← hC, heq, hfC, ap1, eE, qE, hput]
  · rw [hF]; exact (GD.trans GE).set (Nat.le_refl _) _
  · rw [hF]; exact get_set_ne hfE (by omega)
  · rw [hF]; exact get_set_eq hdE
  · rw [hkvs', puts_keys, hk]
    constructor
    · rintro (z | ⟨g, h1, h2⟩)
      · exact ⟨d, by simp, z⟩
      · exact ⟨g, by simp [h1], h2⟩
    · rintro ⟨g, h1, h2⟩
      rcases List.mem_append.mp h1 with z | z
      · exact .inr ⟨g, z, h2⟩
      · rw [List.mem_singleton.mp z] at h2
        exact .inl h2
  · rw [hkvs']
    have := puts_len (v := .bl true) d.f.ps kvs
    have := ps_len dok
    rw [List.length_append, List.length_singleton]
    omega
  · rcases List.mem_append.mp hg with z | z
    · exact ok g z
    · rw [List.mem_singleton.mp z]; exact dok
  · rw [List.length_append, List.length_singleton] at hj
    rw [List.getElem?_append_left (by omega)] at ha
    rcases (show j < gd.length ∨ j = gd.length by omega) with z | z
    · rw [List.getElem?_append_left z] at hb
      exact ap i j a b hij z ha hb
    · rw [z] at hb
      simp at hb
      subst hb
      rintro ⟨q, h1, h2⟩
      exact free q h2 a (List.mem_of_getElem? ha) h1
theorem good5_ok {un pc : Nat} (hUn : P.fn[un]? = some fUnit) (hpc : P.fn[pc]? = some (fPiecesQ un)) (hg : P.fn[i]? = some (fGoodQ pc)) (n : Nat) {tds : List Td} {Q : Td → Prop} (hok : ∀ d ∈ tds, d.Ok) (hq : ∀ d ∈ tds, Q d) (h60 : tds.length ≤ 60) {μ : Store} {lt : Nat} (hl : μ[lt]? = some (.lst (tds.map Td.pv5))) :
    ∃ gd μ', den P (n + 3) i [.loc lt] μ = .ok (.loc (μ.length + 1)) μ' ∧ GdI5 Q tds.length μ gd μ' := by
  obtain ⟨S0, hS0⟩ : ∃ S0 : Store, S0 = μ ++ [.dic [], .lst []] := ⟨_, rfl⟩
  have G0 : Gr μ S0 := by rw [hS0]; exact Gr.app
  have q0 : S0[μ.length]? = some (.dic []) := by rw [hS0]; simp
  have q1 : S0[μ.length + 1]? = some (.lst ([].map Td.pv5)) := by rw [hS0]; simp
  obtain ⟨S, gd, y3, y4, hp, I⟩ : ∃ S gd y3 y4, forDen [(lt, tds.map Td.pv5)] (.nm 3) (evSs P (den P (n + 2)) (forB (fGoodQ pc).body 2) none) (tds.map Td.pv5) [some (.loc lt), some (.loc μ.length), some (.loc (μ.length + 1)), none, none] S0 = .mk (.nx [some (.loc lt), some (.loc μ.length), some (.loc (μ.length + 1)), y3, y4]) S ∧ GdI5 Q tds.length μ gd S := by
    refine for_post (fun j ρ S => (∃ gd, GdI5 Q j μ gd S) ∧ ∃ y3 y4, ρ = [some (.loc lt), some (.loc μ.length), some (.loc (μ.length + 1)), y3, y4]) (fun q => ∃ S gd y3 y4, q = .mk (.nx [some (.loc lt), some (.loc μ.length), some (.loc (μ.length + 1)), y3, y4]) S ∧ GdI5 Q tds.length μ gd S) ⟨⟨[], G0, q1, ⟨[], q0, fun q => by simp, by simp⟩, fun d hd => (by cases hd), fun i j a b h1 h2 => (by simp at h2), by simp, fun d hd => (by cases hd)⟩, none, none, rfl⟩ (fun _ _ _ ⟨⟨gd, I⟩, _⟩ => stand_at (lst_at (I.G.get hl))) ?_ ?_
    · rintro ρ S ⟨⟨gd, I⟩, y3, y4, rfl⟩
      rw [List.length_map] at I
      exact ⟨S, gd, y3, y4, rfl, I⟩
    · rintro j ρ S v hv ⟨⟨gd, I⟩, y3, y4, rfl⟩
      rw [List.getElem?_map] at hv
      obtain ⟨d, hd, rfl⟩ := Option.map_eq_some_iff.mp hv
      obtain ⟨S', gd', z4, e, I'⟩ := good5_step hUn hpc n (by have := (List.getElem?_eq_some_iff.mp hd).1; omega) I (hok d (List.mem_of_getElem? hd)) (hq d (List.mem_of_getElem? hd)) (some (.loc lt)) y4
      exact ⟨_, asg_nm S 3 _ _, .inl ⟨_, S', .inl e, ⟨gd', I'⟩, _, _, rfl⟩⟩
  refine ⟨gd, S, ?_, I⟩
  have e2 : (μ ++ [Cell.dic []]).length = μ.length + 1 := by simp
  have e3 : μ ++ [Cell.dic []] ++ [Cell.lst []] = S0 := by rw [hS0]; simp
  have hl0 := G0.get hl
  simp only [fGoodQ, forB, List.getElem?_cons_succ, List.getElem?_cons_zero] at hp
  rw [den_at hg rfl]
  show (evSs P (den P (n + 2)) (fGoodQ pc).body none [some (.loc lt), none, none, none, none] μ).out = _
  unfold fGoodQ
  obtain ⟨M, hM⟩ : ∃ M : Store, M = μ ++ [.dic []] := ⟨_, rfl⟩
  rw [← hM] at e2 e3
  simp (disch := walk_at "dv") [← hM, e2, e3, hl0, hp]
end
end BW
set_option maxHeartbeats 8000000
local macro_rules | `(tactic| walk_at "dv") => `(tactic| first | assumption | (apply_assumption; done) | exact BW.mulOk_of _ _ (by decide) | exact BW.divOk_of _ _ (by first | decide | assumption | omega) (by decide) | decide | omega | (refine BW.le_size' ?_; first | omega | (simp only [List.length_cons, List.length_nil, List.length_append, List.length_map]; omega)) | simp)
namespace K91
open PySem PySem.Spec PyProof.Rows L2 BW
theorem lc_filtGr {α : Type} {ls : Sts} {i : Nat} {c : BW.Env → Store → Res Bool} {e : BW.Env → Store → Res PV} {xs : List α} (emb : α → PV) {ρ : BW.Env} {μ : Store} (p : α → Bool) (hs : ∀ μ', Gr μ μ' → stand μ' ls) (hsz : xs.length ≤ 1000000)
    (hc : ∀ x ∈ xs, ∀ μ', Gr μ μ' → ∃ μ'', c (ρ.set i (some (emb x))) μ' = .ok (p x) μ'' ∧ Gr μ' μ'') (he : ∀ x ∈ xs, ∀ μ', e (ρ.set i (some (emb x))) μ' = .ok (emb x) μ') : ∃ μ', lcDen ls ρ (.nm i) c e (xs.map emb) [] μ = .ok ((xs.filter p).map emb) μ' ∧ Gr μ μ' := by
  obtain ⟨acc, μ', h, h2, h3⟩ := lc_run (ls := ls) (t := .nm i) (c := c) (e := e) (items := xs.map emb) (ρ := ρ) (fun k acc m => Gr μ m ∧ acc = ((xs.take k).filter p).map emb)
    (fun k acc m h => by
      obtain ⟨G, rfl⟩ := h
      refine ⟨hs m G, ?_⟩
      rw [List.length_map]
      exact Nat.le_trans (List.length_filter_le _ _) (by rw [List.length_take]; omega)) (le_size' (by simpa using hsz))
    (fun k acc m x hx h => by
      obtain ⟨G, rfl⟩ := h
      rw [List.getElem?_map] at hx
      obtain ⟨y, hy, rfl⟩ := Option.map_eq_some_iff.mp hx
      have hm := List.mem_of_getElem? hy
      obtain ⟨m2, q1, q2⟩ := hc y hm m G
      refine ⟨_, asg_nm m i _ ρ, ?_⟩
      cases hp : p y with
      | true =>
        rw [hp] at q1
        refine .inl ⟨m2, emb y, m2, q1, he y hm m2, G.trans q2, ?_⟩
        rw [List.take_succ, hy, List.filter_append, List.map_append]
        simp [hp]
      | false =>
        rw [hp] at q1
        refine .inr ⟨m2, q1, G.trans q2, ?_⟩
        rw [List.take_succ, hy, List.filter_append, List.map_append]
        simp [hp]) (μ := μ) ⟨Gr.refl, by simp⟩
  refine ⟨μ', ?_, h2⟩
  rw [h, h3, List.length_map, List.take_of_length_le (Nat.le_refl _)]
theorem asg_at {μ : Store} {l : Nat} {vs : List PV} (h : μ[l]? = some (.lst vs)) (ts : List Tg) (ρ : BW.Env) : asg (.tup ts) (.loc l) ρ μ = asgs ts vs ρ μ := by
  have sq : seqAt μ (.loc l) = some vs := lst_at h
  unfold asg
  rw [sq]
def RCl : Cl := ⟨(some 4), [(10, 5), (8, 6), (6, 7), (1, 8)], [6], [], 0⟩
def TT : TW P where
  I := ⟨1, 5, 4, 13, 7, 12⟩
  lb := 9
  far := 10
  cx := 1
  wi := 11
  di := 27
  fc := 0
  cm := 8
  cg := 9
  ch := 10
  cd := 11
  tm := 2
  up := 3
  ov := 3
  ri := 4
  rc := 6
  f := 4
  mw := 10
  fw := 5
  mo := 8
  fo2 := 6
  RC := RCl
  hlb := rfl
  hfar := rfl
  hwi := rfl
  hdi := rfl
  ne1 := by decide
  ne2 := by decide
  ne3 := by decide
  c1 := rfl
  c2 := rfl
  c3 := rfl
  c4 := rfl
  hcl := by rintro c (rfl | rfl | rfl | rfl) <;> exact ⟨_, rfl, rfl, rfl⟩
  hln := rfl
  hup := rfl
  hri := rfl
  hrc := rfl
  hri2 := rfl
  hmw := rfl
  hmo := rfl
  hfw := rfl
theorem h31 : P.fn[31]? = some (fSpots 7 1 5) := rfl
theorem h32 : P.fn[32]? = some (fMasks 31 10 7) := rfl
theorem h33 : P.fn[33]? = some (fHalves 31 10 7) := rfl
theorem h34 : P.fn[34]? = some fSignOf := rfl
theorem h35 : P.fn[35]? = some (fDrawn 2 4 10 1 5 32 33 34) := rfl
theorem h36 : P.fn[36]? = some fCell := rfl
theorem h37 : P.fn[37]? = some fUnit := rfl
theorem h39 : P.fn[39]? = some (fPiecesQ 37) := rfl
theorem h40 : P.fn[40]? = some (fGoodQ 39) := rfl
theorem c2 : P.cl[2]? = some ⟨none, [], [2, 0], [], 1⟩ := rfl
theorem c4 : P.cl[4]? = some ⟨none, [], [4, 0], [], 1⟩ := rfl
/-! ### walls told -/
def tvM (N m : Int) : Int := N.fmod 4 + 4 * ((N.fdiv 4).fdiv m).fdiv m
def tv (c m : Int) : Td :=
  ⟨(tvM (((c.fmod 2147483647) * 48271).fmod 2147483647) m).fmod 4, ((((c.fmod 2147483647) * 48271).fmod 2147483647).fdiv 4).fmod m,
    if (tvM (((c.fmod 2147483647) * 48271).fmod 2147483647) m).fmod 4 = 3 then (((((c.fmod 2147483647) * 48271).fmod 2147483647).fdiv 4).fdiv m).fmod m + 3 else (((((c.fmod 2147483647) * 48271).fmod 2147483647).fdiv 4).fdiv m).fmod m,
    1 + ((tvM (((c.fmod 2147483647) * 48271).fmod 2147483647) m).fdiv 4).fmod 3, ((tvM (((c.fmod 2147483647) * 48271).fmod 2147483647) m).fdiv 12).fmod 5, 2⟩
structure Sm (d : Td) : Prop where
  k0 : 0 ≤ d.k
  k4 : d.k < 4
  x0 : 0 ≤ d.x
  x1 : d.x ≤ 33
  y0 : 0 ≤ d.y
  y1 : d.y ≤ 36
  L0 : 1 ≤ d.L
  L1 : d.L ≤ 3
  y3 : d.k = 3 → 3 ≤ d.y
  t0 : 0 ≤ d.t
  t1 : d.t < 5
  e : d.e = 2
theorem tv_sm (c m : Int) (m0 : 0 < m) (m1 : m ≤ 34) : Sm (tv c m) := by
  unfold tv
  generalize ((c.fmod 2147483647) * 48271).fmod 2147483647 = N
  generalize tvM N m = M
  have a1 := Int.fmod_nonneg_of_pos M (show (0 : Int) < 4 by decide)
  have a2 := Int.fmod_lt_of_pos M (show (0 : Int) < 4 by decide)
  have b1 := Int.fmod_nonneg_of_pos (N.fdiv 4) m0
  have b2 := Int.fmod_lt_of_pos (N.fdiv 4) m0
  have c1 := Int.fmod_nonneg_of_pos ((N.fdiv 4).fdiv m) m0
  have c2 := Int.fmod_lt_of_pos ((N.fdiv 4).fdiv m) m0
  have e1 := Int.fmod_nonneg_of_pos (M.fdiv 4) (show (0 : Int) < 3 by decide)
  have e2 := Int.fmod_lt_of_pos (M.fdiv 4) (show (0 : Int) < 3 by decide)
  have f1 := Int.fmod_nonneg_of_pos (M.fdiv 12) (show (0 : Int) < 5 by decide)
  have f2 := Int.fmod_lt_of_pos (M.fdiv 12) (show (0 : Int) < 5 by decide)
  have y : 0 ≤ (if M.fmod 4 = 3 then ((N.fdiv 4).fdiv m).fmod m + 3 else ((N.fdiv 4).fdiv m).fmod m) ∧ (if M.fmod 4 = 3 then ((N.fdiv 4).fdiv m).fmod m + 3 else ((N.fdiv 4).fdiv m).fmod m) ≤ 36 ∧ (M.fmod 4 = 3 → 3 ≤ (if M.fmod 4 = 3 then ((N.fdiv 4).fdiv m).fmod m + 3 else ((N.fdiv 4).fdiv m).fmod m)) := by
    split <;> omega
  exact ⟨a1, a2, b1, by dsimp only; omega, y.1, y.2.1, by dsimp only; omega, by dsimp only; omega, y.2.2, f1, f2, rfl⟩
theorem told_ok (n : Nat) (c m : Int) (m0 : 0 < m) (m1 : m ≤ 34) (bc : Bd c 1048576) (μ : Store) : den P (n + 1) 38 [.int c, .int m] μ = .ok (tv c m).pv5 μ := by
  rw [dn38]
  unfold b38 tv Td.pv5
  dsimp only
  have o1 : mulOk (c.fmod 2147483647) 48271 := mulOk_of _ _ (by decide)
  have bN : Bd (((c.fmod 2147483647) * 48271).fmod 2147483647) 40 := ⟨by
    have a1 := Int.fmod_nonneg_of_pos (c.fmod 2147483647 * 48271) (show (0 : Int) < 2147483647 by decide)
    have a2 := Int.fmod_lt_of_pos (c.fmod 2147483647 * 48271) (show (0 : Int) < 2147483647 by decide)
    omega⟩
  generalize hN : ((c.fmod 2147483647) * 48271).fmod 2147483647 = N at *
  have bm : Bd m 20 := ⟨by omega⟩
  have mz : m ≠ 0 := by omega
  have d1 : divOk N 4 := divOk_of _ _ (by decide) (by decide)
  have d2 : divOk (N.fdiv 4) m := divOk_of _ _ mz (by decide)
  have d3 : divOk ((N.fdiv 4).fdiv m) m := divOk_of _ _ mz (by decide)
  have o2 : mulOk 4 (((N.fdiv 4).fdiv m).fdiv m) := mulOk_of _ _ (by decide)
  have hM : N.fmod 4 + 4 * ((N.fdiv 4).fdiv m).fdiv m = tvM N m := rfl
  have d4 : divOk (tvM N m) 4 := divOk_of' _ 4 (⟨by decide⟩ : Bd 4 20) (by decide) (by decide)
  have d5 : divOk (tvM N m) 12 := divOk_of' _ 12 (⟨by decide⟩ : Bd 12 20) (by decide) (by decide)
  by_cases z : (tvM N m).fmod 4 = 3
  · simp [o1, hN, d1, d2, d3, d4, d5, o2, hM, mz, z]
  · simp [o1, hN, d1, d2, d3, d4, d5, o2, hM, mz, z]
/-! ### put off -/
def sh (a b : Int) (d : Td) : Td := ⟨d.k, d.x + a, d.y + b, d.L, d.t, d.e⟩
theorem sh_ok {a b : Int} {d : Td} (h : Sm d) (a0 : -3 ≤ a) (a1 : a ≤ 0) (b0 : -3 ≤ b) (b1 : b ≤ 0) : (sh a b d).Ok := by
  obtain ⟨k0, k4, x0, x1, y0, y1, L0, L1, y3, t0, t1, e⟩ := h
  have u : -1000 ≤ (sh a b d).f.u ∧ (sh a b d).f.u ≤ 1000 ∧ -1000 ≤ (sh a b d).f.v ∧ (sh a b d).f.v ≤ 1000 := by
    show -1000 ≤ (d.x + a) + d.L * unitX d.k ∧ (d.x + a) + d.L * unitX d.k ≤ 1000 ∧ -1000 ≤ (d.y + b) + d.L * unitY d.k ∧ (d.y + b) + d.L * unitY d.k ≤ 1000
    rcases (show d.k = 0 ∨ d.k = 1 ∨ d.k = 2 ∨ d.k = 3 by omega) with q | q | q | q <;> rw [q] <;> simp [unitX, unitY] <;> omega
  exact ⟨k0, k4, L0, by show d.L ≤ 2000; omega, by show -1000 ≤ d.x + a; omega, by show d.x + a ≤ 1000; omega, by show -1000 ≤ d.y + b; omega, by show d.y + b ≤ 1000; omega, u.1, u.2.1, u.2.2.1, u.2.2.2, t0, t1, by show 1 ≤ d.e; omega, by show d.e ≤ 9; omega⟩
theorem sh_ps {a b : Int} {d : Td} {p q k : Int} : [p + a, q + b, k] ∈ (sh a b d).f.ps ↔ [p, q, k] ∈ d.f.ps := by
  show [p + a, q + b, k] ∈ piecesL (d.x + a) (d.y + b) d.k d.L.toNat ↔ [p, q, k] ∈ piecesL d.x d.y d.k d.L.toNat
  rw [piece_iff, piece_iff]
  constructor
  · rintro ⟨j, hj, e⟩
    injection e with e1 e2
    injection e2 with e2 e3
    refine ⟨j, hj, ?_⟩
    rw [e3, show p = d.x + (j : Int) * unitX d.k by omega, show q = d.y + (j : Int) * unitY d.k by omega]
  · rintro ⟨j, hj, e⟩
    injection e with e1 e2
    injection e2 with e2 e3
    refine ⟨j, hj, ?_⟩
    rw [e3, e1, e2]
    congr 1
    · omega
    · congr 1
      omega
theorem sh_shr {a b : Int} {d e : Td} (h : Shr (sh a b d) (sh a b e)) : Shr d e := by
  obtain ⟨q, h1, h2⟩ := h
  obtain ⟨j, hj, rfl⟩ := piece_iff.mp h1
  have e1 : (sh a b d).f.x + (j : Int) * unitX (sh a b d).f.k = (d.x + (j : Int) * unitX d.k) + a := by
    show d.x + a + (j : Int) * unitX d.k = _
    omega
  have e2 : (sh a b d).f.y + (j : Int) * unitY (sh a b d).f.k = (d.y + (j : Int) * unitY d.k) + b := by
    show d.y + b + (j : Int) * unitY d.k = _
    omega
  rw [e1, e2] at h1 h2
  exact ⟨_, sh_ps.mp h1, sh_ps.mp h2⟩
theorem sh_zero (d : Td) : sh 0 0 d = d := by
  unfold sh
  rw [Int.add_zero, Int.add_zero]
theorem off_ok (n : Nat) {gd : List Td} {S : Store} {m : Nat} (hl : S[m]? = some (.lst (gd.map Td.pv5))) (le : gd.length ≤ 60) (c : Int) (bc : Bd c 1048576) :
    ∃ a b m' S', den P (n + 1) 41 [.loc m, .int c] S = .ok (.loc m') S' ∧ Gr S S' ∧ S'[m']? = some (.lst ((gd.map (sh a b)).map Td.pv5)) ∧ -3 ≤ a ∧ a ≤ 0 ∧ -3 ≤ b ∧ b ≤ 0 := by
  rw [dn41]
  unfold b41
  by_cases z : c.fmod 6 = 1
  rotate_left
  · refine ⟨0, 0, m, S, ?_, Gr.refl, ?_, by decide, by decide, by decide, by decide⟩
    · simp [z]
    · rw [show gd.map (sh 0 0) = gd by
        rw [show sh 0 0 = id from funext sh_zero, List.map_id]]
      exact hl
  have d1 : divOk c 6 := divOk_of _ _ (by decide) (by decide)
  have d2 : divOk c 18 := divOk_of _ _ (by decide) (by decide)
  have f0 := Int.fmod_nonneg_of_pos (c.fdiv 6) (show (0 : Int) < 3 by decide)
  have f1 := Int.fmod_lt_of_pos (c.fdiv 6) (show (0 : Int) < 3 by decide)
  obtain ⟨F, hF⟩ : ∃ F, F = 1 + (c.fdiv 6).fmod 3 := ⟨_, rfl⟩
  by_cases z2 : (c.fdiv 18).fmod 2 = 0
  · have el := lc_each (ls := [(m, gd.map Td.pv5)]) (i := 3) (c := fun _ m => .ok true m) (e := evE P (den P n) none (.tup [.idx (.var 3) (.con (.int 0)), .bin .sub (.idx (.var 3) (.con (.int 1))) (.var 2), .idx (.var 3) (.con (.int 2)), .idx (.var 3) (.con (.int 3)), .idx (.var 3) (.con (.int 4))])) (ρ := [some (.loc m), some (.int c), some (.int F), none]) (μ := S) gd Td.pv5 (fun d => (sh (-F) 0 d).pv5) (stand_one hl) (by omega) (fun _ _ => rfl) (fun d _ => by
      have e1 : d.x + -F = d.x - F := by omega
      have e2 : d.y + 0 = d.y := by omega
      unfold Td.pv5 sh
      dsimp only
      rw [e1, e2]
      simp)
    refine ⟨-F, 0, S.length, S ++ [.lst (gd.map fun d => (sh (-F) 0 d).pv5)], ?_, Gr.app, by simp [Function.comp_def], by omega, by omega, by decide, by decide⟩
    generalize gd.map (fun d => (sh (-F) 0 d).pv5) = G2 at *
    generalize gd.map Td.pv5 = G1 at *
    clear f0 f1
    simp (disch := walk_at "dv") [z, z2, d1, d2, ← hF, hl, el]
  · have el := lc_each (ls := [(m, gd.map Td.pv5)]) (i := 3) (c := fun _ m => .ok true m) (e := evE P (den P n) none (.tup [.idx (.var 3) (.con (.int 0)), .idx (.var 3) (.con (.int 1)), .bin .sub (.idx (.var 3) (.con (.int 2))) (.var 2), .idx (.var 3) (.con (.int 3)), .idx (.var 3) (.con (.int 4))])) (ρ := [some (.loc m), some (.int c), some (.int F), none]) (μ := S) gd Td.pv5 (fun d => (sh 0 (-F) d).pv5) (stand_one hl) (by omega) (fun _ _ => rfl) (fun d _ => by
      have e1 : d.y + -F = d.y - F := by omega
      have e2 : d.x + 0 = d.x := by omega
      unfold Td.pv5 sh
      dsimp only
      rw [e1, e2]
      simp)
    refine ⟨0, -F, S.length, S ++ [.lst (gd.map fun d => (sh 0 (-F) d).pv5)], ?_, Gr.app, by simp [Function.comp_def], by decide, by decide, by omega, by omega⟩
    generalize gd.map (fun d => (sh 0 (-F) d).pv5) = G2 at *
    generalize gd.map Td.pv5 = G1 at *
    clear f0 f1
    simp (disch := walk_at "dv") [z, z2, d1, d2, ← hF, hl, el]
/-! ### ends, walls made -/
theorem Td.Ok.bds {d : Td} (h : d.Ok) : Bd d.x 20 ∧ Bd d.y 20 ∧ Bd d.L 20 := by
  have := h.x0
  have := h.x1
  have := h.y0
  have := h.y1
  have := h.L0
  have := h.L1
  exact ⟨⟨by omega⟩, ⟨by omega⟩, ⟨by omega⟩⟩
theorem ends_ok (n : Nat) {d : Td} (h : d.Ok) (μ : Store) : ∃ μ' m, den P (n + 2) 42 [d.pv5] μ = .ok (.loc m) μ' ∧ Gr μ μ' ∧ μ'[m]? = some (.lst [.tup [.int d.x, .int d.y], .tup [.int d.f.u, .int d.f.v]]) := by
  have eu := unit_ok h37 n h.k0 h.k4 μ
  obtain ⟨b1, b2, b3⟩ := Td.Ok.bds h
  have b4 := bd_ux d.k
  have b5 := bd_uy d.k
  obtain ⟨S, hS⟩ : ∃ S, S = μ ++ [units] := ⟨_, rfl⟩
  rw [← hS] at eu
  refine ⟨S ++ [.lst [.tup [.int d.x, .int d.y], .tup [.int d.f.u, .int d.f.v]]], S.length, ?_, by rw [hS]; exact Gr.app.trans Gr.app, by simp⟩
  have f1 : d.f.u = d.x + d.L * unitX d.k := rfl
  have f2 : d.f.v = d.y + d.L * unitY d.k := rfl
  rw [dn42]
  unfold b42 Td.pv5
  simp (disch := walk_at "dv") [eu, f1, f2]
theorem kdE5 (d : Td) : d.kd = if d.t < 2 then .mir else if d.t = 2 then .gla else if d.t = 3 then .hol else .dor d.e := by
  unfold Td.kd Td.wd
  repeat' split
  all_goals first | rfl | simp_all [Wd.kd]
theorem made_ok (n : Nat) {d : Td} (h : d.Ok) (h2 : d.e = 2) (μ : Store) : ∃ l μ', den P (n + 4) 43 [d.pv5] μ = .ok (.loc l) μ' ∧ Gr μ μ' ∧ WlX TT μ' l d.sp.1 d.sp.2 := by
  obtain ⟨S, m, e1, G, q⟩ := ends_ok (n + 1) h μ
  have wl := h.wl
  have ok := h.kok
  have a0 := mk_wall TT n wl false d.kd ok S
  refine ⟨S.length, S ++ [.ins (TT.c d.kd) (TT.fs d.f.w4 d.kd)], ?_, G.trans Gr.app, wx_new wl ok S⟩
  have aa := fun ρ => asg_at q [.nm 1, .nm 2] ρ
  have f1 : d.x = d.f.w4.x := rfl
  have f2 : d.y = d.f.w4.y := rfl
  have f3 : d.f.u = d.f.w4.u := rfl
  have f4 : d.f.v = d.f.w4.v := rfl
  have hk := kdE5 d
  rw [f1, f2, f3, f4] at aa
  rw [h2] at hk
  have ht : L2.atI [PV.int d.k, .int d.x, .int d.y, .int d.L, .int d.t] 4 = some (.int d.t) := rfl
  rw [dn43]
  unfold b43
  unfold Td.pv5 at e1 ⊢
  clear wl h f1 f2 f3 f4 ok q
  by_cases z1 : d.t < 2
  · rw [if_pos z1] at hk
    rw [hk] at a0 ⊢
    have a0 : kMake P (den P (n + 3)) 8 [.tup [.int d.f.w4.x, .int d.f.w4.y], .tup [.int d.f.w4.u, .int d.f.w4.v]] S = _ := a0
    generalize d.f.w4 = W at *
    simp (disch := walk_at "dv") [e1, aa, ht, z1, a0, -kMake_]
  rw [if_neg z1] at hk
  by_cases z2 : d.t = 2
  · rw [if_pos z2] at hk
    rw [hk] at a0 ⊢
    have a0 : kMake P (den P (n + 3)) 9 [.tup [.int d.f.w4.x, .int d.f.w4.y], .tup [.int d.f.w4.u, .int d.f.w4.v]] S = _ := a0
    rw [z2] at e1 ht ⊢
    generalize d.f.w4 = W at *
    simp (disch := walk_at "dv") [e1, aa, ht, a0, -kMake_]
  rw [if_neg z2] at hk
  by_cases z3 : d.t = 3
  · rw [if_pos z3] at hk
    rw [hk] at a0 ⊢
    have a0 : kMake P (den P (n + 3)) 10 [.tup [.int d.f.w4.x, .int d.f.w4.y], .tup [.int d.f.w4.u, .int d.f.w4.v]] S = _ := a0
    rw [z3] at e1 ht ⊢
    generalize d.f.w4 = W at *
    simp (disch := walk_at "dv") [e1, aa, ht, a0, -kMake_]
  rw [if_neg z3] at hk
  rw [hk] at a0 ⊢
  have a0 : kMake P (den P (n + 3)) 11 [.tup [.int d.f.w4.x, .int d.f.w4.y], .tup [.int d.f.w4.u, .int d.f.w4.v], .int 2] S = _ := a0
  generalize d.f.w4 = W at *
  simp (disch := walk_at "dv") [e1, aa, ht, z1, z2, z3, a0, -kMake_]
/-! ### where a wall goes through -/
theorem holds_ok (n : Nat) {d : Td} (h : d.Ok) (X Y : Int) (bX : Bd X 20) (bY : Bd Y 20) (μ : Store) : den P (n + 2) 44 [d.pv5, .int X, .int Y] μ = .ok (.bl (decide (holdsQ d X Y))) (μ ++ [units]) := by
  have eu := unit_ok h37 n h.k0 h.k4 μ
  obtain ⟨b1, b2, b3⟩ := Td.Ok.bds h
  have b4 := bd_ux d.k
  have b5 := bd_uy d.k
  rw [dn44]
  unfold b44 Td.pv5
  generalize μ ++ [units] = S at *
  by_cases z1 : (X - 2 * d.x) * unitY d.k = (Y - 2 * d.y) * unitX d.k
  rotate_left
  · rw [decide_eq_false (show ¬ holdsQ d X Y from fun q => z1 q.1)]
    simp (disch := walk_at "dv") [eu, z1]
  by_cases z2 : d.k = 2
  · by_cases z3 : 0 ≤ Y - 2 * d.y
    · by_cases z4 : Y - 2 * d.y ≤ 2 * d.L
      · rw [decide_eq_true (show holdsQ d X Y by unfold holdsQ; simp only [if_pos z2]; exact ⟨z1, z3, z4⟩)]
        simp (disch := walk_at "dv") [eu, z1, eq_true z2, eq_true (show 2 * d.y ≤ Y by omega), eq_true z3, eq_true z4]
      · rw [decide_eq_false (show ¬ holdsQ d X Y by unfold holdsQ; simp only [if_pos z2]; exact fun q => z4 q.2.2)]
        simp (disch := walk_at "dv") [eu, z1, eq_true z2, eq_true (show 2 * d.y ≤ Y by omega), eq_true z3, eq_false z4]
    · rw [decide_eq_false (show ¬ holdsQ d X Y by unfold holdsQ; simp only [if_pos z2]; exact fun q => z3 q.2.1)]
      simp (disch := walk_at "dv") [eu, z1, eq_true z2, eq_false (show ¬ 2 * d.y ≤ Y by omega), eq_false z3]
  · by_cases z3 : 0 ≤ X - 2 * d.x
    · by_cases z4 : X - 2 * d.x ≤ 2 * d.L
      · rw [decide_eq_true (show holdsQ d X Y by unfold holdsQ; simp only [if_neg z2]; exact ⟨z1, z3, z4⟩)]
        simp (disch := walk_at "dv") [eu, z1, eq_false z2, eq_true (show 2 * d.x ≤ X by omega), eq_true z3, eq_true z4]
      · rw [decide_eq_false (show ¬ holdsQ d X Y by unfold holdsQ; simp only [if_neg z2]; exact fun q => z4 q.2.2)]
        simp (disch := walk_at "dv") [eu, z1, eq_false z2, eq_true (show 2 * d.x ≤ X by omega), eq_true z3, eq_false z4]
    · rw [decide_eq_false (show ¬ holdsQ d X Y by unfold holdsQ; simp only [if_neg z2]; exact fun q => z3 q.2.1)]
      simp (disch := walk_at "dv") [eu, z1, eq_false z2, eq_false (show ¬ 2 * d.x ≤ X by omega), eq_false z3]
end K91
set_option maxHeartbeats 8000000
local macro_rules | `(tactic| walk_at "dv") => `(tactic| first | assumption | (apply_assumption; done) | exact BW.mulOk_of _ _ (by decide) | exact BW.divOk_of _ _ (by first | decide | assumption | omega) (by decide) | decide | omega | (refine BW.le_size' ?_; first | omega | (simp only [List.length_cons, List.length_nil, List.length_append, List.length_map]; omega)) | simp)
namespace K91
open PySem PySem.Spec PyProof.Rows L2 BW TL
theorem lit_sp1 : (PV.str ("\x20" : Str)) = signPV 32 := by rw [lit_sp]; rfl
theorem lit_X1 : (PV.str ("X" : Str)) = signPV 88 := by rw [lit_X]; rfl
theorem lit_dot1 : (PV.str ("." : Str)) = signPV 46 := by rw [lit_dot]; rfl
theorem lit_plus1 : (PV.str ("+" : Str)) = signPV 43 := by rw [lit_plus]; rfl
theorem pure5 (d : Td) : pureV 11 d.pv5 = true := by
  unfold Td.pv5
  simp [pureV, pureAll]
theorem spot_end (d : Td) (h : d.Ok) : spotV d 0 = [d.x, d.y] ∧ spotV d d.L.toNat = [d.f.u, d.f.v] := by
  have L0 := h.L0
  unfold spotV
  constructor
  · rw [pair_eq]
    constructor
    · rw [Int.natCast_zero, Int.zero_mul, Int.add_zero]
    · rw [Int.natCast_zero, Int.zero_mul, Int.add_zero]
  · have : ((d.L.toNat : Nat) : Int) = d.L := by omega
    rw [this]
    rfl
theorem sign_ok (n : Nat) {tds : List Td} (hok : ∀ d ∈ tds, d.Ok) (pw : PwN tds) (le : tds.length ≤ 60) {S : Store} {lg : Nat} (hl : S[lg]? = some (.lst (tds.map Td.pv5))) (X Y : Int) (bX : Bd X 20) (bY : Bd Y 20) :
    ∃ S', den P (n + 3) 45 [.loc lg, .int X, .int Y] S = .ok (signPV (lawSign tds X Y)) S' ∧ Gr S S' := by
  obtain ⟨S1, e1, G1⟩ := lc_filtGr (ls := [(lg, tds.map Td.pv5)]) (i := 4) (c := evT P (den P (n + 2)) none (.val (.call 44 [.var 4, .var 1, .var 2]))) (e := evE P (den P (n + 2)) none (.var 4)) (xs := tds) Td.pv5 (ρ := [some (.loc lg), some (.int X), some (.int Y), none, none]) (μ := S) (fun d => decide (holdsQ d X Y)) (fun m G => stand_one (G.get hl)) (by omega) (fun d hd m G => by
    have e := holds_ok n (hok d hd) X Y bX bY m
    exact ⟨m ++ [units], by simp [e], Gr.app⟩) (fun d hd m => by simp)
  have hon : tds.filter (fun d => decide (holdsQ d X Y)) = onQ tds X Y := rfl
  rw [hon] at e1
  have hmem : ∀ d ∈ onQ tds X Y, d ∈ tds := fun d hd => (List.mem_filter.mp hd).1
  obtain ⟨S2, hS2⟩ : ∃ S2, S2 = S1 ++ [Cell.lst ((onQ tds X Y).map Td.pv5)] := ⟨_, rfl⟩
  have G2 : Gr S1 S2 := by rw [hS2]; exact Gr.app
  have q2 : S2[S1.length]? = some (.lst ((onQ tds X Y).map Td.pv5)) := by rw [hS2]; simp
  have len : (onQ tds X Y).length ≤ 60 := Nat.le_trans (List.length_filter_le _ _) le
  have dX : divOk X 2 := divOk_of _ _ (by decide) (by decide)
  have dY : divOk Y 2 := divOk_of _ _ (by decide) (by decide)
  have oddc : ∀ (M : Store), evT P (den P (n + 2)) none (.or (.val (.cmp .eq (.bin .mod (.var 1) (.con (.int 2))) (.con (.int 1)))) (.val (.cmp .eq (.bin .mod (.var 2) (.con (.int 2))) (.con (.int 1))))) [some (.loc lg), some (.int X), some (.int Y), some (.loc S1.length), none] M = .ok (decide (X.fmod 2 = 1 ∨ Y.fmod 2 = 1)) M := by
    intro M
    by_cases z1 : X.fmod 2 = 1
    · simp [z1]
    · simp [z1]
  rw [dn45]
  unfold lawSign
  by_cases o : X.fmod 2 = 1 ∨ Y.fmod 2 = 1
  · have two := on_two hok pw o
    rw [if_pos o]
    rw [decide_eq_true o] at oddc
    obtain ⟨S3, hS3⟩ : ∃ S3, S3 = S2 ++ [Cell.lst [signPV 32]] := ⟨_, rfl⟩
    have G3 : Gr S2 S3 := by rw [hS3]; exact Gr.app
    have q3 : S3[S2.length]? = some (.lst [signPV 32]) := by rw [hS3]; simp
    have el := lc_each (ls := [(S1.length, (onQ tds X Y).map Td.pv5)]) (i := 4) (c := fun _ m => .ok true m) (e := evE P (den P (n + 2)) none (.idx (.con (.str ("-/|\\" : Str))) (.idx (.var 4) (.con (.int 0))))) (ρ := [some (.loc lg), some (.int X), some (.int Y), some (.loc S1.length), none]) (μ := S3) (onQ tds X Y) Td.pv5 (fun d => signPV (sgnC d.k)) (stand_one (G3.get q2)) (by omega) (fun _ _ => rfl) (fun d hd => by
      have := idx_signs (hok d (hmem d hd)).k0 (hok d (hmem d hd)).k4 S3
      unfold Td.pv5
      simp [this])
    obtain ⟨S4, hS4⟩ : ∃ S4, S4 = S3 ++ [Cell.lst ((onQ tds X Y).map fun d => signPV (sgnC d.k))] := ⟨_, rfl⟩
    have G4 : Gr S3 S4 := by rw [hS4]; exact Gr.app
    have q4 : S4[S3.length]? = some (.lst ((onQ tds X Y).map fun d => signPV (sgnC d.k))) := by rw [hS4]; simp
    have q3' := G4.get q3
    have q2' := G3.get q2
    have GG := (G1.trans G2).trans (G3.trans G4)
    have lsp := lit_sp1
    have lx := lit_X1
    unfold b45
    match h : onQ tds X Y with
    | [] =>
      rw [h] at e1 q2 q2' el q4 hS2 hS4
      refine ⟨S4 ++ [.lst [signPV 32]], ?_, GG.trans Gr.app⟩
      have hat : L2.atI [signPV 32] (-1) = some (signPV 32) := rfl
      simp only [List.map_nil] at *
      generalize signPV 32 = c32 at *
      simp (disch := walk_at "dv") [hl, e1, ← hS2, oddc, q2, q2', lsp, ← hS3, el, ← hS4, q3', q4, hat]
    | [d] =>
      rw [h] at e1 q2 q2' el q4 hS2 hS4
      refine ⟨S4 ++ [.lst [signPV 32, signPV (sgnC d.k)]], ?_, GG.trans Gr.app⟩
      have hat : L2.atI [signPV 32, signPV (sgnC d.k)] (-1) = some (signPV (sgnC d.k)) := rfl
      simp only [List.map_nil, List.map_cons] at *
      generalize signPV 32 = c32 at *
      generalize signPV (sgnC d.k) = c33 at *
      simp (disch := walk_at "dv") [hl, e1, ← hS2, oddc, q2, q2', lsp, ← hS3, el, ← hS4, q3', q4, hat]
    | [d, e] =>
      rw [h] at e1 q2 hS2
      refine ⟨S2, ?_, G1.trans G2⟩
      simp only [List.map_nil, List.map_cons] at *
      generalize signPV 88 = c88 at *
      simp (disch := walk_at "dv") [hl, e1, ← hS2, oddc, q2, lx]
    | _ :: _ :: _ :: r =>
      rw [h] at two
      simp at two
  · rw [if_neg o]
    rw [decide_eq_false o] at oddc
    obtain ⟨S3, hS3⟩ : ∃ S3, S3 = S2 ++ [Cell.lst []] := ⟨_, rfl⟩
    have G3 : Gr S2 S3 := by rw [hS3]; exact Gr.app
    have q3 : S3[S2.length]? = some (.lst []) := by rw [hS3]; simp
    have q2' := G3.get q2
    have heq := cmpV_eqB S3 (eqB_lsts (lst_at q2') (lst_at q3) (pureAll_map fun d _ => pure5 d) (by rw [pureAll]))
    have ldot := lit_dot1
    have lpl := lit_plus1
    unfold b45
    match h : onQ tds X Y with
    | [] =>
      rw [h] at e1 q2 q2' heq hS2
      rw [decide_eq_true (by rfl)] at heq
      refine ⟨S3, ?_, (G1.trans G2).trans G3⟩
      simp only [List.map_nil] at *
      generalize signPV 46 = c46 at *
      simp (disch := walk_at "dv") [hl, e1, ← hS2, oddc, q2, ← hS3, heq, ldot]
    | [d] =>
      have dok := hok d (hmem d (by rw [h]; simp))
      rw [h] at e1 q2 q2' heq hS2
      rw [decide_eq_false (by simp)] at heq
      obtain ⟨S4, m, e4, G4, q4⟩ := ends_ok n dok S3
      obtain ⟨p1, p2⟩ := spot_end d dok
      have hin : inB S4 (.tup [.int (X.fdiv 2), .int (Y.fdiv 2)]) (.loc m) = some (decide (endAt d [X.fdiv 2, Y.fdiv 2])) := by
        have sq : seqAt S4 (.loc m) = some [PV.tup [.int d.x, .int d.y], .tup [.int d.f.u, .int d.f.v]] := lst_at q4
        rw [inB_pure sq (by simp [pureV, pureAll]) (by simp [pureV, pureAll])]
        congr 1
        rw [decide_eq_decide]
        unfold endAt
        rw [p1, p2, pair_eq, pair_eq]
        simp
      have isg := idx_signs dok.k0 dok.k4 S4
      have G := ((G1.trans G2).trans G3).trans G4
      have q2'' := G4.get q2'
      have hk : L2.atI [PV.int d.k, .int d.x, .int d.y, .int d.L, .int d.t] 0 = some (.int d.k) := rfl
      refine ⟨S4, ?_, G⟩
      dsimp only
      simp only [List.map_nil, List.map_cons] at *
      unfold Td.pv5 at *
      by_cases z : endAt d [X.fdiv 2, Y.fdiv 2]
      · rw [if_pos z]
        rw [decide_eq_true z] at hin
        generalize signPV 43 = c43 at *
        simp (disch := walk_at "dv") [hl, e1, ← hS2, oddc, q2, ← hS3, heq, q2', dX, dY, e4, hin, lpl]
      · rw [if_neg z]
        rw [decide_eq_false z] at hin
        generalize signPV (sgnC d.k) = c43 at *
        simp (disch := walk_at "dv") [hl, e1, ← hS2, oddc, q2, ← hS3, heq, q2', dX, dY, e4, hin, q2'', hk, isg]
    | d :: e :: r =>
      rw [h] at e1 q2 q2' heq hS2
      rw [decide_eq_false (by simp)] at heq
      refine ⟨S3, ?_, (G1.trans G2).trans G3⟩
      have hlen : (1 : Int) < (((d :: e :: r).map Td.pv5).length : Nat) := by
        rw [List.length_map, List.length_cons, List.length_cons]
        omega
      generalize (d :: e :: r).map Td.pv5 = L at *
      generalize signPV 43 = c43 at *
      simp (disch := walk_at "dv") [hl, e1, ← hS2, oddc, q2, ← hS3, heq, q2', hlen, lpl]
/-! ### a size -/
theorem size_ok (n : Nat) (need c : Int) (n0 : 0 ≤ need) (n1 : need ≤ 1000) (bc : Bd c 1048576) : ∃ r : Int, 0 ≤ r ∧ ∀ μ, den P (n + 1) 46 [.int need, .int c] μ = .ok (.int r) μ := by
  have d1 : divOk c 5 := divOk_of _ _ (by decide) (by decide)
  have d2 : divOk c 15 := divOk_of _ _ (by decide) (by decide)
  have p1 : powOk 10 30 := by unfold powOk; decide
  have a0 := Int.fmod_nonneg_of_pos (c.fdiv 5) (show (0 : Int) < 4 by decide)
  obtain ⟨T, hT⟩ : ∃ T : Int, T = 10 ^ (30 : Int).toNat := ⟨_, rfl⟩
  have T0 : 0 < T := by rw [hT]; decide
  have a1 := Int.fmod_nonneg_of_pos (c.fdiv 15) T0
  have Tz : T ≠ 0 := by omega
  have pw : ∀ μ, binV .pow (.int 10) (.int 30) μ = .ok (.int T) μ := fun μ => by rw [hT]; exact binV_pow 10 30 μ p1
  by_cases z1 : c.fmod 5 = 1
  · refine ⟨need + (c.fdiv 5).fmod 4, by omega, fun μ => ?_⟩
    rw [dn46]; unfold b46
    simp [z1, d1]
  by_cases z2 : c.fmod 5 = 2 ∧ 0 < need
  · refine ⟨need - 1, by omega, fun μ => ?_⟩
    rw [dn46]; unfold b46
    simp [z2.1, z2.2]
  have N2 : ∀ ρ μ, ρ[0]? = some (some (.int need)) → ρ[2]? = some (some (.int (c.fmod 5))) → evT P (den P n) none (.and (.val (.cmp .eq (.var 2) (.con (.int 2)))) (.val (.cmp .gt (.var 0) (.con (.int 0))))) ρ μ = .ok false μ := by
    intro ρ μ r0 r2
    by_cases z3 : c.fmod 5 = 2
    · have : ¬ 0 < need := fun q => z2 ⟨z3, q⟩
      simp [r0, r2, z3, this]
    · simp [r0, r2, z3]
  by_cases z3 : c.fmod 5 = 3 ∧ (c.fdiv 5).fmod 3 = 1
  · refine ⟨41 + (c.fdiv 15).fmod T, by omega, fun μ => ?_⟩
    have N2 := N2 [some (.int need), some (.int c), some (.int (c.fmod 5))] μ rfl rfl
    rw [dn46]; unfold b46
    simp [z3.1, z3.2, d1, d2, pw, Tz]
  have N3 : ∀ ρ μ, ρ[1]? = some (some (.int c)) → ρ[2]? = some (some (.int (c.fmod 5))) → evT P (den P n) none (.and (.val (.cmp .eq (.var 2) (.con (.int 3)))) (.val (.cmp .eq (.bin .mod (.bin .fdiv (.var 1) (.con (.int 5))) (.con (.int 3))) (.con (.int 1))))) ρ μ = .ok false μ := by
    intro ρ μ r0 r2
    by_cases z4 : c.fmod 5 = 3
    · have : ¬ (c.fdiv 5).fmod 3 = 1 := fun q => z3 ⟨z4, q⟩
      simp [r0, r2, z4, this, d1]
    · simp [r0, r2, z4]
  by_cases z4 : c.fmod 5 = 4 ∧ (c.fdiv 5).fmod 6 = 1
  · refine ⟨40, by decide, fun μ => ?_⟩
    rw [dn46]; unfold b46
    simp [z4.1, z4.2, d1]
  refine ⟨need, n0, fun μ => ?_⟩
  have N2 := N2 [some (.int need), some (.int c), some (.int (c.fmod 5))] μ rfl rfl
  have N3 := N3 [some (.int need), some (.int c), some (.int (c.fmod 5))] μ rfl rfl
  have N4 : evT P (den P n) none (.and (.val (.cmp .eq (.var 2) (.con (.int 4)))) (.val (.cmp .eq (.bin .mod (.bin .fdiv (.var 1) (.con (.int 5))) (.con (.int 6))) (.con (.int 1))))) [some (.int need), some (.int c), some (.int (c.fmod 5))] μ = .ok false μ := by
    by_cases z5 : c.fmod 5 = 4
    · have : ¬ (c.fdiv 5).fmod 6 = 1 := fun q => z4 ⟨z5, q⟩
      simp [z5, this, d1]
    · simp [z5]
  rw [dn46]; unfold b46
  simp [z1, N2, N3, N4, -t_and]
/-! ### the rows -/
theorem joinL_ones (l : List Nat) : joinL [] (l.map fun c => [c]) = l := by
  induction l with
  | nil => rfl
  | cons c r ih =>
    cases r with
    | nil => rfl
    | cons e r =>
      show [c] ++ [] ++ joinL [] ((e :: r).map fun c => [c]) = _
      rw [ih]; rfl
theorem join_ones (l : List Nat) : Txt.join ("" : Str) ((l.map fun c => [c]).map txt) = txt l := by
  refine ext_tl ?_
  rw [join_eq, tl_join, List.map_map, tl_txt]
  have : tl ("" : Str) = [] := by decide +kernel
  rw [this]
  have e : (List.map (tl ∘ txt) (l.map fun c => [c])) = l.map fun c => [c] := by
    rw [show tl ∘ txt = id from funext tl_txt, List.map_id]
  rw [e, joinL_ones]
theorem bm_join_ones (μ : Store) (m : Nat) (l : List Nat) (h : μ[m]? = some (.lst (l.map signPV))) (hl : l.length ≤ 1000) : bmV .join (.str ("" : Str)) [.loc m] μ = .ok (.str (txt l)) μ := by
  rw [bm_join μ _ m ((l.map fun c => [c]).map txt) (by rw [h, List.map_map, List.map_map]; rfl) (by
    have e : ("" : Str).length = 0 := by decide +kernel
    rw [e]
    have : ∀ r : List Nat, ((((r.map fun c => [c]).map txt).map (fun z : Str => z.length)).sum) = r.length := by
      intro r
      induction r with
      | nil => rfl
      | cons c r ih =>
        simp only [List.map_cons, List.sum_cons, List.length_cons, ih, len_txt, List.length_nil]
        omega
    rw [this]
    omega), join_ones]
def rtB : List IS := [.set 5 (.bin .sub (.bin .mul (.con (.int 2)) (.var 3)) (.var 4)), .set 6 (.bm .join (.con (.str "")) [.lc (.call 45 [.var 1, .var 7, .var 5]) (.nm 7) (.rng [.bin .add (.bin .mul (.con (.int 2)) (.var 2)) (.con (.int 1))]) none [7]]), .ifs (.or (.not (.val (.isin (.idx (.var 0) (.var 4)) [.str]))) (.val (.cmp .ne (.idx (.var 0) (.var 4)) (.var 6)))) [.ret (.con (.bl false))] []]
theorem rt_step (n : Nat) {tds : List Td} (hok : ∀ d ∈ tds, d.Ok) (pw : PwN tds) (le : tds.length ≤ 60) {S : Store} {lg lf : Nat} (hl : S[lg]? = some (.lst (tds.map Td.pv5))) {w h : Nat} (hw : w ≤ 40) (hh : h ≤ 40) (hf : S[lf]? = some (.lst (rowsL tds w h))) {k : Nat} (hk : k < 2 * h + 1) (x5 x6 x7 : Option PV) :
    ∃ S' y5 y6, evSs P (den P (n + 3)) rtB none [some (.loc lf), some (.loc lg), some (.int (w : Int)), some (.int (h : Int)), some (.int (k : Int)), x5, x6, x7] S = .mk (.nx [some (.loc lf), some (.loc lg), some (.int (w : Int)), some (.int (h : Int)), some (.int (k : Int)), y5, y6, x7]) S' ∧ Gr S S' := by
  obtain ⟨Y, hY⟩ : ∃ Y, Y = 2 * (h : Int) - (k : Int) := ⟨_, rfl⟩
  have bY : Bd Y 20 := ⟨by omega⟩
  have hrng := rng_nat (L := 2 * (w : Int) + 1) (by omega) (by omega)
  rw [show (2 * (w : Int) + 1).toNat = 2 * w + 1 by omega] at hrng
  obtain ⟨S1, e1, G1⟩ := lc_gr (ls := []) (i := 7) (e := evE P (den P (n + 3)) none (.call 45 [.var 1, .var 7, .var 5])) (ρ := [some (.loc lf), some (.loc lg), some (.int (w : Int)), some (.int (h : Int)), some (.int (k : Int)), some (.int Y), x6, none]) (μ := S) (List.range (2 * w + 1)) (fun j : Nat => PV.int (j : Int)) (fun j : Nat => signPV (lawSign tds (j : Int) Y)) (fun _ _ => stand_nil) (by rw [List.length_range]; omega) (fun j hj m G => by
    have hj := List.mem_range.mp hj
    obtain ⟨m', e, G'⟩ := sign_ok n hok pw le (G.get hl) (j : Int) Y ⟨by omega⟩ bY
    exact ⟨m', by simp [e], G'⟩)
  have hrow : (List.range (2 * w + 1)).map (fun j : Nat => signPV (lawSign tds (j : Int) Y)) = (rowL tds w Y).map signPV := by
    unfold rowL
    rw [List.map_map]
    refine List.map_congr_left fun j _ => ?_
    show _ = signPV (progSign tds (j : Int) Y)
    rw [sign_eq hok pw]
  rw [hrow] at e1
  obtain ⟨S2, hS2⟩ : ∃ S2, S2 = S1 ++ [Cell.lst ((rowL tds w Y).map signPV)] := ⟨_, rfl⟩
  have G2 : Gr S1 S2 := by rw [hS2]; exact Gr.app
  have q2 : S2[S1.length]? = some (.lst ((rowL tds w Y).map signPV)) := by rw [hS2]; simp
  have ej := bm_join_ones S2 S1.length (rowL tds w Y) q2 (by unfold rowL; rw [List.length_map, List.length_range]; omega)
  have hf2 := (G1.trans G2).get hf
  have hat : L2.atI (rowsL tds w h) (k : Int) = some (.str (txt (rowL tds w Y))) := by
    refine L2.atI_nat ?_
    unfold rowsL
    rw [List.getElem?_map, List.getElem?_range hk, hY]
    rfl
  have he : evE P (den P (n + 3)) none (.bin .add (.bin .mul (.con (.int 2)) (.var 2)) (.con (.int 1))) [some (.loc lf), some (.loc lg), some (.int (w : Int)), some (.int (h : Int)), some (.int (k : Int)), some (.int Y), x6, x7] S = .ok (.int (2 * (w : Int) + 1)) S := by
    have bw : Bd (w : Int) 20 := ⟨by omega⟩
    have m1 : mulOk 2 (w : Int) := mulOk_of _ _ (by decide)
    clear hat e1 ej hrng
    generalize (w : Int) = W at *
    simp (disch := walk_at "dv") [m1]
  have hlc : evE P (den P (n + 3)) none (.lc (.call 45 [.var 1, .var 7, .var 5]) (.nm 7) (.rng [.bin .add (.bin .mul (.con (.int 2)) (.var 2)) (.con (.int 1))]) none [7]) [some (.loc lf), some (.loc lg), some (.int (w : Int)), some (.int (h : Int)), some (.int (k : Int)), some (.int Y), x6, x7] S = .ok (.loc S1.length) S2 := by
    have hi : evIt P (den P (n + 3)) none (.rng [.bin .add (.bin .mul (.con (.int 2)) (.var 2)) (.con (.int 1))]) [some (.loc lf), some (.loc lg), some (.int (w : Int)), some (.int (h : Int)), some (.int (k : Int)), some (.int Y), x6, x7] S = .ok ((List.range (2 * w + 1)).map (fun j : Nat => PV.int (j : Int)), []) S := by
      have e2 : evEs P (den P (n + 3)) none [.bin .add (.bin .mul (.con (.int 2)) (.var 2)) (.con (.int 1))] [some (.loc lf), some (.loc lg), some (.int (w : Int)), some (.int (h : Int)), some (.int (k : Int)), some (.int Y), x6, x7] S = .ok [.int (2 * (w : Int) + 1)] S := by
        rw [es_cons, he, Res.bind_ok, kCons_, es_nil, Res.bind_ok, kCons2_]
      have e3 : ∀ o : Option (List PV), o = some ((List.range (2 * w + 1)).map (fun j : Nat => PV.int (j : Int))) → Res.ofO (o.map fun vs => (vs, ([] : Sts))) S = .ok ((List.range (2 * w + 1)).map (fun j : Nat => PV.int (j : Int)), []) S := fun o ho => by rw [ho]; rfl
      rw [i_rng, e2, Res.bind_ok, kRng_]
      exact e3 _ hrng
    rw [e_lc, hi, Res.bind_ok, kLc_]
    show (lcDen [] [some (.loc lf), some (.loc lg), some (.int (w : Int)), some (.int (h : Int)), some (.int (k : Int)), some (.int Y), x6, none] (.nm 7) _ _ _ [] S).bind kLcE = _
    dsimp only
    rw [e1, Res.bind_ok, kLcE_, ← hS2]
  clear he e1 hrng
  refine ⟨S2, some (.int Y), some (.str (txt (rowL tds w Y))), ?_, G1.trans G2⟩
  have bh : Bd (h : Int) 20 := ⟨by omega⟩
  have m2 : mulOk 2 (h : Int) := mulOk_of _ _ (by decide)
  unfold rtB
  clear hrow q2 hok pw
  generalize rowsL tds w h = RW at *
  generalize txt (rowL tds w Y) = T at *
  generalize (h : Int) = H at *
  generalize (k : Int) = K at *
  generalize (w : Int) = W at *
  simp (disch := walk_at "dv") [-e_lc, m2, ← hY, hlc, ej, hf2, hat, isTag]
theorem right_ok (n : Nat) {tds : List Td} (hok : ∀ d ∈ tds, d.Ok) (pw : PwN tds) (le : tds.length ≤ 60) {S : Store} {lg lf : Nat} (hl : S[lg]? = some (.lst (tds.map Td.pv5))) {w h : Nat} (hw : w ≤ 40) (hh : h ≤ 40) (hf : S[lf]? = some (.lst (rowsL tds w h))) :
    ∃ S', den P (n + 4) 47 [.loc lf, .loc lg, .int (w : Int), .int (h : Int)] S = .ok (.bl true) S' := by
  have hrng := rng_nat (L := 2 * (h : Int) + 1) (by omega) (by omega)
  rw [show (2 * (h : Int) + 1).toNat = 2 * h + 1 by omega] at hrng
  have hlen : ((rowsL tds w h).length : Int) = 2 * (h : Int) + 1 := by unfold rowsL; rw [List.length_map, List.length_range]; omega
  obtain ⟨S', y4, y5, y6, y7, e⟩ : ∃ S' y4 y5 y6 y7, forDen [] (.nm 4) (evSs P (den P (n + 3)) rtB none) ((List.range (2 * h + 1)).map fun j : Nat => PV.int (j : Int)) [some (.loc lf), some (.loc lg), some (.int (w : Int)), some (.int (h : Int)), none, none, none, none] S = .mk (.nx [some (.loc lf), some (.loc lg), some (.int (w : Int)), some (.int (h : Int)), y4, y5, y6, y7]) S' := by
    refine for_post (fun j ρ M => Gr S M ∧ ∃ y4 y5 y6 y7, ρ = [some (.loc lf), some (.loc lg), some (.int (w : Int)), some (.int (h : Int)), y4, y5, y6, y7]) (fun r => ∃ S' y4 y5 y6 y7, r = .mk (.nx [some (.loc lf), some (.loc lg), some (.int (w : Int)), some (.int (h : Int)), y4, y5, y6, y7]) S') ⟨Gr.refl, none, none, none, none, rfl⟩ (fun _ _ _ _ => stand_nil) ?_ ?_
    · rintro ρ M ⟨G, y4, y5, y6, y7, rfl⟩
      exact ⟨M, y4, y5, y6, y7, rfl⟩
    · rintro j ρ M v hv ⟨G, y4, y5, y6, y7, rfl⟩
      have hj := (List.getElem?_eq_some_iff.mp hv).1
      rw [List.length_map, List.length_range] at hj
      rw [List.getElem?_map, List.getElem?_range hj] at hv
      cases hv
      obtain ⟨M', z5, z6, e, G'⟩ := rt_step n hok pw le (G.get hl) hw hh (G.get hf) hj y5 y6 y7
      exact ⟨_, asg_nm M 4 _ _, .inl ⟨_, M', .inl e, G.trans G', _, _, _, _, rfl⟩⟩
  have he : evE P (den P (n + 3)) none (.bi .len [.var 0]) [some (.loc lf), some (.loc lg), some (.int (w : Int)), some (.int (h : Int)), none, none, none, none] S = .ok (.int (2 * (h : Int) + 1)) S := by
    clear hrng e
    generalize rowsL tds w h = RW at *
    generalize (h : Int) = H at *
    simp (disch := walk_at "dv") [hf, hlen]
  have hfor := s_for_rng (t := .nm 4) (b := rtB) he hrng
  rw [e] at hfor
  refine ⟨S', ?_⟩
  have bh : Bd (h : Int) 20 := ⟨by omega⟩
  have m2 : mulOk 2 (h : Int) := mulOk_of _ _ (by decide)
  have ht : tagOf S (.loc lf) = some .lst := tag_lst hf
  unfold rtB at hfor
  rw [dn47]
  unfold b47
  clear e he hrng hok pw
  generalize rowsL tds w h = RW at *
  generalize (h : Int) = H at *
  generalize (w : Int) = W at *
  simp (disch := walk_at "dv") [-s_for, ht, isTag, hf, hlen, m2, hfor]
end K91
set_option maxHeartbeats 8000000
local macro_rules | `(tactic| walk_at "dv") => `(tactic| first | assumption | (apply_assumption; done) | exact BW.mulOk_of _ _ (by decide) | exact BW.divOk_of _ _ (by first | decide | assumption | omega) (by decide) | decide | omega | (refine BW.le_size' ?_; first | omega | (simp only [List.length_cons, List.length_nil, List.length_append, List.length_map]; omega)) | simp)
namespace K91
open PySem PySem.Spec PyProof.Rows L2 BW TL
/-! ### the walls -/
theorem part1 (n : Nat) {ns : List Int} (h : ns.length ≤ 63) (hbd : BdA ns 1048576) {μ : Store} (h0 : listAt μ (.loc 0) = some (ns.map .int)) :
    ∃ (m : Int) (l2 : Nat) (tds : List Td) (S : Store), evSs P (den P (n + 1)) (b48.take 4) none [some (.loc 0), none, none, none, none, none, none, none, none, none, none, none, none, none, none, none] μ = .mk (.nx [some (.loc 0), some (.int m), some (.loc l2), none, none, none, none, none, none, none, none, none, none, none, none, none]) S ∧ Gr μ S ∧ S[l2]? = some (.lst (tds.map Td.pv5)) ∧ (∀ d ∈ tds, Sm d) ∧ tds.length ≤ 20 := by
  have c2 := cell_ok h36 n (k := 2) (by decide) h0 (by omega)
  rw [show (2 : Int).toNat = 2 from rfl] at c2
  generalize ns.getD 2 0 = x2 at c2
  have qs : cut (ns.map PV.int) (some 3) (some 23) = ((ns.drop 3).take 20).map PV.int := by
    rw [cut_map]; congr 1; exact cut_nat ns 3 23
  obtain ⟨cs, hcs⟩ : ∃ cs, cs = (ns.drop 3).take 20 := ⟨_, rfl⟩
  rw [← hcs] at qs
  have lc : cs.length ≤ 20 := by rw [hcs, List.length_take]; omega
  have bcs : ∀ c ∈ cs, Bd c 1048576 := fun c hc => by
    rw [hcs] at hc
    exact hbd.h c (List.mem_of_mem_drop (List.mem_of_mem_take hc))
  obtain ⟨S, hS⟩ : ∃ S, S = μ ++ [Cell.lst (cs.map .int)] := ⟨_, rfl⟩
  have G0 : Gr μ S := by rw [hS]; exact Gr.app
  have q0 : S[μ.length]? = some (.lst (cs.map .int)) := by rw [hS]; simp
  have el := fun (m : Int) (m0 : 0 < m) (m1 : m ≤ 34) => lc_each (ls := [(μ.length, cs.map PV.int)]) (i := 13) (c := fun _ m => .ok true m) (e := evE P (den P (n + 1)) none (.call 38 [.var 13, .var 1])) (ρ := [some (.loc 0), some (.int m), none, none, none, none, none, none, none, none, none, none, none, none, none, none]) (μ := S) cs PV.int (fun c => (tv c m).pv5)
    (stand_one q0) (by omega) (fun _ _ => rfl) (fun c hc => by
      have e4 := told_ok n c m m0 m1 (bcs c hc) S
      simp [e4])
  have key : ∀ (m : Int), 0 < m → m ≤ 34 → ∃ S2, S2 = S ++ [Cell.lst ((cs.map fun c => tv c m).map Td.pv5)] ∧ Gr μ S2 ∧ S2[S.length]? = some (.lst ((cs.map fun c => tv c m).map Td.pv5)) := fun m m0 m1 => ⟨_, rfl, G0.trans Gr.app, by simp⟩
  have hmm : ∀ m, cs.map (fun c => (tv c m).pv5) = (cs.map fun c => tv c m).map Td.pv5 := fun m => by rw [List.map_map]; rfl
  by_cases z : x2.fmod 16 = 1
  · have el := el 34 (by decide) (by decide)
    obtain ⟨S2, hS2, G2, q2⟩ := key 34 (by decide) (by decide)
    rw [hmm] at el
    have qt : cut ((cs.map fun c => tv c 34).map Td.pv5) none (some 2) = ((cs.map fun c => tv c 34).take 2).map Td.pv5 := by
      rw [cut_to (by decide)]
      exact (List.map_take).symm
    refine ⟨34, S2.length, (cs.map fun c => tv c 34).take 2, S2 ++ [.lst (((cs.map fun c => tv c 34).take 2).map Td.pv5)], ?_, G2.trans Gr.app, by simp, fun d hd => ?_, by rw [List.length_take, List.length_map]; omega⟩
    · generalize ((cs.map fun c => tv c 34).take 2).map Td.pv5 = L2 at *
      generalize (cs.map fun c => tv c 34).map Td.pv5 = L1 at *
      clear key hmm
      simp only [b48, List.take_succ_cons, List.take_zero]
      simp (disch := walk_at "dv") [c2, z, h0, qs, ← hS, q0, el, ← hS2, q2, qt]
    · obtain ⟨c, _, rfl⟩ := List.mem_map.mp (List.mem_of_mem_take hd)
      exact tv_sm c 34 (by decide) (by decide)
  · have el := el 6 (by decide) (by decide)
    obtain ⟨S2, hS2, G2, q2⟩ := key 6 (by decide) (by decide)
    rw [hmm] at el
    refine ⟨6, S.length, cs.map fun c => tv c 6, S2, ?_, G2, q2, fun d hd => ?_, by rw [List.length_map]; omega⟩
    · generalize (cs.map fun c => tv c 6).map Td.pv5 = L1 at *
      clear key hmm
      simp only [b48, List.take_succ_cons, List.take_zero]
      simp (disch := walk_at "dv") [c2, z, h0, qs, ← hS, q0, el, ← hS2]
    · obtain ⟨c, _, rfl⟩ := List.mem_map.mp hd
      exact tv_sm c 6 (by decide) (by decide)
structure G91 (S : Store) (lg : Nat) (tds : List Td) : Prop where
  at_ : S[lg]? = some (.lst (tds.map Td.pv5))
  ok : ∀ d ∈ tds, d.Ok
  e2 : ∀ d ∈ tds, d.e = 2
  ap : Ap tds tds.length
  le : tds.length ≤ 20
theorem G91.mono {S S' : Store} {lg : Nat} {tds : List Td} (G : G91 S lg tds) (h : Gr S S') : G91 S' lg tds := ⟨h.get G.at_, G.ok, G.e2, G.ap, G.le⟩
theorem part2 (n : Nat) {ns : List Int} (h : ns.length ≤ 63) (hbd : BdA ns 1048576) {μ : Store} (h0 : listAt μ (.loc 0) = some (ns.map .int)) {m : Int} {l2 : Nat} {tds0 : List Td} (hl : μ[l2]? = some (.lst (tds0.map Td.pv5))) (sm : ∀ d ∈ tds0, Sm d) (le : tds0.length ≤ 20) :
    ∃ (lg : Nat) (tds : List Td) (S : Store), evSs P (den P (n + 4)) ((b48.drop 4).take 1) none [some (.loc 0), some (.int m), some (.loc l2), none, none, none, none, none, none, none, none, none, none, none, none, none] μ = .mk (.nx [some (.loc 0), some (.int m), some (.loc l2), some (.loc lg), none, none, none, none, none, none, none, none, none, none, none, none]) S ∧ Gr μ S ∧ G91 S lg tds := by
  obtain ⟨gd, S1, e1, I⟩ := good5_ok h37 h39 h40 (n + 1) (tds := tds0) (Q := Sm) (fun d hd => by
    have := sh_ok (sm d hd) (a := 0) (b := 0) (by decide) (by decide) (by decide) (by decide)
    rw [sh_zero] at this
    exact this) sm (by omega) hl
  have lgd : gd.length ≤ 20 := Nat.le_trans I.le le
  have h1 := I.G.listAt h0
  have c2 := cell_ok h36 (n + 3) (k := 2) (by decide) h1 (by omega)
  have b2 := bd_getD hbd 2
  rw [show (2 : Int).toNat = 2 from rfl] at c2
  generalize ns.getD 2 0 = x2 at c2 b2
  have d16 : divOk x2 16 := divOk_of _ _ (by decide) (by decide)
  obtain ⟨a, b, lg, S2, e2, G2, q2, a0, a1, b0, b1⟩ := off_ok (n + 3) I.f (by omega) (x2.fdiv 16) (by infer_instance)
  refine ⟨lg, gd.map (sh a b), S2, ?_, I.G.trans G2, q2, fun d hd => ?_, fun d hd => ?_, fun i j x y hij hj hx hy => ?_, by rw [List.length_map]; exact lgd⟩
  · simp only [b48, List.drop_succ_cons, List.drop_zero, List.take_succ_cons, List.take_zero]
    simp (disch := walk_at "dv") [e1, c2, d16, e2]
  · obtain ⟨g, hg, rfl⟩ := List.mem_map.mp hd
    exact sh_ok (I.qq g hg) a0 a1 b0 b1
  · obtain ⟨g, hg, rfl⟩ := List.mem_map.mp hd
    exact (I.qq g hg).e
  · rw [List.length_map] at hj
    rw [List.getElem?_map] at hx hy
    obtain ⟨c, h3, rfl⟩ := Option.map_eq_some_iff.mp hx
    obtain ⟨d, h4, rfl⟩ := Option.map_eq_some_iff.mp hy
    exact fun q => I.ap i j c d hij hj h3 h4 (sh_shr q)
/-! ### the ends -/
def endsL (d : Td) : List (Int × Int) := [(d.x, d.y), (d.f.u, d.f.v)]
def esV (tds : List Td) : List (Int × Int) := tds.flatMap endsL
theorem es_len (tds : List Td) : (esV tds).length = 2 * tds.length := by
  unfold esV
  induction tds with
  | nil => rfl
  | cons d r ih => rw [List.flatMap_cons, List.length_append, ih, List.length_cons]; show 2 + _ = _; omega
theorem part3 (n : Nat) {μ : Store} {m : Int} {l2 lg : Nat} {tds : List Td} (G : G91 μ lg tds) :
    ∃ (l4 : Nat) (y5 : Option PV) (S : Store), evSs P (den P (n + 2)) ((b48.drop 5).take 2) none [some (.loc 0), some (.int m), some (.loc l2), some (.loc lg), none, none, none, none, none, none, none, none, none, none, none, none] μ = .mk (.nx [some (.loc 0), some (.int m), some (.loc l2), some (.loc lg), some (.loc l4), y5, none, none, none, none, none, none, none, none, none, none]) S ∧ Gr μ S ∧ S[l4]? = some (.lst ((esV tds).map pairPV)) := by
  have le := G.le
  obtain ⟨S0, hS0⟩ : ∃ S0, S0 = μ ++ [Cell.lst []] := ⟨_, rfl⟩
  have G0 : Gr μ S0 := by rw [hS0]; exact Gr.app
  have q0 : S0[μ.length]? = some (.lst []) := by rw [hS0]; simp
  obtain ⟨l4, y5, S, e, G1, q⟩ : ∃ l4 y5 S, forDen [(lg, tds.map Td.pv5)] (.nm 5) (evSs P (den P (n + 2)) [.set 4 (.bin .add (.var 4) (.call 42 [.var 5]))] none) (tds.map Td.pv5) [some (.loc 0), some (.int m), some (.loc l2), some (.loc lg), some (.loc μ.length), none, none, none, none, none, none, none, none, none, none, none] S0 = .mk (.nx [some (.loc 0), some (.int m), some (.loc l2), some (.loc lg), some (.loc l4), y5, none, none, none, none, none, none, none, none, none, none]) S ∧ Gr μ S ∧ S[l4]? = some (.lst ((esV tds).map pairPV)) := by
    refine for_post (fun j ρ S => Gr μ S ∧ ∃ l4 y5, ρ = [some (.loc 0), some (.int m), some (.loc l2), some (.loc lg), some (.loc l4), y5, none, none, none, none, none, none, none, none, none, none] ∧ S[l4]? = some (.lst ((esV (tds.take j)).map pairPV))) (fun r => ∃ l4 y5 S, r = .mk (.nx [some (.loc 0), some (.int m), some (.loc l2), some (.loc lg), some (.loc l4), y5, none, none, none, none, none, none, none, none, none, none]) S ∧ Gr μ S ∧ S[l4]? = some (.lst ((esV tds).map pairPV))) ⟨G0, μ.length, none, rfl, q0⟩ (fun _ _ _ I => stand_one (I.1.get G.at_)) ?_ ?_
    · rintro ρ S ⟨G1, l4, y5, rfl, q⟩
      rw [List.length_map, List.take_length] at q
      exact ⟨l4, y5, S, rfl, G1, q⟩
    · rintro j ρ S v hv ⟨G1, l4, y5, rfl, q⟩
      rw [List.getElem?_map] at hv
      obtain ⟨d, hd, rfl⟩ := Option.map_eq_some_iff.mp hv
      have hj := (List.getElem?_eq_some_iff.mp hd).1
      obtain ⟨S1, m1, e1, G2, q1⟩ := ends_ok n (G.ok d (List.mem_of_getElem? hd)) S
      have q' := G2.get q
      have hle : ((esV (tds.take j)).map pairPV).length + 2 ≤ 1000000 := by rw [List.length_map, es_len, List.length_take]; omega
      have hadd := addL_ S1 ((esV (tds.take j)).map pairPV) [.tup [.int d.x, .int d.y], .tup [.int d.f.u, .int d.f.v]] (by rw [sizeLine_eq]; simp only [List.length_cons, List.length_nil]; omega)
      refine ⟨_, asg_nm S 5 _ _, .inl ⟨[some (.loc 0), some (.int m), some (.loc l2), some (.loc lg), some (.loc S1.length), some d.pv5, none, none, none, none, none, none, none, none, none, none], S1 ++ [.lst ((esV (tds.take j)).map pairPV ++ [.tup [.int d.x, .int d.y], .tup [.int d.f.u, .int d.f.v]])], .inl ?_, (G1.trans G2).trans Gr.app, _, _, rfl, ?_⟩⟩
      · generalize (esV (tds.take j)).map pairPV = EL at *
        generalize d.pv5 = D at *
        simp (disch := walk_at "dv") [e1, q', q1, hadd]
      · rw [List.take_succ, hd]
        simp [esV, endsL, pairPV]
  refine ⟨l4, y5, S, ?_, G1, q⟩
  have ha := G0.get G.at_
  simp only [b48, List.drop_succ_cons, List.drop_zero, List.take_succ_cons, List.take_zero]
  generalize tds.map Td.pv5 = TL at *
  simp (disch := walk_at "dv") [← hS0, ha, e]
/-! ### how much is wanted -/
def needX (es : List (Int × Int)) : Int := maxL (0 :: es.map (·.1))
def needY (es : List (Int × Int)) : Int := maxL (0 :: es.map (·.2))
def lowV (es : List (Int × Int)) : Int := minL (es.map fun p => if p.2 < p.1 then p.2 else p.1)
theorem maxL_le {w : Int} : ∀ (xs : List Int) (x : Int), xs.foldl max x ≤ w ↔ x ≤ w ∧ ∀ y ∈ xs, y ≤ w
  | [], x => by simp
  | y :: xs, x => by
    rw [List.foldl_cons, maxL_le xs]
    constructor
    · rintro ⟨h1, h2⟩
      exact ⟨by omega, fun z hz => by
        rcases List.mem_cons.mp hz with rfl | hz
        · omega
        · exact h2 z hz⟩
    · rintro ⟨h1, h2⟩
      have := h2 y List.mem_cons_self
      exact ⟨by omega, fun z hz => h2 z (List.mem_cons_of_mem _ hz)⟩
theorem le_minL {w : Int} : ∀ (xs : List Int) (x : Int), w ≤ xs.foldl min x ↔ w ≤ x ∧ ∀ y ∈ xs, w ≤ y
  | [], x => by simp
  | y :: xs, x => by
    rw [List.foldl_cons, le_minL xs]
    constructor
    · rintro ⟨h1, h2⟩
      exact ⟨by omega, fun z hz => by
        rcases List.mem_cons.mp hz with rfl | hz
        · omega
        · exact h2 z hz⟩
    · rintro ⟨h1, h2⟩
      have := h2 y List.mem_cons_self
      exact ⟨by omega, fun z hz => h2 z (List.mem_cons_of_mem _ hz)⟩
theorem needX_le {es : List (Int × Int)} {w : Int} : needX es ≤ w ↔ 0 ≤ w ∧ ∀ p ∈ es, p.1 ≤ w := by
  unfold needX maxL
  rw [maxL_le]
  exact and_congr Iff.rfl ⟨fun H p hp => H _ (List.mem_map.mpr ⟨p, hp, rfl⟩), fun H y hy => by
    obtain ⟨p, hp, rfl⟩ := List.mem_map.mp hy
    exact H p hp⟩
theorem needY_le {es : List (Int × Int)} {w : Int} : needY es ≤ w ↔ 0 ≤ w ∧ ∀ p ∈ es, p.2 ≤ w := by
  unfold needY maxL
  rw [maxL_le]
  exact and_congr Iff.rfl ⟨fun H p hp => H _ (List.mem_map.mpr ⟨p, hp, rfl⟩), fun H y hy => by
    obtain ⟨p, hp, rfl⟩ := List.mem_map.mp hy
    exact H p hp⟩
theorem lowV_ge {es : List (Int × Int)} : 0 ≤ lowV es ↔ ∀ p ∈ es, 0 ≤ p.1 ∧ 0 ≤ p.2 := by
  have key : ∀ p : Int × Int, 0 ≤ (if p.2 < p.1 then p.2 else p.1) ↔ 0 ≤ p.1 ∧ 0 ≤ p.2 := fun p => by split <;> omega
  unfold lowV
  cases es with
  | nil => simp [minL]
  | cons p r =>
    show 0 ≤ (r.map _).foldl min _ ↔ _
    rw [le_minL, key]
    constructor
    · rintro ⟨h1, h2⟩ q hq
      rcases List.mem_cons.mp hq with rfl | hq
      · exact h1
      · exact (key q).mp (h2 _ (List.mem_map.mpr ⟨q, hq, rfl⟩))
    · intro h
      refine ⟨h p List.mem_cons_self, fun y hy => ?_⟩
      obtain ⟨q, hq, rfl⟩ := List.mem_map.mp hy
      exact (key q).mpr (h q (List.mem_cons_of_mem _ hq))
theorem needX_nn (es : List (Int × Int)) : 0 ≤ needX es := by
  have := (needX_le (es := es) (w := needX es)).mp (Int.le_refl _)
  exact this.1
theorem needY_nn (es : List (Int × Int)) : 0 ≤ needY es := by
  have := (needY_le (es := es) (w := needY es)).mp (Int.le_refl _)
  exact this.1
theorem fits_iff {tds : List Td} {w h : Int} (w0 : 0 ≤ w) (h0 : 0 ≤ h) : (∀ d ∈ tds, fitsP d w h) ↔ needX (esV tds) ≤ w ∧ needY (esV tds) ≤ h ∧ 0 ≤ lowV (esV tds) := by
  rw [needX_le, needY_le, lowV_ge]
  have hm : ∀ p, p ∈ esV tds ↔ ∃ d ∈ tds, p = (d.x, d.y) ∨ p = (d.f.u, d.f.v) := fun p => by
    unfold esV endsL
    rw [List.mem_flatMap]
    simp
  constructor
  · intro H
    have k : ∀ p ∈ esV tds, 0 ≤ p.1 ∧ p.1 ≤ w ∧ 0 ≤ p.2 ∧ p.2 ≤ h := fun p hp => by
      obtain ⟨d, hd, e⟩ := (hm p).mp hp
      obtain ⟨f1, f2⟩ := H d hd
      unfold outP at f1 f2
      rcases e with rfl | rfl <;> dsimp only <;> omega
    exact ⟨⟨w0, fun p hp => (k p hp).2.1⟩, ⟨h0, fun p hp => (k p hp).2.2.2⟩, fun p hp => ⟨(k p hp).1, (k p hp).2.2.1⟩⟩
  · rintro ⟨⟨_, H1⟩, ⟨_, H2⟩, H3⟩ d hd
    have p1 := (hm (d.x, d.y)).mpr ⟨d, hd, .inl rfl⟩
    have p2 := (hm (d.f.u, d.f.v)).mpr ⟨d, hd, .inr rfl⟩
    have a1 := H1 _ p1
    have a2 := H2 _ p1
    have a3 := H3 _ p1
    have b1 := H1 _ p2
    have b2 := H2 _ p2
    have b3 := H3 _ p2
    dsimp only at *
    unfold fitsP outP
    omega
theorem es_bd {tds : List Td} (hok : ∀ d ∈ tds, d.Ok) {p : Int × Int} (hp : p ∈ esV tds) : p.1 ≤ 1000 ∧ p.2 ≤ 1000 := by
  unfold esV endsL at hp
  obtain ⟨d, hd, e⟩ := List.mem_flatMap.mp hp
  have := (hok d hd).x1
  have := (hok d hd).y1
  have := (hok d hd).u1
  have := (hok d hd).v1
  simp at e
  rcases e with rfl | rfl <;> exact ⟨by assumption, by assumption⟩
theorem part4 (D : Den) {μ : Store} {m : Int} {l2 lg l4 : Nat} {y5 : Option PV} {es : List (Int × Int)} (hl : es.length ≤ 1000) (h4 : μ[l4]? = some (.lst (es.map pairPV))) :
    ∃ (l6 : Nat) (S : Store), evSs P D ((b48.drop 7).take 1) none [some (.loc 0), some (.int m), some (.loc l2), some (.loc lg), some (.loc l4), y5, none, none, none, none, none, none, none, none, none, none] μ = .mk (.nx [some (.loc 0), some (.int m), some (.loc l2), some (.loc lg), some (.loc l4), y5, some (.loc l6), none, none, none, none, none, none, none, none, none]) S ∧ Gr μ S ∧ S[l6]? = some (.lst [.int (needX es), .int (needY es)]) := by
  have hr : rngOf [.int 2] = some [.int 0, .int 1] := rng_nat (L := 2) (by decide) (by decide)
  have inner : ∀ (j : Int) (f : Int × Int → Int) (M : Store), (∀ p : Int × Int, ∀ M, idxV (pairPV p) (.int j) M = .ok (.int (f p)) M) → M[l4]? = some (.lst (es.map pairPV)) →
      ∃ M', evE P D none (.bi .max [.bin .add (.lst [.con (.int 0)]) (.lc (.idx (.var 15) (.var 14)) (.nm 15) (.seq (.var 4)) none [15])]) [some (.loc 0), some (.int m), some (.loc l2), some (.loc lg), some (.loc l4), y5, none, none, none, none, none, none, none, none, some (.int j), none] M = .ok (.int (maxL (0 :: es.map f))) M' ∧ Gr M M' := by
    intro j f M hf q
    obtain ⟨M1, hM1⟩ : ∃ M1, M1 = M ++ [Cell.lst [.int 0]] := ⟨_, rfl⟩
    have G1 : Gr M M1 := by rw [hM1]; exact Gr.app
    have q1 : M1[M.length]? = some (.lst [.int 0]) := by rw [hM1]; simp
    have q2 := G1.get q
    have el := lc_each (ls := [(l4, es.map pairPV)]) (i := 15) (c := fun _ m => .ok true m) (e := evE P D none (.idx (.var 15) (.var 14))) (ρ := [some (.loc 0), some (.int m), some (.loc l2), some (.loc lg), some (.loc l4), y5, none, none, none, none, none, none, none, none, some (.int j), none]) (μ := M1) es pairPV (fun p => PV.int (f p)) (stand_one q2) (by omega) (fun _ _ => rfl) (fun p _ => by
      have := hf p M1
      simp [this])
    obtain ⟨M2, hM2⟩ : ∃ M2, M2 = M1 ++ [Cell.lst (es.map fun p => PV.int (f p))] := ⟨_, rfl⟩
    have G2 : Gr M1 M2 := by rw [hM2]; exact Gr.app
    have q3 : M2[M1.length]? = some (.lst (es.map fun p => PV.int (f p))) := by rw [hM2]; simp
    have q4 := G2.get q1
    obtain ⟨M3, hM3⟩ : ∃ M3, M3 = M2 ++ [Cell.lst ([.int 0] ++ es.map fun p => PV.int (f p))] := ⟨_, rfl⟩
    have hadd := addL_ M2 [.int 0] (es.map fun p => PV.int (f p)) (by rw [sizeLine_eq, List.length_map]; simp only [List.length_cons, List.length_nil]; omega)
    rw [← hM3] at hadd
    have q5 : M3[M2.length]? = some (.lst ((0 :: es.map f).map .int)) := by
      rw [hM3]
      have : [PV.int 0] ++ es.map (fun p => PV.int (f p)) = (0 :: es.map f).map .int := by
        rw [List.map_cons, List.map_map]; rfl
      rw [this]
      simp
    have hmx := bi_maxL' q5 (by simp)
    refine ⟨M3, ?_, (G1.trans G2).trans (by rw [hM3]; exact Gr.app)⟩
    generalize es.map (fun p => PV.int (f p)) = EF at *
    generalize es.map pairPV = EP at *
    generalize maxL (0 :: es.map f) = MX at *
    simp (disch := walk_at "dv") [← hM1, q2, el, ← hM2, q3, q4, hadd, hmx]
  obtain ⟨S, e, G⟩ := lc_gr (ls := []) (i := 14) (e := evE P D none (.bi .max [.bin .add (.lst [.con (.int 0)]) (.lc (.idx (.var 15) (.var 14)) (.nm 15) (.seq (.var 4)) none [15])])) (ρ := [some (.loc 0), some (.int m), some (.loc l2), some (.loc lg), some (.loc l4), y5, none, none, none, none, none, none, none, none, none, none]) (μ := μ) [(0 : Int), 1] PV.int (fun j => if j = 0 then PV.int (needX es) else PV.int (needY es)) (fun _ _ => stand_nil) (by decide) (fun j hj M G => by
    rcases (show j = 0 ∨ j = 1 by simpa using hj) with rfl | rfl
    · obtain ⟨M', e, G'⟩ := inner 0 (·.1) M (fun p M => rfl) (G.get h4)
      exact ⟨M', e, G'⟩
    · obtain ⟨M', e, G'⟩ := inner 1 (·.2) M (fun p M => rfl) (G.get h4)
      exact ⟨M', e, G'⟩)
  have e : lcDen [] [some (.loc 0), some (.int m), some (.loc l2), some (.loc lg), some (.loc l4), y5, none, none, none, none, none, none, none, none, none, none] (.nm 14) (fun _ m => .ok true m) _ [PV.int 0, .int 1] [] μ = .ok [.int (needX es), .int (needY es)] S := e
  refine ⟨S.length, S ++ [.lst [.int (needX es), .int (needY es)]], ?_, G.trans Gr.app, by simp⟩
  simp only [b48, List.drop_succ_cons, List.drop_zero, List.take_succ_cons, List.take_zero]
  clear inner
  simp (disch := walk_at "dv") [hr, e]
end K91
set_option maxHeartbeats 8000000
local macro_rules | `(tactic| walk_at "dv") => `(tactic| first | assumption | (apply_assumption; done) | exact BW.mulOk_of _ _ (by decide) | exact BW.divOk_of _ _ (by first | decide | assumption | omega) (by decide) | decide | omega | (refine BW.le_size' ?_; first | omega | (simp only [List.length_cons, List.length_nil, List.length_append, List.length_map]; omega)) | simp)
namespace K91
open PySem PySem.Spec PyProof.Rows L2 BW TL
theorem minD_es {μ : Store} {l : Nat} {es : List (Int × Int)} (h : μ[l]? = some (.lst (es.map fun p => PV.int (if p.2 < p.1 then p.2 else p.1)))) : biV .minD [.loc l, .int 0] μ = .ok (.int (lowV es)) μ := by
  have e : (listAt μ (.loc l)).bind intsOf = some (es.map fun p => if p.2 < p.1 then p.2 else p.1) := by
    rw [lst_at h]
    show intsOf _ = _
    rw [show (es.map fun p => PV.int (if p.2 < p.1 then p.2 else p.1)) = (es.map fun p => if p.2 < p.1 then p.2 else p.1).map PV.int by rw [List.map_map]; rfl, intsOf_map]
  show (match (listAt μ (.loc l)).bind intsOf with
    | some [] => Res.ok (PV.int 0) μ
    | some (n :: ns) => .ok (.int (ns.foldl min n)) μ
    | none => .bad) = _
  rw [e]
  unfold lowV minL
  cases es with
  | nil => rfl
  | cons p r => rfl
theorem part5 (n : Nat) {ns : List Int} (hns : ns.length ≤ 63) (hbd : BdA ns 1048576) {μ : Store} (h0 : listAt μ (.loc 0) = some (ns.map .int)) {m : Int} {l2 lg l4 l6 : Nat} {y5 : Option PV} {tds : List Td} (hok : ∀ d ∈ tds, d.Ok) (le : tds.length ≤ 20) (h4 : μ[l4]? = some (.lst ((esV tds).map pairPV))) (h6 : μ[l6]? = some (.lst [.int (needX (esV tds)), .int (needY (esV tds))])) :
    ∃ (w h : Int) (S : Store), evSs P (den P (n + 1)) ((b48.drop 8).take 6) none [some (.loc 0), some (.int m), some (.loc l2), some (.loc lg), some (.loc l4), y5, some (.loc l6), none, none, none, none, none, none, none, none, none] μ = .mk (.nx [some (.loc 0), some (.int m), some (.loc l2), some (.loc lg), some (.loc l4), y5, some (.loc l6), some (.int w), some (.int h), some (.int (lowV (esV tds))), some .non, some (.str ("" : Str)), none, none, none, none]) S ∧ Gr μ S ∧ 0 ≤ w ∧ 0 ≤ h := by
  have c0 := cell_ok h36 n (k := 0) (by decide) h0 (by omega)
  have c1 := cell_ok h36 n (k := 1) (by decide) h0 (by omega)
  have b0 := bd_getD hbd 0
  have b1 := bd_getD hbd 1
  rw [show (0 : Int).toNat = 0 from rfl] at c0
  rw [show (1 : Int).toNat = 1 from rfl] at c1
  have nx := needX_nn (esV tds)
  have ny := needY_nn (esV tds)
  have nx1 : needX (esV tds) ≤ 1000 := needX_le.mpr ⟨by decide, fun p hp => (es_bd hok hp).1⟩
  have ny1 : needY (esV tds) ≤ 1000 := needY_le.mpr ⟨by decide, fun p hp => (es_bd hok hp).2⟩
  obtain ⟨w, w0, ew⟩ := size_ok n (needX (esV tds)) (ns.getD 0 0) nx nx1 b0
  obtain ⟨h, hh0, eh⟩ := size_ok n (needY (esV tds)) (ns.getD 1 0) ny ny1 b1
  have ew := ew μ
  have eh := eh μ
  have hl : (esV tds).length ≤ 40 := by rw [es_len]; omega
  have el := fun x8 => lc_each (ls := [(l4, (esV tds).map pairPV)]) (i := 15) (c := fun _ m => .ok true m) (e := evE P (den P (n + 1)) none (.bi .min [.var 15])) (ρ := [some (.loc 0), some (.int m), some (.loc l2), some (.loc lg), some (.loc l4), y5, some (.loc l6), some (.int w), x8, none, none, none, none, none, none, none]) (μ := μ) (esV tds) pairPV (fun p => PV.int (if p.2 < p.1 then p.2 else p.1)) (stand_one h4) (by omega) (fun _ _ => rfl) (fun p _ => by
    have : biV .min [pairPV p] μ = .ok (.int (if p.2 < p.1 then p.2 else p.1)) μ := rfl
    generalize pairPV p = pp at *
    simp [this])
  obtain ⟨S, hS⟩ : ∃ S, S = μ ++ [Cell.lst ((esV tds).map fun p => PV.int (if p.2 < p.1 then p.2 else p.1))] := ⟨_, rfl⟩
  have qS : S[μ.length]? = some (.lst ((esV tds).map fun p => PV.int (if p.2 < p.1 then p.2 else p.1))) := by rw [hS]; simp
  have em := minD_es qS
  have fin : ∃ h2 : Int, 0 ≤ h2 ∧ (if w = 40 ∧ h = 40 then needY (esV tds) else h) = h2 := ⟨_, by split <;> assumption, rfl⟩
  obtain ⟨h2, h20, fin⟩ := fin
  refine ⟨w, h2, S, ?_, by rw [hS]; exact Gr.app, w0, h20⟩
  simp only [b48, List.drop_succ_cons, List.drop_zero, List.take_succ_cons, List.take_zero]
  clear hok hbd nx1 ny1 nx ny b0 b1
  generalize ns.getD 0 0 = x0 at *
  generalize ns.getD 1 0 = x1 at *
  generalize needX (esV tds) = NX at *
  generalize needY (esV tds) = NY at *
  generalize lowV (esV tds) = LV at *
  generalize (esV tds).map pairPV = EP at *
  generalize ((esV tds).map fun p => PV.int (if p.2 < p.1 then p.2 else p.1)) = EQ at *
  by_cases z1 : w = 40
  · by_cases z2 : h = 40
    · rw [if_pos ⟨z1, z2⟩] at fin
      have el := el (some (.int NY))
      rw [← fin]
      rw [z1] at ew el ⊢
      rw [z2] at eh
      simp (disch := walk_at "dv") [h6, c0, c1, ew, eh, h4, el, ← hS, em]
    · rw [if_neg (fun q => z2 q.2)] at fin
      have el := el (some (.int h))
      rw [← fin]
      rw [z1] at ew el ⊢
      simp (disch := walk_at "dv") [h6, c0, c1, ew, eh, z2, h4, el, ← hS, em]
  · rw [if_neg (fun q => z1 q.1)] at fin
    have el := el (some (.int h))
    rw [← fin]
    simp (disch := walk_at "dv") [h6, c0, c1, ew, eh, z1, h4, el, ← hS, em]
/-! ### the try -/
theorem G91.up {S : Store} {m : Nat} {tds : List Td} (G : G91 S m tds) (j k : Nat) (a b : W4 × Kd) (hjk : j < k) (h1 : (tds.map Td.sp)[j]? = some a) (h2 : (tds.map Td.sp)[k]? = some b) : upB a.1 b.1 = false := by
  rw [List.getElem?_map] at h1 h2
  obtain ⟨c, h3, rfl⟩ := Option.map_eq_some_iff.mp h1
  obtain ⟨d, h4, rfl⟩ := Option.map_eq_some_iff.mp h2
  have hk : k < tds.length := (List.getElem?_eq_some_iff.mp h4).1
  have := G.ap j k c d hjk hk h3 h4
  show upB c.f.w4 d.f.w4 = false
  exact up_apart' (G.ok c (List.mem_of_getElem? h3)).ln (G.ok d (List.mem_of_getElem? h4)).ln fun q h5 h6 => this ⟨q, h6, h5⟩
theorem repS_one (a : Str) : repS a 1 = a := by unfold repS; simp
theorem repS_zero (a : Str) : repS a 0 = ("" : Str) := by
  have : ("" : Str) = ⟨#[]⟩ := by decide +kernel
  rw [this]; rfl
theorem mulS (a : Str) (h : a.length ≤ 1000) (μ : Store) : binV .mul (.str a) (.int 1) μ = .ok (.str a) μ ∧ binV .mul (.str a) (.int 0) μ = .ok (.str ("" : Str)) μ := by
  have f : ∀ k : Int, 0 ≤ k → k ≤ 1000 → binV .mul (.str a) (.int k) μ = .ok (.str (repS a k.toNat)) μ := fun k h0 h1 => if_pos ⟨h0, h1, h⟩
  refine ⟨?_, ?_⟩
  · rw [f 1 (by decide) (by decide), show (1 : Int).toNat = 1 from rfl, repS_one]
  · rw [f 0 (by decide) (by decide), show (0 : Int).toNat = 0 from rfl, repS_zero]
def hB : List IS := [.set 11 (.bin .add (.bin .mul (.con (.str "many")) (.bi .int [.xis [.own 2]])) (.bin .mul (.con (.str "out")) (.bi .int [.xis [.own 4]]))), .set 11 (.bin .add (.var 11) (.bin .mul (.con (.str "bad")) (.bi .int [.or (.xis [.own 5]) (.not (.xis [.ve]))])))]
theorem addS (a b c : Str) (h : a.length + b.length ≤ 1000000) (e : a ++ b = c) (μ : Store) : binV .add (.str a) (.str b) μ = .ok (.str c) μ := by rw [← e]; exact add_s μ a b h
theorem hB_many (D : Den) (S : Store) (v0 v1 v2 v3 v4 v5 v6 v7 v8 v9 v10 v11 v12 v13 v14 v15 : Option PV) : evSs P D hB (some ⟨2, []⟩) [v0, v1, v2, v3, v4, v5, v6, v7, v8, v9, v10, v11, v12, v13, v14, v15] S = .mk (.nx [v0, v1, v2, v3, v4, v5, v6, v7, v8, v9, v10, some (.str ("many" : Str)), v12, v13, v14, v15]) S := by
  have u1 : isTags P (.exc 2) [.own 2] = some true := rfl
  have u2 : isTags P (.exc 2) [.own 4] = some false := rfl
  have u3 : isTags P (.exc 2) [.own 5] = some false := rfl
  have u4 : isTags P (.exc 2) [.ve] = some true := rfl
  obtain ⟨m1, m2⟩ := mulS ("many" : Str) (by decide +kernel) S
  obtain ⟨m3, m4⟩ := mulS ("out" : Str) (by decide +kernel) S
  obtain ⟨m5, m6⟩ := mulS ("bad" : Str) (by decide +kernel) S
  have a1 := addS ("many" : Str) ("" : Str) ("many" : Str) (by decide +kernel) (by decide +kernel) S
  unfold hB
  simp [u1, u2, u3, u4, m1, m4, m6, a1, -isTags_cons]
theorem hB_out (D : Den) (S : Store) (v0 v1 v2 v3 v4 v5 v6 v7 v8 v9 v10 v11 v12 v13 v14 v15 : Option PV) : evSs P D hB (some ⟨4, []⟩) [v0, v1, v2, v3, v4, v5, v6, v7, v8, v9, v10, v11, v12, v13, v14, v15] S = .mk (.nx [v0, v1, v2, v3, v4, v5, v6, v7, v8, v9, v10, some (.str ("out" : Str)), v12, v13, v14, v15]) S := by
  have u1 : isTags P (.exc 4) [.own 2] = some false := rfl
  have u2 : isTags P (.exc 4) [.own 4] = some true := rfl
  have u3 : isTags P (.exc 4) [.own 5] = some false := rfl
  have u4 : isTags P (.exc 4) [.ve] = some true := rfl
  obtain ⟨m1, m2⟩ := mulS ("many" : Str) (by decide +kernel) S
  obtain ⟨m3, m4⟩ := mulS ("out" : Str) (by decide +kernel) S
  obtain ⟨m5, m6⟩ := mulS ("bad" : Str) (by decide +kernel) S
  have a1 := addS ("" : Str) ("out" : Str) ("out" : Str) (by decide +kernel) (by decide +kernel) S
  have a2 := addS ("out" : Str) ("" : Str) ("out" : Str) (by decide +kernel) (by decide +kernel) S
  unfold hB
  simp [u1, u2, u3, u4, m2, m3, m6, a1, a2, -isTags_cons]
/-- the try, and what it leaves -/
theorem part6 (n : Nat) {μ : Store} {m w h : Int} {l2 lg l4 l6 : Nat} {y5 : Option PV} {tds : List Td} (G : G91 μ lg tds) (w0 : 0 ≤ w) (h0 : 0 ≤ h) :
    ∃ (x10 : Option PV) (ws : Str) (S : Store), evSs P (den P (n + 5)) ((b48.drop 14).take 1) none [some (.loc 0), some (.int m), some (.loc l2), some (.loc lg), some (.loc l4), y5, some (.loc l6), some (.int w), some (.int h), some (.int (lowV (esV tds))), some .non, some (.str ("" : Str)), none, none, none, none] μ = .mk (.nx [some (.loc 0), some (.int m), some (.loc l2), some (.loc lg), some (.loc l4), y5, some (.loc l6), some (.int w), some (.int h), some (.int (lowV (esV tds))), x10, some (.str ws), none, none, none, none]) S ∧ Gr μ S ∧
      ((40 < w ∨ 40 < h) ∧ ws = "many" ∨ (w ≤ 40 ∧ h ≤ 40 ∧ (¬ ∀ d ∈ tds, fitsP d w h) ∧ ws = "out") ∨ (w ≤ 40 ∧ h ≤ 40 ∧ (∀ d ∈ tds, fitsP d w h) ∧ ws = "" ∧ ∃ lf, x10 = some (.loc lf) ∧ S[lf]? = some (.lst (rowsL tds w.toNat h.toNat)))) := by
  have le := G.le
  obtain ⟨ll, S1, el, G1, hll, hwx⟩ := lc_wx (T := TT) (ls := [(lg, tds.map Td.pv5)]) (iv := 5) (e := evE P (den P (n + 5)) none (.call 43 [.var 5])) (xs := tds) Td.pv5 Td.sp (ρ := [some (.loc 0), some (.int m), some (.loc l2), some (.loc lg), some (.loc l4), none, some (.loc l6), some (.int w), some (.int h), some (.int (lowV (esV tds))), some .non, some (.str ("" : Str)), none, none, none, none]) (μ := μ)
    (fun m' G' => stand_one (G'.get G.at_)) (by omega) (fun d hd m' G' => by
      obtain ⟨a, m2, e4, G5, W⟩ := made_ok (n + 1) (G.ok d hd) (G.e2 d hd) m'
      exact ⟨a, m2, by simp [e4], G5, W⟩)
  obtain ⟨S2, hS2⟩ : ∃ S2, S2 = S1 ++ [Cell.lst (ll.map PV.loc)] := ⟨_, rfl⟩
  have G2 : Gr S1 S2 := by rw [hS2]; exact Gr.app
  have q2 : S2[S1.length]? = some (.lst (ll.map .loc)) := by rw [hS2]; simp
  obtain ⟨S3, e3, G3, R⟩ := mk_room TT (n + 1) (ls := ll) (ws := tds.map Td.sp) (by omega) (lst_at q2) (fun j a w h1 h2 => by
    rw [List.getElem?_map] at h2
    obtain ⟨d, h3, rfl⟩ := Option.map_eq_some_iff.mp h2
    exact (hwx j a d h1 h3).mono G2) (by rw [List.length_map]; exact hll) G.up
  have e3 : kMake P (den P (n + 5)) 6 [.loc S1.length] S2 = .ok (.loc S2.length) S3 := e3
  have GG := (G1.trans G2).trans G3
  have hl := G.at_
  have B : ∀ r, (den P (n + 5) 35 [.loc S2.length, .int w, .int h] S3 = r) → evSs P (den P (n + 5)) [.set 10 (.call 35 [.make 6 [.lc (.call 43 [.var 5]) (.nm 5) (.seq (.var 3)) none [5]], .var 7, .var 8])] none [some (.loc 0), some (.int m), some (.loc l2), some (.loc lg), some (.loc l4), y5, some (.loc l6), some (.int w), some (.int h), some (.int (lowV (esV tds))), some .non, some (.str ("" : Str)), none, none, none, none] μ = r.st [some (.loc 0), some (.int m), some (.loc l2), some (.loc lg), some (.loc l4), y5, some (.loc l6), some (.int w), some (.int h), some (.int (lowV (esV tds))), some .non, some (.str ("" : Str)), none, none, none, none] (fun v M => .mk (.nx [some (.loc 0), some (.int m), some (.loc l2), some (.loc lg), some (.loc l4), y5, some (.loc l6), some (.int w), some (.int h), some (.int (lowV (esV tds))), some v, some (.str ("" : Str)), none, none, none, none]) M) := by
    intro r hr
    clear hwx R
    generalize tds.map Td.pv5 = TL at *
    generalize ll.map PV.loc = LL at *
    generalize lowV (esV tds) = LV at *
    cases r with
    | ok v M => simp (disch := walk_at "dv") [hl, el, ← hS2, e3, -kMake_, hr]
    | ex e M => simp (disch := walk_at "dv") [hl, el, ← hS2, e3, -kMake_, hr]
    | bad => simp (disch := walk_at "dv") [hl, el, ← hS2, e3, -kMake_, hr]
  have T : ∀ r : RS, evSs P (den P (n + 5)) [.set 10 (.call 35 [.make 6 [.lc (.call 43 [.var 5]) (.nm 5) (.seq (.var 3)) none [5]], .var 7, .var 8])] none [some (.loc 0), some (.int m), some (.loc l2), some (.loc lg), some (.loc l4), y5, some (.loc l6), some (.int w), some (.int h), some (.int (lowV (esV tds))), some .non, some (.str ("" : Str)), none, none, none, none] μ = r → evSs P (den P (n + 5)) ((b48.drop 14).take 1) none [some (.loc 0), some (.int m), some (.loc l2), some (.loc lg), some (.loc l4), y5, some (.loc l6), some (.int w), some (.int h), some (.int (lowV (esV tds))), some .non, some (.str ("" : Str)), none, none, none, none] μ = (kTry P (den P (n + 5)) [([.own 0], (some 12), hB)] r).seq (kSs P (den P (n + 5)) none []) := by
    intro r hr
    simp only [b48, List.drop_succ_cons, List.drop_zero, List.take_succ_cons, List.take_zero]
    rw [ss_cons', s_try, hr]
    rfl
  clear el hwx
  by_cases z : 40 < w ∨ 40 < h
  · have ed := drawn_many c2 rfl h35 (n + 4) (l := S2.length) z S3
    have b := T _ (B _ ed)
    refine ⟨some .non, "many", S3, ?_, GG, .inl ⟨z, rfl⟩⟩
    rw [b, Res.st_ex, kTry_ex, h_as _ _ _ _ (by rfl) (by simp)]
    have hm := hB_many (den P (n + 5)) S3
    simp [hm]
  · obtain ⟨W, hW⟩ : ∃ W : Nat, w = (W : Int) := ⟨w.toNat, by omega⟩
    obtain ⟨H, hH⟩ : ∃ H : Nat, h = (H : Int) := ⟨h.toNat, by omega⟩
    rcases drawn_ok TT c4 rfl h31 h32 h33 h34 h35 n G.ok R (w := W) (h := H) (by omega) (by omega) with ⟨hf, lf, S4, ed, G4, q4⟩ | ⟨hf, S4, ed, G4⟩
    · rw [← hW, ← hH] at ed hf
      have b := T _ (B _ ed)
      refine ⟨some (.loc lf), "", S4, ?_, GG.trans G4, .inr (.inr ⟨by omega, by omega, hf, rfl, lf, rfl, ?_⟩)⟩
      · rw [b, Res.st_ok, kTry_nx, RS.seq_nx, kSs_, ss_nil']
      · rw [hW, hH]; exact q4
    · rw [← hW, ← hH] at ed hf
      have b := T _ (B _ ed)
      refine ⟨some .non, "out", S4, ?_, GG.trans G4, .inr (.inl ⟨by omega, by omega, hf, rfl⟩)⟩
      rw [b, Res.st_ex, kTry_ex, h_as _ _ _ _ (by rfl) (by simp)]
      have hm := hB_out (den P (n + 5)) S4
      simp [hm]
theorem part7 (n : Nat) {μ : Store} {m w h : Int} {l2 lg l4 l6 : Nat} {y5 : Option PV} {tds : List Td} (G : G91 μ lg tds) (w0 : 0 ≤ w) (h0 : 0 ≤ h) (h6 : μ[l6]? = some (.lst [.int (needX (esV tds)), .int (needY (esV tds))])) {x10 : Option PV} {ws : Str}
    (hc : (40 < w ∨ 40 < h) ∧ ws = "many" ∨ (w ≤ 40 ∧ h ≤ 40 ∧ (¬ ∀ d ∈ tds, fitsP d w h) ∧ ws = "out") ∨ (w ≤ 40 ∧ h ≤ 40 ∧ (∀ d ∈ tds, fitsP d w h) ∧ ws = "" ∧ ∃ lf, x10 = some (.loc lf) ∧ μ[lf]? = some (.lst (rowsL tds w.toNat h.toNat)))) :
    ∃ S, (evSs P (den P (n + 4)) (b48.drop 15) none [some (.loc 0), some (.int m), some (.loc l2), some (.loc lg), some (.loc l4), y5, some (.loc l6), some (.int w), some (.int h), some (.int (lowV (esV tds))), x10, some (.str ws), none, none, none, none] μ).out = .ok (.bl true) S := by
  have hfi := fits_iff (tds := tds) w0 h0
  have le := G.le
  simp only [b48, List.drop_succ_cons, List.drop_zero]
  rcases hc with ⟨z, rfl⟩ | ⟨z1, z2, hf, rfl⟩ | ⟨z1, z2, hf, rfl, lf, rfl, hq⟩
  · refine ⟨μ, ?_⟩
    by_cases z1 : 40 < w
    · simp [z1, cmpV_eqs]
    · have z2 : 40 < h := by omega
      simp [z1, z2, cmpV_eqs]
  · refine ⟨μ, ?_⟩
    rw [hfi] at hf
    have y1 : ¬ 40 < w := by omega
    have y2 : ¬ 40 < h := by omega
    generalize needX (esV tds) = NX at *
    generalize needY (esV tds) = NY at *
    generalize lowV (esV tds) = LV at *
    by_cases a1 : w < NX
    · simp [y1, y2, h6, a1, cmpV_eqs]
    by_cases a2 : h < NY
    · simp [y1, y2, h6, a1, a2, cmpV_eqs]
    have a3 : LV < 0 := by omega
    simp [y1, y2, h6, a1, a2, a3, cmpV_eqs]
  · rw [hfi] at hf
    have y1 : ¬ 40 < w := by omega
    have y2 : ¬ 40 < h := by omega
    obtain ⟨S', er⟩ := right_ok n G.ok (ap_pw G.ap) (by omega) G.at_ (w := w.toNat) (h := h.toNat) (by omega) (by omega) hq
    rw [show ((w.toNat : Nat) : Int) = w by omega, show ((h.toNat : Nat) : Int) = h by omega] at er
    refine ⟨S', ?_⟩
    generalize needX (esV tds) = NX at *
    generalize needY (esV tds) = NY at *
    generalize lowV (esV tds) = LV at *
    have a1 : ¬ w < NX := by omega
    have a2 : ¬ h < NY := by omega
    have a3 : ¬ LV < 0 := by omega
    simp [y1, y2, h6, a1, a2, a3, cmpV_eqs, er]
theorem law_true (ns : List Int) (h : ns.length ≤ 63) (hb : ∀ z ∈ ns, Builtin.Int.intBits z ≤ 1048576) (S0 : Store) (hS : S0.length = 1) (h0 : listAt S0 (.loc 0) = some (ns.map .int)) : ∃ μ, den cfg.P 14 48 [.loc 0] S0 = .ok (.bl true) μ := by
  show ∃ μ, den P (13 + 1) 48 [.loc 0] S0 = .ok (.bl true) μ
  have hbd : BdA ns 1048576 := ⟨fun z hz => cells_bd' (m := 63) (k := 0) hb z (by simp; rw [List.take_of_length_le h]; exact hz)⟩
  obtain ⟨m, l2, t0, S1, e1, G1, q1, sm, le0⟩ := part1 12 h hbd h0
  obtain ⟨lg, tds, S2, e2, G2, g2⟩ := part2 9 h hbd (G1.listAt h0) (m := m) q1 sm le0
  obtain ⟨l4, y5, S3, e3, G3, q3⟩ := part3 11 (m := m) (l2 := l2) g2
  have hl : (esV tds).length ≤ 1000 := by have := g2.le; rw [es_len]; omega
  obtain ⟨l6, S4, e4, G4, q4⟩ := part4 (den P 13) (m := m) (l2 := l2) (lg := lg) (y5 := y5) hl q3
  obtain ⟨w, hh, S5, e5, G5, w0, hh0⟩ := part5 12 h hbd ((((G1.trans G2).trans G3).trans G4).listAt h0) (m := m) (l2 := l2) (lg := lg) (y5 := y5) g2.ok g2.le (G4.get q3) q4
  have g5 := ((g2.mono G3).mono G4).mono G5
  obtain ⟨x10, ws, S6, e6, G6, hc⟩ := part6 8 (m := m) (l2 := l2) (l4 := l4) (l6 := l6) (y5 := y5) g5 w0 hh0
  obtain ⟨S7, e7⟩ := part7 9 (m := m) (l2 := l2) (l4 := l4) (y5 := y5) (g5.mono G6) w0 hh0 (G6.get (G5.get q4)) hc
  refine ⟨S7, ?_⟩
  rw [dn48, ss_cut P _ none 4, e1]
  simp only [RS.seq_nx, kSs_]
  rw [ss_cut P _ none 1, e2]
  simp only [RS.seq_nx, kSs_, List.drop_drop]
  rw [ss_cut P _ none 2, e3]
  simp only [RS.seq_nx, kSs_, List.drop_drop]
  rw [ss_cut P _ none 1, e4]
  simp only [RS.seq_nx, kSs_, List.drop_drop]
  rw [ss_cut P _ none 6, e5]
  simp only [RS.seq_nx, kSs_, List.drop_drop]
  rw [ss_cut P _ none 1, e6]
  simp only [RS.seq_nx, kSs_, List.drop_drop]
  exact e7
end K91
set_option maxHeartbeats 0
open PySem PySem.W PySem.Calls PyProof.Rows
theorem PySem.Challenge.cw_bouncewise_k91_a_drawing_holds : PySem.Challenge.rw_bouncewise_k91_a_drawing.Holds := by
  w_on; o_law
  refine HandSHeadRun.head_any (r := OpenLaw.row PySem.Challenge.rw_bouncewise_k91_a_drawing) (q := view (OpenLaw.row PySem.Challenge.rw_bouncewise_k91_a_drawing).prog [43]) (H := K91.hk) (ob := K91.ob) (M := 8000) (loose := K91.loose) (d := HandSHeadRun.topDef (OpenLaw.row PySem.Challenge.rw_bouncewise_k91_a_drawing).prog 43) (kwd := []) K91.ob_eq
    (by kernel_rfl) (fun s => by kernel_rfl) K91.run (by kernel_rfl) (by kernel_rfl) (by kernel_rfl) (by rfl) (by first | assumption | decide +kernel) (by decide +kernel) ⟨rfl, rfl, rfl, rfl, rfl, by decide +kernel⟩ ?hw ?hc
  case hw => w_witness2
  case hc =>
    refine LamX.walk_ofTsE (l := PySem.Challenge.rw_bouncewise_k91_a_drawing) (n := 63) (k := 3 * 14) (x := "_law_script") (CX := fun w => L2.CX (PySem.Challenge.rw_bouncewise_k91_a_drawing).prog w) rfl (by decide) (by kernel_rfl) ⟨rfl, by decide, by decide⟩ ?F (fun w H s e s' h => BW.cx_end H s e s' h)
    intro w mg fa h Y G hmg0
    have hmg : mg ("law" : PySem.Str) = some (.ref fa) := by
      have e : (HandSHeadRun.topDef (OpenLaw.row PySem.Challenge.rw_bouncewise_k91_a_drawing).prog 43).name = ("law" : PySem.Str) := by kernel_rfl
      rw [← e]
      exact hmg0
    exact BW.law_F (l := PySem.Challenge.rw_bouncewise_k91_a_drawing) (c := K91.cfg) (n := 14) (i := 48) (d := K91.d48) K91.ok rfl rfl (by kernel_rfl) (by kernel_rfl) (by kernel_rfl) K91.law_true w mg fa h Y G hmg

