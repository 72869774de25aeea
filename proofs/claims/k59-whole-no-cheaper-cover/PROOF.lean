import PyProof.Rows.All
import Wide.All
import OpenK.AllK
import Wide.FinOn
import KE.KStateDown
import HandS.ForMost
import HandS.Defaults
import HandS.MakeKw
import HandS.MakeKwOnly
import HandS.Star
import HandS.ClsMeth
import HandS.Deep
import HandS.IsInst
import HandS.Flow
import HandS.Steps
import HandS.More
import HandS.HeadHook4
import KE.KSuper
import HandS.Head0
import HandS.Head1
import HandS.Head2
import HandS.HeadNt
import HandS.HeadWalk
import HandS.NestedK
import HandS.TupAny
import KE.KSortTupG
import KE.GoesMore
import HandS.Sort
import HandS.SortRule
import HandS.Nested
import HandS.SetBool
import HandS.Strs
import HandS.SetTxt0
import PyProof.Rows.SortStr
import KE.KSortKey
import KE.KSortTup
import HandS.SortKw
import HandS.Lambda
import KE.KOpsOwn
import KE.KOwnIter
import HandS.OwnIter
import HandS.IterVal
import HandS.Codes
import HandS.DictComp
import PyProof.ReprRoads
import PySem.Challenge.RW_pastnotes_k59_whole_no_cheaper_cover
/-! K59A -/
set_option Elab.async false
set_option linter.all false
set_option maxRecDepth 100000
namespace K59
open PySem PySem.Spec PyProof.Rows L2
/-! ### the text by places -/
def top (i : Nat) : Stmt := PySem.Challenge.pw_pastnotes_k59_whole_no_cheaper_cover.main.body.getD i (.Pass ⟨0, 0, 0, 0⟩)

/-! ### a def's promise, ready to be called -/
def OkR (P : Program) (w : World) (K : PySem.W.Frag) (mg : Str → Option Value) (base : Heap) (k : Nat) (f : Addr) (sp : Sp) : Prop :=
  FnR P w K mg base CX0 k f sp ∧ PySem.W.keepIn K (.ref f) = true
theorem OkR.mono {P : Program} {w : World} {K : PySem.W.Frag} {mg : Str → Option Value} {base : Heap} {j k : Nat} {f : Addr} {sp : Sp} (G : OkR P w K mg base j f sp) (h : j ≤ k) : OkR P w K mg base k f sp := ⟨G.1.mono h, G.2⟩
/-- a def of the text, no defaults used -/
def HasFn (K : PySem.W.Frag) (p : Str × Option Str) (x qual : Str) (st : Stmt) (dvs : List V) (kws : List (Str × V)) : Prop :=
  ∃ fd, FunD K x qual (defArgs st) (defBody st) (defScope st) dvs kws (He.fAd K p) fd
section
variable {P : Program} {w : World} {K : PySem.W.Frag} {mg : Str → Option Value} {base : Heap}
theorem mkR {p : Str × Option Str} {x qual : Str} {st : Stmt} {kws : List (Str × V)} {N ps : List Str} {k : Nat} {sp : Sp} (F : HasFn K p x qual st [] kws) (S : FnScope N ps (defScope st))
    (len : ∀ vs H Q E, sp vs H Q E → vs.length = ps.length)
    (hb : ∀ (kV doc pm : Value) (an : Option Addr) (cdv ct : Value) (us : List Value), us.length = ps.length → bindArgs (PySem.W.fnOf x qual (defArgs st) (defBody st) (defScope st) .none kV doc pm an cdv ct) ⟨us, []⟩ = pure (ps.zip us))
    (hbody : ∀ (cdv : Value) (A : Around) (outer : List Env) (s : Shared) (H : Hp) (vs : List V) (Q : VK) (E : XK), Room k (A.deeper (envOfC qual (defScope st) s.heap.objs.size (He.fAd K p) cdv)) → sp vs H Q E →
      ∃ t, PSs (cxOf CX0 P w K mg base N qual (defScope st) (He.fAd K p) cdv A outer s H E).nox (defBody st) t ∧ t { nx := fun _ H' => Q .non H', rt := Q } (start N vs) H) : OkR P w K mg base (k + 1) (He.fAd K p) sp := by
  obtain ⟨fd, F⟩ := F
  have G : FnOk P w K mg base CX0 (k + 1) (He.fAd K p) fd ps sp := F.ok S len fun cdv A outer s H vs Q E hr h => by
    obtain ⟨t, ht, hq⟩ := hbody cdv A outer s H vs Q E hr h
    exact ⟨t, ht.nox, hq⟩
  have e : FnR P w K mg base CX0 (k + 1) (He.fAd K p) (fun vs H Q E => sp (vs ++ []) H Q E) := G.raw (F.bindsN hb) .nil
  exact ⟨fun A outer s H us vs Q E hr e0 r hs => e A outer s H us vs Q E hr e0 r (by show sp (vs ++ []) H Q E; rw [List.append_nil]; exact hs), F.kp⟩
end
/-! ### calls -/
def tC1 (sp : Sp) (t : TA) : TE := fun σ H Q => t σ H fun vs H1 => sp vs H1 Q E0
section
variable {X : Cx} {k : Nat} {f C : Addr} {sp : Sp} {x m : Str} {p pos apos : Pos} {e o : Expr} {es : List Expr} {ta : TE} {t : TA}
theorem pe_callF (G : OkR X.prog X.w X.K X.mg X.base k f sp) (hr : Room k X.A) (hg : Gl X x) (hm : X.mg x = some (.ref f)) (ha : PA X (e :: es) t) (hdb : (x == ("__debug__" : Str)) = false := by decide)
    (he : starEach (e :: es) X.env = (false, eval e X.env) :: starEach es X.env := by rfl) (hpl : (backTo pos (starEach es X.env)).any (·.1) = false := by rfl) :
    PE X (.Call (.Name x p) (e :: es) [] pos) (tC1 sp t) := by
  refine ⟨fun pins s σ H Q I h => ?_⟩
  refine wpAny_Call_Name_kw (ld_glob I hg hm ?_ hdb)
  refine PySem.W.callWith_K (h₀ := X.base) I.ok.mod.kin G.2 (thn (ha.run pos pins s σ H _ I h) fun us s1 ⟨vs, H1, I1, r, q⟩ => ⟨I1.kIn, ?_⟩) he hpl
  exact wpAny_call (run_fnR G.1 hr pass0 I1 r q)
end
/-! ### what a heap keeps -/
theorem same_upd {H : Hp} {a : Addr} {o : HO} (h : H a = none) : Same H (upd H a o) := fun b u e => by rw [upd_ne (ne_of_none e h)]; exact e
/-- an object that H does not know may change -/
theorem same_mut {H H' : Hp} {a : Addr} {o : HO} (e : Same H H') (h : H a = none) : Same H (upd H' a o) := fun b u q => by rw [upd_ne (ne_of_none q h)]; exact e b u q
theorem same_tup {K : PySem.W.Frag} {H H' : Hp} {a : Addr} {xs : List V} (e : Same H H') (h : SqT K H a xs) : SqT K H' a xs := by
  rcases h with (h | ⟨o, h⟩) | h
  · exact .inl (.inl (e _ _ h))
  · exact .inl (.inr ⟨o, e _ _ h⟩)
  · exact .inr h
mutual
theorem dp_same {K : PySem.W.Frag} {H H' : Hp} (e : Same H H') : ∀ {v : V} {d : PyData}, Dp K H v d → Dp K H' v d
  | _, _, .non => .non
  | _, _, .bl b => .bl b
  | _, _, .int i => .int i
  | _, _, .str x => .str x
  | _, _, .lst h a => .lst (Same.seq e h) (dpa_same e a)
  | _, _, .tup h a => .tup (same_tup e h) (dpa_same e a)
theorem dpa_same {K : PySem.W.Frag} {H H' : Hp} (e : Same H H') : ∀ {vs : List V} {ds : List PyData}, DpAll K H vs ds → DpAll K H' vs ds
  | _, _, .nil => .nil
  | _, _, .cons h t => .cons (dp_same e h) (dpa_same e t)
end
section
variable {K : PySem.W.Frag} {H : Hp}
theorem dp_str {v : V} {x : Str} (h : Dp K H v (.str x)) : v = .str x := by cases h; rfl
theorem dp_int {v : V} {x : Int} (h : Dp K H v (.int x)) : v = .int x := by cases h; rfl
theorem dp_bl {v : V} {x : Bool} (h : Dp K H v (.bool x)) : v = .bl x := by cases h; rfl
theorem dp_non {v : V} (h : Dp K H v .none) : v = .non := by cases h; rfl
theorem dp_lst {v : V} {ds : List PyData} (h : Dp K H v (.list ds)) : ∃ a xs, v = .ref a ∧ SqL K H a xs ∧ DpAll K H xs ds := by
  cases h with
  | lst h a => exact ⟨_, _, rfl, h, a⟩
theorem dp_tup {v : V} {ds : List PyData} (h : Dp K H v (.tuple ds)) : ∃ a xs, v = .ref a ∧ SqT K H a xs ∧ DpAll K H xs ds := by
  cases h with
  | tup h a => exact ⟨_, _, rfl, h, a⟩
theorem dpa_len : ∀ {vs : List V} {ds : List PyData}, DpAll K H vs ds → vs.length = ds.length
  | _, _, .nil => rfl
  | _, _, .cons _ t => congrArg Nat.succ (dpa_len t)
theorem dpa_get : ∀ {vs : List V} {ds : List PyData} {i : Nat} {v : V}, DpAll K H vs ds → vs[i]? = some v → ∃ d, ds[i]? = some d ∧ Dp K H v d
  | _, _, i, v, .nil, h => by simp at h
  | _, _, 0, v, .cons a t, h => by
    have e := Option.some.inj h
    subst e
    exact ⟨_, rfl, a⟩
  | _, _, i + 1, v, .cons a t, h => by
    obtain ⟨d, h1, h2⟩ := dpa_get (i := i) (v := v) t (by simpa using h)
    exact ⟨d, by simpa using h1, h2⟩
theorem dpa_at : ∀ {vs : List V} {ds : List PyData} {i : Nat} {d : PyData}, DpAll K H vs ds → ds[i]? = some d → ∃ v, vs[i]? = some v ∧ Dp K H v d
  | _, _, i, v, .nil, h => by simp at h
  | _, _, 0, v, .cons a t, h => by
    have e := Option.some.inj h
    subst e
    exact ⟨_, rfl, a⟩
  | _, _, i + 1, v, .cons a t, h => by
    obtain ⟨d, h1, h2⟩ := dpa_at (i := i) (d := v) t (by simpa using h)
    exact ⟨d, by simpa using h1, h2⟩
theorem dpa_app : ∀ {vs ws : List V} {ds es : List PyData}, DpAll K H vs ds → DpAll K H ws es → DpAll K H (vs ++ ws) (ds ++ es)
  | _, _, _, _, .nil, h => h
  | _, _, _, _, .cons a t, h => .cons a (dpa_app t h)
theorem dpa_snoc {vs : List V} {ds : List PyData} {v : V} {d : PyData} (h : DpAll K H vs ds) (h1 : Dp K H v d) : DpAll K H (vs ++ [v]) (ds ++ [d]) := dpa_app h (.cons h1 .nil)
theorem dpa_strs : ∀ {ss : List Str}, DpAll K H (ss.map V.str) (ss.map PyData.str)
  | [] => .nil
  | s :: r => .cons (.str s) (dpa_strs (ss := r))
theorem dpa_strs_inv : ∀ {ss : List Str} {vs : List V}, DpAll K H vs (ss.map PyData.str) → vs = ss.map V.str
  | [], _, h => by cases h; rfl
  | s :: r, _, h => by
    cases h with
    | cons a t => rw [dp_str a, dpa_strs_inv t]; rfl
end
end K59
/-! H00 -/
set_option Elab.async false
set_option linter.all false
set_option maxRecDepth 100000
set_option maxHeartbeats 0
/-! the head: what is looked at behind the top -/
namespace K59
open PySem PySem.Spec PySem.W PyProof.Rows L2
abbrev R : PySem.W.OpenRow := PySem.W.OpenLaw.row PySem.Challenge.rw_pastnotes_k59_whole_no_cheaper_cover
abbrev qv : Program := PySem.W.view R.prog [87]
/-! ### a part of the heap, reached from the module's names, each step from the last one's new ones -/
def refsE (o : Obj) : List Addr := match o.data with
  | .func fd => He.refV fd.code ++ (He.refV fd.defaults ++ (He.refV fd.kwdefaults ++ fd.closure.map (·.2)))
  | .cls cd => [cd.ns]
  | .dict es _ => es.toList.flatMap fun e => He.refV e.val
  | .fields vs => (match Nat.ble vs.size 8 with
    | true => vs.toList.flatMap He.refV
    | false => [])
  | .cell (some v) => He.refV v
  | _ => []
def frE (g : Addr → Option Obj) : Nat → List Addr → List Addr
  | 0, as => as
  | n + 1, as => as ++ frE g n (as.flatMap fun a => match g a with
    | some o => refsE o
    | none => [])
def asE (g : Addr → Option Obj) : List Addr := cStatics :: frE g 5 [mainGlobals]
def KH (g : Addr → Option Obj) : Frag := He.frG g (asE g)
theorem KH_in {h : Heap} : (KH h.get?).In h := He.frG_in
def KT (s : SharedT) : Frag := KH (HandSHeadRun.getT s)
theorem KT_eq (s : SharedT) : KT s = KH s.abs.heap.get? := by
  unfold KT
  rw [show HandSHeadRun.getT s = s.abs.heap.get? from funext (HandSHeadRun.getT_eq s)]
/-! ### a def with the cell __class__ -/
abbrev ClV : Type := Option (Str × Str × Arguments × FuncBody × Scope × Addr × Addr)
def clObs (K : Frag) (f : Addr) : ClV := match K.lookup f with
  | some ⟨_, _, .func fd, _⟩ => some (fd.name, fd.qualname, fd.params, fd.body, fd.scope, fd.globals, fd.builtins)
  | _ => none
def noneB : Value → Bool
  | .none => true
  | _ => false
def cellB (D : Addr) : Option Obj → Bool
  | some ⟨_, _, .cell (some (.ref D')), _⟩ => decide (D' = D)
  | _ => false
def closB (K : Frag) (D : Addr) : List (Str × Addr) → Bool
  | [(x, cc)] => decide (x = "__class__") && cellB D (K.lookup cc)
  | _ => false
def fileB (P : Program) : Option Value → Bool
  | some (.str file _) => ((P.main.file : Str) == file)
  | _ => false
def fldB (P : Program) : Option Obj → Bool
  | some ⟨_, _, .fields vs, _⟩ => fileB P (vs[2]?)
  | _ => false
def codeB (P : Program) (K : Frag) (qual : Str) : Value → Bool
  | .ref cda => codeIn K (.ref cda) qual && fldB P (K.lookup cda)
  | _ => false
def clB (P : Program) (K : Frag) (D : Addr) (qual : Str) : Option Obj → Bool
  | some ⟨_, _, .func fd, _⟩ => noneB fd.defaults && (closB K D fd.closure && codeB P K qual fd.code)
  | _ => false
theorem noneB_ok {v : Value} (h : noneB v = true) : v = .none := by
  cases v with
  | none => rfl
  | _ => cases h
theorem cellB_ok {D : Addr} {o : Option Obj} (h : cellB D o = true) : ∃ cl cld csl, o = some ⟨cl, cld, .cell (some (.ref D)), csl⟩ := by
  unfold cellB at h
  split at h
  · rename_i cl cld D' csl
    have e : D' = D := of_decide_eq_true h
    exact ⟨cl, cld, csl, by rw [e]⟩
  · cases h
theorem closB_ok {K : Frag} {D : Addr} {l : List (Str × Addr)} (h : closB K D l = true) : ∃ cc, l = [(("__class__" : Str), cc)] ∧ ∃ cl cld csl, K.lookup cc = some ⟨cl, cld, .cell (some (.ref D)), csl⟩ := by
  unfold closB at h
  split at h
  · rename_i x cc
    obtain ⟨h1, h2⟩ := He.ba h
    exact ⟨cc, by rw [of_decide_eq_true h1], cellB_ok h2⟩
  · cases h
theorem fileB_ok {P : Program} {o : Option Value} (h : fileB P o = true) : ∃ file tf, o = some (.str file tf) ∧ ((P.main.file : Str) == file) = true := by
  unfold fileB at h
  split at h
  · rename_i file tf
    exact ⟨file, tf, rfl, h⟩
  · cases h
theorem fldB_ok {P : Program} {o : Option Obj} (h : fldB P o = true) : ∃ ccl cdd vs ccs file tf, o = some ⟨ccl, cdd, .fields vs, ccs⟩ ∧ vs[2]? = some (.str file tf) ∧ ((P.main.file : Str) == file) = true := by
  unfold fldB at h
  split at h
  · rename_i ccl cdd vs ccs
    obtain ⟨file, tf, h1, h2⟩ := fileB_ok h
    exact ⟨ccl, cdd, vs, ccs, file, tf, rfl, h1, h2⟩
  · cases h
theorem codeB_ok {P : Program} {K : Frag} {qual : Str} {v : Value} (h : codeB P K qual v = true) : ∃ cda, v = .ref cda ∧ codeIn K (.ref cda) qual = true ∧ ∃ ccl cdd vs ccs file tf, K.lookup cda = some ⟨ccl, cdd, .fields vs, ccs⟩ ∧ vs[2]? = some (.str file tf) ∧ ((P.main.file : Str) == file) = true := by
  unfold codeB at h
  split at h
  · rename_i cda
    obtain ⟨h1, h2⟩ := He.ba h
    exact ⟨cda, rfl, h1, fldB_ok h2⟩
  · cases h
def supB (P : Program) (K : Frag) (c : Str) (qual : Str) (f2 : Addr) : Bool :=
  clB P K (He.ga K c) qual (K.lookup (He.fAd K (c, some "__init__"))) && ((clsIn K (He.ga K c)).isSome && (decide (mroIn K (He.ga K c) (.ref (He.ga K c)) = some true) && (He.eqO (ks_superIn K (He.ga K c) (He.ga K c) "__init__") (some (some (.ref f2))) &&
    (decide (typeIn K (.ref f2) = some (.type "function")) && (fnIn K f2 && He.eqO (nsIn K cStatics "thirdparty.any") (some none))))))
theorem cl_ok {P : Program} {K : Frag} {D : Addr} {o : Obj} {x qual : Str} {params : Arguments} {body : List Stmt} {scope : Scope} {f : Addr} (q : K.lookup f = some o) (e : clObs K f = some (x, qual, params, .stmts body, scope, mainGlobals, builtinsNs)) (h : clB P K D qual (some o) = true) :
    ∃ oc od osl kV doc pm an cda ct cc, o = ⟨oc, od, .func (ksFn x qual params body scope .none kV doc pm an (.ref cda) ct cc), osl⟩ ∧ codeIn K (.ref cda) qual = true ∧
      (∃ ccl cdd vs ccs file tf, K.lookup cda = some ⟨ccl, cdd, .fields vs, ccs⟩ ∧ vs[2]? = some (.str file tf) ∧ ((P.main.file : Str) == file) = true) ∧ ∃ cl cld csl, K.lookup cc = some ⟨cl, cld, .cell (some (.ref D)), csl⟩ := by
  obtain ⟨oc, od, dt, osl⟩ := o
  unfold clObs at e
  rw [q] at e
  cases dt with
  | func fd =>
    obtain ⟨n1, n2, n3, n4, n5, n6, n7, n8, n9, n10, n11, n12, n13, n14, n15⟩ := fd
    have e2 : (some (n1, n2, n3, n4, n5, n6, n15) : ClV) = some (x, qual, params, .stmts body, scope, mainGlobals, builtinsNs) := e
    simp only [Option.some.injEq, Prod.mk.injEq] at e2
    obtain ⟨h1, h2, h3, h4, h5, h6, h8⟩ := e2
    subst h1 h2 h3 h4 h5 h6 h8
    obtain ⟨k1, k⟩ := He.ba h
    obtain ⟨k2, k3⟩ := He.ba k
    have e8 : n8 = .none := noneB_ok k1
    obtain ⟨cc, e7, hc⟩ := closB_ok (l := n7) k2
    obtain ⟨cda, e13, hcd, hf⟩ := codeB_ok (v := n13) k3
    subst e8
    subst e7
    subst e13
    exact ⟨oc, od, osl, n9, n10, n11, n12, cda, n14, cc, rfl, hcd, hf, hc⟩
  | _ => cases e
/-! ### the run, look by look -/
theorem opt_pair {α β γ δ : Type} {o : Option α} {f : α → β} {g : α → γ × δ} {b : β} {c : γ} {d : δ} (h1 : o.map g = some (c, d)) (h2 : o.map f = some b) : o.map (fun s => ((g s).1, (g s).2, f s)) = some (c, d, b) := by
  cases o with
  | none => cases h1
  | some s =>
    have e1 : g s = (c, d) := Option.some.inj h1
    have e2 : f s = b := Option.some.inj h2
    show some ((g s).1, (g s).2, f s) = _
    rw [e1, e2]
theorem opt_two {α β γ : Type} {o : Option α} {f : α → β} {g : α → γ} {b : β} {c : γ} (h1 : o.map f = some b) (h2 : o.map g = some c) : o.map (fun s => (f s, g s)) = some (b, c) := by
  cases o with
  | none => cases h1
  | some s =>
    have e1 : f s = b := Option.some.inj h1
    have e2 : g s = c := Option.some.inj h2
    show some (f s, g s) = _
    rw [e1, e2]
noncomputable abbrev runS (w : World) (os : OsState) : Option SharedT := HandSHeadRun.endF (HandSHeadRun.stepQ (HandSHeadRun.denQ HandSHeadRun.tabQ) R.prog w) 12000 R.prog w os
def loose1 : List Str := ["_wall", "BadName", "BadNote", "BadMove", "BadDeed", "BadKeep", "BadSide", "BadPrice", "Twice", "NotWritten", "NoDeed", "NoColumn", "NotAllowed", "TooMany", "LETTERS", "MOST_LETTERS", "is_integer", "is_name", "is_between", "check_name", "check_once", "check_names"]
def loose2 : List Str := ["MOST_WORDS", "Note", "pairs_of", "MOST_MOVES", "MOST_COLUMNS", "check_note", "Deed", "Make", "Change", "End", "check_column", "reached", "is_closing", "closing_after", "all_successions", "MOST_PRICE", "check_price", "check_side", "Prices", "ends_of", "Cover", "Flow", "fewest", "MOST_DEEDS", "MOST_STATES", "MOST_KEPT", "check_columns", "check_words", "Book"]
def loose3 : List Str := ["_law_bag", "_law_take", "_law_of", "_law_few", "_law_names", "_law_value", "_law_note", "_law_deed", "_law_data", "_law_note_of", "_law_deed_of", "_law_book", "_law_state", "_law_fits", "_law_columns", "_law_row", "_law_pairs", "_law_entry", "_law_reached", "_law_successions", "_law_sides", "_law_both", "_law_tells", "_law_price", "_law_priced", "_law_least", "_law_moved"]
def loose : List Str := loose1 ++ loose2 ++ loose3
end K59
/-! H02 -/
set_option Elab.async false
set_option linter.all false
set_option maxRecDepth 100000
set_option maxHeartbeats 0
namespace K59
open PySem PySem.Spec PySem.W PyProof.Rows L2
theorem run0 (w : World) (os : OsState) : (runS w os).map (fun s => (HandSHeadRun.looksF R.prog (boot_heap w.params) s.abs, HandSHeadRun.seenQ qv loose (importedModules R.prog.main.body) (fun s => xlAt qv [] s && recOk R.toRowW.records s) s.abs)) = some (true, openGood qv loose) := by kernel_rfl
end K59
/-! H03 -/
set_option Elab.async false
set_option linter.all false
set_option maxRecDepth 100000
set_option maxHeartbeats 0
namespace K59
open PySem PySem.Spec PySem.W PyProof.Rows L2
/-- Book.__init__'s code object, its table -/
def cB (K : Frag) : Addr := He.codeOf K ("Book", some "__init__")
def pB (K : Frag) : Addr := He.tabOf K (cB K)
def exL (K : Frag) : List Bool := [fnIn K (He.fAd K ("Note", some "__init__")),
  fnIn K (He.fAd K ("Book", some "__init__")),
  readsIn K (He.ga K "Change") (.type "type"),
  He.eqO (specialIn K (.ref (He.ga K "Change")) "__getattribute__") (some (some (.builtin "type.__getattribute__"))),
  He5.wrapB K (He.ga K "Change") "classmethod" "classmethod.__get__" "of",
  fnIn K (He5.wf K (He.ga K "Change") "classmethod" "of"),
  readsIn K (He.ga K "End") (.type "type"),
  He.eqO (specialIn K (.ref (He.ga K "End")) "__getattribute__") (some (some (.builtin "type.__getattribute__"))),
  He5.wrapB K (He.ga K "End") "classmethod" "classmethod.__get__" "of",
  fnIn K (He5.wf K (He.ga K "End") "classmethod" "of"),
  readsIn K (He.ga K "Book") (.type "type"),
  He.eqO (specialIn K (.ref (He.ga K "Book")) "__getattribute__") (some (some (.builtin "type.__getattribute__"))),
  He5.wrapB K (He.ga K "Book") "classmethod" "classmethod.__get__" "of",
  fnIn K (He5.wf K (He.ga K "Book") "classmethod" "of"),
  He.eqO (specialIn K (.builtin "object.__class__") "__get__") (some (some (.builtin "getset_descriptor.__get__"))),
  decide (takesIn K (.builtin "object.__class__") = some true),
  He.eqO (findIn K (.ref (He.ga K "Note")) "__class__") (some (some (.builtin "object.__class__"))),
  decide (mroIn K (He.ga K "Note") (.type "object") = some true),
  He.eqO (findIn K (.ref (He.ga K "Make")) "__class__") (some (some (.builtin "object.__class__"))),
  decide (mroIn K (He.ga K "Make") (.type "object") = some true),
  He.eqO (findIn K (.ref (He.ga K "Change")) "__class__") (some (some (.builtin "object.__class__"))),
  decide (mroIn K (He.ga K "Change") (.type "object") = some true),
  He.eqO (findIn K (.ref (He.ga K "End")) "__class__") (some (some (.builtin "object.__class__"))),
  decide (mroIn K (He.ga K "End") (.type "object") = some true),
  decide (kitOne K (.ref (He.ga K "Make")) (.ref (He.ga K "Make")) = some true),
  decide (kitOne K (.ref (He.ga K "Make")) (.ref (He.ga K "Change")) = some false),
  decide (kitOne K (.ref (He.ga K "Make")) (.ref (He.ga K "End")) = some false),
  decide (kitOne K (.ref (He.ga K "Change")) (.ref (He.ga K "Make")) = some false),
  decide (kitOne K (.ref (He.ga K "Change")) (.ref (He.ga K "Change")) = some true),
  decide (kitOne K (.ref (He.ga K "Change")) (.ref (He.ga K "End")) = some false),
  decide (kitOne K (.ref (He.ga K "End")) (.ref (He.ga K "Make")) = some false),
  decide (kitOne K (.ref (He.ga K "End")) (.ref (He.ga K "Change")) = some false),
  decide (kitOne K (.ref (He.ga K "End")) (.ref (He.ga K "End")) = some true),
  noSeq K (He.ga K "Prices"),
  supB R.prog K "Make" "Make.__init__" (He.fAd K ("Deed", some "__init__")),
  supB R.prog K "Change" "Change.__init__" (He.fAd K ("Deed", some "__init__")),
  supB R.prog K "End" "End.__init__" (He.fAd K ("Deed", some "__init__")),
  codeHdIn K (cB K) (pB K),
  (K.lookup (pB K)).isNone]
def emB (g : Addr → Option Obj) (K : Frag) : Bool := match g (pB K) with
  | some o => He.emptyTab o
  | none => false
abbrev ExV : Type := Bool × Bool × List ClV
def exO (g : Addr → Option Obj) (K : Frag) : ExV := ((exL K).all id, emB g K, [clObs K (He.fAd K ("Make", some "__init__")), clObs K (He.fAd K ("Change", some "__init__")), clObs K (He.fAd K ("End", some "__init__"))])
def exV : ExV := (true, true, [some ("__init__", "Make.__init__", defArgs (inClass (top 33) 1), .stmts (defBody (inClass (top 33) 1)), defScope (inClass (top 33) 1), mainGlobals, builtinsNs),
  some ("__init__", "Change.__init__", defArgs (inClass (top 34) 1), .stmts (defBody (inClass (top 34) 1)), defScope (inClass (top 34) 1), mainGlobals, builtinsNs),
  some ("__init__", "End.__init__", defArgs (inClass (top 35) 1), .stmts (defBody (inClass (top 35) 1)), defScope (inClass (top 35) 1), mainGlobals, builtinsNs)])
def d_f_is_integer : He5.DefA := ⟨fun K => He.fAd K ("is_integer", none), "is_integer", "is_integer", defArgs (top 18), defBody (top 18), defScope (top 18), [], []⟩
def d_f_is_name : He5.DefA := ⟨fun K => He.fAd K ("is_name", none), "is_name", "is_name", defArgs (top 19), defBody (top 19), defScope (top 19), [], []⟩
def d_f_is_between : He5.DefA := ⟨fun K => He.fAd K ("is_between", none), "is_between", "is_between", defArgs (top 20), defBody (top 20), defScope (top 20), [], []⟩
def d_f_check_name : He5.DefA := ⟨fun K => He.fAd K ("check_name", none), "check_name", "check_name", defArgs (top 21), defBody (top 21), defScope (top 21), [], []⟩
def d_f_check_once : He5.DefA := ⟨fun K => He.fAd K ("check_once", none), "check_once", "check_once", defArgs (top 22), defBody (top 22), defScope (top 22), [], []⟩
def d_f_check_names : He5.DefA := ⟨fun K => He.fAd K ("check_names", none), "check_names", "check_names", defArgs (top 23), defBody (top 23), defScope (top 23), [], []⟩
def d_f_check_note : He5.DefA := ⟨fun K => He.fAd K ("check_note", none), "check_note", "check_note", defArgs (top 31), defBody (top 31), defScope (top 31), [], []⟩
def d_f_check_column : He5.DefA := ⟨fun K => He.fAd K ("check_column", none), "check_column", "check_column", defArgs (top 37), defBody (top 37), defScope (top 37), [], []⟩
def d_f_reached : He5.DefA := ⟨fun K => He.fAd K ("reached", none), "reached", "reached", defArgs (top 39), defBody (top 39), defScope (top 39), [], []⟩
def d_f_is_closing : He5.DefA := ⟨fun K => He.fAd K ("is_closing", none), "is_closing", "is_closing", defArgs (top 40), defBody (top 40), defScope (top 40), [], []⟩
def d_f_closing_after : He5.DefA := ⟨fun K => He.fAd K ("closing_after", none), "closing_after", "closing_after", defArgs (top 41), defBody (top 41), defScope (top 41), [], []⟩
def d_f_all_successions : He5.DefA := ⟨fun K => He.fAd K ("all_successions", none), "all_successions", "all_successions", defArgs (top 42), defBody (top 42), defScope (top 42), [], []⟩
def d_f_check_price : He5.DefA := ⟨fun K => He.fAd K ("check_price", none), "check_price", "check_price", defArgs (top 45), defBody (top 45), defScope (top 45), [], []⟩
def d_f_check_side : He5.DefA := ⟨fun K => He.fAd K ("check_side", none), "check_side", "check_side", defArgs (top 46), defBody (top 46), defScope (top 46), [], []⟩
def d_f_ends_of : He5.DefA := ⟨fun K => He.fAd K ("ends_of", none), "ends_of", "ends_of", defArgs (top 48), defBody (top 48), defScope (top 48), [], []⟩
def d_f_fewest : He5.DefA := ⟨fun K => He.fAd K ("fewest", none), "fewest", "fewest", defArgs (top 51), defBody (top 51), defScope (top 51), [.non], []⟩
def d_f_check_columns : He5.DefA := ⟨fun K => He.fAd K ("check_columns", none), "check_columns", "check_columns", defArgs (top 56), defBody (top 56), defScope (top 56), [], []⟩
def d_f_check_words : He5.DefA := ⟨fun K => He.fAd K ("check_words", none), "check_words", "check_words", defArgs (top 57), defBody (top 57), defScope (top 57), [], []⟩
def d_f__law_bag : He5.DefA := ⟨fun K => He.fAd K ("_law_bag", none), "_law_bag", "_law_bag", defArgs (top 60), defBody (top 60), defScope (top 60), [], []⟩
def d_f__law_take : He5.DefA := ⟨fun K => He.fAd K ("_law_take", none), "_law_take", "_law_take", defArgs (top 61), defBody (top 61), defScope (top 61), [], []⟩
def d_f__law_of : He5.DefA := ⟨fun K => He.fAd K ("_law_of", none), "_law_of", "_law_of", defArgs (top 62), defBody (top 62), defScope (top 62), [], []⟩
def d_f__law_names : He5.DefA := ⟨fun K => He.fAd K ("_law_names", none), "_law_names", "_law_names", defArgs (top 64), defBody (top 64), defScope (top 64), [], []⟩
def d_f__law_note : He5.DefA := ⟨fun K => He.fAd K ("_law_note", none), "_law_note", "_law_note", defArgs (top 66), defBody (top 66), defScope (top 66), [], []⟩
def d_f__law_deed : He5.DefA := ⟨fun K => He.fAd K ("_law_deed", none), "_law_deed", "_law_deed", defArgs (top 67), defBody (top 67), defScope (top 67), [], []⟩
def d_f__law_data : He5.DefA := ⟨fun K => He.fAd K ("_law_data", none), "_law_data", "_law_data", defArgs (top 68), defBody (top 68), defScope (top 68), [], []⟩
def d_f__law_note_of : He5.DefA := ⟨fun K => He.fAd K ("_law_note_of", none), "_law_note_of", "_law_note_of", defArgs (top 69), defBody (top 69), defScope (top 69), [], []⟩
def d_f__law_deed_of : He5.DefA := ⟨fun K => He.fAd K ("_law_deed_of", none), "_law_deed_of", "_law_deed_of", defArgs (top 70), defBody (top 70), defScope (top 70), [], []⟩
def d_f__law_book : He5.DefA := ⟨fun K => He.fAd K ("_law_book", none), "_law_book", "_law_book", defArgs (top 71), defBody (top 71), defScope (top 71), [], []⟩
def d_f__law_columns : He5.DefA := ⟨fun K => He.fAd K ("_law_columns", none), "_law_columns", "_law_columns", defArgs (top 74), defBody (top 74), defScope (top 74), [], []⟩
def d_f__law_reached : He5.DefA := ⟨fun K => He.fAd K ("_law_reached", none), "_law_reached", "_law_reached", defArgs (top 78), defBody (top 78), defScope (top 78), [], []⟩
def d_f__law_successions : He5.DefA := ⟨fun K => He.fAd K ("_law_successions", none), "_law_successions", "_law_successions", defArgs (top 79), defBody (top 79), defScope (top 79), [], []⟩
def d_f__law_sides : He5.DefA := ⟨fun K => He.fAd K ("_law_sides", none), "_law_sides", "_law_sides", defArgs (top 80), defBody (top 80), defScope (top 80), [], []⟩
def d_f__law_both : He5.DefA := ⟨fun K => He.fAd K ("_law_both", none), "_law_both", "_law_both", defArgs (top 81), defBody (top 81), defScope (top 81), [], []⟩
def d_f__law_tells : He5.DefA := ⟨fun K => He.fAd K ("_law_tells", none), "_law_tells", "_law_tells", defArgs (top 82), defBody (top 82), defScope (top 82), [], []⟩
def d_f__law_price : He5.DefA := ⟨fun K => He.fAd K ("_law_price", none), "_law_price", "_law_price", defArgs (top 83), defBody (top 83), defScope (top 83), [], []⟩
def d_f__law_priced : He5.DefA := ⟨fun K => He.fAd K ("_law_priced", none), "_law_priced", "_law_priced", defArgs (top 84), defBody (top 84), defScope (top 84), [], []⟩
def d_f__law_least : He5.DefA := ⟨fun K => He.fAd K ("_law_least", none), "_law_least", "_law_least", defArgs (top 85), defBody (top 85), defScope (top 85), [], []⟩
def d_f__law_moved : He5.DefA := ⟨fun K => He.fAd K ("_law_moved", none), "_law_moved", "_law_moved", defArgs (top 86), defBody (top 86), defScope (top 86), [], []⟩
def d_f_law : He5.DefA := ⟨fun K => He.fAd K ("law", none), "law", "law", defArgs (top 87), defBody (top 87), defScope (top 87), [], []⟩
def d_f_Make_allowed : He5.DefA := ⟨fun K => He.fAd K ("Make", some "allowed"), "allowed", "Deed.allowed", defArgs (inClass (top 32) 4), defBody (inClass (top 32) 4), defScope (inClass (top 32) 4), [], []⟩
def d_f_Make_after : He5.DefA := ⟨fun K => He.fAd K ("Make", some "after"), "after", "Deed.after", defArgs (inClass (top 32) 5), defBody (inClass (top 32) 5), defScope (inClass (top 32) 5), [], []⟩
def d_f_Change_allowed : He5.DefA := ⟨fun K => He.fAd K ("Change", some "allowed"), "allowed", "Deed.allowed", defArgs (inClass (top 32) 4), defBody (inClass (top 32) 4), defScope (inClass (top 32) 4), [], []⟩
def d_f_Change_after : He5.DefA := ⟨fun K => He.fAd K ("Change", some "after"), "after", "Deed.after", defArgs (inClass (top 32) 5), defBody (inClass (top 32) 5), defScope (inClass (top 32) 5), [], []⟩
def d_f_End_allowed : He5.DefA := ⟨fun K => He.fAd K ("End", some "allowed"), "allowed", "Deed.allowed", defArgs (inClass (top 32) 4), defBody (inClass (top 32) 4), defScope (inClass (top 32) 4), [], []⟩
def d_f_End_after : He5.DefA := ⟨fun K => He.fAd K ("End", some "after"), "after", "Deed.after", defArgs (inClass (top 32) 5), defBody (inClass (top 32) 5), defScope (inClass (top 32) 5), [], []⟩
def d_f_Prices_init : He5.DefA := ⟨fun K => He.fAd K ("Prices", some "__init__"), "__init__", "Prices.__init__", defArgs (inClass (top 47) 0), defBody (inClass (top 47) 0), defScope (inClass (top 47) 0), [.int 1], []⟩
def d_f_Prices_getitem : He5.DefA := ⟨fun K => He.fAd K ("Prices", some "__getitem__"), "__getitem__", "Prices.__getitem__", defArgs (inClass (top 47) 1), defBody (inClass (top 47) 1), defScope (inClass (top 47) 1), [], []⟩
def d_f_Prices_setitem : He5.DefA := ⟨fun K => He.fAd K ("Prices", some "__setitem__"), "__setitem__", "Prices.__setitem__", defArgs (inClass (top 47) 2), defBody (inClass (top 47) 2), defScope (inClass (top 47) 2), [], []⟩
def d_f_Prices_total : He5.DefA := ⟨fun K => He.fAd K ("Prices", some "total"), "total", "Prices.total", defArgs (inClass (top 47) 4), defBody (inClass (top 47) 4), defScope (inClass (top 47) 4), [], []⟩
def d_f_Cover_init : He5.DefA := ⟨fun K => He.fAd K ("Cover", some "__init__"), "__init__", "Cover.__init__", defArgs (inClass (top 49) 0), defBody (inClass (top 49) 0), defScope (inClass (top 49) 0), [], []⟩
def d_f_Flow_init : He5.DefA := ⟨fun K => He.fAd K ("Flow", some "__init__"), "__init__", "Flow.__init__", defArgs (inClass (top 50) 0), defBody (inClass (top 50) 0), defScope (inClass (top 50) 0), [], []⟩
def d_f_Flow_trails : He5.DefA := ⟨fun K => He.fAd K ("Flow", some "trails"), "trails", "Flow.trails", defArgs (inClass (top 50) 1), defBody (inClass (top 50) 1), defScope (inClass (top 50) 1), [], []⟩
def d_f_Flow_grow : He5.DefA := ⟨fun K => He.fAd K ("Flow", some "grow"), "grow", "Flow.grow", defArgs (inClass (top 50) 2), defBody (inClass (top 50) 2), defScope (inClass (top 50) 2), [], []⟩
def d_f_Flow_finish : He5.DefA := ⟨fun K => He.fAd K ("Flow", some "finish"), "finish", "Flow.finish", defArgs (inClass (top 50) 3), defBody (inClass (top 50) 3), defScope (inClass (top 50) 3), [], []⟩
def d_f_Book_iter : He5.DefA := ⟨fun K => He.fAd K ("Book", some "__iter__"), "__iter__", "Book.__iter__", defArgs (inClass (top 58) 4), defBody (inClass (top 58) 4), defScope (inClass (top 58) 4), [], []⟩
def d_f_Book_getitem : He5.DefA := ⟨fun K => He.fAd K ("Book", some "__getitem__"), "__getitem__", "Book.__getitem__", defArgs (inClass (top 58) 6), defBody (inClass (top 58) 6), defScope (inClass (top 58) 6), [], []⟩
def d_f_Book_writes : He5.DefA := ⟨fun K => He.fAd K ("Book", some "writes"), "writes", "Book.writes", defArgs (inClass (top 58) 7), defBody (inClass (top 58) 7), defScope (inClass (top 58) 7), [], []⟩
def d_f_Deed_init : He5.DefA := ⟨fun K => He.fAd K ("Deed", some "__init__"), "__init__", "Deed.__init__", defArgs (inClass (top 32) 1), defBody (inClass (top 32) 1), defScope (inClass (top 32) 1), [], []⟩
def d_v_Note_init : He5.DefA := ⟨fun K => He.fAd K ("Note", some "__init__"), "__init__", "Note.__init__", defArgs (inClass (top 26) 0), defBody (inClass (top 26) 0), defScope (inClass (top 26) 0), [], []⟩
def d_v_Book_init : He5.DefA := ⟨fun K => He.fAd K ("Book", some "__init__"), "__init__", "Book.__init__", defArgs (inClass (top 58) 0), defBody (inClass (top 58) 0), defScope (inClass (top 58) 0), [], []⟩
def d_v_Change_of : He5.DefA := ⟨fun K => He5.wf K (He.ga K "Change") "classmethod" "of", "of", "Change.of", defArgs (inClass (top 34) 2), defBody (inClass (top 34) 2), defScope (inClass (top 34) 2), [], []⟩
def d_v_End_of : He5.DefA := ⟨fun K => He5.wf K (He.ga K "End") "classmethod" "of", "of", "End.of", defArgs (inClass (top 35) 2), defBody (inClass (top 35) 2), defScope (inClass (top 35) 2), [], []⟩
def d_v_Book_of : He5.DefA := ⟨fun K => He5.wf K (He.ga K "Book") "classmethod" "of", "of", "Book.of", defArgs (inClass (top 58) 1), defBody (inClass (top 58) 1), defScope (inClass (top 58) 1), [], []⟩
def d_f_Book_len : He5.DefA := ⟨fun K => He.fAd K ("Book", some "__len__"), "__len__", "Book.__len__", defArgs (inClass (top 58) 3), defBody (inClass (top 58) 3), defScope (inClass (top 58) 3), [], []⟩
def fa : List He.Fa := [.glo "is_integer", .glo "is_name", .glo "is_between", .glo "check_name", .glo "check_once", .glo "check_names", .glo "check_note", .glo "check_column", .glo "reached", .glo "is_closing", .glo "closing_after", .glo "all_successions", .glo "check_price", .glo "check_side", .glo "ends_of", .glo "fewest", .glo "check_columns", .glo "check_words", .glo "_law_bag", .glo "_law_take", .glo "_law_of", .glo "_law_names", .glo "_law_note", .glo "_law_deed", .glo "_law_data", .glo "_law_note_of", .glo "_law_deed_of", .glo "_law_book", .glo "_law_columns", .glo "_law_reached", .glo "_law_successions", .glo "_law_sides", .glo "_law_both", .glo "_law_tells", .glo "_law_price", .glo "_law_priced", .glo "_law_least", .glo "_law_moved", .glo "law", .int "MOST_LETTERS" 8, .int "MOST_WORDS" 4, .int "MOST_MOVES" 4, .int "MOST_COLUMNS" 3, .int "MOST_PRICE" 1000000000, .int "MOST_DEEDS" 8, .int "MOST_STATES" 4, .int "MOST_KEPT" 3, .str "LETTERS" "abcdefghijklmnopqrstuvwxyz", .free "len", .free "isinstance", .free "int", .free "bool", .free "str", .free "all", .free "any", .free "sum", .free "sorted", .free "tuple", .free "list", .free "min", .free "max", .free "abs", .free "range", .free "enumerate", .free "repr", .free "iter", .free "super", .cls "Note", .glo "Note", .mkr "Note", .noat "Note" "old", .noat "Note" "new", .noat "Note" "named", .noat "Note" "changed", .cls "Make", .glo "Make", .mkr "Make", .noat "Make" "name", .noat "Make" "moves", .noat "Make" "columns", .noat "Make" "note", .meth "Make" "allowed", .meth "Make" "after", .cls "Change", .glo "Change", .mkr "Change", .noat "Change" "name", .noat "Change" "moves", .noat "Change" "columns", .noat "Change" "note", .meth "Change" "allowed", .meth "Change" "after", .cls "End", .glo "End", .mkr "End", .noat "End" "name", .noat "End" "moves", .noat "End" "columns", .noat "End" "note", .meth "End" "allowed", .meth "End" "after", .cls "Prices", .glo "Prices", .mkr "Prices", .noat "Prices" "default", .noat "Prices" "set_prices", .meth "Prices" "__getitem__", .meth "Prices" "__setitem__", .meth "Prices" "total", .cls "Cover", .glo "Cover", .mkr "Cover", .noat "Cover" "column", .noat "Cover" "price", .noat "Cover" "sides", .noat "Cover" "packing", .cls "Flow", .glo "Flow", .mkr "Flow", .noat "Flow" "pairs", .noat "Flow" "sent", .noat "Flow" "room", .meth "Flow" "trails", .meth "Flow" "grow", .meth "Flow" "finish", .cls "Book", .glo "Book", .mkr "Book", .noat "Book" "columns", .noat "Book" "states", .noat "Book" "deeds", .noat "Book" "names", .noat "Book" "keep", .meth "Book" "__iter__", .meth "Book" "__getitem__", .meth "Book" "writes", .meth "Book" "__len__"]
def fn : List He5.DefA := [d_f_is_integer, d_f_is_name, d_f_is_between, d_f_check_name, d_f_check_once, d_f_check_names, d_f_check_note, d_f_check_column, d_f_reached, d_f_is_closing, d_f_closing_after, d_f_all_successions, d_f_check_price, d_f_check_side, d_f_ends_of, d_f_fewest, d_f_check_columns, d_f_check_words, d_f__law_bag, d_f__law_take, d_f__law_of, d_f__law_names, d_f__law_note, d_f__law_deed, d_f__law_data, d_f__law_note_of, d_f__law_deed_of, d_f__law_book, d_f__law_columns, d_f__law_reached, d_f__law_successions, d_f__law_sides, d_f__law_both, d_f__law_tells, d_f__law_price, d_f__law_priced, d_f__law_least, d_f__law_moved, d_f_law, d_f_Make_allowed, d_f_Make_after, d_f_Change_allowed, d_f_Change_after, d_f_End_allowed, d_f_End_after, d_f_Prices_init, d_f_Prices_getitem, d_f_Prices_setitem, d_f_Prices_total, d_f_Cover_init, d_f_Flow_init, d_f_Flow_trails, d_f_Flow_grow, d_f_Flow_finish, d_f_Book_iter, d_f_Book_getitem, d_f_Book_writes, d_f_Deed_init, d_v_Note_init, d_v_Book_init, d_v_Change_of, d_v_End_of, d_v_Book_of, d_f_Book_len]
theorem runF (w : World) (os : OsState) : (runS w os).map (fun s => (He5.obsA fa fn (KT s), exO (HandSHeadRun.getT s) (KT s))) = some (He5.valA fn, exV) := by kernel_rfl
end K59
/-! K59T -/
set_option Elab.async false
set_option linter.all false
set_option maxRecDepth 100000
namespace K59
open PySem PySem.Spec PyProof.Rows L2
structure Tx0 (K : PySem.W.Frag) (mg : Str → Option Value) : Prop where
  f_is_integer : HasFn K ("is_integer", none) "is_integer" "is_integer" (top 18) [] []
  g_is_integer : mg "is_integer" = some (.ref (He.fAd K ("is_integer", none)))
  f_is_name : HasFn K ("is_name", none) "is_name" "is_name" (top 19) [] []
  g_is_name : mg "is_name" = some (.ref (He.fAd K ("is_name", none)))
  f_is_between : HasFn K ("is_between", none) "is_between" "is_between" (top 20) [] []
  g_is_between : mg "is_between" = some (.ref (He.fAd K ("is_between", none)))
  f_check_name : HasFn K ("check_name", none) "check_name" "check_name" (top 21) [] []
  g_check_name : mg "check_name" = some (.ref (He.fAd K ("check_name", none)))
  f_check_once : HasFn K ("check_once", none) "check_once" "check_once" (top 22) [] []
  g_check_once : mg "check_once" = some (.ref (He.fAd K ("check_once", none)))
  f_check_names : HasFn K ("check_names", none) "check_names" "check_names" (top 23) [] []
  g_check_names : mg "check_names" = some (.ref (He.fAd K ("check_names", none)))
  f_check_note : HasFn K ("check_note", none) "check_note" "check_note" (top 31) [] []
  g_check_note : mg "check_note" = some (.ref (He.fAd K ("check_note", none)))
  f_check_column : HasFn K ("check_column", none) "check_column" "check_column" (top 37) [] []
  g_check_column : mg "check_column" = some (.ref (He.fAd K ("check_column", none)))
  f_reached : HasFn K ("reached", none) "reached" "reached" (top 39) [] []
  g_reached : mg "reached" = some (.ref (He.fAd K ("reached", none)))
  f_is_closing : HasFn K ("is_closing", none) "is_closing" "is_closing" (top 40) [] []
  g_is_closing : mg "is_closing" = some (.ref (He.fAd K ("is_closing", none)))
  f_closing_after : HasFn K ("closing_after", none) "closing_after" "closing_after" (top 41) [] []
  g_closing_after : mg "closing_after" = some (.ref (He.fAd K ("closing_after", none)))
  f_all_successions : HasFn K ("all_successions", none) "all_successions" "all_successions" (top 42) [] []
  g_all_successions : mg "all_successions" = some (.ref (He.fAd K ("all_successions", none)))
  f_check_price : HasFn K ("check_price", none) "check_price" "check_price" (top 45) [] []
  g_check_price : mg "check_price" = some (.ref (He.fAd K ("check_price", none)))
  f_check_side : HasFn K ("check_side", none) "check_side" "check_side" (top 46) [] []
  g_check_side : mg "check_side" = some (.ref (He.fAd K ("check_side", none)))
  f_ends_of : HasFn K ("ends_of", none) "ends_of" "ends_of" (top 48) [] []
  g_ends_of : mg "ends_of" = some (.ref (He.fAd K ("ends_of", none)))
  f_fewest : HasFn K ("fewest", none) "fewest" "fewest" (top 51) [.non] []
  g_fewest : mg "fewest" = some (.ref (He.fAd K ("fewest", none)))
  f_check_columns : HasFn K ("check_columns", none) "check_columns" "check_columns" (top 56) [] []
  g_check_columns : mg "check_columns" = some (.ref (He.fAd K ("check_columns", none)))
  f_check_words : HasFn K ("check_words", none) "check_words" "check_words" (top 57) [] []
  g_check_words : mg "check_words" = some (.ref (He.fAd K ("check_words", none)))
  f__law_bag : HasFn K ("_law_bag", none) "_law_bag" "_law_bag" (top 60) [] []
  g__law_bag : mg "_law_bag" = some (.ref (He.fAd K ("_law_bag", none)))
  f__law_take : HasFn K ("_law_take", none) "_law_take" "_law_take" (top 61) [] []
  g__law_take : mg "_law_take" = some (.ref (He.fAd K ("_law_take", none)))
  f__law_of : HasFn K ("_law_of", none) "_law_of" "_law_of" (top 62) [] []
  g__law_of : mg "_law_of" = some (.ref (He.fAd K ("_law_of", none)))
  f__law_names : HasFn K ("_law_names", none) "_law_names" "_law_names" (top 64) [] []
  g__law_names : mg "_law_names" = some (.ref (He.fAd K ("_law_names", none)))
  f__law_note : HasFn K ("_law_note", none) "_law_note" "_law_note" (top 66) [] []
  g__law_note : mg "_law_note" = some (.ref (He.fAd K ("_law_note", none)))
  f__law_deed : HasFn K ("_law_deed", none) "_law_deed" "_law_deed" (top 67) [] []
  g__law_deed : mg "_law_deed" = some (.ref (He.fAd K ("_law_deed", none)))
  f__law_data : HasFn K ("_law_data", none) "_law_data" "_law_data" (top 68) [] []
  g__law_data : mg "_law_data" = some (.ref (He.fAd K ("_law_data", none)))
  f__law_note_of : HasFn K ("_law_note_of", none) "_law_note_of" "_law_note_of" (top 69) [] []
  g__law_note_of : mg "_law_note_of" = some (.ref (He.fAd K ("_law_note_of", none)))
  f__law_deed_of : HasFn K ("_law_deed_of", none) "_law_deed_of" "_law_deed_of" (top 70) [] []
  g__law_deed_of : mg "_law_deed_of" = some (.ref (He.fAd K ("_law_deed_of", none)))
  f__law_book : HasFn K ("_law_book", none) "_law_book" "_law_book" (top 71) [] []
  g__law_book : mg "_law_book" = some (.ref (He.fAd K ("_law_book", none)))
  f__law_columns : HasFn K ("_law_columns", none) "_law_columns" "_law_columns" (top 74) [] []
  g__law_columns : mg "_law_columns" = some (.ref (He.fAd K ("_law_columns", none)))
  f__law_reached : HasFn K ("_law_reached", none) "_law_reached" "_law_reached" (top 78) [] []
  g__law_reached : mg "_law_reached" = some (.ref (He.fAd K ("_law_reached", none)))
  f__law_successions : HasFn K ("_law_successions", none) "_law_successions" "_law_successions" (top 79) [] []
  g__law_successions : mg "_law_successions" = some (.ref (He.fAd K ("_law_successions", none)))
  f__law_sides : HasFn K ("_law_sides", none) "_law_sides" "_law_sides" (top 80) [] []
  g__law_sides : mg "_law_sides" = some (.ref (He.fAd K ("_law_sides", none)))
  f__law_both : HasFn K ("_law_both", none) "_law_both" "_law_both" (top 81) [] []
  g__law_both : mg "_law_both" = some (.ref (He.fAd K ("_law_both", none)))
  f__law_tells : HasFn K ("_law_tells", none) "_law_tells" "_law_tells" (top 82) [] []
  g__law_tells : mg "_law_tells" = some (.ref (He.fAd K ("_law_tells", none)))
  f__law_price : HasFn K ("_law_price", none) "_law_price" "_law_price" (top 83) [] []
  g__law_price : mg "_law_price" = some (.ref (He.fAd K ("_law_price", none)))
  f__law_priced : HasFn K ("_law_priced", none) "_law_priced" "_law_priced" (top 84) [] []
  g__law_priced : mg "_law_priced" = some (.ref (He.fAd K ("_law_priced", none)))
  f__law_least : HasFn K ("_law_least", none) "_law_least" "_law_least" (top 85) [] []
  g__law_least : mg "_law_least" = some (.ref (He.fAd K ("_law_least", none)))
  f__law_moved : HasFn K ("_law_moved", none) "_law_moved" "_law_moved" (top 86) [] []
  g__law_moved : mg "_law_moved" = some (.ref (He.fAd K ("_law_moved", none)))
  f_law : HasFn K ("law", none) "law" "law" (top 87) [] []
  g_law : mg "law" = some (.ref (He.fAd K ("law", none)))
  i_MOST_LETTERS : ∃ t, mg "MOST_LETTERS" = some (.int 8 t)
  i_MOST_WORDS : ∃ t, mg "MOST_WORDS" = some (.int 4 t)
  i_MOST_MOVES : ∃ t, mg "MOST_MOVES" = some (.int 4 t)
  i_MOST_COLUMNS : ∃ t, mg "MOST_COLUMNS" = some (.int 3 t)
  i_MOST_PRICE : ∃ t, mg "MOST_PRICE" = some (.int 1000000000 t)
  i_MOST_DEEDS : ∃ t, mg "MOST_DEEDS" = some (.int 8 t)
  i_MOST_STATES : ∃ t, mg "MOST_STATES" = some (.int 4 t)
  i_MOST_KEPT : ∃ t, mg "MOST_KEPT" = some (.int 3 t)
  i_LETTERS : ∃ t, mg "LETTERS" = some (.str "abcdefghijklmnopqrstuvwxyz" t)
  n_len : mg "len" = none
  n_isinstance : mg "isinstance" = none
  n_int : mg "int" = none
  n_bool : mg "bool" = none
  n_str : mg "str" = none
  n_all : mg "all" = none
  n_any : mg "any" = none
  n_sum : mg "sum" = none
  n_sorted : mg "sorted" = none
  n_tuple : mg "tuple" = none
  n_list : mg "list" = none
  n_min : mg "min" = none
  n_max : mg "max" = none
  n_abs : mg "abs" = none
  n_range : mg "range" = none
  n_enumerate : mg "enumerate" = none
  n_repr : mg "repr" = none
  n_iter : mg "iter" = none
  n_super : mg "super" = none
  c_Note : Cls K (He.ga K "Note")
  g_Note : mg "Note" = some (.ref (He.ga K "Note"))
  k_Note : Mk K (He.ga K "Note") (He.fAd K ("Note", some "__init__"))
  a_Note_old : NoAttr K (He.ga K "Note") "old"
  a_Note_new : NoAttr K (He.ga K "Note") "new"
  a_Note_named : NoAttr K (He.ga K "Note") "named"
  a_Note_changed : NoAttr K (He.ga K "Note") "changed"
  c_Make : Cls K (He.ga K "Make")
  g_Make : mg "Make" = some (.ref (He.ga K "Make"))
  k_Make : Mk K (He.ga K "Make") (He.fAd K ("Make", some "__init__"))
  a_Make_name : NoAttr K (He.ga K "Make") "name"
  a_Make_moves : NoAttr K (He.ga K "Make") "moves"
  a_Make_columns : NoAttr K (He.ga K "Make") "columns"
  a_Make_note : NoAttr K (He.ga K "Make") "note"
  f_Make_allowed : HasFn K ("Make", some "allowed") "allowed" "Deed.allowed" (inClass (top 32) 4) [] []
  m_Make_allowed : Meth K (He.ga K "Make") "allowed" (He.fAd K ("Make", some "allowed"))
  f_Make_after : HasFn K ("Make", some "after") "after" "Deed.after" (inClass (top 32) 5) [] []
  m_Make_after : Meth K (He.ga K "Make") "after" (He.fAd K ("Make", some "after"))
  c_Change : Cls K (He.ga K "Change")
  g_Change : mg "Change" = some (.ref (He.ga K "Change"))
  k_Change : Mk K (He.ga K "Change") (He.fAd K ("Change", some "__init__"))
  a_Change_name : NoAttr K (He.ga K "Change") "name"
  a_Change_moves : NoAttr K (He.ga K "Change") "moves"
  a_Change_columns : NoAttr K (He.ga K "Change") "columns"
  a_Change_note : NoAttr K (He.ga K "Change") "note"
  f_Change_allowed : HasFn K ("Change", some "allowed") "allowed" "Deed.allowed" (inClass (top 32) 4) [] []
  m_Change_allowed : Meth K (He.ga K "Change") "allowed" (He.fAd K ("Change", some "allowed"))
  f_Change_after : HasFn K ("Change", some "after") "after" "Deed.after" (inClass (top 32) 5) [] []
  m_Change_after : Meth K (He.ga K "Change") "after" (He.fAd K ("Change", some "after"))
  c_End : Cls K (He.ga K "End")
  g_End : mg "End" = some (.ref (He.ga K "End"))
  k_End : Mk K (He.ga K "End") (He.fAd K ("End", some "__init__"))
  a_End_name : NoAttr K (He.ga K "End") "name"
  a_End_moves : NoAttr K (He.ga K "End") "moves"
  a_End_columns : NoAttr K (He.ga K "End") "columns"
  a_End_note : NoAttr K (He.ga K "End") "note"
  f_End_allowed : HasFn K ("End", some "allowed") "allowed" "Deed.allowed" (inClass (top 32) 4) [] []
  m_End_allowed : Meth K (He.ga K "End") "allowed" (He.fAd K ("End", some "allowed"))
  f_End_after : HasFn K ("End", some "after") "after" "Deed.after" (inClass (top 32) 5) [] []
  m_End_after : Meth K (He.ga K "End") "after" (He.fAd K ("End", some "after"))
  c_Prices : Cls K (He.ga K "Prices")
  g_Prices : mg "Prices" = some (.ref (He.ga K "Prices"))
  k_Prices : Mk K (He.ga K "Prices") (He.fAd K ("Prices", some "__init__"))
  a_Prices_default : NoAttr K (He.ga K "Prices") "default"
  a_Prices_set_prices : NoAttr K (He.ga K "Prices") "set_prices"
  f_Prices_init : HasFn K ("Prices", some "__init__") "__init__" "Prices.__init__" (inClass (top 47) 0) [.int 1] []
  f_Prices_getitem : HasFn K ("Prices", some "__getitem__") "__getitem__" "Prices.__getitem__" (inClass (top 47) 1) [] []
  m_Prices_getitem : Meth K (He.ga K "Prices") "__getitem__" (He.fAd K ("Prices", some "__getitem__"))
  f_Prices_setitem : HasFn K ("Prices", some "__setitem__") "__setitem__" "Prices.__setitem__" (inClass (top 47) 2) [] []
  m_Prices_setitem : Meth K (He.ga K "Prices") "__setitem__" (He.fAd K ("Prices", some "__setitem__"))
  f_Prices_total : HasFn K ("Prices", some "total") "total" "Prices.total" (inClass (top 47) 4) [] []
  m_Prices_total : Meth K (He.ga K "Prices") "total" (He.fAd K ("Prices", some "total"))
  c_Cover : Cls K (He.ga K "Cover")
  g_Cover : mg "Cover" = some (.ref (He.ga K "Cover"))
  k_Cover : Mk K (He.ga K "Cover") (He.fAd K ("Cover", some "__init__"))
  a_Cover_column : NoAttr K (He.ga K "Cover") "column"
  a_Cover_price : NoAttr K (He.ga K "Cover") "price"
  a_Cover_sides : NoAttr K (He.ga K "Cover") "sides"
  a_Cover_packing : NoAttr K (He.ga K "Cover") "packing"
  f_Cover_init : HasFn K ("Cover", some "__init__") "__init__" "Cover.__init__" (inClass (top 49) 0) [] []
  c_Flow : Cls K (He.ga K "Flow")
  g_Flow : mg "Flow" = some (.ref (He.ga K "Flow"))
  k_Flow : Mk K (He.ga K "Flow") (He.fAd K ("Flow", some "__init__"))
  a_Flow_pairs : NoAttr K (He.ga K "Flow") "pairs"
  a_Flow_sent : NoAttr K (He.ga K "Flow") "sent"
  a_Flow_room : NoAttr K (He.ga K "Flow") "room"
  f_Flow_init : HasFn K ("Flow", some "__init__") "__init__" "Flow.__init__" (inClass (top 50) 0) [] []
  f_Flow_trails : HasFn K ("Flow", some "trails") "trails" "Flow.trails" (inClass (top 50) 1) [] []
  m_Flow_trails : Meth K (He.ga K "Flow") "trails" (He.fAd K ("Flow", some "trails"))
  f_Flow_grow : HasFn K ("Flow", some "grow") "grow" "Flow.grow" (inClass (top 50) 2) [] []
  m_Flow_grow : Meth K (He.ga K "Flow") "grow" (He.fAd K ("Flow", some "grow"))
  f_Flow_finish : HasFn K ("Flow", some "finish") "finish" "Flow.finish" (inClass (top 50) 3) [] []
  m_Flow_finish : Meth K (He.ga K "Flow") "finish" (He.fAd K ("Flow", some "finish"))
  c_Book : Cls K (He.ga K "Book")
  g_Book : mg "Book" = some (.ref (He.ga K "Book"))
  k_Book : Mk K (He.ga K "Book") (He.fAd K ("Book", some "__init__"))
  a_Book_columns : NoAttr K (He.ga K "Book") "columns"
  a_Book_states : NoAttr K (He.ga K "Book") "states"
  a_Book_deeds : NoAttr K (He.ga K "Book") "deeds"
  a_Book_names : NoAttr K (He.ga K "Book") "names"
  a_Book_keep : NoAttr K (He.ga K "Book") "keep"
  f_Book_iter : HasFn K ("Book", some "__iter__") "__iter__" "Book.__iter__" (inClass (top 58) 4) [] []
  m_Book_iter : Meth K (He.ga K "Book") "__iter__" (He.fAd K ("Book", some "__iter__"))
  f_Book_getitem : HasFn K ("Book", some "__getitem__") "__getitem__" "Book.__getitem__" (inClass (top 58) 6) [] []
  m_Book_getitem : Meth K (He.ga K "Book") "__getitem__" (He.fAd K ("Book", some "__getitem__"))
  f_Book_writes : HasFn K ("Book", some "writes") "writes" "Book.writes" (inClass (top 58) 7) [] []
  m_Book_writes : Meth K (He.ga K "Book") "writes" (He.fAd K ("Book", some "writes"))
end K59
/-! K59B -/
set_option Elab.async false
set_option linter.all false
set_option maxRecDepth 100000
namespace K59
open PySem PySem.Spec PyProof.Rows L2
/-! ### a heap without one thing -/
def less (D : Addr) (H : Hp) : Hp := fun b => if b = D then none else H b
theorem less_ne {D b : Addr} {H : Hp} (h : b ≠ D) : less D H b = H b := if_neg h
theorem less_sub (D : Addr) (H : Hp) : Same (less D H) H := fun b o e => by
  by_cases h : b = D
  · rw [less, if_pos h] at e
    cases e
  · rw [less_ne h] at e
    exact e
theorem less_same {D : Addr} {H H' : Hp} (e : Same H H') : Same (less D H) (less D H') := fun b o q => by
  by_cases h : b = D
  · rw [less, if_pos h] at q
    cases q
  · rw [less_ne h] at q ⊢
    exact e b o q
theorem less_upd (D : Addr) (H : Hp) (o : HO) : less D (upd H D o) = less D H := by
  funext b
  by_cases h : b = D
  · rw [less, less, if_pos h, if_pos h]
  · rw [less_ne h, less_ne h, upd_ne h]
/-- what H knows, H not knowing D -/
theorem less_old {D : Addr} {H H' : Hp} (h : H D = none) (e : Same H H') : Same H (less D H') := fun b o q => by
  rw [less_ne (ne_of_none q h)]
  exact e b o q
theorem less_at {D b : Addr} {H : Hp} {o u : HO} (hD : H D = some u) (h : H b = some o) (d : o ≠ u) : less D H b = some o := by
  rw [less_ne (ne_of h hD d)]
  exact h
/-! ### what is new in H' beyond H -/
def New (H H' : Hp) : Hp := fun b => match H b with
  | none => H' b
  | some _ => none
theorem new_at {H H' : Hp} {b : Addr} {o : HO} (h : H b = none) (h' : H' b = some o) : New H H' b = some o := by
  unfold New
  rw [h]
  exact h'
theorem new_inv {H H' : Hp} {b : Addr} {o : HO} (h : New H H' b = some o) : H b = none ∧ H' b = some o := by
  unfold New at h
  cases e : H b with
  | none => rw [e] at h; exact ⟨rfl, h⟩
  | some u => rw [e] at h; cases h
theorem new_same {H H' H2 : Hp} (e : Same H' H2) : Same (New H H') (New H H2) := fun b o h => by
  obtain ⟨h1, h2⟩ := new_inv h
  exact new_at h1 (e _ _ h2)
theorem new_back {H H2 H' : Hp} (e : Same H H2) : Same (New H2 H') (New H H') := fun b o h => by
  obtain ⟨h1, h2⟩ := new_inv h
  exact new_at (e.free h1) h2
theorem new_sub (H H' : Hp) : Same (New H H') H' := fun b o h => (new_inv h).2
theorem new_less {H H' : Hp} {D : Addr} {u : HO} (h : H D = some u) : Same (New H H') (less D H') := fun b o q => by
  obtain ⟨h1, h2⟩ := new_inv q
  rw [less_ne (ne_of_none h h1).symm]
  exact h2
/-! ### a list that grows at D -/
structure Gr (H0 : Hp) (D : Addr) (A : Nat → List V → Hp → Prop) (i : Nat) (H : Hp) : Prop where
  new : H0 D = none
  ext : Same H0 H
  lst : ∃ acc, H D = some (.lst acc) ∧ acc.length ≤ i ∧ A i acc (less D H)
section
variable {H0 H H' : Hp} {D : Addr} {A : Nat → List V → Hp → Prop} {i : Nat} {y : V}
theorem gr_start (hD : H0 D = none) (h : A 0 [] (less D (upd H0 D (.lst [])))) : Gr H0 D A 0 (upd H0 D (.lst [])) :=
  ⟨hD, same_upd hD, [], upd_same, Nat.le_refl _, h⟩
/-- an item more -/
theorem gr_add (G : Gr H0 D A i H) (e : Same H H') (hi : i < 100000) (mono : ∀ j acc H H', Same H H' → A j acc H → A j acc H') (h : ∀ acc, A i acc (less D H') → A (i + 1) (acc ++ [y]) (less D H')) :
    ∃ acc, H' D = some (.lst acc) ∧ acc.length < sizeLine ∧ Gr H0 D A (i + 1) (upd H' D (.lst (acc ++ [y]))) := by
  obtain ⟨hD, hx, acc, ha, hl, q⟩ := G
  refine ⟨acc, e _ _ ha, Nat.lt_of_le_of_lt hl (Nat.lt_trans hi (by decide)), hD, same_mut (hx.trans e) hD, acc ++ [y], upd_same, by rw [List.length_append]; exact Nat.succ_le_succ hl, ?_⟩
  rw [less_upd]
  exact h acc (mono _ _ _ _ (less_same e) q)
/-- no item -/
theorem gr_skip (G : Gr H0 D A i H) (e : Same H H') (mono : ∀ j acc H H', Same H H' → A j acc H → A j acc H') (h : ∀ acc, A i acc (less D H') → A (i + 1) acc (less D H')) : Gr H0 D A (i + 1) H' := by
  obtain ⟨hD, hx, acc, ha, hl, q⟩ := G
  exact ⟨hD, hx.trans e, acc, e _ _ ha, Nat.le_succ_of_le hl, h acc (mono _ _ _ _ (less_same e) q)⟩
theorem gr_mono (G : Gr H0 D A i H) (e : Same H H') (mono : ∀ j acc H H', Same H H' → A j acc H → A j acc H') : Gr H0 D A i H' := by
  obtain ⟨hD, hx, acc, ha, hl, q⟩ := G
  exact ⟨hD, hx.trans e, acc, e _ _ ha, hl, mono _ _ _ _ (less_same e) q⟩
end
/-! ### comprehensions: one rule over what is walked -/
theorem lc_it {J : It} {n : Nat} {g : TG} {tt : TT} {te : TE} {vs : List Nat} {σ : L2.St} {H1 : Hp} {D : Addr} {Qd : Hp → Prop} (Pv : Nat → Hp → Prop) (h0 : Pv 0 (upd H1 D (.lst [])))
    (hgo : ∀ i H, i < n → Pv i H → J.go i H) (hstop : ∀ H, Pv n H → J.stop n H)
    (hs : ∀ i x H H', i < n → Pv i H → J.yld i H x H' → g x (wipe σ vs) H' fun σ2 H2 => wipe σ2 vs = wipe σ vs ∧ tt σ2 H2 fun b H3 => if b = true then te σ2 H3 fun y H4 => ∃ acc, H4 D = some (.lst acc) ∧ acc.length < sizeLine ∧ Pv (i + 1) (upd H4 D (.lst (acc ++ [y]))) else Pv (i + 1) H3)
    (hd : ∀ H, Pv n H → Qd H) :
    ∃ W : Nat → Nat → Hp → Prop, (∃ m, W 0 m (upd H1 D (.lst []))) ∧ ∀ i m H, W i m H → (J.stop i H ∧ Qd H) ∨ (J.go i H ∧ ∃ Nx : Hp → Prop, (∀ H', Nx H' → ∃ m', m' < m ∧ W (i + 1) m' H') ∧
      ∀ x H', J.yld i H x H' → g x (wipe σ vs) H' fun σ2 H2 => wipe σ2 vs = wipe σ vs ∧ tt σ2 H2 fun b H3 => if b = true then te σ2 H3 fun y H4 => ∃ acc, H4 D = some (.lst acc) ∧ acc.length < sizeLine ∧ Nx (upd H4 D (.lst (acc ++ [y]))) else Nx H3) := by
  refine ⟨fun i m H => m = n - i ∧ i ≤ n ∧ Pv i H, ⟨n, by simp, Nat.zero_le _, h0⟩, ?_⟩
  rintro i m H ⟨rfl, hi, p⟩
  by_cases hlt : i < n
  · exact .inr ⟨hgo i H hlt p, Pv (i + 1), fun H' p' => ⟨n - (i + 1), by omega, rfl, hlt, p'⟩, fun x H' hy => hs i x H H' hlt p hy⟩
  · have e : i = n := by omega
    subst e
    exact .inl ⟨hstop H p, hd H p⟩
/-- over a text -/
theorem lc_str {x : Str} {g : TG} {tt : TT} {te : TE} {vs : List Nat} {σ : L2.St} {H1 : Hp} {D : Addr} {Qd : Hp → Prop} (Pv : Nat → Hp → Prop) (h0 : Pv 0 (upd H1 D (.lst [])))
    (hs : ∀ i c H, x.cps[i]? = some c → Pv i H → g (.str ⟨#[c]⟩) (wipe σ vs) H fun σ2 H2 => wipe σ2 vs = wipe σ vs ∧ tt σ2 H2 fun b H3 => if b = true then te σ2 H3 fun y H4 => ∃ acc, H4 D = some (.lst acc) ∧ acc.length < sizeLine ∧ Pv (i + 1) (upd H4 D (.lst (acc ++ [y]))) else Pv (i + 1) H3)
    (hd : ∀ H, Pv x.cps.size H → Qd H) :
    ∃ W : Nat → Nat → Hp → Prop, (∃ m, W 0 m (upd H1 D (.lst []))) ∧ ∀ i m H, W i m H → ((Its x).stop i H ∧ Qd H) ∨ ((Its x).go i H ∧ ∃ Nx : Hp → Prop, (∀ H', Nx H' → ∃ m', m' < m ∧ W (i + 1) m' H') ∧
      ∀ y H', (Its x).yld i H y H' → g y (wipe σ vs) H' fun σ2 H2 => wipe σ2 vs = wipe σ vs ∧ tt σ2 H2 fun b H3 => if b = true then te σ2 H3 fun y H4 => ∃ acc, H4 D = some (.lst acc) ∧ acc.length < sizeLine ∧ Nx (upd H4 D (.lst (acc ++ [y]))) else Nx H3) := by
  refine lc_it (n := x.cps.size) Pv h0 (fun i H hi _ => hi) (fun H _ => Nat.le_refl _) (fun i y H H' hi p hy => ?_) hd
  obtain ⟨rfl, c, hc, rfl⟩ := hy
  exact hs i c _ hc p
/-! ### loops: one rule over what is walked -/
theorem for_it {J : It} {n : Nat} {g : TG} {tb : TS} {D : Ends} {σ : L2.St} {H : Hp} (Pv : Nat → L2.St → Hp → Prop) (h0 : Pv 0 σ H) (hgo : ∀ i σ H, i < n → Pv i σ H → J.go i H) (hstop : ∀ σ H, Pv n σ H → J.stop n H)
    (hs : ∀ i x σ H H', i < n → Pv i σ H → J.yld i H x H' → g x σ H' fun σ2 H2 => tb { D with nx := Pv (i + 1), ct := Pv (i + 1), bk := D.nx } σ2 H2) (hd : ∀ σ H, Pv n σ H → D.nx σ H) :
    ∃ W : Nat → Nat → L2.St → Hp → Prop, (∃ m, W 0 m σ H) ∧ ∀ i m σ H, W i m σ H →
      (J.stop i H ∧ D.nx σ H) ∨ (J.go i H ∧ ∃ N : L2.St → Hp → Prop, (∀ σ' H', N σ' H' → ∃ m', m' < m ∧ W (i + 1) m' σ' H') ∧ ∀ x H', J.yld i H x H' → g x σ H' fun σ2 H2 => tb { D with nx := N, ct := N, bk := D.nx } σ2 H2) := by
  refine ⟨fun i m σ H => m = n - i ∧ i ≤ n ∧ Pv i σ H, ⟨n, by simp, Nat.zero_le _, h0⟩, ?_⟩
  rintro i m σ H ⟨rfl, hi, p⟩
  by_cases hlt : i < n
  · exact .inr ⟨hgo i σ H hlt p, Pv (i + 1), fun σ' H' p' => ⟨n - (i + 1), by omega, rfl, hlt, p'⟩, fun x H' hy => hs i x σ H H' hlt p hy⟩
  · have e : i = n := by omega
    subst e
    exact .inl ⟨hstop σ H p, hd σ H p⟩
theorem for_enum {K : PySem.W.Frag} {a : Addr} {xs : List V} {g : TG} {tb : TS} {D : Ends} {σ : L2.St} {H : Hp} (Pv : Nat → L2.St → Hp → Prop) (h0 : Pv 0 σ H) (hl : ∀ i σ H, i ≤ xs.length → Pv i σ H → SqL K H a xs)
    (hs : ∀ i x σ H T, xs[i]? = some x → Pv i σ H → H T = none → g (.ref T) σ (upd H T (.tup [.int (i : Nat), x])) fun σ2 H2 => tb { D with nx := Pv (i + 1), ct := Pv (i + 1), bk := D.nx } σ2 H2) (hd : ∀ σ H, Pv xs.length σ H → D.nx σ H) :
    ∃ W : Nat → Nat → L2.St → Hp → Prop, (∃ m, W 0 m σ H) ∧ ∀ i m σ H, W i m σ H →
      ((Ite K a).stop i H ∧ D.nx σ H) ∨ ((Ite K a).go i H ∧ ∃ N : L2.St → Hp → Prop, (∀ σ' H', N σ' H' → ∃ m', m' < m ∧ W (i + 1) m' σ' H') ∧ ∀ x H', (Ite K a).yld i H x H' → g x σ H' fun σ2 H2 => tb { D with nx := N, ct := N, bk := D.nx } σ2 H2) := by
  refine for_it (n := xs.length) Pv h0 (fun i σ H hi p => ⟨xs, xs[i], hl i σ H (Nat.le_of_lt hi) p, List.getElem?_eq_getElem hi⟩) (fun σ H p => ⟨xs, hl _ σ H (Nat.le_refl _) p, Nat.le_refl _⟩) (fun i x σ H H' hi p hy => ?_) hd
  obtain ⟨T, y, rfl, hT, rfl, hy⟩ := hy
  exact hs i y σ H T (hy xs (hl i σ H (Nat.le_of_lt hi) p)) p hT
/-! ### lists -/
theorem nodup_len {α : Type} [DecidableEq α] : ∀ {l m : List α}, l.Nodup → (∀ x ∈ l, x ∈ m) → l.length ≤ m.length
  | [], _, _, _ => Nat.zero_le _
  | x :: r, m, h, hs => by
    obtain ⟨h1, h2⟩ := List.nodup_cons.mp h
    have hx : x ∈ m := hs x List.mem_cons_self
    have ih := nodup_len (l := r) (m := m.erase x) h2 fun y hy => (List.mem_erase_of_ne (fun e : y = x => h1 (e ▸ hy))).mpr (hs y (List.mem_cons_of_mem _ hy))
    rw [List.length_erase_of_mem hx] at ih
    have := List.length_pos_of_mem hx
    show r.length + 1 ≤ m.length
    omega
/-! ### texts in lists -/
theorem flat_strs (ss : List Str) : (ss.map V.str).all flatV = true := by
  rw [List.all_map]
  exact List.all_eq_true.mpr fun _ _ => rfl
theorem inV_strs (x : Str) (ss : List Str) : inV (.str x) (ss.map V.str) = decide (x ∈ ss) := by
  unfold inV
  rw [List.any_map]
  by_cases h : x ∈ ss
  · rw [decide_eq_true h]
    exact List.any_eq_true.mpr ⟨x, h, by show (x == x) = true; exact beq_self_eq_true x⟩
  · rw [decide_eq_false h]
    refine Bool.eq_false_iff.mpr fun e => ?_
    obtain ⟨y, hy, e2⟩ := List.any_eq_true.mp e
    have e3 : (y == x) = true := e2
    rw [beq_iff_eq] at e3
    exact h (e3 ▸ hy)
theorem strs_get {ss : List Str} {i : Nat} {x : V} (h : (ss.map V.str)[i]? = some x) : ∃ s, ss[i]? = some s ∧ x = .str s := by
  rw [List.getElem?_map] at h
  cases e : ss[i]? with
  | none => rw [e] at h; cases h
  | some s => rw [e] at h; exact ⟨s, rfl, (Option.some.inj h).symm⟩
/-! ### names -/
def Nm (s : Str) : Prop := 1 ≤ s.length ∧ s.length ≤ 8 ∧ ∀ c ∈ s.cps.toList, 97 ≤ c ∧ c ≤ 122
theorem letters_mem {c : Nat} (h : 97 ≤ c ∧ c ≤ 122) : c ∈ ("abcdefghijklmnopqrstuvwxyz" : Str).cps.toList := by
  obtain ⟨k, rfl⟩ : ∃ k, c = 97 + k := ⟨c - 97, by omega⟩
  have hk : k < 26 := by omega
  have all : ∀ k < 26, 97 + k ∈ ("abcdefghijklmnopqrstuvwxyz" : Str).cps.toList := by decide +kernel
  exact all k hk
end K59
/-! R00 -/
set_option Elab.async false
set_option linter.all false
set_option maxRecDepth 100000
/-! rules whose reading names the written part K outright (so that they serve within a comprehension's block) -/
namespace K59
open PySem PySem.Spec PyProof.Rows L2
def rLenK (K : PySem.W.Frag) : List V → Hp → VK → Prop := fun xs H Q => ∃ p ys, xs = [.ref p] ∧ (SqL K H p ys ∨ SqT K H p ys) ∧ Q (.int ys.length) H
def rListK (K : PySem.W.Frag) : List V → Hp → VK → Prop := fun xs H Q => ∃ p ys, xs = [.ref p] ∧ (SqL K H p ys ∨ SqT K H p ys) ∧ ∀ l, H l = none → Q (.ref l) (upd H l (.lst ys))
def rTupleK (K : PySem.W.Frag) : List V → Hp → VK → Prop := fun xs H Q => ∃ p ys, xs = [.ref p] ∧ ((SqL K H p ys ∧ ∀ l, H l = none → Q (.ref l) (upd H l (.tup ys))) ∨ (SqT K H p ys ∧ Q (.ref p) H))
section
variable (K : PySem.W.Frag) {X : Cx}
theorem pi_listK {tg l : Expr} {tl : TE} (hl : PE X l tl) (h : X.K = K := by rfl) : PI X tg l (iList K tl) := h ▸ pi_list hl
theorem pi_tupK {tg l : Expr} {tl : TE} (hl : PE X l tl) (h : X.K = K := by rfl) : PI X tg l (iTup K tl) := h ▸ pi_tup hl
theorem pg_tupK {es : List Expr} {k : Nat} {pos : Pos} {t : TGs} {n : Nat} (hc : X.calm = true) (hg : PGs X es t)
    (hn : (assignEach es X.env).length = n := by rfl) (hst : (assignEach es X.env).findIdx? (·.1) = none := by rfl) (h : X.K = K := by rfl) : PG X (.Tuple es k pos) (gTup K n t) := h ▸ pg_tup hc hg hn hst
theorem pi_enumK {e : Expr} {ta : TA} {p pos tpos : Pos} {elts : List Expr} {kk : Nat} (hg : Gl X "enumerate") (hm : X.mg "enumerate" = none) (ha : PA X [e] ta) (hs : starEach [e] X.env = [(false, eval e X.env)] := by rfl) (h : X.K = K := by rfl) :
    PI X (.Tuple elts kk tpos) (.Call (.Name "enumerate" p) [e] [] pos) (iEnum K ta) := h ▸ pi_enum hg hm ha hs
theorem pe_fldK {e : Expr} {f : Str} {pos : Pos} {ta : TE} (he : PE X e ta) (hb : attributeBase e f X.env (eval e X.env) = eval e X.env := by rfl) (h : X.K = K := by rfl) : PE X (.Attribute e f pos) (tFld K ta f) := h ▸ pe_fld he hb
theorem sl_listK (h : X.K = K := by rfl) : SlR X (rSlL K) := h ▸ sl_list
theorem ix_listK (h : X.K = K := by rfl) : IxR X (rIxL K) := h ▸ ix_list
theorem ix_tupK (h : X.K = K := by rfl) : IxR X (rIxT K) := h ▸ ix_tup
theorem inK (h : X.K = K := by rfl) : OpR X (compareOp .In) (rIn K false) := h ▸ op_in_seq
theorem notInK (h : X.K = K := by rfl) : OpR X (compareOp .NotIn) (rIn K true) := h ▸ op_notIn_seq
theorem eqDK (hu : X.A.units + 64 < cLine) (h : X.K = K := by rfl) : OpR X (compareOp .Eq) (rEqD K) := h ▸ op_eqD hu
theorem neDK (hu : X.A.units + 64 < cLine) (h : X.K = K := by rfl) : OpR X (compareOp .NotEq) (rNeD K) := h ▸ op_neD hu
theorem inDK (hu : X.A.units + 65 < cLine) (h : X.K = K := by rfl) : OpR X (compareOp .In) (rInD K) := h ▸ op_inD hu
theorem notInDK (hu : X.A.units + 65 < cLine) (h : X.K = K := by rfl) : OpR X (compareOp .NotIn) (rNotInD K) := h ▸ op_notInD hu
theorem isiC (h : X.K = K := by rfl) : CallR X (.builtin "isinstance") (rIsi K) := h ▸ call_isi
theorem isiT (h : X.K = K := by rfl) : CallR X (.builtin "isinstance") (rIsiT K) := h ▸ call_isiT
theorem lenK (h : X.K = K := by rfl) : CallR X (.builtin "len") (rLenK K) := h ▸ call_len_seq
theorem listK (h : X.K = K := by rfl) : CallR X (.type "list") (rListK K) := h ▸ call_list_of
theorem tupleK (h : X.K = K := by rfl) : CallR X (.type "tuple") (rTupleK K) := h ▸ call_tuple_of
theorem allK (hc : X.calm = true := by rfl) (h : X.K = K := by rfl) : CallR X (.builtin "all") (rAll K) := h ▸ cr_all hc
theorem anyK (hc : X.calm = true := by rfl) (h : X.K = K := by rfl) : CallR X (.builtin "any") (rAny K) := h ▸ cr_any hc
theorem sumK (hc : X.calm = true := by rfl) (h : X.K = K := by rfl) : CallR X (.builtin "sum") (rSum K) := h ▸ cr_sum hc
theorem minK (hc : X.calm = true := by rfl) (h : X.K = K := by rfl) : CallR X (.builtin "min") (rMin K) := h ▸ cr_min hc
theorem sortedSK (h : X.K = K := by rfl) : CallR X (.builtin "sorted") (rSortedS K) := h ▸ cr_sortedS
end
section
variable {X : Cx}
/-- a statement, then the rest, with a word between them -/
def tCut (t u : TS) : TS := fun D σ H => ∃ Mid : L2.St → Hp → Prop, t { D with nx := Mid } σ H ∧ ∀ σ' H', Mid σ' H' → u D σ' H'
theorem pss_cut {st : Stmt} {rest : List Stmt} {t u : TS} (h1 : PS X st t) (h2 : PSs X rest u) : PSs X (st :: rest) (tCut t u) := by
  refine ⟨fun pins s σ H D I h => ?_⟩
  obtain ⟨Mid, h3, h4⟩ := h
  refine wpAny_execs_cons (thn (h1.run pins s σ H _ I h3) fun f s1 h5 => ?_)
  cases f with
  | next =>
    obtain ⟨σ', H', I1, q⟩ := h5
    exact h2.run pins s1 σ' H' D I1 (h4 _ _ q)
  | brk => exact h5
  | cont => exact h5
  | ret u => exact h5
end
end K59
/-! R01 -/
set_option Elab.async false
set_option linter.all false
set_option maxRecDepth 100000
namespace K59
open PySem PySem.Spec PyProof.Rows L2
/-! ### the bag: a list of two ints, told by what is true of it -/
def BagP (b : Addr) (h : Heap) : Prop := ∃ (x y : Int) (t u : Tok) (n : Nat), h.get? b = some { cls := .type "list", data := .seq [Value.int x t, Value.int y u].toArray n } ∧ 0 ≤ x ∧ 0 ≤ y ∧ y < 2147483648
def BagO (b : Addr) : HO := .ext (BagP b)
theorem bag_ok {P : Program} {w : World} {H : Hp} {h : Heap} {b : Addr} (p : BagP b h) : ObjOk P w H h b (BagO b) :=
  ⟨p, let ⟨_, _, _, _, _, e, _⟩ := p; ⟨_, e⟩, fun h1 h2 ⟨x, y, t, u, n, e, r⟩ k => ⟨x, y, t, u, n, k _ e, r⟩⟩
section
variable {X : Cx} {pins : List (Addr × Obj)} {σ : L2.St} {H : Hp} {s : Shared} {b : Addr}
theorem bag_get (I : Inv X pins σ H s) (h : H b = some (BagO b)) : BagP b s.heap := (I.hok b _ h).1
/-- a new list of two ints becomes a bag -/
theorem inv_bag (I : Inv X pins σ H s) {x y : Int} (h : H b = some (.lst [.int x, .int y])) (hx : 0 ≤ x) (hy : 0 ≤ y) (hy2 : y < 2147483648) : Inv X pins σ (upd H b (BagO b)) s := by
  obtain ⟨_, its, n, r, e⟩ := I.hok b _ h
  obtain ⟨t, u, rfl⟩ := Vals.int2 r
  exact I.write (x := b) (e := b) (t' := s.toks) (h' := s.heap) (by rw [h]; trivial) (.inl rfl) (fun b v _ q => q) ⟨_, e⟩ (bag_ok ⟨x, y, t, u, n, e, hx, hy, hy2⟩)
/-- bag[0], bag[1] -/
def rIxB : R2 := fun x y H Q => ∃ b i, x = .ref b ∧ y = .int i ∧ H b = some (BagO b) ∧ ((i = 0 ∧ ∀ z : Int, 0 ≤ z → Q (.int z) H) ∨ (i = 1 ∧ ∀ z : Int, 0 ≤ z → z < 2147483648 → Q (.int z) H))
theorem ix_bag : IxR X rIxB := by
  intro value slice pins s σ H x y v u Q I rx ry h hs
  obtain ⟨b, i, rfl, rfl, hb, q⟩ := h
  cases rx
  obtain ⟨t, rfl⟩ := ry
  obtain ⟨z0, z1, t0, t1, n, e, h0, h1, h2⟩ := bag_get I hb
  have pl : s.heap.IsList b [Value.int z0 t0, Value.int z1 t1].toArray := ⟨_, e, rfl, _, rfl⟩
  rcases q with ⟨rfl, q⟩ | ⟨rfl, q⟩
  · exact item_listR (x := Value.int z0 t0) pl (by decide) (by decide) rfl ⟨.int z0, H, I, ⟨_, rfl⟩, q z0 h0⟩ hs
  · exact item_listR (x := Value.int z1 t1) pl (by decide) (by decide) rfl ⟨.int z1, H, I, ⟨_, rfl⟩, q z1 h1 h2⟩ hs
/-- bag[0] = z, bag[1] = z -/
def rSetB : V → V → V → Hp → (Hp → Prop) → Prop := fun o i v H Q => ∃ b k z, o = .ref b ∧ i = .int k ∧ v = .int z ∧ H b = some (BagO b) ∧ 0 ≤ z ∧ (k = 0 ∨ (k = 1 ∧ z < 2147483648)) ∧ Q H
theorem set_bag : PSet X rSetB := by
  intro pins s σ H o i v ov iv u Q I ro ri rv h
  obtain ⟨b, k, z, rfl, rfl, rfl, hb, hz, hk, q⟩ := h
  cases ro
  obtain ⟨t, rfl⟩ := ri
  obtain ⟨tz, rfl⟩ := rv
  obtain ⟨z0, z1, t0, t1, n, e, h0, h1, h2⟩ := bag_get I hb
  have eH : upd H b (BagO b) = H := by
    funext c
    by_cases hc : c = b
    · rw [hc, upd_same, hb]
    · rw [upd_ne hc]
  have go : ∀ j : Nat, (j = 0 ∨ (j = 1 ∧ z < 2147483648)) → Inv X pins σ H { s with heap := s.heap.update b (Obj.mapSeq (·.setIfInBounds j (Value.int z tz))) } := fun j hj => by
    have hf := mapSeq_set [Value.int z0 t0, Value.int z1 t1] n j (Value.int z tz)
    have e2 : (s.heap.update b (Obj.mapSeq (·.setIfInBounds j (Value.int z tz)))).get? b = some { cls := .type "list", data := .seq ([Value.int z0 t0, Value.int z1 t1].set j (Value.int z tz)).toArray n } := by
      rw [Heap.get?_update_self _ e (by rw [hf] <;> rfl), hf]
    have p : BagP b (s.heap.update b (Obj.mapSeq (·.setIfInBounds j (Value.int z tz)))) := by
      rcases hj with rfl | ⟨rfl, hj⟩
      · exact ⟨z, z1, tz, t1, n, e2, hz, h1, h2⟩
      · exact ⟨z0, z, t0, tz, n, e2, h0, hz, hj⟩
    have I2 := I.write (x := b) (e := b) (t' := s.toks) (h' := s.heap.update b (Obj.mapSeq (·.setIfInBounds j (Value.int z tz)))) (o := BagO b) (by rw [hb]; trivial) (.inl rfl) (fun c v hc q => (Heap.get?_update_other _ _ (Ne.symm hc)).trans q) ⟨_, e2⟩ (bag_ok p)
    rw [eH] at I2
    exact I2
  rcases hk with rfl | ⟨rfl, hk⟩
  · exact PySem.W.ki_setAt e (by decide) (by decide) (by show (0 : Int) < 2; decide) ⟨_, go 0 (.inl rfl), q⟩
  · exact PySem.W.ki_setAt e (by decide) (by decide) (by show (1 : Int) < 2; decide) ⟨_, go 1 (.inr ⟨rfl, hk⟩), q⟩
/-- an expression whose value, a new list of two ints, is a bag from then on -/
def tBag (t : TE) : TE := fun σ H Q => t σ H fun v H' => ∃ b x y, v = .ref b ∧ H' b = some (.lst [.int x, .int y]) ∧ 0 ≤ x ∧ 0 ≤ y ∧ y < 2147483648 ∧ Q v (upd H' b (BagO b))
theorem pe_bag {e : Expr} {t : TE} (h : PE X e t) : PE X e (tBag t) := by
  refine ⟨fun pins s σ H Q I q => ?_⟩
  refine thn (h.run pins s σ H _ I q) fun v s1 ⟨x, H1, I1, r1, b, x0, y0, e1, hb, h0, h1, h2, q1⟩ => ?_
  exact ⟨x, _, inv_bag I1 hb h0 h1 h2, r1, q1⟩
end
end K59
/-! R02 -/
set_option Elab.async false
set_option linter.all false
set_option maxRecDepth 100000
set_option maxHeartbeats 4000000
namespace K59
open PySem PySem.Spec PyProof.Rows L2
/-! ### one rule or another -/
section
variable {X : Cx}
def iOr (a b : TI) : TI := fun σ H R => a σ H R ∨ b σ H R
theorem pi_or {tg l : Expr} {a b : TI} (h1 : PI X tg l a) (h2 : PI X tg l b) : PI X tg l (iOr a b) :=
  ⟨fun pins s σ H R I h => h.elim (h1.run pins s σ H R I) (h2.run pins s σ H R I)⟩
def rOr (a b : V → Option Int → Option Int → Hp → VK → Prop) : V → Option Int → Option Int → Hp → VK → Prop := fun x lo hi H Q => a x lo hi H Q ∨ b x lo hi H Q
theorem sl_or {a b : V → Option Int → Option Int → Hp → VK → Prop} (h1 : SlR X a) (h2 : SlR X b) : SlR X (rOr a b) := by
  intro pins s σ H x v vl vu lo hi sl Q I rx hs pl pu h
  exact h.elim (h1 pins s σ H x v vl vu lo hi sl Q I rx hs pl pu) (h2 pins s σ H x v vl vu lo hi sl Q I rx hs pl pu)
def cOr (a b : List V → Hp → VK → Prop) : List V → Hp → VK → Prop := fun vs H Q => a vs H Q ∨ b vs H Q
theorem cr_or {f : Value} {a b : List V → Hp → VK → Prop} (h1 : CallR X f a) (h2 : CallR X f b) : CallR X f (cOr a b) := by
  intro pins s σ H vs us Q I r h
  exact h.elim (h1 pins s σ H vs us Q I r) (h2 pins s σ H vs us Q I r)
theorem pi_listup (K : PySem.W.Frag) {tg l : Expr} {tl : TE} (hl : PE X l tl) (h : X.K = K := by rfl) : PI X tg l (iOr (iList K tl) (iTup K tl)) := pi_or (pi_listK K hl h) (pi_tupK K hl h)
theorem sl_tupK (K : PySem.W.Frag) (h : X.K = K := by rfl) : SlR X (rSlA K) := h ▸ sl_tupA
end
/-! ### enumerate(tuple) -/
section
def Itet (K : PySem.W.Frag) (a : Addr) : It :=
  ⟨fun i H => ∃ (xs : List V) (x : V), SqT K H a xs ∧ xs[i]? = some x, fun i H v H' => ∃ T x, v = .ref T ∧ H T = none ∧ H' = upd H T (.tup [.int (i : Nat), x]) ∧ ∀ xs, SqT K H a xs → xs[i]? = some x, fun i H => ∃ xs : List V, SqT K H a xs ∧ xs.length ≤ i⟩
theorem turn_enumT {P : Program} {w : World} {K : PySem.W.Frag} {elts : List Expr} {kk : Nat} {tpos : Pos} (a e it : Addr) :
    Turn P w K (.Tuple elts kk tpos) (Itet K a) [e, it] e (fun i h => (∃ old, IsEnum h e it ((i : Nat) : Int) old) ∧ h.IsTupleIter it a i ∧ e ≠ it ∧ a ≠ it ∧ a ≠ e) where
  mem := by simp
  obj := fun i h st b hb => by
    obtain ⟨⟨old, he⟩, ⟨o, ho, hc, hd⟩, _⟩ := st
    have e' : b = e ∨ b = it := by simpa using hb
    rcases e' with z | z
    · rw [z]; exact ⟨_, he, fun v q => nomatch q⟩
    · rw [z]; exact ⟨o, ho, fun v q => by rw [hd] at q; cases q⟩
  keep := fun i h h' st k => let ⟨⟨old, he⟩, hi, hne⟩ := st; ⟨⟨old, k e (by simp) _ he⟩, hi.at fun o q => k it (by simp) o q, hne⟩
  item := by
    intro X hP hw hK hc i pins s σ H E I hf st hg
    subst hP hw hK
    obtain ⟨⟨old, he⟩, hit, hne, hai, hae⟩ := st
    obtain ⟨xs, x, hq, hx⟩ := hg
    obtain ⟨its, rv, p, hz⟩ := I.tuple hq
    obtain ⟨u, hu, ru⟩ := rv.get hx
    have hel : e < s.heap.objs.size := Heap.lt_size he
    have hil : it < s.heap.objs.size := by obtain ⟨_, q, _⟩ := hit; exact Heap.lt_size q
    have hlt : i < its.toArray.size := by
      rw [List.size_toArray]
      exact (List.getElem?_eq_some_iff.mp hu).1
    have D := Draws.tuple (prog := X.prog) (w := X.w) (A := X.A.in1) (I.ok.hd hc) it a hai its.toArray
    refine wpAny_pyNext_enum_itemD D he (s := s) ⟨hit, p⟩ hlt hne (by simp [hne, Ne.symm hae]) fun y h' tk hy ho hst' hT hsz hk => ?_
    obtain rfl : u = y := by
      have e1 : its[i]? = some y := by simpa using hy
      rw [hu] at e1
      exact Option.some.inj e1
    obtain ⟨hit', _⟩ := hst'
    refine ⟨_, rfl, wpAny_letOwnedTupleGo_enum (s := { s with heap := h', toks := tk + 1 }) ho fun h'' he' sb => ?_⟩
    have hT2 : h''.get? s.heap.objs.size = some { cls := .type "tuple", data := .seq #[.int i tk, u] } := (sb.2 _ (Nat.ne_of_gt hel)).trans hT
    have new : ObjOk X.prog X.w (upd H s.heap.objs.size (.tup [.int (i : Nat), x])) h'' s.heap.objs.size (.tup [.int (i : Nat), x]) :=
      ⟨by show 2 ≤ sizeLine; decide, [.int i tk, u], .cons ⟨_, rfl⟩ (.cons ru .nil), ⟨_, hT2, rfl, _, rfl⟩⟩
    have I1 : Inv X pins σ (upd H s.heap.objs.size (.tup [.int (i : Nat), x])) { s with heap := h'', toks := tk + 1 } :=
      I.turnedNew (ch := [e, it]) (fun b ob hb q => (sb.2 b (fun z => hb (by simp [z]))).trans (hk b ob (fun z => hb (by simp [z])) (fun z => hb (by simp [z])) q)) hf (Nat.le_refl _) new
    refine ⟨.ref s.heap.objs.size, _, I1, rfl, ⟨_, x, rfl, I.hok.fresh (Nat.le_refl _), rfl, fun ys hy => by rw [I.tuple_inj hy hq]; exact hx⟩, ⟨⟨u, ?_⟩, hit'.at fun o q => (sb.2 it (Ne.symm hne)).trans q, hne, hai, hae⟩, fun b hb => ?_⟩
    · have e1 : ((i + 1 : Nat) : Int) = (i : Int) + 1 := by omega
      rw [e1]; exact he'
    · have hb' : b < s.heap.objs.size := by
        have e' : b = e ∨ b = it := by simpa using hb
        rcases e' with z | z
        · rw [z]; exact hel
        · rw [z]; exact hil
      rw [upd_ne (Nat.ne_of_lt hb')]
      exact (hf b hb).1
  done := by
    intro X hP hw hK hc i pins s σ H E I hf st hg
    subst hP hw hK
    obtain ⟨⟨old, he⟩, hit, hne, hai, hae⟩ := st
    obtain ⟨xs, hq, hx⟩ := hg
    obtain ⟨its, rv, p, hz⟩ := I.tuple hq
    obtain ⟨f0, f1, f2, f3, f4, f5⟩ := hf it (by simp)
    have hl := rv.length
    have hT : s.TypeIs (.ref e) "enumerate" := ⟨_, he, rfl⟩
    unfold pyNext
    refine wpAny_bind (wpAny_attempt (wpAny_callSpecial?_slot (name := Str.ofString "__next__") hT F.slot_enumerate_next
      (wpAny_call_entry F.slot_enumerate_next hT F.entry_enumerate_next ?_ (F.args_enumerate_next_1 _))))
    show wpAny _ _ (field (.ref e) 2 >>= _) _ _ _
    refine wpAny_bind (wpAny_field he rfl (x := .ref it) rfl ?_)
    refine wpAny_bind (wpAny_nextOf_tuple_end (I.ok.hd hc) hit p (by simp; omega) fun h' x he' hx' => ?_)
    obtain ⟨o, ho, hc⟩ := hx'
    refine wpAny_bind (wpAny_isInstance (T := "StopIteration") (b := true) ⟨o, ho, hc⟩ isSubtype_stop ?_)
    exact wpAny_pure ⟨rfl, I.turned (t' := s.toks) (fun b o hb q => he' b o hb q) f0 f1 f3 f4 f5⟩
  self := fun A i s Q E st h => let ⟨⟨_, he⟩, _⟩ := st; wpAny_pyIter_enum he h
theorem call_enumerate_tup {prog : Program} {w : World} {A : Around} {E : Value → Shared → Prop} {s : Shared} {l : Addr} {items : Array Value} {Q : Value → Shared → Prop} (hL : s.heap.IsTuple l items)
    (h : ∀ h', IsEnum h' (s.heap.objs.size + 1) s.heap.objs.size 0 .none → h'.IsTupleIter s.heap.objs.size l 0 → h'.objs.size = s.heap.objs.size + 2 →
      (∀ b o, s.heap.get? b = some o → h'.get? b = some o) → Q (.ref (s.heap.objs.size + 1)) { s with heap := h' }) :
    wpAny (model prog w) A (call (.type "enumerate") [.ref l]) Q E s := by
  refine callType_new F.called_enumerate (by decide) (F.typeCall_enumerate_1 _) (F.newCall_enumerate_1 _) (fun obj => F.args_object_init_2 obj _) F.entry_enumerate_new
    (S := fun _ R s => s.heap.IsTuple l items ∧
      R (.ok (.ret (.ref (s.heap.push { cls := .type "tuple_iterator", data := .fields #[.ref l, .int 0 0] }).objs.size)))
        { s with heap := (s.heap.push { cls := .type "tuple_iterator", data := .fields #[.ref l, .int 0 0] }).push { cls := .type "enumerate", data := .fields #[.none, .bool false, .ref s.heap.objs.size, rawInt 0, .none, .none] } })
    (.of_wp fun prog w A R s h => ?_) ⟨hL, ?_⟩
  · obtain ⟨hp, g, d, tk, os⟩ := s
    obtain ⟨hl, h⟩ := h
    have hsub := sub_enumerate
    have hTL : Heap.IsTuple (Shared.heap ⟨hp, g, d, tk, os⟩) l items := hl
    wp_walk
    refine wpAny_stack_any fun st => wpAny_pure ?_
    split
    · rename_i c _ _ _ _ _
      cases (c == Value.type "enumerate")
      · wp_walk using wpAny_pyIter_tuple hTL
        exact ⟨_, rfl, h⟩
      · wp_walk using wpAny_pyIter_tuple hTL
        exact ⟨_, rfl, h⟩
    · wp_walk using wpAny_pyIter_tuple hTL
      exact ⟨_, rfl, h⟩
  · have hz : (s.heap.push { cls := .type "tuple_iterator", data := .fields #[.ref l, .int 0 0] }).objs.size = s.heap.objs.size + 1 := Heap.size_push ..
    show _ ∧ _
    rw [hz]
    have he : IsEnum ((s.heap.push { cls := .type "tuple_iterator", data := .fields #[.ref l, .int 0 0] }).push
        { cls := .type "enumerate", data := .fields #[.none, .bool false, .ref s.heap.objs.size, rawInt 0, .none, .none] }) (s.heap.objs.size + 1) s.heap.objs.size 0 .none := by
      have := Heap.get?_push_size (s.heap.push { cls := .type "tuple_iterator", data := .fields #[.ref l, .int 0 0] })
        (o := { cls := .type "enumerate", data := .fields #[.none, .bool false, .ref s.heap.objs.size, rawInt 0, .none, .none] }) rfl
      rw [hz] at this; exact this
    refine ⟨⟨_, he, rfl⟩, h _ he ⟨_, Heap.get?_push_of_some _ (Heap.get?_push_size _ rfl), rfl, rfl⟩ (by rw [Heap.size_push, hz]) fun b o x => Heap.get?_push_of_some _ (Heap.get?_push_of_some _ x)⟩
def iEnumT (K : PySem.W.Frag) (ta : TA) : TI := fun σ H R => ta σ H fun vs H1 => ∃ a xs, vs = [.ref a] ∧ SqT K H1 a xs ∧ R (Itet K a) H1
theorem pi_enumT {X : Cx} (K : PySem.W.Frag) {e : Expr} {ta : TA} {p pos tpos : Pos} {elts : List Expr} {kk : Nat} (hg : Gl X "enumerate") (hm : X.mg "enumerate" = none) (ha : PA X [e] ta) (hs : starEach [e] X.env = [(false, eval e X.env)] := by rfl) (hK : X.K = K := by rfl) :
    PI X (.Tuple elts kk tpos) (.Call (.Name "enumerate" p) [e] [] pos) (iEnumT K ta) := by
  subst hK
  refine ⟨fun pins s σ H R I h => ?_⟩
  refine Call_ (ld_blt I hg hm boot_enumerate (PyProof.Rows.callWith_type1 (thn (ha.run pos pins s σ H _ I h) fun us s1 ⟨vs, H1, I1, r1, q1⟩ => ?_) hs rfl))
  obtain ⟨a, xs, ex, hq, q⟩ := q1
  subst ex
  cases r1 with
  | cons r rr =>
    cases rr
    cases r
    obtain ⟨its, rv, p', hz⟩ := I1.tuple hq
    have hal : a < s1.heap.objs.size := by obtain ⟨_, z, _⟩ := p'; exact Heap.lt_size z
    refine call_enumerate_tup p' fun h' he hit hsz hk => wpAny_pyIter_enum he ?_
    have I2 : Inv X pins σ H1 { s1 with heap := h' } := I1.kept (t' := s1.toks) hk
    refine ⟨s1.heap.objs.size + 1, [s1.heap.objs.size + 1, s1.heap.objs.size], _, _, H1, rfl, I2, turn_enumT a (s1.heap.objs.size + 1) s1.heap.objs.size, ⟨⟨.none, he⟩, hit, Nat.succ_ne_self _, Nat.ne_of_lt hal, Nat.ne_of_lt (Nat.lt_succ_of_lt hal)⟩, fun b hb => ?_, q⟩
    have e' : b = s1.heap.objs.size + 1 ∨ b = s1.heap.objs.size := by simpa using hb
    have hle : s1.heap.objs.size ≤ b := by
      rcases e' with z | z
      · rw [z]; exact Nat.le_add_right _ _
      · rw [z]; exact Nat.le_refl _
    exact I1.fpOk hle (I1.hok.fresh hle)
end
/-- for i, x in enumerate(t), t a tuple -/
theorem for_enumT {K : PySem.W.Frag} {a : Addr} {xs : List V} {g : TG} {tb : TS} {D : Ends} {σ : L2.St} {H : Hp} (Pv : Nat → L2.St → Hp → Prop) (h0 : Pv 0 σ H) (hl : ∀ i σ H, i ≤ xs.length → Pv i σ H → SqT K H a xs)
    (hs : ∀ i x σ H T, xs[i]? = some x → Pv i σ H → H T = none → g (.ref T) σ (upd H T (.tup [.int (i : Nat), x])) fun σ2 H2 => tb { D with nx := Pv (i + 1), ct := Pv (i + 1), bk := D.nx } σ2 H2) (hd : ∀ σ H, Pv xs.length σ H → D.nx σ H) :
    ∃ W : Nat → Nat → L2.St → Hp → Prop, (∃ m, W 0 m σ H) ∧ ∀ i m σ H, W i m σ H →
      ((Itet K a).stop i H ∧ D.nx σ H) ∨ ((Itet K a).go i H ∧ ∃ N : L2.St → Hp → Prop, (∀ σ' H', N σ' H' → ∃ m', m' < m ∧ W (i + 1) m' σ' H') ∧ ∀ x H', (Itet K a).yld i H x H' → g x σ H' fun σ2 H2 => tb { D with nx := N, ct := N, bk := D.nx } σ2 H2) := by
  refine for_it (n := xs.length) Pv h0 (fun i σ H hi p => ⟨xs, xs[i], hl i σ H (Nat.le_of_lt hi) p, List.getElem?_eq_getElem hi⟩) (fun σ H p => ⟨xs, hl _ σ H (Nat.le_refl _) p, Nat.le_refl _⟩) (fun i x σ H H' hi p hy => ?_) hd
  obtain ⟨T, y, rfl, hT, rfl, hy⟩ := hy
  exact hs i y σ H T (hy xs (hl i σ H (Nat.le_of_lt hi) p)) p hT
/-- for x in t, t a tuple; for x in xs, xs a list -/
theorem for_tup {K : PySem.W.Frag} {a : Addr} {xs : List V} {g : TG} {tb : TS} {D : Ends} {σ : L2.St} {H : Hp} (Pv : Nat → L2.St → Hp → Prop) (h0 : Pv 0 σ H) (hl : ∀ i σ H, i ≤ xs.length → Pv i σ H → SqT K H a xs)
    (hs : ∀ i x σ H, xs[i]? = some x → Pv i σ H → g x σ H fun σ2 H2 => tb { D with nx := Pv (i + 1), ct := Pv (i + 1), bk := D.nx } σ2 H2) (hd : ∀ σ H, Pv xs.length σ H → D.nx σ H) :
    ∃ W : Nat → Nat → L2.St → Hp → Prop, (∃ m, W 0 m σ H) ∧ ∀ i m σ H, W i m σ H →
      ((Itt K a).stop i H ∧ D.nx σ H) ∨ ((Itt K a).go i H ∧ ∃ N : L2.St → Hp → Prop, (∀ σ' H', N σ' H' → ∃ m', m' < m ∧ W (i + 1) m' σ' H') ∧ ∀ x H', (Itt K a).yld i H x H' → g x σ H' fun σ2 H2 => tb { D with nx := N, ct := N, bk := D.nx } σ2 H2) := by
  refine for_it (n := xs.length) Pv h0 (fun i σ H hi p => ⟨xs, xs[i], hl i σ H (Nat.le_of_lt hi) p, List.getElem?_eq_getElem hi⟩) (fun σ H p => ⟨xs, hl _ σ H (Nat.le_refl _) p, Nat.le_refl _⟩) (fun i x σ H H' hi p hy => ?_) hd
  obtain ⟨rfl, hy⟩ := hy
  exact hs i x σ _ (hy xs (hl i σ _ (Nat.le_of_lt hi) p)) p
theorem for_lst {K : PySem.W.Frag} {a : Addr} {xs : List V} {g : TG} {tb : TS} {D : Ends} {σ : L2.St} {H : Hp} (Pv : Nat → L2.St → Hp → Prop) (h0 : Pv 0 σ H) (hl : ∀ i σ H, i ≤ xs.length → Pv i σ H → SqL K H a xs)
    (hs : ∀ i x σ H, xs[i]? = some x → Pv i σ H → g x σ H fun σ2 H2 => tb { D with nx := Pv (i + 1), ct := Pv (i + 1), bk := D.nx } σ2 H2) (hd : ∀ σ H, Pv xs.length σ H → D.nx σ H) :
    ∃ W : Nat → Nat → L2.St → Hp → Prop, (∃ m, W 0 m σ H) ∧ ∀ i m σ H, W i m σ H →
      ((Itl K a).stop i H ∧ D.nx σ H) ∨ ((Itl K a).go i H ∧ ∃ N : L2.St → Hp → Prop, (∀ σ' H', N σ' H' → ∃ m', m' < m ∧ W (i + 1) m' σ' H') ∧ ∀ x H', (Itl K a).yld i H x H' → g x σ H' fun σ2 H2 => tb { D with nx := N, ct := N, bk := D.nx } σ2 H2) := by
  refine for_it (n := xs.length) Pv h0 (fun i σ H hi p => ⟨xs, xs[i], hl i σ H (Nat.le_of_lt hi) p, List.getElem?_eq_getElem hi⟩) (fun σ H p => ⟨xs, hl _ σ H (Nat.le_refl _) p, Nat.le_refl _⟩) (fun i x σ H H' hi p hy => ?_) hd
  obtain ⟨rfl, hy⟩ := hy
  exact hs i x σ _ (hy xs (hl i σ _ (Nat.le_of_lt hi) p)) p
theorem lc_tup {K : PySem.W.Frag} {a : Addr} {xs : List V} {g : TG} {tt : TT} {te : TE} {vs : List Nat} {σ : L2.St} {H1 : Hp} {D : Addr} {Qd : Hp → Prop} (Pv : Nat → Hp → Prop) (h0 : Pv 0 (upd H1 D (.lst []))) (hl : ∀ i H, i ≤ xs.length → Pv i H → SqT K H a xs)
    (hs : ∀ i x H, xs[i]? = some x → Pv i H → g x (wipe σ vs) H fun σ2 H2 => wipe σ2 vs = wipe σ vs ∧ tt σ2 H2 fun b H3 => if b = true then te σ2 H3 fun y H4 => ∃ acc, H4 D = some (.lst acc) ∧ acc.length < sizeLine ∧ Pv (i + 1) (upd H4 D (.lst (acc ++ [y]))) else Pv (i + 1) H3)
    (hd : ∀ H, Pv xs.length H → Qd H) :
    ∃ W : Nat → Nat → Hp → Prop, (∃ m, W 0 m (upd H1 D (.lst []))) ∧ ∀ i m H, W i m H → ((Itt K a).stop i H ∧ Qd H) ∨ ((Itt K a).go i H ∧ ∃ Nx : Hp → Prop, (∀ H', Nx H' → ∃ m', m' < m ∧ W (i + 1) m' H') ∧
      ∀ y H', (Itt K a).yld i H y H' → g y (wipe σ vs) H' fun σ2 H2 => wipe σ2 vs = wipe σ vs ∧ tt σ2 H2 fun b H3 => if b = true then te σ2 H3 fun y H4 => ∃ acc, H4 D = some (.lst acc) ∧ acc.length < sizeLine ∧ Nx (upd H4 D (.lst (acc ++ [y]))) else Nx H3) := by
  refine lc_it (n := xs.length) Pv h0 (fun i H hi p => ⟨xs, xs[i], hl i H (Nat.le_of_lt hi) p, List.getElem?_eq_getElem hi⟩) (fun H p => ⟨xs, hl _ H (Nat.le_refl _) p, Nat.le_refl _⟩) (fun i x H H' hi p hy => ?_) hd
  obtain ⟨rfl, hy⟩ := hy
  exact hs i x _ (hy xs (hl i _ (Nat.le_of_lt hi) p)) p
/-- walks over a list or a tuple -/
def SqA (K : PySem.W.Frag) (H : Hp) (a : Addr) (xs : List V) : Prop := SqL K H a xs ∨ SqT K H a xs
theorem sqa_same {K : PySem.W.Frag} {H H' : Hp} {a : Addr} {xs : List V} (e : Same H H') (h : SqA K H a xs) : SqA K H' a xs := h.elim (fun h => .inl (e.seq h)) fun h => .inr (same_tup e h)
end K59
/-! R03 -/
set_option Elab.async false
set_option linter.all false
set_option maxRecDepth 100000
set_option maxHeartbeats 4000000
namespace K59
open PySem PySem.Spec PySem.W PyProof.Rows PyProof.Rows.G L2
section
variable {prog : Program} {w : World} {A : Around} {E : Value → Shared → Prop} {s : Shared}
theorem collect_tup {l : Addr} {vs : List Value} {Q : List Value → Shared → Prop} (hl : s.heap.IsTuple l vs.toArray)
    (h : Q vs { s with heap := (s.heap.push (seqObj "list" #[] 0)).update s.heap.objs.size (Obj.mapSeq (· ++ vs.toArray)) }) (hsz : vs.length ≤ sizeLine) :
    wpAny (model prog w) A (collect (.ref l)) Q E s := by
  obtain ⟨o, ho, hc, n, hd⟩ := id hl
  unfold collect
  refine wpAny_bind (wpAny_runValue (codeAny_builtin entry_proto_collect' ?_))
  show wpAny _ _ (do again (.builtin "list.__iadd__" ⟨[← newList [], .ref l], []⟩)) _ _ s
  refine wpAny_bind (wpAny_newList (wpAny_pure ⟨Code.quiet_builtin _ (by decide +kernel), codeAny_builtin entry_list_iadd' ?_⟩))
  show wpAny _ _ (Builtin.List.listExtendWith (.ref s.heap.objs.size) (.ref l) (.ref s.heap.objs.size)) _ _ { s with heap := s.heap.push (seqObj "list" #[] 0) }
  unfold Builtin.List.listExtendWith
  have ho' : (s.heap.push (seqObj "list" #[] 0)).get? l = some o := Heap.get?_push_of_some _ ho
  refine wpAny_bind (wpAny_typeOf (T := "tuple") ⟨o, ho', hc⟩ ?_)
  have ht : (Value.type "tuple" == Value.type "tuple") = true := by rfl
  rw [if_pos (by rw [ht]; simp)]
  refine wpAny_bind (listItems_at ho' hd ?_)
  refine wpAny_bind (listItems_at (xs := #[]) (n := 0) (Heap.get?_push_size _ rfl) rfl ?_)
  rw [if_neg (by simp)]
  refine wpAny_bind (listUpdate_at (xs := #[]) (n := 0) (Heap.get?_push_size _ rfl) rfl ?_ (Nat.zero_le _) (by show (#[] ++ vs.toArray).size ≤ sizeLine + 1; simp only [Array.size_append, List.size_toArray, List.length_nil]; omega))
  refine wpAny_pure ?_
  show wpAny (model prog w) A (do
      let o ← load s.heap.objs.size
      match o.data with
      | .seq xs _ => pure xs.toList
      | _ => unsupported "internal:collect") Q E { s with heap := (s.heap.push (seqObj "list" #[] 0)).update s.heap.objs.size (Obj.mapSeq (· ++ vs.toArray)) }
  refine wpAny_bind (wpAny_load (get?_update_seq (Heap.get?_push_size _ rfl) _) ?_)
  show wpAny _ _ (pure ((#[] : Array Value) ++ vs.toArray).toList) Q E _
  rw [show ((#[] : Array Value) ++ vs.toArray).toList = vs by simp]
  exact wpAny_pure h
theorem sortedGT {κ : KeyKind} {kd : SortKind} {l : Addr} {vs : List Value} {Q : Value → Shared → Prop} (hl : s.heap.IsTuple l vs.toArray) (h0 : KeysOf κ (pairsOf vs)) (hO : ∀ s₂ : Shared, KeepsTups s.heap s₂.heap → LtAt prog w s₂ κ kd)
    (hkk : 2 ≤ vs.length → ∀ (A : Around) (E : Value → Shared → Prop) (s₂ : Shared) {Q : SortKind → Shared → Prop}, KeepsTups s.heap s₂.heap → Q kd s₂ → wpAny (model prog w) A (keyKind' vs.toArray) Q E s₂) (hL : vs.length ≤ sizeLine)
    (h : ∀ st' : SortSt, (arrOf st').Perm (pairsOf vs) → Q (.ref (s.heap.objs.size + 1)) { s with heap := sortedAll s.heap vs ((arrOf st').map (·.2)) }) :
    wpAny (model prog w) A (call (.builtin "sorted") [.ref l]) Q E s := by
  refine Calls.call_function_entry kind_sorted plain_sorted entry_sorted (args_sorted1 _) ?_
  unfold Builtin.«sorted»
  refine wpAny_bind (m := checkCount "sorted" 1 1 _) (wpAny_pure ?_)
  refine wpAny_bind (collect_tup hl ?_ hL)
  refine wpAny_bind (wpAny_newList ?_)
  have hsz : ((s.heap.push (seqObj "list" #[] 0)).update s.heap.objs.size (Obj.mapSeq (· ++ vs.toArray))).objs.size = s.heap.objs.size + 1 := by
    rw [Heap.size_update, size_push']
  have hoL : (((s.heap.push (seqObj "list" #[] 0)).update s.heap.objs.size (Obj.mapSeq (· ++ vs.toArray))).push (seqObj "list" vs.toArray 0)).get? (s.heap.objs.size + 1) = some (seqObj "list" vs.toArray 0) := by
    rw [← hsz]; exact Heap.get?_push_size _ rfl
  show wpAny _ _ _ _ _ { s with heap := ((s.heap.push (seqObj "list" #[] 0)).update s.heap.objs.size (Obj.mapSeq (· ++ vs.toArray))).push (seqObj "list" vs.toArray 0) }
  have hnew : (s.heap.push (seqObj "list" #[] 0)).get? s.heap.objs.size = some (seqObj "list" #[] 0) := Heap.get?_push_size _ rfl
  have k0 : KeepsTups s.heap (((s.heap.push (seqObj "list" #[] 0)).update s.heap.objs.size (Obj.mapSeq (· ++ vs.toArray))).push (seqObj "list" vs.toArray 0)) :=
    ((KeepsTups.push _ _).trans (KeepsTups.update _ hnew not_tuple_list)).trans (KeepsTups.push _ _)
  have k6 := k0.trans (keeps_sort6 (vs := vs) hoL)
  rw [hsz]
  refine wpAny_bind (wpAny_holding (wpAny_call_entry slot_list_sort ⟨_, hoL, rfl⟩ entry_list_sort (list_sort_treeG (κ := κ) (kd := kd) hoL h0 ?ordG ?keyG hL fun st' a1 a2 a3 => ⟨_, rfl, ?retG⟩) (args_list_sort _)))
  case ordG => exact hO _ k6
  case keyG =>
    intro h2 R hq
    exact hkk h2 _ _ _ k6 hq
  case retG => exact wpAny_pure ⟨_, rfl, h st' a1⟩
theorem arr_perm {st : SortSt} {vs : List Value} (h : (arrOf st).Perm (pairsOf vs)) : ((arrOf st).map (·.2)).toList.Perm vs := by
  have h1 : (arrOf st).toList.Perm (pairsOf vs).toList := Array.perm_iff_toList_perm.mp h
  rw [pairsOf_toList] at h1
  rw [Array.toList_map]
  have z := h1.map Prod.snd
  rw [List.map_snd_zip (Nat.le_refl _)] at z
  exact z
end
/-- a tuple of two texts -/
def IsP (K : PySem.W.Frag) (H : Hp) (v : V) : Prop := ∃ t x y, v = V.ref t ∧ SqT K H t [.str x, .str y]
/-- sorted(xs), xs a list or a tuple of pairs of texts: a new list of the same, in some order -/
def rSortPS (K : PySem.W.Frag) : List V → Hp → VK → Prop := fun vs H Q => ∃ (a : Addr) (xs : List V), vs = [V.ref a] ∧ (SqL K H a xs ∨ SqT K H a xs) ∧ (∀ x ∈ xs, IsP K H x) ∧
  ∀ ys p, ys.Perm xs → H p = none → Q (.ref p) (upd H p (.lst ys))
section
variable {X : Cx}
theorem tupsP {pins : List (Addr × Obj)} {σ : L2.St} {H : Hp} {s : Shared} (I : Inv X pins σ H s) : ∀ {xs : List V} {its : List Value}, Vals xs its → (∀ x ∈ xs, IsP X.K H x) →
    (∃ fs, TupsOf s.heap (fun _ => true) its fs) ∧ ∀ v, v ∈ its → ∃ l, tupKeyC s.heap (fun _ => true) v = some l
  | _, _, .nil, _ => ⟨⟨[], .nil⟩, fun v h => (nomatch h)⟩
  | x :: xs, u :: its, .cons r t, h => by
    obtain ⟨⟨fs, hf⟩, h2⟩ := tupsP I t fun y hy => h y (List.mem_cons_of_mem _ hy)
    obtain ⟨a, x0, y0, rfl, hs⟩ := h x List.mem_cons_self
    obtain rfl : u = Value.ref a := r
    obtain ⟨is, rv, p, _⟩ := I.tuple hs
    obtain ⟨u1, u2, rfl, ⟨t1, e1⟩, ⟨t2, e2⟩⟩ := vals2 rv
    subst e1 e2
    obtain ⟨o, ho, hc, n, hd⟩ := id p
    refine ⟨⟨_, .cons ⟨a, o, _, n, rfl, ho, hc, hd, rfl, fun q => (nomatch q), fun _ => ⟨_, _, rfl⟩⟩ hf⟩, fun v hv => ?_⟩
    rcases List.mem_cons.mp hv with rfl | hv
    · refine ⟨[Sum.inr x0.cps.toList, Sum.inr y0.cps.toList], ?_⟩
      unfold tupKeyC
      have ht : isTupObj s.heap (Value.ref a) = true := by
        simp only [isTupObj, ho, hc]
        decide
      rw [if_pos ht]
      simp only [tupKey, ho, hd]
      rfl
    · exact h2 v hv
theorem cr_sortPS (K : PySem.W.Frag) (hK : X.K = K := by rfl) : CallR X (.builtin "sorted") (rSortPS K) := by
  subst hK
  intro pins s σ H vs us Q I r h
  obtain ⟨a, xs, rfl, hs, hx, q⟩ := h
  rw [Vals.ref1 r]
  have main : ∀ its, Vals xs its → xs.length ≤ sizeLine → ((s.heap.IsList a its.toArray) ∨ (s.heap.IsTuple a its.toArray)) → wpAny (model X.prog X.w) X.A (call (.builtin "sorted") [.ref a]) (EP X pins σ Q) X.xe s := fun its rv hz hor => by
    obtain ⟨e1, e2⟩ := refs_back rv fun x m => by
      obtain ⟨t, _, _, e, _⟩ := hx x m
      exact ⟨t, e⟩
    obtain ⟨⟨fs, hf⟩, hk⟩ := tupsP I rv hx
    have hL : its.length ≤ sizeLine := by rw [← rv.length]; exact hz
    have fin : ∀ st' : SortSt, (arrOf st').Perm (pairsOf its) → EP X pins σ Q (.ref (s.heap.objs.size + 1)) { s with heap := sortedAll s.heap its ((arrOf st').map (·.2)) } := fun st' h1 => by
      have h2 := arr_perm h1
      obtain ⟨ep, he'⟩ := PyProof.Rows.sortedAll_at s.heap its ((arrOf st').map (·.2))
      have h3 : ∀ u ∈ ((arrOf st').map (·.2)).toList, ∃ a, u = Value.ref a := fun u hu => e2 u (h2.mem_iff.mp hu)
      have hp : (((arrOf st').map (·.2)).toList.map backV).Perm xs := by
        rw [e1]
        exact h2.map backV
      have hlen : (((arrOf st').map (·.2)).toList.map backV).length ≤ sizeLine := by
        rw [hp.length_eq]
        exact hz
      exact ⟨.ref _, upd H (s.heap.objs.size + 1) (.lst (((arrOf st').map (·.2)).toList.map backV)), I.laid (t' := s.toks) (fun _ _ => PyProof.Rows.sortedAll_old) (Nat.le_succ _) ⟨hlen, ((arrOf st').map (·.2)).toList, ep, vals_back h3, he'⟩, rfl, q _ _ hp (I.hok.fresh (Nat.le_succ _))⟩
    rcases hor with hl | hl
    · exact G.sorted_tups hl hf hk hL fun st' h1 _ _ => fin st' h1
    · exact sortedGT hl (tupKeys hk) (fun s₂ k => tupC_ltAt (s := s₂) true k) (fun h2 _ _ s₂ _ k hq => tup_kind (s := s₂) (by rw [TupsOf.length hf]; omega) (TupsOf.keep k hf) hq) hL fun st' h1 => fin st' h1
  rcases hs with hs | hs
  · obtain ⟨its, rv, hl, hz⟩ := I.list hs
    exact main its rv hz (.inl hl.isList)
  · obtain ⟨its, rv, hl, hz⟩ := I.tuple hs
    exact main its rv hz (.inr hl)
end
end K59
/-! R04 -/
set_option Elab.async false
set_option linter.all false
set_option maxRecDepth 100000
set_option maxHeartbeats 2000000
/-! defs that are given positional values and keywords, with star parameters; super().__init__ as the last statement -/
namespace K59
open PySem PySem.Spec PySem.W PyProof.Rows L2 NdefX
/-! ### a promise over positional values and keywords -/
abbrev SpA := List V → List V → Hp → VK → XK → Prop
def FnA (P : Program) (w : World) (K : Frag) (mg : Str → Option Value) (base : Heap) (k : Nat) (f : Addr) (ks : List Str) (sp : SpA) : Prop :=
  ∀ (A : Around) (outer : List Env) (s : Shared) (H : Hp) (us ws : List Value) (vs zs : List V) (Q : VK) (E : XK), Room k A → Env0 P w K mg base A outer s H → Vals vs us → Vals zs ws → zs.length = ks.length → sp vs zs H Q E →
    codeAny (model P w) A (.call (.ref f) ⟨us, ks.zip ws⟩) (CR CX0 outer P w H s Q E) s
section
variable {P : Program} {w : World} {K : Frag} {mg : Str → Option Value} {base : Heap} {j k : Nat} {f : Addr} {ks : List Str} {sp sp' : SpA}
theorem FnA.mono (F : FnA P w K mg base j f ks sp) (h : j ≤ k) : FnA P w K mg base k f ks sp := fun A outer s H us ws vs zs Q E hr => F A outer s H us ws vs zs Q E (hr.mono h)
theorem FnA.imp (F : FnA P w K mg base k f ks sp) (h : ∀ vs zs H Q E, sp' vs zs H Q E → sp vs zs H Q E) : FnA P w K mg base k f ks sp' := fun A outer s H us ws vs zs Q E hr e0 r rz l hs => F A outer s H us ws vs zs Q E hr e0 r rz l (h _ _ _ _ _ hs)
/-- no keywords: a plain promise -/
theorem FnA.fnr (F : FnA P w K mg base k f [] sp) : FnR P w K mg base CX0 k f (fun vs H Q E => sp vs [] H Q E) := fun A outer s H us vs Q E hr e0 r h => F A outer s H us [] vs [] Q E hr e0 r .nil rfl h
end
/-! ### running it -/
section
variable {X : Cx} {k : Nat} {f C g : Addr} {ks : List Str} {sp : SpA} {pins : List (Addr × Obj)} {σ : L2.St} {H : Hp} {s : Shared} {Q : VK} {us ws : List Value} {vs zs : List V}
theorem run_fnA (F : FnA X.prog X.w X.K X.mg X.base k f ks sp) (hr : Room k X.A) (I : Inv X pins σ H s) (r : Vals vs us) (rz : Vals zs ws) (l : zs.length = ks.length) (h : sp vs zs H Q E0) :
    codeAny (model X.prog X.w) X.A (.call (.ref f) ⟨us, ks.zip ws⟩) (fun r s' => match r with | .ok (.ret v) => EP X pins σ Q v s' | .ok _ => False | .error e => X.xe e s') s := by
  refine codeAny_mono (F X.A X.stack s H us ws vs zs Q E0 hr I.env0 r rz l h) fun r s' hq => ?_
  cases r with
  | error e => exact (False.elim hq)
  | ok fl =>
    cases fl with
    | ret u => exact I.after hq
    | next => exact False.elim hq
    | brk => exact False.elim hq
    | cont => exact False.elim hq
/-- C(..): a new instance, then __init__ -/
theorem run_makeA (M : Mk X.K C f) (F : FnA X.prog X.w X.K X.mg X.base k f ks sp) (hr : Room (k + 1) X.A) (I : Inv X pins σ H s) (r : Vals vs us) (rz : Vals zs ws) (l : zs.length = ks.length)
    (h : ∀ x dx, H x = none → H dx = none → dx ≠ x → sp (.ref x :: vs) zs (upd (upd H dx (.own x)) x (.ins C dx [])) (fun v H2 => v = .non ∧ Q (.ref x) H2) E0) :
    wpAny (model X.prog X.w) X.A (call (.ref C) us (ks.zip ws)) (EP X pins σ Q) X.xe s := by
  have hq := h (s.heap.objs.size + 1) s.heap.objs.size (I.hok.fresh (Nat.le_succ _)) (I.hok.fresh (Nat.le_refl _)) (Nat.ne_of_lt (Nat.lt_succ_self _))
  have I2 := Inv.made (C := C) I
  have r1 : Vals (V.ref (s.heap.objs.size + 1) :: vs) (Value.ref (s.heap.objs.size + 1) :: us) := .cons rfl r
  refine wpAny_call (make_map (f := f) I.kIn M.makes M.init (beq_iff_eq.mp M.fn) (codeAny_mono (F _ X.stack _ _ (Value.ref (s.heap.objs.size + 1) :: us) ws _ _ _ E0 (hr.make C us (ks.zip ws)) (I2.env0.make C us (ks.zip ws)) r1 rz l hq) fun r s' hq' => ?_))
  cases r with
  | error e => exact False.elim hq'
  | ok fl =>
    cases fl with
    | ret u =>
      obtain ⟨v, H', I3, rv, ev, q3⟩ := I2.after hq'
      subst ev
      exact ⟨rv, ⟨V.ref (s.heap.objs.size + 1), H', I3, rfl, q3⟩⟩
    | next => exact False.elim hq'
    | brk => exact False.elim hq'
    | cont => exact False.elim hq'
end
/-! ### statements told at the def's own code -/
structure PSsAt (X : Cx) (body : List Stmt) (b : List Stmt) (t : TS) : Prop where
  run : ∀ (pins : List (Addr × Obj)) (s : Shared) (σ : L2.St) (H : Hp) (D : Ends), Inv X pins σ H s → t D σ H → PySem.wpAt (model X.prog X.w) X.A (.func body X.env) (execs b X.env) (SP X pins D) X.xe s
section
variable {X : Cx} {body rest : List Stmt} {st : Stmt} {t u : TS}
theorem at_pss (h : PSs X rest t) : PSsAt X body rest t := ⟨fun pins s σ H D I q => PySem.wpAt_of_wpAny (h.run pins s σ H D I q)⟩
theorem at_cons (h1 : PS X st t) (h2 : PSsAt X body rest u) : PSsAt X body (st :: rest) (tSeq t u) := by
  refine ⟨fun pins s σ H D I h => ks_wpAt_execs_cons (PySem.wpAt_of_wpAny (thn (h1.run pins s σ H { D with nx := u D } I h) fun f s1 q => ?_))⟩
  cases f with
  | next =>
    obtain ⟨σ', H', I', q⟩ := q
    exact h2.run pins s1 σ' H' D I' q
  | ret v => exact q
  | brk => exact q
  | cont => exact q
end
/-! ### super().m(..) as the last statement -/
structure SupC (P : Program) (K : Frag) (D f cda cc f2 : Addr) (m a0 : Str) : Prop where
  fd : ∃ oc od fd osl, K.lookup f = some ⟨oc, od, .func fd, osl⟩ ∧ ∃ ar, (fd.params.posonlyargs ++ fd.params.args).head? = some ar ∧ ar.arg = a0
  code : ∃ ccl cdd vs ccs file tf, K.lookup cda = some ⟨ccl, cdd, .fields vs, ccs⟩ ∧ vs[2]? = some (.str file tf) ∧ ((P.main.file : Str) == file) = true
  cell : ∃ cl cld csl, K.lookup cc = some ⟨cl, cld, .cell (some (.ref D)), csl⟩
  cls : ∃ cdD, clsIn K D = some cdD
  sub : mroIn K D (.ref D) = some true
  sup : ks_superIn K D D m = some (some (.ref f2))
  ty2 : typeIn K (.ref f2) = some (.type "function")
  fn2 : fnIn K f2 = true
  opq : nsIn K cStatics "thirdparty.any" = some none
  top : (P.main.scope.names.lookup ("super" : Str)).isSome = false
/-- super().m(e, ..), slot 0 the object itself, an instance of D -/
def tSup (D : Addr) (sp : Sp) (t : TA) : TS := fun D' σ H => ∃ x dx fs, σ[0]? = some (some (V.ref x)) ∧ H x = some (.ins D dx fs) ∧ t σ H fun vs H1 => sp (.ref x :: vs) H1 (fun _ H2 => D'.nx σ H2) E0
section
variable {X : Cx} {body : List Stmt} {D f cda cc f2 : Addr} {m a0 : Str} {k : Nat} {sp : Sp} {e : Expr} {es : List Expr} {t : TA} {p0 p1 apos pos pos2 : Pos}
theorem at_super (S : SupC X.prog X.K D f cda cc f2 m a0) (G : FnR X.prog X.w X.K X.mg X.base CX0 k f2 sp) (hr : Room k X.A) (ha : PA X (e :: es) t) (hmg : X.mg "super" = none) (h0 : X.N[0]? = some a0)
    (hks : X.env.kindOf "super" = some .globalImplicit := by rfl) (hkc : X.env.kindOf "__class__" = some .free := by rfl) (hk0 : X.env.kindOf a0 = some .local := by rfl) (hfu : X.env.func = some f := by rfl) (hco : X.env.code = .ref cda := by rfl)
    (hcl : X.env.cells.lookup ("__class__" : Str) = some cc := by rfl) (hat : (m == ("__class__" : Str)) = false := by decide) (hc : X.calm = true := by rfl)
    (hs : swapsWith (.Call (.Attribute (.Call (.Name "super" p0) [] [] p1) m apos) (e :: es) [] pos) none pos2.line X.env = pure false := by rfl)
    (hst : starEach (e :: es) X.env = (false, eval e X.env) :: starEach es X.env := by rfl) (hpl : (backTo pos (starEach es X.env)).any (·.1) = false := by rfl)
    {pl : Sem Bool} (ht : eval (.Call (.Attribute (.Call (.Name "super" p0) [] [] p1) m apos) (e :: es) [] pos) X.env = (do
      let ov ← attributeBase (.Call (.Name "super" p0) [] [] p1) m X.env (eval (.Call (.Name "super" p0) [] [] p1) X.env)
      standAt apos.atName
      let (f, first) ← holding [ov] (getMethod ov m pl)
      callWith pos f first (backTo pos (starEach (e :: es) X.env)) []) := by rfl) :
    PSsAt X body [.Expr (.Call (.Attribute (.Call (.Name "super" p0) [] [] p1) m apos) (e :: es) [] pos) pos2] (tSup D sp t) := by
  refine ⟨fun pins s σ H D' I h => ?_⟩
  obtain ⟨x, dx, fs, hx, hH, h⟩ := h
  obtain ⟨⟨oc, od, fd, osl, hf, ar, har, hara⟩, ⟨ccl, cdd, vs, ccs, file, tf, hcda, hvs, hfile⟩, ⟨cl, cld, csl, hcell⟩, ⟨cdD, hD⟩, hsub, hsup, hty2, hfn2, hopq, htop⟩ := S
  have KX : X.K.In s.heap := I.kIn
  refine ks_wpAt_execs_cons (ks_wpAt_Expr_any ?_ I.quiet hs)
  refine ks_wpAt_MethodCall ?_ ht
  obtain ⟨mm, hns, hlo⟩ := I.loc
  obtain ⟨u0, ru0, hl0⟩ := hlo 0 a0 _ h0 hx (.inl hk0)
  obtain rfl : u0 = Value.ref x := ru0
  have hm0 : mm a0 = some (.ref x) := by
    rcases hl0 with ⟨_, q⟩ | ⟨q, _⟩
    · exact q
    · rw [hk0] at q
      rcases q with q | q <;> cases q
  obtain ⟨mA, O, _⟩ := ins_get I.hok hH
  obtain ⟨od2, J, _⟩ := O.look
  obtain ⟨oD, hD1, hD2⟩ : ∃ oD, s.heap.get? D = some oD ∧ oD.data = .cls cdD := by
    unfold clsIn at hD
    split at hD
    · rename_i c d cd' sl ho
      cases hD
      exact ⟨_, KX _ _ ho, rfl⟩
    · cases hD
  refine ks_wpAt_super_base hks hkc hat hfu (KX _ _ hf) rfl har hco (KX _ _ hcda) rfl hvs hfile htop ?_
  obtain ⟨mb, hb1, hb2⟩ := I.mod.blt
  refine ks_loadName_global I.ok.kind hks (Calls.loadGlobal_builtin (by rw [I.ok.glob]; exact I.mod.glob.keeps I.bk) hmg (by rw [I.ok.blt]; exact hb1.keeps I.bk) ((hb2 _ (by decide)).trans (by decide +kernel)) ⟨rfl, ?_⟩)
  refine wpAny_loadName_free I.ok.kind hkc hcl ⟨_, KX _ _ hcell, rfl⟩ ?_
  rw [hara]
  refine wpAny_loadName_local I.ok.kind hk0 hns hm0 ?_
  refine ks_wpAny_isType_cls hD1 hD2 ⟨rfl, ?_⟩
  obtain ⟨hh, gg, dd, tt, os⟩ := s
  refine ks_wpAny_call_super hD1 hD2 J.at_ J.cls (fun c e => ?_) (looks_mroIn KX hsub) (fun h' e kk => ?_)
  · have := J.no
    unfold notCls at this
    rw [e] at this
    exact Bool.noConfusion this
  have I1 : Inv X ((hh.objs.size, ks_superObj D x D) :: pins) σ H { heap := h', gens := gg, drawn := dd, toks := tt, os := os } := ClX.pin_new (s := { heap := hh, gens := gg, drawn := dd, toks := tt, os := os }) (t' := tt) I kk (Nat.le_refl _) e (fun v z => nomatch z)
  have KX1 : X.K.In h' := I1.kIn
  have J1 : InstAt h' x (instObj D dx) D (some od2) := by
    obtain ⟨mA1, O1, _⟩ := ins_get I1.hok hH
    obtain ⟨od3, J3, _⟩ := O1.look
    have e1 := J.dict
    have e2 := J3.dict
    have : od3 = od2 := by
      have e3 : h'.get? dx = some od2 := kk _ _ e1
      have e4 : h'.get? dx = some od3 := e2
      rw [e3] at e4
      exact (Option.some.inj e4).symm
    rw [this] at J3
    exact J3
  obtain ⟨of, hof, hofc⟩ : ∃ of, h'.get? f2 = some of ∧ of.cls = .type "function" := by
    have ht' : (X.K.lookup f2).map (·.cls) = some (.type "function") := hty2
    cases z : X.K.lookup f2 with
    | none => rw [z] at ht'; cases ht'
    | some of => rw [z] at ht'; exact ⟨of, KX1 _ _ z, Option.some.inj ht'⟩
  unfold ks_superIn at hsup
  rw [hD] at hsup
  refine ks_wpAny_getMethod_super (l₀ := cdD.mro) (ClX.pin_at I1) (looks_opaque KX1 hopq) (fun A Q E s k q => wpAny_bind ((looks_clsIn KX1 hD) A _ E s k (wpAny_pure q))) rfl KX1 hsup hof hofc (ks_ne KX1 J1 hD) hat ?_
  have I2 : Inv X ((h'.objs.size, methodObj (.ref f2) (.ref x)) :: (hh.objs.size, ks_superObj D x D) :: pins) σ H { heap := h'.push (methodObj (.ref f2) (.ref x)), gens := gg, drawn := dd, toks := tt + 1, os := os } := ClX.met_new (s := { heap := h', gens := gg, drawn := dd, toks := tt, os := os }) (g := f2) (C := x) I1
  refine ClX.callwith_cm I2 (ClX.base_none I1 (Nat.le_refl _)) hfn2 (thn (ha.run pos _ _ σ H _ I2 h) fun us s3 ⟨ws, H2, I3, rv, q2⟩ => ⟨⟨ClX.pin_at I3, I3.kIn⟩, ?_⟩) hst hpl
  refine thn (ClX.run_cm (sp := sp) G hr pass0 I3 rv q2) fun u s' hu => ?_
  obtain ⟨v, H', I', r', q'⟩ := ClX.unpinE hu
  show PySem.wpAt _ _ _ (execs [] X.env) _ _ _
  exact PySem.wpAt_of_wpAny (wpAny_execs_nil ⟨σ, H', I', q'⟩)
end
end K59
/-! R05 -/
set_option Elab.async false
set_option linter.all false
set_option maxRecDepth 100000
set_option maxHeartbeats 2000000
namespace K59
open PySem PySem.Spec PySem.W PyProof.Rows L2 NdefX
/-! ### what K tells of such defs -/
def HasFnA (K : Frag) (f : Addr) (x qual : Str) (st : Stmt) : Prop :=
  (∃ oc od osl kV doc pm an cdv ct, K.lookup f = some ⟨oc, od, .func (fnOf x qual (defArgs st) (defBody st) (defScope st) .none kV doc pm an cdv ct), osl⟩ ∧ codeIn K cdv qual = true) ∧ keepIn K (.ref f) = true ∧ fnIn K f = true
def HasSup (P : Program) (K : Frag) (p : Str × Option Str) (x qual : Str) (st : Stmt) (D f2 : Addr) : Prop :=
  ∃ oc od osl kV doc pm an cda ct cc, K.lookup (He.fAd K p) = some ⟨oc, od, .func (ksFn x qual (defArgs st) (defBody st) (defScope st) .none kV doc pm an (.ref cda) ct cc), osl⟩ ∧ codeIn K (.ref cda) qual = true ∧ SupC P K D (He.fAd K p) cda cc f2 "__init__" "self"
/-! ### binding -/
section
variable {P : Program} {w : World} {K : Frag} {mg : Str → Option Value} {base : Heap} {fd : FuncData} {args : Args} {ps : List Str} {A : Around} {outer : List Env} {s : Shared} {H : Hp} {E : XK} {us rest : List Value} {vs rs : List V} {pv : Str}
theorem bnd_pure (hb : bindArgs fd args = pure (ps.zip us)) (e0 : Env0 P w K mg base A outer s H) (r : Vals vs us) (hl : vs.length = ps.length) :
    StX.Bnd CX0 P w K mg base fd args ps A outer s H E (fun xs H2 => xs = vs ∧ H2 = H) := fun A' Ex Q h => by
  rw [hb]
  exact wpAny_pure (h s H vs us e0 (Un.kept fun _ _ e => e) rfl (fun _ _ z => z) r hl ⟨rfl, rfl⟩)
theorem bnd_star (hb : bindArgs fd args = (newTuple rest >>= fun t => pure (ps.zip us ++ [(pv, t)]))) (e0 : Env0 P w K mg base A outer s H) (r : Vals vs us) (r2 : Vals rs rest) (hl : vs.length = ps.length) (hz : rs.length ≤ sizeLine) :
    StX.Bnd CX0 P w K mg base fd args (ps ++ [pv]) A outer s H E (fun xs H2 => ∃ p, H p = none ∧ xs = vs ++ [V.ref p] ∧ H2 = upd H p (.tup rs)) := fun A' Ex Q h => by
  have hn : H s.heap.objs.size = none := e0.hok.fresh (Nat.le_refl _)
  have hz2 : rest.length ≤ sizeLine := by rw [← r2.length]; exact hz
  rw [hb]
  refine wpAny_bind (wpAny_newTuple (wpAny_pure ?_) hz2)
  have new : ObjOk P w (upd H s.heap.objs.size (.tup rs)) (s.heap.push ({ cls := .type "tuple", data := .seq rest.toArray } : Obj)) s.heap.objs.size (.tup rs) := ⟨hz, rest, r2, ⟨_, Heap.get?_push_size _ rfl, rfl, _, rfl⟩⟩
  have un := StX.un_laid (fs := frs outer) (s := s) (o := ({ cls := .type "tuple", data := .seq rest.toArray } : Obj)) (u := .tup rs) hn
  have z := h _ _ (vs ++ [V.ref s.heap.objs.size]) (us ++ [Value.ref s.heap.objs.size]) (StX.env0_laid e0 new) un rfl (fun e s' z => z) (r.append (.cons rfl .nil))
    (by rw [List.length_append, List.length_append, hl] <;> rfl) ⟨_, hn, rfl, rfl⟩
  rw [List.zip_append (by rw [← r.length]; exact hl.symm)] at z
  exact z
end
theorem PSsAt.nox {X : Cx} {body b : List Stmt} {t : TS} (h : PSsAt X.nox body b t) : PSsAt X body b t := ⟨fun pins s σ H D I hw =>
  ks_wpAt_mono (h.run pins s σ H D (I.wish _) hw) (fun f s' q => SP.unwish q) fun _ _ z => False.elim z⟩
/-! ### the rules -/
section
variable {P : Program} {w : World} {K : Frag} {mg : Str → Option Value} {base : Heap} {p : Str × Option Str} {x qual : Str} {st : Stmt} {N ps ks : List Str} {k : Nat} {sp : SpA}
/-- a def without closure -/
theorem mkA {f : Addr} (F : HasFnA K f x qual st) (S : FnScope N ps (defScope st))
    (hbody : ∀ (kV doc pm : Value) (an : Option Addr) (cdv ct : Value) (A : Around) (outer : List Env) (s : Shared) (H : Hp) (us ws : List Value) (vs zs : List V) (Q : VK) (E : XK), Env0 P w K mg base A outer s H → Vals vs us → Vals zs ws → zs.length = ks.length → sp vs zs H Q E →
      ∃ G, StX.Bnd CX0 P w K mg base (fnOf x qual (defArgs st) (defBody st) (defScope st) .none kV doc pm an cdv ct) ⟨us, ks.zip ws⟩ ps A outer s H E G ∧ ∀ (s2 : Shared) (H2 : Hp) (xs : List V), G xs H2 → Room k (A.deeper (envOfC qual (defScope st) s2.heap.objs.size f cdv)) →
        ∃ t, PSs (cxOf CX0 P w K mg base N qual (defScope st) f cdv A outer s2 H2 E).nox (defBody st) t ∧ t { nx := fun _ H' => Q .non H', rt := Q } (start N xs) H2) : FnA P w K mg base (k + 1) f ks sp := by
  obtain ⟨⟨oc, od, osl, kV, doc, pm, an, cdv, ct, lk, hcd⟩, _⟩ := F
  intro A outer s H us ws vs zs Q E hr e0 r rz l hsp
  obtain ⟨G, hb, hG⟩ := hbody kV doc pm an cdv ct A outer s H us ws vs zs Q E e0 r rz l hsp
  exact StX.run_bnd lk hcd S hr e0 hb fun s2 H2 xs g hr' => let ⟨t, ht, hq⟩ := hG s2 H2 xs g hr'; ⟨t, ht.nox, hq⟩
/-- a def with the cell __class__ -/
theorem mkS {D f2 : Addr} (F : HasSup P K p x qual st D f2) (S : NScope N ps ["__class__"] (defScope st))
    (hbody : ∀ (kV doc pm : Value) (an : Option Addr) (cda cc : Addr) (ct : Value) (A : Around) (outer : List Env) (s : Shared) (H : Hp) (us ws : List Value) (vs zs : List V) (Q : VK) (E : XK), SupC P K D (He.fAd K p) cda cc f2 "__init__" "self" → Env0 P w K mg base A outer s H → Vals vs us → Vals zs ws → zs.length = ks.length → sp vs zs H Q E →
      ∃ G, StX.Bnd CX0 P w K mg base (ksFn x qual (defArgs st) (defBody st) (defScope st) .none kV doc pm an (.ref cda) ct cc) ⟨us, ks.zip ws⟩ ps A outer s H E G ∧
        ∀ (s2 : Shared) (H2 : Hp) (xs : List V) (F : NF), F.qual = qual → F.scope = defScope st → F.c = cda → F.cl = [(("__class__" : Str), cc)] → G xs H2 → Room k (A.deeper (envF F (He.fAd K p) s2.heap.objs.size)) →
        ∃ t, PSsAt (ncx CX0 P w K mg base N F (He.fAd K p) A outer s2 H2 E).nox (defBody st) (defBody st) t ∧ t { nx := fun _ H' => Q .non H', rt := Q } (startF N xs [some (.ref D)]) H2) : FnA P w K mg base (k + 1) (He.fAd K p) ks sp := by
  obtain ⟨oc, od, osl, kV, doc, pm, an, cda, ct, cc, lk, hcd, SC⟩ := F
  intro A outer s H us ws vs zs Q E hr e0 r rz l hsp
  obtain ⟨G, hb, hG⟩ := hbody kV doc pm an cda cc ct A outer s H us ws vs zs Q E SC e0 r rz l hsp
  have KX : K.In s.heap := e0.mod.kin.keeps fun b o e => (e0.bs b o e).1
  have lim0 : s.heap.NoLimit := e0.mod.nolimit.keeps fun b o e => (e0.bs b o e).1
  obtain ⟨cl, cld, csl, hcell⟩ := SC.cell
  refine codeAny_call_function hr.depth (KX _ _ lk) rfl S.co S.gen rfl (codeRec_of KX hcd) ?_
  refine hb _ _ _ fun s2 H2 xs us2 e2 un ho hx r2 hl g => ?_
  have lim : s2.heap.NoLimit := e0.mod.nolimit.keeps fun b o e => (e2.bs b o e).1
  have KX2 : K.In s2.heap := e0.mod.kin.keeps fun b o e => (e2.bs b o e).1
  have hcb : base.get? cc = some ⟨cl, cld, .cell (some (.ref D)), csl⟩ := e0.mod.kin _ _ hcell
  refine wpAny_newFunctionEnv S.nocell (fun ⟨n, _⟩ hy => S.par n (List.of_mem_zip hy).1) (fun h₁ hns hsb => ⟨lim.fresh _ hsb, ?_⟩) S.kind
  have kp : ∀ b o, s2.heap.get? b = some o → h₁.get? b = some o := fun b o e => hsb.extBut b o (Nat.ne_of_lt (Heap.lt_size e)) (Heap.get?_push_of_some _ e)
  obtain ⟨t, ht0, hq⟩ := hG s2 H2 xs ⟨x, qual, defArgs st, defBody st, defScope st, [("__class__", cc)], cda⟩ rfl rfl rfl rfl g (hr.deeper _)
  have ht := ht0.nox
  have C : CellsAt [("__class__", cc)] ["__class__"] [some (V.ref D)] s2.heap H2 := by
    have look : ∀ y c, List.lookup y [(("__class__" : Str), cc)] = some c → y = "__class__" ∧ c = cc := fun y c h => by
      have h2 : (match y == ("__class__" : Str) with | true => some cc | false => none) = some c := h
      cases q : (y == ("__class__" : Str)) with
      | true =>
        rw [q] at h2
        exact ⟨beq_iff_eq.mp q, (Option.some.inj h2).symm⟩
      | false =>
        rw [q] at h2
        cases h2
    refine ⟨rfl, fun y c h => ?_, fun a b c h1 h2 => ?_, fun i y h => ?_⟩
    · obtain ⟨_, rfl⟩ := look y c h
      exact ⟨(e2.bs _ _ hcb).2, _, ⟨_, (e2.bs _ _ hcb).1, rfl⟩⟩
    · rw [(look a c h1).1, (look b c h2).1]
    · match i, h with
      | 0, h =>
        cases h
        refine ⟨cc, rfl, fun v hv => ?_⟩
        cases hv
        exact ⟨.ref D, rfl, ⟨_, (e2.bs _ _ hcb).1, rfl⟩⟩
      | i + 1, h => simp at h
  have I : Inv (ncx CX0 P w K mg base N ⟨x, qual, defArgs st, defBody st, defScope st, [("__class__", cc)], cda⟩ (He.fAd K p) A outer s2 H2 E) [] (startF N xs [some (V.ref D)]) H2 { s2 with heap := h₁, toks := s2.toks + (ps.zip us2).length } := inv_startN S hr.hd e2 hl r2 C hns kp
  show codeAny _ _ (.func (defBody st) (envF ⟨x, qual, defArgs st, defBody st, defScope st, [("__class__", cc)], cda⟩ (He.fAd K p) s2.heap.objs.size)) _ _
  refine ks_codeAny_funcAt (ks_wpAt_mono (ht.run [] _ _ _ _ I hq) (fun fl s' hs => ?_) fun e s' hs => wpAny_mono hs (fun _ _ z => z) fun _ _ z => z)
  have fin : ∀ {σ' : L2.St} {H' : Hp} {v' : V} {u' : Value}, Inv (ncx CX0 P w K mg base N ⟨x, qual, defArgs st, defBody st, defScope st, [("__class__", cc)], cda⟩ (He.fAd K p) A outer s2 H2 E) [] σ' H' s' → RelV v' u' → Q v' H' → CE outer P w H s Q u' s' :=
    fun {σ' H' v' u'} J rv' q => ⟨v', H', J.os.trans ho, J.bare, un.trans J.base, J.hok, rv', q⟩
  cases fl with
  | ret u' =>
    obtain ⟨v', σ', H', J, rv', q⟩ := hs
    exact fin J rv' q
  | next =>
    obtain ⟨σ', H', J, q⟩ := hs
    exact fin (v' := V.non) (u' := Value.none) J rfl q
  | brk =>
    obtain ⟨_, _, _, q⟩ := hs
    exact False.elim q
  | cont =>
    obtain ⟨_, _, _, q⟩ := hs
    exact False.elim q
end
end K59
/-! R06 -/
set_option Elab.async false
set_option linter.all false
set_option maxRecDepth 100000
set_option maxHeartbeats 2000000
/-! calls with stars and keywords -/
namespace K59
open PySem PySem.Spec PySem.W PySem.Calls PyProof.Rows L2 NdefX
section
variable {M : Model} {A : Around} {E : Value → Shared → Prop} {s : Shared}
theorem callWith_star {P : Heap → Prop} {f : Value} {first : List Value} {pos : Pos} {Q : Value → Shared → Prop} {args : List (Bool × Sem Value)} {keywords : List (Option Str × Sem Value)} (hst : (args.any (·.1) || keywords.any (·.1.isNone)) = true)
    (hk : ∀ h, P h → ∃ k, (k = Keeper.frame ∨ k = Keeper.machine ∨ k = Keeper.boundFrame) ∧ Looks M h (keeperOf f) k)
    (h : wpAny M A (evalArgs f true args keywords) (fun a s₁ => P s₁.heap ∧ wpAny M A (call f (first ++ a.pos) a.kw) Q E s₁) E s) : wpAny M A (callWith pos f first args keywords) Q E s := by
  unfold callWith
  refine wpAny_bind (wpAny_holding (wpAny_mono h (fun a s₁ h₁ => wpAny_bind (wpAny_standAt ?_)) fun _ _ x => x))
  obtain ⟨k, hk', L⟩ := hk _ h₁.1
  simp only [hst]
  refine wpAny_bind (L.here ?_)
  have tail : ∀ {t : Sem Value}, wpAny M A t Q E s₁ → wpAny M A (t >>= fun r => holding [r] point >>= fun _ => pure r) Q E s₁ :=
    fun ht => wpAny_bind (wpAny_mono ht (fun r s₂ hr => wpAny_bind (wpAny_holding (wpAny_point (wpAny_pure hr)))) fun _ _ x => x)
  have marked (mk : Value) : wpAny M A (callMarked mk f (first ++ a.pos) a.kw) Q E s₁ := by unfold callMarked; exact Calls.wpAny_keep h₁.2
  rcases hk' with rfl | rfl | rfl <;> dsimp only <;> first | exact tail (marked _) | exact tail (wpAny_operating h₁.2)
end
/-- C(.., k = v, ..): a new instance, then its __init__ -/
def tMakeA (C : Addr) (sp : SpA) (t tk : TA) : TE := fun σ H Q => t σ H fun vs H1 => tk σ H1 fun zs H2 => ∀ x dx, H2 x = none → H2 dx = none → dx ≠ x →
  sp (.ref x :: vs) zs (upd (upd H2 dx (.own x)) x (.ins C dx [])) (fun v H3 => v = .non ∧ Q (.ref x) H3) E0
section
variable {X : Cx} {k i n : Nat} {f C g p : Addr} {mc : Value} {ks : List Str} {sp : SpA} {x m : Str} {pp pos apos : Pos} {e o : Expr} {es : List Expr} {kws : List Keyword} {t tk : TA} {ta : TE}
/-- the keywords' values are as many as their names -/
structure PKn (X : Cx) (kws : List Keyword) (n : Nat) (t : TA) : Prop where
  run : ∀ (pos : Pos) (pins : List (Addr × Obj)) (s : Shared) (σ : L2.St) (H : Hp) (Q : List V → Hp → Prop), Inv X pins σ H s → t σ H Q → wpAny (model X.prog X.w) X.A (evalAll ((backToKw pos (keywordEach kws X.env)).map (·.2))) (AP X pins σ fun vs H' => vs.length = n ∧ Q vs H') X.xe s
theorem pkn_nil : PKn X [] 0 tNil := ⟨fun _ _ _ _ H Q I h => wpAny_evalAll_nil ⟨[], H, I, .nil, rfl, h⟩⟩
theorem pkn_cons {nm : Option Str} {kpos : Pos} {te : TE} (ha : PE X e te) (hr : PKn X kws n t) : PKn X (⟨nm, e, kpos⟩ :: kws) (n + 1) (tCons te t) := by
  refine ⟨fun pos pins s σ H Q I h => ?_⟩
  show wpAny _ _ (evalAll ((do let v ← eval e X.env; standAt pos; pure v) :: (backToKw pos (keywordEach kws X.env)).map (·.2))) _ _ s
  refine wpAny_evalAll_cons (wpAny_bind (thn (ha.run pins s σ H _ I h) fun u s1 ⟨x, H1, I1, r1, q1⟩ => wpAny_bind (wpAny_standAt (wpAny_pure ?_))))
  exact thn (hr.run pos pins s1 σ H1 _ I1 q1) fun us s2 ⟨xs, H2, I2, r2, l, q2⟩ => ⟨x :: xs, H2, I2, .cons r1 r2, by rw [List.length_cons, l], q2⟩
/-- C(e, .., k = v, ..), C a class of the module -/
theorem pe_makeA (M : Mk X.K C f) (F : FnA X.prog X.w X.K X.mg X.base k f ks sp) (hr : Room (k + 1) X.A) (hg : Gl X x) (hm : X.mg x = some (.ref C)) (ha : PA X (e :: es) t) (hkw : PKn X kws ks.length tk)
    (hall : (backToKw pos (keywordEach kws X.env)).all (·.1.isSome) = true := by rfl) (hks : (backToKw pos (keywordEach kws X.env)).filterMap (·.1) = ks := by rfl) (hdb : (x == ("__debug__" : Str)) = false := by decide)
    (he : starEach (e :: es) X.env = (false, eval e X.env) :: starEach es X.env := by rfl) (hpl : ((backTo pos (starEach (e :: es) X.env)).any (·.1) || (backToKw pos (keywordEach kws X.env)).any (·.1.isNone)) = false := by rfl) :
    PE X (.Call (.Name x pp) (e :: es) kws pos) (tMakeA C sp t tk) := by
  refine ⟨fun pins s σ H Q I h => ?_⟩
  refine wpAny_Call_Name_kw (ld_glob I hg hm ?_ hdb)
  refine callWith_KW (h₀ := X.base) I.ok.mod.kin M.kp hall (thn (ha.run pos pins s σ H _ I h) fun us s1 ⟨vs, H1, I1, r, q⟩ => ?_) hpl he
  refine thn (hkw.run pos pins s1 σ H1 _ I1 q) fun ws s2 ⟨zs, H2, I2, rz, l, q2⟩ => ⟨I2.kIn, ?_⟩
  rw [hks]
  exact run_makeA M F hr I2 r rz l q2
/-- C(k = v, ..) -/
theorem pe_makeA0 (M : Mk X.K C f) (F : FnA X.prog X.w X.K X.mg X.base k f ks sp) (hr : Room (k + 1) X.A) (hg : Gl X x) (hm : X.mg x = some (.ref C)) (hkw : PKn X kws ks.length tk)
    (hall : (backToKw pos (keywordEach kws X.env)).all (·.1.isSome) = true := by rfl) (hks : (backToKw pos (keywordEach kws X.env)).filterMap (·.1) = ks := by rfl) (hdb : (x == ("__debug__" : Str)) = false := by decide)
    (hpl : ((backTo pos (starEach [] X.env)).any (·.1) || (backToKw pos (keywordEach kws X.env)).any (·.1.isNone)) = false := by rfl) :
    PE X (.Call (.Name x pp) [] kws pos) (tMakeA C sp tNil tk) := by
  refine ⟨fun pins s σ H Q I h => ?_⟩
  refine wpAny_Call_Name_kw (ld_glob I hg hm ?_ hdb)
  refine callWith_KW0 (h₀ := X.base) I.ok.mod.kin M.kp hall ?_ hpl
  refine thn (hkw.run pos pins s σ H _ I h) fun ws s2 ⟨zs, H2, I2, rz, l, q2⟩ => ⟨I2.kIn, ?_⟩
  rw [hks]
  exact run_makeA (us := []) (vs := []) M F hr I2 .nil rz l q2
/-- cls(e, *y, k = v, ..), slot i the class at C -/
theorem pe_clsA (M : Mk X.K C f) (F : FnA X.prog X.w X.K X.mg X.base k f ks sp) (hr : Room (k + 1) X.A) (hN : X.N[i]? = some x) (hv : X.env.kindOf x = some .local) (ha : PA X (e :: es) t) (hkw : PKn X kws ks.length tk)
    (hall : (backToKw pos (keywordEach kws X.env)).all (·.1.isSome) = true := by rfl) (hks : (backToKw pos (keywordEach kws X.env)).filterMap (·.1) = ks := by rfl) (hdb : (x == ("__debug__" : Str)) = false := by decide)
    (he : starEach (e :: es) X.env = (false, eval e X.env) :: starEach es X.env := by rfl) (hpl : ((backTo pos (starEach (e :: es) X.env)).any (·.1) || (backToKw pos (keywordEach kws X.env)).any (·.1.isNone)) = true := by rfl) :
    PE X (.Call (.Name x pp) (e :: es) kws pos) (fun σ H Q => σ[i]? = some (some (V.ref C)) ∧ tMakeA C sp t tk σ H Q) := by
  refine ⟨fun pins s σ H Q I ⟨hi, h⟩ => ?_⟩
  obtain ⟨mm, hns, hlo⟩ := I.loc
  obtain ⟨u0, ru0, hl0⟩ := hlo i x _ hN hi (.inl hv)
  obtain rfl : u0 = Value.ref C := ru0
  have hm0 : mm x = some (.ref C) := by
    rcases hl0 with ⟨_, q⟩ | ⟨q, _⟩
    · exact q
    · rw [hv] at q
      rcases q with q | q <;> cases q
  refine wpAny_Call_Name_kw (wpAny_Name (wpAny_loadName_local I.ok.kind hv hns hm0 ?_) hdb)
  refine callWith_star hpl (keeps_K M.kp) (evalArgs_kw2 hall (thn (ha.run pos pins s σ H _ I h) fun us s1 ⟨vs, H1, I1, r, q⟩ => ?_) he)
  refine thn (hkw.run pos pins s1 σ H1 _ I1 q) fun ws s2 ⟨zs, H2, I2, rz, l, q2⟩ => ⟨I2.kIn, ?_⟩
  rw [hks]
  exact run_makeA M F hr I2 r rz l q2
/-- D.m(e, .., k = v, ..), m a classmethod of the class D at C -/
def tCMethA (C : Addr) (sp : SpA) (t tk : TA) : TE := fun σ H Q => t σ H fun vs H1 => tk σ H1 fun zs H2 => sp (.ref C :: vs) zs H2 Q E0
theorem pe_cmethA (hg : Gl X x) (hm : X.mg x = some (.ref C)) (r : ClX.CRead X.K C mc) (c : ClX.CMet X.K C mc m p g) (F : FnA X.prog X.w X.K X.mg X.base k g ks sp) (hr : Room k X.A) (ha : PA X (e :: es) t) (hkw : PKn X kws ks.length tk)
    (hall : (backToKw pos (keywordEach kws X.env)).all (·.1.isSome) = true := by rfl) (hks : (backToKw pos (keywordEach kws X.env)).filterMap (·.1) = ks := by rfl) (hdb : (x == ("__debug__" : Str)) = false := by decide)
    (he : starEach (e :: es) X.env = (false, eval e X.env) :: starEach es X.env := by rfl) (hpl : ((backTo pos (starEach (e :: es) X.env)).any (·.1) || (backToKw pos (keywordEach kws X.env)).any (·.1.isNone)) = false := by rfl)
    {pl : Sem Bool} (ht : eval (.Call (.Attribute (.Name x pp) m apos) (e :: es) kws pos) X.env = (do
      let ov ← eval (.Name x pp) X.env
      standAt apos.atName
      let (f, first) ← holding [ov] (getMethod ov m pl)
      callWith pos f first (backTo pos (starEach (e :: es) X.env)) (backToKw pos (keywordEach kws X.env))) := by rfl) :
    PE X (.Call (.Attribute (.Name x pp) m apos) (e :: es) kws pos) (tCMethA C sp t tk) := by
  refine ⟨fun pins s σ H Q I h => ?_⟩
  refine methodCall_KW (pl := pl) (ld_glob I hg hm ?_ hdb) ht
  refine ClX.getmethcm_ok I r c fun s2 I2 => ?_
  refine callWith_of (P := MethP X.K s.heap.objs.size g (.ref C)) hpl (keeps_M c.fi) (evalArgs_kw2 hall (thn (ha.run pos _ s2 σ H _ I2 h) fun us s3 ⟨vs, H1, I3, rv, q⟩ => ?_) he)
  refine thn (hkw.run pos _ s3 σ H1 _ I3 q) fun ws s4 ⟨zs, H2, I4, rz, l, q2⟩ => ⟨⟨ClX.pin_at I4, I4.kIn⟩, ?_⟩
  rw [hks]
  have z : wpAny (model X.prog X.w) X.A (call (.ref s.heap.objs.size) ([] ++ us) (ks.zip ws)) (EP X ((s.heap.objs.size, methodObj (.ref g) (.ref C)) :: pins) σ Q) X.xe s4 :=
    wpAny_call (method_call (ClX.pin_at I4) (run_fnA (us := .ref C :: us) (vs := .ref C :: vs) F hr I4 (.cons rfl rv) rz l q2))
  exact thn z fun _ _ y => ClX.unpinE y
theorem pa_starK (K : Frag) {te : TE} {p : Pos} (he : PE X e te) (hr : PA X es t) (h : X.K = K := by rfl) (hs : starEach (.Starred e p :: es) X.env = (true, eval e X.env) :: starEach es X.env := by rfl) : PA X (.Starred e p :: es) (StX.tStar K te t) := h ▸ StX.pa_star he hr hs
end
end K59
/-! R07 -/
set_option Elab.async false
set_option linter.all false
set_option maxRecDepth 100000
set_option maxHeartbeats 2000000
/-! sets of texts: add, sorted -/
namespace K59
open PySem PySem.Spec PyProof.Rows L2
def txtV (v : Value) : Str := match v with | .str k _ => k | _ => Str.empty
def keyS (e : Int × Value) : Str := txtV e.2
def GoodS (w : World) (e : Int × Value) : Prop := ∃ k u, e.2 = Value.str k u ∧ e.1 = hashStr w k
/-- the set of texts at a: S its members, n their number -/
def SetS (w : World) (h : Heap) (a : Addr) (S : Str → Bool) (n : Nat) : Prop :=
  ∃ o es ep t, h.get? a = some o ∧ o.ExactSet ∧ o.data = .set es ep t ∧ (∀ e ∈ es.toList, GoodS w e) ∧ (es.toList.map keyS).Nodup ∧ (∀ k, S k = true ↔ k ∈ es.toList.map keyS) ∧
    es.size < scanBound ∧ t.fits es.size = true ∧ es.size = n ∧ Ris t.place.toList ∧ (w.params.followText "set-order" = true ∨ t.led = true)
section
variable {P : Program} {w : World} {h h' : Heap} {a : Addr} {S : Str → Bool} {n : Nat}
theorem SetS.at (R : SetS w h a S n) (k : ∀ o, h.get? a = some o → h'.get? a = some o) : SetS w h' a S n := by
  obtain ⟨o, es, ep, t, ho, r⟩ := R
  exact ⟨o, es, ep, t, k o ho, r⟩
theorem isS (k : Str) (u : Tok) : (PySem.strKind P w).is k (.str k u) = true := PySem.Froz.is_str k u
theorem goodS_elems {l : List (Int × Value)} (g : ∀ e ∈ l, GoodS w e) : ElemsOf (PySem.strKind P w) l := fun e he => by
  obtain ⟨k, u, h1, h2⟩ := g e he
  exact ⟨⟨k, by rw [h1]; exact isS k u, h2⟩, by rw [h1] <;> rfl⟩
theorem goodS_is {e : Int × Value} (g : GoodS w e) (k : Str) : (PySem.strKind P w).is k e.2 = true ↔ keyS e = k := by
  obtain ⟨k0, u, h1, _⟩ := g
  unfold keyS
  rw [h1]
  show (Value.isStrOf k (.str k0 u) = true) ↔ k0 = k
  constructor
  · intro q
    obtain ⟨t, e⟩ := Value.isStrOf_shape q
    injection e
  · rintro rfl
    simp [Value.isStrOf]
theorem goodS_mem {l : List (Int × Value)} (g : ∀ e ∈ l, GoodS w e) (k : Str) : k ∈ l.map keyS ↔ ∃ e ∈ l, (PySem.strKind P w).is k e.2 = true := by
  rw [List.mem_map]
  constructor
  · rintro ⟨e, he, q⟩
    exact ⟨e, he, (goodS_is (g e he) k).2 q⟩
  · rintro ⟨e, he, q⟩
    exact ⟨e, he, (goodS_is (g e he) k).1 q⟩
theorem SetS.setOf (R : SetS w h a S n) : h.SetOf (PySem.strKind P w) a S n := by
  obtain ⟨o, es, ep, t, ho, hx, hd, g, nd, hm, hb, hf, hn, _⟩ := R
  exact ⟨o, es, ep, t, ho, hx, hd, goodS_elems g, fun k => (hm k).trans (goodS_mem g k), hb, hf, hn⟩
end
section
variable {P : Program} {w : World} {A : Around} {E : Value → Shared → Prop} {s : Shared} {a : Addr} {S : Str → Bool} {n : Nat}
theorem setS_tail {g : Bool → Sem Unit} (hg : ∀ (b : Bool) (s₁ : Shared) (Q' : Unit → Shared → Prop), Q' () s₁ → wpAny (model P w) A (g b) Q' E s₁)
    {o : Obj} {es : Array (Int × Value)} {ep : Nat} {t : SetTable} (ho : s.heap.get? a = some o) (hex : o.ExactSet) (hd : o.data = .set es ep t)
    {es1 : Array (Int × Value)} {t2 : SetTable} {S' : Str → Bool} (g1 : ∀ e ∈ es1.toList, GoodS w e) (nd1 : (es1.toList.map keyS).Nodup) (m1 : ∀ k, S' k = true ↔ k ∈ es1.toList.map keyS)
    (hb1 : es1.size < scanBound) (hf2 : t2.fits es1.size = true) (hr : Ris t2.place.toList) (hl : w.params.followText "set-order" = true ∨ t2.led = true) {wasDummy : Bool} {R : Option Bool → Shared → Prop}
    (hR : ∀ h', Heap.SameBut a s.heap h' → SetS w h' a S' es1.size → R (some true) { s with heap := h' }) :
    wpAny (model P w) A (do
        storeSet a es1 t2
        if (!wasDummy && t2.tooFull) = true then do
            g (relayAll t2 es1 (SetTable.grown es1.size)).2.2
            storeSet a (relayAll t2 es1 (SetTable.grown es1.size)).1 (relayAll t2 es1 (SetTable.grown es1.size)).2.1
            pure (some true)
          else pure (some true)) R E s := by
  refine wpAny_bind (wpAny_storeSet_of ho hd ?_ (fits_of_scanBound hb1))
  have ho1 := PpSet.storeB_at (es' := es1) (t' := t2) ho hd
  have sb1 := Heap.SameBut.update s.heap a (Obj.putSet es1 t2)
  split
  · have pm := relayAll_perm t2 es1 (SetTable.grown es1.size)
    have hf3 := relayAll_fits t2 es1 (SetTable.grown es1.size)
    have hr3 := relayAll_ris t2 es1 (SetTable.grown es1.size)
    have hl3 := relayAll_led t2 es1 (SetTable.grown es1.size)
    generalize relayAll t2 es1 (SetTable.grown es1.size) = Z at pm hf3 hr3 hl3 ⊢
    obtain ⟨es2, t3, gave⟩ := Z
    dsimp only at pm hf3 hr3 hl3 ⊢
    have hsz : es2.size = es1.size := by rw [← Array.length_toList, pm.length_eq, Array.length_toList]
    have hb2 : es2.size < scanBound := by rw [hsz]; exact hb1
    refine wpAny_bind (hg _ _ _ ?_)
    refine wpAny_bind (wpAny_storeSet_of ho1 rfl ?_ (fits_of_scanBound hb2))
    have ho2 := PpSet.storeB_at (es' := es2) (t' := t3) ho1 rfl
    refine wpAny_pure (hR _ (sb1.trans (Heap.SameBut.update _ a _)) ?_)
    exact ⟨_, es2, _, t3, ho2, hex, rfl, fun e he => g1 e (pm.mem_iff.mp he), (pm.map keyS).nodup_iff.mpr nd1, fun k => (m1 k).trans (pm.map keyS).mem_iff.symm, hb2, hf3, hsz, hr3,
      hl.imp id fun z => by rw [hl3]; exact z⟩
  · exact wpAny_pure (hR _ sb1 ⟨_, es1, _, t2, ho1, hex, rfl, g1, nd1, m1, hb1, hf2, rfl, hr, hl⟩)
theorem setS_hashed {k : Str} {u : Tok} {Q : Bool → Shared → Prop} (R : SetS w s.heap a S n) (room : n + 1 < scanBound)
    (hQ : ∀ h', Heap.SameBut a s.heap h' → SetS w h' a (fun j => S j || decide (j = k)) (if S k = true then n else n + 1) → Q (!S k) { s with heap := h' }) :
    wpAny (model P w) A (setAddHashed a (.str k u) ((PySem.strKind P w).hash k)) Q E s := by
  obtain ⟨o, es, ep, t, ho, hex, hd, g, nd, hm, hb, hf, hn, hr, hl⟩ := R
  have hkey : (PySem.strKind P w).is k (.str k u) = true := isS k u
  have hsc : (Value.str k u).scannable = true := rfl
  have hel : ElemsOf (PySem.strKind P w) es.toList := goodS_elems g
  unfold setAddHashed setAddHashedIn
  refine wpAny_holding (wpAny_bind (wpAny_setState_of ho hd hf ?_))
  dsimp only
  rw [byScan_of hsc hb hel]
  simp only [↓reduceIte]
  unfold setAddByScan
  refine wpAny_bind ?_
  refine wpAny_bind (wpAny_rule ?_)
  refine wpAny_bind (wpAny_setScan_of hkey ho hd hf hel ?_)
  cases hfi : List.findIdx? (fun e => (PySem.strKind P w).is k e.2) es.toList with
  | some j =>
    dsimp only
    obtain ⟨hj, pj, _⟩ := List.findIdx?_eq_some_iff_getElem.mp hfi
    have hSk : S k = true := (hm k).2 ((goodS_mem (P := P) (w := w) g k).2 ⟨es.toList[j], List.getElem_mem hj, pj⟩)
    refine wpAny_pure (wpAny_pure ?_)
    have q := hQ s.heap (Heap.SameBut.refl a s.heap) ⟨o, es, ep, t, ho, hex, hd, g, nd, fun i => by
      rw [Bool.or_eq_true, decide_eq_true_eq, ← hm i]
      exact ⟨fun z => z.elim id (fun e => e ▸ hSk), .inl⟩, hb, hf, by rw [if_pos hSk]; exact hn, hr, hl⟩
    rw [hSk] at q
    exact q
  | none =>
    dsimp only
    have hnk : k ∉ es.toList.map keyS := fun z => by
      obtain ⟨e, he, q⟩ := (goodS_mem (P := P) (w := w) g k).1 z
      have c := List.findIdx?_eq_none_iff.mp hfi e he
      rw [q] at c
      cases c
    have hSk : S k = false := by
      cases q : S k with
      | false => rfl
      | true => exact absurd ((hm k).1 q) hnk
    have hgw : ∀ (b : Bool) {s₁ : Shared} {Q' : Unit → Shared → Prop}, Q' () s₁ → wpAny (model P w) A (match b with | true => rule "set.scan.the-table-gave-way" | false => pure ()) Q' E s₁ :=
      fun b s₁ Q' q => by cases b <;> first | exact wpAny_pure q | exact wpAny_rule q
    have pm := layNew_perm t es ((PySem.strKind P w).hash k) (.str k u)
    have hf1 := layNew_fits t es ((PySem.strKind P w).hash k) (.str k u)
    have hr1 := layNew_ris t es ((PySem.strKind P w).hash k) (.str k u) hr
    have hl1 := layNew_led t es ((PySem.strKind P w).hash k) (.str k u)
    generalize layNew t es ((PySem.strKind P w).hash k) (.str k u) = Z at pm hf1 hr1 hl1 ⊢
    obtain ⟨es1, t1, wasDummy, gave⟩ := Z
    dsimp only at pm hf1 hr1 hl1 ⊢
    rw [Array.toList_push] at pm
    have pc : es1.toList.Perm (((PySem.strKind P w).hash k, Value.str k u) :: es.toList) := pm.trans (List.perm_append_singleton _ _)
    have pk : (es1.toList.map keyS).Perm (k :: es.toList.map keyS) := pc.map keyS
    have g1 : ∀ e ∈ es1.toList, GoodS w e := fun e he => by
      rcases List.mem_cons.mp (pc.mem_iff.mp he) with z | z
      · rw [z]; exact ⟨k, u, rfl, rfl⟩
      · exact g e z
    have nd1 : (es1.toList.map keyS).Nodup := pk.nodup_iff.mpr (List.nodup_cons.mpr ⟨hnk, nd⟩)
    have m1 : ∀ i, (S i || decide (i = k)) = true ↔ i ∈ es1.toList.map keyS := fun i => by
      rw [Bool.or_eq_true, decide_eq_true_eq, hm i, pk.mem_iff, List.mem_cons]
      exact Or.comm
    have hsz : es1.size = n + 1 := by rw [← Array.length_toList, pc.length_eq, List.length_cons, Array.length_toList, hn]
    have hb1 : es1.size < scanBound := by rw [hsz]; exact room
    have hled : w.params.followText "set-order" = true ∨ t1.led = true := hl.imp id fun z => by rw [hl1]; exact z
    have fin : ∀ h', Heap.SameBut a s.heap h' → SetS w h' a (fun j => S j || decide (j = k)) es1.size → Q true { s with heap := h' } := fun h' sb r => by
      have q := hQ h' sb
      rw [hSk] at q
      rw [hsz] at r
      exact q r
    refine wpAny_bind (hgw _ ?_)
    split
    · refine wpAny_bind ?_
      rw [hashByValue_scannable 8 hsc]
      refine wpAny_pure ?_
      refine setS_tail ?_ ho hex hd g1 nd1 m1 hb1 ?_ ?_ ?_ ?_
      · intro b s₁ Q' q; cases b <;> first | exact wpAny_pure q | exact wpAny_rule q
      · first | (split <;> first | exact hf1 | exact SetTable.fits_plain_off hf1) | exact hf1
      · first | (split <;> exact hr1) | exact hr1
      · first | (split <;> exact hled) | exact hled
      · intro h' sb r; dsimp only; exact wpAny_pure (fin h' sb r)
    · refine wpAny_bind (wpAny_pure ?_)
      simp only [↓reduceIte]
      refine setS_tail ?_ ho hex hd g1 nd1 m1 hb1 hf1 hr1 hled ?_
      · intro b s₁ Q' q; cases b <;> first | exact wpAny_pure q | exact wpAny_rule q
      · intro h' sb r; dsimp only; exact wpAny_pure (fin h' sb r)
theorem setS_add {k : Str} {u : Tok} {Q : Value → Shared → Prop} (R : SetS w s.heap a S n) (room : n + 1 < scanBound)
    (hQ : ∀ h' tk, Heap.SameBut a s.heap h' → SetS w h' a (fun j => S j || decide (j = k)) (if S k = true then n else n + 1) → Q .none { s with heap := h', toks := tk }) :
    wpAny (model P w) A (call (.builtin "set.add") [.ref a, .str k u]) Q E s := by
  have hS : s.heap.SetOf (PySem.strKind P w) a S n := R.setOf
  refine wpAny_call_entry F.slot_set_add hS.typeIs F.entry_set_add ?_ (F.args_set_add_2 _ _)
  unfold Builtin.«set.add» Builtin.Frozenset.oneOther
  simp only [List.isEmpty_nil, bind_assoc]
  unfold Builtin.Frozenset.addrOf setAdd
  refine wpAny_bind (wpAny_pure ?_)
  try dsimp only
  refine wpAny_bind (wpAny_pure ?_)
  try dsimp only
  refine wpAny_bind ?_
  refine wpAny_holding ?_
  refine wpAny_bind ((PySem.strKind P w).pyHash (isS k u) ?_)
  refine setS_hashed (s := { s with toks := s.toks + 1 }) R room fun h' sb r => ?_
  show wpAny _ _ (ret Value.none) _ _ _
  exact wpAny_pure ⟨_, rfl, hQ h' _ sb r⟩
/-- sorted of it -/
theorem sorted_setS {Q : Value → Shared → Prop} (R : SetS w s.heap a S n) (hh : A.handled = none) (h64 : n < 64)
    (hQ : ∀ s' p (out : Array Value) (c : Nat) (ns : List Str), (∀ b o, s.heap.get? b = some o → s'.heap.get? b = some o) → s'.gens = s.gens → s'.os = s.os → s.heap.objs.size ≤ p →
      s'.heap.get? p = some (seqObj "list" out c) → StrsAre out.toList ns → (∀ k, k ∈ ns ↔ S k = true) → ns.Nodup → Q (.ref p) s') :
    wpAny (model P w) A (call (.builtin "sorted") [.ref a]) Q E s := by
  obtain ⟨o, es, ep, t, ho, hex, hd, g, nd, hm, hb, hf, hn, hr, hl⟩ := R
  refine Calls.call_function_entry kind_sorted plain_sorted entry_sorted (args_sorted1 _) ?_
  unfold Builtin.«sorted»
  refine wpAny_bind (m := checkCount "sorted" 1 1 _) (wpAny_pure ?_)
  refine wpAny_bind (collect_set (A := A.in1) hh ⟨o, ho, hex.1, hd⟩ hf hb hr hl fun s1 vs k1 hz g1 o1 pm => ?_)
  have hvl : vs.length = n := by rw [pm.length_eq, List.length_map, Array.length_toList]; exact hn
  have strsL : ∀ l : List Value, (∀ v ∈ l, ∃ k u, v = Value.str k u) → StrsAre l (l.map txtV) := by
    intro l
    induction l with
    | nil => intro _; exact .nil
    | cons v l ih =>
      intro h
      obtain ⟨k, u, e⟩ := h v List.mem_cons_self
      subst e
      exact .cons k u (ih fun y hy => h y (List.mem_cons_of_mem _ hy))
  have hI : StrsAre vs (vs.map txtV)   := strsL vs fun v hv => by
    obtain ⟨e, he, q⟩ := List.mem_map.mp (pm.mem_iff.mp hv)
    obtain ⟨k, tk, h1, _⟩ := g e he
    exact ⟨k, tk, by rw [← q]; exact h1⟩
  have pk : (vs.map txtV).Perm (es.toList.map keyS) := by
    have q := pm.map txtV
    rw [List.map_map] at q
    exact q
  refine wpAny_bind (wpAny_newList ?_ (by rw [hvl, sizeLine_eq]; omega))
  have hoL : (s1.heap.push (seqObj "list" vs.toArray 0)).get? s1.heap.objs.size = some (seqObj "list" vs.toArray 0) := Heap.get?_push_size _ rfl
  refine wpAny_bind (wpAny_holding (wpAny_call_entry slot_list_sort ⟨_, hoL, rfl⟩ entry_list_sort (list_sort_treeK strKind_oneLt hoL hI.keysOf (fun v₁ v₂ rest e => keyKind_strs (by rw [← e]; exact hI)) (by rw [hvl]; exact h64) fun st' hp hs => ⟨_, rfl, ?_⟩) (args_list_sort _)))
  obtain ⟨ss', h1, h2, h3⟩ := sorted_out_str hI hp hs
  obtain ⟨c, hc⟩ := sortedHeap_at (vs := vs) (out := (arrOf st').map (·.2)) hoL
  have pn : ss'.Perm (es.toList.map keyS) := h2.trans pk
  refine wpAny_pure ⟨_, rfl, hQ _ s1.heap.objs.size _ c ss' (fun b u e => ?_) g1 o1 hz hc h1 (fun k => by rw [pn.mem_iff, ← hm k]) (pn.nodup_iff.mpr nd)⟩
  have q := k1 b u e
  have hlt := Heap.lt_size q
  show (sortedHeap (s1.heap.push (seqObj "list" vs.toArray 0)) s1.heap.objs.size vs ((arrOf st').map (·.2))).get? b = some u
  rw [sortedHeap_old (Nat.ne_of_lt hlt) (by rw [size_push']; exact Nat.lt_succ_of_lt hlt)]
  exact Heap.get?_push_of_some _ q
theorem setS_fresh {h : Heap} (w : World) : SetS w (h.push { cls := .type "set", dict := none, data := .set #[] 0 (.fresh 0 0 (!w.params.followText "set-order")) }) h.objs.size (fun _ => false) 0 :=
  ⟨_, #[], 0, _, Heap.get?_push_size _ rfl, ⟨rfl, rfl, rfl⟩, rfl, (fun e he => by simp at he), (by simp), (fun k => by simp), (by decide), (by rfl), rfl, List.Pairwise.nil, by
    show _ ∨ (!w.params.followText "set-order") = true
    cases w.params.followText "set-order"
    · exact .inr rfl
    · exact .inl rfl⟩
end
/-! ### tracked -/
def SetSO (w : World) (a : Addr) (S : Str → Bool) (n : Nat) : HO := .ext fun h => SetS w h a S n
theorem setSO_new {w : World} {P : Program} {H : Hp} {h : Heap} {a : Addr} {S : Str → Bool} {n : Nat} (R : SetS w h a S n) : ObjOk P w H h a (SetSO w a S n) := by
  have ⟨o, _, _, _, ho, _⟩ := R
  exact ⟨R, ⟨o, ho⟩, fun h1 h2 p k => SetS.at p k⟩
section
variable {X : Cx} {pins : List (Addr × Obj)} {σ : L2.St} {H : Hp} {s : Shared}
theorem setSO_get {a : Addr} {S : Str → Bool} {n : Nat} (I : Inv X pins σ H s) (ha : H a = some (SetSO X.w a S n)) : SetS X.w s.heap a S n := (I.hok a _ ha).1
theorem addS_ok {E : Value → Shared → Prop} {D : Addr} {S : Str → Bool} {n : Nat} {y : Str} {u : Tok} {Q : Value → Shared → Prop} (I : Inv X pins σ H s) (hD : H D = some (SetSO X.w D S n)) (room : n + 1 < scanBound)
    (h : ∀ s', Inv X pins σ (upd H D (SetSO X.w D (fun j => S j || decide (j = y)) (if S y = true then n else n + 1))) s' → Q .none s') : wpAny (model X.prog X.w) X.A (call (.builtin "set.add") [.ref D, .str y u]) Q E s := by
  have R := setSO_get I hD
  refine setS_add R room fun h' tk sb new => ?_
  have he : ∃ u, h'.get? D = some u := by
    have ⟨o, _, _, _, ho, _⟩ := new
    exact ⟨o, ho⟩
  exact h _ (I.write (e := D) (t' := tk) (by rw [hD]; trivial) (.inl rfl) (fun b u hb hu => (sb.2 b hb).trans hu) he (setSO_new new))
/-- sorted of a set of texts: its members, each once -/
def rSortSet (w : World) : List V → Hp → VK → Prop := fun vs H Q => ∃ (a : Addr) (S : Str → Bool) (n : Nat), vs = [V.ref a] ∧ H a = some (SetSO w a S n) ∧ n < 64 ∧
  ∀ (ns : List Str) (p : Addr), ns.Nodup → (∀ k, k ∈ ns ↔ S k = true) → H p = none → Q (.ref p) (upd H p (.lst (ns.map V.str)))
theorem cr_sortSet (w : World) (hw : X.w = w := by rfl) (hc : X.calm = true := by rfl) : CallR X (.builtin "sorted") (rSortSet w) := by
  subst hw
  intro pins s σ H vs us Q I r h
  obtain ⟨a, S, n, rfl, ha, h64, q⟩ := h
  have R := setSO_get I ha
  rw [Vals.ref1 r]
  refine sorted_setS R (I.ok.hd hc) h64 fun s' p out c ns k g o hp hg hi hm hnd => ?_
  have hlen : (ns.map V.str).length ≤ sizeLine := by
    obtain ⟨o2, es, ep, t, ho, hex, hd, gg, nd, hm2, hb, hf, hn, _⟩ := R
    have : ns.length ≤ (es.toList.map keyS).length := nodup_len hnd fun x hx => (hm2 x).1 ((hm x).1 hx)
    have h2 : es.toList.length = n := by rw [Array.length_toList]; exact hn
    rw [List.length_map, h2] at this
    rw [List.length_map, sizeLine_eq]
    omega
  have hn : H p = none := I.hok.fresh hp
  have J : Inv X pins σ (upd H p (.lst (ns.map V.str))) { s with heap := s'.heap, gens := s'.gens, drawn := s'.drawn, toks := s'.toks } :=
    I.call (ch := []) (Un.laid k hp hn) (I.hok.laid k hp ⟨hlen, out.toList, c, vals_of_strs hi, hg⟩) (by rw [g]; exact I.bare) (fun _ z => nomatch z)
  have e : s' = { s with heap := s'.heap, gens := s'.gens, drawn := s'.drawn, toks := s'.toks } := by
    cases s'
    cases s
    cases o
    rfl
  rw [e]
  exact ⟨.ref p, _, J, rfl, q ns p hnd hm hn⟩
end
end K59
/-! R08 -/
set_option Elab.async false
set_option linter.all false
set_option maxRecDepth 100000
set_option maxHeartbeats 2000000
/-! set comprehensions of texts over any number of clauses -/
namespace K59
open PySem PySem.Spec PyProof.Rows L2
/-- what is run when the tests of a clause hold: the next clause -/
def clauseM (e : Expr) (d : Nat) (iter : Expr) (env : Env) (acc : Value) : Sem Unit := do
  let x ← eval iter env
  standAt iter.pos
  let x ← foldedSetIterable iter env x
  let _ ← runOwn (.compStart e d (← holding [x] (pyIter x)) acc env) env
/-- .. behind the last one -/
def emitS (elt : Expr) (env : Env) (acc : Value) : Sem Unit := do
  let v ← eval elt env
  standAt elt.pos
  let _ ← call (.builtin "set.add") [acc, v]
/-- a turn's tree, its innermost part m -/
def turnM (e : Expr) (d : Nat) (tg : Expr) (p : Pos) (ifs : List Expr) (m : Sem Unit) (it acc : Value) (env : Env) : Sem Fin := do
  standAt p
  match ← pyNext it with
  | none => pure (.done .next)
  | some v =>
    letOwnedTupleGo tg it v
    assign tg env v
    let mut ok := true
    for c in ifs do
      if ok then ok ← isTrue c env (eval c env)
    if ok then m
    again (.compLoop e d it acc env)
section
variable {prog : Program} {w : World} {A : Around} {R : Result → Shared → Prop} {s : Shared} {el tg : Expr} {gens : List Comprehension} {scope : Scope} {pos : Pos} {ifs : List Expr} {d : Nat} {it acc : Value} {env : Env} {m : Sem Unit} {p : Pos}
theorem cLoop_any (hT : compTurn (.SetComp el gens scope pos) d it acc env = turnM (.SetComp el gens scope pos) d tg p ifs m it acc env) (I : Nat → Shared → Prop)
    (turn : ∀ n s, I n s → wpAny (model prog w) A (pyNext it) (fun r s₁ => match r with
      | none => R (.ok .next) s₁
      | some v => wpAny (model prog w) A (letOwnedTupleGo tg it v) (fun _ s₁' => wpAny (model prog w) A (assign tg env v) (fun _ s₂ =>
          wpAny (model prog w) A (forIn ifs true fun c r => if r = true then do let ok ← isTrue c env (eval c env); pure (ForInStep.yield ok) else pure (ForInStep.yield r)) (fun ok s₃ =>
            if ok = true then wpAny (model prog w) A m (fun _ s₅ => ∃ k, k < n ∧ I k s₅) (fun _ _ => False) s₃
            else ∃ k, k < n ∧ I k s₃) (fun _ _ => False) s₂) (fun _ _ => False) s₁') (fun _ _ => False) s₁) (fun _ _ => False) s)
    (n : Nat) (h : I n s) : codeAny (model prog w) A (.compLoop (.SetComp el gens scope pos) d it acc env) R s := by
  refine codeAny_loop rfl I (fun n s hI => ?_) n h
  show wpAny _ A ((compTurn (.SetComp el gens scope pos) d it acc env).onRaise (fun x => do noteFrame x env; theTreesLotGoes x)) _ _ s
  refine wpAny_noted ?_
  rw [hT]
  unfold turnM
  refine wpAny_bind (wpAny_standAt (wpAny_bind (wpAny_mono (turn n s hI) (fun r s₁ h₁ => ?_) fun _ _ h' => False.elim h')))
  cases r with
  | none => exact wpAny_pure h₁
  | some v =>
    refine wpAny_bind (wpAny_mono h₁ (fun _ s₁' h₁' => ?_) fun _ _ h' => False.elim h')
    refine wpAny_bind (wpAny_mono h₁' (fun _ s₂ h₂ => wpAny_bind (wpAny_mono h₂ (fun ok s₃ h₃ => ?_) fun _ _ h' => False.elim h')) fun _ _ h' => False.elim h')
    cases ok with
    | false => exact wpAny_pure ⟨rfl, h₃⟩
    | true =>
      simp only [if_true] at h₃ ⊢
      exact wpAny_bind (wpAny_mono h₃ (fun _ s₅ h₅ => wpAny_pure ⟨rfl, h₅⟩) fun _ _ h' => False.elim h')
theorem cStart_any (ha : ((clausesOf (.SetComp el gens scope pos))[d]?).elim false (·.is_async != 0) = false) (h0 : codeAny (model prog w) A (.compLoop (.SetComp el gens scope pos) d it acc env) R s)
    (h : wpAny (model prog w) A (pyIter it) (fun it' s' => codeAny (model prog w) A (.compLoop (.SetComp el gens scope pos) d it' acc env) R s') (fun _ _ => False) s) : codeAny (model prog w) A (.compStart (.SetComp el gens scope pos) d it acc env) R s := by
  refine codeAny_of_tree ?_
  show wpAny _ _ ((compStart (.SetComp el gens scope pos) d it acc env).onRaise (fun x => do noteFrame x env; standAt theWindowsPlace)) _ _ s
  refine wpAny_notedAt ?_
  unfold compStart
  rw [ha]
  simp only [Bool.false_eq_true, if_false]
  refine wpAny_bind (wpAny_askSetting (wpAny_ite ?_))
  split
  · first
      | exact wpAny_bind (wpAny_pure (wpAny_pure (And.intro rfl h0)))
      | exact wpAny_pure (And.intro rfl h0)
  · refine wpAny_bind (wpAny_rule ?_)
    have fin : wpAny (model prog w) A (pyIter it) (fun it' s' => wpAny (model prog w) A (again (.compLoop (.SetComp el gens scope pos) d it' acc env)) (fun fin s' => match fin with | .done f => R (.ok f) s' | .again c' => c'.quiet = true ∧ codeAny (model prog w) A c' R s') (notedBy (model prog w) A env fun x s' => R (.error x) s') s') (notedBy (model prog w) A env fun x s' => R (.error x) s') s := wpAny_mono h (fun it' s' h' => wpAny_pure (And.intro rfl h')) fun _ _ x => False.elim x
    cases (clausesOf (.SetComp el gens scope pos))[d]? with
    | none => first | exact wpAny_bind fin | exact wpAny_bind (wpAny_pure (wpAny_bind fin))
    | some g => exact wpAny_bind (wpAny_standAt (wpAny_bind fin))
end
/-- the part m in the block's context Y; vs: the slots that it may change -/
structure PM (Y : Cx) (m : Sem Unit) (vs : List Nat) (t : L2.St → Hp → (Hp → Prop) → Prop) : Prop where
  run : ∀ (pins : List (Addr × Obj)) (s : Shared) (σ : L2.St) (H : Hp) (nx : Hp → Prop), Inv Y pins σ H s → t σ H nx → wpAny (model Y.prog Y.w) Y.A m (fun _ s' => ∃ σ' H', Inv Y pins σ' H' s' ∧ σ'.length = σ.length ∧ (∀ (j : Nat) v, (wipe σ vs)[j]? = some (some v) → σ'[j]? = some (some v)) ∧ nx H') (fun _ _ => False) s
def tClause (wi : TI) (g : TG) (tt : TT) (t : L2.St → Hp → (Hp → Prop) → Prop) (vs : List Nat) : L2.St → Hp → (Hp → Prop) → Prop := fun σ H nx => wi σ H fun J H1 => ∃ W : Nat → Nat → Hp → Prop, (∃ m, W 0 m H1) ∧ ∀ i k H, W i k H →
  (J.stop i H ∧ nx H) ∨ (J.go i H ∧ ∃ Nx : Hp → Prop, (∀ H', Nx H' → ∃ k', k' < k ∧ W (i + 1) k' H') ∧ ∀ x H', J.yld i H x H' → g x (wipe σ vs) H' fun σ2 H2 => wipe σ2 vs = wipe σ vs ∧ tt σ2 H2 fun b H3 => if b = true then t σ2 H3 Nx else Nx H3)
section
variable {Y : Cx} {elt e tg iter : Expr} {ifs : List Expr} {d : Nat} {D : Addr} {m : Sem Unit} {vs vs' : List Nat} {wi : TI} {g : TG} {tt : TT} {te : TE} {t : L2.St → Hp → (Hp → Prop) → Prop} {p : Pos}
theorem pm_emitS (w : World) (hx : Y.xe = fun _ _ => False) (he : PE Y elt te) (hw : Y.w = w) : PM Y (emitS elt Y.env (.ref D)) [] (fun σ H nx => te σ H fun y H1 => ∃ (c : Str) (S : Str → Bool) (n : Nat), y = .str c ∧ H1 D = some (SetSO w D S n) ∧ n + 1 < scanBound ∧ nx (upd H1 D (SetSO w D (fun j => S j || decide (j = c)) (if S c = true then n else n + 1)))) := by
  subst hw
  refine ⟨fun pins s σ H nx I h => ?_⟩
  unfold emitS
  have r := he.run pins s σ H _ I h
  rw [hx] at r
  refine wpAny_bind (wpAny_mono r (fun z s1 ⟨yv, H1, I1, r1, c, S0, n0, ey, hD, hz, q⟩ => ?_) fun _ _ z => z)
  subst ey
  obtain ⟨u, rfl⟩ := r1
  refine wpAny_bind (wpAny_standAt (wpAny_bind (addS_ok I1 hD hz fun s' I' => wpAny_pure ⟨σ, _, I', rfl, fun j v h => h, q⟩)))
theorem pm_clause {el : Expr} {gens : List Comprehension} {scope : Scope} {pos : Pos} (hx : Y.xe = fun _ _ => False) (hc : Y.calm = true) (hi : PI Y tg iter wi) (hg : PG Y tg g) (ht : PTs Y ifs tt) (hm : PM Y m vs' t) (hv : ∀ i ∈ vs', i ∈ vs) (hs : ∀ x, foldedSetIterable iter Y.env x = pure x)
    (hT : ∀ it, compTurn (.SetComp el gens scope pos) d it (.ref D) Y.env = turnM (.SetComp el gens scope pos) d tg p ifs m it (.ref D) Y.env) (ha : ((clausesOf (.SetComp el gens scope pos))[d]?).elim false (·.is_async != 0) = false) :
    PM Y (clauseM (.SetComp el gens scope pos) d iter Y.env (.ref D)) vs (tClause wi g tt t vs) := by
  refine ⟨fun pins s σ H nx I h => ?_⟩
  unfold clauseM
  have r := hi.run pins s σ H _ I h
  rw [hx] at r
  refine wpAny_bind (wpAny_mono r (fun xv s10 hx10 => ?_) fun _ _ z => z)
  refine wpAny_bind (wpAny_standAt (wpAny_bind (wpAny_of_eq (hs xv) ?_)))
  refine wpAny_bind (wpAny_holding (wpAny_mono hx10 (fun itv s11 h11 => ?_) fun _ _ z => z))
  obtain ⟨it1, fp1, tn1, J1, H11, e1, I11, T1, st11, f11, W1, ⟨m1, w1⟩, turn1⟩ := h11
  subst e1
  have stat1 : ∀ {H' : Hp}, (∀ b ∈ fp1, H' b = none) → ∀ b ∈ fp1, FpOk Y pins H' b := fun hn b hb => ⟨hn b hb, (f11 b hb).2⟩
  have loop1 : codeAny (model Y.prog Y.w) Y.A (.compLoop (.SetComp el gens scope pos) d (.ref it1) (.ref D) Y.env)
      (fun r s' => match r with
        | .ok _ => ∃ σ' H', Inv Y pins σ' H' s' ∧ σ'.length = σ.length ∧ (∀ (j : Nat) v, (wipe σ vs)[j]? = some (some v) → σ'[j]? = some (some v)) ∧ nx H'
        | .error _ => False) s11 := by
    refine cLoop_any (hT _) (fun k s' => ∃ j H', Inv Y pins (wipe σ vs) H' s' ∧ tn1 j s'.heap ∧ (∀ b ∈ fp1, H' b = none) ∧ W1 j k H') ?_ m1 ⟨0, H11, I11.weak (wipe_length _ _) (fun j v e => (wipe_some e).1), st11, fun b hb => (f11 b hb).1, w1⟩
    rintro k s12 ⟨j, H12, I12, st12, n12, w12⟩
    rcases turn1 j k H12 w12 with ⟨stop1, nx1⟩ | ⟨go1, Nx1, hNx1, step1⟩
    · refine thnF (T1.done Y rfl rfl rfl hc j _ s12 (wipe σ vs) H12 (fun _ _ => False) I12 (stat1 n12) st12 stop1) fun r s13 ⟨hr, I13⟩ => ?_
      subst hr
      exact ⟨_, _, I13, wipe_length _ _, fun _ _ e => e, nx1⟩
    · refine thnF (T1.item Y rfl rfl rfl hc j _ s12 (wipe σ vs) H12 (fun _ _ => False) I12 (stat1 n12) st12 go1) fun r s13 ⟨u1, hr, h13⟩ => ?_
      subst hr
      refine thnF h13 fun _ s14 ⟨x1, H14, I14, r14, y14, st14, n14⟩ => ?_
      have I14' := I14.pinned (stat1 n14) (T1.obj _ _ st14)
      have rg := hg.run _ s14 (wipe σ vs) H14 x1 u1 _ I14' r14 (step1 x1 H14 y14)
      rw [hx] at rg
      refine thnF rg fun _ s15 ⟨σ15, H15, I15, hw15, q15⟩ => ?_
      have rt := ht.run _ s15 σ15 H15 _ I15 q15
      rw [hx] at rt
      refine thnF rt fun b1 s16 ⟨H16, I16, q16⟩ => ?_
      have fin1 : ∀ {s' : Shared} {σ9 : L2.St} {H' : Hp}, Inv Y (pins ++ pinsAt fp1 s14.heap) σ9 H' s' → σ9.length = σ15.length → (∀ (j : Nat) v, (wipe σ15 vs')[j]? = some (some v) → σ9[j]? = some (some v)) → Nx1 H' → ∃ m, m < k ∧ ∃ j H', Inv Y pins (wipe σ vs) H' s' ∧ tn1 j s'.heap ∧ (∀ b ∈ fp1, H' b = none) ∧ W1 j m H' := fun {s' σ9 H'} I' hl hk nx => by
        obtain ⟨m', hm, w'⟩ := hNx1 H' nx
        have pin' : ∀ b ∈ fp1, ∀ o, s14.heap.get? b = some o → s'.heap.get? b = some o ∧ H' b = none := fun b hb o e =>
          let z := I'.pin (b, o) (List.mem_append_right _ (List.mem_append_right _ (mem_pinsAt hb e)))
          ⟨z.1, z.2.1⟩
        refine ⟨m', hm, j + 1, H', I'.unpinned.weak (by rw [hl, ← hw15, wipe_length]) (fun j v e => ?_), T1.keep _ _ _ st14 fun b hb o e => (pin' b hb o e).1, fun b hb => ?_, w'⟩
        · rw [← hw15] at e
          obtain ⟨e1, e2⟩ := wipe_some e
          refine hk j v ?_
          rw [wipe_out fun z => e2 (hv j z)]
          exact e1
        · obtain ⟨o, e, _⟩ := T1.obj _ _ st14 b hb
          exact (pin' b hb o e).2
      cases b1 with
      | false =>
        simp only [Bool.false_eq_true, if_false] at q16 ⊢
        exact fin1 I16 rfl (fun j v e => (wipe_some e).1) q16
      | true =>
        simp only [if_true] at q16 ⊢
        exact thnF (hm.run _ s16 σ15 H16 _ I16 q16) fun _ s17 ⟨σ17, H17, I17, hl, hk, q⟩ => fin1 I17 hl hk q
  refine wpAny_bind (wpAny_runOwn ?_)
  rw [Around.mark_none]
  refine codeAny_mono (cStart_any ha loop1 (T1.self Y.A 0 _ _ _ st11 loop1)) fun r s' hr => ?_
  cases r with
  | ok f => exact wpAny_pure hr
  | error e => exact False.elim hr
end
end K59
/-! R09 -/
set_option Elab.async false
set_option linter.all false
set_option maxRecDepth 100000
set_option maxHeartbeats 2000000
namespace K59
open PySem PySem.Spec PyProof.Rows L2
/-- {elt for target in iter if .. for ..}, texts: D the new set; t D: what is run behind the first clause's tests -/
def tScG (w : World) (wi : TI) (g : TG) (tt : TT) (t : Addr → L2.St → Hp → (Hp → Prop) → Prop) (vs : List Nat) : TE := fun σ H Q => wi σ H fun J H1 => ∀ D, H1 D = none → ∃ W : Nat → Nat → Hp → Prop, (∃ m, W 0 m (upd H1 D (SetSO w D (fun _ => false) 0))) ∧ ∀ i m H, W i m H →
  (J.stop i H ∧ Q (.ref D) H) ∨ (J.go i H ∧ ∃ Nx : Hp → Prop, (∀ H', Nx H' → ∃ m', m' < m ∧ W (i + 1) m' H') ∧ ∀ x H', J.yld i H x H' → g x (wipe σ vs) H' fun σ2 H2 => wipe σ2 vs = wipe σ vs ∧ tt σ2 H2 fun b H3 =>
    if b = true then t D σ2 H3 Nx else Nx H3)
section
variable {X : Cx} {w : World} {elt tg iter : Expr} {ifs : List Expr} {rest : List Comprehension} {scope : Scope} {own : List (PySem.Str × Nat)} {vs' : List Nat} {pos : Pos} {wi : TI} {g : TG} {tt : TT} {t : Addr → L2.St → Hp → (Hp → Prop) → Prop} {M : Env → Addr → Sem Unit}
theorem sc_core {pins : List (Addr × Obj)} {s : Shared} {σ : L2.St} {H : Hp} {Q : VK} {use : Option (Value → Sem Unit)} {Qf : Value → Shared → Prop} {pos' : Pos} (hw : X.w = w) (hc : X.calm = true) (hN : X.N.Nodup) (I : Inv X pins σ H s) (hi : PI X tg iter wi) (ok : BlkOk X.N X.env.scope scope own) (hv : ∀ i ∈ vs', i ∈ own.map (·.2))
    (hg : ∀ (s : Shared) (H : Hp) (C : Addr) (cl : List (PySem.Str × Addr)) (fp : List Addr), PG (X.blk s H scope (compEnvC scope cl C X.env) fp) tg g)
    (ht : ∀ (s : Shared) (H : Hp) (C : Addr) (cl : List (PySem.Str × Addr)) (fp : List Addr), PTs (X.blk s H scope (compEnvC scope cl C X.env) fp) ifs tt)
    (hm : ∀ (s : Shared) (H : Hp) (C : Addr) (cl : List (PySem.Str × Addr)) (fp : List Addr) (D : Addr), PM (X.blk s H scope (compEnvC scope cl C X.env) fp) (M (compEnvC scope cl C X.env) D) vs' (t D))
    (hT : ∀ it D env, compTurn (.SetComp elt (⟨tg, iter, ifs, 0⟩ :: rest) scope pos) 0 it (.ref D) env = turnM (.SetComp elt (⟨tg, iter, ifs, 0⟩ :: rest) scope pos) 0 tg iter.pos ifs (M env D) it (.ref D) env)
    (hs : ∀ x, foldedSetIterable iter X.env x = pure x)
    (h : tScG w wi g tt t (own.map (·.2)) σ H Q)
    (hRR : ∀ D C s' m H', Inv X pins σ H' s' → Q (.ref D) H' → s'.heap.Ns C m → FpOk X pins H' C → compPost (model X.prog X.w) X.A X.xe use Qf (.ref D) C (.ok .next) s') :
    wpAny (model X.prog X.w) X.A (comprehension (.SetComp elt (⟨tg, iter, ifs, 0⟩ :: rest) scope pos) scope X.env pos' (newSet (.type "set")) false (eval iter X.env) use) Qf X.xe s := by
  subst hw
  have hfree : ∀ y ∈ scope.names, y.2 = .free → ∃ c, X.env.cells.lookup y.1 = some c := fun y hy e => by
    rcases ok.free y hy e with k | k
    · exact I.ok.has _ (.inl k)
    · exact I.ok.has _ (.inr k)
  refine wpAny_comprehension_free (use := use) rfl hs (closure_ok hfree) ok.kind (fun y hy e => by rw [ok.uniq y hy, e])
    (thn (hi.run pins s σ H _ I h) fun xv s1 hx => thn hx fun itv s2 h2 => ?_)
  obtain ⟨it, fp, tn, J, H2, e, I2, T, st2, f2, q⟩ := h2
  subst e
  refine PpSet.newSet_ok (newEnv_comp ?_)
  generalize hD : s2.heap.objs.size = D
  have hDn : H2 D = none := I2.hok.fresh (Nat.le_of_eq hD)
  obtain ⟨W, ⟨m0, w0⟩, turn⟩ := q D hDn
  generalize hs3 : ({ s2 with heap := s2.heap.push { cls := .type "set", dict := none, data := .set #[] 0 (.fresh 0 0 (!X.w.params.followText "set-order")) } } : Shared) = s3
  have I3 : Inv X pins σ (upd H2 D (SetSO X.w D (fun _ => false) 0)) s3 := by
    rw [← hs3]
    refine I2.laid (t' := s2.toks) (fun b o e => Heap.get?_push_of_some _ e) (Nat.le_of_eq hD) ?_
    rw [← hD]
    exact setSO_new (setS_fresh X.w)
  have h3 : s3.heap = s2.heap.push { cls := .type "set", dict := none, data := .set #[] 0 (.fresh 0 0 (!X.w.params.followText "set-order")) } := by rw [← hs3]
  have sz : ∀ b ∈ fp, b < s2.heap.objs.size := fun b hb => by
    obtain ⟨o, e, _⟩ := T.obj _ _ st2 b hb
    exact Heap.lt_size e
  have f3 : ∀ b ∈ fp, FpOk X pins (upd H2 D (SetSO X.w D (fun _ => false) 0)) b ∧ b < s3.heap.objs.size := fun b hb => by
    have hlt := sz b hb
    refine ⟨⟨?_, (f2 b hb).2⟩, by rw [h3, Heap.size_push]; exact Nat.lt_succ_of_lt hlt⟩
    rw [upd_ne (by rw [← hD]; exact Nat.ne_of_lt hlt)]
    exact (f2 b hb).1
  have st3 : tn 0 s3.heap := T.keep _ _ _ st2 fun b _ o e => by rw [h3]; exact Heap.get?_push_of_some _ e
  have I4 := block_start I3 ok hN f3
  have pg := hg s3 (upd H2 D (SetSO X.w D (fun _ => false) 0)) s3.heap.objs.size (cellsFrom (s3.heap.objs.size + 1) scope.names (cloFrom X.env.cells scope.names [])) fp
  have pt := ht s3 (upd H2 D (SetSO X.w D (fun _ => false) 0)) s3.heap.objs.size (cellsFrom (s3.heap.objs.size + 1) scope.names (cloFrom X.env.cells scope.names [])) fp
  have pm := hm s3 (upd H2 D (SetSO X.w D (fun _ => false) 0)) s3.heap.objs.size (cellsFrom (s3.heap.objs.size + 1) scope.names (cloFrom X.env.cells scope.names [])) fp D
  show codeAny _ _ (.compStart (.SetComp elt (⟨tg, iter, ifs, 0⟩ :: rest) scope pos) 0 (.ref it) (.ref D) (compEnvC scope (cellsFrom (s3.heap.objs.size + 1) scope.names (cloFrom X.env.cells scope.names [])) s3.heap.objs.size X.env)) (compPost (model X.prog X.w) X.A X.xe use Qf (.ref D) s3.heap.objs.size) { s3 with heap := pushCells (s3.heap.push { cls := .type "dict", data := .dict #[] }) scope.names }
  have nfp : ∀ b ∈ fp, (upd H2 D (SetSO X.w D (fun _ => false) 0)) b = none := fun b hb => (f3 b hb).1.1
  generalize hce : compEnvC scope (cellsFrom (s3.heap.objs.size + 1) scope.names (cloFrom X.env.cells scope.names [])) s3.heap.objs.size X.env = ce at I4 pg pt pm ⊢
  have cL : ce.locals = s3.heap.objs.size := by subst hce; rfl
  generalize hH3 : upd H2 D (SetSO X.w D (fun _ => false) 0) = H3 at I3 I4 pg pt pm w0 nfp f3
  generalize hs4 : ({ s3 with heap := pushCells (s3.heap.push { cls := .type "dict", data := .dict #[] }) scope.names } : Shared) = s4 at I4 ⊢
  have st4 : tn 0 s4.heap := T.keep _ _ _ st3 fun b _ o e => by rw [← hs4]; exact pushCells_keeps _ _ _ _ (Heap.get?_push_of_some _ e)
  have stat : ∀ {σ' : L2.St} {H' : Hp} {s' : Shared}, Inv (X.blk s3 H3 scope ce fp) [] σ' H' s' → (∀ b ∈ fp, H' b = none) → ∀ b ∈ fp, FpOk (X.blk s3 H3 scope ce fp) [] H' b := fun {σ' H' s'} I' hn b hb =>
    ⟨hn b hb, (I'.ok.exf b hb).1, I'.ok.exfs b hb, .inl hb, fun x c e => (I'.ok.exf b hb).2 x c e, fun p hp => absurd (show p ∈ ([] : List (Addr × Obj)) ++ [] from hp) (by simp)⟩
  have loop : codeAny (model X.prog X.w) X.A (.compLoop (.SetComp elt (⟨tg, iter, ifs, 0⟩ :: rest) scope pos) 0 (.ref it) (.ref D) ce) (compPost (model X.prog X.w) X.A X.xe use Qf (.ref D) s3.heap.objs.size) s4 := by
    refine cLoop_any (hT _ D ce) (fun n s' => ∃ i H', Inv (X.blk s3 H3 scope ce fp) [] (wipe σ (own.map (·.2))) H' s' ∧ tn i s'.heap ∧ (∀ b ∈ fp, H' b = none) ∧ W i n H') ?_ m0 ⟨0, H3, I4, st4, nfp, w0⟩
    rintro n s5 ⟨i, H5, I5, st5, n5, w5⟩
    rcases turn i n H5 w5 with ⟨stop, qq⟩ | ⟨go, Nx, hNx, step⟩
    · have td := T.done (X.blk s3 H3 scope ce fp) rfl rfl rfl hc i [] s5 _ H5 (fun _ _ => False) I5 (stat I5 n5) st5 stop
      refine thnF td fun r s6 ⟨hr, I6⟩ => ?_
      subst hr
      have I7 : Inv X pins σ H5 s6 := I3.call' (ch := fp) I6.os I6.base I6.hok I6.bare fun b hb => ⟨(f3 b hb).1.2.2.2.1, (f3 b hb).1.2.1, (f3 b hb).1.2.2.2.2.1, (f3 b hb).1.2.2.2.2.2⟩
      have nC : H5 s3.heap.objs.size = none := by
        have z : H5 ce.locals = none := I6.free
        rw [cL] at z
        exact z
      obtain ⟨m, hn, _⟩ := I6.loc
      have hn : s6.heap.Ns ce.locals m := hn
      rw [cL] at hn
      cases use with
      | none => exact hRR D _ s6 m H5 I7 qq hn (I3.fpOk (Nat.le_refl _) nC)
      | some u => exact hRR D _ s6 m H5 I7 qq hn (I3.fpOk (Nat.le_refl _) nC)
    · have ti := T.item (X.blk s3 H3 scope ce fp) rfl rfl rfl hc i [] s5 _ H5 (fun _ _ => False) I5 (stat I5 n5) st5 go
      refine thnF ti fun r s6 ⟨u, hr, h6⟩ => ?_
      subst hr
      refine thnF h6 fun _ s7 ⟨x, H7, I7, r7, y7, st7, n7⟩ => ?_
      have I7' := I7.pinned (stat I7 n7) (T.obj _ _ st7)
      refine thnF (pg.run _ s7 _ H7 x u _ I7' r7 (step x H7 y7)) fun _ s8 ⟨σ8, H8, I8, hw8, q8⟩ => ?_
      refine thnF (pt.run _ s8 σ8 H8 _ I8 q8) fun b s9 ⟨H9, I9, q9⟩ => ?_
      have fin : ∀ {s' : Shared} {σ9 : L2.St} {H' : Hp}, Inv (X.blk s3 H3 scope ce fp) ([] ++ pinsAt fp s7.heap) σ9 H' s' → σ9.length = σ8.length → (∀ (j : Nat) v, (wipe σ8 vs')[j]? = some (some v) → σ9[j]? = some (some v)) → Nx H' → ∃ m, m < n ∧ ∃ i H', Inv (X.blk s3 H3 scope ce fp) [] (wipe σ (own.map (·.2))) H' s' ∧ tn i s'.heap ∧ (∀ b ∈ fp, H' b = none) ∧ W i m H' := fun {s' σ9 H'} I' hl hk nx => by
        obtain ⟨m', hm, w'⟩ := hNx H' nx
        have pin' : ∀ b ∈ fp, ∀ o, s7.heap.get? b = some o → s'.heap.get? b = some o ∧ H' b = none := fun b hb o e =>
          let z := I'.pin (b, o) (List.mem_append_right _ (List.mem_append_right _ (mem_pinsAt hb e)))
          ⟨z.1, z.2.1⟩
        refine ⟨m', hm, i + 1, H', (I'.unpinned (pins := [])).weak (by rw [hl, ← hw8, wipe_length]) (fun j v e => ?_), T.keep _ _ _ st7 fun b hb o e => (pin' b hb o e).1, fun b hb => ?_, w'⟩
        · rw [← hw8] at e
          obtain ⟨e1, e2⟩ := wipe_some e
          refine hk j v ?_
          rw [wipe_out fun z => e2 (hv j z)]
          exact e1
        · obtain ⟨o, e, _⟩ := T.obj _ _ st7 b hb
          exact (pin' b hb o e).2
      cases b with
      | false =>
        simp only [Bool.false_eq_true, if_false] at q9 ⊢
        exact fin I9 rfl (fun j v e => (wipe_some e).1) q9
      | true =>
        simp only [if_true] at q9 ⊢
        exact thnF (pm.run _ s9 σ8 H9 _ I9 q9) fun _ s10 ⟨σ10, H10, I10, hl, hk, q⟩ => fin I10 hl hk q
  exact cStart_any rfl loop (T.self X.A 0 _ _ _ st4 loop)
theorem pe_scG (hw : X.w = w) (hc : X.calm = true) (hN : X.N.Nodup) (hi : PI X tg iter wi) (ok : BlkOk X.N X.env.scope scope own) (hv : ∀ i ∈ vs', i ∈ own.map (·.2))
    (hg : ∀ (s : Shared) (H : Hp) (C : Addr) (cl : List (PySem.Str × Addr)) (fp : List Addr), PG (X.blk s H scope (compEnvC scope cl C X.env) fp) tg g)
    (ht : ∀ (s : Shared) (H : Hp) (C : Addr) (cl : List (PySem.Str × Addr)) (fp : List Addr), PTs (X.blk s H scope (compEnvC scope cl C X.env) fp) ifs tt)
    (hm : ∀ (s : Shared) (H : Hp) (C : Addr) (cl : List (PySem.Str × Addr)) (fp : List Addr) (D : Addr), PM (X.blk s H scope (compEnvC scope cl C X.env) fp) (M (compEnvC scope cl C X.env) D) vs' (t D))
    (hT : ∀ it D env, compTurn (.SetComp elt (⟨tg, iter, ifs, 0⟩ :: rest) scope pos) 0 it (.ref D) env = turnM (.SetComp elt (⟨tg, iter, ifs, 0⟩ :: rest) scope pos) 0 tg iter.pos ifs (M env D) it (.ref D) env)
    (hs : ∀ x, foldedSetIterable iter X.env x = pure x := by intro _; rfl) :
    PE X (.SetComp elt (⟨tg, iter, ifs, 0⟩ :: rest) scope pos) (tScG w wi g tt t (own.map (·.2))) := by
  refine ⟨fun pins s σ H Q I h => ?_⟩
  show wpAny _ _ (comprehension (.SetComp elt (⟨tg, iter, ifs, 0⟩ :: rest) scope pos) scope X.env (firstIterPos (⟨tg, iter, ifs, 0⟩ :: rest) pos) (newSet (.type "set")) false (eval iter X.env)) _ _ _
  refine sc_core hw hc hN I hi ok hv hg ht hm hT hs h fun D C s' m H' I' q hn f => ⟨m, hn, fun h'' sb => ?_⟩
  obtain ⟨f0, f1, f2, f3, f4, f5⟩ := f
  exact ⟨.ref D, H', I'.turned (t' := s'.toks) (fun b o hb e => (sb.2 b hb).trans e) f0 f1 f3 f4 f5, rfl, q⟩
/-- name = {..} on one line, the name a local -/
theorem ps_setScG {i : Nat} {y : Str} {py spos : Pos} (hw : X.w = w) (hc : X.calm = true) (hN : X.N.Nodup) (hy : X.N[i]? = some y) (hyl : X.env.scope.names.lookup y = some .local)
    (hsw : swapsWith (.SetComp elt (⟨tg, iter, ifs, 0⟩ :: rest) scope pos) (some (.Name y py)) spos.line X.env = pure true) (hi : PI X tg iter wi) (ok : BlkOk X.N X.env.scope scope own) (hv : ∀ i ∈ vs', i ∈ own.map (·.2))
    (hg : ∀ (s : Shared) (H : Hp) (C : Addr) (cl : List (PySem.Str × Addr)) (fp : List Addr), PG (X.blk s H scope (compEnvC scope cl C X.env) fp) tg g)
    (ht : ∀ (s : Shared) (H : Hp) (C : Addr) (cl : List (PySem.Str × Addr)) (fp : List Addr), PTs (X.blk s H scope (compEnvC scope cl C X.env) fp) ifs tt)
    (hm : ∀ (s : Shared) (H : Hp) (C : Addr) (cl : List (PySem.Str × Addr)) (fp : List Addr) (D : Addr), PM (X.blk s H scope (compEnvC scope cl C X.env) fp) (M (compEnvC scope cl C X.env) D) vs' (t D))
    (hT : ∀ it D env, compTurn (.SetComp elt (⟨tg, iter, ifs, 0⟩ :: rest) scope pos) 0 it (.ref D) env = turnM (.SetComp elt (⟨tg, iter, ifs, 0⟩ :: rest) scope pos) 0 tg iter.pos ifs (M env D) it (.ref D) env)
    (hs : ∀ x, foldedSetIterable iter X.env x = pure x := by intro _; rfl) :
    PS X (.Assign [.Name y py] (.SetComp elt (⟨tg, iter, ifs, 0⟩ :: rest) scope pos) spos) (tAsg (tScG w wi g tt t (own.map (·.2))) (gName i)) := by
  refine ⟨fun pins s σ H D I h => ?_⟩
  rw [exec_Assign_Name_used _ _ _ _ hsw]
  refine wpAny_bind (wpAny_standAt (wpAny_bind ?_))
  show wpAny _ X.A (do let _ ← comprehension (.SetComp elt (⟨tg, iter, ifs, 0⟩ :: rest) scope pos) scope X.env (firstIterPos (⟨tg, iter, ifs, 0⟩ :: rest) pos) (newSet (.type "set")) false (eval iter X.env) (some (assign (.Name y py) X.env))) _ _ s
  have h : tScG w wi g tt t (own.map (·.2)) σ H (fun x H1 => gName i x σ H1 D.nx) := h
  refine wpAny_bind (thn (sc_core (Qf := fun _ s' => SP X pins D .next s') hw hc hN I hi ok hv hg ht hm hT hs h fun L C s' m H' I' q hn f => ?_) fun _ s' hq => wpAny_pure (wpAny_pure hq))
  show wpAny _ _ (assign (.Name y py) X.env (.ref L)) _ _ _
  refine wpAny_assign_Name (store_ok2 (v := V.ref L) I' hN hy (.inl hyl) rfl (fun s2 I2 ⟨a, sb, ha⟩ => ?_) (.inr hyl))
  obtain ⟨f0, f1, f2, f3, f4, f5⟩ := f
  have haC : C ≠ a := by
    rcases ha with z | z
    · rw [z]; exact f1
    · exact fun e => f4 y a z e.symm
  refine ⟨m, hn.sameBut sb haC, fun h3 sb3 => ?_⟩
  exact ⟨_, H', I2.turned (t' := s2.toks) (fun b o hb e => (sb3.2 b hb).trans e) f0 f1 f3 f4 f5, q⟩
theorem sw_trueS {gs : List Comprehension} {py : Pos} {y : Str} {l : Nat} {env : Env} (hk : env.scope.kind = .function) (hy : env.scope.names.lookup y = some .local) (hl : (py.line == pos.line) = true)
    (ha : (scope.names.any fun (n, k) => n == y && (k == .local || k == .cell)) = false) : swapsWith (.SetComp elt gs scope pos) (some (.Name y py)) l env = pure true := by
  have ky : env.kindOf y = some .local := hy
  have hb : env.blockKind = .function := by unfold Env.blockKind; rw [hk]; rfl
  unfold swapsWith
  simp only [hb, ky, ha, Expr.pos, hl]
  rfl
end
end K59
/-! R10 -/
set_option Elab.async false
set_option linter.all false
set_option maxRecDepth 100000
set_option maxHeartbeats 4000000
/-! sorted(xs, key=lambda x: x.f), the field a text -/
namespace K59
open PySem PySem.Spec PySem.W PyProof.Rows L2 LamX
/-- v.f is the text x, in the heap h -/
def FldS (K : Frag) (h : Heap) (v : Value) (f x : Str) : Prop := ∃ d C dx mA u, v = .ref d ∧ ObjM h d dx C mA ∧ mA f = some (.str x u) ∧ Cls K C ∧ NoAttr K C f
theorem FldS.keep {K : Frag} {h h' : Heap} {v : Value} {f x : Str} (k : ∀ b o, h.get? b = some o → h'.get? b = some o) (F : FldS K h v f x) : FldS K h' v f x := by
  obtain ⟨d, C, dx, mA, u, e, O, r⟩ := F
  refine ⟨d, C, dx, mA, u, e, ⟨k _ _ O.obj, ?_, O.ne⟩, r⟩
  obtain ⟨o, es, ep, ho, q⟩ := O.ns
  exact ⟨o, es, ep, k _ _ ho, q⟩
section
variable {P : Program} {w : World} {A : Around} {E : Value → Shared → Prop} {s : Shared} {K : Frag}
/-- such a lambda called -/
theorem call_lamfld {q c' : Addr} {qual a f x : Str} {params : Arguments} {p1 p2 : Pos} {scope : Scope} {cl : List (Str × Addr)} {pm ctv v : Value} {Q : Value → Shared → Prop} (hroom : A.depth < recursionLimit) (KX : K.In s.heap) (lim : s.heap.NoLimit)
    (hq : s.heap.get? q = some (kla_obj "<lambda>" qual params (.Attribute (.Name a p1) f p2) scope cl pm c' ctv)) (hk : scope.kind = .function) (hco : scope.isCoroutine = false) (hgen : scope.isGenerator = false) (hcell : ∀ y ∈ scope.names, y.2 ≠ .cell)
    (hbind : ∀ u, bindArgs (kla_fn "<lambda>" qual params (.Attribute (.Name a p1) f p2) scope cl pm (.ref c') ctv) ⟨[u], []⟩ = pure [(a, u)]) (hcode : s.heap.CodeRec (.ref c') qual) (ha : scope.names.lookup a = some .local) (hd : (a == ("__debug__" : Str)) = false)
    (F : FldS K s.heap v f x) (h : ∀ h' tk u, (∀ b o, s.heap.get? b = some o → h'.get? b = some o) → Q (.str x u) { s with heap := h', toks := tk }) :
    wpAny (model P w) A (call (.ref q) [v]) Q E s := by
  refine wpAny_call (kla_callFunE hroom hq rfl hco hgen rfl hcode ?_)
  rw [hbind]
  refine wpAny_pure (wpAny_newFunctionEnv hcell (fun y hy => by rw [List.mem_singleton.mp hy]; exact ha) (fun h₁ hns hsb => ⟨lim.fresh _ hsb, ?_⟩) hk)
  have kp : ∀ b o, s.heap.get? b = some o → h₁.get? b = some o := fun b o e => hsb.extBut b o (Nat.ne_of_lt (Heap.lt_size e)) (Heap.get?_push_of_some _ e)
  refine kla_codeExpr ?_
  refine Attribute_any_ ?_ (by rw [arm_eval_Attribute]; rfl)
  refine wpAny_Name (wpAny_loadName_local hk ha hns (v := v) ?_ ?_) hd
  · simp [List.lookup]
  · obtain ⟨d, C, dx, mA, u, e, O, hm, cC, nC⟩ := FldS.keep kp F
    subst e
    exact get_map (s := { s with heap := h₁, toks := s.toks + 1 }) (KX.keeps kp) O (cC.get f) cC.hd nC hm rfl (h h₁ _ u kp)
/-- the tail of list.sort: the sorted items in, the key store emptied -/
theorem key_tail {st : SortSt} {kS a : Addr} {keys : Array Value} {e e1 : Nat} {vs : List Value} {Pf : PySem.Fin → Shared → Prop} (hka : kS ≠ a) (hk : s.heap.get? kS = some (seqObj "list" keys e)) (ha : s.heap.get? a = some (seqObj "list" #[] e1)) (hsz : keys.size = vs.length) (h64 : vs.length < 64)
    (hp : (arrOf st).Perm (keys.zip vs.toArray)) (hfl : failedOf st = none)
    (h : ∀ h' out c, (∀ b o, b ≠ kS → b ≠ a → s.heap.get? b = some o → h'.get? b = some o) → h'.get? a = some (seqObj "list" out c) → out.toList.Perm vs → Pf (.done (.ret .none)) { s with heap := h' }) :
    wpAny (model P w) A (ksk_tail a false e1 (.ref kS) st) Pf E s := by
  have hsz2 : (arrOf st).size = vs.length := by rw [hp.size_eq, Array.size_zip, hsz, List.size_toArray, Nat.min_self]
  have hout : ((arrOf st).map (·.2)).size = vs.length := by rw [Array.size_map]; exact hsz2
  have s1 := Heap.SameBut.update s.heap kS (Obj.mapSeq fun _ => (#[] : Array Value))
  have na1 : (s.heap.update kS (Obj.mapSeq fun _ => (#[] : Array Value))).get? a = some (seqObj "list" #[] e1) := (s1.2 a hka.symm).trans ha
  have s2 := Heap.SameBut.update (s.heap.update kS (Obj.mapSeq fun _ => (#[] : Array Value))) a (Obj.mapSeq fun _ => (arrOf st).map (·.2))
  obtain ⟨c2, hc2⟩ : ∃ c2, ((s.heap.update kS (Obj.mapSeq fun _ => (#[] : Array Value))).update a (Obj.mapSeq fun _ => (arrOf st).map (·.2))).get? a = some (seqObj "list" ((arrOf st).map (·.2)) c2) := ⟨_, get?_update_seq na1 fun _ => (arrOf st).map (·.2)⟩
  unfold ksk_tail
  try dsimp only
  refine wpAny_bind (listUpdate_at hk rfl ?_ (by rw [hsz, sizeLine_eq]; omega) (Nat.zero_le _))
  refine wpAny_bind (wpAny_letGo ?_)
  refine wpAny_bind (seqEpoch_at na1 rfl ?_)
  refine wpAny_bind (listUpdate_at na1 rfl ?_ (Nat.zero_le _) (by simp only [Bool.false_eq_true, if_false]; refine Nat.le_trans (Nat.le_of_eq hout) ?_; rw [sizeLine_eq]; omega))
  rw [hfl]
  simp only [bne_self_eq_false, Bool.false_eq_true, if_false]
  refine wpAny_pure (h _ _ c2 (fun b o h1 h2 q => (s2.2 b h2).trans ((s1.2 b h1).trans q)) hc2 ?_)
  have h1 : (arrOf st).toList.Perm (keys.zip vs.toArray).toList := Array.perm_iff_toList_perm.mp hp
  rw [ksk_zip] at h1
  rw [Array.toList_map]
  have z := h1.map Prod.snd
  have hkl : keys.toList.length = vs.length := by rw [Array.length_toList]; exact hsz
  rw [List.map_snd_zip (Nat.le_of_eq hkl.symm)] at z
  exact z
theorem key_end {kS a : Addr} {keys : Array Value} {e e1 : Nat} {vs : List Value} {xs : List Str} {Pf : PySem.Fin → Shared → Prop} (hka : kS ≠ a) (hk : s.heap.get? kS = some (seqObj "list" keys e)) (ha : s.heap.get? a = some (seqObj "list" #[] e1)) (hS : StrsAre keys.toList xs) (hlen : xs.length = vs.length) (h64 : vs.length < 64)
    (h : ∀ h' out c, (∀ b o, b ≠ kS → b ≠ a → s.heap.get? b = some o → h'.get? b = some o) → h'.get? a = some (seqObj "list" out c) → out.toList.Perm vs → Pf (.done (.ret .none)) { s with heap := h' }) :
    wpAny (model P w) A (ksk_end a false vs.toArray e1 (.ref kS) keys) Pf E s := by
  have hsz : keys.size = vs.length := by
    have h1 := hS.length
    rw [Array.length_toList] at h1
    omega
  have hzs : (keys.zip vs.toArray).size = vs.length := by rw [Array.size_zip, hsz, List.size_toArray, Nat.min_self]
  unfold ksk_end
  try dsimp only
  simp only [Bool.false_eq_true, if_false]
  by_cases h2 : vs.toArray.size < 2
  · rw [if_pos h2, if_pos h2]
    refine wpAny_bind (wpAny_pure ?_)
    rw [StateT.run_pure]
    refine wpAny_bind (wpAny_pure ?_)
    try dsimp only
    exact key_tail (st := SortSt.mk' general' (keys.zip vs.toArray) #[] 7 none) hka hk ha hsz h64 (Array.Perm.refl _) rfl h
  · rw [if_neg h2, if_neg h2]
    rw [List.size_toArray] at h2
    obtain ⟨v₁, v₂, rest, ek⟩ : ∃ v₁ v₂ rest, keys.toList = v₁ :: v₂ :: rest := by
      have hl : 2 ≤ keys.toList.length := by rw [Array.length_toList, hsz]; omega
      cases q : keys.toList with
      | nil => rw [q] at hl; simp at hl
      | cons v₁ r =>
        cases r with
        | nil => rw [q] at hl; simp at hl
        | cons v₂ rest => exact ⟨v₁, v₂, rest, rfl⟩
    have ek2 : keys = (v₁ :: v₂ :: rest).toArray := by rw [← ek, Array.toArray_toList]
    have hkind : keyKind' keys = pure oneType' := by
      rw [ek2]
      exact keyKind_strs (by rw [← ek]; exact hS)
    have h0 : KeysOf PyProof.Rows.strKind (keys.zip vs.toArray) := by
      intro p hp
      rw [ksk_zip] at hp
      obtain ⟨x, y⟩ := p
      obtain ⟨z, t, e⟩ := hS.all _ (List.of_mem_zip hp).1
      exact ⟨_, by rw [e] <;> rfl⟩
    rw [hkind]
    refine wpAny_bind (wpAny_pure ?_)
    refine wpAny_bind (wpAny_mono (wpS_sortRunsK (a₀ := keys.zip vs.toArray) (st := SortSt.mk' oneType' (keys.zip vs.toArray) #[] 7 none)
      (Q := fun _ st' => (arrOf st').Perm (keys.zip vs.toArray) ∧ failedOf st' = none)
      strKind_oneLt h0 ⟨Array.Perm.refl _, rfl, rfl, rfl⟩ (by rw [hzs]; omega) (by rw [hzs]; exact h64) fun st' a1 a2 _ => ⟨a1, a2⟩) ?_ fun _ _ e => e)
    rintro ⟨⟨⟩, st'⟩ s' ⟨rfl, hp, hf⟩
    try dsimp only
    exact key_tail hka hk ha hsz h64 hp hf h
end
end K59
/-! R11 -/
set_option Elab.async false
set_option linter.all false
set_option maxRecDepth 100000
set_option maxHeartbeats 4000000
namespace K59
open PySem PySem.Spec PySem.W PyProof.Rows L2 LamX
section
variable {P : Program} {w : World} {A : Around} {E : Value → Shared → Prop} {s : Shared} {K : Frag}
theorem strs_snoc {x : Str} {t : Tok} : ∀ {vs : List Value} {ns : List Str}, StrsAre vs ns → StrsAre (vs ++ [.str x t]) (ns ++ [x])
  | _, _, .nil => .cons _ _ .nil
  | _, _, .cons x t h => .cons _ _ (strs_snoc h)
/-- the keys are computed, one by one; then the sort -/
theorem key_rest {kS a : Addr} {fv : Value} {e1 : Nat} {vs : List Value} {xs : List Str} {Pf : PySem.Fin → Shared → Prop} (hka : kS ≠ a) (hk : s.heap.get? kS = some (seqObj "list" #[] 0)) (ha : s.heap.get? a = some (seqObj "list" #[] e1)) (hlen : xs.length = vs.length) (h64 : vs.length < 64)
    (turn : ∀ (i : Nat) (v : Value) (x : Str), vs[i]? = some v → xs[i]? = some x → ∀ (h' : Heap) (tk : Nat), (∀ b o, b ≠ kS → b ≠ a → s.heap.get? b = some o → h'.get? b = some o) →
      wpAny (model P w) A (call fv [v]) (fun r s'' => ∃ h'' tk2 u, r = .str x u ∧ s'' = { s with heap := h'', toks := tk2 } ∧ ∀ b o, h'.get? b = some o → h''.get? b = some o) (fun _ _ => False) { s with heap := h', toks := tk })
    (h : ∀ h' tk out c, (∀ b o, b ≠ kS → b ≠ a → s.heap.get? b = some o → h'.get? b = some o) → h'.get? a = some (seqObj "list" out c) → out.toList.Perm vs → Pf (.done (.ret .none)) { s with heap := h', toks := tk }) :
    wpAny (model P w) A (ksk_rest a fv false vs.toArray e1 (.ref kS)) Pf E s := by
  unfold ksk_rest
  refine wpAny_bind (wpAny_rule ?_)
  first
    | rw [List.forIn_toArray]
    | (rw [← Array.forIn_toList]; simp only [List.toList_toArray])
    | rw [← Array.forIn_toList]
  refine wpAny_bind (ksk_fold (fun i s' => ∃ h' tk kA e, s' = { s with heap := h', toks := tk } ∧ (∀ b o, b ≠ kS → b ≠ a → s.heap.get? b = some o → h'.get? b = some o) ∧ h'.get? kS = some (seqObj "list" kA e) ∧ h'.get? a = some (seqObj "list" #[] e1) ∧ StrsAre kA.toList (xs.take i)) vs 0 s
    ⟨s.heap, s.toks, #[], 0, rfl, fun _ _ _ _ e => e, hk, ha, by simpa using StrsAre.nil⟩ ?step ?done)
  case step =>
    rintro j x s' hx ⟨h', tk, kA, e, rfl, kp, hk', ha', hS⟩
    simp only [Nat.zero_add] at hS ⊢
    have hj : j < vs.length := (List.getElem?_eq_some_iff.mp hx).1
    obtain ⟨k, hkj⟩ : ∃ k, xs[j]? = some k := ⟨_, List.getElem?_eq_getElem (by omega)⟩
    have hz : kA.size ≤ vs.length := by
      have h1 := hS.length
      rw [Array.length_toList, List.length_take] at h1
      omega
    refine wpAny_bind (wpAny_attempt (wpAny_mono (turn j x k hx hkj h' tk kp) (fun v s'' he => ?_) fun _ _ hF => hF.elim))
    obtain ⟨g, tk2, u, rfl, rfl, kp2⟩ := he
    try dsimp only
    have nk := kp2 _ _ hk'
    have na := kp2 _ _ ha'
    have s1 := Heap.SameBut.update g kS (Obj.mapSeq (·.push (Value.str k u)))
    obtain ⟨c2, hc2⟩ : ∃ c2, (g.update kS (Obj.mapSeq (·.push (Value.str k u)))).get? kS = some (seqObj "list" (kA.push (.str k u)) c2) := ⟨_, get?_update_seq nk (·.push (Value.str k u))⟩
    have ek : xs.take (j + 1) = xs.take j ++ [k] := by rw [List.take_add_one, hkj]; simp
    have ea : (kA.push (Value.str k u)).toList = kA.toList ++ [Value.str k u] := by simp
    refine wpAny_bind (listUpdate_at nk rfl ?_ (by rw [sizeLine_eq]; omega) (Nat.le_trans (Nat.le_of_eq (Array.size_push ..)) (by rw [sizeLine_eq]; omega)))
    refine wpAny_pure ⟨rfl, _, _, kA.push (.str k u), c2, rfl, fun b o h1 h2 q => (s1.2 b h1).trans (kp2 _ _ (kp b o h1 h2 q)), hc2, (s1.2 a hka.symm).trans na, by rw [ea, ek]; exact strs_snoc hS⟩
  case done =>
    rintro s' ⟨h', tk, kA, e, rfl, kp, hk', ha', hS⟩
    have hS' : StrsAre kA.toList xs := by
      have e3 : xs.take (0 + vs.length) = xs := List.take_of_length_le (by omega)
      rw [e3] at hS
      exact hS
    try dsimp only
    refine wpAny_bind (listItems_at hk' rfl ?_)
    exact key_end (s := { s with heap := h', toks := tk }) hka hk' ha' hS' hlen h64 fun h3 out c k3 ho hp => h h3 tk out c (fun b o h1 h2 q => k3 b o h1 h2 (kp b o h1 h2 q)) ho hp
/-- list.sort(key=f) -/
theorem key_sort {a : Addr} {fv : Value} {n : Nat} {vs : List Value} {xs : List Str} {Pf : PySem.Fin → Shared → Prop} (ho : s.heap.get? a = some (seqObj "list" vs.toArray n)) (hlen : xs.length = vs.length) (h64 : vs.length < 64)
    (turn : ∀ (i : Nat) (v : Value) (x : Str), vs[i]? = some v → xs[i]? = some x → ∀ (h' : Heap) (tk : Nat), (∀ b o, b ≠ a → s.heap.get? b = some o → h'.get? b = some o) →
      wpAny (model P w) A (call fv [v]) (fun r s'' => ∃ h'' tk2 u, r = .str x u ∧ s'' = { s with heap := h'', toks := tk2 } ∧ ∀ b o, h'.get? b = some o → h''.get? b = some o) (fun _ _ => False) { s with heap := h', toks := tk })
    (h : ∀ h' tk out c, (∀ b o, b ≠ a → s.heap.get? b = some o → h'.get? b = some o) → h'.get? a = some (seqObj "list" out c) → out.toList.Perm vs → Pf (.done (.ret .none)) { s with heap := h', toks := tk }) :
    wpAny (model P w) A (ksk_tree a fv false) Pf E s := by
  have ha : a < s.heap.objs.size := Heap.lt_size ho
  have s1 := Heap.SameBut.update s.heap a (Obj.mapSeq fun _ => (#[] : Array Value))
  obtain ⟨e1, ho1⟩ : ∃ e1, (s.heap.update a (Obj.mapSeq fun _ => (#[] : Array Value))).get? a = some (seqObj "list" #[] e1) := ⟨_, get?_update_seq ho fun _ => #[]⟩
  have hkS : ((s.heap.update a (Obj.mapSeq fun _ => (#[] : Array Value))).push (seqObj "tuple" vs.toArray 0)).objs.size = s.heap.objs.size + 1 := by rw [size_push', Heap.size_update]
  unfold ksk_tree
  refine wpAny_bind (listItems_at ho rfl ?_)
  refine wpAny_bind (listUpdate_at ho rfl ?_ (by rw [List.size_toArray, sizeLine_eq]; omega) (Nat.zero_le _))
  refine wpAny_bind (seqEpoch_at ho1 rfl ?_)
  refine wpAny_bind (wpAny_newTuple ?_ (by show vs.length ≤ _; rw [sizeLine_eq]; omega))
  refine wpAny_bind (wpAny_newList ?_ (Nat.zero_le _))
  refine wpAny_holding ?_
  have keep : ∀ b o, b ≠ a → s.heap.get? b = some o → (((s.heap.update a (Obj.mapSeq fun _ => (#[] : Array Value))).push (seqObj "tuple" vs.toArray 0)).push (seqObj "list" #[] 0)).get? b = some o := fun b o hb q => Heap.get?_push_of_some _ (Heap.get?_push_of_some _ ((s1.2 b hb).trans q))
  have old : ∀ b o, s.heap.get? b = some o → b ≠ ((s.heap.update a (Obj.mapSeq fun _ => (#[] : Array Value))).push (seqObj "tuple" vs.toArray 0)).objs.size := fun b o q => by
    rw [hkS]
    exact Nat.ne_of_lt (Nat.lt_succ_of_lt (Heap.lt_size q))
  refine key_rest (s := { s with heap := ((s.heap.update a (Obj.mapSeq fun _ => (#[] : Array Value))).push (seqObj "tuple" vs.toArray 0)).push (seqObj "list" #[] 0) }) (kS := ((s.heap.update a (Obj.mapSeq fun _ => (#[] : Array Value))).push (seqObj "tuple" vs.toArray 0)).objs.size)
    (by rw [hkS]; exact Nat.ne_of_gt (Nat.lt_succ_of_lt ha)) (Heap.get?_push_size _ rfl) (Heap.get?_push_of_some _ (Heap.get?_push_of_some _ ho1)) hlen h64 (fun i v x h1 h2 h' tk kp => ?_) fun h' tk out c kp ho hp => h h' tk out c (fun b o hb q => kp b o (old b o q) hb (keep b o hb q)) ho hp
  exact turn i v x h1 h2 h' tk fun b o hb q => kp b o (old b o q) hb (keep b o hb q)
/-- sorted(l, key=f), l a list or a tuple -/
theorem key_sorted {l q : Addr} {vs : List Value} {xs : List Str} {Q : Value → Shared → Prop} (hl : s.heap.IsList l vs.toArray ∨ s.heap.IsTuple l vs.toArray) (hlen : xs.length = vs.length) (h64 : vs.length < 64)
    (turn : ∀ (i : Nat) (v : Value) (x : Str), vs[i]? = some v → xs[i]? = some x → ∀ (h' : Heap) (tk : Nat), (∀ b o, s.heap.get? b = some o → h'.get? b = some o) →
      wpAny (model P w) A.in1.in1 (call (.ref q) [v]) (fun r s'' => ∃ h'' tk2 u, r = .str x u ∧ s'' = { s with heap := h'', toks := tk2 } ∧ ∀ b o, h'.get? b = some o → h''.get? b = some o) (fun _ _ => False) { s with heap := h', toks := tk })
    (h : ∀ D h' tk out c, (∀ b o, s.heap.get? b = some o → h'.get? b = some o) → s.heap.objs.size ≤ D → h'.get? D = some (seqObj "list" out c) → out.toList.Perm vs → Q (.ref D) { s with heap := h', toks := tk }) :
    wpAny (model P w) A (call (.builtin "sorted") [.ref l] [(Str.ofString "key", .ref q)]) Q E s := by
  refine call_function_entry_kw kind_sorted plain_sorted entry_sorted (ksk_s1 _ _) ?_
  unfold Builtin.«sorted»
  refine wpAny_bind (m := checkCount "sorted" 1 1 _) (wpAny_pure ?_)
  have rest : wpAny (model P w) A.in1 (do
      let l ← newList vs
      let _ ← holding [l] (call (Value.builtin "list.sort") [l] [(Str.ofString "key", .ref q)])
      ret l) (fun fin s' => ∃ v, fin = PySem.Fin.done (Flow.ret v) ∧ Q v s') E { s with heap := (s.heap.push (seqObj "list" #[] 0)).update s.heap.objs.size (Obj.mapSeq (· ++ vs.toArray)) } := by
    refine wpAny_bind (wpAny_newList ?_ (by rw [sizeLine_eq]; omega))
    have hsz : ((s.heap.push (seqObj "list" #[] 0)).update s.heap.objs.size (Obj.mapSeq (· ++ vs.toArray))).objs.size = s.heap.objs.size + 1 := by
      rw [Heap.size_update, size_push']
    have hoL : (((s.heap.push (seqObj "list" #[] 0)).update s.heap.objs.size (Obj.mapSeq (· ++ vs.toArray))).push (seqObj "list" vs.toArray 0)).get? (s.heap.objs.size + 1) = some (seqObj "list" vs.toArray 0) := by
      rw [← hsz]; exact Heap.get?_push_size _ rfl
    have keep : ∀ b o, s.heap.get? b = some o → (((s.heap.push (seqObj "list" #[] 0)).update s.heap.objs.size (Obj.mapSeq (· ++ vs.toArray))).push (seqObj "list" vs.toArray 0)).get? b = some o := fun b o q => by
      have hlt : b < s.heap.objs.size := Heap.lt_size q
      rw [Heap.get?_push_ne _ _ _ (by rw [hsz]; exact Nat.ne_of_lt (Nat.lt_succ_of_lt hlt)), Heap.get?_update_ne _ _ _ _ (Nat.ne_of_lt hlt), Heap.get?_push_ne _ _ _ (Nat.ne_of_lt hlt)]
      exact q
    have old : ∀ b o, s.heap.get? b = some o → b ≠ s.heap.objs.size + 1 := fun b o q => Nat.ne_of_lt (Nat.lt_succ_of_lt (Heap.lt_size q))
    show wpAny _ _ _ _ _ { s with heap := ((s.heap.push (seqObj "list" #[] 0)).update s.heap.objs.size (Obj.mapSeq (· ++ vs.toArray))).push (seqObj "list" vs.toArray 0) }
    rw [hsz]
    refine wpAny_bind (wpAny_holding (wpAny_call_entry_kw slot_list_sort ⟨_, hoL, rfl⟩ entry_list_sort ?body (ksk_l1 _ _)))
    case body =>
      rw [ksk_t1]
      refine key_sort (s := { s with heap := ((s.heap.push (seqObj "list" #[] 0)).update s.heap.objs.size (Obj.mapSeq (· ++ vs.toArray))).push (seqObj "list" vs.toArray 0) }) hoL hlen h64 (fun i v x h1 h2 h' tk kp => turn i v x h1 h2 h' tk fun b o q => kp b o (old b o q) (keep b o q)) fun h' tk out c kp ho hp => ⟨_, rfl, ?_⟩
      exact wpAny_pure ⟨_, rfl, h _ h' tk out c (fun b o q => kp b o (old b o q) (keep b o q)) (Nat.le_succ _) ho hp⟩
  rcases hl with hl | hl
  · exact wpAny_bind (collect_list hl rest (by rw [sizeLine_eq]; omega))
  · exact wpAny_bind (collect_tup hl rest (by rw [sizeLine_eq]; omega))
end
/-! ### the rule -/
/-- sorted(e, key=lambda x: x.f): a new list of the same, in some order; the code tables may have grown -/
def tSortKey (K : Frag) (T : List (Addr × Str)) (f : Str) (te : TE) : TE := fun σ H Q => te σ H fun v H1 => ∃ (l : Addr) (vs : List V), v = .ref l ∧ SqA K H1 l vs ∧ vs.length < 64 ∧
  (∀ x ∈ vs, ∃ a C dx fs s, x = V.ref a ∧ H1 a = some (.ins C dx fs) ∧ Cls K C ∧ NoAttr K C f ∧ fs.lookup f = some (.str s)) ∧ Tabs T H1 ∧ ∀ H2, ExtN H1 H2 → Tabs T H2 → ∀ ys p, ys.Perm vs → H2 p = none → Q (.ref p) (upd H2 p (.lst ys))
theorem extN_seq {K : Frag} {H H' : Hp} {a : Addr} {xs : List V} (e : ExtN H H') (h : SqL K H a xs) : SqL K H' a xs := by
  rcases h with (h | ⟨o, h⟩) | h
  · exact .inl (.inl (e _ _ h fun _ z => nomatch z))
  · exact .inl (.inr ⟨o, e _ _ h fun _ z => nomatch z⟩)
  · exact .inr h
theorem extN_tup {K : Frag} {H H' : Hp} {a : Addr} {xs : List V} (e : ExtN H H') (h : SqT K H a xs) : SqT K H' a xs := by
  rcases h with (h | ⟨o, h⟩) | h
  · exact .inl (.inl (e _ _ h fun _ z => nomatch z))
  · exact .inl (.inr ⟨o, e _ _ h fun _ z => nomatch z⟩)
  · exact .inr h
theorem flds_texts {P : Program} {w : World} {K : Frag} {H : Hp} {h : Heap} {f : Str} (hok : HOk P w H h) : ∀ {vs : List V} {its : List Value}, Vals vs its →
    (∀ x ∈ vs, ∃ a C dx fs s, x = V.ref a ∧ H a = some (.ins C dx fs) ∧ Cls K C ∧ NoAttr K C f ∧ fs.lookup f = some (.str s)) →
    ∃ xs : List Str, xs.length = its.length ∧ ∀ (i : Nat) v x, its[i]? = some v → xs[i]? = some x → FldS K h v f x
  | _, _, .nil, _ => ⟨[], rfl, fun i v x h1 _ => nomatch h1⟩
  | y :: vs, _ :: its, .cons r t, hf => by
    obtain ⟨a, C, dx, fs, s, e, hi, cC, nC, hl⟩ := hf y List.mem_cons_self
    subst e
    cases r
    obtain ⟨xs, h1, h2⟩ := flds_texts hok t fun z hz => hf z (List.mem_cons_of_mem _ hz)
    obtain ⟨mA, O, hm, _⟩ := ins_get hok hi
    have hm := hm f
    rw [hl] at hm
    refine ⟨s :: xs, by rw [List.length_cons, List.length_cons, h1], fun i v x e1 e2 => ?_⟩
    cases i with
    | succ i => exact h2 i v x e1 e2
    | zero =>
      cases e1
      cases e2
      cases hv : mA f with
      | none => rw [hv] at hm; exact hm.elim
      | some u =>
        rw [hv] at hm
        obtain ⟨k, e⟩ := (show RelV (.str s) u from hm)
        exact ⟨a, C, dx, mA, k, rfl, O, by rw [hv, e], cC, nC⟩
section
variable {X : Cx} {k : Nat} {T : List (Addr × Str)} {e : Expr} {te : TE} {c Pa : Addr} {a f : Str} {params : Arguments} {scope : Scope} {p p1 p2 p3 p4 pos : Pos}
theorem pe_sortKey (K : Frag) (hK : X.K = K) (hr : Room k X.A) (hc : X.calm = true) (he : PE X e te) (TB : TabB X.base X.mg c Pa) (hcode : X.env.code = .ref c) (hm : (Pa, X.env.qual ++ "<lambda>") ∈ T) (hu : ∀ q ∈ T, q.1 = Pa → q.2 = X.env.qual ++ "<lambda>")
    (hg : Gl X "sorted") (hmg : X.mg "sorted" = none) (hdef : defaultsOf params X.env = ([], [])) (hfree : ∀ y ∈ scope.names, y.2 ≠ .free) (hk : scope.kind = .function) (hco : scope.isCoroutine = false) (hgen : scope.isGenerator = false) (hcell : ∀ y ∈ scope.names, y.2 ≠ .cell)
    (hbind : ∀ (qual : Str) (cl : List (Str × Addr)) (pm cv ctv u : Value), bindArgs (kla_fn "<lambda>" qual params (.Attribute (.Name a p1) f p2) scope cl pm cv ctv) ⟨[u], []⟩ = pure [(a, u)]) (ha : scope.names.lookup a = some .local) (hd : (a == ("__debug__" : Str)) = false := by decide)
    (hst : starEach [e] X.env = [(false, eval e X.env)] := by rfl) :
    PE X (.Call (.Name "sorted" p) [e] [⟨some "key", .Lambda params (.Attribute (.Name a p1) f p2) scope p3, p4⟩] pos) (tSortKey K T f te) := by
  subst hK
  refine ⟨fun pins s σ H Q I h => ?_⟩
  refine wpAny_Call_Name_kw (ld_blt (u := .builtin "sorted") I hg hmg (by rfl) ?_)
  refine PyProof.Rows.callWith_builtin_kwB (by rw [hst]; rfl) rfl ?_
  refine evalArgs_kw2 rfl ?_ hst
  rw [hst]
  show wpAny _ _ (spliced ((false, eval e X.env) :: backTo pos [])) _ _ _
  refine Calls.spliced_cons (thn (he.run pins s σ H _ I h) fun u s1 ⟨v, H1, I1, r1, q1⟩ => Calls.spliced_nil ?_)
  obtain ⟨l, vs, ev, hs, h64, hf, hT, q⟩ := q1
  subst ev
  obtain rfl : u = Value.ref l := r1
  refine kwAll_cons (lam_make2 I1 TB hcode hm hu hT hdef (fun y hy e => absurd e (hfree y hy)) fun fa c' pm ctv H2 s2 I2 eN T2 hfa hfn hfr hco2 => kwAll_nil ?_)
  have hs2 : SqA X.K H2 l vs := hs.elim (fun z => .inl (extN_seq eN z)) (fun z => .inr (extN_tup eN z))
  have hf2 : ∀ x ∈ vs, ∃ a C dx fs s, x = V.ref a ∧ H2 a = some (.ins C dx fs) ∧ Cls X.K C ∧ NoAttr X.K C f ∧ fs.lookup f = some (.str s) := fun x hx => by
    obtain ⟨a, C, dx, fs, s, e1, e2, r⟩ := hf x hx
    exact ⟨a, C, dx, fs, s, e1, eN _ _ e2 (fun _ z => nomatch z), r⟩
  obtain ⟨⟨oc, ws, t, hoc, hdc, hvc⟩, _, _⟩ := I2.hok c' _ hco2
  have main : ∀ its, Vals vs its → vs.length ≤ sizeLine → ((s2.heap.IsList l its.toArray) ∨ (s2.heap.IsTuple l its.toArray)) → wpAny (model X.prog X.w) X.A (call (.builtin "sorted") [.ref l] [(Str.ofString "key", .ref fa)]) (EP X pins σ Q) X.xe s2 := fun its rv hz hor => by
    obtain ⟨e1, e2⟩ := refs_back rv fun x m => by
      obtain ⟨a, _, _, _, _, e, _⟩ := hf2 x m
      exact ⟨a, e⟩
    obtain ⟨xs, hx1, hx2⟩ := flds_texts I2.hok rv hf2
    refine key_sorted hor hx1 (by rw [← rv.length]; exact h64) (fun i v x h1 h2 h' tk kp => ?_) fun D h' tk out c k hD ho hp => ?_
    · refine call_lamfld (s := { s2 with heap := h', toks := tk }) hr.depth (I2.kIn.keeps kp) (I2.nolimit.keeps kp) (kp _ _ hfa) hk hco hgen hcell (fun u => hbind _ _ _ _ _ _) ⟨c', oc, ws, t, rfl, kp _ _ hoc, hdc, hvc⟩ ha hd ((hx2 i v x h1 h2).keep kp) fun h'' tk2 u kp2 => ⟨h'', tk2, u, rfl, rfl, kp2⟩
    · have h3 : ∀ u ∈ out.toList, ∃ a, u = Value.ref a := fun u hu => e2 u (hp.mem_iff.mp hu)
      have hp2 : (out.toList.map backV).Perm vs := by
        rw [e1]
        exact hp.map backV
      have hlen : (out.toList.map backV).length ≤ sizeLine := by
        rw [hp2.length_eq]
        exact hz
      exact ⟨.ref D, upd H2 D (.lst (out.toList.map backV)), I2.laid k hD ⟨hlen, out.toList, c, vals_back h3, ho⟩, rfl, q H2 eN T2 _ D hp2 (I2.hok.fresh hD)⟩
  rcases hs2 with hs | hs
  · obtain ⟨its, rv, hl, hz⟩ := I2.list hs
    exact main its rv hz (.inl hl.isList)
  · obtain ⟨its, rv, hl, hz⟩ := I2.tuple hs
    exact main its rv hz (.inr hl)
end
end K59
/-! R12 -/
set_option Elab.async false
set_option linter.all false
set_option maxRecDepth 100000
set_option maxHeartbeats 4000000
/-! x[e], x[e] = v, for .. in x, list(x) of an own class whose __iter__ hands out iter(self.f) -/
namespace K59
open PySem PySem.Spec PyProof.Rows L2
section
variable {X : Cx} {k : Nat} {f C : Addr} {sp : Sp} {pins : List (Addr × Obj)} {σ : L2.St} {H : Hp} {s : Shared} {A1 : Around}
theorem env_sub (sb : Sub X k A1) (I : Inv X pins σ H s) : Env0 X.prog X.w X.K X.mg X.base A1 X.stack s H := by
  have e := I.env0
  exact ⟨by rw [sb.fr]; exact e.frames, e.mod, e.bs, e.bsz, e.funs, e.frf, e.hok, e.bare⟩
theorem call_sub {us : List Value} {vs : List V} {Q : VK} {Ex : Value → Shared → Prop} (G : OkR X.prog X.w X.K X.mg X.base k f sp) (sb : Sub X k A1) (I : Inv X pins σ H s) (r : Vals vs us) (h : sp vs H Q E0) :
    wpAny (model X.prog X.w) A1 (call (.ref f) us) (EP X pins σ Q) Ex s := by
  refine wpAny_call (codeAny_mono (G.1 A1 X.stack s H us vs Q E0 sb.room (env_sub sb I) r h) fun r s' hq => ?_)
  cases r with
  | error e => exact False.elim hq
  | ok fl =>
    cases fl with
    | ret u => exact I.after hq
    | next => exact False.elim hq
    | brk => exact False.elim hq
    | cont => exact False.elim hq
end
/-! ### x[e], x[e] = v -/
def tOwn (C : Addr) (sp : Sp) (te ti : TE) : TE := fun σ H Q => te σ H fun x H1 => ti σ H1 fun y H2 => ∃ a dx fs, x = .ref a ∧ H2 a = some (.ins C dx fs) ∧ sp [.ref a, y] H2 Q E0
def rSetO (C : Addr) (sp : Sp) : TSet := fun o i v H Q => ∃ a dx fs, o = .ref a ∧ H a = some (.ins C dx fs) ∧ sp [.ref a, i, v] H (fun _ H' => Q H') E0
section
variable {X : Cx} {k : Nat} {f C : Addr} {sp : Sp} {e i : Expr} {te ti : TE} {pos : Pos}
theorem pe_own (M : Meth X.K C "__getitem__" f) (hf : PySem.W.fnIn X.K f = true) (G : OkR X.prog X.w X.K X.mg X.base k f sp) (hr : Room (k + 1) X.A) (he : PE X e te) (hi : PE X i ti)
    (hsl : ∀ x iv, subscripted i true (.ref x) iv = runValue (.builtin "lifetime.subscript" ⟨[.ref x, iv], []⟩)) : PE X (.Subscript e i pos) (tOwn C sp te ti) := by
  refine ⟨fun pins s σ H Q I h => ?_⟩
  refine Subscript_ (thn (he.run pins s σ H _ I h) fun u s1 ⟨x, H1, I1, rx, q1⟩ => thn (hi.run pins s1 σ H1 _ I1 q1) fun iv s2 ⟨y, H2, I2, ry, a, dx, fs, ex, ha, q2⟩ => ?_)
  subst ex
  obtain rfl : u = Value.ref a := rx
  obtain ⟨mA, J, _⟩ := ins_get I2.hok ha
  obtain ⟨od, J, _⟩ := J.look
  obtain ⟨m, hF⟩ := I2.fr
  exact PySem.W.sub_K hF I2.ok.mod.kin J M.at_ hf M.fn (call_sub G (Sub.in1 ⟨hr, rfl⟩) I2 (.cons (show RelV (.ref a) (.ref a) from rfl) (.cons ry .nil)) q2) (hsl a iv)
theorem set_own (M : Meth X.K C "__setitem__" f) (hq : PySem.W.noSeq X.K C = true) (G : OkR X.prog X.w X.K X.mg X.base k f sp) (hr : Room k X.A) : PSet X (rSetO C sp) := by
  intro pins s σ H o i v ov iv u Q I ro ri rv h
  obtain ⟨a, dx, fs, rfl, ha, q⟩ := h
  obtain rfl : ov = Value.ref a := ro
  obtain ⟨mA, J, _⟩ := ins_get I.hok ha
  obtain ⟨od, J, _⟩ := J.look
  obtain ⟨m, hF⟩ := I.fr
  refine PySem.W.ksp_setItem hF I.ok.mod.kin J hq M.at_ M.fn (thn (call_sub G ⟨hr, rfl⟩ I (.cons (show RelV (.ref a) (.ref a) from rfl) (.cons ri (.cons rv .nil))) q) fun u s1 ⟨x, H1, I1, _, q1⟩ => ?_)
  exact ⟨H1, I1, q1⟩
end
theorem fnIn_of {K : PySem.W.Frag} {p : Str × Option Str} {x qual : Str} {st : Stmt} {dvs : List V} {kws : List (Str × V)} (F : HasFn K p x qual st dvs kws) : PySem.W.fnIn K (He.fAd K p) = true := by
  obtain ⟨fd, F⟩ := F
  obtain ⟨oc, od, dV, kV, doc, pm, an, cdv, ct, osl, rfl, lk, _⟩ := F.ex
  unfold PySem.W.fnIn
  rw [lk]
/-! ### such an __iter__ -/
def ItFn (P : Program) (w : World) (K : PySem.W.Frag) (mg : Str → Option Value) (base : Heap) (k : Nat) (f C : Addr) (fld : Str) : Prop :=
  ∀ (A : Around) (outer : List Env) (s : Shared) (H : Hp) (a dx l : Addr) (fs : List (Str × V)) (zs : List V), Room k A → Env0 P w K mg base A outer s H → H a = some (.ins C dx fs) → fs.lookup fld = some (.ref l) → SqL K H l zs →
    codeAny (model P w) A (.call (.ref f) ⟨[.ref a], []⟩) (CR CX0 outer P w H s (fun v H' => ∃ it, v = .ref it ∧ s.heap.objs.size ≤ it ∧ H it = none ∧ H' = upd H it (ItO l it 0)) E0) s
theorem ItFn.mono {P : Program} {w : World} {K : PySem.W.Frag} {mg : Str → Option Value} {base : Heap} {j k : Nat} {f C : Addr} {fld : Str} (F : ItFn P w K mg base j f C fld) (h : j ≤ k) : ItFn P w K mg base k f C fld :=
  fun A outer s H a dx l fs zs hr => F A outer s H a dx l fs zs (hr.mono h)
section
variable {X : Cx} {k : Nat} {f C : Addr} {fld : Str} {pins : List (Addr × Obj)} {σ : L2.St} {H : Hp} {s : Shared} {A1 : Around}
/-- iter(x): the iterator, tracked -/
theorem iter_ownT {Q Ex : Value → Shared → Prop} {a dx l : Addr} {fs : List (Str × V)} {zs : List V} (M : Meth X.K C "__iter__" f) (F : ItFn X.prog X.w X.K X.mg X.base k f C fld) (sb : Sub X k A1) (I : Inv X pins σ H s) (ha : H a = some (.ins C dx fs)) (hf : fs.lookup fld = some (.ref l)) (hl : SqL X.K H l zs)
    (h : ∀ it s', Inv X pins σ (upd H it (ItO l it 0)) s' → H it = none → X.s_0.heap.objs.size ≤ it → Q (.ref it) s') : wpAny (model X.prog X.w) A1 (pyIter (.ref a)) Q Ex s := by
  obtain ⟨mA, J, _⟩ := ins_get I.hok ha
  obtain ⟨od, J, _⟩ := J.look
  obtain ⟨m, hF⟩ := I.fr
  refine PySem.W.owit_iter hF I.ok.mod.kin J M.at_ M.fn (wpAny_call (codeAny_mono (F A1 X.stack s H a dx l fs zs sb.room (env_sub sb I) ha hf hl) fun r s' hq => ?_))
  cases r with
  | error e => exact False.elim hq
  | ok fl =>
    cases fl with
    | next => exact False.elim hq
    | brk => exact False.elim hq
    | cont => exact False.elim hq
    | ret u =>
      obtain ⟨v, H', I', rv, it, ev, hsz, hn, eH⟩ := I.after hq
      subst ev
      subst eH
      obtain rfl : u = Value.ref it := rv
      have hi : upd H it (ItO l it 0) it = some (ItO l it 0) := upd_same
      have eo := itO_get I' hi
      have hT : s'.TypeIs (.ref it) "list_iterator" := ⟨_, eo, rfl⟩
      unfold PySem.W.OwitIt
      refine wpAny_specialOf (name := Str.ofString "__next__") hT slot_listiter_next.lookup ?_
      exact h it s' I' hn (Nat.le_trans I.sz hsz)
theorem it_drop {l it : Addr} (I : Inv X pins σ (upd H it (ItO l it 0)) s) (hn : H it = none) (hsz : X.s_0.heap.objs.size ≤ it) : Inv X pins σ H s ∧ s.heap.IsListIter it l 0 ∧ FpOk X pins H it := by
  have hi : upd H it (ItO l it 0) it = some (ItO l it 0) := upd_same
  have eo := itO_get I hi
  have hi' := hi
  unfold ItO at hi'
  have I2 := ItX.inv_drop I hi'
  have fp := ItX.inv_fp I hi hsz
  rw [ItX.dropH_upd hn] at I2 fp
  exact ⟨I2, ⟨_, eo, rfl, rfl⟩, fp⟩
/-- iter(x): the iterator, not tracked -/
theorem iter_own {Q Ex : Value → Shared → Prop} {a dx l : Addr} {fs : List (Str × V)} {zs : List V} (M : Meth X.K C "__iter__" f) (F : ItFn X.prog X.w X.K X.mg X.base k f C fld) (sb : Sub X k A1) (I : Inv X pins σ H s) (ha : H a = some (.ins C dx fs)) (hf : fs.lookup fld = some (.ref l)) (hl : SqL X.K H l zs)
    (h : ∀ it s', Inv X pins σ H s' → s'.heap.IsListIter it l 0 → FpOk X pins H it → Q (.ref it) s') : wpAny (model X.prog X.w) A1 (pyIter (.ref a)) Q Ex s :=
  iter_ownT M F sb I ha hf hl fun it s' I' hn hsz => let ⟨I2, st, fp⟩ := it_drop I' hn hsz; h it s' I2 st fp
end
/-- for .. in x -/
def iOwn (K : PySem.W.Frag) (C : Addr) (fld : Str) (te : TE) : TI := fun σ H R => te σ H fun x H1 => ∃ a dx fs l zs, x = .ref a ∧ H1 a = some (.ins C dx fs) ∧ fs.lookup fld = some (.ref l) ∧ SqL K H1 l zs ∧ R (Itl K l) H1
section
variable {X : Cx} {k : Nat} {f C : Addr} {fld : Str} {e tg : Expr} {te : TE}
theorem pi_own (K : PySem.W.Frag) (M : Meth K C "__iter__" f) (F : ItFn X.prog X.w K X.mg X.base k f C fld) (hr : Room k X.A) (he : PE X e te) (hK : X.K = K := by rfl) : PI X tg e (iOwn K C fld te) := by
  subst hK
  refine ⟨fun pins s σ H R I h => ?_⟩
  refine thn (he.run pins s σ H _ I h) fun u s1 ⟨x, H1, I1, rx, a, dx, fs, l, zs, ex, ha, hf, hl, q⟩ => ?_
  subst ex
  obtain rfl : u = Value.ref a := rx
  refine iter_own M F ⟨hr, rfl⟩ I1 ha hf hl fun it s' I2 st fp => ?_
  exact ⟨it, [it], _, _, H1, rfl, I2, turn_list l it, st, fun b hb => by rw [List.mem_singleton.mp hb]; exact fp, q⟩
end
end K59
/-! R13 -/
set_option Elab.async false
set_option linter.all false
set_option maxRecDepth 100000
set_option maxHeartbeats 4000000
/-! list(x) of an own class whose __iter__ hands out iter(self.f), with a __len__ -/
namespace K59
open PySem PySem.Spec PyProof.Rows L2
def spLenO (K : PySem.W.Frag) (C : Addr) (fld : Str) : Sp := fun vs H Q _ => ∃ a dx fs l zs, vs = [.ref a] ∧ H a = some (.ins C dx fs) ∧ fs.lookup fld = some (.ref l) ∧ SqL K H l zs ∧ Q (.int zs.length) H
def rListO (K : PySem.W.Frag) (C : Addr) (fld : Str) : List V → Hp → VK → Prop := fun vs H Q => ∃ a dx fs l zs, vs = [.ref a] ∧ H a = some (.ins C dx fs) ∧ fs.lookup fld = some (.ref l) ∧ SqL K H l zs ∧ ∀ q, H q = none → Q (.ref q) (upd H q (.lst zs))
section
variable {X : Cx} {k : Nat} {f fl C : Addr} {fld : Str} {pins : List (Addr × Obj)} {σ : L2.St} {H : Hp} {s : Shared} {A1 : Around}
theorem hint_own {Q : Bool → Shared → Prop} {a dx l : Addr} {fs : List (Str × V)} {zs : List V} (ML : Meth X.K C "__len__" fl) (GL : OkR X.prog X.w X.K X.mg X.base k fl (spLenO X.K C fld)) (sb : Sub X (k + 1) A1) (I : Inv X pins σ H s) (ha : H a = some (.ins C dx fs)) (hf : fs.lookup fld = some (.ref l)) (hl : SqL X.K H l zs)
    (h : ∀ b s', Inv X pins σ H s' → Q b s') : wpAny (model X.prog X.w) A1 (Builtin.List.listLengthHint (.ref a)) Q X.xe s := by
  obtain ⟨mA, J, _⟩ := ins_get I.hok ha
  obtain ⟨od, J, _⟩ := J.look
  obtain ⟨m, hF⟩ := I.fr
  have hz : zs.length ≤ sizeLine := by
    obtain ⟨_, _, _, z⟩ := I.list hl
    exact z
  unfold Builtin.List.listLengthHint
  refine wpAny_bind (wpAny_bind (J.type.here ((PySem.W.looks_findIn I.kIn ML.at_).here ?_)))
  refine PySem.W.KFB.if_not rfl ?_
  refine PySem.W.KFB.if_so rfl ?_
  refine wpAny_bind (wpAny_rule ?_)
  refine wpAny_bind (wpAny_attempt ?_)
  refine PySem.W.len_K hF I.ok.mod.kin J ML.at_ ML.fn (wpAny_mono (call_sub (Q := fun v H' => v = .int zs.length ∧ H' = H) GL (Sub.in1 sb) I (.cons (show RelV (.ref a) (.ref a) from rfl) .nil) ⟨a, dx, fs, l, zs, rfl, ha, hf, hl, rfl, rfl⟩) (fun u s1 he => ?_) fun _ _ z => z)
  obtain ⟨x, H1, I1, rx, ex, eH⟩ := he
  subst ex
  subst eH
  obtain ⟨t, rfl⟩ := rx
  rw [sizeLine_eq] at hz
  refine ⟨⟨by omega, by omega⟩, ?_⟩
  have hlt : Builtin.List.listTooLong (zs.length : Int).toNat = false := notLongL (by rw [sizeLine_eq, Int.toNat_natCast]; exact hz)
  dsimp only
  refine wpAny_bind (m := asInt? _) (wpAny_pure ?_)
  refine PySem.W.KFB.if_not hlt ?_
  exact wpAny_pure (h _ _ (I1.kept (t' := s1.toks + 1) fun b o e => e))
/-- the walk that fills the list at q -/
theorem loop_own {q l it : Addr} {zs : List V} {Rs : Result → Shared → Prop} (hA : A1.handled = none) (hq : q ≠ it) (hL : ∀ i, SqL X.K (upd H q (.lst (zs.take i))) l zs) (hn : H it = none)
    (hdone : ∀ s', Inv X pins σ (upd H q (.lst zs)) s' → Rs (.ok (.ret .none)) s') :
    ∀ (k i : Nat) (s : Shared), zs.length - i = k → i ≤ zs.length → Inv X pins σ (upd H q (.lst (zs.take i))) s → FpOk X pins (upd H q (.lst (zs.take i))) it → s.heap.IsListIter it l i → codeAny (model X.prog X.w) A1 (.builtin "list.extend.loop" ⟨[.ref q, .ref it, .none], []⟩) Rs s := by
  intro k
  induction k with
  | zero =>
    intro i s hk hi I fp st
    obtain ⟨its, rv, p, hz⟩ := I.list (hL i)
    obtain ⟨f0, f1, f2, f3, f4, f5⟩ := fp
    have hl := rv.length
    refine codeAny_builtin PySem.F.entry_extend_loop ?_
    rw [Around.under_plainId PySem.F.plain_extend_loop _]
    show wpAny _ A1.in1 (pyNext (.ref it) >>= _) _ _ s
    refine wpAny_bind (wpAny_pyNext_list_end hA st p.isList (by simp; omega) fun h' eb => ?_)
    have e : zs.take i = zs := List.take_of_length_le (by omega)
    rw [e] at I f0
    exact wpAny_pure (hdone _ (I.turned (t' := s.toks) (fun b o hb e => eb b o hb e) f0 f1 f3 f4 f5))
  | succ k ih =>
    intro i s hk hi I fp st
    obtain ⟨its, rv, p, hz⟩ := I.list (hL i)
    obtain ⟨f0, f1, f2, f3, f4, f5⟩ := id fp
    have hlt : i < zs.length := by omega
    have hx : zs[i]? = some zs[i] := List.getElem?_eq_getElem hlt
    obtain ⟨u, hu, ru⟩ := rv.get hx
    refine codeAny_builtin PySem.F.entry_extend_loop ?_
    rw [Around.under_plainId PySem.F.plain_extend_loop _]
    show wpAny _ A1.in1 (pyNext (.ref it) >>= _) _ _ s
    refine wpAny_bind (wpAny_pyNext_list_item st p.isList (x := u) (by simpa using hu) fun h' st' sb => ?_)
    have I1 : Inv X pins σ (upd H q (.lst (zs.take i))) { s with heap := h' } := I.turned (t' := s.toks) (fun b o hb e => (sb.2 b hb).trans e) f0 f1 f3 f4 f5
    show wpAny _ A1.in1 (updateSeq q (·.push u) >>= _) _ _ _
    obtain ⟨z, itq, kq, rq, hlq, eq⟩ := I1.lstM upd_same
    have hsz : itq.length = i := by rw [← hlq, List.length_take]; omega
    have e2 : zs.take (i + 1) = zs.take i ++ [zs[i]] := by rw [List.take_add_one, hx]; rfl
    have I2 := I1.lset (f := fun x => x.push u) (its' := itq ++ [u]) (ys := zs.take i ++ [zs[i]]) (t' := s.toks) upd_same eq (by simp) (rq.append (.cons ru .nil)) (by rw [List.length_append, List.length_take, List.length_singleton]; omega)
    rw [upd_upd, ← e2] at I2
    refine wpAny_bind (wpAny_updateSeq eq rfl (wpAny_pure ⟨plainId_quiet PySem.F.plain_extend_loop _, ?_⟩) (by rw [List.size_toArray]; omega) (by show (itq.toArray.push u).size ≤ sizeLine + 1; rw [Array.size_push, List.size_toArray]; omega))
    have f0' : upd H q (.lst (zs.take (i + 1))) it = none := by rw [upd_ne hq.symm]; exact hn
    refine ih (i + 1) _ (by omega) (by omega) I2 ⟨f0', f1, f2, f3, f4, f5⟩ (st'.at fun o e => ?_)
    exact (Heap.get?_update_other _ _ hq).trans e
theorem cr_listOwn (K : PySem.W.Frag) (M : Meth K C "__iter__" f) (F : ItFn X.prog X.w K X.mg X.base k f C fld) (ML : Meth K C "__len__" fl) (GL : OkR X.prog X.w K X.mg X.base k fl (spLenO K C fld)) (hr : Room (k + 3) X.A) (hc : X.calm = true := by rfl) (hK : X.K = K := by rfl) :
    CallR X (.type "list") (rListO K C fld) := by
  subst hK
  intro pins s σ H xs us Q I rv h
  obtain ⟨a, dx, fs, l, zs, rfl, ha, hf, hl, hq⟩ := h
  obtain ⟨u, rfl, ru⟩ := rv.one
  cases ru
  have sb : Sub X (k + 1) X.A.in1.in1 := Sub.in1 (Sub.in1 (⟨hr, rfl⟩ : Sub X (k + 3) X.A))
  refine callType_codes (Q₁ := fun obj s₁ => obj = .ref s.heap.objs.size ∧ s₁ = { s with heap := s.heap.push { cls := .type "list", data := .seq #[] } }) PySem.F.called_list (PySem.F.typeCall_list_1 _) PySem.F.entry_list_init
    (code_list_new _ ⟨rfl, rfl⟩) fun obj s₁ h₁ => ?_
  obtain ⟨rfl, rfl⟩ := h₁
  have hS : (s.heap.push { cls := .type "list", data := .seq #[] }).get? s.heap.objs.size = some { cls := .type "list", data := .seq #[] } := Heap.get?_push_size _ rfl
  refine ⟨⟨_, hS, rfl⟩, PySem.F.args_list_init_2 _ _, ?_⟩
  have fr : H s.heap.objs.size = none := I.hok.fresh (Nat.le_refl _)
  have I1 : Inv X pins σ (upd H s.heap.objs.size (.lst [])) { s with heap := s.heap.push { cls := .type "list", data := .seq #[] } } := I.lnew (its := []) (t' := s.toks) .nil (Nat.zero_le _)
  show wpAny _ _ (do let old ← Builtin.List.listItems (.ref s.heap.objs.size); Builtin.List.listUpdate (.ref s.heap.objs.size) (fun _ => #[]); letGo old.toList.reverse; Builtin.List.listExtendWith (.ref s.heap.objs.size) (.ref a) .none) _ _ _
  refine wpAny_bind ?_
  unfold Builtin.List.listItems
  refine wpAny_bind (wpAny_seqItems hS rfl (wpAny_pure ?_))
  show wpAny _ _ (updateSeq s.heap.objs.size (fun _ => #[]) >>= fun _ => letGo (#[] : Array Value).toList.reverse >>= fun _ => Builtin.List.listExtendWith (.ref s.heap.objs.size) (.ref a) .none) _ _ _
  refine wpAny_bind (wpAny_updateSeq hS rfl ?_)
  have I2 := I1.lset (f := fun _ => #[]) (its := []) (its' := []) (ys := []) (t' := s.toks) upd_same hS rfl .nil (Nat.zero_le _)
  rw [upd_upd] at I2
  refine wpAny_bind (wpAny_letGo ?_)
  have ha2 : upd H s.heap.objs.size (.lst []) a = some (.ins C dx fs) := by rw [upd_ne (ne_of_none ha fr)]; exact ha
  have hl2 : SqL X.K (upd H s.heap.objs.size (.lst [])) l zs := Same.seq (same_upd fr) hl
  have hne : s.heap.objs.size ≠ a := (ne_of_none ha fr).symm
  obtain ⟨mA, J, _⟩ := ins_get I2.hok ha2
  obtain ⟨od, J, _⟩ := J.look
  unfold Builtin.List.listExtendWith
  refine wpAny_bind (J.type.here ?_)
  have h1 : Builtin.List.listSameRef (.ref s.heap.objs.size) (.ref a) = false := by simp [Builtin.List.listSameRef, hne]
  have h2 : (Value.ref C == Value.type "list") = false := rfl
  have h3 : (Value.ref C == Value.type "tuple") = false := rfl
  simp only [h1, h2, h3, Bool.or_false, Bool.false_eq_true, if_false]
  refine wpAny_bind (iter_ownT M F (sb.mono (Nat.le_succ k)) I2 ha2 hf hl2 fun it s3 I3 hn hsz => ?_)
  have sm : ∀ o, Same (upd H s.heap.objs.size (.lst [])) (upd (upd H s.heap.objs.size (.lst [])) it o) := fun o => same_upd hn
  refine wpAny_bind (wpAny_holding (hint_own ML GL sb I3 (sm _ _ _ ha2) hf (Same.seq (sm _) hl2) fun b s4 I4 => ?_))
  obtain ⟨I5, st, fp⟩ := it_drop I4 hn hsz
  have hqi : s.heap.objs.size ≠ it := fun e => by rw [e, upd_same] at hn; cases hn
  have hni : H it = none := by rw [upd_ne hqi.symm] at hn; exact hn
  have fin : ∀ s5, Inv X pins σ (upd H s.heap.objs.size (.lst [])) s5 → s5.heap.IsListIter it l 0 → codeAny (model X.prog X.w) X.A.in1 (.builtin "list.extend.loop" ⟨[.ref s.heap.objs.size, .ref it, .none], []⟩) (wants (fun r s₂ => r = .none ∧ EP X pins σ Q (.ref s.heap.objs.size) s₂) X.xe) s5 := fun s5 I5 st => by
    exact loop_own (A1 := X.A.in1) (H := H) (l := l) (zs := zs) (show X.A.in1.handled = none from I.ok.hd hc) hqi (fun i => Same.seq (same_upd fr) hl) hni (fun s' J' => ⟨rfl, .ref _, _, J', rfl, hq _ fr⟩) zs.length 0 s5 rfl (Nat.zero_le _) I5 fp st
  refine wpAny_ite_split (fun _ => ?_) (fun _ => wpAny_pure ⟨plainId_quiet PySem.F.plain_extend_loop _, fin s4 I5 st⟩)
  obtain ⟨z, its, kk, r3, hl3, e3⟩ := I5.lstM upd_same
  cases r3
  refine wpAny_bind (wpAny_rule ?_)
  refine wpAny_bind ?_
  show wpAny _ _ (updateSeq s.heap.objs.size (·.push .none) >>= fun _ => updateSeq s.heap.objs.size (·.pop)) _ _ _
  refine wpAny_bind (wpAny_updateSeq e3 rfl ?_)
  have I6 := I5.lset (f := (·.push Value.none)) (its' := [Value.none]) (ys := [.non]) (t' := s4.toks) upd_same e3 (by simp) (.cons rfl .nil) (by rw [List.length_singleton, sizeLine_eq]; decide)
  obtain ⟨z4, its4, k4, r4, hl4, e4⟩ := I6.lstM upd_same
  obtain ⟨u4, rfl, ru4⟩ := r4.one
  refine wpAny_updateSeq e4 rfl ?_ (by show 1 ≤ sizeLine; rw [sizeLine_eq]; decide) (by show 0 ≤ sizeLine + 1; exact Nat.zero_le _)
  have I7 := I6.lset (f := (·.pop)) (its := [u4]) (its' := []) (ys := []) (t' := s4.toks) upd_same e4 (by rfl) .nil (Nat.zero_le _)
  rw [upd_upd, upd_upd] at I7
  refine wpAny_pure ⟨plainId_quiet PySem.F.plain_extend_loop _, fin _ I7 (st.at fun o e => ?_)⟩
  exact (Heap.get?_update_other _ _ hqi).trans ((Heap.get?_update_other _ _ hqi).trans e)
end
end K59
/-! K59U -/
set_option Elab.async false
set_option linter.all false
set_option maxRecDepth 100000
namespace K59
open PySem PySem.Spec PyProof.Rows L2
structure Tx1 (P : Program) (K : PySem.W.Frag) (mg : Str → Option Value) : Prop extends Tx0 K mg where
  f_Deed_init : HasFn K ("Deed", some "__init__") "__init__" "Deed.__init__" (inClass (top 32) 1) [] []
  v_Note_init : HasFnA K (He.fAd K ("Note", some "__init__")) "__init__" "Note.__init__" (inClass (top 26) 0)
  v_Book_init : HasFnA K (He.fAd K ("Book", some "__init__")) "__init__" "Book.__init__" (inClass (top 58) 0)
  s_Make : HasSup P K ("Make", some "__init__") "__init__" "Make.__init__" (inClass (top 33) 1) (He.ga K "Make") (He.fAd K ("Deed", some "__init__"))
  s_Change : HasSup P K ("Change", some "__init__") "__init__" "Change.__init__" (inClass (top 34) 1) (He.ga K "Change") (He.fAd K ("Deed", some "__init__"))
  s_End : HasSup P K ("End", some "__init__") "__init__" "End.__init__" (inClass (top 35) 1) (He.ga K "End") (He.fAd K ("Deed", some "__init__"))
  r_Change : ClX.CRead K (He.ga K "Change") (.type "type")
  m_Change_of : ClX.CMet K (He.ga K "Change") (.type "type") "of" (He.ma K (He.ga K "Change") "of") (He5.wf K (He.ga K "Change") "classmethod" "of")
  v_Change_of : HasFnA K (He5.wf K (He.ga K "Change") "classmethod" "of") "of" "Change.of" (inClass (top 34) 2)
  r_End : ClX.CRead K (He.ga K "End") (.type "type")
  m_End_of : ClX.CMet K (He.ga K "End") (.type "type") "of" (He.ma K (He.ga K "End") "of") (He5.wf K (He.ga K "End") "classmethod" "of")
  v_End_of : HasFnA K (He5.wf K (He.ga K "End") "classmethod" "of") "of" "End.of" (inClass (top 35) 2)
  r_Book : ClX.CRead K (He.ga K "Book") (.type "type")
  m_Book_of : ClX.CMet K (He.ga K "Book") (.type "type") "of" (He.ma K (He.ga K "Book") "of") (He5.wf K (He.ga K "Book") "classmethod" "of")
  v_Book_of : HasFnA K (He5.wf K (He.ga K "Book") "classmethod" "of") "of" "Book.of" (inClass (top 58) 1)
  t_get : PySem.W.specialIn K (.builtin "object.__class__") "__get__" = some (some (.builtin "getset_descriptor.__get__"))
  t_takes : PySem.W.takesIn K (.builtin "object.__class__") = some true
  t_Note : PySem.W.findIn K (.ref (He.ga K "Note")) "__class__" = some (some (.builtin "object.__class__"))
  o_Note : PySem.W.mroIn K (He.ga K "Note") (.type "object") = some true
  t_Make : PySem.W.findIn K (.ref (He.ga K "Make")) "__class__" = some (some (.builtin "object.__class__"))
  o_Make : PySem.W.mroIn K (He.ga K "Make") (.type "object") = some true
  t_Change : PySem.W.findIn K (.ref (He.ga K "Change")) "__class__" = some (some (.builtin "object.__class__"))
  o_Change : PySem.W.mroIn K (He.ga K "Change") (.type "object") = some true
  t_End : PySem.W.findIn K (.ref (He.ga K "End")) "__class__" = some (some (.builtin "object.__class__"))
  o_End : PySem.W.mroIn K (He.ga K "End") (.type "object") = some true
  x_Make_Make : PySem.W.kitOne K (.ref (He.ga K "Make")) (.ref (He.ga K "Make")) = some true
  x_Make_Change : PySem.W.kitOne K (.ref (He.ga K "Make")) (.ref (He.ga K "Change")) = some false
  x_Make_End : PySem.W.kitOne K (.ref (He.ga K "Make")) (.ref (He.ga K "End")) = some false
  x_Change_Make : PySem.W.kitOne K (.ref (He.ga K "Change")) (.ref (He.ga K "Make")) = some false
  x_Change_Change : PySem.W.kitOne K (.ref (He.ga K "Change")) (.ref (He.ga K "Change")) = some true
  x_Change_End : PySem.W.kitOne K (.ref (He.ga K "Change")) (.ref (He.ga K "End")) = some false
  x_End_Make : PySem.W.kitOne K (.ref (He.ga K "End")) (.ref (He.ga K "Make")) = some false
  x_End_Change : PySem.W.kitOne K (.ref (He.ga K "End")) (.ref (He.ga K "Change")) = some false
  x_End_End : PySem.W.kitOne K (.ref (He.ga K "End")) (.ref (He.ga K "End")) = some true
end K59
/-! K59V -/
set_option Elab.async false
set_option linter.all false
set_option maxRecDepth 100000
namespace K59
open PySem PySem.Spec PyProof.Rows L2
structure Tx2 (P : Program) (K : PySem.W.Frag) (mg : Str → Option Value) : Prop extends Tx1 P K mg where
  f_Book_len : HasFn K ("Book", some "__len__") "__len__" "Book.__len__" (inClass (top 58) 3) [] []
  m_Book_len : Meth K (He.ga K "Book") "__len__" (He.fAd K ("Book", some "__len__"))
  q_Prices : PySem.W.noSeq K (He.ga K "Prices") = true
theorem iteB {b : Bool} {p q : Prop} (hb : b = true) (h : p) : (if b = true then p else q) := by rw [if_pos hb]; exact h
theorem iteN {b : Bool} {p q : Prop} (hb : b = false) (h : q) : (if b = true then p else q) := by rw [if_neg (by rw [hb]; exact Bool.false_ne_true)]; exact h
/-- a test told once, then one of the two ways -/
theorem ifS_by {c : TT} {A B : TS} {D : Ends} {σ : L2.St} {H : Hp} (b : Bool) (hc : ∀ Q : Bool → Hp → Prop, Q b H → c σ H Q) (h : if b = true then A D σ H else B D σ H) : tIfS c A B D σ H := hc _ h
theorem asg_by {te : TE} {g : TG} {D : Ends} {σ : L2.St} {H : Hp} (v : V) (hc : ∀ Q : V → Hp → Prop, Q v H → te σ H Q) (h : g v σ H D.nx) : tAsg te g D σ H := hc _ h
section
variable (K : PySem.W.Frag) {X : Cx}
theorem op_catAK (h : X.K = K := by rfl) : OpR X (binaryOp .Add) (rCatA K) := h ▸ op_catA
end
end K59
/-! R14 -/
set_option Elab.async false
set_option linter.all false
set_option maxRecDepth 100000
set_option maxHeartbeats 4000000
namespace K59
open PySem PySem.Spec PyProof.Rows L2
/-! ### a set comprehension of texts with three clauses -/
section
variable {X : Cx} {elt tg1 tg2 tg3 it1 it2 it3 : Expr} {ifs1 ifs2 ifs3 : List Expr} {scope : Scope} {own : List (PySem.Str × Nat)} {vs2 vs3 : List Nat} {pos : Pos} {wi1 wi2 wi3 : TI} {g1 g2 g3 : TG} {tt1 tt2 tt3 : TT} {te : TE}
theorem ct0 (it : Value) (D : Addr) (env : Env) : compTurn (.SetComp elt [⟨tg1, it1, ifs1, 0⟩, ⟨tg2, it2, ifs2, 0⟩, ⟨tg3, it3, ifs3, 0⟩] scope pos) 0 it (.ref D) env = turnM (.SetComp elt [⟨tg1, it1, ifs1, 0⟩, ⟨tg2, it2, ifs2, 0⟩, ⟨tg3, it3, ifs3, 0⟩] scope pos) 0 tg1 it1.pos ifs1 (clauseM (.SetComp elt [⟨tg1, it1, ifs1, 0⟩, ⟨tg2, it2, ifs2, 0⟩, ⟨tg3, it3, ifs3, 0⟩] scope pos) 1 it2 env (.ref D)) it (.ref D) env := by
  unfold compTurn turnM clauseM
  simp only [bind_assoc]
  rfl
theorem ct1 (it : Value) (D : Addr) (env : Env) : compTurn (.SetComp elt [⟨tg1, it1, ifs1, 0⟩, ⟨tg2, it2, ifs2, 0⟩, ⟨tg3, it3, ifs3, 0⟩] scope pos) 1 it (.ref D) env = turnM (.SetComp elt [⟨tg1, it1, ifs1, 0⟩, ⟨tg2, it2, ifs2, 0⟩, ⟨tg3, it3, ifs3, 0⟩] scope pos) 1 tg2 it2.pos ifs2 (clauseM (.SetComp elt [⟨tg1, it1, ifs1, 0⟩, ⟨tg2, it2, ifs2, 0⟩, ⟨tg3, it3, ifs3, 0⟩] scope pos) 2 it3 env (.ref D)) it (.ref D) env := by
  unfold compTurn turnM clauseM
  simp only [bind_assoc]
  rfl
theorem ct2 (it : Value) (D : Addr) (env : Env) : compTurn (.SetComp elt [⟨tg1, it1, ifs1, 0⟩, ⟨tg2, it2, ifs2, 0⟩, ⟨tg3, it3, ifs3, 0⟩] scope pos) 2 it (.ref D) env = turnM (.SetComp elt [⟨tg1, it1, ifs1, 0⟩, ⟨tg2, it2, ifs2, 0⟩, ⟨tg3, it3, ifs3, 0⟩] scope pos) 2 tg3 it3.pos ifs3 (emitS elt env (.ref D)) it (.ref D) env := by
  unfold compTurn turnM emitS
  simp only [bind_assoc]
  rfl
abbrev tEmit (w : World) (te : TE) (D : Addr) : L2.St → Hp → (Hp → Prop) → Prop := fun σ H nx => te σ H fun y H1 => ∃ (c : Str) (S : Str → Bool) (n : Nat), y = .str c ∧ H1 D = some (SetSO w D S n) ∧ n + 1 < scanBound ∧ nx (upd H1 D (SetSO w D (fun j => S j || decide (j = c)) (if S c = true then n else n + 1)))
theorem pe_sc3 (w : World) (vs2 vs3 : List Nat) (hw : X.w = w) (hc : X.calm = true) (hN : X.N.Nodup) (hi1 : PI X tg1 it1 wi1) (ok : BlkOk X.N X.env.scope scope own) (hv2 : ∀ i ∈ vs2, i ∈ own.map (·.2)) (hv3 : ∀ i ∈ vs3, i ∈ vs2)
    (hg1 : ∀ (s : Shared) (H : Hp) (C : Addr) (cl : List (PySem.Str × Addr)) (fp : List Addr), PG (X.blk s H scope (compEnvC scope cl C X.env) fp) tg1 g1)
    (ht1 : ∀ (s : Shared) (H : Hp) (C : Addr) (cl : List (PySem.Str × Addr)) (fp : List Addr), PTs (X.blk s H scope (compEnvC scope cl C X.env) fp) ifs1 tt1)
    (hi2 : ∀ (s : Shared) (H : Hp) (C : Addr) (cl : List (PySem.Str × Addr)) (fp : List Addr), PI (X.blk s H scope (compEnvC scope cl C X.env) fp) tg2 it2 wi2)
    (hg2 : ∀ (s : Shared) (H : Hp) (C : Addr) (cl : List (PySem.Str × Addr)) (fp : List Addr), PG (X.blk s H scope (compEnvC scope cl C X.env) fp) tg2 g2)
    (ht2 : ∀ (s : Shared) (H : Hp) (C : Addr) (cl : List (PySem.Str × Addr)) (fp : List Addr), PTs (X.blk s H scope (compEnvC scope cl C X.env) fp) ifs2 tt2)
    (hi3 : ∀ (s : Shared) (H : Hp) (C : Addr) (cl : List (PySem.Str × Addr)) (fp : List Addr), PI (X.blk s H scope (compEnvC scope cl C X.env) fp) tg3 it3 wi3)
    (hg3 : ∀ (s : Shared) (H : Hp) (C : Addr) (cl : List (PySem.Str × Addr)) (fp : List Addr), PG (X.blk s H scope (compEnvC scope cl C X.env) fp) tg3 g3)
    (ht3 : ∀ (s : Shared) (H : Hp) (C : Addr) (cl : List (PySem.Str × Addr)) (fp : List Addr), PTs (X.blk s H scope (compEnvC scope cl C X.env) fp) ifs3 tt3)
    (he : ∀ (s : Shared) (H : Hp) (C : Addr) (cl : List (PySem.Str × Addr)) (fp : List Addr), PE (X.blk s H scope (compEnvC scope cl C X.env) fp) elt te)
    (hs1 : ∀ x, foldedSetIterable it1 X.env x = pure x := by intro _; rfl) (hs2 : ∀ env x, foldedSetIterable it2 env x = pure x := by intro _ _; rfl) (hs3 : ∀ env x, foldedSetIterable it3 env x = pure x := by intro _ _; rfl) :
    PE X (.SetComp elt [⟨tg1, it1, ifs1, 0⟩, ⟨tg2, it2, ifs2, 0⟩, ⟨tg3, it3, ifs3, 0⟩] scope pos) (tScG w wi1 g1 tt1 (fun D => tClause wi2 g2 tt2 (tClause wi3 g3 tt3 (tEmit w te D) vs3) vs2) (own.map (·.2))) :=
  pe_scG (M := fun env D => clauseM (.SetComp elt [⟨tg1, it1, ifs1, 0⟩, ⟨tg2, it2, ifs2, 0⟩, ⟨tg3, it3, ifs3, 0⟩] scope pos) 1 it2 env (.ref D)) hw hc hN hi1 ok hv2 hg1 ht1
    (fun s H C cl fp D => pm_clause rfl hc (hi2 s H C cl fp) (hg2 s H C cl fp) (ht2 s H C cl fp)
      (pm_clause rfl hc (hi3 s H C cl fp) (hg3 s H C cl fp) (ht3 s H C cl fp) (pm_emitS w rfl (he s H C cl fp) hw) (fun _ h => nomatch h) (hs3 _) (fun it => ct2 it D _) rfl)
      hv3 (hs2 _) (fun it => ct1 it D _) rfl)
    (fun it D env => ct0 it D env) hs1
theorem ps_setSc3 {i : Nat} {y : Str} {py spos : Pos} (w : World) (vs2 vs3 : List Nat) (hw : X.w = w) (hc : X.calm = true) (hN : X.N.Nodup) (hy : X.N[i]? = some y) (hyl : X.env.scope.names.lookup y = some .local) (hsw : swapsWith (.SetComp elt [⟨tg1, it1, ifs1, 0⟩, ⟨tg2, it2, ifs2, 0⟩, ⟨tg3, it3, ifs3, 0⟩] scope pos) (some (.Name y py)) spos.line X.env = pure true) (hi1 : PI X tg1 it1 wi1) (ok : BlkOk X.N X.env.scope scope own) (hv2 : ∀ i ∈ vs2, i ∈ own.map (·.2)) (hv3 : ∀ i ∈ vs3, i ∈ vs2)
    (hg1 : ∀ (s : Shared) (H : Hp) (C : Addr) (cl : List (PySem.Str × Addr)) (fp : List Addr), PG (X.blk s H scope (compEnvC scope cl C X.env) fp) tg1 g1)
    (ht1 : ∀ (s : Shared) (H : Hp) (C : Addr) (cl : List (PySem.Str × Addr)) (fp : List Addr), PTs (X.blk s H scope (compEnvC scope cl C X.env) fp) ifs1 tt1)
    (hi2 : ∀ (s : Shared) (H : Hp) (C : Addr) (cl : List (PySem.Str × Addr)) (fp : List Addr), PI (X.blk s H scope (compEnvC scope cl C X.env) fp) tg2 it2 wi2)
    (hg2 : ∀ (s : Shared) (H : Hp) (C : Addr) (cl : List (PySem.Str × Addr)) (fp : List Addr), PG (X.blk s H scope (compEnvC scope cl C X.env) fp) tg2 g2)
    (ht2 : ∀ (s : Shared) (H : Hp) (C : Addr) (cl : List (PySem.Str × Addr)) (fp : List Addr), PTs (X.blk s H scope (compEnvC scope cl C X.env) fp) ifs2 tt2)
    (hi3 : ∀ (s : Shared) (H : Hp) (C : Addr) (cl : List (PySem.Str × Addr)) (fp : List Addr), PI (X.blk s H scope (compEnvC scope cl C X.env) fp) tg3 it3 wi3)
    (hg3 : ∀ (s : Shared) (H : Hp) (C : Addr) (cl : List (PySem.Str × Addr)) (fp : List Addr), PG (X.blk s H scope (compEnvC scope cl C X.env) fp) tg3 g3)
    (ht3 : ∀ (s : Shared) (H : Hp) (C : Addr) (cl : List (PySem.Str × Addr)) (fp : List Addr), PTs (X.blk s H scope (compEnvC scope cl C X.env) fp) ifs3 tt3)
    (he : ∀ (s : Shared) (H : Hp) (C : Addr) (cl : List (PySem.Str × Addr)) (fp : List Addr), PE (X.blk s H scope (compEnvC scope cl C X.env) fp) elt te)
    (hs1 : ∀ x, foldedSetIterable it1 X.env x = pure x := by intro _; rfl) (hs2 : ∀ env x, foldedSetIterable it2 env x = pure x := by intro _ _; rfl) (hs3 : ∀ env x, foldedSetIterable it3 env x = pure x := by intro _ _; rfl) :
    PS X (.Assign [.Name y py] (.SetComp elt [⟨tg1, it1, ifs1, 0⟩, ⟨tg2, it2, ifs2, 0⟩, ⟨tg3, it3, ifs3, 0⟩] scope pos) spos) (tAsg (tScG w wi1 g1 tt1 (fun D => tClause wi2 g2 tt2 (tClause wi3 g3 tt3 (tEmit w te D) vs3) vs2) (own.map (·.2))) (gName i)) :=
  ps_setScG (M := fun env D => clauseM (.SetComp elt [⟨tg1, it1, ifs1, 0⟩, ⟨tg2, it2, ifs2, 0⟩, ⟨tg3, it3, ifs3, 0⟩] scope pos) 1 it2 env (.ref D)) hw hc hN hy hyl hsw hi1 ok hv2 hg1 ht1
    (fun s H C cl fp D => pm_clause rfl hc (hi2 s H C cl fp) (hg2 s H C cl fp) (ht2 s H C cl fp)
      (pm_clause rfl hc (hi3 s H C cl fp) (hg3 s H C cl fp) (ht3 s H C cl fp) (pm_emitS w rfl (he s H C cl fp) hw) (fun _ h => nomatch h) (hs3 _) (fun it => ct2 it D _) rfl)
      hv3 (hs2 _) (fun it => ct1 it D _) rfl)
    (fun it D env => ct0 it D env) hs1
end
/-! ### a def whose code object is named -/
def HasFnC (K : PySem.W.Frag) (f c : Addr) (x qual : Str) (st : Stmt) : Prop :=
  ∃ oc od osl kV doc pm an ct, K.lookup f = some ⟨oc, od, .func (PySem.W.fnOf x qual (defArgs st) (defBody st) (defScope st) .none kV doc pm an (.ref c) ct), osl⟩ ∧ PySem.W.codeIn K (.ref c) qual = true
section
variable {P : Program} {w : World} {K : PySem.W.Frag} {mg : Str → Option Value} {base : Heap} {x qual : Str} {st : Stmt} {N ps ks : List Str} {k : Nat} {sp : SpA}
theorem mkC {f c : Addr} (F : HasFnC K f c x qual st) (S : FnScope N ps (defScope st))
    (hbody : ∀ (kV doc pm : Value) (an : Option Addr) (ct : Value) (A : Around) (outer : List Env) (s : Shared) (H : Hp) (us ws : List Value) (vs zs : List V) (Q : VK) (E : XK), Env0 P w K mg base A outer s H → Vals vs us → Vals zs ws → zs.length = ks.length → sp vs zs H Q E →
      ∃ G, StX.Bnd CX0 P w K mg base (PySem.W.fnOf x qual (defArgs st) (defBody st) (defScope st) .none kV doc pm an (.ref c) ct) ⟨us, ks.zip ws⟩ ps A outer s H E G ∧ ∀ (s2 : Shared) (H2 : Hp) (xs : List V), G xs H2 → Room k (A.deeper (envOfC qual (defScope st) s2.heap.objs.size f (.ref c))) →
        ∃ t, PSs (cxOf CX0 P w K mg base N qual (defScope st) f (.ref c) A outer s2 H2 E).nox (defBody st) t ∧ t { nx := fun _ H' => Q .non H', rt := Q } (start N xs) H2) : FnA P w K mg base (k + 1) f ks sp := by
  obtain ⟨oc, od, osl, kV, doc, pm, an, ct, lk, hcd⟩ := F
  intro A outer s H us ws vs zs Q E hr e0 r rz l hsp
  obtain ⟨G, hb, hG⟩ := hbody kV doc pm an ct A outer s H us ws vs zs Q E e0 r rz l hsp
  exact StX.run_bnd lk hcd S hr e0 hb fun s2 H2 xs g hr' => let ⟨t, ht, hq⟩ := hG s2 H2 xs g hr'; ⟨t, ht.nox, hq⟩
end
end K59
/-! D02 -/
set_option Elab.async false
set_option linter.all false
set_option maxRecDepth 100000
namespace K59
open PySem PySem.Spec PyProof.Rows L2
section
variable {P : Program} {w : World} {K : PySem.W.Frag} {mg : Str → Option Value} {base : Heap}
abbrev s__law_take : Stmt := top 61
abbrev N__law_take : List Str := ["_law_bag_here", "_law_many", "_law_digit"]
theorem sc__law_take : FnScope N__law_take ["_law_bag_here", "_law_many"] (defScope s__law_take) := ⟨rfl, rfl, rfl, by decide +kernel, rfl, by decide +kernel, by decide +kernel⟩
abbrev s__law_of : Stmt := top 62
abbrev N__law_of : List Str := ["_law_bag_here", "_law_some"]
theorem sc__law_of : FnScope N__law_of ["_law_bag_here", "_law_some"] (defScope s__law_of) := ⟨rfl, rfl, rfl, by decide +kernel, rfl, by decide +kernel, by decide +kernel⟩
abbrev s__law_bag : Stmt := top 60
abbrev N__law_bag : List Str := ["_law_script", "_law_at", "_law_cell", "_law_blend", "_law_k", "_law_each"]
theorem sc__law_bag : FnScope N__law_bag ["_law_script", "_law_at"] (defScope s__law_bag) := ⟨rfl, rfl, rfl, by decide +kernel, rfl, by decide +kernel, by decide +kernel⟩
def sp_take : Sp := fun vs H Q _ => ∃ b m, vs = [.ref b, .int m] ∧ H b = some (BagO b) ∧ 0 < m ∧ m < 1073741824 ∧ ∀ r : Int, 0 ≤ r → r < m → Q (.int r) H
theorem ok_take (T : Tx0 K mg) : OkR P w K mg base 1 (He.fAd K ("_law_take", none)) sp_take := by
  refine mkR T.f__law_take sc__law_take (fun vs H Q E h => ?_) (fun _ _ _ _ _ _ us hl => match us, hl with | [_, _], _ => rfl) fun cdv A outer s H vs Q E hr h => ?_
  · obtain ⟨b, m, rfl, _⟩ := h
    rfl
  · obtain ⟨b, m, rfl, hb, hm, hm2, k⟩ := h
    refine ⟨_, 
    (pss_cons (ps_if (pt_cmpR op_gt (pe_ix ix_bag (pv 0) pe_int (fun _ _ => rfl)) pe_int (nomark _)) 
      (pss_cons (ps_set (i := 2) sc__law_take.nd rfl (Or.inl rfl) (pe_op op_mod (pe_callTy call_int1 (by rfl) T.n_int (by decide +kernel) (pa_cons (pe_ix ix_bag (pv 0) pe_int (fun _ _ => rfl)) pa_nil)) (pv 1))) 
      (pss_cons (ps_asg (pe_op op_fdiv (pe_ix ix_bag (pv 0) pe_int (fun _ _ => rfl)) (pv 1)) (pg_sub (pv 0) pe_int set_bag)) 
      (pss_one (ps_ret (pv 2))))) pss_nil) 
    (pss_cons (ps_asg (pe_op op_mod (pe_callTy call_int1 (by rfl) T.n_int (by decide +kernel) (pa_cons (pe_op op_add (pe_op op_mul (pe_ix ix_bag (pv 0) pe_int (fun _ _ => rfl)) pe_int) pe_int) pa_nil)) pe_int) (pg_sub (pv 0) pe_int set_bag)) 
    (pss_one (ps_ret (pe_op op_mod (pe_op op_fdiv (pe_op op_mod (pe_callTy call_int1 (by rfl) T.n_int (by decide +kernel) (pa_cons (pe_op op_mul (pe_op op_fdiv (pe_ix ix_bag (pv 0) pe_int (fun _ _ => rfl)) pe_int) pe_int) pa_nil)) pe_int) pe_int) (pv 1)))))), ?_⟩
    refine ⟨_, rfl, b, _, rfl, rfl, hb, .inl ⟨rfl, fun z h0 => ⟨_, _, rfl, rfl, _, rfl, ite2 (fun hz => ?_) fun _ => ?_⟩⟩⟩
    · refine ⟨_, rfl, b, _, rfl, rfl, hb, .inl ⟨rfl, fun z1 h1 => .inl ⟨_, rfl, _, rfl, _, _, rfl, rfl, hm, ?_⟩⟩⟩
      refine ⟨_, rfl, b, _, rfl, rfl, hb, .inl ⟨rfl, fun z2 h2 => ⟨_, rfl, _, _, rfl, rfl, ⟨hm, hm2⟩, _, rfl, b, _, _, rfl, rfl, rfl, hb, Int.ediv_nonneg h2 (by omega), .inl rfl, _, rfl, ?_⟩⟩⟩
      exact k _ (Int.emod_nonneg _ (by omega)) (Int.emod_lt_of_pos _ hm)
    · refine ⟨_, rfl, b, _, rfl, rfl, hb, .inr ⟨rfl, fun z1 h1 h2 => ⟨_, _, rfl, rfl, .inr (by constructor <;> decide), _, _, rfl, rfl, .inl ⟨_, rfl, _, _, rfl, rfl, (show (0 : Int) < 2147483543 by decide), ?_⟩⟩⟩⟩
      refine ⟨_, rfl, b, _, _, rfl, rfl, rfl, hb, Int.emod_nonneg _ (by decide), .inr ⟨rfl, Int.lt_of_lt_of_le (Int.emod_lt_of_pos _ (by decide)) (by decide)⟩, ?_⟩
      refine ⟨_, rfl, b, _, rfl, rfl, hb, .inr ⟨rfl, fun z2 h3 h4 => ⟨_, _, rfl, rfl, ⟨by decide, by decide⟩, _, _, rfl, rfl, .inr (by constructor <;> decide), .inl ⟨_, rfl, _, _, rfl, rfl, (show (0 : Int) < 2147483477 by decide), _, _, rfl, rfl, ⟨by decide, by decide⟩, _, rfl, _, _, rfl, rfl, hm, ?_⟩⟩⟩⟩
      exact k _ (Int.emod_nonneg _ (by omega)) (Int.emod_lt_of_pos _ hm)
def sp_of : Sp := fun vs H Q _ => ∃ (b a : Addr) (xs : List V), vs = [.ref b, .ref a] ∧ H b = some (BagO b) ∧ H a = some (.lst xs) ∧ xs ≠ [] ∧ xs.length < 1073741824 ∧ ∀ (i : Nat) v, xs[i]? = some v → Q v H
theorem ok_of (T : Tx0 K mg) : OkR P w K mg base 2 (He.fAd K ("_law_of", none)) sp_of := by
  have G__law_take : OkR P w K mg base 1 (He.fAd K ("_law_take", none)) sp_take := ok_take T
  refine mkR T.f__law_of sc__law_of (fun vs H Q E h => ?_) (fun _ _ _ _ _ _ us hl => match us, hl with | [_, _], _ => rfl) fun cdv A outer s H vs Q E hr h => ?_
  · obtain ⟨b, a, xs, rfl, _⟩ := h
    rfl
  · obtain ⟨b, a, xs, rfl, hb, ha, hn, hl, k⟩ := h
    refine ⟨_, 
    (pss_one (ps_ret (pe_ix (ix_listK K) (pv 1) (pe_callF G__law_take (hr.mono (by decide)) (by rfl) T.g__law_take (pa_cons (pv 0) (pa_cons (pe_callB (lenK K) (by rfl) T.n_len (by decide +kernel) (pa_cons (pv 1) pa_nil)) pa_nil))) (fun _ _ => rfl)))), ?_⟩
    have hp : 0 < xs.length := List.length_pos_iff.mpr hn
    refine ⟨_, rfl, _, rfl, _, rfl, a, _, rfl, .inl (SqL.of ha), b, _, rfl, hb, by omega, by omega, fun r h0 h1 => ?_⟩
    obtain ⟨n, rfl⟩ : ∃ n : Nat, r = n := ⟨r.toNat, by omega⟩
    have hn : n < xs.length := by omega
    exact ⟨a, xs, _, _, rfl, rfl, SqL.of ha, atI_nat (List.getElem?_eq_getElem hn), k n _ (List.getElem?_eq_getElem hn)⟩
def sp_bag (K : PySem.W.Frag) : Sp := fun vs H Q _ => ∃ (a : Addr) (n : Nat) (ns : List Int), vs = [.ref a, .int n] ∧ n < 100 ∧ SqL K H a (ns.map V.int) ∧
  ∀ (p : Addr) (x y : Int) (H' : Hp), Same H H' → H p = none → 0 ≤ x → 0 ≤ y → y < 2147483648 → H' p = some (.lst [.int x, .int y]) → Q (.ref p) H'
theorem ok_bag (T : Tx0 K mg) : OkR P w K mg base 1 (He.fAd K ("_law_bag", none)) (sp_bag K) := by
  refine mkR T.f__law_bag sc__law_bag (fun vs H Q E h => ?_) (fun _ _ _ _ _ _ us hl => match us, hl with | [_, _], _ => rfl) fun cdv A outer s H vs Q E hr h => ?_
  · obtain ⟨_, _, _, rfl, _⟩ := h
    rfl
  · obtain ⟨a, n, ns, rfl, hn, ha, k⟩ := h
    refine ⟨_, 
    (pss_cons (ps_set (i := 2) sc__law_bag.nd rfl (Or.inl rfl) (pe_ifExp (pt_cmpR op_lt (pv 1) (pe_callB (lenK K) (by rfl) T.n_len (by decide +kernel) (pa_cons (pv 0) pa_nil)) (nomark _)) (pe_ix (ix_listK K) (pv 0) (pv 1) (fun _ _ => rfl)) pe_int)) 
    (pss_cons (ps_set (i := 3) sc__law_bag.nd rfl (Or.inl rfl) (pe_op op_add (pe_op op_mul pe_int (pv 1)) pe_int)) 
    (pss_cons (ps_for PassesOwn.never rfl (pi_enumK K (by rfl) T.n_enumerate (pa_cons (pe_slice (sl_listK K) (pv 0) po_none (po_some pe_int)) pa_nil)) (pg_tupK (n := 2) K (by rfl) (pgs_cons (pg_name (i := 4) sc__law_bag.nd rfl (Or.inl rfl)) (pgs_cons (pg_name (i := 5) sc__law_bag.nd rfl (Or.inl rfl)) pgs_nil))) 
      (pss_one (ps_set (i := 3) sc__law_bag.nd rfl (Or.inl rfl) (pe_op op_mod (pe_callTy call_int1 (by rfl) T.n_int (by decide +kernel) (pa_cons (pe_op op_add (pe_op op_add (pe_op op_add (pe_op op_mul (pv 3) pe_int) (pe_op op_mod (pe_callTy call_int1 (by rfl) T.n_int (by decide +kernel) (pa_cons (pv 5) pa_nil)) pe_int)) (pe_op op_mul pe_int (pv 4))) pe_int) pa_nil)) pe_int)))) 
    (pss_one (ps_ret (pe_lst (pa_cons (pe_ifExp (pt_cmpR op_ge (pe_callB call_abs (by rfl) T.n_abs (by decide +kernel) (pa_cons (pv 2) pa_nil)) (pe_op op_pow pe_int pe_int) (nomark _)) (pe_callB call_abs (by rfl) T.n_abs (by decide +kernel) (pa_cons (pv 2) pa_nil)) pe_int) (pa_cons (pv 3) pa_nil)))))))), ?_⟩
    have e1 : ∃ c : Int, ∀ (Q : VK), Q (.int c) H → tIf (tTest (tOp (rI0 fun i j => .bl (decide (i < j))) (tVar 1) (tCB (fun xs H Q => ∃ p ys, xs = [.ref p] ∧ (SqL K H p ys ∨ SqT K H p ys) ∧ Q (.int ys.length) H) (tCons (tVar 0) tNil)))) (tOp (rIxL K) (tVar 0) (tVar 1)) (tC (.int 0)) (start N__law_bag [.ref a, .int n]) H Q := by
      by_cases hlt : n < ns.length
      · refine ⟨ns[n], fun Q q => ⟨_, rfl, _, rfl, a, _, rfl, .inl ha, _, _, rfl, rfl, true, congrArg V.bl (decide_eq_true (by rw [List.length_map]; omega)), ?_⟩⟩
        exact ⟨_, rfl, _, rfl, a, _, _, _, rfl, rfl, ha, atI_nat (by rw [List.getElem?_map, List.getElem?_eq_getElem hlt]; rfl), q⟩
      · refine ⟨0, fun Q q => ⟨_, rfl, _, rfl, a, _, rfl, .inl ha, _, _, rfl, rfl, false, congrArg V.bl (decide_eq_false (by rw [List.length_map]; omega)), q⟩⟩
    obtain ⟨c, hc⟩ := e1
    refine hc _ ?_
    refine ⟨_, rfl, _, _, rfl, rfl, .inl (by constructor <;> decide), _, _, rfl, rfl, ?_⟩
    refine ⟨_, rfl, _, rfl, a, _, rfl, ha, fun D hD => ⟨D, _, rfl, SqL.of upd_same, for_enum (K := K) (a := D) (xs := cutV (ns.map V.int) none (some 50))
      (fun i σ H1 => ∃ (y : Int) (v4 v5 : Option V), σ = [some (.ref a), some (.int n), some (.int c), some (.int y), v4, v5] ∧ 0 ≤ y ∧ y < 2147483648 ∧ Same (upd H D (.lst (cutV (ns.map V.int) none (some 50)))) H1)
      ⟨_, _, _, rfl, by omega, by omega, Same.refl _⟩ (fun i σ H1 _ ⟨_, _, _, _, _, _, e⟩ => e.seq (SqL.of upd_same)) ?_ ?_⟩⟩
    · rintro i x σ H1 Tp hi ⟨y, v4, v5, rfl, h0, h1, e⟩ hT
      obtain ⟨z, rfl⟩ : ∃ z : Int, x = V.int z := by
        have hm : x ∈ ns.map V.int := List.mem_of_mem_drop (List.mem_of_mem_take (List.mem_of_getElem? hi))
        obtain ⟨z, _, e⟩ := List.mem_map.mp hm
        exact ⟨z, e.symm⟩
      refine ⟨Tp, _, rfl, SqT.of upd_same, rfl, _, _, rfl, _, _, rfl, rfl, ?_⟩
      refine ⟨_, rfl, _, _, rfl, rfl, .inr (by constructor <;> decide), _, rfl, .inl ⟨_, rfl, _, _, rfl, rfl, (show (0 : Int) < 2147483477 by decide), _, _, rfl, rfl, _, rfl, _, _, rfl, rfl, .inl (by constructor <;> decide), _, _, rfl, rfl, _, _, rfl, rfl, .inl ⟨_, rfl, _, _, rfl, rfl, (show (0 : Int) < 2147483543 by decide), ?_⟩⟩⟩
      exact ⟨_, _, _, rfl, Int.emod_nonneg _ (by decide), Int.lt_of_lt_of_le (Int.emod_lt_of_pos _ (by decide)) (by decide), e.trans (same_upd hT)⟩
    · rintro σ H1 ⟨y, v4, v5, rfl, h0, h1, e⟩
      have e2 : Same H H1 := (same_upd hD).trans e
      have fin : ∀ x : Int, 0 ≤ x → ∀ p, H1 p = none → Q (.ref p) (upd H1 p (.lst [.int x, .int y])) := fun x hx p hp => k p x y _ (e2.trans (same_upd hp)) (e2.free hp) hx h0 h1 upd_same
      refine ⟨_, rfl, _, rfl, _, _, rfl, rfl, ⟨by decide, by decide, by decide⟩, _, _, rfl, rfl, _, rfl, ite2 (fun _ => ?_) fun _ => ?_⟩
      · exact ⟨_, rfl, _, rfl, _, rfl, (show 2 ≤ sizeLine by decide), fun p hp => fin _ (by split <;> omega) p hp⟩
      · exact ⟨_, rfl, (show 2 ≤ sizeLine by decide), fun p hp => fin 0 (by decide) p hp⟩
end
end K59
/-! D03 -/
set_option Elab.async false
set_option linter.all false
set_option maxRecDepth 100000
namespace K59
open PySem PySem.Spec PyProof.Rows L2
section
variable {P : Program} {w : World} {K : PySem.W.Frag} {mg : Str → Option Value} {base : Heap}
abbrev s__law_names : Stmt := top 64
abbrev N__law_names : List Str := ["_law_bag_here", "_law_many", "_law_banned", "_law_letters", "_law_found", "_law_turn", "_law_name", "_law_k", "_law_letter"]
theorem sc__law_names : FnScope N__law_names ["_law_bag_here", "_law_many", "_law_banned"] (defScope s__law_names) := ⟨rfl, rfl, rfl, by decide +kernel, rfl, by decide +kernel, by decide +kernel⟩
theorem joinL_nil : ∀ cs : List Nat, TL.joinL [] (cs.map fun c => [c]) = cs
  | [] => rfl
  | [c] => rfl
  | c :: d :: r => by
    have ih := joinL_nil (d :: r)
    show [c] ++ ([] ++ TL.joinL [] ((d :: r).map fun c => [c])) = c :: d :: r
    rw [ih]
    rfl
theorem letters_at {n : Nat} (h : n < 26) : ("abcdefghijklmnopqrstuvwxyz" : Str).cps.toList[n]? = some (97 + n) := by
  have all : ∀ n < 26, ("abcdefghijklmnopqrstuvwxyz" : Str).cps.toList[n]? = some (97 + n) := by decide +kernel
  exact all n h
theorem sum_ones : ∀ cs : List Nat, ((cs.map fun c => SX.S [c]).map (·.length)).sum = cs.length
  | [] => rfl
  | c :: r => by
    have ih := sum_ones r
    show (SX.S [c]).length + ((r.map fun c => SX.S [c]).map (·.length)).sum = r.length + 1
    rw [ih, SX.S_len]
    exact Nat.add_comm _ _
theorem nm_S {cs : List Nat} (h1 : 1 ≤ cs.length) (h8 : cs.length ≤ 8) (h : ∀ c ∈ cs, 97 ≤ c ∧ c ≤ 122) : Nm (SX.S cs) := by
  refine ⟨by rw [SX.S_len]; exact h1, by rw [SX.S_len]; exact h8, fun c hc => h c ?_⟩
  exact hc
/-- among 26 letters there is one that is in none of two short lists -/
theorem free_letter {ns bs : List Str} (h : ns.length + bs.length < 26) : ∃ n, n < 26 ∧ SX.S [97 + n] ∉ ns ∧ SX.S [97 + n] ∉ bs := by
  refine Classical.byContradiction fun hc => ?_
  have all : ∀ n < 26, SX.S [97 + n] ∈ ns ++ bs := fun n hn => Classical.byContradiction fun q => hc ⟨n, hn, fun z => q (List.mem_append_left _ z), fun z => q (List.mem_append_right _ z)⟩
  have sub : ∀ x ∈ (List.range 26).map fun n => SX.S [97 + n], x ∈ ns ++ bs := fun x hx => by
    obtain ⟨n, hn, rfl⟩ := List.mem_map.mp hx
    exact all n (List.mem_range.mp hn)
  have nd : ((List.range 26).map fun n => SX.S [97 + n]).Nodup := by decide +kernel
  have := nodup_len nd sub
  rw [List.length_map, List.length_range, List.length_append] at this
  omega
def Names (banned ns : List Str) : Prop := (∀ s ∈ ns, Nm s) ∧ ns.Nodup ∧ ∀ s ∈ ns, s ∉ banned
def sp_names (K : PySem.W.Frag) : Sp := fun vs H Q _ => ∃ (b a : Addr) (m : Nat) (banned : List Str), vs = [.ref b, .int m, .ref a] ∧ H b = some (BagO b) ∧ SqL K H a (banned.map V.str) ∧ m ≤ 8 ∧ banned.length ≤ 8 ∧
  ∀ (p : Addr) (ns : List Str) (H' : Hp), Same H H' → H p = none → H' p = some (.lst (ns.map V.str)) → ns.length = m → Names banned ns → Q (.ref p) H'
theorem ok_names (T : Tx0 K mg) : OkR P w K mg base 3 (He.fAd K ("_law_names", none)) (sp_names K) := by
  have G__law_take : OkR P w K mg base 1 (He.fAd K ("_law_take", none)) sp_take := ok_take T
  have G__law_of : OkR P w K mg base 2 (He.fAd K ("_law_of", none)) sp_of := ok_of T
  refine mkR T.f__law_names sc__law_names (fun vs H Q E h => ?_) (fun _ _ _ _ _ _ us hl => match us, hl with | [_, _, _], _ => rfl) fun cdv A outer s H vs Q E hr h => ?_
  · obtain ⟨_, _, _, _, rfl, _⟩ := h
    rfl
  · obtain ⟨b, a, m, banned, rfl, hb, ha, hm, hbl, k⟩ := h
    refine ⟨_, 
    (pss_cons (ps_asg (pe_tup (pa_cons pe_str (pa_cons (pe_lst pa_nil) pa_nil))) (pg_tupK (n := 2) K (by rfl) (pgs_cons (pg_name (i := 3) sc__law_names.nd rfl (Or.inr rfl)) (pgs_cons (pg_name (i := 4) sc__law_names.nd rfl (Or.inr rfl)) pgs_nil)))) 
    (pss_cons (ps_for PassesOwn.never rfl (pi_range1 (by rfl) T.n_range (pa_cons (pv 1) pa_nil)) (pg_name (i := 5) sc__law_names.nd rfl (Or.inl rfl)) 
      (pss_cons (ps_set (i := 6) sc__law_names.nd rfl (Or.inl rfl) (pe_join pe_str (pe_lc (own := [("_law_k", 7)]) (by rfl) sc__law_names.nd (pi_range1 (by rfl) T.n_range (pa_cons (pe_callF G__law_of (hr.mono (by decide)) (by rfl) T.g__law_of (pa_cons (pv 0) (pa_cons (pe_lst (pa_cons pe_int (pa_cons pe_int (pa_cons pe_int (pa_cons pe_int (pa_cons pe_int pa_nil)))))) pa_nil))) pa_nil)) (blkOk_by (own := [("_law_k", 7)]) (N := N__law_names) (sc := (defScope s__law_names)) (by decide +kernel)) (fun _ _ _ _ _ => (pg_name (i := 7) sc__law_names.nd rfl (Or.inl rfl))) (fun _ _ _ _ _ => pts_nil) (fun _ _ _ _ _ => (pe_ix ix_str (pv 3) (pe_callF G__law_take (hr.mono (by decide)) (by rfl) T.g__law_take (pa_cons (pv 0) (pa_cons pe_int pa_nil))) (fun _ _ => rfl)))))) 
      (pss_cut (ps_if (PW.pt (pw_or (pt_cmpR (inK K) (pv 6) (pv 4) (by rfl)) (pw_or1 (pt_cmpR (inK K) (pv 6) (pv 2) (by rfl))))) 
        (pss_one (ps_set (i := 6) sc__law_names.nd rfl (Or.inl rfl) (pe_ix (ix_listK K) (pe_lc (own := [("_law_letter", 8)]) (by rfl) sc__law_names.nd (pi_str (pv 3)) (blkOk_by (own := [("_law_letter", 8)]) (N := N__law_names) (sc := (defScope s__law_names)) (by decide +kernel)) (fun _ _ _ _ _ => (pg_name (i := 8) sc__law_names.nd rfl (Or.inl rfl))) (fun _ _ _ _ _ => pts_one (PW.pt (pw_and (pt_cmpR (notInK K) (pv 8) (pv 4) (by rfl)) (pw_and1 (pt_cmpR (notInK K) (pv 8) (pv 2) (by rfl)))))) (fun _ _ _ _ _ => (pv 8))) pe_int (fun _ _ => rfl)))) pss_nil) 
      (pss_one (ps_expr (pe_bm PySem.F.plainAttrs_list PySem.F.slot_list_append PySem.F.type_list_append mt_append (pv 4) (pa_cons (pv 6) pa_nil))))))) 
    (pss_one (ps_ret (pv 4))))), ?_⟩
    refine ⟨Nat.zero_le _, fun F hF => ⟨(show 2 ≤ sizeLine by decide), fun T2 hT2 => ⟨T2, _, rfl, SqT.of upd_same, rfl, _, _, rfl, _, _, rfl, rfl, ?_⟩⟩⟩
    have hTF : F ≠ T2 := ne_of_none upd_same hT2
    refine ⟨_, rfl, _, rfl, by omega, by omega, for_range (lo := 0) (n := m) (fun i σ H1 => ∃ (v5 v6 : Option V) (ns : List Str), σ = [some (.ref b), some (.int m), some (.ref a), some (.str "abcdefghijklmnopqrstuvwxyz"), some (.ref F), v5, v6, none, none] ∧
      Same H H1 ∧ H1 F = some (.lst (ns.map V.str)) ∧ ns.length = i ∧ Names banned ns) ?_ ?_ ?_⟩
    · exact ⟨_, _, [], rfl, (same_upd hF).trans (same_upd hT2), by rw [upd_ne hTF]; exact upd_same, rfl, ⟨fun _ h => (nomatch h), List.nodup_nil, fun _ h => (nomatch h)⟩⟩
    · rintro i σ H1 hi ⟨v5, v6, ns, rfl, hx, hf, hl, hn⟩
      have hmt : ∀ {H' : Hp} {o : HO}, Same H H' → H' b = some (BagO b) := fun e => e _ _ hb
      refine ⟨⟨_, rfl⟩, _, rfl, (show 5 ≤ sizeLine by decide), fun L hL => ⟨b, L, _, rfl, same_upd hL _ _ (hx _ _ hb), upd_same, by simp, by decide, fun j v hv => ?_⟩⟩
      obtain ⟨n, rfl, hn1, hn8⟩ : ∃ n : Nat, v = .int n ∧ 1 ≤ n ∧ n ≤ 8 := by
        have hm := List.mem_of_getElem? hv
        simp only [List.mem_cons, List.not_mem_nil, or_false] at hm
        rcases hm with rfl | rfl | rfl | rfl | rfl
        · exact ⟨1, rfl, by decide, by decide⟩
        · exact ⟨1, rfl, by decide, by decide⟩
        · exact ⟨2, rfl, by decide, by decide⟩
        · exact ⟨3, rfl, by decide, by decide⟩
        · exact ⟨8, rfl, by decide, by decide⟩
      have xL : Same H1 (upd H1 L (.lst [.int 1, .int 1, .int 2, .int 3, .int 8])) := same_upd hL
      refine ⟨_, rfl, by omega, by omega, fun D hD => lc_range (lo := 0) (n := n) (Gr (upd H1 L (.lst [.int 1, .int 1, .int 2, .int 3, .int 8])) D fun i acc _ => ∃ cs : List Nat, acc = cs.map (fun c => V.str (SX.S [c])) ∧ cs.length = i ∧ ∀ c ∈ cs, 97 ≤ c ∧ c ≤ 122)
        (gr_start hD ⟨[], rfl, rfl, fun _ h => (nomatch h)⟩) (fun i H2 hi G => ⟨rfl, _, rfl, _, rfl, b, 26, rfl, G.ext _ _ (xL _ _ (hx _ _ hb)), by decide, by decide, fun r h0 h1 => ?_⟩) fun H2 G => ?_⟩
      · obtain ⟨q, rfl⟩ : ∃ q : Nat, r = q := ⟨r.toNat, by omega⟩
        have hq : q < 26 := by omega
        refine ⟨_, _, 97 + q, rfl, rfl, by decide, atI_nat (letters_at hq), gr_add G (Same.refl _) (by omega) (fun _ _ _ _ _ h => h) fun acc ⟨cs, e, hl, hc⟩ => ⟨cs ++ [97 + q], by rw [e, List.map_append]; rfl, by rw [List.length_append, hl]; rfl, fun c h => ?_⟩⟩
        rcases List.mem_append.mp h with h | h
        · exact hc c h
        · rw [List.mem_singleton.mp h]
          omega
      · obtain ⟨hD2, hx2, acc, hacc, _, cs, rfl, hcl, hcs⟩ := G
        have x2 : Same H1 H2 := xL.trans hx2
        refine ⟨_, D, cs.map fun c => SX.S [c], rfl, rfl, .inl (SqL.of (by rw [List.map_map]; exact hacc)), by rw [sum_ones, List.length_map]; show cs.length + cs.length * 0 ≤ 16777216; omega, ?_⟩
        have ej : Txt.join ("" : Str) (cs.map fun c => SX.S [c]) = SX.S cs := by
          have e := SX.join_S [] (cs.map fun c => [c])
          rw [List.map_map, joinL_nil] at e
          exact e
        show tCut _ _ _ ((_ : L2.St).set 6 (some (.str (Txt.join ("" : Str) (cs.map fun c => SX.S [c]))))) _
        rw [ej]
        have hnm : Nm (SX.S cs) := nm_S (by omega) (by omega) hcs
        refine ⟨fun σ' H' => ∃ s, σ' = [some (.ref b), some (.int m), some (.ref a), some (.str "abcdefghijklmnopqrstuvwxyz"), some (.ref F), some (.int (0 + (i : Nat))), some (.str s), none, none] ∧ Same H1 H' ∧ Nm s ∧ s ∉ ns ∧ s ∉ banned, ?_, ?_⟩
        · -- if it is taken
          refine ⟨_, rfl, _, rfl, F, _, rfl, .inl (SqL.of (x2 _ _ hf)), rfl, flat_strs _, _, rfl, ?_⟩
          show if inV (.str (SX.S cs)) (ns.map V.str) = true then _ else _
          rw [inV_strs]
          have anew : ∀ (Dd : Ends) (H3 : Hp), Same H1 H3 → (∀ s H', Same H1 H' → Nm s → s ∉ ns → s ∉ banned → Dd.nx [some (.ref b), some (.int m), some (.ref a), some (.str "abcdefghijklmnopqrstuvwxyz"), some (.ref F), some (.int (0 + (i : Nat))), some (.str s), none, none] H') →
              tAsg (tOp (rIxL K) (tLc (iStr (tVar 3)) (gName 8) (tAnd (tTest (tOp (rIn K true) (tVar 8) (tVar 4))) (tTest (tOp (rIn K true) (tVar 8) (tVar 2)))) (tVar 8) [8]) (tC (.int 0))) (gName 6) Dd
              [some (.ref b), some (.int m), some (.ref a), some (.str "abcdefghijklmnopqrstuvwxyz"), some (.ref F), some (.int (0 + (i : Nat))), some (.str (SX.S cs)), none, none] H3 := fun Dd H3 x3 fin => by
            have hF3 := x3 _ _ hf
            have ha3 := (hx.trans x3).seq ha
            refine ⟨_, rfl, _, rfl, fun D2 hD2 => lc_str (Gr H3 D2 fun i acc _ => (∀ v ∈ acc, ∃ n, n < 26 ∧ v = V.str (SX.S [97 + n]) ∧ SX.S [97 + n] ∉ ns ∧ SX.S [97 + n] ∉ banned) ∧
              ∀ n, n < i → SX.S [97 + n] ∉ ns → SX.S [97 + n] ∉ banned → acc ≠ []) (gr_start hD2 ⟨fun _ h => (nomatch h), fun _ h => absurd h (Nat.not_lt_zero _)⟩) (fun i c H4 hc G => ?_) fun H4 G => ?_⟩
            · have hi : i < 26 := (Array.getElem?_eq_some_iff.mp hc).1
              have ec : c = 97 + i := by
                rw [← Array.getElem?_toList, letters_at hi] at hc
                exact (Option.some.inj hc).symm
              subst ec
              have skip : (SX.S [97 + i] ∈ ns ∨ SX.S [97 + i] ∈ banned) → Gr H3 D2 (fun i acc _ => (∀ v ∈ acc, ∃ n, n < 26 ∧ v = V.str (SX.S [97 + n]) ∧ SX.S [97 + n] ∉ ns ∧ SX.S [97 + n] ∉ banned) ∧
                  ∀ n, n < i → SX.S [97 + n] ∉ ns → SX.S [97 + n] ∉ banned → acc ≠ []) (i + 1) H4 := fun hin =>
                gr_skip G (Same.refl _) (fun _ _ _ _ _ h => h) fun acc h => ⟨h.1, fun n hn h1 h2 => by
                  by_cases e : n = i
                  · subst e
                    exact absurd hin fun z => z.elim h1 h2
                  · exact h.2 n (by omega) h1 h2⟩
              refine ⟨rfl, _, rfl, _, rfl, F, _, rfl, .inl (SqL.of (G.ext _ _ hF3)), rfl, flat_strs _, _, rfl, ?_⟩
              show if (!inV (.str (SX.S [97 + i])) (ns.map V.str)) = true then _ else _
              rw [inV_strs]
              refine ite2 (fun h1 => ?_) fun h1 => ?_
              · have n1 : SX.S [97 + i] ∉ ns := by simpa using h1
                refine ⟨_, rfl, _, rfl, a, _, rfl, .inl (G.ext.seq ha3), rfl, flat_strs _, _, rfl, ?_⟩
                show if (!inV (.str (SX.S [97 + i])) (banned.map V.str)) = true then _ else _
                rw [inV_strs]
                refine ite2 (fun h2 => ?_) fun h2 => ?_
                · have n2 : SX.S [97 + i] ∉ banned := by simpa using h2
                  exact ⟨_, rfl, gr_add G (Same.refl _) (by omega) (fun _ _ _ _ _ h => h) fun acc h => ⟨fun v hv => by
                    rcases List.mem_append.mp hv with hv | hv
                    · exact h.1 v hv
                    · exact ⟨i, hi, List.mem_singleton.mp hv, n1, n2⟩, fun _ _ _ _ => by simp⟩⟩
                · exact skip (.inr (by simpa using h2))
              · exact skip (.inl (by simpa using h1))
            · obtain ⟨_, hx4, acc, hacc, _, h1, h2⟩ := G
              obtain ⟨n, hn, f1, f2⟩ := free_letter (ns := ns) (bs := banned) (by omega)
              have hne := h2 n hn f1 f2
              cases acc with
              | nil => exact absurd rfl hne
              | cons v r =>
                obtain ⟨n, hn, rfl, g1, g2⟩ := h1 v List.mem_cons_self
                refine ⟨D2, _, 0, _, rfl, rfl, SqL.of hacc, atI_nat (j := 0) rfl, ?_⟩
                exact fin _ _ (x3.trans hx4) (nm_S (by simp) (by simp) fun c hc => by rw [List.mem_singleton.mp hc]; omega) g1 g2
          refine ite2 (fun _ => ?_) fun hno => ?_
          · exact anew _ _ x2 fun s H' e h1 h2 h3 => ⟨s, rfl, e, h1, h2, h3⟩
          · refine ⟨_, rfl, _, rfl, a, _, rfl, .inl ((hx.trans x2).seq ha), rfl, flat_strs _, _, rfl, ?_⟩
            show if inV (.str (SX.S cs)) (banned.map V.str) = true then _ else _
            rw [inV_strs]
            refine ite2 (fun _ => ?_) fun hno2 => ?_
            · exact anew _ _ x2 fun s H' e h1 h2 h3 => ⟨s, rfl, e, h1, h2, h3⟩
            · exact ⟨_, rfl, x2, hnm, by simpa using hno, by simpa using hno2⟩
        · rintro σ' H' ⟨s, rfl, x3, h1, h2, h3⟩
          refine ⟨_, rfl, .inl ⟨rfl, _, .inl (.inl (x3 _ _ hf))⟩, _, rfl, F, _, _, rfl, rfl, x3 _ _ hf, Nat.lt_of_le_of_lt (by rw [List.length_map, hl]; omega) (show 8 < sizeLine by decide), ?_⟩
          refine ⟨_, _, ns ++ [s], rfl, same_mut (hx.trans x3) hF, by rw [List.map_append]; exact upd_same, by rw [List.length_append, hl]; rfl, ?_, ?_, ?_⟩
          · intro y hy
            rcases List.mem_append.mp hy with hy | hy
            · exact hn.1 y hy
            · rw [List.mem_singleton.mp hy]
              exact h1
          · refine List.nodup_append.mpr ⟨hn.2.1, by simp, fun y hy z hz => ?_⟩
            rw [List.mem_singleton.mp hz]
            exact fun e => h2 (e ▸ hy)
          · intro y hy
            rcases List.mem_append.mp hy with hy | hy
            · exact hn.2.2 y hy
            · rw [List.mem_singleton.mp hy]
              exact h3
    · rintro σ H1 ⟨v5, v6, ns, rfl, hx, hf, hl, hn⟩
      exact ⟨_, rfl, k F ns H1 hx hF hf hl hn⟩
end
end K59
/-! K59M -/
set_option Elab.async false
set_option linter.all false
set_option maxRecDepth 100000
/-! the data: what the law draws, as plain data -/
namespace K59
open PySem PySem.Spec PyProof.Rows L2
inductive Kd where
  | mk | ch | en
  deriving DecidableEq
def kS : Kd → Str
  | .mk => "make"
  | .ch => "change"
  | .en => "end"
structure Nt where
  old : List Str
  new : List Str
  named : Bool
  changed : Bool
structure Dd where
  k : Kd
  nm : Str
  mv : List (Str × Str)
  own : List Str
def pairD (p : Str × Str) : PyData := .tuple [.str p.1, .str p.2]
def strsD (l : List Str) : PyData := .list (l.map .str)
def pairsD (l : List (Str × Str)) : PyData := .list (l.map pairD)
def ntD : Option Nt → PyData
  | none => .none
  | some n => .tuple [strsD n.old, strsD n.new, .bool n.named, .bool n.changed]
def ddD (d : Dd × Option Nt) : PyData := .tuple [.str (kS d.1.k), .str d.1.nm, pairsD d.1.mv, strsD d.1.own, ntD d.2]
structure Da where
  cols : List Str
  rows : List (Dd × Option Nt)
  keep : Option Int
def keepD : Option Int → PyData
  | none => .none
  | some i => .int i
def daD (D : Da) : PyData := .tuple [strsD D.cols, .list (D.rows.map ddD), keepD D.keep]
/-- the words of a note -/
def NtOk (ws : List Str) : Option Nt → Prop
  | none => True
  | some n => n.old.Nodup ∧ n.new.Nodup ∧ (∀ x ∈ n.old, x ∈ ws) ∧ (∀ x ∈ n.new, x ∈ ws)
/-- a deed over some columns and states -/
structure DdOk (cols marks : List Str) (d : Dd) : Prop where
  hmk : d.k = .mk → ∃ s ∈ marks, d.mv = [(("" : Str), s)]
  hch : d.k = .ch → ∀ p ∈ d.mv, p.1 ∈ marks ∧ p.2 ∈ marks
  hen : d.k = .en → ∀ p ∈ d.mv, p.1 ∈ marks ∧ p.2 = ""
  src : (d.mv.map (·.1)).Nodup
  len : d.mv.length ≤ 3
  own : d.own.Nodup ∧ (∀ c ∈ d.own, c ∈ cols) ∧ (d.k ≠ .ch → d.own = [])
def wordsOf (cols : List Str) (d : Dd) : List Str := ("state" : Str) :: (if d.k = .ch then d.own else cols)
def colBan : List Str := ["state", "row", "deed"]
structure DaOk (marks : List Str) (D : Da) : Prop where
  colOk : Names colBan D.cols
  clen : D.cols.length ≤ 2
  markOk : Names [] marks
  mlen : 1 ≤ marks.length ∧ marks.length ≤ 3
  nameOk : Names [] (D.rows.map (·.1.nm))
  len : D.rows.length ≤ 5
  rowOk : ∀ r ∈ D.rows, DdOk D.cols marks r.1 ∧ NtOk (wordsOf D.cols r.1) r.2
  made : ∃ r ∈ D.rows, r.1.k = .mk
  keepOk : ∀ i, D.keep = some i → 1 ≤ i ∧ i ≤ 3
section
variable {K : PySem.W.Frag} {H : Hp}
theorem dp_pair {v : V} {p : Str × Str} (h : Dp K H v (pairD p)) : ∃ a, v = .ref a ∧ SqT K H a [.str p.1, .str p.2] := by
  obtain ⟨a, xs, rfl, hs, ha⟩ := dp_tup h
  refine ⟨a, rfl, ?_⟩
  have e : xs = [p.1, p.2].map V.str := dpa_strs_inv (ss := [p.1, p.2]) ha
  rw [e] at hs
  exact hs
theorem dp_pair_mk {a : Addr} {x y : Str} (h : H a = some (.tup [.str x, .str y])) : Dp K H (.ref a) (pairD (x, y)) :=
  .tup (SqT.of h) (.cons (.str x) (.cons (.str y) .nil))
theorem dp_strs {v : V} {l : List Str} (h : Dp K H v (strsD l)) : ∃ a, v = .ref a ∧ SqL K H a (l.map V.str) := by
  obtain ⟨a, xs, rfl, hs, ha⟩ := dp_lst h
  rw [dpa_strs_inv ha] at hs
  exact ⟨a, rfl, hs⟩
theorem dp_strs_mk {a : Addr} {l : List Str} (h : SqL K H a (l.map V.str)) : Dp K H (.ref a) (strsD l) := .lst h dpa_strs
end
end K59
/-! D04 -/
set_option Elab.async false
set_option linter.all false
set_option maxRecDepth 100000
namespace K59
open PySem PySem.Spec PyProof.Rows L2
section
variable {P : Program} {w : World} {K : PySem.W.Frag} {mg : Str → Option Value} {base : Heap}
abbrev s__law_note : Stmt := top 66
abbrev N__law_note : List Str := ["_law_bag_here", "_law_words", "_law_olds", "_law_news", "_law_word"]
theorem sc__law_note : FnScope N__law_note ["_law_bag_here", "_law_words"] (defScope s__law_note) := ⟨rfl, rfl, rfl, by decide +kernel, rfl, by decide +kernel, by decide +kernel⟩
def sp_note (K : PySem.W.Frag) : Sp := fun vs H Q _ => ∃ (b a : Addr) (ws : List Str), vs = [.ref b, .ref a] ∧ H b = some (BagO b) ∧ SqL K H a (ws.map V.str) ∧ ws.length ≤ 8 ∧ ws.Nodup ∧
  ∀ (v : V) (o : Option Nt) (H' : Hp), Same H H' → Dp K (New H H') v (ntD o) → NtOk ws o → Q v H'
/-- a list filtered by draws -/
theorem draw_filter {b a D : Addr} {ws : List Str} {H : Hp} {j : Nat} {σ : L2.St} {cmp : TT} {Qd : Hp → Prop} (hb : H b = some (BagO b)) (ha : SqL K H a (ws.map V.str)) (hl : ws.length ≤ 8) (hnd : ws.Nodup) (hD : H D = none)
    (hw : ∀ x, wipe ((wipe σ [j]).set j (some x)) [j] = wipe σ [j])
    (hc : ∀ (x : Str) (H1 : Hp) (Q : Bool → Hp → Prop), H1 b = some (BagO b) → (∀ c, Q c H1) → cmp ((wipe σ [j]).set j (some (.str x))) H1 Q) (hv : ∀ x : V, ((wipe σ [j]).set j (some x))[j]? = some (some x))
    (hd : ∀ H1 (ys : List Str), Same H H1 → H1 D = some (.lst (ys.map V.str)) → ys.Sublist ws → Qd H1) :
    ∃ W : Nat → Nat → Hp → Prop, (∃ m, W 0 m (upd H D (.lst []))) ∧ ∀ i m H, W i m H → ((Itl K a).stop i H ∧ Qd H) ∨ ((Itl K a).go i H ∧ ∃ Nx : Hp → Prop, (∀ H', Nx H' → ∃ m', m' < m ∧ W (i + 1) m' H') ∧
      ∀ x H', (Itl K a).yld i H x H' → gName j x (wipe σ [j]) H' fun σ2 H2 => wipe σ2 [j] = wipe σ [j] ∧ cmp σ2 H2 fun b H3 => if b = true then tVar j σ2 H3 fun y H4 => ∃ acc, H4 D = some (.lst acc) ∧ acc.length < sizeLine ∧ Nx (upd H4 D (.lst (acc ++ [y]))) else Nx H3) := by
  refine lc_list (K := K) (a := a) (xs := ws.map V.str) (Gr H D fun i acc _ => ∃ ys : List Str, acc = ys.map V.str ∧ ys.Sublist (ws.take i)) (gr_start hD ⟨[], rfl, List.nil_sublist _⟩) (fun i H1 _ G => G.ext.seq ha) (fun i x H1 hi G => ?_) fun H1 G => ?_
  · obtain ⟨s, hs, rfl⟩ := strs_get hi
    have hlt : i < ws.length := (List.getElem?_eq_some_iff.mp hs).1
    have et : ws.take (i + 1) = ws.take i ++ [s] := by rw [List.take_succ, hs]; rfl
    refine ⟨hw _, hc s H1 _ (G.ext _ _ hb) fun c => ?_⟩
    cases c with
    | true => exact ⟨_, hv _, gr_add G (Same.refl _) (by omega) (fun _ _ _ _ _ h => h) fun acc ⟨ys, e, h⟩ => ⟨ys ++ [s], by rw [e, List.map_append]; rfl, by rw [et]; exact h.append (List.Sublist.refl _)⟩⟩
    | false => exact gr_skip G (Same.refl _) (fun _ _ _ _ _ h => h) fun acc ⟨ys, e, h⟩ => ⟨ys, e, by rw [et]; exact h.trans (List.sublist_append_left _ _)⟩
  · obtain ⟨_, hx, acc, hacc, _, ys, rfl, hs⟩ := G
    rw [List.length_map, List.take_length] at hs
    exact hd H1 ys hx hacc hs
theorem ok_note (T : Tx0 K mg) : OkR P w K mg base 2 (He.fAd K ("_law_note", none)) (sp_note K) := by
  have G__law_take : OkR P w K mg base 1 (He.fAd K ("_law_take", none)) sp_take := ok_take T
  refine mkR T.f__law_note sc__law_note (fun vs H Q E h => ?_) (fun _ _ _ _ _ _ us hl => match us, hl with | [_, _], _ => rfl) fun cdv A outer s H vs Q E hr h => ?_
  · obtain ⟨_, _, _, rfl, _⟩ := h
    rfl
  · obtain ⟨b, a, ws, rfl, hb, ha, hl, hnd, k⟩ := h
    refine ⟨_, 
    (pss_cons (ps_if (pt_cmpR op_eq (pe_callF G__law_take (hr.mono (by decide)) (by rfl) T.g__law_take (pa_cons (pv 0) (pa_cons pe_int pa_nil))) pe_int (nomark _)) 
      (pss_one (ps_ret pe_non)) pss_nil) 
    (pss_cons (ps_setLc (i := 2) (own := [("_law_word", 4)]) (by rfl) sc__law_note.nd rfl rfl (sw_true rfl rfl rfl (by decide +kernel)) (pi_listK K (pv 1)) (blkOk_by (own := [("_law_word", 4)]) (N := N__law_note) (sc := (defScope s__law_note)) (by decide +kernel)) (fun _ _ _ _ _ => (pg_name (i := 4) sc__law_note.nd rfl (Or.inl rfl))) (fun _ _ _ _ _ => pts_one (pt_cmpR op_eq (pe_callF G__law_take (hr.mono (by decide)) (by rfl) T.g__law_take (pa_cons (pv 0) (pa_cons pe_int pa_nil))) pe_int (nomark _))) (fun _ _ _ _ _ => (pv 4))) 
    (pss_cons (ps_setLc (i := 3) (own := [("_law_word", 4)]) (by rfl) sc__law_note.nd rfl rfl (sw_true rfl rfl rfl (by decide +kernel)) (pi_listK K (pv 1)) (blkOk_by (own := [("_law_word", 4)]) (N := N__law_note) (sc := (defScope s__law_note)) (by decide +kernel)) (fun _ _ _ _ _ => (pg_name (i := 4) sc__law_note.nd rfl (Or.inl rfl))) (fun _ _ _ _ _ => pts_one (pt_cmpR op_eq (pe_callF G__law_take (hr.mono (by decide)) (by rfl) T.g__law_take (pa_cons (pv 0) (pa_cons pe_int pa_nil))) pe_int (nomark _))) (fun _ _ _ _ _ => (pv 4))) 
    (pss_one (ps_ret (pe_tup (pa_cons (pv 2) (pa_cons (pv 3) (pa_cons (pe_cmpR op_eq (pe_callF G__law_take (hr.mono (by decide)) (by rfl) T.g__law_take (pa_cons (pv 0) (pa_cons pe_int pa_nil))) pe_int (nomark _)) (pa_cons (pe_cmpR op_eq (pe_callF G__law_take (hr.mono (by decide)) (by rfl) T.g__law_take (pa_cons (pv 0) (pa_cons pe_int pa_nil))) pe_int (nomark _)) pa_nil)))))))))), ?_⟩
    refine ⟨_, rfl, b, 4, rfl, hb, by decide, by decide, fun r _ _ => ⟨rfl, _, rfl, ite2 (fun _ => k _ none H (Same.refl _) .non trivial) fun _ => ?_⟩⟩
    have cmp : ∀ (σ : L2.St) (H1 : Hp) (Q : Bool → Hp → Prop), σ[0]? = some (some (.ref b)) → H1 b = some (BagO b) → (∀ c, Q c H1) → tTest (tOp rEq (tC1 sp_take (tCons (tVar 0) (tCons (tC (.int 2)) tNil))) (tC (.int 0))) σ H1 Q :=
      fun σ H1 Q h0 hb1 q => ⟨_, h0, b, 2, rfl, hb1, by decide, by decide, fun r _ _ => ⟨rfl, _, rfl, q _⟩⟩
    refine ⟨_, rfl, a, rfl, ⟨_, ha⟩, fun D hD => draw_filter hb ha hl hnd hD (fun _ => rfl) (fun x H1 Q hb1 q => cmp _ H1 Q rfl hb1 q) (fun _ => rfl) fun H1 olds x1 hd1 s1 => ?_⟩
    refine ⟨_, rfl, a, rfl, ⟨_, x1.seq ha⟩, fun D2 hD2 => draw_filter (x1 _ _ hb) (x1.seq ha) hl hnd hD2 (fun _ => rfl) (fun x H1 Q hb1 q => cmp _ H1 Q rfl hb1 q) (fun _ => rfl) fun H2 news x2 hd2 s2 => ?_⟩
    have x12 := x1.trans x2
    refine ⟨_, rfl, _, rfl, _, rfl, b, 2, rfl, x12 _ _ hb, by decide, by decide, fun r _ _ => ⟨rfl, _, rfl, b, 3, rfl, x12 _ _ hb, by decide, by decide, fun r2 _ _ => ⟨rfl, (show 4 ≤ sizeLine by decide), fun p hp => ?_⟩⟩⟩
    have x3 : ∀ o, Same H2 (upd H2 p o) := fun o => same_upd hp
    refine k _ (some ⟨olds, news, _, _⟩) _ (x12.trans (x3 _)) (.tup (SqT.of (new_at (x12.free hp) upd_same)) (.cons (dp_strs_mk (SqL.of (new_at hD (x3 _ _ _ (x2 _ _ hd1))))) (.cons (dp_strs_mk (SqL.of (new_at (x1.free hD2) (x3 _ _ _ hd2)))) (.cons (.bl _) (.cons (.bl _) .nil)))))
      ⟨hnd.sublist s1, hnd.sublist s2, fun x hx => s1.subset hx, fun x hx => s2.subset hx⟩
abbrev s__law_deed : Stmt := top 67
abbrev N__law_deed : List Str := ["_law_bag_here", "_law_kind", "_law_name", "_law_all_words", "_law_states", "_law_moves", "_law_own", "_law_words", "_law_state_here", "_law_column"]
theorem sc__law_deed : FnScope N__law_deed ["_law_bag_here", "_law_kind", "_law_name", "_law_all_words", "_law_states"] (defScope s__law_deed) := ⟨rfl, rfl, rfl, by decide +kernel, rfl, by decide +kernel, by decide +kernel⟩
def PsA (K : PySem.W.Frag) (Hb : Hp) (marks : List Str) (Pp : Str → Prop) : Nat → List V → Hp → Prop := fun i acc Hh => ∃ ps : List (Str × Str), DpAll K (New Hb Hh) acc (ps.map pairD) ∧ (ps.map (·.1)).Sublist (marks.take i) ∧ ∀ p ∈ ps, Pp p.2
theorem psA_mono {Hb : Hp} {marks : List Str} {Pp : Str → Prop} : ∀ j acc H H', Same H H' → PsA K Hb marks Pp j acc H → PsA K Hb marks Pp j acc H' := fun _ _ _ _ e ⟨ps, h, r⟩ => ⟨ps, dpa_same (new_same e) h, r⟩
theorem take_at {α : Type} {l : List α} {i : Nat} {x : α} (h : l[i]? = some x) : l.take (i + 1) = l.take i ++ [x] := by rw [List.take_succ, h]; rfl
theorem psA_add {marks : List Str} {Pp : Str → Prop} {Hb H0 H1 : Hp} {D t : Addr} {i : Nat} {s y : Str} (hb : Same Hb H0) (G : Gr H0 D (PsA K Hb marks Pp) i H1) (hs : marks[i]? = some s) (ht : H1 t = none) (hp : Pp y) (hi : i < 100000) :
    ∃ acc, (upd H1 t (.tup [.str s, .str y])) D = some (.lst acc) ∧ acc.length < sizeLine ∧ Gr H0 D (PsA K Hb marks Pp) (i + 1) (upd (upd H1 t (.tup [.str s, .str y])) D (.lst (acc ++ [.ref t]))) := by
  obtain ⟨acc0, hacc0, _⟩ := G.lst
  refine gr_add G (same_upd ht) hi psA_mono fun acc ⟨ps, h1, h2, h3⟩ => ⟨ps ++ [(s, y)], ?_, ?_, ?_⟩
  · rw [List.map_append]
    refine dpa_snoc h1 (dp_pair_mk (new_at ((hb.trans G.ext).free ht) ?_))
    rw [less_ne (ne_of_none hacc0 ht).symm]
    exact upd_same
  · rw [List.map_append, take_at hs]
    exact h2.append (List.Sublist.refl _)
  · intro p hm
    rcases List.mem_append.mp hm with hm | hm
    · exact h3 p hm
    · rw [List.mem_singleton.mp hm]
      exact hp
theorem psA_skip {Hb : Hp} {marks : List Str} {Pp : Str → Prop} {H0 H1 : Hp} {D : Addr} {i : Nat} {s : Str} (G : Gr H0 D (PsA K Hb marks Pp) i H1) (hs : marks[i]? = some s) : Gr H0 D (PsA K Hb marks Pp) (i + 1) H1 :=
  gr_skip G (Same.refl _) psA_mono fun acc ⟨ps, h1, h2, h3⟩ => ⟨ps, h1, by rw [take_at hs]; exact h2.trans (List.sublist_append_left _ _), h3⟩
theorem psA_end {marks : List Str} {Pp : Str → Prop} {Hb H0 H1 : Hp} {D : Addr} (hb : Same Hb H0) (G : Gr H0 D (PsA K Hb marks Pp) marks.length H1) :
    Same H0 H1 ∧ ∃ ps : List (Str × Str), Dp K (New Hb H1) (.ref D) (pairsD ps) ∧ (ps.map (·.1)).Sublist marks ∧ ∀ p ∈ ps, Pp p.2 := by
  obtain ⟨hD, hx, acc, hacc, _, ps, h1, h2, h3⟩ := G
  rw [List.take_length] at h2
  exact ⟨hx, ps, .lst (SqL.of (new_at (hb.free hD) hacc)) (dpa_same (new_same (less_sub _ _)) h1), h2, h3⟩
theorem kS_inj {a b : Kd} (h : kS a = kS b) : a = b := by
  cases a <;> cases b <;> first | rfl | (exfalso; revert h; decide +kernel)
def sp_deed (K : PySem.W.Frag) : Sp := fun vs H Q _ => ∃ (b aw as : Addr) (kd : Kd) (nm : Str) (cols marks : List Str), vs = [.ref b, .str (kS kd), .str nm, .ref aw, .ref as] ∧ H b = some (BagO b) ∧ H aw = some (.lst (cols.map V.str)) ∧ H as = some (.lst (marks.map V.str)) ∧
  cols.length ≤ 2 ∧ cols.Nodup ∧ ("state" : Str) ∉ cols ∧ marks.length ≤ 3 ∧ marks ≠ [] ∧ marks.Nodup ∧
  ∀ (v : V) (r : Dd × Option Nt) (H' : Hp), Same H H' → Dp K (New H H') v (ddD r) → r.1.k = kd → r.1.nm = nm → DdOk cols marks r.1 → NtOk (wordsOf cols r.1) r.2 → Q v H'
theorem ok_deed (T : Tx0 K mg) : OkR P w K mg base 3 (He.fAd K ("_law_deed", none)) (sp_deed K) := by
  have G__law_take : OkR P w K mg base 1 (He.fAd K ("_law_take", none)) sp_take := ok_take T
  have G__law_of : OkR P w K mg base 2 (He.fAd K ("_law_of", none)) sp_of := ok_of T
  have G__law_note : OkR P w K mg base 2 (He.fAd K ("_law_note", none)) (sp_note K) := ok_note T
  refine mkR T.f__law_deed sc__law_deed (fun vs H Q E h => ?_) (fun _ _ _ _ _ _ us hl => match us, hl with | [_, _, _, _, _], _ => rfl) fun cdv A outer s H vs Q E hr h => ?_
  · obtain ⟨_, _, _, _, _, _, _, rfl, _⟩ := h
    rfl
  · obtain ⟨b, aw, as, kd, nm, cols, marks, rfl, hb, haw, has, hcl, hcn, hst, hml, hmn, hmd, k⟩ := h
    refine ⟨_, 
    (pss_cons (ps_par (i := 5) (j := 6) (by rfl) sc__law_deed.nd rfl rfl (by decide) rfl rfl (pa_cons (pe_lst (pa_cons (pe_tup (pa_cons pe_str (pa_cons (pe_callF G__law_of (hr.mono (by decide)) (by rfl) T.g__law_of (pa_cons (pv 0) (pa_cons (pv 4) pa_nil))) pa_nil))) pa_nil)) (pa_cons (pe_lst pa_nil) pa_nil)) (by rfl)) 
    (pss_cut (ps_if (pt_cmpR op_eq (pv 1) pe_str (nomark _)) 
      (pss_one (ps_setLc (i := 5) (own := [("_law_state_here", 8)]) (by rfl) sc__law_deed.nd rfl rfl (sw_true rfl rfl rfl (by decide +kernel)) (pi_listK K (pv 4)) (blkOk_by (own := [("_law_state_here", 8)]) (N := N__law_deed) (sc := (defScope s__law_deed)) (by decide +kernel)) (fun _ _ _ _ _ => (pg_name (i := 8) sc__law_deed.nd rfl (Or.inl rfl))) (fun _ _ _ _ _ => pts_one (pt_cmpR op_gt (pe_callF G__law_take (hr.mono (by decide)) (by rfl) T.g__law_take (pa_cons (pv 0) (pa_cons pe_int pa_nil))) pe_int (nomark _))) (fun _ _ _ _ _ => (pe_tup (pa_cons (pv 8) (pa_cons pe_str pa_nil)))))) pss_nil) 
    (pss_cut (ps_if (pt_cmpR op_eq (pv 1) pe_str (nomark _)) 
      (pss_cons (ps_setLc (i := 5) (own := [("_law_state_here", 8)]) (by rfl) sc__law_deed.nd rfl rfl (sw_true rfl rfl rfl (by decide +kernel)) (pi_listK K (pv 4)) (blkOk_by (own := [("_law_state_here", 8)]) (N := N__law_deed) (sc := (defScope s__law_deed)) (by decide +kernel)) (fun _ _ _ _ _ => (pg_name (i := 8) sc__law_deed.nd rfl (Or.inl rfl))) (fun _ _ _ _ _ => pts_one (pt_cmpR op_gt (pe_callF G__law_take (hr.mono (by decide)) (by rfl) T.g__law_take (pa_cons (pv 0) (pa_cons pe_int pa_nil))) pe_int (nomark _))) (fun _ _ _ _ _ => (pe_tup (pa_cons (pv 8) (pa_cons (pe_callF G__law_of (hr.mono (by decide)) (by rfl) T.g__law_of (pa_cons (pv 0) (pa_cons (pv 4) pa_nil))) pa_nil))))) 
      (pss_one (ps_setLc (i := 6) (own := [("_law_column", 9)]) (by rfl) sc__law_deed.nd rfl rfl (sw_true rfl rfl rfl (by decide +kernel)) (pi_listK K (pv 3)) (blkOk_by (own := [("_law_column", 9)]) (N := N__law_deed) (sc := (defScope s__law_deed)) (by decide +kernel)) (fun _ _ _ _ _ => (pg_name (i := 9) sc__law_deed.nd rfl (Or.inl rfl))) (fun _ _ _ _ _ => pts_one (pt_cmpR op_gt (pe_callF G__law_take (hr.mono (by decide)) (by rfl) T.g__law_take (pa_cons (pv 0) (pa_cons pe_int pa_nil))) pe_int (nomark _))) (fun _ _ _ _ _ => (pv 9))))) pss_nil) 
    (pss_cons (ps_set (i := 7) sc__law_deed.nd rfl (Or.inl rfl) (pe_op op_cat (pe_lst (pa_cons pe_str pa_nil)) (pe_ifExp (pt_cmpR op_eq (pv 1) pe_str (nomark _)) (pv 6) (pv 3)))) 
    (pss_one (ps_ret (pe_tup (pa_cons (pv 1) (pa_cons (pv 2) (pa_cons (pv 5) (pa_cons (pv 6) (pa_cons (pe_callF G__law_note (hr.mono (by decide)) (by rfl) T.g__law_note (pa_cons (pv 0) (pa_cons (pv 7) pa_nil))) pa_nil)))))))))))), ?_⟩
    refine ⟨_, rfl, _, rfl, b, as, _, rfl, hb, has, by simpa using hmn, by rw [List.length_map]; omega, fun i v hv => ?_⟩
    obtain ⟨s0, hs0, rfl⟩ := strs_get hv
    have hs0m : s0 ∈ marks := List.mem_of_getElem? hs0
    refine ⟨(show 2 ≤ sizeLine by decide), fun t ht => ⟨(show 1 ≤ sizeLine by decide), fun l hl => ⟨Nat.zero_le _, fun o ho => ⟨_, _, rfl, ?_⟩⟩⟩⟩
    have x1 : ∀ u, Same H (upd H t u) := fun u => same_upd ht
    have x2 : ∀ u, Same _ (upd (upd H t (.tup [.str "", .str s0])) l u) := fun u => same_upd hl
    have x3 : ∀ u, Same _ (upd (upd (upd H t (.tup [.str "", .str s0])) l (.lst [.ref t])) o u) := fun u => same_upd ho
    have x0 : Same H (upd (upd (upd H t (.tup [.str "", .str s0])) l (.lst [.ref t])) o (.lst [])) := ((x1 _).trans (x2 _)).trans (x3 _)
    have hlH : H l = none := (x1 _).free hl
    have hoH : H o = none := ((x1 _).trans (x2 _)).free ho
    have lm0 : Dp K (New H (upd (upd (upd H t (.tup [.str "", .str s0])) l (.lst [.ref t])) o (.lst []))) (.ref l) (pairsD [("", s0)]) :=
      .lst (SqL.of (new_at hlH (x3 _ _ _ upd_same))) (.cons (dp_pair_mk (new_at ht (x3 _ _ _ (x2 _ _ _ upd_same)))) .nil)
    refine ⟨fun σ' H' => ∃ (lm : Addr) (mv : List (Str × Str)), σ' = [some (.ref b), some (.str (kS kd)), some (.str nm), some (.ref aw), some (.ref as), some (.ref lm), some (.ref o), none, none, none] ∧ Same H H' ∧ Dp K (New H H') (.ref lm) (pairsD mv) ∧ H' o = some (.lst []) ∧
      (kd = .en → (mv.map (·.1)).Sublist marks ∧ ∀ p ∈ mv, p.2 = "") ∧ (kd ≠ .en → mv = [(("" : Str), s0)]), ?_, ?_⟩
    · refine ⟨_, rfl, rfl, _, rfl, ite2 (fun he => ?_) fun he => ?_⟩
      · have he2 : kd = .en := kS_inj (V.str.inj (of_decide_eq_true he))
        refine ⟨_, rfl, as, rfl, ⟨_, SqL.of (x0 _ _ has)⟩, fun D hD => lc_list (K := K) (a := as) (xs := marks.map V.str) (Gr _ D (PsA K H marks fun y => y = "")) (gr_start hD ⟨[], .nil, List.nil_sublist _, fun _ h => (nomatch h)⟩) (fun i H1 _ G => SqL.of (G.ext _ _ (x0 _ _ has))) (fun i x H1 hi G => ?_) fun H1 G => ?_⟩
        · obtain ⟨s, hs, rfl⟩ := strs_get hi
          have hlt : i < marks.length := (List.getElem?_eq_some_iff.mp hs).1
          refine ⟨rfl, _, rfl, b, 4, rfl, G.ext _ _ (x0 _ _ hb), by decide, by decide, fun r _ _ => ⟨_, _, rfl, rfl, _, rfl, ?_⟩⟩
          refine ite2 (fun _ => ?_) fun _ => psA_skip G hs
          exact ⟨_, rfl, (show 2 ≤ sizeLine by decide), fun t2 ht2 => psA_add x0 G hs ht2 rfl (by omega)⟩
        · rw [List.length_map] at G
          obtain ⟨hx, ps, h1, h2, h3⟩ := psA_end x0 G
          exact ⟨D, ps, rfl, x0.trans hx, h1, hx _ _ upd_same, fun _ => ⟨h2, h3⟩, fun q => absurd he2 q⟩
      · have he2 : kd ≠ .en := fun e => he (by rw [e]; exact decide_eq_true rfl)
        exact ⟨l, [("", s0)], rfl, x0, lm0, upd_same, fun q => absurd q he2, fun _ => rfl⟩
    rintro σ1 H1 ⟨lm, mv, rfl, y1, hlm, hlo, hen, hne⟩
    refine ⟨fun σ' H' => ∃ (lm lo : Addr) (mv : List (Str × Str)) (own : List Str), σ' = [some (.ref b), some (.str (kS kd)), some (.str nm), some (.ref aw), some (.ref as), some (.ref lm), some (.ref lo), none, none, none] ∧ Same H H' ∧ Dp K (New H H') (.ref lm) (pairsD mv) ∧ H' lo = some (.lst (own.map V.str)) ∧ H lo = none ∧
      DdOk cols marks ⟨kd, nm, mv, own⟩, ?_, ?_⟩
    · refine ⟨_, rfl, rfl, _, rfl, ite2 (fun he => ?_) fun he => ?_⟩
      · have he2 : kd = .ch := kS_inj (V.str.inj (of_decide_eq_true he))
        refine ⟨_, rfl, as, rfl, ⟨_, SqL.of (y1 _ _ has)⟩, fun D hD => lc_list (K := K) (a := as) (xs := marks.map V.str) (Gr _ D (PsA K H marks fun y => y ∈ marks)) (gr_start hD ⟨[], .nil, List.nil_sublist _, fun _ h => (nomatch h)⟩) (fun i H1 _ G => SqL.of (G.ext _ _ (y1 _ _ has))) (fun i x H2 hi G => ?_) fun H2 G => ?_⟩
        · obtain ⟨s, hs, rfl⟩ := strs_get hi
          have hlt : i < marks.length := (List.getElem?_eq_some_iff.mp hs).1
          refine ⟨rfl, _, rfl, b, 4, rfl, G.ext _ _ (y1 _ _ hb), by decide, by decide, fun r _ _ => ⟨_, _, rfl, rfl, _, rfl, ?_⟩⟩
          refine ite2 (fun _ => ?_) fun _ => psA_skip G hs
          refine ⟨_, rfl, _, rfl, _, rfl, b, as, _, rfl, G.ext _ _ (y1 _ _ hb), G.ext _ _ (y1 _ _ has), by simpa using hmn, by rw [List.length_map]; omega, fun j v hv => ?_⟩
          obtain ⟨s2, hs2, rfl⟩ := strs_get hv
          exact ⟨(show 2 ≤ sizeLine by decide), fun t2 ht2 => psA_add y1 G hs ht2 (List.mem_of_getElem? hs2) (by omega)⟩
        · rw [List.length_map] at G
          obtain ⟨hx, ps, h1, h2, h3⟩ := psA_end y1 G
          have y2 := y1.trans hx
          refine ⟨_, rfl, aw, rfl, ⟨_, SqL.of (y2 _ _ haw)⟩, fun D2 hD2 => draw_filter (y2 _ _ hb) (SqL.of (y2 _ _ haw)) (by omega) hcn hD2 (fun _ => rfl) (fun x H3 Q3 hb3 q => ?_) (fun _ => rfl) fun H3 own x3 hd3 s3 => ?_⟩
          · exact ⟨_, rfl, b, 3, rfl, hb3, by decide, by decide, fun r _ _ => ⟨_, _, rfl, rfl, _, rfl, q _⟩⟩
          · refine ⟨D, D2, ps, own, rfl, y2.trans x3, dp_same (new_same x3) h1, hd3, y2.free hD2, fun q => absurd (he2.symm.trans q) (by decide), fun _ p hp => ⟨h2.subset (List.mem_map_of_mem hp), h3 p hp⟩, fun q => absurd (he2.symm.trans q) (by decide), hmd.sublist h2, ?_, hcn.sublist s3, fun c hc => s3.subset hc, fun q => absurd he2 q⟩
            have := h2.length_le
            rw [List.length_map] at this
            show ps.length ≤ 3
            omega
      · have he2 : kd ≠ .ch := fun e => he (by rw [e]; exact decide_eq_true rfl)
        refine ⟨lm, o, mv, [], rfl, y1, hlm, hlo, hoH, ?_⟩
        by_cases hk : kd = .en
        · obtain ⟨h1, h2⟩ := hen hk
          refine ⟨fun q => absurd (hk.symm.trans q) (by decide), fun q => absurd q he2, fun _ p hp => ⟨h1.subset (List.mem_map_of_mem hp), h2 p hp⟩, hmd.sublist h1, ?_, List.nodup_nil, fun _ h => (nomatch h), fun _ => rfl⟩
          have := h1.length_le
          rw [List.length_map] at this
          show mv.length ≤ 3
          omega
        · have e := hne hk
          subst e
          exact ⟨fun _ => ⟨s0, hs0m, rfl⟩, fun q => absurd q he2, fun q => absurd q hk, by simp, (show 1 ≤ 3 by decide), List.nodup_nil, fun _ h => (nomatch h), fun _ => rfl⟩
    rintro σ2 H2 ⟨lm, lo, mv, own, rfl, y2, hlm, hlo, hloH, ok⟩
    have words : ∀ (Q2 : V → Hp → Prop), (∀ (wl : Addr), H2 wl = none ∨ True → ∀ H3, Same H2 H3 → H3 wl = some (.lst ((wordsOf cols ⟨kd, nm, mv, own⟩).map V.str)) → Q2 (.ref wl) H3) →
        tOp rCat (tLst (tCons (tC (.str "state")) tNil)) (tIf (tTest (tOp rEq (tVar 1) (tC (.str "change")))) (tVar 6) (tVar 3)) [some (.ref b), some (.str (kS kd)), some (.str nm), some (.ref aw), some (.ref as), some (.ref lm), some (.ref lo), none, none, none] H2 Q2 := fun Q2 fin => by
      refine ⟨(show 1 ≤ sizeLine by decide), fun p hp => ⟨_, rfl, rfl, _, rfl, ?_⟩⟩
      have xp : ∀ u, Same H2 (upd H2 p u) := fun u => same_upd hp
      refine ite2 (fun he => ?_) fun he => ?_
      · have he2 : kd = .ch := kS_inj (V.str.inj (of_decide_eq_true he))
        have hol : own.length ≤ 2 := Nat.le_trans (nodup_len ok.own.1 ok.own.2.1) hcl
        refine ⟨_, rfl, p, lo, _, _, rfl, rfl, upd_same, xp _ _ _ hlo, by rw [List.length_map]; exact Nat.le_trans (Nat.add_le_add_left hol _) (show 3 ≤ sizeLine by decide), fun q hq => fin q (.inr trivial) _ ((xp _).trans (same_upd hq)) ?_⟩
        rw [upd_same]
        unfold wordsOf
        rw [if_pos he2]
        rfl
      · have he2 : kd ≠ .ch := fun e => he (by rw [e]; exact decide_eq_true rfl)
        refine ⟨_, rfl, p, aw, _, _, rfl, rfl, upd_same, xp _ _ _ (y2 _ _ haw), by rw [List.length_map]; exact Nat.le_trans (Nat.add_le_add_left hcl _) (show 3 ≤ sizeLine by decide), fun q hq => fin q (.inr trivial) _ ((xp _).trans (same_upd hq)) ?_⟩
        rw [upd_same]
        unfold wordsOf
        rw [if_neg he2]
        rfl
    refine words _ fun wl _ H3 x3 hwl => ?_
    have hws : (wordsOf cols ⟨kd, nm, mv, own⟩).Nodup ∧ (wordsOf cols ⟨kd, nm, mv, own⟩).length ≤ 8 := by
      unfold wordsOf
      split
      · have hol : own.length ≤ 2 := Nat.le_trans (nodup_len ok.own.1 ok.own.2.1) hcl
        exact ⟨List.nodup_cons.mpr ⟨fun h => hst (ok.own.2.1 _ h), ok.own.1⟩, by show own.length + 1 ≤ 8; omega⟩
      · exact ⟨List.nodup_cons.mpr ⟨hst, hcn⟩, by show cols.length + 1 ≤ 8; omega⟩
    have y3 := y2.trans x3
    refine ⟨_, rfl, _, rfl, _, rfl, _, rfl, _, rfl, _, rfl, b, wl, _, rfl, y3 _ _ hb, SqL.of hwl, hws.2, hws.1, fun v o2 H4 x4 dv hv => ?_⟩
    refine ⟨(show 5 ≤ sizeLine by decide), fun p hp => ?_⟩
    have xp : ∀ u, Same H4 (upd H4 p u) := fun u => same_upd hp
    refine k _ (⟨kd, nm, mv, own⟩, o2) _ ((y3.trans x4).trans (xp _)) (.tup (SqT.of (new_at ((y3.trans x4).free hp) upd_same)) (.cons (.str _) (.cons (.str _) (.cons (dp_same (new_same ((x3.trans x4).trans (xp _))) hlm) (.cons (dp_strs_mk (SqL.of (new_at hloH (((x3.trans x4).trans (xp _)) _ _ hlo)))) (.cons (dp_same ((new_back y3).trans (new_same (xp _))) dv) .nil)))))) rfl rfl ok hv
end
end K59
/-! K59N -/
set_option Elab.async false
set_option linter.all false
set_option maxRecDepth 100000
/-! objects: notes, deeds -/
namespace K59
open PySem PySem.Spec PyProof.Rows L2
theorem same_less_upd {D : Addr} {H H2 : Hp} {o : HO} (e : Same (less D H) H2) : Same (less D H) (upd H2 D o) := fun b u q => by
  by_cases h : b = D
  · rw [less, if_pos h] at q
    cases q
  · rw [upd_ne h]
    exact e b u q
theorem less_none {D : Addr} {H : Hp} (h : H D = none) : less D H = H := by
  funext b
  by_cases q : b = D
  · rw [less, if_pos q, q, h]
  · exact less_ne q
/-- from a heap without the new object to the heap it was made in -/
theorem same_made {x dx : Addr} {H H' : Hp} {o : HO} (hx : H x = none) (hd : H dx = none) (e : Same (less x (upd (upd H dx (.own x)) x o)) H') : Same H H' := fun b u q => by
  refine e b u ?_
  rw [less_upd, less_ne (ne_of_none q hx), upd_ne (ne_of_none q hd)]
  exact q
section
variable {K : PySem.W.Frag} {H H' : Hp} {a x C dx : Addr} {fs : List (Str × V)} {xs : List V}
theorem sql_less (h : SqL K H a xs) (hx : H x = some (.ins C dx fs)) : SqL K (less x H) a xs := by
  rcases h with (h | ⟨o, h⟩) | h
  · exact .inl (.inl (less_at hx h (fun z => nomatch z)))
  · exact .inl (.inr ⟨o, less_at hx h (fun z => nomatch z)⟩)
  · exact .inr h
theorem sqt_less (h : SqT K H a xs) (hx : H x = some (.ins C dx fs)) : SqT K (less x H) a xs := by
  rcases h with (h | ⟨o, h⟩) | h
  · exact .inl (.inl (less_at hx h (fun z => nomatch z)))
  · exact .inl (.inr ⟨o, less_at hx h (fun z => nomatch z)⟩)
  · exact .inr h
mutual
theorem dp_less (hx : H x = some (.ins C dx fs)) : ∀ {v : V} {d : PyData}, Dp K H v d → Dp K (less x H) v d
  | _, _, .non => .non
  | _, _, .bl b => .bl b
  | _, _, .int i => .int i
  | _, _, .str s => .str s
  | _, _, .lst h a => .lst (sql_less h hx) (dpa_less hx a)
  | _, _, .tup h a => .tup (sqt_less h hx) (dpa_less hx a)
theorem dpa_less (hx : H x = some (.ins C dx fs)) : ∀ {vs : List V} {ds : List PyData}, DpAll K H vs ds → DpAll K (less x H) vs ds
  | _, _, .nil => .nil
  | _, _, .cons h t => .cons (dp_less hx h) (dpa_less hx t)
end
/-- deep data in another order -/
theorem dpa_perm {ys : List V} (p : ys.Perm xs) : ∀ {ds : List PyData}, DpAll K H xs ds → ∃ es, es.Perm ds ∧ DpAll K H ys es := by
  induction p with
  | nil => exact fun {ds} h => ⟨ds, .refl _, h⟩
  | @cons x l1 l2 _ ih =>
    intro ds h
    cases h with
    | cons h t =>
      obtain ⟨es, h1, h2⟩ := ih t
      exact ⟨_ :: es, h1.cons _, .cons h h2⟩
  | @swap x y l =>
    intro ds h
    cases h with
    | cons h t =>
      cases t with
      | cons h2 t => exact ⟨_, .swap .., .cons h2 (.cons h t)⟩
  | trans _ _ ih1 ih2 =>
    intro ds h
    obtain ⟨es, h1, h2⟩ := ih2 h
    obtain ⟨es2, h3, h4⟩ := ih1 h2
    exact ⟨es2, h3.trans h1, h4⟩
theorem pairs_perm {ys : List V} {l : List (Str × Str)} (p : ys.Perm xs) (h : DpAll K H xs (l.map pairD)) : ∃ m : List (Str × Str), m.Perm l ∧ DpAll K H ys (m.map pairD) := by
  obtain ⟨es, h1, h2⟩ := dpa_perm p h
  obtain ⟨m, h3, h4⟩ : ∃ m : List (Str × Str), m.Perm l ∧ es = m.map pairD := by
    have : ∀ (l2 : List PyData) (es : List PyData), es.Perm l2 → ∀ l : List (Str × Str), l2 = l.map pairD → ∃ m : List (Str × Str), m.Perm l ∧ es = m.map pairD := by
      intro l2 es p
      induction p with
      | nil =>
        intro l e
        have : l = [] := List.map_eq_nil_iff.mp e.symm
        exact ⟨[], by rw [this], rfl⟩
      | cons x _ ih =>
        intro l e
        cases l with
        | nil => cases e
        | cons y r =>
          obtain ⟨e1, e2⟩ := List.cons.inj e
          obtain ⟨m, q1, q2⟩ := ih r e2
          exact ⟨y :: m, q1.cons _, by rw [q2, e1]; rfl⟩
      | swap x y _ =>
        intro l e
        match l, e with
        | [], e => cases e
        | [_], e => cases e
        | a :: b :: r, e =>
          obtain ⟨e1, e2⟩ := List.cons.inj e
          obtain ⟨e2, e3⟩ := List.cons.inj e2
          exact ⟨b :: a :: r, .swap .., by rw [e1, e2, e3]; rfl⟩
      | trans _ _ ih1 ih2 =>
        intro l e
        obtain ⟨m, q1, q2⟩ := ih2 l e
        obtain ⟨m2, q3, q4⟩ := ih1 m q2
        exact ⟨m2, q3.trans q1, q4⟩
    exact this _ _ h1 l rfl
  rw [h4] at h2
  exact ⟨m, h3, h2⟩
end
section
variable {K : PySem.W.Frag} {H : Hp} {xs : List V} {d0 d1 d2 d3 d4 : PyData}
theorem dpa2 (h : DpAll K H xs [d0, d1]) : ∃ v0 v1, xs = [v0, v1] ∧ Dp K H v0 d0 ∧ Dp K H v1 d1 := by
  cases h with
  | cons a h => cases h with
    | cons b h => cases h with
      | nil => exact ⟨_, _, rfl, a, b⟩
theorem dpa3 (h : DpAll K H xs [d0, d1, d2]) : ∃ v0 v1 v2, xs = [v0, v1, v2] ∧ Dp K H v0 d0 ∧ Dp K H v1 d1 ∧ Dp K H v2 d2 := by
  cases h with
  | cons a h =>
    obtain ⟨v1, v2, rfl, b, c⟩ := dpa2 h
    exact ⟨_, _, _, rfl, a, b, c⟩
theorem dpa4 (h : DpAll K H xs [d0, d1, d2, d3]) : ∃ v0 v1 v2 v3, xs = [v0, v1, v2, v3] ∧ Dp K H v0 d0 ∧ Dp K H v1 d1 ∧ Dp K H v2 d2 ∧ Dp K H v3 d3 := by
  cases h with
  | cons a h =>
    obtain ⟨v1, v2, v3, rfl, b, c, d⟩ := dpa3 h
    exact ⟨_, _, _, _, rfl, a, b, c, d⟩
theorem dpa5 (h : DpAll K H xs [d0, d1, d2, d3, d4]) : ∃ v0 v1 v2 v3 v4, xs = [v0, v1, v2, v3, v4] ∧ Dp K H v0 d0 ∧ Dp K H v1 d1 ∧ Dp K H v2 d2 ∧ Dp K H v3 d3 ∧ Dp K H v4 d4 := by
  cases h with
  | cons a h =>
    obtain ⟨v1, v2, v3, v4, rfl, b, c, d, e⟩ := dpa4 h
    exact ⟨_, _, _, _, _, rfl, a, b, c, d, e⟩
end
/-! ### notes and deeds -/
def NoteAt (K : PySem.W.Frag) (H : Hp) (ws : List Str) (v : V) : Prop := v = .non ∨ ∃ (a dx o p : Addr) (os ns : List Str) (b1 b2 : Bool), v = .ref a ∧
  H a = some (.ins (He.ga K "Note") dx [("old", .ref o), ("new", .ref p), ("named", .bl b1), ("changed", .bl b2)]) ∧ SqT K H o (os.map V.str) ∧ SqT K H p (ns.map V.str) ∧ (∀ x ∈ os, x ∈ ws) ∧ (∀ x ∈ ns, x ∈ ws) ∧ os.length ≤ 4 ∧ ns.length ≤ 4
theorem note_same {K : PySem.W.Frag} {H H' : Hp} {ws : List Str} {v : V} (e : Same H H') (h : NoteAt K H ws v) : NoteAt K H' ws v := by
  rcases h with h | ⟨a, dx, o, p, os, ns, b1, b2, h, h1, h2, h3, r⟩
  · exact .inl h
  · exact .inr ⟨a, dx, o, p, os, ns, b1, b2, h, e _ _ h1, same_tup e h2, same_tup e h3, r⟩
def clsN : Kd → Str
  | .mk => "Make"
  | .ch => "Change"
  | .en => "End"
def clsA (K : PySem.W.Frag) (k : Kd) : Addr := He.ga K (clsN k)
/-- the deed object at v, with the moves mv and the columns own -/
structure DeedAt (K : PySem.W.Frag) (H : Hp) (cols : List Str) (d : Dd) (v : V) : Prop where
  ex : ∃ (a dx m c : Addr) (ms : List V) (mv : List (Str × Str)) (own : List Str) (nv : V), v = .ref a ∧ H a = some (.ins (clsA K d.k) dx [("name", .str d.nm), ("moves", .ref m), ("columns", .ref c), ("note", nv)]) ∧
    SqT K H m ms ∧ DpAll K H ms (mv.map pairD) ∧ mv.Perm d.mv ∧ SqT K H c (own.map V.str) ∧ own.Perm d.own ∧ NoteAt K H (wordsOf cols d) nv
theorem deed_same {K : PySem.W.Frag} {H H' : Hp} {cols : List Str} {d : Dd} {v : V} (e : Same H H') (h : DeedAt K H cols d v) : DeedAt K H' cols d v := by
  obtain ⟨a, dx, m, c, ms, mv, own, nv, h, h1, h2, h3, h4, h5, h6, h7⟩ := h.ex
  exact ⟨a, dx, m, c, ms, mv, own, nv, h, e _ _ h1, same_tup e h2, dpa_same e h3, h4, same_tup e h5, h6, note_same e h7⟩
section
variable {K : PySem.W.Frag} {H : Hp} {mg : Str → Option Value} {P : Program}
/-- a tuple's type -/
theorem tyx_tup {a : Addr} {xs : List V} (h : SqT K H a xs) : TyX K H (.ref a) (.type "tuple") := by
  rcases h with (h | ⟨o, h⟩) | ⟨o, its, n, h, c, _⟩
  · exact .base (.tup h)
  · exact .fTuple h
  · exact .kTuple h c
theorem tyx_note (T : Tx1 P K mg) {a dx : Addr} {fs : List (Str × V)} (h : H a = some (.ins (He.ga K "Note") dx fs)) : TyX K H (.ref a) (.ref (He.ga K "Note")) := .base (.ins h T.c_Note T.t_Note T.t_get T.t_takes T.o_Note)
theorem cls_deed (T : Tx1 P K mg) (k : Kd) : Cls K (clsA K k) := by
  cases k
  · exact T.c_Make
  · exact T.c_Change
  · exact T.c_End
theorem tyx_deed (T : Tx1 P K mg) {k : Kd} {a dx : Addr} {fs : List (Str × V)} (h : H a = some (.ins (clsA K k) dx fs)) : TyX K H (.ref a) (.ref (clsA K k)) := by
  cases k
  · exact .base (.ins h T.c_Make T.t_Make T.t_get T.t_takes T.o_Make)
  · exact .base (.ins h T.c_Change T.t_Change T.t_get T.t_takes T.o_Change)
  · exact .base (.ins h T.c_End T.t_End T.t_get T.t_takes T.o_End)
theorem kit_deed (T : Tx1 P K mg) (k j : Kd) : PySem.W.kitOne K (.ref (clsA K k)) (.ref (clsA K j)) = some (decide (k = j)) := by
  cases k <;> cases j
  · exact T.x_Make_Make
  · exact T.x_Make_Change
  · exact T.x_Make_End
  · exact T.x_Change_Make
  · exact T.x_Change_Change
  · exact T.x_Change_End
  · exact T.x_End_Make
  · exact T.x_End_Change
  · exact T.x_End_End
theorem na_name (T : Tx1 P K mg) (k : Kd) : NoAttr K (clsA K k) "name" := by
  cases k
  · exact T.a_Make_name
  · exact T.a_Change_name
  · exact T.a_End_name
theorem na_moves (T : Tx1 P K mg) (k : Kd) : NoAttr K (clsA K k) "moves" := by
  cases k
  · exact T.a_Make_moves
  · exact T.a_Change_moves
  · exact T.a_End_moves
theorem na_columns (T : Tx1 P K mg) (k : Kd) : NoAttr K (clsA K k) "columns" := by
  cases k
  · exact T.a_Make_columns
  · exact T.a_Change_columns
  · exact T.a_End_columns
theorem na_note (T : Tx1 P K mg) (k : Kd) : NoAttr K (clsA K k) "note" := by
  cases k
  · exact T.a_Make_note
  · exact T.a_Change_note
  · exact T.a_End_note
end
end K59
/-! D01 -/
set_option Elab.async false
set_option linter.all false
set_option maxRecDepth 100000
namespace K59
open PySem PySem.Spec PyProof.Rows L2
section
variable {P : Program} {w : World} {K : PySem.W.Frag} {mg : Str → Option Value} {base : Heap}
abbrev s_is_name : Stmt := top 19
abbrev N_is_name : List Str := ["thing", "letter"]
theorem sc_is_name : FnScope N_is_name ["thing"] (defScope s_is_name) := ⟨rfl, rfl, rfl, by decide +kernel, rfl, by decide +kernel, by decide +kernel⟩
def sp_is_name : Sp := fun vs H Q _ => ∃ s, vs = [.str s] ∧ Nm s ∧ ∀ H', Same H H' → Q (.bl true) H'
theorem ok_is_name (T : Tx0 K mg) : OkR P w K mg base 1 (He.fAd K ("is_name", none)) sp_is_name := by
  obtain ⟨tM, hMOST_LETTERS⟩ := T.i_MOST_LETTERS
  obtain ⟨tL, hLETTERS⟩ := T.i_LETTERS
  refine mkR T.f_is_name sc_is_name (fun vs H Q E h => ?_) (fun _ _ _ _ _ _ us hl => match us, hl with | [_], _ => rfl) fun cdv A outer s H vs Q E hr h => ?_
  · obtain ⟨s, rfl, _⟩ := h
    rfl
  · obtain ⟨x, rfl, ⟨h1, h2, h3⟩, k⟩ := h
    have hz : x.length ≤ sizeLine := Nat.le_trans h2 (by decide)
    refine ⟨_, 
    (pss_cons (ps_if (PW.pt (pw_or (pt_not (pt_val (pe_callB (isiC K) (by rfl) T.n_isinstance (by decide +kernel) (pa_cons (pv 0) (pa_cons (pe_bltn (v := .ty "str") (by rfl) T.n_str (by decide +kernel) rfl) pa_nil))) (by intro _; rfl))) (pw_or1 (pt_not (pt_chain op_le op_le pe_int (pe_callB call_len_str (by rfl) T.n_len (by decide +kernel) (pa_cons (pv 0) pa_nil)) (pe_glob (v := .int 8) rfl hMOST_LETTERS ⟨_, rfl⟩)))))) 
      (pss_one (ps_ret pe_bl)) pss_nil) 
    (pss_one (ps_ret (pe_callB (allK K) (by rfl) T.n_all (by decide +kernel) (pa_cons (pe_lc (own := [("letter", 1)]) (by rfl) sc_is_name.nd (pi_str (pv 0)) (blkOk_by (own := [("letter", 1)]) (N := N_is_name) (sc := (defScope s_is_name)) (by decide +kernel)) (fun _ _ _ _ _ => (pg_name (i := 1) sc_is_name.nd rfl (Or.inl rfl))) (fun _ _ _ _ _ => pts_nil) (fun _ _ _ _ _ => (pe_cmpR op_inS (pv 1) (pe_glob (v := .str "abcdefghijklmnopqrstuvwxyz") rfl hLETTERS ⟨_, rfl⟩) (by rfl)))) pa_nil))))), ?_⟩
    refine ⟨_, rfl, _, _, _, _, true, rfl, ClsV.ty _, TyX.base (TyOf.str _), kit_ty (by decide +kernel), _, rfl, ?_⟩
    refine iteF ?_
    refine ⟨_, rfl, x, rfl, hz, _, _, rfl, rfl, true, congrArg V.bl (decide_eq_true (by omega)), iteT ⟨_, _, rfl, rfl, true, congrArg V.bl (decide_eq_true (by omega)), ?_⟩⟩
    refine iteF ?_
    refine ⟨_, rfl, x, rfl, fun D hD => lc_str (Gr H D fun i acc _ => acc = List.replicate i (V.bl true)) (gr_start hD rfl) (fun i c H1 hc G => ⟨rfl, _, rfl, c, _, rfl, rfl, ?_⟩) fun H1 G => ?_⟩
    · have hm : c ∈ x.cps.toList := by
        rw [← Array.getElem?_toList] at hc
        exact List.mem_of_getElem? hc
      rw [decide_eq_true (letters_mem (h3 c hm))]
      have hi : i < 8 := by
        have := (Array.getElem?_eq_some_iff.mp hc).1
        exact Nat.lt_of_lt_of_le this h2
      exact gr_add G (Same.refl _) (by omega) (fun _ _ _ _ _ h => h) fun acc h => by rw [h, List.replicate_succ']
    · obtain ⟨_, hx, acc, ha, _, e⟩ := G
      subst e
      refine ⟨D, List.replicate x.cps.size true, rfl, SqL.of (by rw [List.map_replicate]; exact ha), ?_⟩
      have e : (List.replicate x.cps.size true).all id = true := by simp
      rw [e]
      exact k _ hx
end
end K59
/-! D06 -/
set_option Elab.async false
set_option linter.all false
set_option maxRecDepth 100000
namespace K59
open PySem PySem.Spec PyProof.Rows L2
section
variable {P : Program} {w : World} {K : PySem.W.Frag} {mg : Str → Option Value} {base : Heap}
abbrev s_is_integer : Stmt := top 18
abbrev N_is_integer : List Str := ["thing"]
theorem sc_is_integer : FnScope N_is_integer ["thing"] (defScope s_is_integer) := ⟨rfl, rfl, rfl, by decide +kernel, rfl, by decide +kernel, by decide +kernel⟩
abbrev s_is_between : Stmt := top 20
abbrev N_is_between : List Str := ["thing", "low", "high"]
theorem sc_is_between : FnScope N_is_between ["thing", "low", "high"] (defScope s_is_between) := ⟨rfl, rfl, rfl, by decide +kernel, rfl, by decide +kernel, by decide +kernel⟩
abbrev s_check_name : Stmt := top 21
abbrev N_check_name : List Str := ["thing"]
theorem sc_check_name : FnScope N_check_name ["thing"] (defScope s_check_name) := ⟨rfl, rfl, rfl, by decide +kernel, rfl, by decide +kernel, by decide +kernel⟩
abbrev s_check_once : Stmt := top 22
abbrev N_check_once : List Str := ["names", "index", "name"]
theorem sc_check_once : FnScope N_check_once ["names"] (defScope s_check_once) := ⟨rfl, rfl, rfl, by decide +kernel, rfl, by decide +kernel, by decide +kernel⟩
abbrev s_check_names : Stmt := top 23
abbrev N_check_names : List Str := ["things", "most", "thing"]
theorem sc_check_names : FnScope N_check_names ["things", "most"] (defScope s_check_names) := ⟨rfl, rfl, rfl, by decide +kernel, rfl, by decide +kernel, by decide +kernel⟩
abbrev s_check_columns : Stmt := top 56
abbrev N_check_columns : List Str := ["columns", "column"]
theorem sc_check_columns : FnScope N_check_columns ["columns"] (defScope s_check_columns) := ⟨rfl, rfl, rfl, by decide +kernel, rfl, by decide +kernel, by decide +kernel⟩
abbrev s_check_note : Stmt := top 31
abbrev N_check_note : List Str := ["note"]
theorem sc_check_note : FnScope N_check_note ["note"] (defScope s_check_note) := ⟨rfl, rfl, rfl, by decide +kernel, rfl, by decide +kernel, by decide +kernel⟩
abbrev s_check_column : Stmt := top 37
abbrev N_check_column : List Str := ["book", "thing"]
theorem sc_check_column : FnScope N_check_column ["book", "thing"] (defScope s_check_column) := ⟨rfl, rfl, rfl, by decide +kernel, rfl, by decide +kernel, by decide +kernel⟩
abbrev s_check_price : Stmt := top 45
abbrev N_check_price : List Str := ["thing"]
theorem sc_check_price : FnScope N_check_price ["thing"] (defScope s_check_price) := ⟨rfl, rfl, rfl, by decide +kernel, rfl, by decide +kernel, by decide +kernel⟩
abbrev s_check_side : Stmt := top 46
abbrev N_check_side : List Str := ["side", "deed"]
theorem sc_check_side : FnScope N_check_side ["side", "deed"] (defScope s_check_side) := ⟨rfl, rfl, rfl, by decide +kernel, rfl, by decide +kernel, by decide +kernel⟩
abbrev s_ends_of : Stmt := top 48
abbrev N_ends_of : List Str := ["pair"]
theorem sc_ends_of : FnScope N_ends_of ["pair"] (defScope s_ends_of) := ⟨rfl, rfl, rfl, by decide +kernel, rfl, by decide +kernel, by decide +kernel⟩
def sp_is_integer : Sp := fun vs H Q _ => ∃ i, vs = [.int i] ∧ Q (.bl true) H
theorem ok_is_integer (T : Tx0 K mg) : OkR P w K mg base 1 (He.fAd K ("is_integer", none)) sp_is_integer := by
  refine mkR T.f_is_integer sc_is_integer (fun vs H Q E h => ?_) (fun _ _ _ _ _ _ us hl => match us, hl with | [_], _ => rfl) fun cdv A outer s H vs Q E hr h => ?_
  · obtain ⟨i, rfl, _⟩ := h
    rfl
  · obtain ⟨i, rfl, k⟩ := h
    refine ⟨_, 
    (pss_one (ps_ret (pe_and (pe_callB (isiC K) (by rfl) T.n_isinstance (by decide +kernel) (pa_cons (pv 0) (pa_cons (pe_bltn (v := .ty "int") (by rfl) T.n_int (by decide +kernel) rfl) pa_nil))) (pe_one (pe_not (pe_callB (isiC K) (by rfl) T.n_isinstance (by decide +kernel) (pa_cons (pv 0) (pa_cons (pe_bltn (v := .ty "bool") (by rfl) T.n_bool (by decide +kernel) rfl) pa_nil)))))))), ?_⟩
    refine ⟨_, rfl, _, _, _, _, true, rfl, ClsV.ty _, TyX.base (TyOf.int _), kit_ty (by decide +kernel), _, rfl, iteT ?_⟩
    exact ⟨_, rfl, _, _, _, _, false, rfl, ClsV.ty _, TyX.base (TyOf.int _), kit_ty (by decide +kernel), _, rfl, k⟩
def sp_is_between : Sp := fun vs H Q _ => ∃ i lo hi, vs = [.int i, .int lo, .int hi] ∧ lo ≤ i ∧ i ≤ hi ∧ Q (.bl true) H
theorem ok_is_between (T : Tx0 K mg) : OkR P w K mg base 2 (He.fAd K ("is_between", none)) sp_is_between := by
  have G_is_integer : OkR P w K mg base 1 (He.fAd K ("is_integer", none)) sp_is_integer := ok_is_integer T
  refine mkR T.f_is_between sc_is_between (fun vs H Q E h => ?_) (fun _ _ _ _ _ _ us hl => match us, hl with | [_, _, _], _ => rfl) fun cdv A outer s H vs Q E hr h => ?_
  · obtain ⟨i, _, _, rfl, _⟩ := h
    rfl
  · obtain ⟨i, lo, hi, rfl, h1, h2, k⟩ := h
    refine ⟨_, 
    (pss_one (ps_ret (pe_and (pe_callF G_is_integer (hr.mono (by decide)) (by rfl) T.g_is_integer (pa_cons (pv 0) pa_nil)) (pe_one (pe_chain op_le op_le (pv 1) (pv 0) (pv 2)))))), ?_⟩
    refine ⟨_, rfl, i, rfl, ?_⟩
    refine ⟨_, rfl, iteT ?_⟩
    refine ⟨_, rfl, _, rfl, _, _, rfl, rfl, true, congrArg V.bl (decide_eq_true h1), iteT ?_⟩
    refine ⟨_, rfl, _, _, rfl, rfl, ?_⟩
    show Q (.bl (decide (i ≤ hi))) H
    rw [decide_eq_true h2]
    exact k
def sp_check_name : Sp := fun vs H Q _ => ∃ s, vs = [.str s] ∧ Nm s ∧ ∀ H', Same H H' → Q .non H'
theorem ok_check_name (T : Tx0 K mg) : OkR P w K mg base 2 (He.fAd K ("check_name", none)) sp_check_name := by
  have G_is_name : OkR P w K mg base 1 (He.fAd K ("is_name", none)) sp_is_name := ok_is_name T
  refine mkR T.f_check_name sc_check_name (fun vs H Q E h => ?_) (fun _ _ _ _ _ _ us hl => match us, hl with | [_], _ => rfl) fun cdv A outer s H vs Q E hr h => ?_
  · obtain ⟨i, rfl, _⟩ := h
    rfl
  · obtain ⟨x, rfl, hn, k⟩ := h
    refine ⟨_, 
    (pss_one (ps_if (pt_not (pt_val (pe_callF G_is_name (hr.mono (by decide)) (by rfl) T.g_is_name (pa_cons (pv 0) pa_nil)) (by intro _; rfl))) 
      (pss_one ps_never) pss_nil)), ?_⟩
    refine ⟨_, rfl, x, rfl, hn, fun H' e => ⟨_, rfl, iteF ?_⟩⟩
    exact k _ e
def sp_once (K : PySem.W.Frag) : Sp := fun vs H Q _ => ∃ (a : Addr) (ns : List Str), vs = [.ref a] ∧ SqA K H a (ns.map V.str) ∧ ns.Nodup ∧ ∀ H', Same H H' → Q .non H'
theorem cut_take (xs : List V) (i : Nat) : cutV xs none (some (i : Int)) = xs.take i := by
  unfold cutV
  have e0 : HT.sIx xs.length 0 none = 0 := rfl
  have e1 : HT.sIx xs.length xs.length (some (i : Int)) = min i xs.length := by
    unfold HT.sIx
    simp only
    split <;> omega
  rw [e0, e1]
  show (xs.drop 0).take (min i xs.length - 0) = xs.take i
  rw [Nat.sub_zero, List.drop_zero]
  rcases Nat.le_total i xs.length with h | h
  · rw [Nat.min_eq_left h]
  · rw [Nat.min_eq_right h, List.take_of_length_le (Nat.le_refl _), List.take_of_length_le h]
theorem ok_once (T : Tx0 K mg) : OkR P w K mg base 1 (He.fAd K ("check_once", none)) (sp_once K) := by
  refine mkR T.f_check_once sc_check_once (fun vs H Q E h => ?_) (fun _ _ _ _ _ _ us hl => match us, hl with | [_], _ => rfl) fun cdv A outer s H vs Q E hr h => ?_
  · obtain ⟨i, _, rfl, _⟩ := h
    rfl
  · obtain ⟨a, ns, rfl, ha, hn, k⟩ := h
    refine ⟨_, 
    (pss_one (ps_for PassesOwn.never rfl (pi_or (pi_enumK K (by rfl) T.n_enumerate (pa_cons (pv 0) pa_nil)) (pi_enumT K (by rfl) T.n_enumerate (pa_cons (pv 0) pa_nil))) (pg_tupK (n := 2) K (by rfl) (pgs_cons (pg_name (i := 1) sc_check_once.nd rfl (Or.inl rfl)) (pgs_cons (pg_name (i := 2) sc_check_once.nd rfl (Or.inl rfl)) pgs_nil))) 
      (pss_one (ps_if (pt_cmpR (inK K) (pv 2) (pe_slice (sl_or (sl_listK K) (sl_tupK K)) (pv 0) po_none (po_some (pv 1))) (by rfl)) 
        (pss_one ps_never) pss_nil)))), ?_⟩
    have hnot : ∀ (i : Nat) (x : V), (ns.map V.str)[i]? = some x → ∃ s, x = .str s ∧ s ∉ ns.take i := fun i x hi => by
      obtain ⟨s, hs, rfl⟩ := strs_get hi
      refine ⟨s, rfl, fun hm => ?_⟩
      have hlt := (List.getElem?_eq_some_iff.mp hs).1
      have e : ns.take i ++ s :: ns.drop (i + 1) = ns := by
        have e1 : ns.drop i = s :: ns.drop (i + 1) := by
          rw [List.drop_eq_getElem_cons hlt]
          rw [List.getElem?_eq_getElem hlt] at hs
          rw [Option.some.inj hs]
        rw [← e1, List.take_append_drop]
      rw [← e] at hn
      exact (List.nodup_append.mp hn).2.2 s hm s List.mem_cons_self rfl
    have turn : ∀ (i : Nat) (x : V) (H1 : Hp) (Tp : Addr) (v1 v2 : Option V) (Dd : Ends), (ns.map V.str)[i]? = some x → Same H H1 → H1 Tp = none → 
        (∀ H2, Same H1 H2 → Dd.nx [some (.ref a), some (.int (i : Nat)), some x] H2) →
        gTup K 2 (gCons (gName 1) (gCons (gName 2) gNil)) (.ref Tp) [some (.ref a), v1, v2] (upd H1 Tp (.tup [.int (i : Nat), x])) fun σ2 H2 =>
        tIfS (tTest (tOp (rIn K false) (tVar 2) (tSl (rOr (rSlL K) (rSlA K)) (tVar 0) tNoPart (tPart (tVar 1))))) tNever tNext Dd σ2 H2 := fun i x H1 Tp v1 v2 Dd hi e hT fin => by
      obtain ⟨s, rfl, hs⟩ := hnot i x hi
      have xT : ∀ u, Same H1 (upd H1 Tp u) := fun u => same_upd hT
      refine ⟨Tp, _, rfl, SqT.of upd_same, rfl, _, _, rfl, _, _, rfl, rfl, ?_⟩
      refine ⟨_, rfl, _, rfl, ?_⟩
      have hmp : List.take i (ns.map V.str) = (ns.take i).map V.str := List.map_take.symm
      rcases ha with ha | ha
      · refine ⟨_, rfl, _, rfl, .inl ⟨a, _, rfl, (e.trans (xT _)).seq ha, fun p hp => ?_⟩⟩
        rw [cut_take, hmp]
        refine ⟨p, _, rfl, .inl (SqL.of upd_same), rfl, flat_strs _, _, rfl, ?_⟩
        rw [inV_strs, decide_eq_false hs]
        exact iteF (fin _ ((xT _).trans (same_upd hp)))
      · refine ⟨_, rfl, _, rfl, .inr ⟨a, _, rfl, same_tup (e.trans (xT _)) ha, fun hw => ?_, fun hw p hp => ?_⟩⟩
        · exfalso
          have h1 := hw.2
          have hlt := (List.getElem?_eq_some_iff.mp hi).1
          unfold HT.sIx at h1
          simp only at h1
          split at h1 <;> omega
        · rw [cut_take, hmp]
          refine ⟨p, _, rfl, .inr (SqT.of upd_same), rfl, flat_strs _, _, rfl, ?_⟩
          rw [inV_strs, decide_eq_false hs]
          exact iteF (fin _ ((xT _).trans (same_upd hp)))
    rcases id ha with hl | hl
    · refine .inl ⟨_, rfl, a, _, rfl, hl, for_enum (K := K) (a := a) (xs := ns.map V.str) (fun i σ H1 => ∃ v1 v2, σ = [some (.ref a), v1, v2] ∧ Same H H1) ⟨_, _, rfl, Same.refl _⟩ (fun i σ H1 _ ⟨_, _, _, e⟩ => e.seq hl) ?_ ?_⟩
      · rintro i x σ H1 Tp hi ⟨v1, v2, rfl, e⟩ hT
        exact turn i x H1 Tp v1 v2 _ hi e hT fun H2 e2 => ⟨_, _, rfl, e.trans e2⟩
      · rintro σ H1 ⟨v1, v2, rfl, e⟩
        exact k _ e
    · refine .inr ⟨_, rfl, a, _, rfl, hl, for_enumT (K := K) (a := a) (xs := ns.map V.str) (fun i σ H1 => ∃ v1 v2, σ = [some (.ref a), v1, v2] ∧ Same H H1) ⟨_, _, rfl, Same.refl _⟩ (fun i σ H1 _ ⟨_, _, _, e⟩ => same_tup e hl) ?_ ?_⟩
      · rintro i x σ H1 Tp hi ⟨v1, v2, rfl, e⟩ hT
        exact turn i x H1 Tp v1 v2 _ hi e hT fun H2 e2 => ⟨_, _, rfl, e.trans e2⟩
      · rintro σ H1 ⟨v1, v2, rfl, e⟩
        exact k _ e
/-- names, checked: a tuple of the same, in some order -/
def sp_check_names (K : PySem.W.Frag) : Sp := fun vs H Q _ => ∃ (a : Addr) (m : Int) (ns : List Str), vs = [.ref a, .int m] ∧ SqL K H a (ns.map V.str) ∧ (∀ s ∈ ns, Nm s) ∧ ns.Nodup ∧ (ns.length : Int) ≤ m ∧ ns.length < 64 ∧
  ∀ (p : Addr) (ys : List Str) (H' : Hp), ys.Perm ns → Same H H' → H p = none → H' p = some (.tup (ys.map V.str)) → Q (.ref p) H'
theorem ok_check_names (T : Tx0 K mg) : OkR P w K mg base 3 (He.fAd K ("check_names", none)) (sp_check_names K) := by
  have G_check_name : OkR P w K mg base 2 (He.fAd K ("check_name", none)) sp_check_name := ok_check_name T
  have G_check_once : OkR P w K mg base 1 (He.fAd K ("check_once", none)) (sp_once K) := ok_once T
  refine mkR T.f_check_names sc_check_names (fun vs H Q E h => ?_) (fun _ _ _ _ _ _ us hl => match us, hl with | [_, _], _ => rfl) fun cdv A outer s H vs Q E hr h => ?_
  · obtain ⟨_, _, _, rfl, _⟩ := h
    rfl
  · obtain ⟨a, m, ns, rfl, ha, hn, hd, hm, h64, k⟩ := h
    refine ⟨_, 
    (pss_cons (ps_for PassesOwn.never rfl (pi_listK K (pv 0)) (pg_name (i := 2) sc_check_names.nd rfl (Or.inl rfl)) 
      (pss_one (ps_expr (pe_callF G_check_name (hr.mono (by decide)) (by rfl) T.g_check_name (pa_cons (pv 2) pa_nil))))) 
    (pss_cons (ps_expr (pe_callF G_check_once (hr.mono (by decide)) (by rfl) T.g_check_once (pa_cons (pv 0) pa_nil))) 
    (pss_cons (ps_if (pt_cmpR op_gt (pe_callB (lenK K) (by rfl) T.n_len (by decide +kernel) (pa_cons (pv 0) pa_nil)) (pv 1) (nomark _)) 
      (pss_one ps_never) pss_nil) 
    (pss_one (ps_ret (pe_callTy (tupleK K) (by rfl) T.n_tuple (by decide +kernel) (pa_cons (pe_callB (sortedSK K) (by rfl) T.n_sorted (by decide +kernel) (pa_cons (pv 0) pa_nil)) pa_nil))))))), ?_⟩
    refine ⟨_, rfl, a, rfl, ⟨_, ha⟩, for_lst (K := K) (a := a) (xs := ns.map V.str) (fun i σ H1 => ∃ v2, σ = [some (.ref a), some (.int m), v2] ∧ Same H H1) ⟨_, rfl, Same.refl _⟩ (fun i σ H1 _ ⟨_, _, e⟩ => e.seq ha) ?_ ?_⟩
    · rintro i x σ H1 hi ⟨v2, rfl, e⟩
      obtain ⟨s, hs, rfl⟩ := strs_get hi
      exact ⟨_, rfl, s, rfl, hn s (List.mem_of_getElem? hs), fun H' e2 => ⟨_, rfl, e.trans e2⟩⟩
    · rintro σ H1 ⟨v2, rfl, e⟩
      refine ⟨_, rfl, a, ns, rfl, .inl (e.seq ha), hd, fun H2 e2 => ?_⟩
      refine ⟨_, rfl, a, _, rfl, .inl ((e.trans e2).seq ha), _, rfl, _, _, rfl, rfl, _, rfl, ?_⟩
      have hgt : decide (((ns.map V.str).length : Int) > m) = false := decide_eq_false (by rw [List.length_map]; omega)
      rw [hgt]
      refine iteF ?_
      refine ⟨_, rfl, a, ns, rfl, (e.trans e2).seq ha, h64, fun ys p hy _ hp => ⟨p, _, rfl, .inl ⟨SqL.of upd_same, fun l hl => ?_⟩⟩⟩
      refine k l ys _ hy ((e.trans e2).trans ((same_upd hp).trans (same_upd hl))) ((e.trans e2).free ((same_upd hp).free hl)) upd_same
def sp_check_columns (K : PySem.W.Frag) : Sp := fun vs H Q _ => ∃ (a : Addr) (ns : List Str), vs = [.ref a] ∧ SqL K H a (ns.map V.str) ∧ Names colBan ns ∧ ns.length ≤ 3 ∧
  ∀ (p : Addr) (ys : List Str) (H' : Hp), ys.Perm ns → Same H H' → H p = none → H' p = some (.tup (ys.map V.str)) → Q (.ref p) H'
theorem ok_check_columns (T : Tx0 K mg) : OkR P w K mg base 3 (He.fAd K ("check_columns", none)) (sp_check_columns K) := by
  obtain ⟨tM, hMOST_COLUMNS⟩ := T.i_MOST_COLUMNS
  have G_is_name : OkR P w K mg base 1 (He.fAd K ("is_name", none)) sp_is_name := ok_is_name T
  have G_check_once : OkR P w K mg base 1 (He.fAd K ("check_once", none)) (sp_once K) := ok_once T
  refine mkR T.f_check_columns sc_check_columns (fun vs H Q E h => ?_) (fun _ _ _ _ _ _ us hl => match us, hl with | [_], _ => rfl) fun cdv A outer s H vs Q E hr h => ?_
  · obtain ⟨_, _, rfl, _⟩ := h
    rfl
  · obtain ⟨a, ns, rfl, ha, hn, hm, k⟩ := h
    refine ⟨_, 
    (pss_cons (ps_for PassesOwn.never rfl (pi_listK K (pv 0)) (pg_name (i := 1) sc_check_columns.nd rfl (Or.inl rfl)) 
      (pss_one (ps_if (PW.pt (pw_or (pt_not (pt_val (pe_callF G_is_name (hr.mono (by decide)) (by rfl) T.g_is_name (pa_cons (pv 1) pa_nil)) (by intro _; rfl))) (pw_or1 (pt_cmpR (inK K) (pv 1) (pe_tup (pa_cons pe_str (pa_cons pe_str (pa_cons pe_str pa_nil)))) (by rfl))))) 
        (pss_one ps_never) pss_nil))) 
    (pss_cons (ps_expr (pe_callF G_check_once (hr.mono (by decide)) (by rfl) T.g_check_once (pa_cons (pv 0) pa_nil))) 
    (pss_cons (ps_if (pt_cmpR op_gt (pe_callB (lenK K) (by rfl) T.n_len (by decide +kernel) (pa_cons (pv 0) pa_nil)) (pe_glob (v := .int 3) rfl hMOST_COLUMNS ⟨_, rfl⟩) (nomark _)) 
      (pss_one ps_never) pss_nil) 
    (pss_one (ps_ret (pe_callTy (tupleK K) (by rfl) T.n_tuple (by decide +kernel) (pa_cons (pe_callB (sortedSK K) (by rfl) T.n_sorted (by decide +kernel) (pa_cons (pv 0) pa_nil)) pa_nil))))))), ?_⟩
    refine ⟨_, rfl, a, rfl, ⟨_, ha⟩, for_lst (K := K) (a := a) (xs := ns.map V.str) (fun i σ H1 => ∃ v2, σ = [some (.ref a), v2] ∧ Same H H1) ⟨_, rfl, Same.refl _⟩ (fun i σ H1 _ ⟨_, _, e⟩ => e.seq ha) ?_ ?_⟩
    · rintro i x σ H1 hi ⟨v2, rfl, e⟩
      obtain ⟨s, hs, rfl⟩ := strs_get hi
      refine ⟨_, rfl, s, rfl, hn.1 s (List.mem_of_getElem? hs), fun H' e2 => ⟨_, rfl, iteF ?_⟩⟩
      refine ⟨_, rfl, (show 3 ≤ sizeLine by decide), fun p hp => ⟨p, _, rfl, .inr (SqT.of upd_same), rfl, flat_strs colBan, _, rfl, ?_⟩⟩
      show if inV (V.str s) (colBan.map V.str) = true then _ else _
      rw [inV_strs, decide_eq_false (hn.2.2 s (List.mem_of_getElem? hs))]
      exact iteF ⟨_, rfl, e.trans (e2.trans (same_upd hp))⟩
    · rintro σ H1 ⟨v2, rfl, e⟩
      refine ⟨_, rfl, a, ns, rfl, .inl (e.seq ha), hn.2.1, fun H2 e2 => ?_⟩
      refine ⟨_, rfl, a, _, rfl, .inl ((e.trans e2).seq ha), _, _, rfl, rfl, _, rfl, ?_⟩
      have hgt : decide (((ns.map V.str).length : Int) > 3) = false := decide_eq_false (by rw [List.length_map]; omega)
      rw [hgt]
      refine iteF ?_
      refine ⟨_, rfl, a, ns, rfl, (e.trans e2).seq ha, by omega, fun ys p hy _ hp => ⟨p, _, rfl, .inl ⟨SqL.of upd_same, fun l hl => ?_⟩⟩⟩
      refine k l ys _ hy ((e.trans e2).trans ((same_upd hp).trans (same_upd hl))) ((e.trans e2).free ((same_upd hp).free hl)) upd_same
def sp_check_price : Sp := fun vs H Q _ => ∃ i, vs = [.int i] ∧ 1 ≤ i ∧ i ≤ 1000000000 ∧ Q .non H
theorem ok_check_price (T : Tx0 K mg) : OkR P w K mg base 3 (He.fAd K ("check_price", none)) sp_check_price := by
  obtain ⟨tM, hMOST_PRICE⟩ := T.i_MOST_PRICE
  have G_is_between : OkR P w K mg base 2 (He.fAd K ("is_between", none)) sp_is_between := ok_is_between T
  refine mkR T.f_check_price sc_check_price (fun vs H Q E h => ?_) (fun _ _ _ _ _ _ us hl => match us, hl with | [_], _ => rfl) fun cdv A outer s H vs Q E hr h => ?_
  · obtain ⟨_, rfl, _⟩ := h
    rfl
  · obtain ⟨i, rfl, h1, h2, k⟩ := h
    refine ⟨_, 
    (pss_one (ps_if (pt_not (pt_val (pe_callF G_is_between (hr.mono (by decide)) (by rfl) T.g_is_between (pa_cons (pv 0) (pa_cons pe_int (pa_cons (pe_glob (v := .int 1000000000) rfl hMOST_PRICE ⟨_, rfl⟩) pa_nil)))) (by intro _; rfl))) 
      (pss_one ps_never) pss_nil)), ?_⟩
    exact ⟨_, rfl, i, 1, 1000000000, rfl, h1, h2, _, rfl, iteF k⟩
def sideS (b : Bool) : Str := if b then "new" else "old"
def sp_check_side : Sp := fun vs H Q _ => ∃ b n, vs = [.str (sideS b), .str n] ∧ Nm n ∧ ∀ H', Same H H' → Q .non H'
theorem ok_check_side (T : Tx0 K mg) : OkR P w K mg base 3 (He.fAd K ("check_side", none)) sp_check_side := by
  have G_check_name : OkR P w K mg base 2 (He.fAd K ("check_name", none)) sp_check_name := ok_check_name T
  refine mkR T.f_check_side sc_check_side (fun vs H Q E h => ?_) (fun _ _ _ _ _ _ us hl => match us, hl with | [_, _], _ => rfl) fun cdv A outer s H vs Q E hr h => ?_
  · obtain ⟨_, _, rfl, _⟩ := h
    rfl
  · obtain ⟨b, n, rfl, hn, k⟩ := h
    refine ⟨_, 
    (pss_cons (ps_if (PW.pt (pw_or (pt_not (pt_val (pe_callB (isiC K) (by rfl) T.n_isinstance (by decide +kernel) (pa_cons (pv 0) (pa_cons (pe_bltn (v := .ty "str") (by rfl) T.n_str (by decide +kernel) rfl) pa_nil))) (by intro _; rfl))) (pw_or1 (pt_cmpR (notInK K) (pv 0) (pe_tup (pa_cons pe_str (pa_cons pe_str pa_nil))) (by rfl))))) 
      (pss_one ps_never) pss_nil) 
    (pss_one (ps_expr (pe_callF G_check_name (hr.mono (by decide)) (by rfl) T.g_check_name (pa_cons (pv 1) pa_nil))))), ?_⟩
    refine ⟨_, rfl, _, _, _, _, true, rfl, ClsV.ty _, TyX.base (TyOf.str _), kit_ty (by decide +kernel), _, rfl, iteF ?_⟩
    refine ⟨_, rfl, (show 2 ≤ sizeLine by decide), fun p hp => ⟨p, _, rfl, .inr (SqT.of upd_same), rfl, flat_strs ["old", "new"], _, rfl, ?_⟩⟩
    have hin : inV (V.str (sideS b)) (([("old" : Str), "new"]).map V.str) = true := by cases b <;> rfl
    show if (!inV (V.str (sideS b)) (([("old" : Str), "new"]).map V.str)) = true then _ else _
    rw [hin]
    refine iteF ⟨_, rfl, n, rfl, hn, fun H' e => k _ ((same_upd hp).trans e)⟩
def sp_ends (K : PySem.W.Frag) : Sp := fun vs H Q _ => ∃ (a : Addr) (x y : Str), vs = [.ref a] ∧ SqT K H a [.str x, .str y] ∧
  ∀ (p q r : Addr) (H' : Hp), Same H H' → H p = none → H q = none → H r = none → H' p = some (.tup [.str "new", .str x]) → H' q = some (.tup [.str "old", .str y]) → H' r = some (.tup [.ref p, .ref q]) → Q (.ref r) H'
theorem ok_ends (T : Tx0 K mg) : OkR P w K mg base 1 (He.fAd K ("ends_of", none)) (sp_ends K) := by
  refine mkR T.f_ends_of sc_ends_of (fun vs H Q E h => ?_) (fun _ _ _ _ _ _ us hl => match us, hl with | [_], _ => rfl) fun cdv A outer s H vs Q E hr h => ?_
  · obtain ⟨_, _, _, rfl, _⟩ := h
    rfl
  · obtain ⟨a, x, y, rfl, ha, k⟩ := h
    refine ⟨_, 
    (pss_one (ps_ret (pe_tup (pa_cons (pe_tup (pa_cons pe_str (pa_cons (pe_ix (ix_tupK K) (pv 0) pe_int (fun _ _ => rfl)) pa_nil))) (pa_cons (pe_tup (pa_cons pe_str (pa_cons (pe_ix (ix_tupK K) (pv 0) pe_int (fun _ _ => rfl)) pa_nil))) pa_nil))))), ?_⟩
    refine ⟨_, rfl, a, _, _, _, rfl, rfl, ha, atI_nat (j := 0) rfl, (show 2 ≤ sizeLine by decide), fun p hp => ?_⟩
    have xp : ∀ u, Same H (upd H p u) := fun u => same_upd hp
    refine ⟨_, rfl, a, _, _, _, rfl, rfl, same_tup (xp _) ha, atI_nat (j := 1) rfl, (show 2 ≤ sizeLine by decide), fun q hq => ?_⟩
    have xq : ∀ u, Same (upd H p (.tup [.str "new", .str x])) (upd (upd H p (.tup [.str "new", .str x])) q u) := fun u => same_upd hq
    refine ⟨(show 2 ≤ sizeLine by decide), fun r hr => ?_⟩
    have xr : ∀ u, Same (upd (upd H p (.tup [.str "new", .str x])) q (.tup [.str "old", .str y])) (upd (upd (upd H p (.tup [.str "new", .str x])) q (.tup [.str "old", .str y])) r u) := fun u => same_upd hr
    exact k p q r _ ((xp _).trans ((xq _).trans (xr _))) hp ((xp _).free hq) ((xp _).free ((xq _).free hr)) (xr _ _ _ (xq _ _ _ upd_same)) (xr _ _ _ upd_same) upd_same
end
end K59
/-! D07 -/
set_option Elab.async false
set_option linter.all false
set_option maxRecDepth 100000
namespace K59
open PySem PySem.Spec PyProof.Rows L2
section
variable {P : Program} {w : World} {K : PySem.W.Frag} {mg : Str → Option Value} {base : Heap}
abbrev s_Note_init : Stmt := inClass (top 26) 0
abbrev N_Note_init : List Str := ["self", "old", "new", "named", "changed"]
theorem sc_Note_init : FnScope N_Note_init ["self", "old", "new", "named", "changed"] (defScope s_Note_init) := ⟨rfl, rfl, rfl, by decide +kernel, rfl, by decide +kernel, by decide +kernel⟩
abbrev s_Deed_init : Stmt := inClass (top 32) 1
abbrev N_Deed_init : List Str := ["self", "name", "moves", "columns", "note"]
theorem sc_Deed_init : FnScope N_Deed_init ["self", "name", "moves", "columns", "note"] (defScope s_Deed_init) := ⟨rfl, rfl, rfl, by decide +kernel, rfl, by decide +kernel, by decide +kernel⟩
def sp_Note_init (K : PySem.W.Frag) : SpA := fun vs zs H Q _ => ∃ (x dx o p : Addr) (os ns : List Str) (b1 b2 : Bool), vs = [.ref x] ∧ zs = [.ref o, .ref p, .bl b1, .bl b2] ∧ H x = some (.ins (He.ga K "Note") dx []) ∧
  SqL K H o (os.map V.str) ∧ SqL K H p (ns.map V.str) ∧ (∀ s ∈ os, Nm s) ∧ (∀ s ∈ ns, Nm s) ∧ os.Nodup ∧ ns.Nodup ∧ os.length ≤ 4 ∧ ns.length ≤ 4 ∧
  ∀ H', Same (less x H) H' → (∀ ws, (∀ s ∈ os, s ∈ ws) → (∀ s ∈ ns, s ∈ ws) → NoteAt K H' ws (.ref x)) → Q .non H'
theorem ok_Note_init (T : Tx1 P K mg) : FnA P w K mg base 4 (He.fAd K ("Note", some "__init__")) ["old", "new", "named", "changed"] (sp_Note_init K) := by
  obtain ⟨tM, hMOST_WORDS⟩ := T.i_MOST_WORDS
  have G_check_names : OkR P w K mg base 3 (He.fAd K ("check_names", none)) (sp_check_names K) := ok_check_names T.toTx0
  refine mkA T.v_Note_init sc_Note_init fun kV doc pm an cdv ct A outer s H us ws vs zs Q E e0 r rz l h => ?_
  obtain ⟨x, dx, o, p, os, ns, b1, b2, rfl, rfl, hx, ho, hp, n1, n2, d1, d2, l1, l2, k⟩ := h
  refine ⟨_, bnd_pure (us := us ++ ws) (vs := [.ref x, .ref o, .ref p, .bl b1, .bl b2]) ?_ e0 (r.append rz) rfl, fun s2 H2 xs g hr => ?_⟩
  · obtain ⟨u0, rfl, _⟩ := vals1 r
    match ws, rz with
    | [_, _, _, _], _ => rfl
  · obtain ⟨rfl, rfl⟩ := g
    refine ⟨_, 
    (pss_cons (ps_fld (pv 0) (pe_callF G_check_names (hr.mono (by decide)) (by rfl) T.g_check_names (pa_cons (pv 1) (pa_cons (pe_glob (v := .int 4) rfl hMOST_WORDS ⟨_, rfl⟩) pa_nil))) rfl) 
    (pss_cons (ps_fld (pv 0) (pe_callF G_check_names (hr.mono (by decide)) (by rfl) T.g_check_names (pa_cons (pv 2) (pa_cons (pe_glob (v := .int 4) rfl hMOST_WORDS ⟨_, rfl⟩) pa_nil))) rfl) 
    (pss_cons (ps_fld (pv 0) (pv 3) rfl) 
    (pss_one (ps_fld (pv 0) (pv 4) rfl))))), ?_⟩
    have xne : ∀ {q : Addr} {H3 : Hp}, H2 q = none → x ≠ q := fun h => ne_of_none hx h
    refine ⟨_, rfl, o, 4, os, rfl, ho, n1, d1, by omega, by omega, fun o' os' H3 po e3 no ho' => ?_⟩
    refine ⟨_, rfl, x, _, dx, _, rfl, e3 _ _ hx, T.c_Note, T.a_Note_old, (show 0 < 1000 by decide), ?_⟩
    have l3 : Same (less x H2) (upd H3 x (.ins (He.ga K "Note") dx (putF "old" (.ref o') []))) := same_less_upd ((less_sub x H2).trans e3)
    refine ⟨_, rfl, p, 4, ns, rfl, l3.seq (sql_less hp hx), n2, d2, by omega, by omega, fun p' ns' H4 pn e4 np hp' => ?_⟩
    refine ⟨_, rfl, x, _, dx, _, rfl, e4 _ _ upd_same, T.c_Note, T.a_Note_new, (show 1 < 1000 by decide), ?_⟩
    refine ⟨_, rfl, _, rfl, x, _, dx, _, rfl, upd_same, T.c_Note, T.a_Note_named, (show 2 < 1000 by decide), ?_⟩
    refine ⟨_, rfl, _, rfl, x, _, dx, _, rfl, upd_same, T.c_Note, T.a_Note_changed, (show 3 < 1000 by decide), ?_⟩
    have l4 : ∀ u1 u2 u3, Same (less x H2) (upd (upd (upd H4 x u1) x u2) x u3) := fun u1 u2 u3 => same_less_upd (same_less_upd (same_less_upd (l3.trans e4)))
    refine k _ (l4 _ _ _) fun ws' w1 w2 => .inr ⟨x, dx, o', p', os', ns', b1, b2, rfl, upd_same, ?_, ?_, fun s hs => w1 s (po.mem_iff.mp hs), fun s hs => w2 s (pn.mem_iff.mp hs), by rw [po.length_eq]; exact l1, by rw [pn.length_eq]; exact l2⟩
    · have hne : o' ≠ x := (ne_of_none hx no).symm
      refine SqT.of ?_
      rw [upd_ne hne, upd_ne hne, upd_ne hne]
      exact e4 _ _ (by rw [upd_ne hne]; exact ho')
    · have hne : p' ≠ x := (ne_of_none upd_same np).symm
      refine SqT.of ?_
      rw [upd_ne hne, upd_ne hne, upd_ne hne]
      exact hp'
def sp_check_note (K : PySem.W.Frag) : Sp := fun vs H Q _ => ∃ v ws, vs = [v] ∧ NoteAt K H ws v ∧ Q .non H
theorem ok_check_note (T : Tx1 P K mg) : OkR P w K mg base 1 (He.fAd K ("check_note", none)) (sp_check_note K) := by
  refine mkR T.f_check_note sc_check_note (fun vs H Q E h => ?_) (fun _ _ _ _ _ _ us hl => match us, hl with | [_], _ => rfl) fun cdv A outer s H vs Q E hr h => ?_
  · obtain ⟨_, _, rfl, _⟩ := h
    rfl
  · obtain ⟨v, ws, rfl, hv, k⟩ := h
    refine ⟨_, 
    (pss_one (ps_if (PW.pt (pw_and (pt_cmpR op_notN (pv 0) pe_non (nomark _)) (pw_and1 (pt_not (pt_val (pe_callB (isiC K) (by rfl) T.n_isinstance (by decide +kernel) (pa_cons (pv 0) (pa_cons (pe_glob (v := .ref (He.ga K "Note")) rfl T.g_Note rfl) pa_nil))) (by intro _; rfl)))))) 
      (pss_one ps_never) pss_nil)), ?_⟩
    refine ⟨_, rfl, rfl, _, rfl, ?_⟩
    rcases hv with rfl | ⟨a, dx, o, p, os, ns, b1, b2, rfl, ha, _⟩
    · exact iteF (iteF k)
    · refine iteT ⟨_, rfl, _, _, _, _, true, rfl, ClsV.own _, tyx_note T ha, ?_, _, rfl, iteF k⟩
      unfold PySem.W.kitOne
      simp
def sp_Deed_init (K : PySem.W.Frag) : Sp := fun vs H Q _ => ∃ (x dx m c : Addr) (kd : Kd) (nm : Str) (ms : List V) (mv : List (Str × Str)) (own ws : List Str) (nv : V), vs = [.ref x, .str nm, .ref m, .ref c, nv] ∧ H x = some (.ins (clsA K kd) dx []) ∧
  SqA K H m ms ∧ DpAll K H ms (mv.map pairD) ∧ SqT K H c (own.map V.str) ∧ NoteAt K H ws nv ∧
  ∀ H', Same (less x H) H' → (∀ cols d, d.k = kd → d.nm = nm → mv.Perm d.mv → own.Perm d.own → ws = wordsOf cols d → DeedAt K H' cols d (.ref x)) → Q .non H'
theorem ok_Deed_init (T : Tx1 P K mg) : OkR P w K mg base 2 (He.fAd K ("Deed", some "__init__")) (sp_Deed_init K) := by
  have G_check_note : OkR P w K mg base 1 (He.fAd K ("check_note", none)) (sp_check_note K) := ok_check_note T
  refine mkR T.f_Deed_init sc_Deed_init (fun vs H Q E h => ?_) (fun _ _ _ _ _ _ us hl => match us, hl with | [_, _, _, _, _], _ => rfl) fun cdv A outer s H vs Q E hr h => ?_
  · obtain ⟨_, _, _, _, _, _, _, _, _, _, _, rfl, _⟩ := h
    rfl
  · obtain ⟨x, dx, m, c, kd, nm, ms, mv, own, ws, nv, rfl, hx, hm, hd, hc, hn, k⟩ := h
    refine ⟨_, 
    (pss_cons (ps_expr (pe_callF G_check_note (hr.mono (by decide)) (by rfl) T.g_check_note (pa_cons (pv 4) pa_nil))) 
    (pss_cons (ps_fld (pv 0) (pv 1) rfl) 
    (pss_cons (ps_fld (pv 0) (pe_callTy (tupleK K) (by rfl) T.n_tuple (by decide +kernel) (pa_cons (pe_callB (cr_sortPS K) (by rfl) T.n_sorted (by decide +kernel) (pa_cons (pv 2) pa_nil)) pa_nil)) rfl) 
    (pss_cons (ps_fld (pv 0) (pv 3) rfl) 
    (pss_one (ps_fld (pv 0) (pv 4) rfl)))))), ?_⟩
    have cC := cls_deed T kd
    refine ⟨_, rfl, nv, ws, rfl, hn, _, rfl, _, rfl, x, _, dx, _, rfl, hx, cC, na_name T kd, (show 0 < 1000 by decide), ?_⟩
    have l1 : ∀ u, Same (less x H) (upd H x u) := fun u => same_less_upd (less_sub x H)
    refine ⟨_, rfl, m, ms, rfl, ?_, ?_, fun ys p py hp => ?_⟩
    · rcases hm with h | h
      · exact .inl ((l1 _).seq (sql_less h hx))
      · exact .inr (same_tup (l1 _) (sqt_less h hx))
    · intro y hy
      obtain ⟨i, hi⟩ := List.mem_iff_getElem?.mp hy
      obtain ⟨d, h1, h2⟩ := dpa_get (dpa_same (l1 _) (dpa_less hx hd)) hi
      rw [List.getElem?_map] at h1
      cases e : mv[i]? with
      | none => rw [e] at h1; cases h1
      | some pr =>
        rw [e] at h1
        cases h1
        obtain ⟨t, e1, e2⟩ := dp_pair h2
        exact ⟨t, _, _, e1, e2⟩
    · obtain ⟨mv', pm, hd'⟩ := pairs_perm py (dpa_less hx hd)
      have hpx : p ≠ x := (ne_of_none upd_same hp).symm
      have l2 : ∀ u1 u2, Same (less x H) (upd (upd H x u1) p u2) := fun u1 u2 => (l1 _).trans (same_upd (by rw [upd_ne hpx] at hp ⊢; exact hp))
      refine ⟨p, _, rfl, .inl ⟨SqL.of upd_same, fun t ht => ?_⟩⟩
      have htx : t ≠ x := fun e => by
        rw [e, upd_ne hpx.symm, upd_same] at ht
        cases ht
      refine ⟨_, rfl, x, _, dx, putF "name" (.str nm) [], rfl, (by rw [upd_ne htx.symm, upd_ne hpx.symm]; exact upd_same), cC, na_moves T kd, (show 1 < 1000 by decide), ?_⟩
      refine ⟨_, rfl, _, rfl, x, _, dx, _, rfl, upd_same, cC, na_columns T kd, (show 2 < 1000 by decide), ?_⟩
      refine ⟨_, rfl, _, rfl, x, _, dx, _, rfl, upd_same, cC, na_note T kd, (show 3 < 1000 by decide), ?_⟩
      have l5 : ∀ u1 u2 u3 u4 u5 u6, Same (less x H) (upd (upd (upd (upd (upd (upd H x u1) p u2) t u3) x u4) x u5) x u6) := fun u1 u2 u3 u4 u5 u6 => same_less_upd (same_less_upd (same_less_upd ((l2 _ _).trans (same_upd (by
        by_cases q : t = p
        · rw [q, upd_same] at ht
          cases ht
        · rw [upd_ne q, upd_ne htx]
          rw [upd_ne q, upd_ne htx] at ht
          exact ht)))))
      refine k _ (l5 _ _ _ _ _ _) fun cols d e1 e2 e3 e4 e5 => ⟨x, dx, t, c, ys, mv', own, nv, rfl, ?_, ?_, dpa_same (l5 _ _ _ _ _ _) hd', pm.trans e3, same_tup (l5 _ _ _ _ _ _) (sqt_less hc hx), e4, ?_⟩
      · rw [upd_same, e1, e2]
        rfl
      · refine SqT.of ?_
        rw [upd_ne htx, upd_ne htx, upd_ne htx, upd_same]
      · rw [← e5]
        refine note_same (l5 _ _ _ _ _ _) ?_
        rcases hn with h | ⟨a, dx', o, p', os, ns, b1, b2, h, h1, h2, h3, r⟩
        · exact .inl h
        · have hax : a ≠ x := fun e => by
            rw [e, hx] at h1
            cases (HO.ins.inj (Option.some.inj h1)).2.2
          exact .inr ⟨a, dx', o, p', os, ns, b1, b2, h, by rw [less_ne hax]; exact h1, sqt_less h2 hx, sqt_less h3 hx, r⟩
end
end K59
/-! D08 -/
set_option Elab.async false
set_option linter.all false
set_option maxRecDepth 100000
namespace K59
open PySem PySem.Spec PyProof.Rows L2 NdefX
section
variable {P : Program} {w : World} {K : PySem.W.Frag} {mg : Str → Option Value} {base : Heap}
abbrev s_Make_init : Stmt := inClass (top 33) 1
abbrev N_Make_init : List Str := ["self", "name", "state", "note", "__class__"]
theorem sc_Make_init : NdefX.NScope N_Make_init ["self", "name", "state", "note"] ["__class__"] (defScope s_Make_init) := NdefX.nscope_by (by decide +kernel)
abbrev s_Change_init : Stmt := inClass (top 34) 1
abbrev N_Change_init : List Str := ["self", "name", "columns", "note", "moves", "__class__", "move"]
theorem sc_Change_init : NdefX.NScope N_Change_init ["self", "name", "columns", "note", "moves"] ["__class__"] (defScope s_Change_init) := NdefX.nscope_by (by decide +kernel)
abbrev s_End_init : Stmt := inClass (top 35) 1
abbrev N_End_init : List Str := ["self", "name", "note", "states", "__class__", "state"]
theorem sc_End_init : NdefX.NScope N_End_init ["self", "name", "note", "states"] ["__class__"] (defScope s_End_init) := NdefX.nscope_by (by decide +kernel)
def DPost (K : PySem.W.Frag) (x : Addr) (H : Hp) (kd : Kd) (nm : Str) (mv : List (Str × Str)) (own ws : List Str) (Q : VK) : Prop :=
  ∀ H', Same (less x H) H' → (∀ cols d, d.k = kd → d.nm = nm → mv.Perm d.mv → own.Perm d.own → ws = wordsOf cols d → DeedAt K H' cols d (.ref x)) → Q .non H'
theorem dpost_mono {x : Addr} {H H2 : Hp} {kd : Kd} {nm : Str} {mv : List (Str × Str)} {own ws : List Str} {Q : VK} (e : Same H H2) (h : DPost K x H kd nm mv own ws Q) : DPost K x H2 kd nm mv own ws Q :=
  fun H' e2 q => h H' ((less_same e).trans e2) q
def sp_Make_init (K : PySem.W.Frag) : SpA := fun vs zs H Q _ => ∃ (x dx : Addr) (nm st : Str) (ws : List Str) (nv : V), vs = [.ref x, .str nm, .str st] ∧ zs = [nv] ∧ H x = some (.ins (clsA K .mk) dx []) ∧ Nm nm ∧ Nm st ∧ NoteAt K H ws nv ∧
  DPost K x H .mk nm [(("" : Str), st)] [] ws Q
theorem ok_Make_init (T : Tx1 P K mg) : FnA P w K mg base 3 (He.fAd K ("Make", some "__init__")) ["note"] (sp_Make_init K) := by
  have G_check_name : OkR P w K mg base 2 (He.fAd K ("check_name", none)) sp_check_name := ok_check_name T.toTx0
  have G_Deed_init : FnR P w K mg base CX0 2 (He.fAd K ("Deed", some "__init__")) (sp_Deed_init K) := (ok_Deed_init T).1
  refine mkS T.s_Make sc_Make_init fun kV doc pm an cda cc ct A outer s H us ws vs zs Q E SC e0 r rz l h => ?_
  obtain ⟨x, dx, nm, st, wr, nv, rfl, rfl, hx, hnm, hst, hn, k⟩ := h
  refine ⟨_, bnd_pure (us := us ++ ws) (vs := [.ref x, .str nm, .str st, nv]) ?_ e0 (r.append rz) rfl, ?_⟩
  · match us, ws, r, rz with
    | [_, _, _], [_], _, _ => rfl
  · rintro s2 H2 xs ⟨n0, q0, p0, b0, sc0, cl0, c0⟩ rfl rfl rfl rfl g hr
    obtain ⟨rfl, rfl⟩ := g
    refine ⟨_, 
    (at_cons (ps_expr (pe_callF G_check_name (hr.mono (by decide)) (by rfl) T.g_check_name (pa_cons (pv 1) pa_nil))) 
    (at_cons (ps_expr (pe_callF G_check_name (hr.mono (by decide)) (by rfl) T.g_check_name (pa_cons (pv 2) pa_nil))) 
    (at_super (body := _) SC G_Deed_init (hr.mono (by decide)) (pa_cons (pv 1) (pa_cons (pe_tup (pa_cons (pe_tup (pa_cons pe_str (pa_cons (pv 2) pa_nil))) pa_nil)) (pa_cons (pe_tup pa_nil) (pa_cons (pv 3) pa_nil)))) T.n_super rfl))), ?_⟩
    refine ⟨_, rfl, nm, rfl, hnm, fun H1 e1 => ⟨_, rfl, st, rfl, hst, fun H3 e3 => ?_⟩⟩
    have y3 := e1.trans e3
    refine ⟨x, dx, _, rfl, y3 _ _ hx, _, rfl, _, rfl, (show 2 ≤ sizeLine by decide), fun p hp => ⟨(show 1 ≤ sizeLine by decide), fun q hq => ⟨Nat.zero_le _, fun t ht => ⟨_, rfl, ?_⟩⟩⟩⟩
    have yp : ∀ u, Same H3 (upd H3 p u) := fun u => same_upd hp
    have yq : ∀ u1 u2, Same (upd H3 p u1) (upd (upd H3 p u1) q u2) := fun u1 u2 => same_upd (by
      by_cases e : q = p
      · rw [e, upd_same] at hq
        cases hq
      · rw [upd_ne e] at hq ⊢
        exact hq)
    have yt : Same (upd (upd H3 p (.tup [.str "", .str st])) q (.tup [.ref p])) _ := same_upd (o := .tup []) ht
    have y4 := y3.trans (((yp _).trans (yq _ _)).trans yt)
    refine ⟨x, dx, q, t, .mk, nm, [.ref p], [(("" : Str), st)], [], wr, nv, rfl, y4 _ _ hx, .inr (SqT.of (yt _ _ upd_same)), .cons (dp_pair_mk (yt _ _ (yq _ _ _ _ upd_same))) .nil, SqT.of upd_same, note_same y4 hn, dpost_mono y4 k⟩
def sp_End_init (K : PySem.W.Frag) : SpA := fun vs zs H Q _ => ∃ (x dx : Addr) (nm : Str) (ss ws : List Str) (nv : V), vs = [.ref x, .str nm] ++ ss.map V.str ∧ zs = [nv] ∧ H x = some (.ins (clsA K .en) dx []) ∧ Nm nm ∧ (∀ s ∈ ss, Nm s) ∧ ss.Nodup ∧ ss.length ≤ 4 ∧ NoteAt K H ws nv ∧
  DPost K x H .en nm (ss.map fun s => (s, ("" : Str))) [] ws Q
theorem ok_End_init (T : Tx1 P K mg) : FnA P w K mg base 3 (He.fAd K ("End", some "__init__")) ["note"] (sp_End_init K) := by
  obtain ⟨tM, hMOST_MOVES⟩ := T.i_MOST_MOVES
  have G_check_name : OkR P w K mg base 2 (He.fAd K ("check_name", none)) sp_check_name := ok_check_name T.toTx0
  have G_is_name : OkR P w K mg base 1 (He.fAd K ("is_name", none)) sp_is_name := ok_is_name T.toTx0
  have G_check_once : OkR P w K mg base 1 (He.fAd K ("check_once", none)) (sp_once K) := ok_once T.toTx0
  have G_Deed_init : FnR P w K mg base CX0 2 (He.fAd K ("Deed", some "__init__")) (sp_Deed_init K) := (ok_Deed_init T).1
  refine mkS T.s_End sc_End_init fun kV doc pm an cda cc ct A outer s H us ws vs zs Q E SC e0 r rz l h => ?_
  obtain ⟨x, dx, nm, ss, wr, nv, rfl, rfl, hx, hnm, hss, hnd, hl4, hn, k⟩ := h
  obtain ⟨u1, u2, rfl, r1, r2⟩ := StX.vals_split r
  refine ⟨_, bnd_star (ps := ["self", "name", "note"]) (us := u1 ++ ws) (rest := u2) (rs := ss.map V.str) (vs := [.ref x, .str nm, nv]) ?_ e0 (r1.append rz) r2 rfl (by rw [List.length_map]; exact Nat.le_trans hl4 (by decide)), ?_⟩
  · match u1, ws, u2, r1, rz with
    | [_, _], [_], [], _, _ => rfl
    | [_, _], [_], _ :: _, _, _ => rfl
  · rintro s2 H2 xs ⟨n0, q0, p0, b0, sc0, cl0, c0⟩ rfl rfl rfl rfl g hr
    obtain ⟨sp, hsp, rfl, rfl⟩ := g
    refine ⟨_, 
    (at_cons (ps_expr (pe_callF G_check_name (hr.mono (by decide)) (by rfl) T.g_check_name (pa_cons (pv 1) pa_nil))) 
    (at_cons (ps_for PassesOwn.never rfl (pi_tupK K (pv 3)) (pg_name (i := 5) sc_End_init.nd rfl (Or.inl rfl)) 
      (pss_one (ps_if (pt_not (pt_val (pe_callF G_is_name (hr.mono (by decide)) (by rfl) T.g_is_name (pa_cons (pv 5) pa_nil)) (by intro _; rfl))) 
        (pss_one ps_never) pss_nil))) 
    (at_cons (ps_expr (pe_callF G_check_once (hr.mono (by decide)) (by rfl) T.g_check_once (pa_cons (pv 3) pa_nil))) 
    (at_cons (ps_if (pt_cmpR op_gt (pe_callB (lenK K) (by rfl) T.n_len (by decide +kernel) (pa_cons (pv 3) pa_nil)) (pe_glob (v := .int 4) rfl hMOST_MOVES ⟨_, rfl⟩) (nomark _)) 
      (pss_one ps_never) pss_nil) 
    (at_super (body := _) SC G_Deed_init (hr.mono (by decide)) (pa_cons (pv 1) (pa_cons (pe_lc (own := [("state", 5)]) (by rfl) sc_End_init.nd (pi_tupK K (pv 3)) (blkOk_by (own := [("state", 5)]) (N := N_End_init) (sc := (defScope s_End_init)) (by decide +kernel)) (fun _ _ _ _ _ => (pg_name (i := 5) sc_End_init.nd rfl (Or.inl rfl))) (fun _ _ _ _ _ => pts_nil) (fun _ _ _ _ _ => (pe_tup (pa_cons (pv 5) (pa_cons pe_str pa_nil))))) (pa_cons (pe_tup pa_nil) (pa_cons (pv 2) pa_nil)))) T.n_super rfl))))), ?_⟩
    have hxp : x ≠ sp := ne_of_none hx hsp
    have yp : ∀ u, Same H (upd H sp u) := fun u => same_upd hsp
    refine ⟨_, rfl, nm, rfl, hnm, fun H1 e1 => ?_⟩
    refine ⟨_, rfl, sp, rfl, ⟨_, SqT.of (e1 _ _ upd_same)⟩, for_tup (K := K) (a := sp) (xs := ss.map V.str) (fun i σ H3 => ∃ v5, σ = [some (.ref x), some (.str nm), some nv, some (.ref sp), some (.ref (He.ga K "End")), v5] ∧ Same H1 H3) ⟨_, rfl, Same.refl _⟩ (fun i σ H3 _ ⟨_, _, e⟩ => SqT.of (e _ _ (e1 _ _ upd_same))) ?_ ?_⟩
    · rintro i y σ H3 hi ⟨v5, rfl, e⟩
      obtain ⟨s, hs, rfl⟩ := strs_get hi
      exact ⟨_, rfl, s, rfl, hss s (List.mem_of_getElem? hs), fun H4 e4 => ⟨_, rfl, iteF ⟨_, rfl, e.trans e4⟩⟩⟩
    · rintro σ H3 ⟨v5, rfl, e3⟩
      refine ⟨_, rfl, sp, ss, rfl, .inr (SqT.of (e3 _ _ (e1 _ _ upd_same))), hnd, fun H4 e4 => ?_⟩
      have y4 := (e1.trans e3).trans e4
      refine ⟨_, rfl, sp, _, rfl, .inr (SqT.of (y4 _ _ upd_same)), _, _, rfl, rfl, _, rfl, ?_⟩
      have hgt : decide ((4 : Int) < ((ss.map V.str).length : Int)) = false := decide_eq_false (by rw [List.length_map]; omega)
      rw [hgt]
      refine iteF ⟨x, dx, _, rfl, y4 _ _ (yp _ _ _ hx), _, rfl, _, rfl, sp, rfl, ⟨_, SqT.of (y4 _ _ upd_same)⟩, fun D hD => ?_⟩
      refine lc_tup (K := K) (a := sp) (xs := ss.map V.str) (Gr H4 D fun i acc h => DpAll K h acc (((ss.take i).map fun s => (s, ("" : Str))).map pairD)) (gr_start hD .nil) (fun i H5 _ G => SqT.of (G.ext _ _ (y4 _ _ upd_same))) ?_ ?_
      · rintro i y H5 hi G
        obtain ⟨s, hs, rfl⟩ := strs_get hi
        have hlt := (List.getElem?_eq_some_iff.mp hs).1
        refine ⟨rfl, _, rfl, (show 2 ≤ sizeLine by decide), fun t ht => ?_⟩
        obtain ⟨_, hacc0, _⟩ := G.lst
        refine gr_add G (same_upd ht) (by omega) (fun _ _ _ _ e h => dpa_same e h) fun acc h => ?_
        rw [take_at hs, List.map_append, List.map_append]
        refine dpa_snoc h (dp_pair_mk ?_)
        rw [less_ne (ne_of_none hacc0 ht).symm]
        exact upd_same
      · rintro H5 ⟨hD5, e5, acc, hacc, _, hd⟩
        rw [List.length_map, List.take_length] at hd
        refine ⟨Nat.zero_le _, fun t ht => ⟨_, rfl, ?_⟩⟩
        have y6 := (y4.trans e5).trans (same_upd (o := .tup []) ht)
        exact ⟨x, dx, D, t, .en, nm, acc, _, [], wr, nv, rfl, y6 _ _ (yp _ _ _ hx), .inl (SqL.of (same_upd ht _ _ hacc)), dpa_same ((less_sub _ _).trans (same_upd ht)) hd, SqT.of upd_same, note_same ((yp _).trans y6) hn, dpost_mono ((yp _).trans y6) k⟩
def sp_Change_init (K : PySem.W.Frag) : SpA := fun vs zs H Q _ => ∃ (x dx c : Addr) (nm : Str) (ms : List V) (mv : List (Str × Str)) (own ws : List Str) (nv : V), vs = [.ref x, .str nm] ++ ms ∧ zs = [.ref c, nv] ∧ H x = some (.ins (clsA K .ch) dx []) ∧ Nm nm ∧
  DpAll K H ms (mv.map pairD) ∧ (∀ p ∈ mv, Nm p.1 ∧ Nm p.2) ∧ (mv.map (·.1)).Nodup ∧ mv.length ≤ 4 ∧ SqL K H c (own.map V.str) ∧ (∀ s ∈ own, Nm s) ∧ own.Nodup ∧ own.length ≤ 3 ∧ NoteAt K H ws nv ∧ DPost K x H .ch nm mv own ws Q
theorem dpa_pairs_get {H : Hp} {ms : List V} {mv : List (Str × Str)} {i : Nat} {v : V} (h : DpAll K H ms (mv.map pairD)) (hi : ms[i]? = some v) : ∃ p t, mv[i]? = some p ∧ v = .ref t ∧ SqT K H t [.str p.1, .str p.2] := by
  obtain ⟨d, h1, h2⟩ := dpa_get h hi
  rw [List.getElem?_map] at h1
  cases e : mv[i]? with
  | none => rw [e] at h1; cases h1
  | some pr =>
    rw [e] at h1
    cases h1
    obtain ⟨t, e1, e2⟩ := dp_pair h2
    exact ⟨pr, t, rfl, e1, e2⟩
theorem ok_Change_init (T : Tx1 P K mg) : FnA P w K mg base 4 (He.fAd K ("Change", some "__init__")) ["columns", "note"] (sp_Change_init K) := by
  obtain ⟨tM, hMOST_MOVES⟩ := T.i_MOST_MOVES
  obtain ⟨tC, hMOST_COLUMNS⟩ := T.i_MOST_COLUMNS
  have G_check_name : OkR P w K mg base 2 (He.fAd K ("check_name", none)) sp_check_name := ok_check_name T.toTx0
  have G_check_names : OkR P w K mg base 3 (He.fAd K ("check_names", none)) (sp_check_names K) := ok_check_names T.toTx0
  have G_is_name : OkR P w K mg base 1 (He.fAd K ("is_name", none)) sp_is_name := ok_is_name T.toTx0
  have G_check_once : OkR P w K mg base 1 (He.fAd K ("check_once", none)) (sp_once K) := ok_once T.toTx0
  have G_Deed_init : FnR P w K mg base CX0 2 (He.fAd K ("Deed", some "__init__")) (sp_Deed_init K) := (ok_Deed_init T).1
  refine mkS T.s_Change sc_Change_init fun kV doc pm an cda cc ct A outer s H us ws vs zs Q E SC e0 r rz l h => ?_
  obtain ⟨x, dx, c, nm, ms, mv, own, wr, nv, rfl, rfl, hx, hnm, hd, hmn, hnd, hl4, hc, hon, hond, hol, hn, k⟩ := h
  have hml : ms.length = mv.length := by
    have := dpa_len hd
    rw [List.length_map] at this
    exact this
  obtain ⟨u1, u2, rfl, r1, r2⟩ := StX.vals_split r
  refine ⟨_, bnd_star (ps := ["self", "name", "columns", "note"]) (us := u1 ++ ws) (rest := u2) (rs := ms) (vs := [.ref x, .str nm, .ref c, nv]) ?_ e0 (r1.append rz) r2 rfl (by rw [hml]; exact Nat.le_trans hl4 (by decide)), ?_⟩
  · match u1, ws, u2, r1, rz with
    | [_, _], [_, _], [], _, _ => rfl
    | [_, _], [_, _], _ :: _, _, _ => rfl
  · rintro s2 H2 xs ⟨n0, q0, p0, b0, sc0, cl0, c0⟩ rfl rfl rfl rfl g hr
    obtain ⟨sp, hsp, rfl, rfl⟩ := g
    refine ⟨_, 
    (at_cons (ps_expr (pe_callF G_check_name (hr.mono (by decide)) (by rfl) T.g_check_name (pa_cons (pv 1) pa_nil))) 
    (at_cons (ps_for PassesOwn.never rfl (pi_tupK K (pv 4)) (pg_name (i := 6) sc_Change_init.nd rfl (Or.inl rfl)) 
      (pss_one (ps_if (PW.pt (pw_or (pt_not (pt_val (pe_callB (isiC K) (by rfl) T.n_isinstance (by decide +kernel) (pa_cons (pv 6) (pa_cons (pe_bltn (v := .ty "tuple") (by rfl) T.n_tuple (by decide +kernel) rfl) pa_nil))) (by intro _; rfl))) (pw_or (pt_cmpR op_ne (pe_callB (lenK K) (by rfl) T.n_len (by decide +kernel) (pa_cons (pv 6) pa_nil)) pe_int (nomark _)) (pw_or (pt_not (pt_val (pe_callF G_is_name (hr.mono (by decide)) (by rfl) T.g_is_name (pa_cons (pe_ix (ix_tupK K) (pv 6) pe_int (fun _ _ => rfl)) pa_nil)) (by intro _; rfl))) (pw_or1 (pt_not (pt_val (pe_callF G_is_name (hr.mono (by decide)) (by rfl) T.g_is_name (pa_cons (pe_ix (ix_tupK K) (pv 6) pe_int (fun _ _ => rfl)) pa_nil)) (by intro _; rfl)))))))) 
        (pss_one ps_never) pss_nil))) 
    (at_cons (ps_expr (pe_callF G_check_once (hr.mono (by decide)) (by rfl) T.g_check_once (pa_cons (pe_lc (own := [("move", 6)]) (by rfl) sc_Change_init.nd (pi_tupK K (pv 4)) (blkOk_by (own := [("move", 6)]) (N := N_Change_init) (sc := (defScope s_Change_init)) (by decide +kernel)) (fun _ _ _ _ _ => (pg_name (i := 6) sc_Change_init.nd rfl (Or.inl rfl))) (fun _ _ _ _ _ => pts_nil) (fun _ _ _ _ _ => (pe_ix (ix_tupK K) (pv 6) pe_int (fun _ _ => rfl)))) pa_nil))) 
    (at_cons (ps_if (pt_cmpR op_gt (pe_callB (lenK K) (by rfl) T.n_len (by decide +kernel) (pa_cons (pv 4) pa_nil)) (pe_glob (v := .int 4) rfl hMOST_MOVES ⟨_, rfl⟩) (nomark _)) 
      (pss_one ps_never) pss_nil) 
    (at_super (body := _) SC G_Deed_init (hr.mono (by decide)) (pa_cons (pv 1) (pa_cons (pv 4) (pa_cons (pe_callF G_check_names (hr.mono (by decide)) (by rfl) T.g_check_names (pa_cons (pv 2) (pa_cons (pe_glob (v := .int 3) rfl hMOST_COLUMNS ⟨_, rfl⟩) pa_nil))) (pa_cons (pv 3) pa_nil)))) T.n_super rfl))))), ?_⟩
    have hxp : x ≠ sp := ne_of_none hx hsp
    have yp : ∀ u, Same H (upd H sp u) := fun u => same_upd hsp
    refine ⟨_, rfl, nm, rfl, hnm, fun H1 e1 => ?_⟩
    have y1 := (yp (.tup ms)).trans e1
    refine ⟨_, rfl, sp, rfl, ⟨_, SqT.of (e1 _ _ upd_same)⟩, for_tup (K := K) (a := sp) (xs := ms) (fun i σ H3 => ∃ v6, σ = [some (.ref x), some (.str nm), some (.ref c), some nv, some (.ref sp), some (.ref (He.ga K "Change")), v6] ∧ Same H1 H3) ⟨_, rfl, Same.refl _⟩ (fun i σ H3 _ ⟨_, _, e⟩ => SqT.of (e _ _ (e1 _ _ upd_same))) ?_ ?_⟩
    · rintro i y σ H3 hi ⟨v6, rfl, e⟩
      obtain ⟨pr, t, hpr, rfl, ht⟩ := dpa_pairs_get hd hi
      have y3 := y1.trans e
      obtain ⟨n1, n2⟩ := hmn pr (List.mem_of_getElem? hpr)
      refine ⟨_, rfl, _, _, _, _, true, rfl, ClsV.ty _, tyx_tup (same_tup y3 ht), kit_ty (by decide +kernel), _, rfl, iteF ?_⟩
      refine ⟨_, rfl, t, _, rfl, .inr (same_tup y3 ht), rfl, _, rfl, iteF ?_⟩
      refine ⟨_, rfl, t, _, _, _, rfl, rfl, same_tup y3 ht, atI_nat (j := 0) rfl, pr.1, rfl, n1, fun H4 e4 => ⟨_, rfl, iteF ?_⟩⟩
      refine ⟨_, rfl, t, _, _, _, rfl, rfl, same_tup (y3.trans e4) ht, atI_nat (j := 1) rfl, pr.2, rfl, n2, fun H5 e5 => ⟨_, rfl, iteF ?_⟩⟩
      exact ⟨_, rfl, (e.trans e4).trans e5⟩
    · rintro σ H3 ⟨v6, rfl, e3⟩
      have y3 := y1.trans e3
      refine ⟨_, rfl, sp, rfl, ⟨_, SqT.of (e3 _ _ (e1 _ _ upd_same))⟩, fun D hD => ?_⟩
      refine lc_tup (K := K) (a := sp) (xs := ms) (Gr H3 D fun i acc _ => acc = ((mv.map (·.1)).take i).map V.str) (gr_start hD rfl) (fun i H5 _ G => SqT.of (G.ext _ _ (e3 _ _ (e1 _ _ upd_same)))) ?_ ?_
      · rintro i y H5 hi G
        obtain ⟨pr, t, hpr, rfl, ht⟩ := dpa_pairs_get hd hi
        have hlt := (List.getElem?_eq_some_iff.mp hpr).1
        refine ⟨rfl, _, rfl, t, _, _, _, rfl, rfl, same_tup (y3.trans G.ext) ht, atI_nat (j := 0) rfl, ?_⟩
        refine gr_add G (Same.refl _) (by omega) (fun _ _ _ _ _ h => h) fun acc h => ?_
        have hq : (mv.map (·.1))[i]? = some pr.1 := by rw [List.getElem?_map, hpr]; rfl
        rw [take_at hq, List.map_append, ← h]
        rfl
      · rintro H5 ⟨hD5, e5, acc, hacc, _, hd2⟩
        have hfull : ((mv.map (·.1)).take ms.length) = mv.map (·.1) := List.take_of_length_le (by rw [List.length_map, hml]; exact Nat.le_refl _)
        rw [hfull] at hd2
        rw [hd2] at hacc
        refine ⟨D, _, rfl, .inl (SqL.of hacc), hnd, fun H6 e6 => ?_⟩
        have y6 := (y3.trans e5).trans e6
        have h6 : H6 sp = some (.tup ms) := e6 _ _ (e5 _ _ (e3 _ _ (e1 _ _ upd_same)))
        refine ⟨_, rfl, sp, _, rfl, .inr (SqT.of h6), _, _, rfl, rfl, _, rfl, ?_⟩
        have hgt : decide ((4 : Int) < (ms.length : Int)) = false := decide_eq_false (by omega)
        rw [hgt]
        refine iteF ⟨x, dx, _, rfl, y6 _ _ hx, _, rfl, _, rfl, _, rfl, c, 3, own, rfl, y6.seq hc, hon, hond, by omega, by omega, fun p ys H7 py e7 hp7 hpt => ⟨_, rfl, ?_⟩⟩
        have y7 := y6.trans e7
        refine ⟨x, dx, sp, p, .ch, nm, ms, mv, ys, wr, nv, rfl, y7 _ _ hx, .inr (SqT.of (e7 _ _ h6)), dpa_same y7 hd, SqT.of hpt, note_same y7 hn, ?_⟩
        exact fun H' e8 q => k H' ((less_same y7).trans e8) fun cols d e1 e2 e3 e4 e5 => q cols d e1 e2 e3 (py.trans e4) e5
end
end K59
/-! D09 -/
set_option Elab.async false
set_option linter.all false
set_option maxRecDepth 100000
namespace K59
open PySem PySem.Spec PyProof.Rows L2 NdefX
section
variable {P : Program} {w : World} {K : PySem.W.Frag} {mg : Str → Option Value} {base : Heap}
abbrev s_Change_of : Stmt := inClass (top 34) 2
abbrev N_Change_of : List Str := ["cls", "name", "moves", "columns", "note"]
theorem sc_Change_of : FnScope N_Change_of ["cls", "name", "moves", "columns", "note"] (defScope s_Change_of) := ⟨rfl, rfl, rfl, by decide +kernel, rfl, by decide +kernel, by decide +kernel⟩
abbrev s_End_of : Stmt := inClass (top 35) 2
abbrev N_End_of : List Str := ["cls", "name", "states", "note"]
theorem sc_End_of : FnScope N_End_of ["cls", "name", "states", "note"] (defScope s_End_of) := ⟨rfl, rfl, rfl, by decide +kernel, rfl, by decide +kernel, by decide +kernel⟩
abbrev s__law_note_of : Stmt := top 69
abbrev N__law_note_of : List Str := ["_law_row_here"]
theorem sc__law_note_of : FnScope N__law_note_of ["_law_row_here"] (defScope s__law_note_of) := ⟨rfl, rfl, rfl, by decide +kernel, rfl, by decide +kernel, by decide +kernel⟩
abbrev s__law_deed_of : Stmt := top 70
abbrev N__law_deed_of : List Str := ["_law_row_here", "_law_kind", "_law_name", "_law_moves", "_law_own", "_law_told", "_law_move"]
theorem sc__law_deed_of : FnScope N__law_deed_of ["_law_row_here"] (defScope s__law_deed_of) := ⟨rfl, rfl, rfl, by decide +kernel, rfl, by decide +kernel, by decide +kernel⟩
/-- a new deed object -/
def OPost (K : PySem.W.Frag) (H : Hp) (kd : Kd) (nm : Str) (mv : List (Str × Str)) (own ws : List Str) (Q : VK) : Prop :=
  ∀ x H', Same H H' → H x = none → (∀ cols d, d.k = kd → d.nm = nm → mv.Perm d.mv → own.Perm d.own → ws = wordsOf cols d → DeedAt K H' cols d (.ref x)) → Q (.ref x) H'
theorem opost_made {x dx : Addr} {H H2 : Hp} {kd : Kd} {nm : Str} {mv : List (Str × Str)} {own ws : List Str} {Q : VK} {fs : List (Str × V)} (e : Same H H2) (hx : H2 x = none) (hd : H2 dx = none) (h : OPost K H kd nm mv own ws Q) :
    DPost K x (upd (upd H2 dx (.own x)) x (.ins (clsA K kd) dx fs)) kd nm mv own ws fun v H3 => v = .non ∧ Q (.ref x) H3 :=
  fun H' e2 q => ⟨rfl, h x H' (e.trans (same_made hx hd e2)) (e.free hx) q⟩
def sp_End_of (K : PySem.W.Frag) : SpA := fun vs zs H Q _ => ∃ (l : Addr) (nm : Str) (ss ws : List Str) (nv : V), vs = [.ref (He.ga K "End"), .str nm, .ref l] ∧ zs = [nv] ∧ SqL K H l (ss.map V.str) ∧ Nm nm ∧ (∀ s ∈ ss, Nm s) ∧ ss.Nodup ∧ ss.length ≤ 4 ∧ NoteAt K H ws nv ∧
  OPost K H .en nm (ss.map fun s => (s, ("" : Str))) [] ws Q
theorem ok_End_of (T : Tx1 P K mg) : FnA P w K mg base 5 (He5.wf K (He.ga K "End") "classmethod" "of") ["note"] (sp_End_of K) := by
  have G_End_init : FnA P w K mg base 3 (He.fAd K ("End", some "__init__")) ["note"] (sp_End_init K) := ok_End_init T
  refine mkA T.v_End_of sc_End_of fun kV doc pm an cdv ct A outer s H us ws vs zs Q E e0 r rz l h => ?_
  obtain ⟨la, nm, ss, wr, nv, rfl, rfl, hl, hnm, hss, hnd, hl4, hn, k⟩ := h
  refine ⟨_, bnd_pure (us := us ++ ws) (vs := [.ref (He.ga K "End"), .str nm, .ref la, nv]) ?_ e0 (r.append rz) rfl, fun s2 H2 xs g hr => ?_⟩
  · match us, ws, r, rz with
    | [_, _, _], [_], _, _ => rfl
  · obtain ⟨rfl, rfl⟩ := g
    refine ⟨_, 
    (pss_one (ps_ret (pe_clsA (i := 0) T.k_End G_End_init (hr.mono (by decide)) rfl (by rfl) (pa_cons (pv 1) (pa_starK K (pv 2) pa_nil)) (pkn_cons (pv 3) pkn_nil)))), ?_⟩
    refine ⟨rfl, _, rfl, _, rfl, la, _, rfl, .inr hl, ?_⟩
    refine ⟨_, rfl, fun x dx hx hdx hne => ?_⟩
    refine ⟨x, dx, nm, ss, wr, nv, by simp, rfl, upd_same, hnm, hss, hnd, hl4, ?_, opost_made (Same.refl _) hx hdx k⟩
    refine note_same ((same_upd hdx).trans (same_upd ?_)) hn
    rw [upd_ne hne.symm]
    exact hx
def sp_Change_of (K : PySem.W.Frag) : SpA := fun vs zs H Q _ => ∃ (l c : Addr) (nm : Str) (ms : List V) (mv : List (Str × Str)) (own ws : List Str) (nv : V), vs = [.ref (He.ga K "Change"), .str nm, .ref l] ∧ zs = [.ref c, nv] ∧ SqL K H l ms ∧ Nm nm ∧
  DpAll K H ms (mv.map pairD) ∧ (∀ p ∈ mv, Nm p.1 ∧ Nm p.2) ∧ (mv.map (·.1)).Nodup ∧ mv.length ≤ 4 ∧ SqL K H c (own.map V.str) ∧ (∀ s ∈ own, Nm s) ∧ own.Nodup ∧ own.length ≤ 3 ∧ NoteAt K H ws nv ∧ OPost K H .ch nm mv own ws Q
theorem ok_Change_of (T : Tx1 P K mg) : FnA P w K mg base 6 (He5.wf K (He.ga K "Change") "classmethod" "of") ["columns", "note"] (sp_Change_of K) := by
  have G_Change_init : FnA P w K mg base 4 (He.fAd K ("Change", some "__init__")) ["columns", "note"] (sp_Change_init K) := ok_Change_init T
  refine mkA T.v_Change_of sc_Change_of fun kV doc pm an cdv ct A outer s H us ws vs zs Q E e0 r rz l h => ?_
  obtain ⟨la, c, nm, ms, mv, own, wr, nv, rfl, rfl, hl, hnm, hd, hmn, hnd, hl4, hc, hon, hond, hol, hn, k⟩ := h
  refine ⟨_, bnd_pure (us := us ++ ws) (vs := [.ref (He.ga K "Change"), .str nm, .ref la, .ref c, nv]) ?_ e0 (r.append rz) rfl, fun s2 H2 xs g hr => ?_⟩
  · match us, ws, r, rz with
    | [_, _, _], [_, _], _, _ => rfl
  · obtain ⟨rfl, rfl⟩ := g
    refine ⟨_, 
    (pss_one (ps_ret (pe_clsA (i := 0) T.k_Change G_Change_init (hr.mono (by decide)) rfl (by rfl) (pa_cons (pv 1) (pa_starK K (pv 2) pa_nil)) (pkn_cons (pv 3) (pkn_cons (pv 4) pkn_nil))))), ?_⟩
    refine ⟨rfl, _, rfl, _, rfl, la, _, rfl, .inr hl, ?_⟩
    refine ⟨_, rfl, _, rfl, fun x dx hx hdx hne => ?_⟩
    have y : ∀ u, Same H2 (upd (upd H2 dx (.own x)) x u) := fun u => (same_upd hdx).trans (same_upd (by rw [upd_ne hne.symm]; exact hx))
    exact ⟨x, dx, c, nm, ms, mv, own, wr, nv, by simp, rfl, upd_same, hnm, dpa_same (y _) hd, hmn, hnd, hl4, (y _).seq hc, hon, hond, hol, note_same (y _) hn, opost_made (Same.refl _) hx hdx k⟩
/-- the words of a note are names -/
def sp_note_of (K : PySem.W.Frag) : Sp := fun vs H Q _ => ∃ (v : V) (o : Option Nt) (ws : List Str), vs = [v] ∧ Dp K H v (ntD o) ∧ NtOk ws o ∧ (∀ s ∈ ws, Nm s) ∧ ws.length ≤ 4 ∧ ∀ v' H', Same H H' → NoteAt K H' ws v' → Q v' H'
theorem ok_note_of (T : Tx1 P K mg) : OkR P w K mg base 6 (He.fAd K ("_law_note_of", none)) (sp_note_of K) := by
  have G_Note_init : FnA P w K mg base 4 (He.fAd K ("Note", some "__init__")) ["old", "new", "named", "changed"] (sp_Note_init K) := ok_Note_init T
  refine mkR T.f__law_note_of sc__law_note_of (fun vs H Q E h => ?_) (fun _ _ _ _ _ _ us hl => match us, hl with | [_], _ => rfl) fun cdv A outer s H vs Q E hr h => ?_
  · obtain ⟨_, _, _, rfl, _⟩ := h
    rfl
  · obtain ⟨v, o, ws, rfl, hv, hok, hws, hl, k⟩ := h
    refine ⟨_, 
    (pss_cons (ps_if (pt_cmpR op_isN (pv 0) pe_non (nomark _)) 
      (pss_one (ps_ret pe_non)) pss_nil) 
    (pss_one (ps_ret (pe_makeA0 T.k_Note G_Note_init (hr.mono (by decide)) (by rfl) T.g_Note (pkn_cons (pe_callTy (listK K) (by rfl) T.n_list (by decide +kernel) (pa_cons (pe_ix (ix_tupK K) (pv 0) pe_int (fun _ _ => rfl)) pa_nil)) (pkn_cons (pe_callTy (listK K) (by rfl) T.n_list (by decide +kernel) (pa_cons (pe_ix (ix_tupK K) (pv 0) pe_int (fun _ _ => rfl)) pa_nil)) (pkn_cons (pe_ix (ix_tupK K) (pv 0) pe_int (fun _ _ => rfl)) (pkn_cons (pe_ix (ix_tupK K) (pv 0) pe_int (fun _ _ => rfl)) pkn_nil)))))))), ?_⟩
    refine ⟨_, rfl, rfl, _, rfl, ?_⟩
    cases o with
    | none =>
      obtain rfl := dp_non hv
      exact iteT (k _ _ (Same.refl _) (.inl rfl))
    | some n =>
      obtain ⟨a, xs, rfl, ha, hd⟩ := dp_tup hv
      obtain ⟨v0, v1, v2, v3, rfl, h0, h1, h2, h3⟩ := dpa4 hd
      · obtain ⟨a0, rfl, ha0⟩ := dp_strs h0
        obtain ⟨a1, rfl, ha1⟩ := dp_strs h1
        obtain rfl := dp_bl h2
        obtain rfl := dp_bl h3
        obtain ⟨o1, o2, o3, o4⟩ := hok
        refine iteF ⟨_, rfl, a, _, _, _, rfl, rfl, ha, atI_nat (j := 0) rfl, a0, _, rfl, .inl ha0, fun p hp => ?_⟩
        have yp : ∀ u, Same H (upd H p u) := fun u => same_upd hp
        refine ⟨_, rfl, a, _, _, _, rfl, rfl, same_tup (yp _) ha, atI_nat (j := 1) rfl, a1, _, rfl, .inl ((yp _).seq ha1), fun q hq => ?_⟩
        have yq : ∀ u, Same (upd H p (.lst (n.old.map V.str))) (upd (upd H p (.lst (n.old.map V.str))) q u) := fun u => same_upd hq
        have y2 : ∀ u, Same H (upd (upd H p (.lst (n.old.map V.str))) q u) := fun u => (yp _).trans (yq _)
        refine ⟨_, rfl, a, _, _, _, rfl, rfl, same_tup (y2 _) ha, atI_nat (j := 2) rfl, _, rfl, a, _, _, _, rfl, rfl, same_tup (y2 _) ha, atI_nat (j := 3) rfl, fun x dx hx hdx hne => ?_⟩
        have y3 : ∀ u, Same (upd (upd H p (.lst (n.old.map V.str))) q (.lst (n.new.map V.str))) (upd (upd (upd (upd H p (.lst (n.old.map V.str))) q (.lst (n.new.map V.str))) dx (.own x)) x u) := fun u => (same_upd hdx).trans (same_upd (by rw [upd_ne hne.symm]; exact hx))
        refine ⟨x, dx, p, q, n.old, n.new, n.named, n.changed, rfl, rfl, upd_same, SqL.of (y3 _ _ _ (yq _ _ _ upd_same)), SqL.of (y3 _ _ _ upd_same), fun s hs => hws s (o3 s hs), fun s hs => hws s (o4 s hs), o1, o2, Nat.le_trans (nodup_len o1 o3) hl, Nat.le_trans (nodup_len o2 o4) hl, fun H' e hN => ⟨rfl, ?_⟩⟩
        exact k _ _ ((y2 _).trans (same_made hx hdx e)) (hN ws o3 o4)
def sp_deed_of (K : PySem.W.Frag) : Sp := fun vs H Q _ => ∃ (v : V) (r : Dd × Option Nt) (cols marks : List Str), vs = [v] ∧ Dp K H v (ddD r) ∧ DdOk cols marks r.1 ∧ NtOk (wordsOf cols r.1) r.2 ∧ Nm r.1.nm ∧ (∀ s ∈ marks, Nm s) ∧ (∀ s ∈ cols, Nm s) ∧ cols.length ≤ 2 ∧ cols.Nodup ∧
  ∀ v' H', Same H H' → DeedAt K H' cols r.1 v' → Q v' H'
theorem words_nm {cols marks : List Str} {d : Dd} (h : DdOk cols marks d) (hc : ∀ s ∈ cols, Nm s) (hl : cols.length ≤ 2) : (∀ s ∈ wordsOf cols d, Nm s) ∧ (wordsOf cols d).length ≤ 4 := by
  have hst : Nm ("state" : Str) := ⟨by decide, by decide, by decide +kernel⟩
  unfold wordsOf
  constructor
  · intro s hs
    rcases List.mem_cons.mp hs with rfl | hs
    · exact hst
    · split at hs
      · exact hc s (h.own.2.1 s hs)
      · exact hc s hs
  · split
    · have := nodup_len h.own.1 h.own.2.1
      show d.own.length + 1 ≤ 4
      omega
    · show cols.length + 1 ≤ 4
      omega
theorem ok_deed_of (T : Tx1 P K mg) : OkR P w K mg base 7 (He.fAd K ("_law_deed_of", none)) (sp_deed_of K) := by
  have G__law_note_of : OkR P w K mg base 6 (He.fAd K ("_law_note_of", none)) (sp_note_of K) := ok_note_of T
  have G_Make_init : FnA P w K mg base 3 (He.fAd K ("Make", some "__init__")) ["note"] (sp_Make_init K) := ok_Make_init T
  have G_End_of : FnA P w K mg base 5 (He5.wf K (He.ga K "End") "classmethod" "of") ["note"] (sp_End_of K) := ok_End_of T
  have G_Change_of : FnA P w K mg base 6 (He5.wf K (He.ga K "Change") "classmethod" "of") ["columns", "note"] (sp_Change_of K) := ok_Change_of T
  refine mkR T.f__law_deed_of sc__law_deed_of (fun vs H Q E h => ?_) (fun _ _ _ _ _ _ us hl => match us, hl with | [_], _ => rfl) fun cdv A outer s H vs Q E hr h => ?_
  · obtain ⟨_, _, _, _, rfl, _⟩ := h
    rfl
  · obtain ⟨v, ⟨⟨kd, nm, mv, own⟩, o⟩, cols, marks, rfl, hv, hok, hno, hnm, hma, hco, hcl, hcd, k⟩ := h
    refine ⟨_, 
    (pss_cons (ps_asg (pv 0) (pg_tupK (n := 5) K (by rfl) (pgs_cons (pg_name (i := 1) sc__law_deed_of.nd rfl (Or.inl rfl)) (pgs_cons (pg_name (i := 2) sc__law_deed_of.nd rfl (Or.inl rfl)) (pgs_cons (pg_name (i := 3) sc__law_deed_of.nd rfl (Or.inl rfl)) (pgs_cons (pg_name (i := 4) sc__law_deed_of.nd rfl (Or.inl rfl)) (pgs_cons (pg_name (i := 5) sc__law_deed_of.nd rfl (Or.inl rfl)) pgs_nil))))))) 
    (pss_cons (ps_if (pt_cmpR op_eq (pv 1) pe_str (nomark _)) 
      (pss_one (ps_ret (pe_makeA T.k_Make G_Make_init (hr.mono (by decide)) (by rfl) T.g_Make (pa_cons (pv 2) (pa_cons (pe_ix (ix_tupK K) (pe_ix (ix_listK K) (pv 3) pe_int (fun _ _ => rfl)) pe_int (fun _ _ => rfl)) pa_nil)) (pkn_cons (pe_callF G__law_note_of (hr.mono (by decide)) (by rfl) T.g__law_note_of (pa_cons (pv 5) pa_nil)) pkn_nil)))) pss_nil) 
    (pss_cons (ps_if (pt_cmpR op_eq (pv 1) pe_str (nomark _)) 
      (pss_one (ps_ret (pe_cmethA (by rfl) T.g_End T.r_End T.m_End_of G_End_of (hr.mono (by decide)) (pa_cons (pv 2) (pa_cons (pe_lc (own := [("_law_move", 6)]) (by rfl) sc__law_deed_of.nd (pi_listK K (pv 3)) (blkOk_by (own := [("_law_move", 6)]) (N := N__law_deed_of) (sc := (defScope s__law_deed_of)) (by decide +kernel)) (fun _ _ _ _ _ => (pg_name (i := 6) sc__law_deed_of.nd rfl (Or.inl rfl))) (fun _ _ _ _ _ => pts_nil) (fun _ _ _ _ _ => (pe_ix (ix_tupK K) (pv 6) pe_int (fun _ _ => rfl)))) pa_nil)) (pkn_cons (pe_callF G__law_note_of (hr.mono (by decide)) (by rfl) T.g__law_note_of (pa_cons (pv 5) pa_nil)) pkn_nil)))) pss_nil) 
    (pss_one (ps_ret (pe_cmethA (by rfl) T.g_Change T.r_Change T.m_Change_of G_Change_of (hr.mono (by decide)) (pa_cons (pv 2) (pa_cons (pe_callTy (listK K) (by rfl) T.n_list (by decide +kernel) (pa_cons (pv 3) pa_nil)) pa_nil)) (pkn_cons (pe_callTy (listK K) (by rfl) T.n_list (by decide +kernel) (pa_cons (pv 4) pa_nil)) (pkn_cons (pe_callF G__law_note_of (hr.mono (by decide)) (by rfl) T.g__law_note_of (pa_cons (pv 5) pa_nil)) pkn_nil)))))))), ?_⟩
    obtain ⟨hw1, hw2⟩ := words_nm hok hco hcl
    obtain ⟨a, xs, rfl, ha, hd⟩ := dp_tup hv
    obtain ⟨v0, v1, v2, v3, v4, rfl, h0, h1, h2, h3, h4⟩ := dpa5 hd
    · obtain rfl := dp_str h0
      obtain rfl := dp_str h1
      obtain ⟨am, ms, rfl, ham, hms⟩ := dp_lst h2
      obtain ⟨ao, rfl, hao⟩ := dp_strs h3
      refine ⟨_, rfl, a, _, rfl, ha, rfl, _, _, rfl, _, _, rfl, _, _, rfl, _, _, rfl, _, _, rfl, rfl, ?_⟩
      have kT : ∀ a b : Kd, a = b → (V.str (kS a) = V.str (kS b)) := fun a b e => by rw [e]
      have kF : ∀ a b : Kd, a ≠ b → ¬ (V.str (kS a) = V.str (kS b)) := fun a b e h => e (kS_inj (V.str.inj h))
      refine ⟨_, rfl, rfl, _, rfl, ite2 (fun he => ?_) fun he => ?_⟩
      · obtain rfl : kd = .mk := kS_inj (V.str.inj (of_decide_eq_true he))
        obtain ⟨st, hst, emv⟩ := hok.hmk rfl
        simp only at emv
        subst emv
        have eown : own = [] := hok.own.2.2 (fun q => nomatch q)
        obtain ⟨pr, t, hpr, e1, ht⟩ : ∃ pr t, [(("" : Str), st)][0]? = some pr ∧ ms[0]? = some (.ref t) ∧ SqT K H t [.str pr.1, .str pr.2] := by
          cases hms with
          | cons q r =>
            obtain ⟨t, e1, e2⟩ := dp_pair q
            exact ⟨_, t, rfl, by rw [e1]; rfl, e2⟩
        cases hpr
        refine ⟨_, rfl, _, rfl, am, _, _, _, rfl, rfl, ham, atI_nat (j := 0) e1, t, _, _, _, rfl, rfl, ht, atI_nat (j := 1) rfl, _, rfl, v4, o, _, rfl, h4, hno, hw1, hw2, fun nv H1 e1 hN => ?_⟩
        refine fun x dx hx hdx hne => ⟨x, dx, nm, st, wordsOf cols ⟨.mk, nm, [(("" : Str), st)], own⟩, nv, rfl, rfl, upd_same, hnm, hma st hst, ?_, opost_made (K := K) (kd := .mk) (fs := []) (Q := Q) (Same.refl _) hx hdx ?_⟩
        · exact note_same ((same_upd hdx).trans (same_upd (by rw [upd_ne hne.symm]; exact hx))) hN
        · exact fun x' H' e2 _ q => k _ _ (e1.trans e2) (q cols _ rfl rfl (.refl _) (by rw [eown]) rfl)
      · have hk1 : kd ≠ .mk := fun e => he (decide_eq_true (kT _ _ e))
        refine ⟨_, rfl, rfl, _, rfl, ite2 (fun he2 => ?_) fun he2 => ?_⟩
        · obtain rfl : kd = .en := kS_inj (V.str.inj (of_decide_eq_true he2))
          have hen := hok.hen rfl
          have eown : own = [] := hok.own.2.2 (fun q => nomatch q)
          refine ⟨_, rfl, _, rfl, am, rfl, ⟨_, ham⟩, fun D hD => ?_⟩
          refine lc_list (K := K) (a := am) (xs := ms) (Gr H D fun i acc _ => acc = ((mv.map (·.1)).take i).map V.str) (gr_start hD rfl) (fun i H5 _ G => G.ext.seq ham) ?_ ?_
          · rintro i y H5 hi G
            obtain ⟨pr, t, hpr, rfl, ht⟩ := dpa_pairs_get hms hi
            have hlt : i < mv.length := (List.getElem?_eq_some_iff.mp hpr).1
            have hl3 := hok.len
            simp only at hl3
            refine ⟨rfl, _, rfl, t, _, _, _, rfl, rfl, same_tup G.ext ht, atI_nat (j := 0) rfl, ?_⟩
            refine gr_add G (Same.refl _) (by omega) (fun _ _ _ _ _ h => h) fun acc h => ?_
            have hq : (mv.map (·.1))[i]? = some pr.1 := by rw [List.getElem?_map, hpr]; rfl
            rw [take_at hq, List.map_append, ← h]
            rfl
          · rintro H5 ⟨hD5, e5, acc, hacc, _, hd2⟩
            have hml : ms.length = mv.length := by
              have := dpa_len hms
              rw [List.length_map] at this
              exact this
            have hfull : ((mv.map (·.1)).take ms.length) = mv.map (·.1) := List.take_of_length_le (by rw [List.length_map, hml]; exact Nat.le_refl _)
            rw [hfull] at hd2
            rw [hd2] at hacc
            refine ⟨_, rfl, v4, o, _, rfl, dp_same e5 h4, hno, hw1, hw2, fun nv H6 e6 hN => ?_⟩
            have hl3 := hok.len
            simp only at hl3
            refine ⟨D, nm, mv.map (·.1), _, nv, rfl, rfl, e6.seq (SqL.of hacc), hnm, fun s hs => ?_, hok.src, by rw [List.length_map]; omega, hN, fun x' H' e2 _ q => k _ _ ((e5.trans e6).trans e2) (q cols _ rfl rfl (List.Perm.of_eq ?_) (by rw [eown]) rfl)⟩
            · obtain ⟨p, hp, rfl⟩ := List.mem_map.mp hs
              exact hma _ (hen p hp).1
            · rw [List.map_map]
              refine (List.map_congr_left fun p hp => ?_).trans (List.map_id _)
              show (p.1, ("" : Str)) = p
              rw [← (hen p hp).2]
        · have hk2 : kd ≠ .en := fun e => he2 (decide_eq_true (kT _ _ e))
          obtain rfl : kd = .ch := by
            cases kd
            · exact absurd rfl hk1
            · rfl
            · exact absurd rfl hk2
          have hch := hok.hch rfl
          have hl3 := hok.len
          simp only at hl3
          have hol := nodup_len hok.own.1 hok.own.2.1
          simp only at hol
          refine ⟨_, rfl, _, rfl, am, _, rfl, .inl ham, fun p hp => ?_⟩
          have yp : ∀ u, Same H (upd H p u) := fun u => same_upd hp
          refine ⟨_, rfl, ao, _, rfl, .inl ((yp _).seq hao), fun q hq => ?_⟩
          have yq : ∀ u, Same (upd H p (.lst ms)) (upd (upd H p (.lst ms)) q u) := fun u => same_upd hq
          have y2 : ∀ u, Same H (upd (upd H p (.lst ms)) q u) := fun u => (yp _).trans (yq _)
          refine ⟨_, rfl, v4, o, _, rfl, dp_same (y2 _) h4, hno, hw1, hw2, fun nv H6 e6 hN => ?_⟩
          exact ⟨p, q, nm, ms, mv, own, _, nv, rfl, rfl, e6.seq (SqL.of (yq _ _ _ upd_same)), hnm, dpa_same ((y2 _).trans e6) hms, fun pr hpr => ⟨hma _ (hch pr hpr).1, hma _ (hch pr hpr).2⟩, hok.src, by omega, e6.seq (SqL.of upd_same), fun s hs => hco s (hok.own.2.1 s hs), hok.own.1, by omega, hN, fun x' H' e2 _ qq => k _ _ (((y2 _).trans e6).trans e2) (qq cols _ rfl rfl (.refl _) (.refl _) rfl)⟩
end
end K59
/-! D10 -/
set_option Elab.async false
set_option linter.all false
set_option maxRecDepth 100000
namespace K59
open PySem PySem.Spec PyProof.Rows L2
section
variable {P : Program} {w : World} {K : PySem.W.Frag} {mg : Str → Option Value} {base : Heap}
abbrev s_check_words : Stmt := top 57
abbrev N_check_words : List Str := ["deed", "columns", "column", "words", "word"]
theorem sc_check_words : FnScope N_check_words ["deed", "columns"] (defScope s_check_words) := ⟨rfl, rfl, rfl, by decide +kernel, rfl, by decide +kernel, by decide +kernel⟩
theorem words_in {cols : List Str} {d : Dd} {s : Str} (ho : ∀ c ∈ d.own, c ∈ cols) (h : s ∈ wordsOf cols d) (hs : s ≠ "state") : s ∈ cols ∧ (d.k = .ch → s ∈ d.own) := by
  unfold wordsOf at h
  rcases List.mem_cons.mp h with e | h
  · exact absurd e hs
  · split at h
    · exact ⟨ho _ h, fun _ => h⟩
    · rename_i hk
      exact ⟨h, fun e => absurd e hk⟩
def sp_check_words (K : PySem.W.Frag) : Sp := fun vs H Q _ => ∃ (v : V) (ac : Addr) (cols cs : List Str) (d : Dd), vs = [v, .ref ac] ∧ DeedAt K H cols d v ∧ SqT K H ac (cs.map V.str) ∧ cs.Perm cols ∧ (∀ c ∈ d.own, c ∈ cols) ∧ ∀ H', Same H H' → Q .non H'
theorem ok_check_words (T : Tx2 P K mg) : OkR P w K mg base 2 (He.fAd K ("check_words", none)) (sp_check_words K) := by
  refine mkR T.f_check_words sc_check_words (fun vs H Q E h => ?_) (fun _ _ _ _ _ _ us hl => match us, hl with | [_, _], _ => rfl) fun cdv A outer s H vs Q E hr h => ?_
  · obtain ⟨_, _, _, _, _, rfl, _⟩ := h
    rfl
  · obtain ⟨v, ac, cols, cs, d, rfl, hv, hc, pc, ho, k⟩ := h
    refine ⟨_, 
    (pss_cons (ps_for PassesOwn.never rfl (pi_tupK K (pe_fldK K (pv 0))) (pg_name (i := 2) sc_check_words.nd rfl (Or.inl rfl)) 
      (pss_one (ps_if (pt_cmpR (notInK K) (pv 2) (pv 1) (by rfl)) 
        (pss_one ps_never) pss_nil))) 
    (pss_cut (ps_set (i := 3) sc_check_words.nd rfl (Or.inl rfl) (pe_ifExp (pt_cmpR op_isN (pe_fldK K (pv 0)) pe_non (nomark _)) (pe_tup pa_nil) (pe_op (op_catAK K) (pe_fldK K (pe_fldK K (pv 0))) (pe_fldK K (pe_fldK K (pv 0)))))) 
    (pss_one (ps_for PassesOwn.never rfl (pi_tupK K (pv 3)) (pg_name (i := 4) sc_check_words.nd rfl (Or.inl rfl)) 
      (pss_cons (ps_if (PW.pt (pw_and (pt_cmpR op_ne (pv 4) pe_str (nomark _)) (pw_and1 (pt_cmpR (notInK K) (pv 4) (pv 1) (by rfl))))) 
        (pss_one ps_never) pss_nil) 
      (pss_one (ps_if (PW.pt (pw_and (pt_cmpR op_ne (pv 4) pe_str (nomark _)) (pw_and (pt_val (pe_callB (isiC K) (by rfl) T.n_isinstance (by decide +kernel) (pa_cons (pv 0) (pa_cons (pe_glob (v := .ref (He.ga K "Change")) rfl T.g_Change rfl) pa_nil))) (by intro _; rfl)) (pw_and1 (pt_cmpR (notInK K) (pv 4) (pe_fldK K (pv 0)) (by rfl)))))) 
        (pss_one ps_never) pss_nil))))))), ?_⟩
    obtain ⟨a, dx, m, c, ms, mv, own, nv, rfl, ha, hm, hd, pm, hown, po, hn⟩ := hv.ex
    have cC := cls_deed T.toTx1 d.k
    refine ⟨_, rfl, a, _, dx, _, _, rfl, ha, cC, na_columns T.toTx1 d.k, rfl, c, rfl, ⟨_, hown⟩, ?_⟩
    refine for_tup (K := K) (a := c) (xs := own.map V.str) (fun i σ H1 => ∃ v2, σ = [some (.ref a), some (.ref ac), v2, none, none] ∧ H1 = H) ⟨_, rfl, rfl⟩ (fun i σ H1 _ ⟨_, _, e⟩ => e ▸ hown) ?_ ?_
    · rintro i x σ H1 hi ⟨v2, rfl, rfl⟩
      obtain ⟨s, hs, rfl⟩ := strs_get hi
      refine ⟨_, rfl, _, rfl, ac, _, rfl, .inr hc, rfl, flat_strs cs, _, rfl, ?_⟩
      rw [inV_strs, decide_eq_true (pc.mem_iff.mpr (ho s (po.mem_iff.mp (List.mem_of_getElem? hs))))]
      exact iteF ⟨_, rfl, rfl⟩
    · rintro σ H1 ⟨v2, rfl, rfl⟩
      refine ⟨fun σ' H' => ∃ (aw : Addr) (ws : List Str), σ' = [some (.ref a), some (.ref ac), v2, some (.ref aw), none] ∧ Same H1 H' ∧ SqT K H' aw (ws.map V.str) ∧ ∀ s ∈ ws, s ∈ wordsOf cols d, ?_, ?_⟩
      · refine ⟨_, rfl, a, _, dx, _, _, rfl, ha, cC, na_note T.toTx1 d.k, rfl, rfl, _, rfl, ?_⟩
        rcases hn with rfl | ⟨b, dx', o, p, os, ns, b1, b2, rfl, hb, h2, h3, h4, h5, l4, l5⟩
        · refine iteT ⟨(show 0 ≤ sizeLine by decide), fun p hp => ⟨p, [], rfl, same_upd hp, SqT.of upd_same, fun s hs => nomatch hs⟩⟩
        · refine iteF ⟨_, rfl, a, _, dx, _, _, rfl, ha, cC, na_note T.toTx1 d.k, rfl, b, _, dx', _, _, rfl, hb, T.c_Note, T.a_Note_old, rfl, _, rfl, a, _, dx, _, _, rfl, ha, cC, na_note T.toTx1 d.k, rfl, b, _, dx', _, _, rfl, hb, T.c_Note, T.a_Note_new, rfl, ?_⟩
          refine ⟨o, p, _, _, rfl, rfl, h2, h3, by rw [List.length_map, List.length_map, sizeLine_eq]; omega, fun e => ⟨p, ns, rfl, Same.refl _, h3, h5⟩, fun _ e => ⟨o, os, rfl, Same.refl _, h2, h4⟩, fun _ _ q hq => ⟨q, os ++ ns, rfl, same_upd hq, ?_, fun s hs => ?_⟩⟩
          · rw [List.map_append]
            exact SqT.of upd_same
          · exact (List.mem_append.mp hs).elim (h4 s) (h5 s)
      · rintro σ' H' ⟨aw, ws, rfl, e, hw, hin⟩
        refine ⟨_, rfl, aw, rfl, ⟨_, hw⟩, for_tup (K := K) (a := aw) (xs := ws.map V.str) (fun i σ H2 => ∃ v4, σ = [some (.ref a), some (.ref ac), v2, some (.ref aw), v4] ∧ H2 = H') ⟨_, rfl, rfl⟩ (fun i σ H1 _ ⟨_, _, e⟩ => e ▸ hw) ?_ ?_⟩
        · rintro i x σ H2 hi ⟨v4, rfl, rfl⟩
          obtain ⟨s, hs, rfl⟩ := strs_get hi
          have hsw := hin s (List.mem_of_getElem? hs)
          by_cases hst : s = "state"
          · subst hst
            exact ⟨_, rfl, rfl, _, rfl, iteN (by decide) ⟨_, rfl, rfl, _, rfl, iteN (by decide) ⟨_, rfl, rfl⟩⟩⟩
          · obtain ⟨c1, c2⟩ := words_in ho hsw hst
            have hne : (!decide (V.str s = V.str "state")) = true := by rw [decide_eq_false (fun h => hst (V.str.inj h))]; rfl
            have hcols : (!inV (V.str s) (cs.map V.str)) = false := by rw [inV_strs, decide_eq_true (pc.mem_iff.mpr c1)]; rfl
            refine ⟨_, rfl, rfl, _, rfl, iteB hne ⟨_, rfl, _, rfl, ac, _, rfl, .inr (same_tup e hc), rfl, flat_strs cs, _, rfl, iteN hcols ⟨_, rfl, rfl, _, rfl, iteB hne ?_⟩⟩⟩
            refine ⟨_, rfl, _, _, _, _, decide (d.k = .ch), rfl, ClsV.own _, tyx_deed T.toTx1 (e _ _ ha), kit_deed T.toTx1 d.k .ch, _, rfl, ?_⟩
            by_cases hk : d.k = .ch
            · have hown' : (!inV (V.str s) (own.map V.str)) = false := by rw [inV_strs, decide_eq_true (po.mem_iff.mpr (c2 hk))]; rfl
              exact iteB (decide_eq_true hk) ⟨_, rfl, _, rfl, a, _, dx, _, _, rfl, e _ _ ha, cC, na_columns T.toTx1 d.k, rfl, c, _, rfl, .inr (same_tup e hown), rfl, flat_strs own, _, rfl, iteN hown' ⟨_, rfl, rfl⟩⟩
            · exact iteN (decide_eq_false hk) ⟨_, rfl, rfl⟩
        · rintro σ H2 ⟨v4, rfl, rfl⟩
          exact k _ e
end
end K59
/-! K59W -/
set_option Elab.async false
set_option linter.all false
set_option maxRecDepth 100000
/-! books -/
namespace K59
open PySem PySem.Spec PyProof.Rows L2 LamX
theorem ext_same {H H' : Hp} (e : Same H H') : ExtN H H' := fun b o h _ => e b o h
theorem ext_trans {H H1 H2 : Hp} (e : ExtN H H1) (f : ExtN H1 H2) : ExtN H H2 := fun b o h n => f b o (e b o h n) n
section
variable {K : PySem.W.Frag} {H H' : Hp}
mutual
theorem dp_ext (e : ExtN H H') : ∀ {v : V} {d : PyData}, Dp K H v d → Dp K H' v d
  | _, _, .non => .non
  | _, _, .bl b => .bl b
  | _, _, .int i => .int i
  | _, _, .str x => .str x
  | _, _, .lst h a => .lst (extN_seq e h) (dpa_ext e a)
  | _, _, .tup h a => .tup (extN_tup e h) (dpa_ext e a)
theorem dpa_ext (e : ExtN H H') : ∀ {vs : List V} {ds : List PyData}, DpAll K H vs ds → DpAll K H' vs ds
  | _, _, .nil => .nil
  | _, _, .cons h t => .cons (dp_ext e h) (dpa_ext e t)
end
theorem ext_ins {a : Addr} {C dx : Addr} {fs : List (Str × V)} (e : ExtN H H') (h : H a = some (.ins C dx fs)) : H' a = some (.ins C dx fs) := e _ _ h fun _ z => nomatch z
theorem note_ext {ws : List Str} {v : V} (e : ExtN H H') (h : NoteAt K H ws v) : NoteAt K H' ws v := by
  rcases h with h | ⟨a, dx, o, p, os, ns, b1, b2, h, h1, h2, h3, r⟩
  · exact .inl h
  · exact .inr ⟨a, dx, o, p, os, ns, b1, b2, h, ext_ins e h1, extN_tup e h2, extN_tup e h3, r⟩
theorem deed_ext {cols : List Str} {d : Dd} {v : V} (e : ExtN H H') (h : DeedAt K H cols d v) : DeedAt K H' cols d v := by
  obtain ⟨a, dx, m, c, ms, mv, own, nv, h, h1, h2, h3, h4, h5, h6, h7⟩ := h.ex
  exact ⟨a, dx, m, c, ms, mv, own, nv, h, ext_ins e h1, extN_tup e h2, dpa_ext e h3, h4, extN_tup e h5, h6, note_ext e h7⟩
/-- deeds, one by one -/
abbrev Deeds (K : PySem.W.Frag) (H : Hp) (cols : List Str) (vs : List V) (ds : List Dd) : Prop := Paired (fun v d => DeedAt K H cols d v) vs ds
theorem deeds_same {cols : List Str} {vs : List V} {ds : List Dd} (e : Same H H') (h : Deeds K H cols vs ds) : Deeds K H' cols vs ds := Paired.mapP h fun _ _ z => deed_same e z
theorem deeds_ext {cols : List Str} {vs : List V} {ds : List Dd} (e : ExtN H H') (h : Deeds K H cols vs ds) : Deeds K H' cols vs ds := Paired.mapP h fun _ _ z => deed_ext e z
theorem paired_get {α β : Type} {F : α → β → Prop} : ∀ {xs : List α} {ys : List β} {i : Nat} {x : α}, Paired F xs ys → xs[i]? = some x → ∃ y, ys[i]? = some y ∧ F x y
  | _, _, i, x, .nil, h => by simp at h
  | _, _, 0, x, .cons a t, h => by
    have e := Option.some.inj h
    subst e
    exact ⟨_, rfl, a⟩
  | _, _, i + 1, x, .cons a t, h => by
    obtain ⟨d, h1, h2⟩ := paired_get (i := i) (x := x) t (by simpa using h)
    exact ⟨d, by simpa using h1, h2⟩
theorem paired_get2 {α β : Type} {F : α → β → Prop} : ∀ {xs : List α} {ys : List β} {i : Nat} {y : β}, Paired F xs ys → ys[i]? = some y → ∃ x, xs[i]? = some x ∧ F x y
  | _, _, i, x, .nil, h => by simp at h
  | _, _, 0, x, .cons a t, h => by
    have e := Option.some.inj h
    subst e
    exact ⟨_, rfl, a⟩
  | _, _, i + 1, x, .cons a t, h => by
    obtain ⟨d, h1, h2⟩ := paired_get2 (i := i) (y := x) t (by simpa using h)
    exact ⟨d, by simpa using h1, h2⟩
theorem paired_perm {α β : Type} {F : α → β → Prop} {xs ys : List α} (p : ys.Perm xs) : ∀ {ds : List β}, Paired F xs ds → ∃ es, es.Perm ds ∧ Paired F ys es := by
  induction p with
  | nil => exact fun {ds} h => ⟨ds, .refl _, h⟩
  | @cons x l1 l2 _ ih =>
    intro ds h
    cases h with
    | cons h t =>
      obtain ⟨es, h1, h2⟩ := ih t
      exact ⟨_ :: es, h1.cons _, .cons h h2⟩
  | @swap x y l =>
    intro ds h
    cases h with
    | cons h t =>
      cases t with
      | cons h2 t => exact ⟨_, .swap .., .cons h2 (.cons h t)⟩
  | trans _ _ ih1 ih2 =>
    intro ds h
    obtain ⟨es, h1, h2⟩ := ih2 h
    obtain ⟨es2, h3, h4⟩ := ih1 h2
    exact ⟨es2, h3.trans h1, h4⟩
/-- the book object at v -/
structure BookAt (K : PySem.W.Frag) (H : Hp) (cols : List Str) (ds : List Dd) (v : V) : Prop where
  ex : ∃ (x dx ac ast ad an : Addr) (kv : V) (cs : List Str) (vs : List V) (es : List Dd), v = .ref x ∧
    H x = some (.ins (He.ga K "Book") dx [("columns", .ref ac), ("states", .ref ast), ("deeds", .ref ad), ("names", .ref an), ("keep", kv)]) ∧
    SqT K H ac (cs.map V.str) ∧ cs.Perm cols ∧ SqL K H ad vs ∧ Deeds K H cols vs es ∧ es.Perm ds
theorem book_same {cols : List Str} {ds : List Dd} {v : V} (e : Same H H') (h : BookAt K H cols ds v) : BookAt K H' cols ds v := by
  obtain ⟨x, dx, ac, ast, ad, an, kv, cs, vs, es, h, h1, h2, h3, h4, h5, h6⟩ := h.ex
  exact ⟨x, dx, ac, ast, ad, an, kv, cs, vs, es, h, e _ _ h1, same_tup e h2, h3, e.seq h4, deeds_same e h5, h6⟩
theorem book_ext {cols : List Str} {ds : List Dd} {v : V} (e : ExtN H H') (h : BookAt K H cols ds v) : BookAt K H' cols ds v := by
  obtain ⟨x, dx, ac, ast, ad, an, kv, cs, vs, es, h, h1, h2, h3, h4, h5, h6⟩ := h.ex
  exact ⟨x, dx, ac, ast, ad, an, kv, cs, vs, es, h, ext_ins e h1, extN_tup e h2, h3, extN_seq e h4, deeds_ext e h5, h6⟩
end
section
variable {K : PySem.W.Frag} {H H' : Hp} {x C dx : Addr}
theorem note_less {ws : List Str} {v : V} (hx : H x = some (.ins C dx [])) (h : NoteAt K H ws v) : NoteAt K (less x H) ws v := by
  rcases h with h | ⟨a, dx', o, p', os, ns, b1, b2, h, h1, h2, h3, r⟩
  · exact .inl h
  · have hax : a ≠ x := fun e => by
      rw [e, hx] at h1
      cases (HO.ins.inj (Option.some.inj h1)).2.2
    exact .inr ⟨a, dx', o, p', os, ns, b1, b2, h, by rw [less_ne hax]; exact h1, sqt_less h2 hx, sqt_less h3 hx, r⟩
theorem deed_less {cols : List Str} {d : Dd} {v : V} (hx : H x = some (.ins C dx [])) (h : DeedAt K H cols d v) : DeedAt K (less x H) cols d v := by
  obtain ⟨a, dx', m, c, ms, mv, own, nv, h, h1, h2, h3, h4, h5, h6, h7⟩ := h.ex
  have hax : a ≠ x := fun e => by
    rw [e, hx] at h1
    cases (HO.ins.inj (Option.some.inj h1)).2.2
  exact ⟨a, dx', m, c, ms, mv, own, nv, h, by rw [less_ne hax]; exact h1, sqt_less h2 hx, dpa_less hx h3, h4, sqt_less h5 hx, h6, note_less hx h7⟩
theorem deeds_less {cols : List Str} {vs : List V} {ds : List Dd} (hx : H x = some (.ins C dx [])) (h : Deeds K H cols vs ds) : Deeds K (less x H) cols vs ds := Paired.mapP h fun _ _ z => deed_less hx z
theorem tabs_same {T : List (Addr × Str)} (e : Same H H') (h : Tabs T H) : Tabs T H' := fun p hp => by
  obtain ⟨ps, h1, h2, h3⟩ := h p hp
  refine ⟨ps, e _ _ h1, h2, fun pos cv hc => ?_⟩
  obtain ⟨c, e1, e2⟩ := h3 pos cv hc
  exact ⟨c, e1, e _ _ e2⟩
theorem tabs_less {T : List (Addr × Str)} {fs : List (Str × V)} (hx : H x = some (.ins C dx fs)) (h : Tabs T H) : Tabs T (less x H) := fun p hp => by
  obtain ⟨ps, h1, h2, h3⟩ := h p hp
  refine ⟨ps, less_at hx h1 (fun z => nomatch z), h2, fun pos cv hc => ?_⟩
  obtain ⟨c, e1, e2⟩ := h3 pos cv hc
  exact ⟨c, e1, less_at hx e2 (fun z => by unfold CodeO at z; cases z)⟩
theorem less_x {D : Addr} {H : Hp} : less D H D = none := by unfold less; rw [if_pos rfl]
theorem kit3 {P : Program} {mg : Str → Option Value} (T : Tx1 P K mg) (k : Kd) : PySem.W.kitAny K (.ref (clsA K k)) [.ref (He.ga K "Make"), .ref (He.ga K "Change"), .ref (He.ga K "End")] = some true := by
  cases k
  · exact kitAny_cons (kit_deed T .mk .mk) (fun z => nomatch z) fun _ => rfl
  · exact kitAny_cons (kit_deed T .ch .mk) (fun _ => kitAny_cons (kit_deed T .ch .ch) (fun z => nomatch z) fun _ => rfl) fun z => nomatch z
  · exact kitAny_cons (kit_deed T .en .mk) (fun _ => kitAny_cons (kit_deed T .en .ch) (fun _ => kitAny_cons (kit_deed T .en .en) (fun z => nomatch z) fun _ => rfl) fun z => nomatch z) fun z => nomatch z
end
/-! ### a list that is left out -/
section
variable {K : PySem.W.Frag} {H : Hp} {D : Addr} {zs : List V}
theorem sqt_lessL {a : Addr} {xs : List V} (hx : H D = some (.lst zs)) (h : SqT K H a xs) : SqT K (less D H) a xs := by
  rcases h with (h | ⟨o, h⟩) | h
  · exact .inl (.inl (less_at hx h (fun z => nomatch z)))
  · exact .inl (.inr ⟨o, less_at hx h (fun z => nomatch z)⟩)
  · exact .inr h
theorem dpa_pairs_lessL (hx : H D = some (.lst zs)) : ∀ {l : List (Str × Str)} {vs : List V}, DpAll K H vs (l.map pairD) → DpAll K (less D H) vs (l.map pairD)
  | [], _, h => by
    cases h
    exact .nil
  | p :: l, _, h => by
    cases h with
    | cons a t =>
      obtain ⟨b, rfl, hb⟩ := dp_pair a
      exact .cons (.tup (sqt_lessL hx hb) (.cons (.str _) (.cons (.str _) .nil))) (dpa_pairs_lessL hx t)
theorem deed_lessL {cols : List Str} {d : Dd} {v : V} (hx : H D = some (.lst zs)) (h : DeedAt K H cols d v) : DeedAt K (less D H) cols d v := by
  obtain ⟨a, dx', m, c, ms, mv, own, nv, h, h1, h2, h3, h4, h5, h6, h7⟩ := h.ex
  refine ⟨a, dx', m, c, ms, mv, own, nv, h, less_at hx h1 (fun z => nomatch z), sqt_lessL hx h2, dpa_pairs_lessL hx h3, h4, sqt_lessL hx h5, h6, ?_⟩
  rcases h7 with h | ⟨a, dx', o, p', os, ns, b1, b2, h, h1, h2, h3, r⟩
  · exact .inl h
  · exact .inr ⟨a, dx', o, p', os, ns, b1, b2, h, less_at hx h1 (fun z => nomatch z), sqt_lessL hx h2, sqt_lessL hx h3, r⟩
end
theorem lc_lst {K : PySem.W.Frag} {a : Addr} {xs : List V} {g : TG} {tt : TT} {te : TE} {vs : List Nat} {σ : L2.St} {H1 : Hp} {D : Addr} {Qd : Hp → Prop} (Pv : Nat → Hp → Prop) (h0 : Pv 0 (upd H1 D (.lst []))) (hl : ∀ i H, i ≤ xs.length → Pv i H → SqL K H a xs)
    (hs : ∀ i x H, xs[i]? = some x → Pv i H → g x (wipe σ vs) H fun σ2 H2 => wipe σ2 vs = wipe σ vs ∧ tt σ2 H2 fun b H3 => if b = true then te σ2 H3 fun y H4 => ∃ acc, H4 D = some (.lst acc) ∧ acc.length < sizeLine ∧ Pv (i + 1) (upd H4 D (.lst (acc ++ [y]))) else Pv (i + 1) H3)
    (hd : ∀ H, Pv xs.length H → Qd H) :
    ∃ W : Nat → Nat → Hp → Prop, (∃ m, W 0 m (upd H1 D (.lst []))) ∧ ∀ i m H, W i m H → ((Itl K a).stop i H ∧ Qd H) ∨ ((Itl K a).go i H ∧ ∃ Nx : Hp → Prop, (∀ H', Nx H' → ∃ m', m' < m ∧ W (i + 1) m' H') ∧
      ∀ y H', (Itl K a).yld i H y H' → g y (wipe σ vs) H' fun σ2 H2 => wipe σ2 vs = wipe σ vs ∧ tt σ2 H2 fun b H3 => if b = true then te σ2 H3 fun y H4 => ∃ acc, H4 D = some (.lst acc) ∧ acc.length < sizeLine ∧ Nx (upd H4 D (.lst (acc ++ [y]))) else Nx H3) := by
  refine lc_it (n := xs.length) Pv h0 (fun i H hi p => ⟨xs, xs[i], hl i H (Nat.le_of_lt hi) p, List.getElem?_eq_getElem hi⟩) (fun H p => ⟨xs, hl _ H (Nat.le_refl _) p, Nat.le_refl _⟩) (fun i x H H' hi p hy => ?_) hd
  obtain ⟨rfl, hy⟩ := hy
  exact hs i x _ (hy xs (hl i _ (Nat.le_of_lt hi) p)) p
/-! ### walks of a set comprehension -/
theorem walk_it {J : It} {n : Nat} {step : V → Hp → (Hp → Prop) → Prop} {H1 : Hp} {Qd : Hp → Prop} (Pv : Nat → Hp → Prop) (h0 : Pv 0 H1) (hgo : ∀ i H, i < n → Pv i H → J.go i H) (hstop : ∀ H, Pv n H → J.stop n H)
    (hs : ∀ i x H H', i < n → Pv i H → J.yld i H x H' → step x H' (Pv (i + 1))) (hd : ∀ H, Pv n H → Qd H) :
    ∃ W : Nat → Nat → Hp → Prop, (∃ m, W 0 m H1) ∧ ∀ i m H, W i m H → (J.stop i H ∧ Qd H) ∨ (J.go i H ∧ ∃ Nx : Hp → Prop, (∀ H', Nx H' → ∃ m', m' < m ∧ W (i + 1) m' H') ∧ ∀ x H', J.yld i H x H' → step x H' Nx) := by
  refine ⟨fun i m H => m = n - i ∧ i ≤ n ∧ Pv i H, ⟨n, by simp, Nat.zero_le _, h0⟩, ?_⟩
  rintro i m H ⟨rfl, hi, p⟩
  by_cases hlt : i < n
  · exact .inr ⟨hgo i H hlt p, Pv (i + 1), fun H' p' => ⟨n - (i + 1), by omega, rfl, hlt, p'⟩, fun x H' hy => hs i x H H' hlt p hy⟩
  · have e : i = n := by omega
    subst e
    exact .inl ⟨hstop H p, hd H p⟩
theorem walk_tup {K : PySem.W.Frag} {a : Addr} {xs : List V} {step : V → Hp → (Hp → Prop) → Prop} {H1 : Hp} {Qd : Hp → Prop} (Pv : Nat → Hp → Prop) (h0 : Pv 0 H1) (hl : ∀ i H, i ≤ xs.length → Pv i H → SqT K H a xs)
    (hs : ∀ i x H, xs[i]? = some x → Pv i H → step x H (Pv (i + 1))) (hd : ∀ H, Pv xs.length H → Qd H) :
    ∃ W : Nat → Nat → Hp → Prop, (∃ m, W 0 m H1) ∧ ∀ i m H, W i m H → ((Itt K a).stop i H ∧ Qd H) ∨ ((Itt K a).go i H ∧ ∃ Nx : Hp → Prop, (∀ H', Nx H' → ∃ m', m' < m ∧ W (i + 1) m' H') ∧ ∀ x H', (Itt K a).yld i H x H' → step x H' Nx) := by
  refine walk_it (n := xs.length) Pv h0 (fun i H hi p => ⟨xs, xs[i], hl i H (Nat.le_of_lt hi) p, List.getElem?_eq_getElem hi⟩) (fun H p => ⟨xs, hl _ H (Nat.le_refl _) p, Nat.le_refl _⟩) (fun i x H H' hi p hy => ?_) hd
  obtain ⟨rfl, hy⟩ := hy
  exact hs i x _ (hy xs (hl i _ (Nat.le_of_lt hi) p)) p
/-- a set of texts, all among some -/
def SetIn (w : World) (H : Hp) (D : Addr) (ms : List Str) : Prop := ∃ (S : Str → Bool) (l : List Str), H D = some (SetSO w D S l.length) ∧ l.Nodup ∧ (∀ s, S s = true ↔ s ∈ l) ∧ ∀ s ∈ l, s ∈ ms
theorem setIn_new {w : World} {H : Hp} {D : Addr} {ms : List Str} : SetIn w (upd H D (SetSO w D (fun _ => false) 0)) D ms := ⟨fun _ => false, [], upd_same, List.nodup_nil, fun s => by simp, fun s h => nomatch h⟩
theorem setIn_add {w : World} {H : Hp} {D : Addr} {ms : List Str} {c : Str} (h : SetIn w H D ms) (hc : c ∈ ms) (hl : ms.length ≤ 4) :
    ∃ (S : Str → Bool) (n : Nat), H D = some (SetSO w D S n) ∧ n + 1 < scanBound ∧ SetIn w (upd H D (SetSO w D (fun j => S j || decide (j = c)) (if S c = true then n else n + 1))) D ms := by
  obtain ⟨S, l, h1, h2, h3, h4⟩ := h
  have hlen := nodup_len h2 h4
  refine ⟨S, l.length, h1, Nat.lt_of_le_of_lt (Nat.succ_le_succ (Nat.le_trans hlen hl)) (by decide), ?_⟩
  by_cases hS : S c = true
  · rw [if_pos hS]
    refine ⟨_, l, upd_same, h2, fun s => ?_, h4⟩
    rw [Bool.or_eq_true, decide_eq_true_iff]
    exact ⟨fun z => z.elim (fun z => (h3 s).1 z) fun z => by rw [z]; exact (h3 c).1 hS, fun z => .inl ((h3 s).2 z)⟩
  · rw [if_neg hS]
    refine ⟨_, l ++ [c], by rw [List.length_append, List.length_singleton]; exact upd_same, ?_, fun s => ?_, fun s hs => ?_⟩
    · refine List.nodup_append.mpr ⟨h2, List.nodup_cons.mpr ⟨List.not_mem_nil, List.nodup_nil⟩, fun a ha b hb e => ?_⟩
      rw [List.mem_singleton.mp hb] at e
      rw [e] at ha
      exact hS ((h3 c).2 ha)
    · rw [Bool.or_eq_true, decide_eq_true_iff, List.mem_append, List.mem_singleton, h3]
    · rcases List.mem_append.mp hs with z | z
      · exact h4 s z
      · rw [List.mem_singleton.mp z]; exact hc
end K59
/-! R16 -/
set_option Elab.async false
set_option linter.all false
set_option maxRecDepth 100000
set_option maxHeartbeats 2000000
/-! pairs of texts in lists and tuples -/
namespace K59
open PySem PySem.Spec PyProof.Rows L2
theorem nm_ok {s : Str} (h : Nm s) : PyData.strOk s = true := by
  unfold PyData.strOk
  rw [Array.all_eq_true']
  intro c hc
  have := h.2.2 c (Array.mem_toList_iff.mpr hc)
  exact decide_eq_true (by omega)
/-- two texts -/
def Pok (p : Str × Str) : Prop := PyData.strOk p.1 = true ∧ PyData.strOk p.2 = true
theorem pok_nm {p : Str × Str} (h1 : Nm p.1) (h2 : Nm p.2) : Pok p := ⟨nm_ok h1, nm_ok h2⟩
theorem pairD_lay {p : Str × Str} (h : Pok p) : (pairD p).canLay0 = true := by simp [pairD, PyData.canLay0, PyData.canLayAll0, h.1, h.2]
theorem pairD_depth (p : Str × Str) : (pairD p).depth = 1 := by simp [pairD, PyData.depth, PyData.depthAll]
theorem pairDs_lay : ∀ {ps : List (Str × Str)}, (∀ p ∈ ps, Pok p) → PyData.canLayAll0 (ps.map pairD) = true
  | [], _ => by simp [PyData.canLayAll0]
  | p :: ps, h => by simp [PyData.canLayAll0, pairD_lay (h p List.mem_cons_self), pairDs_lay fun q hq => h q (List.mem_cons_of_mem _ hq)]
theorem pairDs_depth : ∀ ps : List (Str × Str), PyData.depthAll (ps.map pairD) ≤ 1
  | [] => by simp [PyData.depthAll]
  | p :: ps => by
    have h1 := pairDs_depth ps
    have h2 := pairD_depth p
    simp only [List.map_cons, PyData.depthAll]
    omega
theorem pairDs_shaped {ps : List (Str × Str)} (h : ∀ p ∈ ps, Pok p) : SeqAt.shaped (.list (ps.map pairD)) = true := by
  have h1 := pairDs_depth ps
  have h2 : PyData.depth (.list (ps.map pairD)) ≤ 64 := by
    simp only [PyData.depth]
    omega
  show (PyData.canLay0 (.list (ps.map pairD)) && decide (PyData.depth (.list (ps.map pairD)) ≤ 64)) = true
  rw [Bool.and_eq_true]
  exact ⟨by simp only [PyData.canLay0]; exact pairDs_lay h, decide_eq_true h2⟩
theorem pairD_eqv (p q : Str × Str) : PyData.eqv (pairD p) (pairD q) = decide (p = q) := by
  obtain ⟨a, b⟩ := p
  obtain ⟨c, d⟩ := q
  have e : PyData.eqv (pairD (a, b)) (pairD (c, d)) = ((a == c) && ((b == d) && true)) := by simp only [pairD, PyData.eqv, PyData.eqvAll]
  rw [e]
  by_cases h1 : a = c
  · by_cases h2 : b = d
    · simp [h1, h2]
    · simp [h1, h2]
  · simp [h1]
theorem pairDs_any (p : Str × Str) (ps : List (Str × Str)) : ((ps.map pairD).any fun z => PyData.eqv z (pairD p)) = decide (p ∈ ps) := by
  induction ps with
  | nil => simp
  | cons q r ih =>
    rw [List.map_cons, List.any_cons, ih, pairD_eqv]
    by_cases h : q = p
    · simp [h]
    · have h2 : ¬ p = q := fun e => h e.symm
      simp [h, h2]
theorem hu65 {k : Nat} {A : Around} (hr : Room k A) : A.units + 65 < cLine := by have := hr.un; omega
/-- p in ps, p not in ps -/
def rInP (K : PySem.W.Frag) (neg : Bool) : R2 := fun x y H Q => ∃ (a b : Addr) (xs : List V) (p : Str × Str) (ps : List (Str × Str)), x = .ref a ∧ y = .ref b ∧ SqT K H a [.str p.1, .str p.2] ∧ SqA K H b xs ∧ DpAll K H xs (ps.map pairD) ∧ Pok p ∧ (∀ q ∈ ps, Pok q) ∧ Q (.bl (neg != decide (p ∈ ps))) H
/-- ps != [] -/
def rNeE (K : PySem.W.Frag) : R2 := fun x y H Q => ∃ (a b : Addr) (xs : List V) (ps : List (Str × Str)), x = .ref a ∧ y = .ref b ∧ SqL K H a xs ∧ DpAll K H xs (ps.map pairD) ∧ (∀ q ∈ ps, Pok q) ∧ SqL K H b [] ∧ Q (.bl (!ps.isEmpty)) H
section
variable {X : Cx}
theorem op_inP (K : PySem.W.Frag) (hu : X.A.units + 65 < cLine) (hK : X.K = K := by rfl) : OpR X (compareOp .In) (rInP K false) := by
  subst hK
  intro pins s σ H x y v u Q I rx ry h
  obtain ⟨a, b, xs, p, ps, rfl, rfl, ha, hb, hd, okp, okps, q⟩ := h
  have hp : Dp X.K H (.ref a) (pairD p) := .tup ha (.cons (.str _) (.cons (.str _) .nil))
  obtain ⟨as, r1⟩ := Dp.reads I _ _ v hp rx
  have e := pairDs_any p ps
  have hz : X.A.units + 1 + min (PyData.depthAll (ps.map pairD)) (pairD p).depth < cLine := by
    have := pairD_depth p
    omega
  rcases hb with hb | hb
  · obtain ⟨bs, r2⟩ := Dp.reads I (.list (ps.map pairD)) _ u (.lst hb hd) ry
    exact SeqAt.in_list_reads r2 r1 (pairDs_lay okps) (pairD_lay okp) hz ⟨.bl _, H, I, rfl, by rw [e]; simpa using q⟩
  · obtain ⟨bs, r2⟩ := Dp.reads I (.tuple (ps.map pairD)) _ u (.tup hb hd) ry
    exact SeqAt.in_tuple_reads r2 r1 (pairDs_lay okps) (pairD_lay okp) hz ⟨.bl _, H, I, rfl, by rw [e]; simpa using q⟩
theorem op_notInP (K : PySem.W.Frag) (hu : X.A.units + 65 < cLine) (hK : X.K = K := by rfl) : OpR X (compareOp .NotIn) (rInP K true) := by
  subst hK
  intro pins s σ H x y v u Q I rx ry h
  obtain ⟨a, b, xs, p, ps, rfl, rfl, ha, hb, hd, okp, okps, q⟩ := h
  have hp : Dp X.K H (.ref a) (pairD p) := .tup ha (.cons (.str _) (.cons (.str _) .nil))
  obtain ⟨as, r1⟩ := Dp.reads I _ _ v hp rx
  have e := pairDs_any p ps
  have hz : X.A.units + 1 + min (PyData.depthAll (ps.map pairD)) (pairD p).depth < cLine := by
    have := pairD_depth p
    omega
  rcases hb with hb | hb
  · obtain ⟨bs, r2⟩ := Dp.reads I (.list (ps.map pairD)) _ u (.lst hb hd) ry
    exact SeqAt.notIn_list_reads r2 r1 (pairDs_lay okps) (pairD_lay okp) hz ⟨.bl _, H, I, rfl, by rw [e]; simpa using q⟩
  · obtain ⟨bs, r2⟩ := Dp.reads I (.tuple (ps.map pairD)) _ u (.tup hb hd) ry
    exact SeqAt.notIn_tuple_reads r2 r1 (pairDs_lay okps) (pairD_lay okp) hz ⟨.bl _, H, I, rfl, by rw [e]; simpa using q⟩
theorem op_neE (K : PySem.W.Frag) (hu : X.A.units + 65 < cLine) (hK : X.K = K := by rfl) : OpR X (compareOp .NotEq) (rNeE K) := by
  subst hK
  intro pins s σ H x y v u Q I rx ry h
  obtain ⟨a, b, xs, ps, rfl, rfl, ha, hd, okps, hb, q⟩ := h
  refine op_neD (by omega) pins s σ H _ _ v u Q I rx ry ⟨.list (ps.map pairD), .list [], .lst ha hd, .lst hb .nil, pairDs_shaped okps, by decide, ?_⟩
  have e : (!PyData.eqv (.list (ps.map pairD)) (.list [])) = !ps.isEmpty := by
    cases ps with
    | nil => simp [PyData.eqv, PyData.eqvAll]
    | cons p r => simp [PyData.eqv, PyData.eqvAll]
  rw [e]
  exact q
end
end K59
/-! R15 -/
set_option Elab.async false
set_option linter.all false
set_option maxRecDepth 100000
set_option maxHeartbeats 4000000
/-! methods -/
namespace K59
open PySem PySem.Spec PyProof.Rows L2
def tMethC (C : Addr) (m : Str) (sp : Sp) (ta : TE) (t : TA) : TE := fun σ H Q => ta σ H fun x H1 => ∃ a dx fs, x = .ref a ∧ H1 a = some (.ins C dx fs) ∧ fs.lookup m = none ∧ t σ H1 fun vs H2 => sp (x :: vs) H2 Q E0
def tMethD (K : PySem.W.Frag) (m : Str) (sp : Sp) (ta : TE) (t : TA) : TE := fun σ H Q => ta σ H fun x H1 => ∃ a dx fs kd, x = .ref a ∧ H1 a = some (.ins (clsA K kd) dx fs) ∧ fs.lookup m = none ∧ t σ H1 fun vs H2 => sp (x :: vs) H2 Q E0
section
variable {X : Cx} {k : Nat} {C f : Addr} {m : Str} {sp : Sp} {o e : Expr} {es : List Expr} {ta : TE} {t : TA} {apos pos : Pos} {pl : Sem Bool}
theorem pe_methF (K : PySem.W.Frag) (he : PE X o ta) (c : Cls K C) (hm : Meth K C m f) (G : OkR X.prog X.w K X.mg X.base k f sp) (hr : Room k X.A) (ha : PA X (e :: es) t) (hK : X.K = K := by rfl)
    (hst : starEach (e :: es) X.env = (false, eval e X.env) :: starEach es X.env := by rfl) (hpl : (backTo pos (starEach es X.env)).any (·.1) = false := by rfl)
    (ht : eval (.Call (.Attribute o m apos) (e :: es) [] pos) X.env = (do
      let ov ← eval o X.env
      standAt apos.atName
      let (f, first) ← holding [ov] (getMethod ov m pl)
      callWith pos f first (backTo pos (starEach (e :: es) X.env)) (backToKw pos (keywordEach [] X.env))) := by rfl) :
    PE X (.Call (.Attribute o m apos) (e :: es) [] pos) (tMethC C m sp ta t) := by
  subst hK
  exact ⟨fun pins s σ H Q I h => (pe_methR (E := E0) he c hm G.1 hr pass0 ha hst hpl ht).run pins s σ H Q I h⟩
theorem pe_methF0 (K : PySem.W.Frag) (he : PE X o ta) (c : Cls K C) (hm : Meth K C m f) (G : OkR X.prog X.w K X.mg X.base k f sp) (hr : Room k X.A) (hK : X.K = K := by rfl)
    (ht : eval (.Call (.Attribute o m apos) [] [] pos) X.env = (do
      let ov ← eval o X.env
      standAt apos.atName
      let (f, first) ← holding [ov] (getMethod ov m pl)
      callWith pos f first (backTo pos (starEach [] X.env)) (backToKw pos (keywordEach [] X.env))) := by rfl) :
    PE X (.Call (.Attribute o m apos) [] [] pos) (tMethC C m sp ta tNil) := by
  subst hK
  refine ⟨fun pins s σ H Q I h => ?_⟩
  refine PySem.W.methodCall_KW (pl := pl) (thn (he.run pins s σ H _ I h) fun u s1 ⟨x, H1, I1, rx, a, dx, fs, ex, ea, l, q⟩ => ?_) ht
  subst ex
  obtain rfl : u = Value.ref a := rx
  refine getmeth_ok I1 ea c hm l ?_
  exact PySem.W.callWith_K0 (first := [.ref a]) I1.kIn hm.kp (wpAny_call (run_fnR (us := [.ref a]) (vs := [.ref a]) G.1 hr pass0 I1 (.cons (show RelV (.ref a) (.ref a) from rfl) .nil) q))
theorem pe_methD (K : PySem.W.Frag) (he : PE X o ta) (hm : ∀ kd : Kd, Cls K (clsA K kd) ∧ ∃ f, Meth K (clsA K kd) m f ∧ OkR X.prog X.w K X.mg X.base k f sp) (hr : Room k X.A) (ha : PA X (e :: es) t) (hK : X.K = K := by rfl)
    (hst : starEach (e :: es) X.env = (false, eval e X.env) :: starEach es X.env := by rfl) (hpl : (backTo pos (starEach es X.env)).any (·.1) = false := by rfl)
    (ht : eval (.Call (.Attribute o m apos) (e :: es) [] pos) X.env = (do
      let ov ← eval o X.env
      standAt apos.atName
      let (f, first) ← holding [ov] (getMethod ov m pl)
      callWith pos f first (backTo pos (starEach (e :: es) X.env)) (backToKw pos (keywordEach [] X.env))) := by rfl) :
    PE X (.Call (.Attribute o m apos) (e :: es) [] pos) (tMethD K m sp ta t) := by
  subst hK
  refine ⟨fun pins s σ H Q I h => ?_⟩
  refine PySem.W.methodCall_KW (pl := pl) (thn (he.run pins s σ H _ I h) fun u s1 ⟨x, H1, I1, rx, a, dx, fs, kd, ex, ea, l, q⟩ => ?_) ht
  subst ex
  obtain rfl : u = Value.ref a := rx
  obtain ⟨c, f, mt, G⟩ := hm kd
  refine getmeth_ok I1 ea c mt l ?_
  refine PySem.W.callWith_K (first := [.ref a]) (h₀ := X.base) I.ok.mod.kin mt.kp (thn (ha.run pos pins s1 σ H1 _ I1 q) fun us s2 ⟨vs, H2, I2, r, q2⟩ => ⟨I2.kIn, ?_⟩) hst hpl
  exact wpAny_call (run_fnR (us := .ref a :: us) (vs := .ref a :: vs) G.1 hr pass0 I2 (.cons (show RelV (.ref a) (.ref a) from rfl) r) q2)
end
end K59
/-! D11 -/
set_option Elab.async false
set_option linter.all false
set_option maxRecDepth 100000
set_option maxHeartbeats 2000000
namespace K59
open PySem PySem.Spec PyProof.Rows L2 LamX
abbrev qInit : Str := "Book.__init__"
def qLam : Str := qInit ++ ".<locals>." ++ "<lambda>"
/-- the code object of Book.__init__ and its table -/
structure BookT (K : PySem.W.Frag) (mg : Str → Option Value) (base : Heap) (cB PB : Addr) : Prop where
  fn : HasFnC K (He.fAd K ("Book", some "__init__")) cB "__init__" qInit (inClass (top 58) 0)
  tb : TabB base mg cB PB
abbrev TB1 (PB : Addr) : List (Addr × Str) := [(PB, qLam)]
/-- the book x is made, in a heap that is H but for x (and for the table) -/
def BPost (K : PySem.W.Frag) (PB : Addr) (H : Hp) (x : Addr) (cols : List Str) (ds : List Dd) (Q : VK) : Prop :=
  ∀ H', ExtN (less x H) H' → Tabs (TB1 PB) H' → BookAt K H' cols ds (.ref x) → Q .non H'
/-- the states of some deeds -/
def StatesIn (ds : List Dd) (ms : List Str) : Prop := ∀ d ∈ ds, ∀ p ∈ d.mv, (p.1 ≠ "" → p.1 ∈ ms) ∧ (p.2 ≠ "" → p.2 ∈ ms)
def KeepV (kv : V) : Prop := kv = .non ∨ ∃ i : Int, kv = .int i ∧ 1 ≤ i ∧ i ≤ 3
theorem match_keep {kv : V} {p : Prop} (h : KeepV kv) (h0 : kv = .non → p) (h1 : ∀ i : Int, kv = .int i → 1 ≤ i → i ≤ 3 → p) : p := h.elim h0 fun ⟨i, e, a, b⟩ => h1 i e a b
section
variable {P : Program} {w : World} {K : PySem.W.Frag} {mg : Str → Option Value} {base : Heap}
abbrev s_Book_init : Stmt := inClass (top 58) 0
abbrev N_Book_init : List Str := ["self", "columns", "keep", "deeds", "deed", "found", "move", "state"]
theorem sc_Book_init : FnScope N_Book_init ["self", "columns", "keep", "deeds"] (defScope s_Book_init) := ⟨rfl, rfl, rfl, by decide +kernel, rfl, by decide +kernel, by decide +kernel⟩
abbrev s_Book_of : Stmt := inClass (top 58) 1
abbrev N_Book_of : List Str := ["cls", "columns", "deeds", "keep"]
theorem sc_Book_of : FnScope N_Book_of ["cls", "columns", "deeds", "keep"] (defScope s_Book_of) := ⟨rfl, rfl, rfl, by decide +kernel, rfl, by decide +kernel, by decide +kernel⟩
def sp_Book_init (K : PySem.W.Frag) (PB : Addr) : SpA := fun vs zs H Q _ => ∃ (x dx lc : Addr) (cols ms : List Str) (dvs : List V) (ds : List Dd) (kv : V), vs = [.ref x, .ref lc] ++ dvs ∧ zs = [kv] ∧ H x = some (.ins (He.ga K "Book") dx []) ∧
  SqL K H lc (cols.map V.str) ∧ Names colBan cols ∧ cols.length ≤ 3 ∧ Deeds K H cols dvs ds ∧ (ds.map (·.nm)).Nodup ∧ ds.length ≤ 8 ∧ StatesIn ds ms ∧ ms.length ≤ 4 ∧ (∀ d ∈ ds, ∀ c ∈ d.own, c ∈ cols) ∧ KeepV kv ∧ Tabs (TB1 PB) H ∧ BPost K PB H x cols ds Q
theorem ok_Book_init (T : Tx2 P K mg) {cB PB : Addr} (B : BookT K mg base cB PB) : FnA P w K mg base 4 (He.fAd K ("Book", some "__init__")) ["keep"] (sp_Book_init K PB) := by
  obtain ⟨tM, hMOST_DEEDS⟩ := T.i_MOST_DEEDS
  obtain ⟨tM2, hMOST_STATES⟩ := T.i_MOST_STATES
  obtain ⟨tM3, hMOST_KEPT⟩ := T.i_MOST_KEPT
  have G_check_columns : OkR P w K mg base 3 (He.fAd K ("check_columns", none)) (sp_check_columns K) := ok_check_columns T.toTx0
  have G_check_once : OkR P w K mg base 1 (He.fAd K ("check_once", none)) (sp_once K) := ok_once T.toTx0
  have G_check_words : OkR P w K mg base 2 (He.fAd K ("check_words", none)) (sp_check_words K) := ok_check_words T
  have G_is_between : OkR P w K mg base 2 (He.fAd K ("is_between", none)) sp_is_between := ok_is_between T.toTx0
  have TB := B.tb
  have hmT : (PB, qLam) ∈ TB1 PB := List.mem_singleton.mpr rfl
  have huT : ∀ q ∈ TB1 PB, q.1 = PB → q.2 = qLam := fun q hq _ => by rw [List.mem_singleton.mp hq]
  refine mkC B.fn sc_Book_init fun kV doc pm an ct A outer s H us ws vs zs Q E e0 r rz l h => ?_
  obtain ⟨x, dx, lc, cols, ms, dvs, ds, kv, rfl, rfl, hx, hlc, hcols, hcl, hds, hnd, hdl, hst, hml, hown, hkv, hT, k⟩ := h
  have hdvl : dvs.length = ds.length := hds.length
  obtain ⟨u1, u2, rfl, r1, r2⟩ := StX.vals_split r
  refine ⟨_, bnd_star (ps := ["self", "columns", "keep"]) (us := u1 ++ ws) (rest := u2) (rs := dvs) (vs := [.ref x, .ref lc, kv]) ?_ e0 (r1.append rz) r2 rfl (by rw [hdvl]; exact Nat.le_trans hdl (by decide)), ?_⟩
  · match u1, ws, u2, r1, rz with
    | [_, _], [_], [], _, _ => rfl
    | [_, _], [_], _ :: _, _, _ => rfl
  · intro s2 H2 xs g hr
    obtain ⟨sp, hsp, rfl, rfl⟩ := g
    refine ⟨_, 
    (pss_cons (ps_fld (pv 0) (pe_callF G_check_columns (hr.mono (by decide)) (by rfl) T.g_check_columns (pa_cons (pv 1) pa_nil)) rfl) 
    (pss_cons (ps_for PassesOwn.never rfl (pi_tupK K (pv 3)) (pg_name (i := 4) sc_Book_init.nd rfl (Or.inl rfl)) 
      (pss_one (ps_if (pt_not (pt_val (pe_callB (isiT K) (by rfl) T.n_isinstance (by decide +kernel) (pa_cons (pv 4) (pa_cons (pe_tup (pa_cons (pe_glob (v := .ref (He.ga K "Make")) rfl T.g_Make rfl) (pa_cons (pe_glob (v := .ref (He.ga K "Change")) rfl T.g_Change rfl) (pa_cons (pe_glob (v := .ref (He.ga K "End")) rfl T.g_End rfl) pa_nil)))) pa_nil))) (by intro _; rfl))) 
        (pss_one ps_never) pss_nil))) 
    (pss_cons (ps_expr (pe_callF G_check_once (hr.mono (by decide)) (by rfl) T.g_check_once (pa_cons (pe_lc (own := [("deed", 4)]) (by rfl) sc_Book_init.nd (pi_tupK K (pv 3)) (blkOk_by (own := [("deed", 4)]) (N := N_Book_init) (sc := (defScope s_Book_init)) (by decide +kernel)) (fun _ _ _ _ _ => (pg_name (i := 4) sc_Book_init.nd rfl (Or.inl rfl))) (fun _ _ _ _ _ => pts_nil) (fun _ _ _ _ _ => (pe_fldK K (pv 4)))) pa_nil))) 
    (pss_cons (ps_if (pt_cmpR op_gt (pe_callB (lenK K) (by rfl) T.n_len (by decide +kernel) (pa_cons (pv 3) pa_nil)) (pe_glob (v := .int 8) rfl hMOST_DEEDS ⟨_, rfl⟩) (nomark _)) 
      (pss_one ps_never) pss_nil) 
    (pss_cons (ps_setSc3 (i := 5) (own := [("deed", 4), ("move", 6), ("state", 7)]) w [6, 7] [7] (by rfl) (by rfl) sc_Book_init.nd rfl rfl (sw_trueS rfl rfl rfl (by decide +kernel)) (pi_tupK K (pv 3)) (blkOk_by (own := [("deed", 4), ("move", 6), ("state", 7)]) (N := N_Book_init) (sc := (defScope s_Book_init)) (by decide +kernel)) (by decide) (by decide) (fun _ _ _ _ _ => (pg_name (i := 4) sc_Book_init.nd rfl (Or.inl rfl))) (fun _ _ _ _ _ => pts_nil) (fun _ _ _ _ _ => (pi_tupK K (pe_fldK K (pv 4)))) (fun _ _ _ _ _ => (pg_name (i := 6) sc_Book_init.nd rfl (Or.inl rfl))) (fun _ _ _ _ _ => pts_nil) (fun _ _ _ _ _ => (pi_tupK K (pv 6))) (fun _ _ _ _ _ => (pg_name (i := 7) sc_Book_init.nd rfl (Or.inl rfl))) (fun _ _ _ _ _ => pts_one (pt_cmpR op_ne (pv 7) pe_str (nomark _))) (fun _ _ _ _ _ => (pv 7))) 
    (pss_cons (ps_fld (pv 0) (pe_callTy (tupleK K) (by rfl) T.n_tuple (by decide +kernel) (pa_cons (pe_callB (cr_sortSet w) (by rfl) T.n_sorted (by decide +kernel) (pa_cons (pv 5) pa_nil)) pa_nil)) rfl) 
    (pss_cons (ps_if (pt_cmpR op_gt (pe_callB (lenK K) (by rfl) T.n_len (by decide +kernel) (pa_cons (pe_fldK K (pv 0)) pa_nil)) (pe_glob (v := .int 4) rfl hMOST_STATES ⟨_, rfl⟩) (nomark _)) 
      (pss_one ps_never) pss_nil) 
    (pss_cons (ps_for PassesOwn.never rfl (pi_tupK K (pv 3)) (pg_name (i := 4) sc_Book_init.nd rfl (Or.inl rfl)) 
      (pss_one (ps_expr (pe_callF G_check_words (hr.mono (by decide)) (by rfl) T.g_check_words (pa_cons (pv 4) (pa_cons (pe_fldK K (pv 0)) pa_nil)))))) 
    (pss_cut (ps_if (PW.pt (pw_and (pt_cmpR op_notN (pv 2) pe_non (nomark _)) (pw_and1 (pt_not (pt_val (pe_callF G_is_between (hr.mono (by decide)) (by rfl) T.g_is_between (pa_cons (pv 2) (pa_cons pe_int (pa_cons (pe_glob (v := .int 3) rfl hMOST_KEPT ⟨_, rfl⟩) pa_nil)))) (by intro _; rfl)))))) 
      (pss_one ps_never) pss_nil) 
    (pss_cons (ps_fld (pv 0) (pe_sortKey K (by rfl) hr (by rfl) (pv 3) TB rfl hmT huT (by rfl) T.n_sorted rfl (by decide) rfl rfl rfl (by decide) (fun _ _ _ _ _ _ => rfl) rfl) rfl) 
    (pss_cons (ps_fld (pv 0) (pe_callTy (tupleK K) (by rfl) T.n_tuple (by decide +kernel) (pa_cons (pe_lc (own := [("deed", 4)]) (by rfl) sc_Book_init.nd (pi_listK K (pe_fldK K (pv 0))) (blkOk_by (own := [("deed", 4)]) (N := N_Book_init) (sc := (defScope s_Book_init)) (by decide +kernel)) (fun _ _ _ _ _ => (pg_name (i := 4) sc_Book_init.nd rfl (Or.inl rfl))) (fun _ _ _ _ _ => pts_nil) (fun _ _ _ _ _ => (pe_fldK K (pv 4)))) pa_nil)) rfl) 
    (pss_one (ps_fld (pv 0) (pv 2) rfl))))))))))))), ?_⟩
    have hxp : x ≠ sp := ne_of_none hx hsp
    have yp : ∀ u, Same H (upd H sp u) := fun u => same_upd hsp
    have dC := T.c_Book
    refine ⟨_, rfl, lc, cols, rfl, (yp _).seq hlc, hcols, hcl, fun pc ys H1 py e1 hpc hpt => ?_⟩
    refine ⟨_, rfl, x, _, dx, [], rfl, e1 _ _ (yp _ _ _ hx), dC, T.a_Book_columns, (show 0 < 1000 by decide), ?_⟩
    have hpx : pc ≠ x := (ne_of_none (yp _ _ _ hx) hpc).symm
    generalize hH1' : upd H1 x (.ins (He.ga K "Book") dx (putF "columns" (.ref pc) [])) = HA
    have hAx : HA x = some (.ins (He.ga K "Book") dx [("columns", .ref pc)]) := by rw [← hH1']; exact upd_same
    have lB : Same (less x H) (less x HA) := fun b o hb => by
      have hbx : b ≠ x := fun e => by rw [e, less_x] at hb; cases hb
      rw [less_ne hbx] at hb ⊢
      rw [← hH1', upd_ne hbx]
      exact e1 _ _ (yp _ _ _ hb)
    have hBA : Same (less x HA) HA := less_sub x HA
    have hBx : less x HA x = none := less_x
    have hds0 : Deeds K (less x HA) cols dvs ds := deeds_same lB (deeds_less hx hds)
    have hsp0 : less x HA sp = some (.tup dvs) := by rw [less_ne hxp.symm, ← hH1', upd_ne hxp.symm]; exact e1 _ _ upd_same
    have hpc0 : less x HA pc = some (.tup (ys.map V.str)) := by rw [less_ne hpx, ← hH1', upd_ne hpx]; exact hpt
    have hT0 : Tabs (TB1 PB) (less x HA) := tabs_same lB (tabs_less hx hT)
    clear hH1' hpt
    generalize hB0 : less x HA = B0 at lB hBA hBx hds0 hsp0 hpc0 hT0
    refine ⟨_, rfl, sp, rfl, ⟨_, SqT.of (hBA _ _ hsp0)⟩, for_tup (K := K) (a := sp) (xs := dvs) (fun i σ H3 => ∃ v4, σ = [some (.ref x), some (.ref lc), some kv, some (.ref sp), v4, none, none, none] ∧ Same HA H3) ⟨_, rfl, Same.refl _⟩ (fun i σ H3 _ ⟨_, _, e⟩ => SqT.of (e _ _ (hBA _ _ hsp0))) ?_ ?_⟩
    · rintro i y σ H3 hi ⟨v4, rfl, e⟩
      obtain ⟨d, hd, hD⟩ := paired_get hds0 hi
      obtain ⟨a, da, m, c, mvs, mv, own, nv, rfl, ha, _⟩ := hD.ex
      refine ⟨_, rfl, (show 3 ≤ sizeLine by decide), fun tp htp => ?_⟩
      refine ⟨_, tp, _, _, _, true, rfl, upd_same, .cons (ClsV.own _) (.cons (ClsV.own _) (.cons (ClsV.own _) .nil)), tyx_deed T.toTx1 (same_upd htp _ _ (e _ _ (hBA _ _ ha))), kit3 T.toTx1 d.k, _, rfl, iteF ?_⟩
      exact ⟨_, rfl, e.trans (same_upd htp)⟩
    rintro σ H3 ⟨v4, rfl, e3⟩
    refine ⟨_, rfl, sp, rfl, ⟨_, SqT.of (e3 _ _ (hBA _ _ hsp0))⟩, fun D hD => ?_⟩
    refine lc_tup (K := K) (a := sp) (xs := dvs) (Gr H3 D fun i acc _ => acc = ((ds.map (·.nm)).take i).map V.str) (gr_start hD rfl) (fun i H5 _ G => SqT.of (G.ext _ _ (e3 _ _ (hBA _ _ hsp0)))) ?_ ?_
    · rintro i y H5 hi G
      obtain ⟨d, hd, hDd⟩ := paired_get hds0 hi
      obtain ⟨a, da, m, c, mvs, mv, own, nv, rfl, ha, _⟩ := hDd.ex
      have hlt := (List.getElem?_eq_some_iff.mp hd).1
      refine ⟨rfl, _, rfl, a, _, da, _, _, rfl, G.ext _ _ (e3 _ _ (hBA _ _ ha)), cls_deed T.toTx1 d.k, na_name T.toTx1 d.k, rfl, ?_⟩
      refine gr_add G (Same.refl _) (by omega) (fun _ _ _ _ _ h => h) fun acc h => ?_
      have hq : (ds.map (·.nm))[i]? = some d.nm := by rw [List.getElem?_map, hd]; rfl
      rw [take_at hq, List.map_append, ← h]
      rfl
    rintro H5 ⟨hD5, e5, acc, hacc, _, hd2⟩
    have hfull : ((ds.map (·.nm)).take dvs.length) = ds.map (·.nm) := List.take_of_length_le (by rw [List.length_map, hdvl]; exact Nat.le_refl _)
    rw [hfull] at hd2
    rw [hd2] at hacc
    refine ⟨D, _, rfl, .inl (SqL.of hacc), hnd, fun H6 e6 => ?_⟩
    have y6 : Same HA H6 := (e3.trans e5).trans e6
    have b6 := hBA.trans y6
    refine ⟨_, rfl, sp, _, rfl, .inr (SqT.of (b6 _ _ hsp0)), _, _, rfl, rfl, _, rfl, ?_⟩
    have hgt : decide ((8 : Int) < (dvs.length : Int)) = false := decide_eq_false (by omega)
    rw [hgt]
    refine iteF ⟨_, rfl, sp, rfl, ⟨_, SqT.of (b6 _ _ hsp0)⟩, fun Ds hDs => ?_⟩
    refine walk_tup (K := K) (a := sp) (xs := dvs) (fun _ H7 => Same H6 H7 ∧ SetIn w H7 Ds ms) ⟨same_upd hDs, setIn_new⟩ (fun i H7 _ G => SqT.of (G.1 _ _ (b6 _ _ hsp0))) ?_ ?_
    · rintro i y H7 hi ⟨e7, S7⟩
      obtain ⟨d, hd, hDd⟩ := paired_get hds0 hi
      obtain ⟨a, da, m, c, mvs, mv, own, nv, rfl, ha, hm, hmv, pm, _⟩ := hDd.ex
      have b7 := b6.trans e7
      have hdm := hst d (List.mem_of_getElem? hd)
      refine ⟨rfl, _, rfl, a, _, da, _, _, rfl, b7 _ _ ha, cls_deed T.toTx1 d.k, na_moves T.toTx1 d.k, rfl, m, rfl, ⟨_, same_tup b7 hm⟩, ?_⟩
      refine walk_tup (K := K) (a := m) (xs := mvs) (fun _ H7 => Same H6 H7 ∧ SetIn w H7 Ds ms) ⟨e7, S7⟩ (fun i H7 _ G => same_tup (b6.trans G.1) hm) ?_ fun _ h => h
      rintro j z H8 hj ⟨e8, S8⟩
      obtain ⟨pr, t, hpr, rfl, ht⟩ := dpa_pairs_get hmv hj
      have b8 := b6.trans e8
      obtain ⟨n1, n2⟩ := hdm pr (pm.mem_iff.mp (List.mem_of_getElem? hpr))
      refine ⟨rfl, _, rfl, t, rfl, ⟨_, same_tup b8 ht⟩, ?_⟩
      refine walk_tup (K := K) (a := t) (xs := [pr.1, pr.2].map V.str) (fun _ H7 => Same H6 H7 ∧ SetIn w H7 Ds ms) ⟨e8, S8⟩ (fun i H7 _ G => same_tup (b6.trans G.1) ht) ?_ fun _ h => h
      rintro j2 z2 H9 hj2 ⟨e9, S9⟩
      obtain ⟨s, hs, rfl⟩ := strs_get hj2
      refine ⟨rfl, _, rfl, rfl, _, rfl, ?_⟩
      by_cases hse : s = ""
      · subst hse
        exact iteN (by decide) ⟨e9, S9⟩
      · have hin : s ∈ ms := by
          rcases List.mem_cons.mp (List.mem_of_getElem? hs) with z | z
          · rw [z] at hse ⊢
            exact n1 hse
          · rw [List.mem_singleton.mp z] at hse ⊢
            exact n2 hse
        have hne : (!decide (V.str s = V.str "")) = true := by rw [decide_eq_false (fun h => hse (V.str.inj h))]; rfl
        obtain ⟨S, n, h1, h2, h3⟩ := setIn_add S9 hin hml
        exact iteB hne ⟨_, rfl, s, S, n, rfl, h1, h2, same_mut e9 hDs, h3⟩
    rintro H7 ⟨e7, S, lS, hS, lnd, lS1, lS2⟩
    have hlS := nodup_len lnd lS2
    refine ⟨_, rfl, Ds, S, _, rfl, hS, Nat.lt_of_le_of_lt (Nat.le_trans hlS hml) (by decide), fun ns p7 nnd nin hp7 => ?_⟩
    have hns : ns.length ≤ 4 := Nat.le_trans (nodup_len nnd fun s hs => lS2 s ((lS1 s).1 ((nin s).1 hs))) hml
    refine ⟨p7, _, rfl, .inl ⟨SqL.of upd_same, fun t7 ht7 => ?_⟩⟩
    have y8 : ∀ u2, Same H6 (upd (upd H7 p7 (.lst (ns.map V.str))) t7 u2) := fun u2 => (e7.trans (same_upd hp7)).trans (same_upd ht7)
    refine ⟨_, rfl, x, _, dx, _, rfl, y8 _ _ _ (y6 _ _ hAx), dC, T.a_Book_states, (show 1 < 1000 by decide), ?_⟩
    have htx : t7 ≠ x := fun e => by
      rw [e, (e7.trans (same_upd hp7)) _ _ (y6 _ _ hAx)] at ht7
      cases ht7
    generalize hHB : upd (upd (upd H7 p7 (.lst (ns.map V.str))) t7 (.tup (ns.map V.str))) x (.ins (He.ga K "Book") dx (putF "states" (.ref t7) [("columns", .ref pc)])) = HB
    have hB1 : HB x = some (.ins (He.ga K "Book") dx [("columns", .ref pc), ("states", .ref t7)]) := by rw [← hHB]; exact upd_same
    have hB2 : HB t7 = some (.tup (ns.map V.str)) := by rw [← hHB, upd_ne htx]; exact upd_same
    have bB : Same B0 HB := by rw [← hHB]; exact same_mut (b6.trans (y8 _)) hBx
    clear hHB
    refine ⟨_, rfl, x, _, dx, _, _, rfl, hB1, dC, T.a_Book_states, rfl, t7, _, rfl, .inr (SqT.of hB2), _, _, rfl, rfl, _, rfl, ?_⟩
    have hgt2 : decide ((4 : Int) < ((ns.map V.str).length : Int)) = false := decide_eq_false (by rw [List.length_map]; omega)
    rw [hgt2]
    refine iteF ⟨_, rfl, sp, rfl, ⟨_, SqT.of (bB _ _ hsp0)⟩, for_tup (K := K) (a := sp) (xs := dvs) (fun i σ H8 => ∃ v4, σ = [some (.ref x), some (.ref lc), some kv, some (.ref sp), v4, some (.ref Ds), none, none] ∧ Same HB H8) ⟨_, rfl, Same.refl _⟩ (fun i σ H8 _ ⟨_, _, e⟩ => SqT.of (e _ _ (bB _ _ hsp0))) ?_ ?_⟩
    · rintro i y σ H8 hi ⟨v4', rfl, e8⟩
      obtain ⟨d, hd, hDd⟩ := paired_get hds0 hi
      exact ⟨_, rfl, _, rfl, x, _, dx, _, _, rfl, e8 _ _ hB1, dC, T.a_Book_columns, rfl, _, pc, cols, ys, d, rfl, deed_same (bB.trans e8) hDd, SqT.of ((bB.trans e8) _ _ hpc0), py, hown d (List.mem_of_getElem? hd), fun H9 e9 => ⟨_, rfl, e8.trans e9⟩⟩
    rintro σ H8 ⟨v4', rfl, e8⟩
    have b8 := bB.trans e8
    refine ⟨fun σ' H' => σ' = [some (.ref x), some (.ref lc), some kv, some (.ref sp), v4', some (.ref Ds), none, none] ∧ H' = H8, ⟨_, rfl, rfl, _, rfl, ?_⟩, ?_⟩
    · refine match_keep hkv (fun e => ?_) fun i e h1 h2 => ?_
      · exact iteN (by rw [e]; decide) ⟨rfl, rfl⟩
      · have hne : (!decide (kv = V.non)) = true := by rw [e]; rfl
        exact iteB hne ⟨_, rfl, i, 1, 3, by rw [e], h1, h2, _, rfl, iteF ⟨rfl, rfl⟩⟩
    rintro σ' H' ⟨rfl, rfl⟩
    have hT8 : Tabs (TB1 PB) H' := tabs_same b8 hT0
    have hd8 := deeds_same b8 hds0
    have hx8 := e8 _ _ hB1
    refine ⟨_, rfl, sp, dvs, rfl, .inr (SqT.of (b8 _ _ hsp0)), by omega, fun y hy => ?_, hT8, fun H9 e9 T9 zs p9 pz hp9 => ?_⟩
    · obtain ⟨i, hi⟩ := List.mem_iff_getElem?.mp hy
      obtain ⟨d, hd, hDd⟩ := paired_get hd8 hi
      obtain ⟨a, da, m, c, mvs, mv, own, nv, rfl, ha, _⟩ := hDd.ex
      exact ⟨a, _, da, _, d.nm, rfl, ha, cls_deed T.toTx1 d.k, na_name T.toTx1 d.k, rfl⟩
    have hx9 : H9 x = some (.ins (He.ga K "Book") dx [("columns", .ref pc), ("states", .ref t7)]) := ext_ins e9 hx8
    have hp9x : p9 ≠ x := (ne_of_none hx9 hp9).symm
    have eB : ExtN B0 (less x H9) := fun b o hb hn => by
      have hbx : b ≠ x := fun e => by rw [e, hBx] at hb; cases hb
      rw [less_ne hbx]
      exact e9 _ _ (b8 _ _ hb) hn
    have T9' : Tabs (TB1 PB) (less x H9) := tabs_less hx9 T9
    have hB9 : Same (less x H9) H9 := less_sub x H9
    have hBx9 : less x H9 x = none := less_x
    obtain ⟨es, pes, hes⟩ := paired_perm pz (deeds_ext eB hds0)
    have hcs := extN_tup (K := K) eB (SqT.of hpc0)
    generalize less x H9 = B9 at eB T9' hB9 hBx9 hes hcs
    refine ⟨_, rfl, x, _, dx, _, rfl, same_upd hp9 _ _ hx9, dC, T.a_Book_deeds, (show 2 < 1000 by decide), ?_⟩
    generalize hHC : upd (upd H9 p9 (.lst zs)) x (.ins (He.ga K "Book") dx (putF "deeds" (.ref p9) [("columns", .ref pc), ("states", .ref t7)])) = HC
    have hC1 : HC x = some (.ins (He.ga K "Book") dx [("columns", .ref pc), ("states", .ref t7), ("deeds", .ref p9)]) := by rw [← hHC]; exact upd_same
    have hC2 : HC p9 = some (.lst zs) := by rw [← hHC, upd_ne hp9x]; exact upd_same
    have bC : Same B9 HC := by rw [← hHC]; exact same_mut (hB9.trans (same_upd hp9)) hBx9
    clear hHC
    have hzl : zs.length = es.length := hes.length
    refine ⟨_, rfl, x, _, dx, _, _, rfl, hC1, dC, T.a_Book_deeds, rfl, p9, rfl, ⟨_, SqL.of hC2⟩, fun Dn hDn => ?_⟩
    refine lc_lst (K := K) (a := p9) (xs := zs) (Gr HC Dn fun i acc _ => True) (gr_start hDn trivial) (fun i H5 _ G => SqL.of (G.ext _ _ hC2)) ?_ ?_
    · rintro i y H5 hi G
      obtain ⟨d, hd, hDd⟩ := paired_get hes hi
      obtain ⟨a, da, m, c, mvs, mv, own, nv, rfl, ha, _⟩ := hDd.ex
      have hlt := (List.getElem?_eq_some_iff.mp hd).1
      have hel : es.length ≤ 8 := by rw [pes.length_eq]; exact hdl
      refine ⟨rfl, _, rfl, a, _, da, _, _, rfl, (bC.trans G.ext) _ _ ha, cls_deed T.toTx1 d.k, na_name T.toTx1 d.k, rfl, ?_⟩
      exact gr_add G (Same.refl _) (by omega) (fun _ _ _ _ _ h => h) fun acc h => trivial
    rintro HD ⟨hDD, eD, acc2, hacc2, _, _⟩
    refine ⟨Dn, _, rfl, .inl ⟨SqL.of hacc2, fun tn htn => ?_⟩⟩
    have yD : ∀ u, Same HC (upd HD tn u) := fun u => eD.trans (same_upd htn)
    have htnx : tn ≠ x := fun e => by
      rw [e, eD _ _ hC1] at htn
      cases htn
    have hp9n : p9 ≠ tn := fun e => by
      rw [← e, eD _ _ hC2] at htn
      cases htn
    refine ⟨_, rfl, x, _, dx, _, rfl, yD _ _ _ hC1, dC, T.a_Book_names, (show 3 < 1000 by decide), ?_⟩
    refine ⟨_, rfl, _, rfl, x, _, dx, _, rfl, upd_same, dC, T.a_Book_keep, (show 4 < 1000 by decide), ?_⟩
    have bF : ∀ u1 u2, Same B9 (upd (upd (upd HD tn (.tup acc2)) x u1) x u2) := fun u1 u2 => same_mut (same_mut (bC.trans (yD _)) hBx9) hBx9
    refine k _ (fun b o hb hn => bF _ _ _ _ (eB _ _ (lB _ _ hb) hn)) (tabs_same (bF _ _) T9') ⟨x, dx, pc, t7, p9, tn, kv, ys, zs, es, rfl, upd_same, same_tup (bF _ _) hcs, py, SqL.of ?_, deeds_same (bF _ _) hes, pes⟩
    rw [upd_ne hp9x, upd_ne hp9x]
    exact yD _ _ _ hC2
end
end K59
/-! D12 -/
set_option Elab.async false
set_option linter.all false
set_option maxRecDepth 100000
set_option maxHeartbeats 2000000
namespace K59
open PySem PySem.Spec PyProof.Rows L2 LamX
/-- a new book -/
def BMade (K : PySem.W.Frag) (PB : Addr) (H : Hp) (cols : List Str) (ds : List Dd) (Q : VK) : Prop := ∀ x H', ExtN H H' → Tabs (TB1 PB) H' → BookAt K H' cols ds (.ref x) → Q (.ref x) H'
theorem bmade_post {K : PySem.W.Frag} {PB x dx C : Addr} {H : Hp} {cols : List Str} {ds : List Dd} {Q : VK} {fs : List (Str × V)} (hx : H x = none) (hd : H dx = none) (h : BMade K PB H cols ds Q) :
    BPost K PB (upd (upd H dx (.own x)) x (.ins C dx fs)) x cols ds fun v H3 => v = .non ∧ Q (.ref x) H3 := fun H' e T' b => ⟨rfl, h x H' (fun c o hc n => by
      refine e c o ?_ n
      rw [less_upd, less_ne (ne_of_none hc hx), upd_ne (ne_of_none hc hd)]
      exact hc) T' b⟩
section
variable {P : Program} {w : World} {K : PySem.W.Frag} {mg : Str → Option Value} {base : Heap}
abbrev s__law_book : Stmt := top 71
abbrev N__law_book : List Str := ["_law_data_here", "_law_row_here"]
theorem sc__law_book : FnScope N__law_book ["_law_data_here"] (defScope s__law_book) := ⟨rfl, rfl, rfl, by decide +kernel, rfl, by decide +kernel, by decide +kernel⟩
def sp_Book_of (K : PySem.W.Frag) (PB : Addr) : SpA := fun vs zs H Q _ => ∃ (lc ld : Addr) (cols ms : List Str) (dvs : List V) (ds : List Dd) (kv : V), vs = [.ref (He.ga K "Book"), .ref lc, .ref ld] ∧ zs = [kv] ∧
  SqL K H lc (cols.map V.str) ∧ SqL K H ld dvs ∧ Names colBan cols ∧ cols.length ≤ 3 ∧ Deeds K H cols dvs ds ∧ (ds.map (·.nm)).Nodup ∧ ds.length ≤ 8 ∧ StatesIn ds ms ∧ ms.length ≤ 4 ∧ (∀ d ∈ ds, ∀ c ∈ d.own, c ∈ cols) ∧ KeepV kv ∧ Tabs (TB1 PB) H ∧ BMade K PB H cols ds Q
theorem ok_Book_of (T : Tx2 P K mg) {cB PB : Addr} (B : BookT K mg base cB PB) : FnA P w K mg base 6 (He5.wf K (He.ga K "Book") "classmethod" "of") ["keep"] (sp_Book_of K PB) := by
  have G_Book_init : FnA P w K mg base 4 (He.fAd K ("Book", some "__init__")) ["keep"] (sp_Book_init K PB) := ok_Book_init T B
  refine mkA T.v_Book_of sc_Book_of fun kV doc pm an cdv ct A outer s H us ws vs zs Q E e0 r rz l h => ?_
  obtain ⟨lc, ld, cols, ms, dvs, ds, kv, rfl, rfl, hlc, hld, hcols, hcl, hds, hnd, hdl, hst, hml, hown, hkv, hT, k⟩ := h
  refine ⟨_, bnd_pure (us := us ++ ws) (vs := [.ref (He.ga K "Book"), .ref lc, .ref ld, kv]) ?_ e0 (r.append rz) rfl, fun s2 H2 xs g hr => ?_⟩
  · match us, ws, r, rz with
    | [_, _, _], [_], _, _ => rfl
  · obtain ⟨rfl, rfl⟩ := g
    refine ⟨_, 
    (pss_one (ps_ret (pe_clsA (i := 0) T.k_Book G_Book_init (hr.mono (by decide)) rfl (by rfl) (pa_cons (pv 1) (pa_starK K (pv 2) pa_nil)) (pkn_cons (pv 3) pkn_nil)))), ?_⟩
    refine ⟨rfl, _, rfl, _, rfl, ld, _, rfl, .inr hld, ?_⟩
    refine ⟨_, rfl, fun x dx hx hdx hne => ?_⟩
    have yp : ∀ u, Same H2 (upd (upd H2 dx (.own x)) x u) := fun u => (same_upd hdx).trans (same_upd (by rw [upd_ne hne.symm]; exact hx))
    exact ⟨x, dx, lc, cols, ms, dvs, ds, kv, by simp, rfl, upd_same, (yp _).seq hlc, hcols, hcl, deeds_same (yp _) hds, hnd, hdl, hst, hml, hown, hkv, tabs_same (yp _) hT, bmade_post hx hdx k⟩
def sp_book (K : PySem.W.Frag) (PB : Addr) : Sp := fun vs H Q _ => ∃ (v : V) (D : Da) (marks : List Str), vs = [v] ∧ Dp K H v (daD D) ∧ DaOk marks D ∧ Tabs (TB1 PB) H ∧ BMade K PB H D.cols (D.rows.map (·.1)) Q
theorem states_of {cols marks : List Str} {rows : List (Dd × Option Nt)} (h : ∀ r ∈ rows, DdOk cols marks r.1) : StatesIn (rows.map (·.1)) marks := fun d hd p hp => by
  obtain ⟨r, hr, rfl⟩ := List.mem_map.mp hd
  have o := h r hr
  cases hk : r.1.k with
  | mk =>
    obtain ⟨s, hs, e⟩ := o.hmk hk
    rw [e] at hp
    rw [List.mem_singleton.mp hp]
    exact ⟨fun z => absurd rfl z, fun _ => hs⟩
  | ch => exact ⟨fun _ => (o.hch hk p hp).1, fun _ => (o.hch hk p hp).2⟩
  | en => exact ⟨fun _ => (o.hen hk p hp).1, fun z => absurd (o.hen hk p hp).2 z⟩
theorem dpa_rows_get {H : Hp} {xs : List V} {rows : List (Dd × Option Nt)} {i : Nat} {v : V} (h : DpAll K H xs (rows.map ddD)) (hi : xs[i]? = some v) : ∃ r, rows[i]? = some r ∧ Dp K H v (ddD r) := by
  obtain ⟨d, h1, h2⟩ := dpa_get h hi
  rw [List.getElem?_map] at h1
  cases e : rows[i]? with
  | none => rw [e] at h1; cases h1
  | some pr =>
    rw [e] at h1
    cases h1
    exact ⟨pr, rfl, h2⟩
theorem ok_book (T : Tx2 P K mg) {cB PB : Addr} (B : BookT K mg base cB PB) : OkR P w K mg base 8 (He.fAd K ("_law_book", none)) (sp_book K PB) := by
  have G_Book_of : FnA P w K mg base 6 (He5.wf K (He.ga K "Book") "classmethod" "of") ["keep"] (sp_Book_of K PB) := ok_Book_of T B
  have G__law_deed_of : OkR P w K mg base 7 (He.fAd K ("_law_deed_of", none)) (sp_deed_of K) := ok_deed_of T.toTx1
  refine mkR T.f__law_book sc__law_book (fun vs H Q E h => ?_) (fun _ _ _ _ _ _ us hl => match us, hl with | [_], _ => rfl) fun cdv A outer s H vs Q E hr h => ?_
  · obtain ⟨_, _, _, rfl, _⟩ := h
    rfl
  · obtain ⟨v, D, marks, rfl, hv, hok, hT, k⟩ := h
    refine ⟨_, 
    (pss_one (ps_ret (pe_cmethA (by rfl) T.g_Book T.r_Book T.m_Book_of G_Book_of (hr.mono (by decide)) (pa_cons (pe_callTy (listK K) (by rfl) T.n_list (by decide +kernel) (pa_cons (pe_ix (ix_tupK K) (pv 0) pe_int (fun _ _ => rfl)) pa_nil)) (pa_cons (pe_lc (own := [("_law_row_here", 1)]) (by rfl) sc__law_book.nd (pi_listK K (pe_ix (ix_tupK K) (pv 0) pe_int (fun _ _ => rfl))) (blkOk_by (own := [("_law_row_here", 1)]) (N := N__law_book) (sc := (defScope s__law_book)) (by decide +kernel)) (fun _ _ _ _ _ => (pg_name (i := 1) sc__law_book.nd rfl (Or.inl rfl))) (fun _ _ _ _ _ => pts_nil) (fun _ _ _ _ _ => (pe_callF G__law_deed_of (hr.mono (by decide)) (by rfl) T.g__law_deed_of (pa_cons (pv 1) pa_nil)))) pa_nil)) (pkn_cons (pe_ix (ix_tupK K) (pv 0) pe_int (fun _ _ => rfl)) pkn_nil)))), ?_⟩
    obtain ⟨a, xs, rfl, ha, hd⟩ := dp_tup hv
    obtain ⟨v0, v1, v2, rfl, h0, h1, h2⟩ := dpa3 hd
    obtain ⟨a0, rfl, ha0⟩ := dp_strs h0
    obtain ⟨a1, ms, rfl, ha1, hms⟩ := dp_lst h1
    have hml : ms.length = D.rows.length := by
      have := dpa_len hms
      rw [List.length_map] at this
      exact this
    have hrl := hok.len
    have hkv : KeepV v2 := by
      cases hk : D.keep with
      | none =>
        rw [hk] at h2
        exact .inl (dp_non h2)
      | some i =>
        rw [hk] at h2
        exact .inr ⟨i, dp_int h2, hok.keepOk i hk⟩
    refine ⟨_, rfl, a, _, _, _, rfl, rfl, ha, atI_nat (j := 0) rfl, a0, _, rfl, .inl ha0, fun l hl => ?_⟩
    have yl : ∀ u, Same H (upd H l u) := fun u => same_upd hl
    refine ⟨_, rfl, a, _, _, _, rfl, rfl, same_tup (yl _) ha, atI_nat (j := 1) rfl, a1, rfl, ⟨_, (yl _).seq ha1⟩, fun Dl hDl => ?_⟩
    refine lc_list (K := K) (a := a1) (xs := ms) (Gr (upd H l (.lst (D.cols.map V.str))) Dl fun i acc h => Deeds K h D.cols acc ((D.rows.map (·.1)).take i)) (gr_start hDl .nil) (fun i H5 _ G => G.ext.seq ((yl _).seq ha1)) ?_ ?_
    · rintro i y H5 hi G
      obtain ⟨r, hr', hDr⟩ := dpa_rows_get hms hi
      have hmem := List.mem_of_getElem? hr'
      obtain ⟨o1, o2⟩ := hok.rowOk r hmem
      have hlt := (List.getElem?_eq_some_iff.mp hr').1
      refine ⟨rfl, _, rfl, y, r, D.cols, marks, rfl, dp_same ((yl _).trans G.ext) hDr, o1, o2, hok.nameOk.1 _ (List.mem_map.mpr ⟨r, hmem, rfl⟩), hok.markOk.1, hok.colOk.1, hok.clen, hok.colOk.2.1, fun v' H' e' hv' => ?_⟩
      have hlt2 := hlt
      obtain ⟨_, hacc0, _⟩ := G.lst
      refine gr_add G e' (by omega) (fun _ _ _ _ e h => deeds_same e h) fun acc h => ?_
      have hq : (D.rows.map (·.1))[i]? = some r.1 := by rw [List.getElem?_map, hr']; rfl
      rw [take_at hq]
      exact Paired.snoc h (deed_lessL (e' _ _ hacc0) hv')
    · rintro H5 ⟨hD5, e5, acc, hacc, _, hd2⟩
      have hfull : ((D.rows.map (·.1)).take ms.length) = D.rows.map (·.1) := List.take_of_length_le (by rw [List.length_map, hml]; exact Nat.le_refl _)
      rw [hfull] at hd2
      have y5 := (yl _).trans e5
      refine ⟨_, rfl, a, _, _, _, rfl, rfl, same_tup y5 ha, atI_nat (j := 2) rfl, ?_⟩
      refine ⟨l, Dl, D.cols, marks, acc, D.rows.map (·.1), v2, rfl, rfl, SqL.of (e5 _ _ upd_same), SqL.of hacc, hok.colOk, Nat.le_trans hok.clen (by decide), deeds_same (less_sub _ _) hd2, ?_, by rw [List.length_map]; omega, states_of fun r hr => (hok.rowOk r hr).1, Nat.le_trans hok.mlen.2 (by decide), fun d hd c hc => ?_, hkv, tabs_same y5 hT, fun x' H' e2 T2 b => k x' H' (ext_trans (ext_same y5) e2) T2 b⟩
      · have := hok.nameOk.2.1
        rw [List.map_map]
        exact this
      · obtain ⟨r, hr, rfl⟩ := List.mem_map.mp hd
        exact (hok.rowOk r hr).1.own.2.1 c hc
end
end K59
/-! K59P -/
set_option Elab.async false
set_option linter.all false
set_option maxRecDepth 100000
/-! the plain law, part 1: reach, successions -/
namespace K59
open PySem
/-- the states to which deeds lead -/
inductive Reach (ds : List Dd) (S : Str → Prop) : Str → Prop where
  | base {s : Str} : S s → Reach ds S s
  | step {s t : Str} {d : Dd} : Reach ds S s → d ∈ ds → (s, t) ∈ d.mv → Reach ds S t
theorem reach_mono {ds es : List Dd} {S T : Str → Prop} (h : ∀ d, d ∈ ds → d ∈ es) (hS : ∀ s, S s → T s) : ∀ {s : Str}, Reach ds S s → Reach es T s
  | _, .base b => .base (hS _ b)
  | _, .step r m p => .step (reach_mono h hS r) (h _ m) p
theorem reach_closed {ds : List Dd} {S : Str → Prop} {fs : List Str} (h0 : ∀ s, S s → s ∈ fs) (h1 : ∀ s ∈ fs, ∀ d ∈ ds, ∀ t, (s, t) ∈ d.mv → t ∈ fs) : ∀ {s : Str}, Reach ds S s → s ∈ fs
  | _, .base b => h0 _ b
  | _, .step r m p => h1 _ (reach_closed h0 h1 r) _ m _ p
theorem mv_fun {mv : List (Str × Str)} (h : (mv.map (·.1)).Nodup) {s t u : Str} (h1 : (s, t) ∈ mv) (h2 : (s, u) ∈ mv) : t = u := by
  induction mv with
  | nil => cases h1
  | cons a r ih =>
    rw [List.map_cons, List.nodup_cons] at h
    rcases List.mem_cons.mp h1 with e1 | e1 <;> rcases List.mem_cons.mp h2 with e2 | e2
    · have := e1.trans e2.symm
      exact (Prod.mk.inj this).2
    · exact absurd (List.mem_map.mpr ⟨(s, u), e2, by rw [← e1]⟩) h.1
    · exact absurd (List.mem_map.mpr ⟨(s, t), e1, by rw [← e2]⟩) h.1
    · exact ih h.2 e1 e2
/-- what the two loops keep: fs found, the i-th looked at, j deeds of it done -/
structure RInv (es : List Dd) (st U fs : List Str) (i j : Nat) : Prop where
  ex : ∃ news : List Str, fs = st ++ news ∧ news.Nodup ∧ ∀ s ∈ news, s ∈ U
  ok : ∀ s ∈ fs, Reach es (· ∈ st) s
  done : ∀ k, k < i → ∀ s, fs[k]? = some s → ∀ d ∈ es, ∀ t, (s, t) ∈ d.mv → t ∈ fs
  part : ∀ s, fs[i]? = some s → ∀ k, k < j → ∀ d, es[k]? = some d → ∀ t, (s, t) ∈ d.mv → t ∈ fs
section
variable {es : List Dd} {st U fs : List Str} {i j : Nat}
theorem rinv_start : RInv es st U st 0 0 := ⟨⟨[], by simp, List.nodup_nil, fun s h => nomatch h⟩, fun s h => .base h, fun k h => absurd h (Nat.not_lt_zero _), fun s _ k h => absurd h (Nat.not_lt_zero _)⟩
theorem rinv_len (h : RInv es st U fs i j) : fs.length ≤ st.length + U.length := by
  obtain ⟨news, e, n, u⟩ := h.ex
  rw [e, List.length_append]
  have : news.length ≤ U.length := nodup_len n u
  omega
theorem rinv_old (h : RInv es st U fs i j) {d : Dd} (hd : es[j]? = some d) (hp : ∀ s, fs[i]? = some s → ∀ t, (s, t) ∈ d.mv → t ∈ fs) : RInv es st U fs i (j + 1) := by
  refine ⟨h.ex, h.ok, h.done, fun s hs k hk e he t ht => ?_⟩
  rcases Nat.lt_or_ge k j with q | q
  · exact h.part s hs k q e he t ht
  · obtain rfl : k = j := by omega
    rw [hd] at he
    cases he
    exact hp s hs t ht
theorem rinv_new (h : RInv es st U fs i j) {d : Dd} {s t : Str} (hd : es[j]? = some d) (hs : fs[i]? = some s) (hp : (s, t) ∈ d.mv) (hn : (d.mv.map (·.1)).Nodup) (hU : t ∈ U) (hf : t ∉ fs) : RInv es st U (fs ++ [t]) i (j + 1) := by
  have hi := (List.getElem?_eq_some_iff.mp hs).1
  have old : ∀ k s', k ≤ i → (fs ++ [t])[k]? = some s' → fs[k]? = some s' := fun k s' hk e => by
    rw [List.getElem?_append_left (by omega)] at e
    exact e
  obtain ⟨news, e, n, u⟩ := h.ex
  refine ⟨⟨news ++ [t], by rw [e, List.append_assoc], ?_, fun x hx => ?_⟩, fun x hx => ?_, fun k hk x hx e he y hy => ?_, fun x hx k hk e he y hy => ?_⟩
  · refine List.nodup_append.mpr ⟨n, List.nodup_cons.mpr ⟨List.not_mem_nil, List.nodup_nil⟩, fun a ha b hb hab => ?_⟩
    rw [List.mem_singleton.mp hb] at hab
    rw [hab] at ha
    exact hf (by rw [e]; exact List.mem_append_right _ ha)
  · rcases List.mem_append.mp hx with z | z
    · exact u x z
    · rw [List.mem_singleton.mp z]; exact hU
  · rcases List.mem_append.mp hx with z | z
    · exact h.ok x z
    · rw [List.mem_singleton.mp z]
      exact .step (h.ok s (List.mem_of_getElem? hs)) (List.mem_of_getElem? hd) hp
  · exact List.mem_append_left _ (h.done k hk x (old k x (Nat.le_of_lt hk) hx) e he y hy)
  · have hx' := old i x (Nat.le_refl _) hx
    rcases Nat.lt_or_ge k j with q | q
    · exact List.mem_append_left _ (h.part x hx' k q e he y hy)
    · obtain rfl : k = j := by omega
      rw [hd] at he
      cases he
      rw [hs] at hx'
      cases hx'
      rw [mv_fun hn hy hp]
      exact List.mem_append_right _ (List.mem_singleton.mpr rfl)
theorem rinv_next (h : RInv es st U fs i es.length) : RInv es st U fs (i + 1) 0 := by
  refine ⟨h.ex, h.ok, fun k hk s hs d hd t ht => ?_, fun s _ k hk => absurd hk (Nat.not_lt_zero _)⟩
  rcases Nat.lt_or_ge k i with q | q
  · exact h.done k q s hs d hd t ht
  · obtain rfl : k = i := by omega
    obtain ⟨m, hm⟩ := List.mem_iff_getElem?.mp hd
    exact h.part s hs m (List.getElem?_eq_some_iff.mp hm).1 d hm t ht
theorem rinv_end (h : RInv es st U fs i j) (hi : fs.length ≤ i) (s : Str) : s ∈ fs ↔ Reach es (· ∈ st) s := by
  refine ⟨h.ok s, reach_closed (fun x hx => ?_) (fun x hx d hd t ht => ?_)⟩
  · obtain ⟨news, e, _⟩ := h.ex
    rw [e]
    exact List.mem_append_left _ hx
  · obtain ⟨k, hk⟩ := List.mem_iff_getElem?.mp hx
    exact h.done k (Nat.lt_of_lt_of_le (List.getElem?_eq_some_iff.mp hk).1 hi) x hk d hd t ht
end
/-- the columns that a deed writes -/
def wrote (cols : List Str) (d : Dd) : List Str := if d.k = .mk then cols else d.own
def closes (cols : List Str) (col : Str) (d : Dd) : Bool := decide (d.k = .en) || decide (col ∈ wrote cols d)
/-- the states behind a deed -/
def Behind (ds : List Dd) (d : Dd) (t : Str) : Prop := ∃ s, Reach ds (· = "") s ∧ (s, t) ∈ d.mv
/-- a succession -/
def Succ (cols : List Str) (ds : List Dd) (col : Str) (p : Str × Str) : Prop :=
  ∃ d ∈ ds, ∃ e ∈ ds, p = (d.nm, e.nm) ∧ col ∈ wrote cols d ∧ closes cols col e = true ∧ ∃ u, Reach (ds.filter fun x => !closes cols col x) (Behind ds d) u ∧ u ∈ e.mv.map (·.1)
theorem succ_perm {cols : List Str} {ds es : List Dd} {col : Str} {p : Str × Str} (h : ∀ d, d ∈ ds ↔ d ∈ es) (q : Succ cols ds col p) : Succ cols es col p := by
  obtain ⟨d, hd, e, he, hp, hw, hc, u, hu, hm⟩ := q
  refine ⟨d, (h d).1 hd, e, (h e).1 he, hp, hw, hc, u, reach_mono (fun x hx => ?_) (fun t ⟨s, hs, ht⟩ => ⟨s, reach_mono (fun x hx => (h x).1 hx) (fun _ z => z) hs, ht⟩) hu, hm⟩
  rw [List.mem_filter] at hx ⊢
  exact ⟨(h x).1 hx.1, hx.2⟩
/-! ### the law's way: rounds over all the moves -/
structure WInv (ds : List Dd) (st U fs : List Str) (r : Nat) (D : Str × Str → Prop) : Prop where
  ex : ∃ news : List Str, fs = st ++ news ∧ news.Nodup ∧ (∀ s ∈ news, s ∈ U) ∧ ((∀ d ∈ ds, ∀ p ∈ d.mv, p.1 ∈ fs → p.2 ∈ fs) ∨ r < news.length ∨ (r ≤ news.length ∧ ∀ p, D p → p.1 ∈ fs → p.2 ∈ fs))
  ok : ∀ s ∈ fs, Reach ds (· ∈ st) s
section
variable {ds : List Dd} {st U fs : List Str} {r : Nat} {D D' : Str × Str → Prop}
theorem winv_start : WInv ds st U st 0 (fun _ => False) := ⟨⟨[], by simp, List.nodup_nil, fun s h => (nomatch h), .inr (.inr ⟨Nat.le_refl _, fun _ h => h.elim⟩)⟩, fun s h => .base h⟩
theorem winv_len (h : WInv ds st U fs r D) : fs.length ≤ st.length + U.length := by
  obtain ⟨news, e, n, u, _⟩ := h.ex
  rw [e, List.length_append]
  have : news.length ≤ U.length := nodup_len n u
  omega
theorem winv_mono (h : WInv ds st U fs r D) (hD : ∀ q, D' q → D q) : WInv ds st U fs r D' := by
  obtain ⟨news, e, n, u, c⟩ := h.ex
  exact ⟨⟨news, e, n, u, c.imp_right fun c => c.imp_right fun ⟨c1, c2⟩ => ⟨c1, fun p hp => c2 p (hD p hp)⟩⟩, h.ok⟩
theorem winv_skip (h : WInv ds st U fs r D) {p : Str × Str} (hp : p.1 ∈ fs → p.2 ∈ fs) : WInv ds st U fs r (fun q => D q ∨ q = p) := by
  obtain ⟨news, e, n, u, c⟩ := h.ex
  refine ⟨⟨news, e, n, u, c.imp_right fun c => c.imp_right fun ⟨c1, c2⟩ => ⟨c1, fun q hq => ?_⟩⟩, h.ok⟩
  rcases hq with hq | rfl
  · exact c2 q hq
  · exact hp
theorem winv_add (h : WInv ds st U fs r D) {p : Str × Str} {d : Dd} (hd : d ∈ ds) (hp : p ∈ d.mv) (h1 : p.1 ∈ fs) (h2 : p.2 ∉ fs) (hU : p.2 ∈ U) : WInv ds st U (fs ++ [p.2]) r (fun q => D q ∨ q = p) := by
  obtain ⟨news, e, n, u, c⟩ := h.ex
  refine ⟨⟨news ++ [p.2], by rw [e, List.append_assoc], ?_, fun x hx => ?_, ?_⟩, fun x hx => ?_⟩
  · refine List.nodup_append.mpr ⟨n, List.nodup_cons.mpr ⟨List.not_mem_nil, List.nodup_nil⟩, fun a ha b hb hab => ?_⟩
    rw [List.mem_singleton.mp hb] at hab
    rw [hab] at ha
    exact h2 (by rw [e]; exact List.mem_append_right _ ha)
  · rcases List.mem_append.mp hx with z | z
    · exact u x z
    · rw [List.mem_singleton.mp z]; exact hU
  · rw [List.length_append, List.length_singleton]
    rcases c with c | c | ⟨c, _⟩
    · exact absurd (c d hd p hp h1) h2
    · exact .inr (.inl (by omega))
    · exact .inr (.inl (by omega))
  · rcases List.mem_append.mp hx with z | z
    · exact h.ok x z
    · rw [List.mem_singleton.mp z]
      exact .step (h.ok _ h1) hd hp
theorem winv_round (h : WInv ds st U fs r D) (hD : ∀ d ∈ ds, ∀ p ∈ d.mv, D p) : WInv ds st U fs (r + 1) (fun _ => False) := by
  obtain ⟨news, e, n, u, c⟩ := h.ex
  refine ⟨⟨news, e, n, u, ?_⟩, h.ok⟩
  rcases c with c | c | ⟨c, c2⟩
  · exact .inl c
  · exact .inr (.inr ⟨c, fun _ h => h.elim⟩)
  · exact .inl fun d hd p hp => c2 p (hD d hd p hp)
theorem winv_end (h : WInv ds st U fs r D) (hr : U.length < r) (s : Str) : s ∈ fs ↔ Reach ds (· ∈ st) s := by
  obtain ⟨news, e, n, u, c⟩ := h.ex
  have hl : news.length ≤ U.length := nodup_len n u
  have hC : ∀ d ∈ ds, ∀ p ∈ d.mv, p.1 ∈ fs → p.2 ∈ fs := by
    rcases c with c | c | ⟨c, _⟩
    · exact c
    · omega
    · omega
  refine ⟨h.ok s, reach_closed (fun x hx => ?_) (fun x hx d hd t ht => hC d hd _ ht hx)⟩
  rw [e]
  exact List.mem_append_left _ hx
end
end K59
/-! D13 -/
set_option Elab.async false
set_option linter.all false
set_option maxRecDepth 100000
set_option maxHeartbeats 2000000
namespace K59
open PySem PySem.Spec PyProof.Rows L2 LamX
section
variable {P : Program} {w : World} {K : PySem.W.Frag} {mg : Str → Option Value} {base : Heap}
abbrev s_Book_iter : Stmt := inClass (top 58) 4
abbrev N_Book_iter : List Str := ["self"]
theorem sc_Book_iter : FnScope N_Book_iter ["self"] (defScope s_Book_iter) := ⟨rfl, rfl, rfl, by decide +kernel, rfl, by decide +kernel, by decide +kernel⟩
abbrev s_Book_len : Stmt := inClass (top 58) 3
abbrev N_Book_len : List Str := ["self"]
theorem sc_Book_len : FnScope N_Book_len ["self"] (defScope s_Book_len) := ⟨rfl, rfl, rfl, by decide +kernel, rfl, by decide +kernel, by decide +kernel⟩
abbrev s_Book_getitem : Stmt := inClass (top 58) 6
abbrev N_Book_getitem : List Str := ["self", "thing", "deed"]
theorem sc_Book_getitem : FnScope N_Book_getitem ["self", "thing"] (defScope s_Book_getitem) := ⟨rfl, rfl, rfl, by decide +kernel, rfl, by decide +kernel, by decide +kernel⟩
abbrev s_Book_writes : Stmt := inClass (top 58) 7
abbrev N_Book_writes : List Str := ["self", "name", "deed"]
theorem sc_Book_writes : FnScope N_Book_writes ["self", "name"] (defScope s_Book_writes) := ⟨rfl, rfl, rfl, by decide +kernel, rfl, by decide +kernel, by decide +kernel⟩
abbrev s_Deed_allowed : Stmt := inClass (top 32) 4
abbrev N_Deed_allowed : List Str := ["self", "state", "move"]
theorem sc_Deed_allowed : FnScope N_Deed_allowed ["self", "state"] (defScope s_Deed_allowed) := ⟨rfl, rfl, rfl, by decide +kernel, rfl, by decide +kernel, by decide +kernel⟩
abbrev s_Deed_after : Stmt := inClass (top 32) 5
abbrev N_Deed_after : List Str := ["self", "state", "one", "two"]
theorem sc_Deed_after : FnScope N_Deed_after ["self", "state"] (defScope s_Deed_after) := ⟨rfl, rfl, rfl, by decide +kernel, rfl, by decide +kernel, by decide +kernel⟩
theorem ok_Book_iter (T : Tx2 P K mg) : ItFn P w K mg base 1 (He.fAd K ("Book", some "__iter__")) (He.ga K "Book") "deeds" := by
  obtain ⟨fd, F⟩ := T.f_Book_iter
  have hb := F.bindsN (ps := ["self"]) (fun _ _ _ _ _ _ us hl => match us, hl with | [_], _ => rfl)
  obtain ⟨oc, od, dV, kV, doc, pm, an, cdv, ct, osl, rfl, lk, hcd, _, _⟩ := F.ex
  intro A outer s H a dx l fs zs hr e0 ha hf hl
  have KX : K.In s.heap := e0.mod.kin.keeps fun b o e => (e0.bs b o e).1
  refine run_ofS (E := E0) (vs := [.ref a]) (us := [.ref a]) lk hcd sc_Book_iter hr e0 (by have := hb s [.ref a] KX rfl; simpa using this) (.cons (show RelV (.ref a) (.ref a) from rfl) .nil) rfl fun hr' => ?_
  have main : ∃ t, PSs (cxOf CX0 P w K mg base N_Book_iter "Book.__iter__" (defScope s_Book_iter) (He.fAd K ("Book", some "__iter__")) cdv A outer s H E0).nox (defBody s_Book_iter) t ∧
      t { nx := fun _ H' => ∃ it, V.non = .ref it ∧ s.heap.objs.size ≤ it ∧ H it = none ∧ H' = upd H it (ItO l it 0), rt := fun v H' => ∃ it, v = .ref it ∧ s.heap.objs.size ≤ it ∧ H it = none ∧ H' = upd H it (ItO l it 0) } (L2.start N_Book_iter [.ref a]) H := by
    refine ⟨_, 
    (pss_one (ps_ret (pe_callB ItX.call_iterN (by rfl) T.n_iter (by decide +kernel) (pa_cons (pe_fldK K (pv 0)) pa_nil)))), ?_⟩
    exact ⟨_, rfl, a, _, dx, fs, _, rfl, ha, T.c_Book, T.a_Book_deeds, hf, l, zs, rfl, hl, fun it hn hsz => ⟨it, rfl, hsz, hn, rfl⟩⟩
  obtain ⟨t, ht, hq⟩ := main
  exact ⟨t, ht.nox, hq⟩
theorem ok_Book_len (T : Tx2 P K mg) : OkR P w K mg base 1 (He.fAd K ("Book", some "__len__")) (spLenO K (He.ga K "Book") "deeds") := by
  refine mkR T.f_Book_len sc_Book_len (fun vs H Q E h => ?_) (fun _ _ _ _ _ _ us hl => match us, hl with | [_], _ => rfl) fun cdv A outer s H vs Q E hr h => ?_
  · obtain ⟨_, _, _, _, _, rfl, _⟩ := h
    rfl
  · obtain ⟨a, dx, fs, l, zs, rfl, ha, hf, hl, k⟩ := h
    refine ⟨_, 
    (pss_one (ps_ret (pe_callB (lenK K) (by rfl) T.n_len (by decide +kernel) (pa_cons (pe_fldK K (pv 0)) pa_nil)))), ?_⟩
    exact ⟨_, rfl, a, _, dx, fs, _, rfl, ha, T.c_Book, T.a_Book_deeds, hf, l, zs, rfl, .inl hl, k⟩
/-- book[name] -/
def sp_Book_getitem (K : PySem.W.Frag) : Sp := fun vs H Q _ => ∃ (v : V) (cols : List Str) (ds : List Dd) (d : Dd), vs = [v, .str d.nm] ∧ BookAt K H cols ds v ∧ d ∈ ds ∧ (ds.map (·.nm)).Nodup ∧ ∀ u, DeedAt K H cols d u → Q u H
theorem nm_inj {ds : List Dd} {d e : Dd} (h : (ds.map (·.nm)).Nodup) (hd : d ∈ ds) (he : e ∈ ds) (hn : e.nm = d.nm) : e = d := by
  induction ds with
  | nil => cases hd
  | cons a r ih =>
    rw [List.map_cons, List.nodup_cons] at h
    rcases List.mem_cons.mp hd with h1 | h1 <;> rcases List.mem_cons.mp he with h2 | h2
    · rw [h1, h2]
    · exact absurd (List.mem_map.mpr ⟨e, h2, by rw [hn, h1]⟩) h.1
    · exact absurd (List.mem_map.mpr ⟨d, h1, by rw [← hn, h2]⟩) h.1
    · exact ih h.2 h1 h2
theorem ok_Book_getitem (T : Tx2 P K mg) : OkR P w K mg base 1 (He.fAd K ("Book", some "__getitem__")) (sp_Book_getitem K) := by
  refine mkR T.f_Book_getitem sc_Book_getitem (fun vs H Q E h => ?_) (fun _ _ _ _ _ _ us hl => match us, hl with | [_, _], _ => rfl) fun cdv A outer s H vs Q E hr h => ?_
  · obtain ⟨_, _, _, _, rfl, _⟩ := h
    rfl
  · obtain ⟨v, cols, ds, d, rfl, hb, hd, hnd, k⟩ := h
    refine ⟨_, 
    (pss_cons (ps_for PassesOwn.never rfl (pi_listK K (pe_fldK K (pv 0))) (pg_name (i := 2) sc_Book_getitem.nd rfl (Or.inl rfl)) 
      (pss_one (ps_if (PW.pt (pw_and (pt_val (pe_callB (isiC K) (by rfl) T.n_isinstance (by decide +kernel) (pa_cons (pv 1) (pa_cons (pe_bltn (v := .ty "str") (by rfl) T.n_str (by decide +kernel) rfl) pa_nil))) (by intro _; rfl)) (pw_and1 (pt_cmpR op_eq (pe_fldK K (pv 2)) (pv 1) (nomark _))))) 
        (pss_one (ps_ret (pv 2))) pss_nil))) 
    (pss_one ps_never)), ?_⟩
    obtain ⟨x, dx, ac, ast, ad, an, kv, cs, zs, es, rfl, hx, hc, pc, hl, hds, pe⟩ := hb.ex
    obtain ⟨j, hj⟩ := List.mem_iff_getElem?.mp (pe.mem_iff.mpr hd)
    obtain ⟨u, hu, hDu⟩ := paired_get2 hds hj
    have hjl := (List.getElem?_eq_some_iff.mp hu).1
    refine ⟨_, rfl, x, _, dx, _, _, rfl, hx, T.c_Book, T.a_Book_deeds, rfl, ad, rfl, ⟨_, hl⟩, for_lst (K := K) (a := ad) (xs := zs) (fun i σ H1 => ∃ v2, σ = [some (.ref x), some (.str d.nm), v2] ∧ H1 = H ∧ i ≤ j) ⟨_, rfl, rfl, Nat.zero_le _⟩ (fun i σ H1 _ ⟨_, _, e, _⟩ => e ▸ hl) ?_ ?_⟩
    · rintro i y σ H1 hi ⟨v2, rfl, rfl, hij⟩
      obtain ⟨e, he, hDe⟩ := paired_get hds hi
      obtain ⟨a, da, m, c, mvs, mv, own, nv, rfl, ha, _⟩ := id hDe.ex
      refine ⟨_, rfl, _, _, _, _, true, rfl, ClsV.ty _, TyX.base (TyOf.str _), kit_ty (by decide +kernel), _, rfl, iteT ?_⟩
      refine ⟨_, rfl, a, _, da, _, _, rfl, ha, cls_deed T.toTx1 e.k, na_name T.toTx1 e.k, rfl, _, rfl, rfl, _, rfl, ?_⟩
      by_cases hn : e.nm = d.nm
      · have hee := nm_inj hnd hd (pe.mem_iff.mp (List.mem_of_getElem? he)) hn
        subst hee
        exact iteB (decide_eq_true (by rw [hn])) ⟨_, rfl, k _ hDe⟩
      · refine iteN (decide_eq_false fun h => hn (V.str.inj h)) ⟨_, rfl, rfl, ?_⟩
        rcases Nat.lt_or_ge i j with h | h
        · exact h
        · obtain rfl : i = j := Nat.le_antisymm hij h
          rw [hj] at he
          cases he
          exact absurd rfl hn
    · rintro σ H1 ⟨v2, rfl, rfl, hij⟩
      omega
/-- book.writes(name) -/
def sp_Book_writes (K : PySem.W.Frag) : Sp := fun vs H Q _ => ∃ (v : V) (cols : List Str) (ds : List Dd) (d : Dd), vs = [v, .str d.nm] ∧ BookAt K H cols ds v ∧ d ∈ ds ∧ (ds.map (·.nm)).Nodup ∧ ∀ (p : Addr) (ys : List Str), SqT K H p (ys.map V.str) → ys.Perm (wrote cols d) → Q (.ref p) H
theorem ok_Book_writes (T : Tx2 P K mg) : OkR P w K mg base 3 (He.fAd K ("Book", some "writes")) (sp_Book_writes K) := by
  have G_Book_getitem : OkR P w K mg base 1 (He.fAd K ("Book", some "__getitem__")) (sp_Book_getitem K) := ok_Book_getitem T
  refine mkR T.f_Book_writes sc_Book_writes (fun vs H Q E h => ?_) (fun _ _ _ _ _ _ us hl => match us, hl with | [_, _], _ => rfl) fun cdv A outer s H vs Q E hr h => ?_
  · obtain ⟨_, _, _, _, rfl, _⟩ := h
    rfl
  · obtain ⟨v, cols, ds, d, rfl, hb, hd, hnd, k⟩ := h
    refine ⟨_, 
    (pss_cons (ps_set (i := 2) sc_Book_writes.nd rfl (Or.inl rfl) (pe_own T.m_Book_getitem (fnIn_of T.f_Book_getitem) G_Book_getitem (hr.mono (by decide)) (pv 0) (pv 1) (fun _ _ => rfl))) 
    (pss_one (ps_ret (pe_ifExp (pt_val (pe_callB (isiC K) (by rfl) T.n_isinstance (by decide +kernel) (pa_cons (pv 2) (pa_cons (pe_glob (v := .ref (He.ga K "Make")) rfl T.g_Make rfl) pa_nil))) (by intro _; rfl)) (pe_fldK K (pv 0)) (pe_fldK K (pv 2)))))), ?_⟩
    obtain ⟨x, dx, ac, ast, ad, an, kv, cs, zs, es, rfl, hx, hc, pc, hl, hds, pe⟩ := id hb.ex
    refine ⟨_, rfl, _, rfl, x, dx, _, rfl, hx, _, cols, ds, d, rfl, hb, hd, hnd, fun u hu => ?_⟩
    obtain ⟨a, da, m, c, mvs, mv, own, nv, rfl, ha, h1, h2, h3, h4, h5, _⟩ := hu.ex
    refine ⟨_, rfl, _, _, _, _, decide (d.k = .mk), rfl, ClsV.own _, tyx_deed T.toTx1 ha, kit_deed T.toTx1 d.k .mk, _, rfl, ?_⟩
    by_cases hk : d.k = .mk
    · exact iteB (decide_eq_true hk) ⟨_, rfl, x, _, dx, _, _, rfl, hx, T.c_Book, T.a_Book_columns, rfl, k ac cs hc (by unfold wrote; rw [if_pos hk]; exact pc)⟩
    · exact iteN (decide_eq_false hk) ⟨_, rfl, a, _, da, _, _, rfl, ha, cls_deed T.toTx1 d.k, na_columns T.toTx1 d.k, rfl, k c own h4 (by unfold wrote; rw [if_neg hk]; exact h5)⟩
/-! ### deeds -/
def sp_allowed (K : PySem.W.Frag) : Sp := fun vs H Q _ => ∃ (v : V) (cols : List Str) (d : Dd) (st : Str), vs = [v, .str st] ∧ DeedAt K H cols d v ∧ d.mv.length ≤ 3 ∧ ∀ H', Same H H' → Q (.bl (decide (st ∈ d.mv.map (·.1)))) H'
theorem ok_allowed (T : Tx2 P K mg) {p : Str × Option Str} (F : HasFn K p "allowed" "Deed.allowed" (inClass (top 32) 4) [] []) : OkR P w K mg base 1 (He.fAd K p) (sp_allowed K) := by
  refine mkR F sc_Deed_allowed (fun vs H Q E h => ?_) (fun _ _ _ _ _ _ us hl => match us, hl with | [_, _], _ => rfl) fun cdv A outer s H vs Q E hr h => ?_
  · obtain ⟨_, _, _, _, rfl, _⟩ := h
    rfl
  · obtain ⟨v, cols, d, st, rfl, hD, h3, k⟩ := h
    refine ⟨_, 
    (pss_one (ps_ret (pe_and (pe_callB (isiC K) (by rfl) T.n_isinstance (by decide +kernel) (pa_cons (pv 1) (pa_cons (pe_bltn (v := .ty "str") (by rfl) T.n_str (by decide +kernel) rfl) pa_nil))) (pe_one (pe_cmpR (inK K) (pv 1) (pe_lc (own := [("move", 2)]) (by rfl) sc_Deed_allowed.nd (pi_tupK K (pe_fldK K (pv 0))) (blkOk_by (own := [("move", 2)]) (N := N_Deed_allowed) (sc := (defScope s_Deed_allowed)) (by decide +kernel)) (fun _ _ _ _ _ => (pg_name (i := 2) sc_Deed_allowed.nd rfl (Or.inl rfl))) (fun _ _ _ _ _ => pts_nil) (fun _ _ _ _ _ => (pe_ix (ix_tupK K) (pv 2) pe_int (fun _ _ => rfl)))) (by rfl)))))), ?_⟩
    obtain ⟨a, da, m, c, mvs, mv, own, nv, rfl, ha, hm, hmv, pm, _⟩ := hD.ex
    refine ⟨_, rfl, _, _, _, _, true, rfl, ClsV.ty _, TyX.base (TyOf.str _), kit_ty (by decide +kernel), _, rfl, iteT ?_⟩
    refine ⟨_, rfl, _, rfl, a, _, da, _, _, rfl, ha, cls_deed T.toTx1 d.k, na_moves T.toTx1 d.k, rfl, m, rfl, ⟨_, hm⟩, fun D hDn => ?_⟩
    have hml : mvs.length = mv.length := by
      have := dpa_len hmv
      rw [List.length_map] at this
      exact this
    refine lc_tup (K := K) (a := m) (xs := mvs) (Gr H D fun i acc _ => acc = ((mv.map (·.1)).take i).map V.str) (gr_start hDn rfl) (fun i H5 _ G => same_tup G.ext hm) ?_ ?_
    · rintro i y H5 hi G
      obtain ⟨pr, t, hpr, rfl, ht⟩ := dpa_pairs_get hmv hi
      have hlt := (List.getElem?_eq_some_iff.mp hpr).1
      have hl3 : mv.length ≤ 3 := by rw [pm.length_eq]; exact h3
      refine ⟨rfl, _, rfl, t, _, _, _, rfl, rfl, same_tup G.ext ht, atI_nat (j := 0) rfl, ?_⟩
      refine gr_add G (Same.refl _) (by omega) (fun _ _ _ _ _ h => h) fun acc h => ?_
      have hq : (mv.map (·.1))[i]? = some pr.1 := by rw [List.getElem?_map, hpr]; rfl
      rw [take_at hq, List.map_append, ← h]
      rfl
    · rintro H5 ⟨hD5, e5, acc, hacc, _, hd2⟩
      have hfull : ((mv.map (·.1)).take mvs.length) = mv.map (·.1) := List.take_of_length_le (by rw [List.length_map, hml]; exact Nat.le_refl _)
      rw [hfull] at hd2
      rw [hd2] at hacc
      refine ⟨D, _, rfl, .inl (SqL.of hacc), rfl, flat_strs _, ?_⟩
      rw [inV_strs]
      have e : decide (st ∈ mv.map (·.1)) = decide (st ∈ d.mv.map (·.1)) := by
        rw [decide_eq_decide]
        exact (pm.map _).mem_iff
      rw [e]
      exact k _ e5
def sp_after (K : PySem.W.Frag) : Sp := fun vs H Q _ => ∃ (v : V) (cols : List Str) (d : Dd) (st : Str), vs = [v, .str st] ∧ DeedAt K H cols d v ∧ st ∈ d.mv.map (·.1) ∧ ∀ t, (st, t) ∈ d.mv → Q (.str t) H
theorem ok_after (T : Tx2 P K mg) {p : Str × Option Str} (F : HasFn K p "after" "Deed.after" (inClass (top 32) 5) [] []) : OkR P w K mg base 1 (He.fAd K p) (sp_after K) := by
  refine mkR F sc_Deed_after (fun vs H Q E h => ?_) (fun _ _ _ _ _ _ us hl => match us, hl with | [_, _], _ => rfl) fun cdv A outer s H vs Q E hr h => ?_
  · obtain ⟨_, _, _, _, rfl, _⟩ := h
    rfl
  · obtain ⟨v, cols, d, st, rfl, hD, hst, k⟩ := h
    refine ⟨_, 
    (pss_cons (ps_for PassesOwn.never rfl (pi_tupK K (pe_fldK K (pv 0))) (pg_tupK (n := 2) K (by rfl) (pgs_cons (pg_name (i := 2) sc_Deed_after.nd rfl (Or.inl rfl)) (pgs_cons (pg_name (i := 3) sc_Deed_after.nd rfl (Or.inl rfl)) pgs_nil))) 
      (pss_one (ps_if (PW.pt (pw_and (pt_val (pe_callB (isiC K) (by rfl) T.n_isinstance (by decide +kernel) (pa_cons (pv 1) (pa_cons (pe_bltn (v := .ty "str") (by rfl) T.n_str (by decide +kernel) rfl) pa_nil))) (by intro _; rfl)) (pw_and1 (pt_cmpR op_eq (pv 2) (pv 1) (nomark _))))) 
        (pss_one (ps_ret (pv 3))) pss_nil))) 
    (pss_one ps_never)), ?_⟩
    obtain ⟨a, da, m, c, mvs, mv, own, nv, rfl, ha, hm, hmv, pm, _⟩ := hD.ex
    obtain ⟨pr, hpr, hp1⟩ := List.mem_map.mp hst
    obtain ⟨j, hj⟩ := List.mem_iff_getElem?.mp (pm.mem_iff.mpr hpr)
    have hml : mvs.length = mv.length := by
      have := dpa_len hmv
      rw [List.length_map] at this
      exact this
    have hjl := (List.getElem?_eq_some_iff.mp hj).1
    refine ⟨_, rfl, a, _, da, _, _, rfl, ha, cls_deed T.toTx1 d.k, na_moves T.toTx1 d.k, rfl, m, rfl, ⟨_, hm⟩, for_tup (K := K) (a := m) (xs := mvs) (fun i σ H1 => ∃ v2 v3, σ = [some (.ref a), some (.str st), v2, v3] ∧ H1 = H ∧ i ≤ j) ⟨_, _, rfl, rfl, Nat.zero_le _⟩ (fun i σ H1 _ ⟨_, _, _, e, _⟩ => e ▸ hm) ?_ ?_⟩
    · rintro i y σ H1 hi ⟨v2, v3, rfl, rfl, hij⟩
      obtain ⟨q, t, hq, rfl, ht⟩ := dpa_pairs_get hmv hi
      refine ⟨t, _, rfl, ht, rfl, _, _, rfl, _, _, rfl, rfl, ?_⟩
      refine ⟨_, rfl, _, _, _, _, true, rfl, ClsV.ty _, TyX.base (TyOf.str _), kit_ty (by decide +kernel), _, rfl, iteT ?_⟩
      refine ⟨_, rfl, _, rfl, rfl, _, rfl, ?_⟩
      by_cases hn : q.1 = st
      · refine iteB (decide_eq_true (by rw [hn])) ⟨_, rfl, k _ ?_⟩
        rw [← hn]
        exact pm.mem_iff.mp (List.mem_of_getElem? hq)
      · refine iteN (decide_eq_false fun h => hn (V.str.inj h)) ⟨_, _, rfl, rfl, ?_⟩
        rcases Nat.lt_or_ge i j with h | h
        · exact h
        · obtain rfl : i = j := Nat.le_antisymm hij h
          rw [hj] at hq
          cases hq
          exact absurd hp1 hn
    · rintro σ H1 ⟨v2, v3, rfl, rfl, hij⟩
      omega
/-- deed.allowed, deed.after: by the deed's own kind -/
theorem M_allowed' (T : Tx2 P K mg) : ∀ kd : Kd, Cls K (clsA K kd) ∧ ∃ f, Meth K (clsA K kd) "allowed" f ∧ OkR P w K mg base 1 f (sp_allowed K)
  | .mk => ⟨T.c_Make, _, T.m_Make_allowed, ok_allowed T T.f_Make_allowed⟩
  | .ch => ⟨T.c_Change, _, T.m_Change_allowed, ok_allowed T T.f_Change_allowed⟩
  | .en => ⟨T.c_End, _, T.m_End_allowed, ok_allowed T T.f_End_allowed⟩
theorem M_after' (T : Tx2 P K mg) : ∀ kd : Kd, Cls K (clsA K kd) ∧ ∃ f, Meth K (clsA K kd) "after" f ∧ OkR P w K mg base 1 f (sp_after K)
  | .mk => ⟨T.c_Make, _, T.m_Make_after, ok_after T T.f_Make_after⟩
  | .ch => ⟨T.c_Change, _, T.m_Change_after, ok_after T T.f_Change_after⟩
  | .en => ⟨T.c_End, _, T.m_End_after, ok_after T T.f_End_after⟩
end
end K59
/-! D14 -/
set_option Elab.async false
set_option linter.all false
set_option maxRecDepth 100000
set_option maxHeartbeats 2000000
namespace K59
open PySem PySem.Spec PyProof.Rows L2 LamX
section
variable {P : Program} {w : World} {K : PySem.W.Frag} {mg : Str → Option Value} {base : Heap}
abbrev s_reached : Stmt := top 39
abbrev N_reached : List Str := ["states", "deeds", "found", "at", "deed", "state"]
theorem sc_reached : FnScope N_reached ["states", "deeds"] (defScope s_reached) := ⟨rfl, rfl, rfl, by decide +kernel, rfl, by decide +kernel, by decide +kernel⟩
abbrev s_is_closing : Stmt := top 40
abbrev N_is_closing : List Str := ["book", "deed", "column"]
theorem sc_is_closing : FnScope N_is_closing ["book", "deed", "column"] (defScope s_is_closing) := ⟨rfl, rfl, rfl, by decide +kernel, rfl, by decide +kernel, by decide +kernel⟩
def sp_check_column (K : PySem.W.Frag) : Sp := fun vs H Q _ => ∃ (v : V) (cols : List Str) (ds : List Dd) (c : Str), vs = [v, .str c] ∧ BookAt K H cols ds v ∧ c ∈ cols ∧ Q .non H
theorem ok_check_column (T : Tx2 P K mg) : OkR P w K mg base 1 (He.fAd K ("check_column", none)) (sp_check_column K) := by
  refine mkR T.f_check_column sc_check_column (fun vs H Q E h => ?_) (fun _ _ _ _ _ _ us hl => match us, hl with | [_, _], _ => rfl) fun cdv A outer s H vs Q E hr h => ?_
  · obtain ⟨_, _, _, _, rfl, _⟩ := h
    rfl
  · obtain ⟨v, cols, ds, c, rfl, hb, hc, k⟩ := h
    refine ⟨_, 
    (pss_one (ps_if (PW.pt (pw_or (pt_not (pt_val (pe_callB (isiC K) (by rfl) T.n_isinstance (by decide +kernel) (pa_cons (pv 1) (pa_cons (pe_bltn (v := .ty "str") (by rfl) T.n_str (by decide +kernel) rfl) pa_nil))) (by intro _; rfl))) (pw_or1 (pt_cmpR (notInK K) (pv 1) (pe_fldK K (pv 0)) (by rfl))))) 
      (pss_one ps_never) pss_nil)), ?_⟩
    obtain ⟨x, dx, ac, ast, ad, an, kv, cs, zs, es, rfl, hx, hcs, pc, _⟩ := hb.ex
    refine ⟨_, rfl, _, _, _, _, true, rfl, ClsV.ty _, TyX.base (TyOf.str _), kit_ty (by decide +kernel), _, rfl, iteF ?_⟩
    refine ⟨_, rfl, _, rfl, x, _, dx, _, _, rfl, hx, T.c_Book, T.a_Book_columns, rfl, ac, _, rfl, .inr hcs, rfl, flat_strs cs, _, rfl, ?_⟩
    rw [inV_strs, decide_eq_true (pc.mem_iff.mpr hc)]
    exact iteF k
/-- deeds over some states -/
def DeedsU (ds : List Dd) (U : List Str) : Prop := ∀ d ∈ ds, d.mv.length ≤ 3 ∧ (d.mv.map (·.1)).Nodup ∧ ∀ p ∈ d.mv, p.2 ∈ U
def sp_reached (K : PySem.W.Frag) : Sp := fun vs H Q _ => ∃ (ls ld : Addr) (st U cols : List Str) (dvs : List V) (es : List Dd), vs = [.ref ls, .ref ld] ∧ SqL K H ls (st.map V.str) ∧ SqL K H ld dvs ∧ Deeds K H cols dvs es ∧ DeedsU es U ∧ U.length ≤ 4 ∧ st.length ≤ 8 ∧
  ∀ (p : Addr) (fs : List Str) (H' : Hp), Same H H' → H p = none → H' p = some (.lst (fs.map V.str)) → (∀ s, s ∈ fs ↔ Reach es (· ∈ st) s) → fs.length ≤ st.length + 4 → Q (.ref p) H'
theorem ok_reached (T : Tx2 P K mg) : OkR P w K mg base 2 (He.fAd K ("reached", none)) (sp_reached K) := by
  have M_allowed : ∀ kd : Kd, Cls K (clsA K kd) ∧ ∃ f, Meth K (clsA K kd) "allowed" f ∧ OkR P w K mg base 1 f (sp_allowed K) := M_allowed' T
  have M_after : ∀ kd : Kd, Cls K (clsA K kd) ∧ ∃ f, Meth K (clsA K kd) "after" f ∧ OkR P w K mg base 1 f (sp_after K) := M_after' T
  refine mkR T.f_reached sc_reached (fun vs H Q E h => ?_) (fun _ _ _ _ _ _ us hl => match us, hl with | [_, _], _ => rfl) fun cdv A outer s H vs Q E hr h => ?_
  · obtain ⟨_, _, _, _, _, _, _, rfl, _⟩ := h
    rfl
  · obtain ⟨ls, ld, st, U, cols, dvs, es, rfl, hls, hld, hds, hU, hUl, hstl, k⟩ := h
    refine ⟨_, 
    (pss_cons (ps_set (i := 2) sc_reached.nd rfl (Or.inl rfl) (pe_callTy (listK K) (by rfl) T.n_list (by decide +kernel) (pa_cons (pv 0) pa_nil))) 
    (pss_cons (ps_set (i := 3) sc_reached.nd rfl (Or.inl rfl) pe_int) 
    (pss_cons (ps_while PassesOwn.never (pt_cmpR op_lt (pv 3) (pe_callB (lenK K) (by rfl) T.n_len (by decide +kernel) (pa_cons (pv 2) pa_nil)) (nomark _)) 
      (pss_cons (ps_for PassesOwn.never rfl (pi_listK K (pv 1)) (pg_name (i := 4) sc_reached.nd rfl (Or.inl rfl)) 
        (pss_one (ps_if (pt_val (pe_methD K (pv 4) M_allowed (hr.mono (by decide)) (pa_cons (pe_ix (ix_listK K) (pv 2) (pv 3) (fun _ _ => rfl)) pa_nil)) (by intro _; rfl)) 
          (pss_cons (ps_set (i := 5) sc_reached.nd rfl (Or.inl rfl) (pe_methD K (pv 4) M_after (hr.mono (by decide)) (pa_cons (pe_ix (ix_listK K) (pv 2) (pv 3) (fun _ _ => rfl)) pa_nil))) 
          (pss_one (ps_if (pt_cmpR (notInK K) (pv 5) (pv 2) (by rfl)) 
            (pss_one (ps_expr (pe_bm PySem.F.plainAttrs_list PySem.F.slot_list_append PySem.F.type_list_append mt_append (pv 2) (pa_cons (pv 5) pa_nil)))) pss_nil))) pss_nil))) 
      (pss_one (ps_aug (i := 3) sc_reached.nd rfl (Or.inl rfl) pe_int ip_add)))) 
    (pss_one (ps_ret (pv 2)))))), ?_⟩
    refine ⟨_, rfl, ls, _, rfl, .inl hls, fun l hl => ?_⟩
    have y0 : Same H (upd H l (.lst (st.map V.str))) := same_upd hl
    have hdl : dvs.length = es.length := hds.length
    refine ⟨fun m σ H1 => ∃ (i : Nat) (fs : List Str) (v4 v5 : Option V), σ = [some (.ref ls), some (.ref ld), some (.ref l), some (.int i), v4, v5] ∧ Same H H1 ∧ H1 l = some (.lst (fs.map V.str)) ∧ RInv es st U fs i 0 ∧ m = 13 - i ∧ i ≤ 12, ⟨13, 0, st, none, none, rfl, y0, upd_same, rinv_start, rfl, Nat.zero_le _⟩, ?_⟩
    rintro m σ H1 ⟨i, fs, v4, v5, rfl, e1, h1, R, rfl, hi⟩
    have hfl := rinv_len R
    refine ⟨_, rfl, _, rfl, l, _, rfl, .inl (SqL.of h1), _, _, rfl, rfl, _, rfl, ?_⟩
    by_cases hlt : i < fs.length
    · refine iteB (decide_eq_true (by rw [List.length_map]; exact_mod_cast hlt)) ⟨fun σ' H' => ∃ m', m' < 13 - i ∧ ∃ (i : Nat) (fs : List Str) (v4 v5 : Option V), σ' = [some (.ref ls), some (.ref ld), some (.ref l), some (.int i), v4, v5] ∧ Same H H' ∧ H' l = some (.lst (fs.map V.str)) ∧ RInv es st U fs i 0 ∧ m' = 13 - i ∧ i ≤ 12, fun σ' H' q => q, ?_⟩
      obtain ⟨cur, hcur⟩ : ∃ c, fs[i]? = some c := ⟨_, List.getElem?_eq_getElem hlt⟩
      refine ⟨_, rfl, ld, rfl, ⟨_, e1.seq hld⟩, for_lst (K := K) (a := ld) (xs := dvs) (fun j σ H2 => ∃ (fs : List Str) (v4 v5 : Option V), σ = [some (.ref ls), some (.ref ld), some (.ref l), some (.int i), v4, v5] ∧ Same H H2 ∧ H2 l = some (.lst (fs.map V.str)) ∧ RInv es st U fs i j ∧ fs[i]? = some cur) ⟨fs, v4, v5, rfl, e1, h1, R, hcur⟩ (fun j σ H2 _ ⟨_, _, _, _, e, _⟩ => e.seq hld) ?_ ?_⟩
      · rintro j y σ H2 hj ⟨fs2, v4', v5', rfl, e2, h2, R2, hc2⟩
        obtain ⟨d, hd, hDd⟩ := paired_get hds hj
        obtain ⟨a, da, mm, c, mvs, mv, own, nv, rfl, ha, _⟩ := id hDd.ex
        obtain ⟨dl, dn, dU⟩ := hU d (List.mem_of_getElem? hd)
        have ix : ((fs2.map V.str)[i]?) = some (.str cur) := by rw [List.getElem?_map, hc2]; rfl
        refine ⟨_, rfl, a, da, _, d.k, rfl, e2 _ _ ha, rfl, _, rfl, _, rfl, l, _, _, _, rfl, rfl, SqL.of h2, atI_nat ix, _, cols, d, cur, rfl, deed_same e2 hDd, dl, fun H3 e3 => ?_⟩
        have y3 := e2.trans e3
        have h3 := e3 _ _ h2
        refine ⟨_, rfl, ?_⟩
        by_cases hal : cur ∈ d.mv.map (·.1)
        · refine iteB (decide_eq_true hal) ⟨_, rfl, a, da, _, d.k, rfl, y3 _ _ ha, rfl, _, rfl, _, rfl, l, _, _, _, rfl, rfl, SqL.of h3, atI_nat ix, _, cols, d, cur, rfl, deed_same y3 hDd, hal, fun t ht => ?_⟩
          refine ⟨_, rfl, _, rfl, l, _, rfl, .inl (SqL.of h3), rfl, flat_strs fs2, _, rfl, ?_⟩
          rw [inV_strs]
          by_cases hin : t ∈ fs2
          · refine iteN (by rw [decide_eq_true hin]; rfl) ⟨fs2, _, _, rfl, y3, h3, rinv_old R2 hd fun s hs t' ht' => ?_, hc2⟩
            rw [hc2] at hs
            cases hs
            rw [mv_fun dn ht' ht]
            exact hin
          · have hl2 := rinv_len R2
            refine iteB (by rw [decide_eq_false hin]; rfl) ⟨_, rfl, .inl ⟨rfl, _, .inl (.inl h3)⟩, _, rfl, l, _, _, rfl, rfl, h3, by rw [List.length_map, sizeLine_eq]; omega, fs2 ++ [t], _, _, rfl, same_mut y3 hl, by rw [List.map_append]; exact upd_same, rinv_new R2 hd hc2 ht dn (dU _ ht) hin, ?_⟩
            rw [List.getElem?_append_left (List.getElem?_eq_some_iff.mp hc2).1]
            exact hc2
        · refine iteN (decide_eq_false hal) ⟨fs2, _, _, rfl, y3, h3, rinv_old R2 hd fun s hs t' ht' => ?_, hc2⟩
          rw [hc2] at hs
          cases hs
          exact absurd (List.mem_map.mpr ⟨_, ht', rfl⟩) hal
      · rintro σ H2 ⟨fs2, v4', v5', rfl, e2, h2, R2, hc2⟩
        rw [hdl] at R2
        have hl2 := rinv_len R2
        have hil := (List.getElem?_eq_some_iff.mp hc2).1
        refine ⟨_, rfl, _, _, rfl, rfl, 13 - (i + 1), by omega, i + 1, fs2, _, _, rfl, e2, h2, rinv_next R2, rfl, by omega⟩
    · refine iteN (decide_eq_false (by rw [List.length_map]; omega)) ⟨_, rfl, ?_⟩
      exact k l fs H1 e1 hl h1 (rinv_end R (by omega)) (by omega)
/-- is_closing(book, deed, column) -/
def sp_is_closing (K : PySem.W.Frag) : Sp := fun vs H Q _ => ∃ (v u : V) (cols : List Str) (ds : List Dd) (d : Dd) (c : Str), vs = [v, u, .str c] ∧ BookAt K H cols ds v ∧ DeedAt K H cols d u ∧ d ∈ ds ∧ (ds.map (·.nm)).Nodup ∧ Q (.bl (closes cols c d)) H
theorem ok_is_closing (T : Tx2 P K mg) : OkR P w K mg base 4 (He.fAd K ("is_closing", none)) (sp_is_closing K) := by
  have G_Book_writes : OkR P w K mg base 3 (He.fAd K ("Book", some "writes")) (sp_Book_writes K) := ok_Book_writes T
  refine mkR T.f_is_closing sc_is_closing (fun vs H Q E h => ?_) (fun _ _ _ _ _ _ us hl => match us, hl with | [_, _, _], _ => rfl) fun cdv A outer s H vs Q E hr h => ?_
  · obtain ⟨_, _, _, _, _, _, rfl, _⟩ := h
    rfl
  · obtain ⟨v, u, cols, ds, d, c, rfl, hb, hu, hd, hnd, k⟩ := h
    refine ⟨_, 
    (pss_one (ps_ret (pe_or (pe_callB (isiC K) (by rfl) T.n_isinstance (by decide +kernel) (pa_cons (pv 1) (pa_cons (pe_glob (v := .ref (He.ga K "End")) rfl T.g_End rfl) pa_nil))) (pe_one (pe_cmpR (inK K) (pv 2) (pe_methF K (pv 0) T.c_Book T.m_Book_writes G_Book_writes (hr.mono (by decide)) (pa_cons (pe_fldK K (pv 1)) pa_nil)) (by rfl)))))), ?_⟩
    obtain ⟨a, da, m, cc, mvs, mv, own, nv, rfl, ha, _⟩ := hu.ex
    obtain ⟨x, dx, ac, ast, ad, an, kv, cs, zs, es, rfl, hx, hcs, pc, _⟩ := id hb.ex
    refine ⟨_, rfl, _, _, _, _, decide (d.k = .en), rfl, ClsV.own _, tyx_deed T.toTx1 ha, kit_deed T.toTx1 d.k .en, _, rfl, ?_⟩
    unfold closes at k
    by_cases hk : d.k = .en
    · rw [decide_eq_true hk] at k ⊢
      exact iteT k
    · rw [decide_eq_false hk] at k ⊢
      refine iteF ⟨_, rfl, _, rfl, x, dx, _, rfl, hx, rfl, _, rfl, a, _, da, _, _, rfl, ha, cls_deed T.toTx1 d.k, na_name T.toTx1 d.k, rfl, _, cols, ds, d, rfl, hb, hd, hnd, fun p ys hp py => ?_⟩
      refine ⟨p, _, rfl, .inr hp, rfl, flat_strs ys, ?_⟩
      rw [inV_strs]
      have e : decide (c ∈ ys) = decide (c ∈ wrote cols d) := by
        rw [decide_eq_decide]
        exact py.mem_iff
      rw [e]
      exact k
end
end K59
/-! D15 -/
set_option Elab.async false
set_option linter.all false
set_option maxRecDepth 100000
set_option maxHeartbeats 2000000
namespace K59
open PySem PySem.Spec PyProof.Rows L2 LamX
theorem same_lessN {D : Addr} {H H' : Hp} (hD : H D = none) (e : Same H H') : Same H (less D H') := fun b o h => by
  rw [less_ne (ne_of_none h hD)]
  exact e b o h
theorem filter_at {α : Type} {p : α → Bool} {xs : List α} {i : Nat} {x : α} (h : xs[i]? = some x) : (xs.take (i + 1)).filter p = (xs.take i).filter p ++ (if p x = true then [x] else []) := by
  rw [take_at h, List.filter_append]
  congr 1
  by_cases hp : p x = true
  · rw [if_pos hp, List.filter_cons_of_pos hp, List.filter_nil]
  · rw [if_neg hp, List.filter_cons_of_neg hp, List.filter_nil]
section
variable {P : Program} {w : World} {K : PySem.W.Frag} {mg : Str → Option Value} {base : Heap}
abbrev s_closing_after : Stmt := top 41
abbrev N_closing_after : List Str := ["book", "column", "states", "passing", "deed", "open_states", "found", "state"]
theorem sc_closing_after : FnScope N_closing_after ["book", "column", "states"] (defScope s_closing_after) := ⟨rfl, rfl, rfl, by decide +kernel, rfl, by decide +kernel, by decide +kernel⟩
/-- the deeds that can close, by their names -/
def CloseBy (cols : List Str) (ds : List Dd) (c : Str) (S : Str → Prop) (e : Dd) : Prop := closes cols c e = true ∧ ∃ u, Reach (ds.filter fun x => !closes cols c x) S u ∧ u ∈ e.mv.map (·.1)
def sp_closing_after (K : PySem.W.Frag) : Sp := fun vs H Q _ => ∃ (v : V) (ls : Addr) (cols st U : List Str) (ds : List Dd) (c : Str), vs = [v, .str c, .ref ls] ∧ BookAt K H cols ds v ∧ SqL K H ls (st.map V.str) ∧ (ds.map (·.nm)).Nodup ∧ DeedsU ds U ∧ U.length ≤ 4 ∧ st.length ≤ 8 ∧ ds.length ≤ 8 ∧
  ∀ (p : Addr) (ns : List Str) (H' : Hp), Same H H' → H p = none → H' p = some (.lst (ns.map V.str)) → ns.Nodup → (∀ n, n ∈ ns ↔ ∃ e ∈ ds, n = e.nm ∧ CloseBy cols ds c (· ∈ st) e) → ns.length ≤ 8 → Q (.ref p) H'
theorem ok_closing_after (T : Tx2 P K mg) : OkR P w K mg base 5 (He.fAd K ("closing_after", none)) (sp_closing_after K) := by
  have M_allowed : ∀ kd : Kd, Cls K (clsA K kd) ∧ ∃ f, Meth K (clsA K kd) "allowed" f ∧ OkR P w K mg base 1 f (sp_allowed K) := M_allowed' T
  have G_is_closing : OkR P w K mg base 4 (He.fAd K ("is_closing", none)) (sp_is_closing K) := ok_is_closing T
  have G_reached : OkR P w K mg base 2 (He.fAd K ("reached", none)) (sp_reached K) := ok_reached T
  have I_Book : ItFn P w K mg base 1 (He.fAd K ("Book", some "__iter__")) (He.ga K "Book") "deeds" := ok_Book_iter T
  refine mkR T.f_closing_after sc_closing_after (fun vs H Q E h => ?_) (fun _ _ _ _ _ _ us hl => match us, hl with | [_, _, _], _ => rfl) fun cdv A outer s H vs Q E hr h => ?_
  · obtain ⟨_, _, _, _, _, _, _, rfl, _⟩ := h
    rfl
  · obtain ⟨v, ls, cols, st, U, ds, c, rfl, hb, hls, hnd, hU, hUl, hstl, hdl, k⟩ := h
    refine ⟨_, 
    (pss_cons (ps_setLc (i := 3) (own := [("deed", 4)]) (by rfl) sc_closing_after.nd rfl rfl (sw_true rfl rfl rfl (by decide +kernel)) (pi_own K T.m_Book_iter I_Book (hr.mono (by decide)) (pv 0)) (blkOk_by (own := [("deed", 4)]) (N := N_closing_after) (sc := (defScope s_closing_after)) (by decide +kernel)) (fun _ _ _ _ _ => (pg_name (i := 4) sc_closing_after.nd rfl (Or.inl rfl))) (fun _ _ _ _ _ => pts_one (pt_not (pt_val (pe_callF G_is_closing (hr.mono (by decide)) (by rfl) T.g_is_closing (pa_cons (pv 0) (pa_cons (pv 4) (pa_cons (pv 1) pa_nil)))) (by intro _; rfl)))) (fun _ _ _ _ _ => (pv 4))) 
    (pss_cons (ps_set (i := 5) sc_closing_after.nd rfl (Or.inl rfl) (pe_callF G_reached (hr.mono (by decide)) (by rfl) T.g_reached (pa_cons (pv 2) (pa_cons (pv 3) pa_nil)))) 
    (pss_cons (ps_set (i := 6) sc_closing_after.nd rfl (Or.inl rfl) (pe_lst pa_nil)) 
    (pss_cons (ps_for PassesOwn.never rfl (pi_own K T.m_Book_iter I_Book (hr.mono (by decide)) (pv 0)) (pg_name (i := 4) sc_closing_after.nd rfl (Or.inr rfl)) 
      (pss_one (ps_if (PW.pt (pw_and (pt_val (pe_callF G_is_closing (hr.mono (by decide)) (by rfl) T.g_is_closing (pa_cons (pv 0) (pa_cons (pv 4) (pa_cons (pv 1) pa_nil)))) (by intro _; rfl)) (pw_and1 (pt_val (pe_callB (anyK K) (by rfl) T.n_any (by decide +kernel) (pa_cons (pe_lc (own := [("state", 7)]) (by rfl) sc_closing_after.nd (pi_listK K (pv 5)) (blkOk_by (own := [("state", 7)]) (N := N_closing_after) (sc := (defScope s_closing_after)) (by decide +kernel)) (fun _ _ _ _ _ => (pg_name (i := 7) sc_closing_after.nd rfl (Or.inl rfl))) (fun _ _ _ _ _ => pts_nil) (fun _ _ _ _ _ => (pe_methD K (pv 4) M_allowed (hr.mono (by decide)) (pa_cons (pv 7) pa_nil)))) pa_nil)) (by intro _; rfl))))) 
        (pss_one (ps_expr (pe_bm PySem.F.plainAttrs_list PySem.F.slot_list_append PySem.F.type_list_append mt_append (pv 6) (pa_cons (pe_fldK K (pv 4)) pa_nil)))) pss_nil))) 
    (pss_one (ps_ret (pv 6))))))), ?_⟩
    obtain ⟨x, dx, ac, ast, ad, an, kv, cs, zs, es, rfl, hx, hcs, pc, hl, hds, pes⟩ := id hb.ex
    have hzl : zs.length = es.length := hds.length
    have hel : es.length ≤ 8 := by rw [pes.length_eq]; exact hdl
    have hin : ∀ d, d ∈ es ↔ d ∈ ds := fun d => pes.mem_iff
    refine ⟨_, rfl, x, dx, _, ad, zs, rfl, hx, rfl, hl, fun D hD => ?_⟩
    refine lc_list (K := K) (a := ad) (xs := zs) (Gr H D fun i acc h => Deeds K h cols acc ((es.take i).filter fun y => !closes cols c y)) (gr_start hD .nil) (fun i H5 _ G => G.ext.seq hl) ?_ ?_
    · rintro i y H5 hi G
      obtain ⟨d, hd, hDd⟩ := paired_get hds hi
      obtain ⟨a, da, m, cc, mvs, mv, own, nv, rfl, ha, _⟩ := id hDd.ex
      have hlt := (List.getElem?_eq_some_iff.mp hd).1
      refine ⟨rfl, _, rfl, _, rfl, _, rfl, _, _, cols, ds, d, c, rfl, book_same G.ext hb, deed_same G.ext hDd, (hin d).1 (List.mem_of_getElem? hd), hnd, _, rfl, ?_⟩
      by_cases hcl : closes cols c d = true
      · refine iteN (by rw [hcl]; rfl) (gr_skip G (Same.refl _) (fun _ _ _ _ e h => deeds_same e h) fun acc h => ?_)
        rw [filter_at hd, if_neg (by rw [hcl]; decide), List.append_nil]
        exact h
      · have hcf : closes cols c d = false := by simpa using hcl
        refine iteB (by rw [hcf]; rfl) ⟨_, rfl, gr_add G (Same.refl _) (by omega) (fun _ _ _ _ e h => deeds_same e h) fun acc h => ?_⟩
        rw [filter_at hd, if_pos (by rw [hcf]; rfl)]
        exact Paired.snoc h (deed_same (same_lessN G.new G.ext) hDd)
    rintro H5 ⟨hD5, e5, acc, hacc, _, hd5⟩
    rw [hzl, List.take_length] at hd5
    refine ⟨_, rfl, _, rfl, ls, D, st, U, cols, acc, _, rfl, e5.seq hls, SqL.of hacc, deeds_same (less_sub _ _) hd5, fun d hd => hU d ((hin d).1 (List.mem_filter.mp hd).1), hUl, hstl, fun p fs H6 e6 hp6 h6 hfs hfl => ?_⟩
    have y6 := e5.trans e6
    refine ⟨Nat.zero_le _, fun F hF => ?_⟩
    have yF : ∀ u, Same H6 (upd H6 F u) := fun u => same_upd hF
    refine ⟨_, rfl, x, dx, _, ad, zs, rfl, (y6.trans (yF _)) _ _ hx, rfl, (y6.trans (yF _)).seq hl, ?_⟩
    generalize hHF : upd H6 F (.lst []) = HF at yF
    have hF0 : HF F = some (.lst []) := by rw [← hHF]; exact upd_same
    have yHF : Same H6 HF := by rw [← hHF]; exact same_upd hF
    clear hHF yF
    have gdef : ∃ g : Dd → Bool, ∀ e, g e = (closes cols c e && fs.any fun s => decide (s ∈ e.mv.map (·.1))) := ⟨_, fun _ => rfl⟩
    obtain ⟨g, hg⟩ := gdef
    refine for_lst (K := K) (a := ad) (xs := zs) (fun i σ Hk => ∃ v4, σ = [some (.ref x), some (.str c), some (.ref ls), some (.ref D), v4, some (.ref p), some (.ref F), none] ∧ Same H6 Hk ∧ Hk F = some (.lst ((((es.take i).filter g).map (·.nm)).map V.str))) ⟨none, rfl, yHF, hF0⟩ (fun i σ Hk _ ⟨_, _, e, _⟩ => (y6.trans e).seq hl) ?_ ?_
    · rintro i y σ Hk hi ⟨v4, rfl, ek, hk⟩
      have yk := y6.trans ek
      obtain ⟨d, hd, hDd⟩ := paired_get hds hi
      obtain ⟨a, da, m, cc, mvs, mv, own, nv, rfl, ha, _⟩ := id hDd.ex
      have hmem := (hin d).1 (List.mem_of_getElem? hd)
      obtain ⟨dl, dn, dU⟩ := hU d hmem
      refine ⟨_, rfl, _, rfl, _, rfl, _, _, cols, ds, d, c, rfl, book_same yk hb, deed_same yk hDd, hmem, hnd, _, rfl, ?_⟩
      have skip : ∀ (H7 : Hp), Same Hk H7 → g d = false → Same H6 H7 ∧ H7 F = some (.lst ((((es.take (i + 1)).filter g).map (·.nm)).map V.str)) := fun H7 e7 hgd => by
        refine ⟨ek.trans e7, ?_⟩
        rw [filter_at hd, if_neg (by rw [hgd]; decide), List.append_nil]
        exact e7 _ _ hk
      by_cases hcl : closes cols c d = true
      · refine iteB hcl ⟨_, rfl, p, rfl, ⟨_, SqL.of (ek _ _ h6)⟩, fun D2 hD2 => ?_⟩
        refine lc_list (K := K) (a := p) (xs := fs.map V.str) (Gr Hk D2 fun j acc _ => acc = ((fs.take j).map fun s => decide (s ∈ d.mv.map (·.1))).map V.bl) (gr_start hD2 rfl) (fun j H7 _ G => G.ext.seq (SqL.of (ek _ _ h6))) ?_ ?_
        · rintro j z H7 hj G
          obtain ⟨s, hs, rfl⟩ := strs_get hj
          have hjl := (List.getElem?_eq_some_iff.mp hs).1
          refine ⟨rfl, _, rfl, a, da, _, d.k, rfl, (yk.trans G.ext) _ _ ha, rfl, _, rfl, _, cols, d, s, rfl, deed_same (yk.trans G.ext) hDd, dl, fun H8 e8 => ?_⟩
          refine gr_add G e8 (by omega) (fun _ _ _ _ _ h => h) fun acc h => ?_
          rw [take_at hs, List.map_append, List.map_append, ← h]
          rfl
        · rintro H7 ⟨hD7, e7, acc7, hacc7, _, hd7⟩
          have hfull : fs.take (fs.map V.str).length = fs := List.take_of_length_le (by rw [List.length_map]; exact Nat.le_refl _)
          rw [hfull] at hd7
          rw [hd7] at hacc7
          refine ⟨D2, _, rfl, SqL.of hacc7, _, rfl, ?_⟩
          have eany : ((fs.map fun s => decide (s ∈ d.mv.map (·.1))).any id) = fs.any fun s => decide (s ∈ d.mv.map (·.1)) := by rw [List.any_map]; rfl
          rw [eany]
          by_cases hany : (fs.any fun s => decide (s ∈ d.mv.map (·.1))) = true
          · have hgd : g d = true := by rw [hg, hcl, hany]; rfl
            have hF7 := e7 _ _ hk
            have hlt := (List.getElem?_eq_some_iff.mp hd).1
            have hsz : ((((es.take i).filter g).map (·.nm)).map V.str).length < sizeLine := by
              rw [List.length_map, List.length_map, sizeLine_eq]
              have := List.length_filter_le g (es.take i)
              rw [List.length_take] at this
              omega
            refine iteB hany ⟨_, rfl, .inl ⟨rfl, _, .inl (.inl hF7)⟩, _, rfl, a, _, da, _, _, rfl, (yk.trans e7) _ _ ha, cls_deed T.toTx1 d.k, na_name T.toTx1 d.k, rfl, F, _, _, rfl, rfl, hF7, hsz, _, rfl, same_mut (ek.trans e7) hF, ?_⟩
            rw [filter_at hd, if_pos hgd, List.map_append, List.map_append]
            exact upd_same
          · have hgd : g d = false := by
              rw [hg, hcl]
              simpa using hany
            exact iteN (by simpa using hany) ⟨_, rfl, skip H7 e7 hgd⟩
      · have hcf : closes cols c d = false := by simpa using hcl
        exact iteN hcf ⟨_, rfl, skip Hk (Same.refl _) (by rw [hg, hcf]; rfl)⟩
    · rintro σ Hk ⟨v4, rfl, ek, hk⟩
      rw [hzl, List.take_length] at hk
      have hes : (es.map (·.nm)).Nodup := (pes.map (·.nm)).nodup_iff.mpr hnd
      refine ⟨_, rfl, k F _ Hk (y6.trans ek) (y6.free hF) hk (List.Sublist.nodup ((List.filter_sublist).map _) hes) (fun n => ?_) ?_⟩
      · rw [List.mem_map]
        have hR : ∀ u, Reach (es.filter fun x => !closes cols c x) (· ∈ st) u ↔ Reach (ds.filter fun x => !closes cols c x) (· ∈ st) u := fun u => by
          constructor
          · exact reach_mono (fun d hd => List.mem_filter.mpr ⟨(hin d).1 (List.mem_filter.mp hd).1, (List.mem_filter.mp hd).2⟩) fun _ z => z
          · exact reach_mono (fun d hd => List.mem_filter.mpr ⟨(hin d).2 (List.mem_filter.mp hd).1, (List.mem_filter.mp hd).2⟩) fun _ z => z
        constructor
        · rintro ⟨e, he, rfl⟩
          obtain ⟨h1, h2⟩ := List.mem_filter.mp he
          rw [hg, Bool.and_eq_true, List.any_eq_true] at h2
          obtain ⟨h2, u, hu, hm⟩ := h2
          exact ⟨e, (hin e).1 h1, rfl, h2, u, (hR u).1 ((hfs u).1 hu), of_decide_eq_true hm⟩
        · rintro ⟨e, he, rfl, h2, u, hu, hm⟩
          refine ⟨e, List.mem_filter.mpr ⟨(hin e).2 he, ?_⟩, rfl⟩
          rw [hg, Bool.and_eq_true, List.any_eq_true]
          exact ⟨h2, u, (hfs u).2 ((hR u).2 hu), decide_eq_true hm⟩
      · rw [List.length_map]
        exact Nat.le_trans (List.length_filter_le _ _) hel
end
end K59
/-! K59X -/
set_option Elab.async false
set_option linter.all false
set_option maxRecDepth 100000
/-! pairs of texts as tuples that stand in the tracked heap: they may be keys -/
namespace K59
open PySem PySem.Spec PyProof.Rows L2 LamX
def kP (p : Str × Str) : List Key := [.inr p.1, .inr p.2]
theorem kP_inj {p q : Str × Str} (h : kP p = kP q) : p = q := by
  unfold kP at h
  injection h with h1 h2
  injection h2 with h2 _
  injection h1 with h1
  injection h2 with h2
  exact Prod.ext h1 h2
/-- the tuple of p -/
def PT (H : Hp) (v : V) (p : Str × Str) : Prop := ∃ t, v = .ref t ∧ H t = some (.tup [.str p.1, .str p.2])
abbrev PAll (H : Hp) (vs : List V) (ps : List (Str × Str)) : Prop := Paired (PT H) vs ps
section
variable {K : PySem.W.Frag} {H H' : Hp} {D t : Addr} {xs ys : List V} {ps qs : List (Str × Str)} {p : Str × Str} {v : V}
theorem pt_same (e : Same H H') (h : PT H v p) : PT H' v p := by
  obtain ⟨t, e1, e2⟩ := h
  exact ⟨t, e1, e _ _ e2⟩
theorem pt_key (h : H t = some (.tup [.str p.1, .str p.2])) : H t = some (.tup ((kP p).map kV)) := h
theorem pall_same (e : Same H H') (h : PAll H xs ps) : PAll H' xs ps := Paired.mapP h fun _ _ z => pt_same e z
theorem pt_less {o : HO} (hD : H D = some o) (ho : ∀ zs, o ≠ .tup zs) (h : PT H v p) : PT (less D H) v p := by
  obtain ⟨t, e1, e2⟩ := h
  exact ⟨t, e1, less_at hD e2 fun z => ho _ z.symm⟩
theorem pall_less {o : HO} (hD : H D = some o) (ho : ∀ zs, o ≠ .tup zs) (h : PAll H xs ps) : PAll (less D H) xs ps := Paired.mapP h fun _ _ z => pt_less hD ho z
theorem pall_snoc (h : PAll H xs ps) (h1 : PT H v p) : PAll H (xs ++ [v]) (ps ++ [p]) := Paired.snoc h h1
theorem pall_app : ∀ {xs ys : List V} {ps qs : List (Str × Str)}, PAll H xs ps → PAll H ys qs → PAll H (xs ++ ys) (ps ++ qs)
  | _, _, _, _, .nil, h => h
  | _, _, _, _, .cons a t, h => .cons a (pall_app t h)
theorem pt_dp (h : PT H v p) : Dp K H v (pairD p) := by
  obtain ⟨t, rfl, e⟩ := h
  exact .tup (SqT.of e) (.cons (.str _) (.cons (.str _) .nil))
theorem pall_dpa : ∀ {xs : List V} {ps : List (Str × Str)}, PAll H xs ps → DpAll K H xs (ps.map pairD)
  | _, _, .nil => .nil
  | _, _, .cons a t => .cons (pt_dp a) (pall_dpa t)
theorem pall_get {i : Nat} (h : PAll H xs ps) (hi : xs[i]? = some v) : ∃ p t, ps[i]? = some p ∧ v = .ref t ∧ H t = some (.tup [.str p.1, .str p.2]) := by
  obtain ⟨p, h1, t, e1, e2⟩ := paired_get h hi
  exact ⟨p, t, h1, e1, e2⟩
theorem pall_perm (q : ys.Perm xs) (h : PAll H xs ps) : ∃ qs : List (Str × Str), qs.Perm ps ∧ PAll H ys qs := paired_perm q h
end
end K59
/-! D16 -/
set_option Elab.async false
set_option linter.all false
set_option maxRecDepth 100000
set_option maxHeartbeats 2000000
namespace K59
open PySem PySem.Spec PyProof.Rows L2 LamX
section
variable {P : Program} {w : World} {K : PySem.W.Frag} {mg : Str → Option Value} {base : Heap}
abbrev s_all_successions : Stmt := top 42
abbrev N_all_successions : List Str := ["book", "column", "deeds", "states", "found", "deed", "behind", "state", "name"]
theorem sc_all_successions : FnScope N_all_successions ["book", "column"] (defScope s_all_successions) := ⟨rfl, rfl, rfl, by decide +kernel, rfl, by decide +kernel, by decide +kernel⟩
/-- pairs of names at p -/
def PairsAt (K : PySem.W.Frag) (H : Hp) (p : Addr) (ps : List (Str × Str)) : Prop := ∃ xs, SqL K H p xs ∧ DpAll K H xs (ps.map pairD)
theorem pairsAt_same {H H' : Hp} {p : Addr} {ps : List (Str × Str)} (e : Same H H') (h : PairsAt K H p ps) : PairsAt K H' p ps := by
  obtain ⟨xs, h1, h2⟩ := h
  exact ⟨xs, e.seq h1, dpa_same e h2⟩
/-- the successions that some deeds begin -/
def SuccBy (cols : List Str) (ds : List Dd) (c : Str) (bs : List Dd) (p : Str × Str) : Prop := ∃ d ∈ bs, c ∈ wrote cols d ∧ ∃ e ∈ ds, p = (d.nm, e.nm) ∧ CloseBy cols ds c (Behind ds d) e
theorem succBy_all {cols : List Str} {ds es : List Dd} {c : Str} {p : Str × Str} (h : ∀ d, d ∈ es ↔ d ∈ ds) : SuccBy cols ds c es p ↔ Succ cols ds c p := by
  constructor
  · rintro ⟨d, hd, hw, e, he, hp, h1, h2⟩
    exact ⟨d, (h d).1 hd, e, he, hp, hw, h1, h2⟩
  · rintro ⟨d, hd, e, he, hp, hw, h1, h2⟩
    exact ⟨d, (h d).2 hd, hw, e, he, hp, h1, h2⟩
theorem nodup_map_of {α β : Type} {f : α → β} (hf : ∀ a b, f a = f b → a = b) : ∀ {l : List α}, l.Nodup → (l.map f).Nodup
  | [], _ => List.nodup_nil
  | a :: r, h => by
    rw [List.nodup_cons] at h
    rw [List.map_cons, List.nodup_cons]
    refine ⟨fun hm => ?_, nodup_map_of hf h.2⟩
    obtain ⟨b, hb, e⟩ := List.mem_map.mp hm
    rw [hf _ _ e] at hb
    exact h.1 hb
theorem nodup_of_map {α β : Type} {f : α → β} : ∀ {l : List α}, (l.map f).Nodup → l.Nodup
  | [], _ => List.nodup_nil
  | a :: r, h => by
    rw [List.map_cons, List.nodup_cons] at h
    rw [List.nodup_cons]
    exact ⟨fun hm => h.1 (List.mem_map.mpr ⟨a, hm, rfl⟩), nodup_of_map h.2⟩
def sp_all_successions (K : PySem.W.Frag) : Sp := fun vs H Q _ => ∃ (v : V) (cols U : List Str) (ds : List Dd) (c : Str), vs = [v, .str c] ∧ BookAt K H cols ds v ∧ (ds.map (·.nm)).Nodup ∧ DeedsU ds U ∧ U.length ≤ 4 ∧ ds.length ≤ 8 ∧
  ∀ (p : Addr) (xs : List V) (ps : List (Str × Str)) (H' : Hp), Same H H' → H p = none → H' p = some (.lst xs) → PAll H' xs ps → ps.Nodup → (∀ q, q ∈ ps ↔ Succ cols ds c q) → ps.length ≤ 64 → Q (.ref p) H'
theorem ok_all_successions (T : Tx2 P K mg) : OkR P w K mg base 6 (He.fAd K ("all_successions", none)) (sp_all_successions K) := by
  have M_allowed : ∀ kd : Kd, Cls K (clsA K kd) ∧ ∃ f, Meth K (clsA K kd) "allowed" f ∧ OkR P w K mg base 1 f (sp_allowed K) := M_allowed' T
  have M_after : ∀ kd : Kd, Cls K (clsA K kd) ∧ ∃ f, Meth K (clsA K kd) "after" f ∧ OkR P w K mg base 1 f (sp_after K) := M_after' T
  have G_reached : OkR P w K mg base 2 (He.fAd K ("reached", none)) (sp_reached K) := ok_reached T
  have G_closing_after : OkR P w K mg base 5 (He.fAd K ("closing_after", none)) (sp_closing_after K) := ok_closing_after T
  have G_Book_writes : OkR P w K mg base 3 (He.fAd K ("Book", some "writes")) (sp_Book_writes K) := ok_Book_writes T
  have G_Book_len : OkR P w K mg base 1 (He.fAd K ("Book", some "__len__")) (spLenO K (He.ga K "Book") "deeds") := ok_Book_len T
  have I_Book : ItFn P w K mg base 1 (He.fAd K ("Book", some "__iter__")) (He.ga K "Book") "deeds" := ok_Book_iter T
  refine mkR T.f_all_successions sc_all_successions (fun vs H Q E h => ?_) (fun _ _ _ _ _ _ us hl => match us, hl with | [_, _], _ => rfl) fun cdv A outer s H vs Q E hr h => ?_
  · obtain ⟨_, _, _, _, _, rfl, _⟩ := h
    rfl
  · obtain ⟨v, cols, U, ds, c, rfl, hb, hnd, hU, hUl, hdl, k⟩ := h
    refine ⟨_, 
    (pss_cons (ps_set (i := 2) sc_all_successions.nd rfl (Or.inl rfl) (pe_callTy (cr_listOwn K T.m_Book_iter I_Book T.m_Book_len G_Book_len (hr.mono (by decide))) (by rfl) T.n_list (by decide +kernel) (pa_cons (pv 0) pa_nil))) 
    (pss_cons (ps_set (i := 3) sc_all_successions.nd rfl (Or.inl rfl) (pe_callF G_reached (hr.mono (by decide)) (by rfl) T.g_reached (pa_cons (pe_lst (pa_cons pe_str pa_nil)) (pa_cons (pv 2) pa_nil)))) 
    (pss_cons (ps_set (i := 4) sc_all_successions.nd rfl (Or.inl rfl) (pe_lst pa_nil)) 
    (pss_cons (ps_for PassesOwn.never rfl (pi_listK K (pv 2)) (pg_name (i := 5) sc_all_successions.nd rfl (Or.inr rfl)) 
      (pss_one (ps_if (pt_cmpR (inK K) (pv 1) (pe_methF K (pv 0) T.c_Book T.m_Book_writes G_Book_writes (hr.mono (by decide)) (pa_cons (pe_fldK K (pv 5)) pa_nil)) (by rfl)) 
        (pss_cons (ps_setLc (i := 6) (own := [("state", 7)]) (by rfl) sc_all_successions.nd rfl rfl (sw_true rfl rfl rfl (by decide +kernel)) (pi_listK K (pv 3)) (blkOk_by (own := [("state", 7)]) (N := N_all_successions) (sc := (defScope s_all_successions)) (by decide +kernel)) (fun _ _ _ _ _ => (pg_name (i := 7) sc_all_successions.nd rfl (Or.inl rfl))) (fun _ _ _ _ _ => pts_one (pt_val (pe_methD K (pv 5) M_allowed (hr.mono (by decide)) (pa_cons (pv 7) pa_nil)) (by intro _; rfl))) (fun _ _ _ _ _ => (pe_methD K (pv 5) M_after (hr.mono (by decide)) (pa_cons (pv 7) pa_nil)))) 
        (pss_one (ps_expr (pe_bm PySem.F.plainAttrs_list PySem.F.slot_list_extend PySem.F.type_list_extend mt_extend (pv 4) (pa_cons (pe_lc (own := [("name", 8)]) (by rfl) sc_all_successions.nd (pi_listK K (pe_callF G_closing_after (hr.mono (by decide)) (by rfl) T.g_closing_after (pa_cons (pv 0) (pa_cons (pv 1) (pa_cons (pv 6) pa_nil))))) (blkOk_by (own := [("name", 8)]) (N := N_all_successions) (sc := (defScope s_all_successions)) (by decide +kernel)) (fun _ _ _ _ _ => (pg_name (i := 8) sc_all_successions.nd rfl (Or.inl rfl))) (fun _ _ _ _ _ => pts_nil) (fun _ _ _ _ _ => (pe_tup (pa_cons (pe_fldK K (pv 5)) (pa_cons (pv 8) pa_nil))))) pa_nil))))) pss_nil))) 
    (pss_one (ps_ret (pv 4))))))), ?_⟩
    obtain ⟨x, dx, ac, ast, ad, an, kv, cs, zs, es, rfl, hx, hcs, pc, hl, hds, pes⟩ := id hb.ex
    have hzl : zs.length = es.length := hds.length
    have hel : es.length ≤ 8 := by rw [pes.length_eq]; exact hdl
    have hin : ∀ d, d ∈ es ↔ d ∈ ds := fun d => pes.mem_iff
    refine ⟨_, rfl, x, dx, _, ad, zs, rfl, hx, rfl, hl, fun L hL => ?_⟩
    have yL : Same H (upd H L (.lst zs)) := same_upd hL
    have hL0 : upd H L (.lst zs) L = some (.lst zs) := upd_same
    generalize upd H L (.lst zs) = H1 at yL hL0
    refine ⟨(show 1 ≤ sizeLine by decide), fun l1 hl1 => ?_⟩
    have y1 : Same H1 (upd H1 l1 (.lst [.str ""])) := same_upd hl1
    refine ⟨_, rfl, l1, L, [""], U, cols, zs, es, rfl, SqL.of upd_same, SqL.of (y1 _ _ hL0), deeds_same (yL.trans y1) hds, fun d hd => hU d ((hin d).1 hd), hUl, by decide, fun p fs H2 e2 hp2 h2 hfs hfl => ?_⟩
    have y2 := (yL.trans y1).trans e2
    have hL2 := e2 _ _ (y1 _ _ hL0)
    have hfl5 : fs.length ≤ 5 := by simpa using hfl
    refine ⟨Nat.zero_le _, fun F hF => ?_⟩
    have yHF : Same H2 (upd H2 F (.lst [])) := same_upd hF
    have hF0 : upd H2 F (.lst []) F = some (.lst []) := upd_same
    generalize upd H2 F (.lst []) = HF at yHF hF0
    refine ⟨_, rfl, L, rfl, ⟨_, SqL.of (yHF _ _ hL2)⟩, for_lst (K := K) (a := L) (xs := zs) (fun i σ Hk => ∃ (v5 v6 : Option V) (xs : List V) (ps : List (Str × Str)), σ = [some (.ref x), some (.str c), some (.ref L), some (.ref p), some (.ref F), v5, v6, none, none] ∧ Same H2 Hk ∧ Hk F = some (.lst xs) ∧ PAll (less F Hk) xs ps ∧ ps.Nodup ∧ (∀ q, q ∈ ps ↔ SuccBy cols ds c (es.take i) q) ∧ ps.length ≤ 8 * i) ⟨none, none, [], [], rfl, yHF, hF0, .nil, List.nodup_nil, fun q => ⟨fun h => (nomatch h), fun ⟨d, hd, _⟩ => (nomatch hd)⟩, Nat.le_refl _⟩ (fun i σ Hk _ ⟨_, _, _, _, _, e, _⟩ => SqL.of (e _ _ hL2)) ?_ ?_⟩
    · rintro i y σ Hk hi ⟨v5, v6, xs, ps, rfl, ek, hk, hxs, hpn, hpq, hpl⟩
      have yk := y2.trans ek
      obtain ⟨d, hd, hDd⟩ := paired_get hds hi
      obtain ⟨a, da, m, cc, mvs, mv, own, nv, rfl, ha, _⟩ := id hDd.ex
      have hmem := (hin d).1 (List.mem_of_getElem? hd)
      have hlt := (List.getElem?_eq_some_iff.mp hd).1
      obtain ⟨dl, dn, dU⟩ := hU d hmem
      refine ⟨_, rfl, _, rfl, x, dx, _, rfl, yk _ _ hx, rfl, _, rfl, a, _, da, _, _, rfl, yk _ _ ha, cls_deed T.toTx1 d.k, na_name T.toTx1 d.k, rfl, _, cols, ds, d, rfl, book_same yk hb, hmem, hnd, fun wp ws hw pw => ?_⟩
      refine ⟨wp, _, rfl, .inr hw, rfl, flat_strs ws, _, rfl, ?_⟩
      rw [inV_strs]
      by_cases hcw : c ∈ ws
      · refine iteB (decide_eq_true hcw) ?_
        have hcw2 : c ∈ wrote cols d := pw.mem_iff.mp hcw
        refine ⟨_, rfl, p, rfl, ⟨_, SqL.of (ek _ _ h2)⟩, fun D3 hD3 => ?_⟩
        refine lc_list (K := K) (a := p) (xs := fs.map V.str) (Gr Hk D3 fun j acc _ => ∃ bs : List Str, acc = bs.map V.str ∧ ∀ t, t ∈ bs ↔ ∃ s ∈ fs.take j, (s, t) ∈ d.mv) (gr_start hD3 ⟨[], rfl, fun t => ⟨fun h => (nomatch h), fun ⟨s, hs, _⟩ => (nomatch hs)⟩⟩) (fun j H7 _ G => G.ext.seq (SqL.of (ek _ _ h2))) ?_ ?_
        · rintro j z H7 hj G
          obtain ⟨s, hs, rfl⟩ := strs_get hj
          have hjl := (List.getElem?_eq_some_iff.mp hs).1
          refine ⟨rfl, _, rfl, a, da, _, d.k, rfl, (yk.trans G.ext) _ _ ha, rfl, _, rfl, _, cols, d, s, rfl, deed_same (yk.trans G.ext) hDd, dl, fun H8 e8 => ⟨_, rfl, ?_⟩⟩
          have y8 := (yk.trans G.ext).trans e8
          by_cases hal : s ∈ d.mv.map (·.1)
          · refine iteB (decide_eq_true hal) ⟨_, rfl, a, da, _, d.k, rfl, y8 _ _ ha, rfl, _, rfl, _, cols, d, s, rfl, deed_same y8 hDd, hal, fun t ht => ?_⟩
            refine gr_add G e8 (by omega) (fun _ _ _ _ _ h => h) fun acc ⟨bs, hb1, hb2⟩ => ⟨bs ++ [t], by rw [hb1, List.map_append]; rfl, fun u => ?_⟩
            rw [List.mem_append, List.mem_singleton, hb2, take_at hs]
            constructor
            · rintro (⟨s', hs', hm⟩ | rfl)
              · exact ⟨s', List.mem_append_left _ hs', hm⟩
              · exact ⟨s, List.mem_append_right _ (List.mem_singleton.mpr rfl), ht⟩
            · rintro ⟨s', hs', hm⟩
              rcases List.mem_append.mp hs' with q | q
              · exact .inl ⟨s', q, hm⟩
              · rw [List.mem_singleton.mp q] at hm
                exact .inr (mv_fun dn hm ht)
          · refine iteN (decide_eq_false hal) (gr_skip G e8 (fun _ _ _ _ _ h => h) fun acc ⟨bs, hb1, hb2⟩ => ⟨bs, hb1, fun u => ?_⟩)
            rw [hb2, take_at hs]
            constructor
            · rintro ⟨s', hs', hm⟩
              exact ⟨s', List.mem_append_left _ hs', hm⟩
            · rintro ⟨s', hs', hm⟩
              rcases List.mem_append.mp hs' with q | q
              · exact ⟨s', q, hm⟩
              · rw [List.mem_singleton.mp q] at hm
                exact absurd (List.mem_map.mpr ⟨_, hm, rfl⟩) hal
        rintro H9 ⟨hD9, e9, acc9, hacc9, hal9, bs, rfl, hbs⟩
        have hfull : fs.take (fs.map V.str).length = fs := List.take_of_length_le (by rw [List.length_map]; exact Nat.le_refl _)
        rw [hfull] at hbs
        rw [List.length_map, List.length_map] at hal9
        have hbh : ∀ t, t ∈ bs ↔ Behind ds d t := fun t => by
          rw [hbs]
          have hR : ∀ s, s ∈ fs ↔ Reach ds (· = "") s := fun s => by
            rw [hfs]
            constructor
            · exact reach_mono (fun e he => (hin e).1 he) fun _ z => List.mem_singleton.mp z
            · exact reach_mono (fun e he => (hin e).2 he) fun _ z => List.mem_singleton.mpr z
          exact ⟨fun ⟨s, h1, h2⟩ => ⟨s, (hR s).1 h1, h2⟩, fun ⟨s, h1, h2⟩ => ⟨s, (hR s).2 h1, h2⟩⟩
        have y9 := yk.trans e9
        refine ⟨_, rfl, .inl ⟨rfl, _, .inl (.inl (e9 _ _ hk))⟩, _, rfl, _, rfl, _, rfl, _, D3, cols, bs, U, ds, c, rfl, book_same y9 hb, SqL.of hacc9, hnd, hU, hUl, by omega, hdl, fun q ns H10 e10 hq10 h10 nnd nin nlen => ⟨q, rfl, ⟨_, SqL.of h10⟩, fun D4 hD4 => ?_⟩⟩
        have y10 := y9.trans e10
        refine lc_list (K := K) (a := q) (xs := ns.map V.str) (Gr H10 D4 fun j acc h => PAll h acc ((ns.take j).map fun n => (d.nm, n))) (gr_start hD4 .nil) (fun j H11 _ G => G.ext.seq (SqL.of h10)) ?_ ?_
        · rintro j z H11 hj G
          obtain ⟨n, hn, rfl⟩ := strs_get hj
          have hjl := (List.getElem?_eq_some_iff.mp hn).1
          refine ⟨rfl, _, rfl, a, _, da, _, _, rfl, (y10.trans G.ext) _ _ ha, cls_deed T.toTx1 d.k, na_name T.toTx1 d.k, rfl, _, rfl, (show 2 ≤ sizeLine by decide), fun t ht => ?_⟩
          obtain ⟨_, hacc0, _⟩ := G.lst
          refine gr_add G (same_upd ht) (by omega) (fun _ _ _ _ e h => pall_same e h) fun acc h => ?_
          rw [take_at hn, List.map_append]
          refine pall_snoc h ⟨t, rfl, ?_⟩
          rw [less_ne (ne_of_none hacc0 ht).symm]
          exact upd_same
        rintro H11 ⟨hD11, e11, acc, hacc, hal11, hd11⟩
        have hfull2 : ns.take (ns.map V.str).length = ns := List.take_of_length_le (by rw [List.length_map]; exact Nat.le_refl _)
        rw [hfull2] at hd11
        have eF := (e9.trans e10).trans e11
        have hF11 := eF _ _ hk
        have hxl : xs.length = ps.length := hxs.length
        have hacl : acc.length = ns.length := by
          have := hd11.length
          rw [List.length_map] at this
          exact this
        have hps : ∀ r, r ∈ ns.map (fun n => (d.nm, n)) ↔ ∃ e ∈ ds, r = (d.nm, e.nm) ∧ CloseBy cols ds c (Behind ds d) e := fun r => by
          rw [List.mem_map]
          have hcb : ∀ e, CloseBy cols ds c (· ∈ bs) e ↔ CloseBy cols ds c (Behind ds d) e := fun e => by
            constructor
            · rintro ⟨h1, u, hu, hm⟩
              exact ⟨h1, u, reach_mono (fun _ z => z) (fun t z => (hbh t).1 z) hu, hm⟩
            · rintro ⟨h1, u, hu, hm⟩
              exact ⟨h1, u, reach_mono (fun _ z => z) (fun t z => (hbh t).2 z) hu, hm⟩
          constructor
          · rintro ⟨n, hn, rfl⟩
            obtain ⟨e, he, rfl, hc⟩ := (nin n).1 hn
            exact ⟨e, he, rfl, (hcb e).1 hc⟩
          · rintro ⟨e, he, rfl, hc⟩
            exact ⟨e.nm, (nin _).2 ⟨e, he, rfl, (hcb e).2 hc⟩, rfl⟩
        refine ⟨F, D4, xs, acc, rfl, rfl, hF11, hacc, by rw [hxl, hacl, sizeLine_eq]; omega, _, _, xs ++ acc, ps ++ ns.map (fun n => (d.nm, n)), rfl, same_mut (ek.trans eF) hF, upd_same, ?_, ?_, fun r => ?_, ?_⟩
        · rw [less_upd]
          exact pall_app (pall_same (less_same eF) hxs) (pall_less hF11 (fun _ z => nomatch z) (pall_same (less_sub _ _) hd11))
        · refine List.nodup_append.mpr ⟨hpn, nodup_map_of (fun a b e => (Prod.mk.inj e).2) nnd, fun r hr r' hr' e => ?_⟩
          subst e
          obtain ⟨n, hn, rfl⟩ := List.mem_map.mp hr'
          obtain ⟨d', hd', _, e', _, hp', _⟩ := (hpq _).1 hr
          have hdd : d.nm = d'.nm := (Prod.mk.inj hp').1
          have hes : (es.map (·.nm)).Nodup := (pes.map (·.nm)).nodup_iff.mpr hnd
          have e3 : d' = d := nm_inj hes (List.mem_of_getElem? hd) (List.mem_of_mem_take hd') hdd.symm
          rw [e3] at hd'
          have hnd2 : (es.take (i + 1)).Nodup := List.Sublist.nodup (List.take_sublist _ _) (nodup_of_map hes)
          rw [take_at hd] at hnd2
          exact (List.nodup_append.mp hnd2).2.2 d hd' d (List.mem_singleton.mpr rfl) rfl
        · rw [List.mem_append, hpq, hps, take_at hd]
          constructor
          · rintro (⟨d', hd', r'⟩ | r')
            · exact ⟨d', List.mem_append_left _ hd', r'⟩
            · exact ⟨d, List.mem_append_right _ (List.mem_singleton.mpr rfl), hcw2, r'⟩
          · rintro ⟨d', hd', hw', r'⟩
            rcases List.mem_append.mp hd' with z | z
            · exact .inl ⟨d', z, hw', r'⟩
            · rw [List.mem_singleton.mp z] at r'
              exact .inr r'
        · rw [List.length_append, List.length_map]
          omega
      · have hcw' : ¬ c ∈ wrote cols d := fun h => hcw (pw.mem_iff.mpr h)
        refine iteN (decide_eq_false hcw) ⟨_, _, xs, ps, rfl, ek, hk, hxs, hpn, fun q => (hpq q).trans ?_, by omega⟩
        rw [take_at hd]
        constructor
        · rintro ⟨d', hd', r⟩
          exact ⟨d', List.mem_append_left _ hd', r⟩
        · rintro ⟨d', hd', hw', r⟩
          rcases List.mem_append.mp hd' with z | z
          · exact ⟨d', z, hw', r⟩
          · rw [List.mem_singleton.mp z] at hw'
            exact absurd hw' hcw'
    · rintro σ Hk ⟨v5, v6, xs, ps, rfl, ek, hk, hxs, hpn, hpq, hpl⟩
      rw [hzl, List.take_length] at hpq
      exact ⟨_, rfl, k F xs ps Hk (y2.trans ek) (y2.free hF) hk (pall_same (less_sub _ _) hxs) hpn (fun q => (hpq q).trans (succBy_all hin)) (by omega)⟩
end
end K59
/-! D17 -/
set_option Elab.async false
set_option linter.all false
set_option maxRecDepth 100000
set_option maxHeartbeats 2000000
namespace K59
open PySem PySem.Spec PyProof.Rows L2 LamX
theorem kS_dec (k j : Kd) : decide (V.str (kS k) = V.str (kS j)) = decide (k = j) := by
  rw [decide_eq_decide]
  exact ⟨fun h => kS_inj (V.str.inj h), fun h => by rw [h]⟩
section
variable {P : Program} {w : World} {K : PySem.W.Frag} {mg : Str → Option Value} {base : Heap}
abbrev s__law_columns : Stmt := top 74
abbrev N__law_columns : List Str := ["_law_data_here", "_law_deed_here"]
theorem sc__law_columns : FnScope N__law_columns ["_law_data_here", "_law_deed_here"] (defScope s__law_columns) := ⟨rfl, rfl, rfl, by decide +kernel, rfl, by decide +kernel, by decide +kernel⟩
abbrev s__law_reached : Stmt := top 78
abbrev N__law_reached : List Str := ["_law_data_here", "_law_starts", "_law_is_any", "_law_column", "_law_found", "_law_turn", "_law_deed_here", "_law_one", "_law_two"]
theorem sc__law_reached : FnScope N__law_reached ["_law_data_here", "_law_starts", "_law_is_any", "_law_column"] (defScope s__law_reached) := ⟨rfl, rfl, rfl, by decide +kernel, rfl, by decide +kernel, by decide +kernel⟩
abbrev s__law_both : Stmt := top 81
abbrev N__law_both : List Str := ["_law_pair"]
theorem sc__law_both : FnScope N__law_both ["_law_pair"] (defScope s__law_both) := ⟨rfl, rfl, rfl, by decide +kernel, rfl, by decide +kernel, by decide +kernel⟩
abbrev s__law_price : Stmt := top 83
abbrev N__law_price : List Str := ["_law_bag_here"]
theorem sc__law_price : FnScope N__law_price ["_law_bag_here"] (defScope s__law_price) := ⟨rfl, rfl, rfl, by decide +kernel, rfl, by decide +kernel, by decide +kernel⟩
/-- a row of the data -/
theorem row_get {H : Hp} {u : V} {r : Dd × Option Nt} (h : Dp K H u (ddD r)) : ∃ a xs am ms ao v4, u = .ref a ∧ SqT K H a xs ∧ xs = [.str (kS r.1.k), .str r.1.nm, .ref am, .ref ao, v4] ∧ SqL K H am ms ∧ DpAll K H ms (r.1.mv.map pairD) ∧ SqL K H ao (r.1.own.map V.str) := by
  obtain ⟨a, xs, rfl, ha, hd⟩ := dp_tup h
  obtain ⟨v0, v1, v2, v3, v4, rfl, h0, h1, h2, h3, h4⟩ := dpa5 hd
  obtain rfl := dp_str h0
  obtain rfl := dp_str h1
  obtain ⟨am, ms, rfl, ham, hms⟩ := dp_lst h2
  obtain ⟨ao, rfl, hao⟩ := dp_strs h3
  exact ⟨a, _, am, ms, ao, v4, rfl, ha, rfl, ham, hms, hao⟩
/-- the data -/
theorem data_get {H : Hp} {v : V} {D : Da} (h : Dp K H v (daD D)) : ∃ a xs a0 a1 rs v2, v = .ref a ∧ SqT K H a xs ∧ xs = [.ref a0, .ref a1, v2] ∧ SqL K H a0 (D.cols.map V.str) ∧ SqL K H a1 rs ∧ DpAll K H rs (D.rows.map ddD) := by
  obtain ⟨a, xs, rfl, ha, hd⟩ := dp_tup h
  obtain ⟨v0, v1, v2, rfl, h0, h1, h2⟩ := dpa3 hd
  obtain ⟨a0, rfl, ha0⟩ := dp_strs h0
  obtain ⟨a1, rs, rfl, ha1, hrs⟩ := dp_lst h1
  exact ⟨a, _, a0, a1, rs, v2, rfl, ha, rfl, ha0, ha1, hrs⟩
def sp_columns (K : PySem.W.Frag) : Sp := fun vs H Q _ => ∃ (v u : V) (D : Da) (r : Dd × Option Nt), vs = [v, u] ∧ Dp K H v (daD D) ∧ Dp K H u (ddD r) ∧ ∀ p, SqL K H p ((wrote D.cols r.1).map V.str) → Q (.ref p) H
theorem ok_columns (T : Tx2 P K mg) : OkR P w K mg base 1 (He.fAd K ("_law_columns", none)) (sp_columns K) := by
  refine mkR T.f__law_columns sc__law_columns (fun vs H Q E h => ?_) (fun _ _ _ _ _ _ us hl => match us, hl with | [_, _], _ => rfl) fun cdv A outer s H vs Q E hr h => ?_
  · obtain ⟨_, _, _, _, rfl, _⟩ := h
    rfl
  · obtain ⟨v, u, D, r, rfl, hv, hu, k⟩ := h
    refine ⟨_, 
    (pss_one (ps_ret (pe_ifExp (pt_cmpR op_eq (pe_ix (ix_tupK K) (pv 1) pe_int (fun _ _ => rfl)) pe_str (nomark _)) (pe_ix (ix_tupK K) (pv 0) pe_int (fun _ _ => rfl)) (pe_ix (ix_tupK K) (pv 1) pe_int (fun _ _ => rfl))))), ?_⟩
    obtain ⟨a, xs, a0, a1, rs, v2, rfl, ha, rfl, ha0, ha1, hrs⟩ := data_get hv
    obtain ⟨b, ys, bm, ms, bo, v4, rfl, hb, rfl, hbm, hms, hbo⟩ := row_get hu
    refine ⟨_, rfl, b, _, _, _, rfl, rfl, hb, atI_nat (j := 0) rfl, rfl, _, rfl, ?_⟩
    by_cases hk : r.1.k = .mk
    · exact iteB ((kS_dec r.1.k .mk).trans (decide_eq_true hk)) ⟨_, rfl, a, _, _, _, rfl, rfl, ha, atI_nat (j := 0) rfl, k a0 (by unfold wrote; rw [if_pos hk]; exact ha0)⟩
    · exact iteN ((kS_dec r.1.k .mk).trans (decide_eq_false hk)) ⟨_, rfl, b, _, _, _, rfl, rfl, hb, atI_nat (j := 3) rfl, k bo (by unfold wrote; rw [if_neg hk]; exact hbo)⟩
/-- the deeds that count -/
def actB (b : Bool) (c : Str) (d : Dd) : Bool := b || (decide (d.k = .ch) && !decide (c ∈ d.own))
def sp_lreached (K : PySem.W.Frag) : Sp := fun vs H Q _ => ∃ (v : V) (ls : Addr) (b : Bool) (c : Str) (D : Da) (st U : List Str), vs = [v, .ref ls, .bl b, .str c] ∧ Dp K H v (daD D) ∧ SqL K H ls (st.map V.str) ∧ (∀ r ∈ D.rows, ∀ p ∈ r.1.mv, p.2 ∈ U) ∧ U.length ≤ 4 ∧ st.length ≤ 8 ∧
  ∀ (p : Addr) (fs : List Str) (H' : Hp), Same H H' → H p = none → H' p = some (.lst (fs.map V.str)) → (∀ s, s ∈ fs ↔ Reach ((D.rows.map (·.1)).filter (actB b c)) (· ∈ st) s) → fs.length ≤ st.length + 4 → Q (.ref p) H'
theorem ok_lreached (T : Tx2 P K mg) : OkR P w K mg base 1 (He.fAd K ("_law_reached", none)) (sp_lreached K) := by
  refine mkR T.f__law_reached sc__law_reached (fun vs H Q E h => ?_) (fun _ _ _ _ _ _ us hl => match us, hl with | [_, _, _, _], _ => rfl) fun cdv A outer s H vs Q E hr h => ?_
  · obtain ⟨_, _, _, _, _, _, _, rfl, _⟩ := h
    rfl
  · obtain ⟨v, ls, b, c, D, st, U, rfl, hv, hls, hU, hUl, hstl, k⟩ := h
    refine ⟨_, 
    (pss_cons (ps_set (i := 4) sc__law_reached.nd rfl (Or.inl rfl) (pe_callTy (listK K) (by rfl) T.n_list (by decide +kernel) (pa_cons (pv 1) pa_nil))) 
    (pss_cons (ps_for PassesOwn.never rfl (pi_range1 (by rfl) T.n_range (pa_cons pe_int pa_nil)) (pg_name (i := 5) sc__law_reached.nd rfl (Or.inl rfl)) 
      (pss_one (ps_for PassesOwn.never rfl (pi_listK K (pe_ix (ix_tupK K) (pv 0) pe_int (fun _ _ => rfl))) (pg_name (i := 6) sc__law_reached.nd rfl (Or.inl rfl)) 
        (pss_one (ps_if (PW.pt (pw_or (pt_val (pv 2) (by intro _; rfl)) (pw_or1 (PW.pt (pw_and (pt_cmpR op_eq (pe_ix (ix_tupK K) (pv 6) pe_int (fun _ _ => rfl)) pe_str (nomark _)) (pw_and1 (pt_cmpR (notInK K) (pv 3) (pe_ix (ix_tupK K) (pv 6) pe_int (fun _ _ => rfl)) (by rfl)))))))) 
          (pss_one (ps_for PassesOwn.never rfl (pi_listK K (pe_ix (ix_tupK K) (pv 6) pe_int (fun _ _ => rfl))) (pg_tupK (n := 2) K (by rfl) (pgs_cons (pg_name (i := 7) sc__law_reached.nd rfl (Or.inl rfl)) (pgs_cons (pg_name (i := 8) sc__law_reached.nd rfl (Or.inl rfl)) pgs_nil))) 
            (pss_one (ps_if (PW.pt (pw_and (pt_cmpR (inK K) (pv 7) (pv 4) (by rfl)) (pw_and1 (pt_cmpR (notInK K) (pv 8) (pv 4) (by rfl))))) 
              (pss_one (ps_expr (pe_bm PySem.F.plainAttrs_list PySem.F.slot_list_append PySem.F.type_list_append mt_append (pv 4) (pa_cons (pv 8) pa_nil)))) pss_nil)))) pss_nil))))) 
    (pss_one (ps_ret (pv 4))))), ?_⟩
    obtain ⟨a, xs, a0, a1, rs, v2, rfl, ha, rfl, ha0, ha1, hrs⟩ := data_get hv
    refine ⟨_, rfl, ls, _, rfl, .inl hls, fun l hl => ?_⟩
    have y0 : Same H (upd H l (.lst (st.map V.str))) := same_upd hl
    have h0 : upd H l (.lst (st.map V.str)) l = some (.lst (st.map V.str)) := upd_same
    generalize upd H l (.lst (st.map V.str)) = H0 at y0 h0
    generalize hds : (D.rows.map (·.1)).filter (actB b c) = ds at k
    have St : ∀ (v5 v6 v7 v8 : Option V), True := fun _ _ _ _ => trivial
    refine ⟨5, rfl, by decide, by decide, for_range (lo := 0) (n := 5) (fun i σ H1 => ∃ (v5 v6 v7 v8 : Option V) (fs : List Str), σ = [some (.ref a), some (.ref ls), some (.bl b), some (.str c), some (.ref l), v5, v6, v7, v8] ∧ Same H H1 ∧ H1 l = some (.lst (fs.map V.str)) ∧ WInv ds st U fs i (fun _ => False)) ⟨none, none, none, none, st, rfl, y0, h0, winv_start⟩ ?_ ?_⟩
    · rintro i σ H1 hi ⟨v5, v6, v7, v8, fs, rfl, e1, h1, W1⟩
      refine ⟨_, rfl, a, _, _, _, rfl, rfl, same_tup e1 ha, atI_nat (j := 1) rfl, a1, rfl, ⟨_, e1.seq ha1⟩, for_lst (K := K) (a := a1) (xs := rs) (fun j σ H2 => ∃ (v6 v7 v8 : Option V) (fs : List Str), σ = [some (.ref a), some (.ref ls), some (.bl b), some (.str c), some (.ref l), some (.int (0 + (i : Int))), v6, v7, v8] ∧ Same H H2 ∧ H2 l = some (.lst (fs.map V.str)) ∧ WInv ds st U fs i (fun q => ∃ r ∈ D.rows.take j, actB b c r.1 = true ∧ q ∈ r.1.mv)) ⟨v6, v7, v8, fs, rfl, e1, h1, winv_mono W1 fun q ⟨r, hr, _⟩ => (nomatch hr)⟩ (fun j σ H2 _ ⟨_, _, _, _, _, e, _⟩ => e.seq ha1) ?_ ?_⟩
      · rintro j y σ H2 hj ⟨v6, v7, v8, fs, rfl, e2, h2, W2⟩
        obtain ⟨r, hr', hDr⟩ := dpa_rows_get hrs hj
        have hmem := List.mem_of_getElem? hr'
        obtain ⟨q, ys, qm, ms, qo, v4, rfl, hq, rfl, hqm, hms, hqo⟩ := row_get hDr
        have yq := same_tup e2 hq
        refine ifS_by (actB b c r.1) (fun Qc hQ => ?_) ?_
        · refine ⟨_, rfl, _, rfl, ?_⟩
          cases b with
          | true => exact iteT hQ
          | false =>
            refine iteF ⟨_, rfl, q, _, _, _, rfl, rfl, yq, atI_nat (j := 0) rfl, rfl, _, rfl, ?_⟩
            unfold actB at hQ
            by_cases hk : r.1.k = .ch
            · refine iteB ((kS_dec r.1.k .ch).trans (decide_eq_true hk)) ⟨_, rfl, _, rfl, q, _, _, _, rfl, rfl, yq, atI_nat (j := 3) rfl, qo, _, rfl, .inl (e2.seq hqo), rfl, flat_strs _, _, rfl, ?_⟩
              rw [inV_strs]
              rw [decide_eq_true hk] at hQ
              simpa using hQ
            · refine iteN ((kS_dec r.1.k .ch).trans (decide_eq_false hk)) ?_
              rw [decide_eq_false hk] at hQ
              simpa using hQ
        · have hstep : ∀ (fs' : List Str) (D' : Str × Str → Prop), WInv ds st U fs' i D' → (∀ q', (∃ r' ∈ D.rows.take (j + 1), actB b c r'.1 = true ∧ q' ∈ r'.1.mv) → D' q') → WInv ds st U fs' i (fun q' => ∃ r' ∈ D.rows.take (j + 1), actB b c r'.1 = true ∧ q' ∈ r'.1.mv) := fun fs' D' W hD => winv_mono W hD
          by_cases hact : actB b c r.1 = true
          · rw [if_pos hact]
            have hrd : r.1 ∈ ds := by
              rw [← hds]
              exact List.mem_filter.mpr ⟨List.mem_map.mpr ⟨r, hmem, rfl⟩, hact⟩
            refine ⟨_, rfl, q, _, _, _, rfl, rfl, yq, atI_nat (j := 2) rfl, qm, rfl, ⟨_, e2.seq hqm⟩, for_list (K := K) (a := qm) (xs := ms) (fun m σ H3 => ∃ (v7 v8 : Option V) (fs : List Str), σ = [some (.ref a), some (.ref ls), some (.bl b), some (.str c), some (.ref l), some (.int (0 + (i : Int))), some (.ref q), v7, v8] ∧ Same H H3 ∧ H3 l = some (.lst (fs.map V.str)) ∧ WInv ds st U fs i (fun q' => (∃ r' ∈ D.rows.take j, actB b c r'.1 = true ∧ q' ∈ r'.1.mv) ∨ q' ∈ r.1.mv.take m)) ⟨v7, v8, fs, rfl, e2, h2, winv_mono W2 fun q' h => h.elim id fun h => (nomatch h)⟩ (fun m σ H3 _ ⟨_, _, _, _, e, _⟩ => e.seq hqm) ?_ ?_⟩
            · rintro m z σ H3 hm ⟨v7, v8, fs, rfl, e3, h3, W3⟩
              obtain ⟨pr, t, hpr, rfl, ht⟩ := dpa_pairs_get hms hm
              have hpm := List.mem_of_getElem? hpr
              have hD : ∀ q', ((∃ r' ∈ D.rows.take j, actB b c r'.1 = true ∧ q' ∈ r'.1.mv) ∨ q' ∈ r.1.mv.take (m + 1)) → ((∃ r' ∈ D.rows.take j, actB b c r'.1 = true ∧ q' ∈ r'.1.mv) ∨ q' ∈ r.1.mv.take m) ∨ q' = pr := fun q' h => by
                rcases h with h | h
                · exact .inl (.inl h)
                · rw [take_at hpr] at h
                  rcases List.mem_append.mp h with h | h
                  · exact .inl (.inr h)
                  · exact .inr (List.mem_singleton.mp h)
              have hl3 := winv_len W3
              refine ⟨t, _, rfl, same_tup e3 ht, rfl, _, _, rfl, _, _, rfl, rfl, ?_⟩
              refine ifS_by (decide (pr.1 ∈ fs) && !decide (pr.2 ∈ fs)) (fun Qc hQ => ?_) ?_
              · refine ⟨_, rfl, _, rfl, l, _, rfl, .inl (SqL.of h3), rfl, flat_strs fs, _, rfl, ?_⟩
                rw [inV_strs]
                by_cases h1 : pr.1 ∈ fs
                · refine iteB (decide_eq_true h1) ⟨_, rfl, _, rfl, l, _, rfl, .inl (SqL.of h3), rfl, flat_strs fs, _, rfl, ?_⟩
                  rw [inV_strs]
                  rw [decide_eq_true h1] at hQ
                  simpa using hQ
                · refine iteN (decide_eq_false h1) ?_
                  rw [decide_eq_false h1] at hQ
                  simpa using hQ
              · by_cases h1 : pr.1 ∈ fs
                · by_cases h2' : pr.2 ∈ fs
                  · rw [decide_eq_true h1, decide_eq_true h2']
                    exact ⟨_, _, fs, rfl, e3, h3, winv_mono (winv_skip W3 (p := pr) fun _ => h2') hD⟩
                  · rw [decide_eq_true h1, decide_eq_false h2']
                    refine ⟨_, rfl, .inl ⟨rfl, _, .inl (.inl h3)⟩, _, rfl, l, _, _, rfl, rfl, h3, by rw [List.length_map, sizeLine_eq]; omega, _, _, fs ++ [pr.2], rfl, same_mut e3 hl, by rw [List.map_append]; exact upd_same, winv_mono (winv_add W3 hrd hpm h1 h2' (hU r hmem pr hpm)) hD⟩
                · rw [decide_eq_false h1]
                  exact ⟨_, _, fs, rfl, e3, h3, winv_mono (winv_skip W3 (p := pr) fun h => absurd h h1) hD⟩
            · rintro σ H3 ⟨v7, v8, fs, rfl, e3, h3, W3⟩
              refine ⟨_, _, _, fs, rfl, e3, h3, winv_mono W3 fun q' ⟨r', h4, h5, h6⟩ => ?_⟩
              have hml : ms.length = r.1.mv.length := by
                have := dpa_len hms
                rw [List.length_map] at this
                exact this
              rw [hml, List.take_length]
              rw [take_at hr'] at h4
              rcases List.mem_append.mp h4 with h4 | h4
              · exact .inl ⟨r', h4, h5, h6⟩
              · rw [List.mem_singleton.mp h4] at h6
                exact .inr h6
          · rw [if_neg hact]
            refine ⟨_, _, _, fs, rfl, e2, h2, winv_mono W2 fun q' ⟨r', h4, h5, h6⟩ => ?_⟩
            rw [take_at hr'] at h4
            rcases List.mem_append.mp h4 with h4 | h4
            · exact ⟨r', h4, h5, h6⟩
            · rw [List.mem_singleton.mp h4] at h5
              exact absurd h5 hact
      · rintro σ H2 ⟨v6, v7, v8, fs, rfl, e2, h2, W2⟩
        refine ⟨_, _, _, _, fs, rfl, e2, h2, winv_round W2 fun d hd p hp => ?_⟩
        rw [← hds] at hd
        obtain ⟨h3, h4⟩ := List.mem_filter.mp hd
        obtain ⟨r, hr', rfl⟩ := List.mem_map.mp h3
        have hrl : rs.length = D.rows.length := by
          have := dpa_len hrs
          rw [List.length_map] at this
          exact this
        rw [hrl, List.take_length]
        exact ⟨r, hr', h4, hp⟩
    · rintro σ H1 ⟨v5, v6, v7, v8, fs, rfl, e1, h1, W1⟩
      have := winv_len W1
      exact ⟨_, rfl, k l fs H1 e1 hl h1 (winv_end W1 (by omega)) (by omega)⟩
def sp_both (K : PySem.W.Frag) : Sp := fun vs H Q _ => ∃ (a : Addr) (x y : Str), vs = [.ref a] ∧ SqT K H a [.str x, .str y] ∧
  ∀ (p : Addr) (xs : List V) (H' : Hp), Same H H' → H p = none → H' p = some (.lst xs) → DpAll K H' xs ([(("new" : Str), x), (("old" : Str), y)].map pairD) → Q (.ref p) H'
theorem ok_both (T : Tx2 P K mg) : OkR P w K mg base 1 (He.fAd K ("_law_both", none)) (sp_both K) := by
  refine mkR T.f__law_both sc__law_both (fun vs H Q E h => ?_) (fun _ _ _ _ _ _ us hl => match us, hl with | [_], _ => rfl) fun cdv A outer s H vs Q E hr h => ?_
  · obtain ⟨_, _, _, rfl, _⟩ := h
    rfl
  · obtain ⟨a, x, y, rfl, ha, k⟩ := h
    refine ⟨_, 
    (pss_one (ps_ret (pe_lst (pa_cons (pe_tup (pa_cons pe_str (pa_cons (pe_ix (ix_tupK K) (pv 0) pe_int (fun _ _ => rfl)) pa_nil))) (pa_cons (pe_tup (pa_cons pe_str (pa_cons (pe_ix (ix_tupK K) (pv 0) pe_int (fun _ _ => rfl)) pa_nil))) pa_nil))))), ?_⟩
    refine ⟨_, rfl, a, _, _, _, rfl, rfl, ha, atI_nat (j := 0) rfl, (show 2 ≤ sizeLine by decide), fun p hp => ?_⟩
    have yp : ∀ u, Same H (upd H p u) := fun u => same_upd hp
    refine ⟨_, rfl, a, _, _, _, rfl, rfl, same_tup (yp _) ha, atI_nat (j := 1) rfl, (show 2 ≤ sizeLine by decide), fun q hq => ?_⟩
    have yq : ∀ u, Same (upd H p (.tup [.str "new", .str x])) (upd (upd H p (.tup [.str "new", .str x])) q u) := fun u => same_upd hq
    refine ⟨(show 2 ≤ sizeLine by decide), fun r hr' => ?_⟩
    have yr : ∀ u, Same (upd (upd H p (.tup [.str "new", .str x])) q (.tup [.str "old", .str y])) (upd (upd (upd H p (.tup [.str "new", .str x])) q (.tup [.str "old", .str y])) r u) := fun u => same_upd hr'
    exact k r _ _ ((yp _).trans ((yq _).trans (yr _))) ((yp _).free ((yq _).free hr')) upd_same (.cons (dp_pair_mk (yr _ _ _ (yq _ _ _ upd_same))) (.cons (dp_pair_mk (yr _ _ _ upd_same)) .nil))
def sp_price : Sp := fun vs H Q _ => ∃ b, vs = [.ref b] ∧ H b = some (BagO b) ∧ ∀ (i : Int) H', Same H H' → 1 ≤ i → i ≤ 1000000000 → Q (.int i) H'
theorem ok_price (T : Tx2 P K mg) : OkR P w K mg base 3 (He.fAd K ("_law_price", none)) sp_price := by
  have G__law_take : OkR P w K mg base 1 (He.fAd K ("_law_take", none)) sp_take := ok_take T.toTx0
  have G__law_of : OkR P w K mg base 2 (He.fAd K ("_law_of", none)) sp_of := ok_of T.toTx0
  refine mkR T.f__law_price sc__law_price (fun vs H Q E h => ?_) (fun _ _ _ _ _ _ us hl => match us, hl with | [_], _ => rfl) fun cdv A outer s H vs Q E hr h => ?_
  · obtain ⟨_, rfl, _⟩ := h
    rfl
  · obtain ⟨b, rfl, hb, k⟩ := h
    refine ⟨_, 
    (pss_one (ps_ret (pe_callF G__law_of (hr.mono (by decide)) (by rfl) T.g__law_of (pa_cons (pv 0) (pa_cons (pe_lst (pa_cons pe_int (pa_cons pe_int (pa_cons pe_int (pa_cons pe_int (pa_cons pe_int (pa_cons (pe_op op_add pe_int (pe_callF G__law_take (hr.mono (by decide)) (by rfl) T.g__law_take (pa_cons (pv 0) (pa_cons pe_int pa_nil)))) (pa_cons (pe_op op_pow pe_int pe_int) (pa_cons (pe_op op_add pe_int (pe_callF G__law_take (hr.mono (by decide)) (by rfl) T.g__law_take (pa_cons (pv 0) (pa_cons (pe_op op_pow pe_int pe_int) pa_nil)))) pa_nil))))))))) pa_nil))))), ?_⟩
    have e9 : (10 : Int) ^ (9 : Int).toNat = 1000000000 := by decide
    have c9 : CPow 10 9 := ⟨by decide, by decide, by decide⟩
    refine ⟨_, rfl, _, rfl, b, 10, rfl, hb, by decide, by decide, fun r1 h1 h2 => ⟨_, _, rfl, rfl, _, _, rfl, rfl, c9, _, rfl, _, _, rfl, rfl, c9, b, _, rfl, hb, by rw [e9]; decide, by rw [e9]; decide, fun r2 h3 h4 => ⟨_, _, rfl, rfl, ?_⟩⟩⟩
    rw [e9] at h4
    refine ⟨(show 8 ≤ sizeLine by decide), fun l hl => ⟨b, l, _, rfl, same_upd hl _ _ hb, upd_same, by simp, (show 8 < 1073741824 by decide), fun i v hv => ?_⟩⟩
    obtain ⟨z, rfl, z1, z2⟩ : ∃ z : Int, v = .int z ∧ 1 ≤ z ∧ z ≤ 1000000000 := by
      have hm := List.mem_of_getElem? hv
      simp only [List.mem_cons, List.not_mem_nil, or_false] at hm
      rcases hm with rfl | rfl | rfl | rfl | rfl | rfl | rfl | rfl
      · exact ⟨1, rfl, by decide, by decide⟩
      · exact ⟨1, rfl, by decide, by decide⟩
      · exact ⟨2, rfl, by decide, by decide⟩
      · exact ⟨3, rfl, by decide, by decide⟩
      · exact ⟨5, rfl, by decide, by decide⟩
      · exact ⟨_, rfl, by omega, by omega⟩
      · exact ⟨_, rfl, by rw [e9]; decide, by rw [e9]; decide⟩
      · exact ⟨_, rfl, by omega, by omega⟩
    exact k z _ (same_upd hl) z1 z2
end
end K59
/-! D18 -/
set_option Elab.async false
set_option linter.all false
set_option maxRecDepth 100000
set_option maxHeartbeats 2000000
namespace K59
open PySem PySem.Spec PyProof.Rows L2 LamX
/-! ### sides -/
def endsB (c : Str) (d : Dd) : Bool := decide (d.k = .en) || (decide (d.k = .ch) && decide (c ∈ d.own))
def IsSide (cols : List Str) (ds : List Dd) (c : Str) (q : Str × Str) : Prop := ∃ d ∈ ds, (c ∈ wrote cols d ∧ q = (("new" : Str), d.nm)) ∨ (endsB c d = true ∧ q = (("old" : Str), d.nm))
theorem new_old {a b : Str} : ¬ ((("new" : Str), a) = (("old" : Str), b)) := fun h => absurd (Prod.mk.inj h).1 (by decide)
/-- a list of pairs that grows at F -/
structure PairsIn (K : PySem.W.Frag) (H : Hp) (F : Addr) (ps : List (Str × Str)) : Prop where
  ex : ∃ xs, H F = some (.lst xs) ∧ xs.length = ps.length ∧ PAll (less F H) xs ps
theorem pin_same {K : PySem.W.Frag} {H H' : Hp} {F : Addr} {ps : List (Str × Str)} (e : Same H H') (h : PairsIn K H F ps) : PairsIn K H' F ps := by
  obtain ⟨xs, h1, h2, h3⟩ := h.ex
  exact ⟨xs, e _ _ h1, h2, pall_same (less_same e) h3⟩
theorem pin_push {K : PySem.W.Frag} {H : Hp} {F t : Addr} {xs : List V} {ps : List (Str × Str)} {x y : Str} (h : H F = some (.lst xs)) (hl : xs.length = ps.length) (hd : PAll (less F H) xs ps) (ht : H t = none) :
    PairsIn K (upd (upd H t (.tup [.str x, .str y])) F (.lst (xs ++ [.ref t]))) F (ps ++ [(x, y)]) := by
  refine ⟨_, upd_same, by rw [List.length_append, List.length_append, hl]; rfl, ?_⟩
  rw [less_upd]
  refine pall_snoc (pall_same (less_same (same_upd ht)) hd) ⟨t, rfl, ?_⟩
  rw [less_ne (ne_of_none h ht).symm]
  exact upd_same
theorem pin_pairsT {K : PySem.W.Frag} {H : Hp} {F : Addr} {ps : List (Str × Str)} (h : PairsIn K H F ps) : ∃ xs, H F = some (.lst xs) ∧ PAll H xs ps := by
  obtain ⟨xs, h1, _, h3⟩ := h.ex
  exact ⟨xs, h1, pall_same (less_sub _ _) h3⟩
theorem pin_pairsAt {K : PySem.W.Frag} {H : Hp} {F : Addr} {ps : List (Str × Str)} (h : PairsIn K H F ps) : ∃ xs, H F = some (.lst xs) ∧ DpAll K H xs (ps.map pairD) := by
  obtain ⟨xs, h1, h3⟩ := pin_pairsT h
  exact ⟨xs, h1, pall_dpa h3⟩
theorem isP_of {K : PySem.W.Frag} {H : Hp} {xs : List V} {ps : List (Str × Str)} (hd : DpAll K H xs (ps.map pairD)) : ∀ x ∈ xs, IsP K H x := fun y hy => by
  obtain ⟨i, hi⟩ := List.mem_iff_getElem?.mp hy
  obtain ⟨pr, t, hpr, rfl, ht⟩ := dpa_pairs_get hd hi
  exact ⟨t, _, _, rfl, ht⟩
/-- the scope of the outer comprehension of _law_tells -/
def scTells : Scope := (compEnvC { kind := .function, names := [(".0", .local), ("_law_pair", .local), ("_law_both", .globalImplicit), ("_law_sides_here", .free)], isGenerator := false, isCoroutine := false } [] 0 (envOfC "" (defScope (top 82)) 0 0 .none)).scope
section
variable {P : Program} {w : World} {K : PySem.W.Frag} {mg : Str → Option Value} {base : Heap}
abbrev s__law_sides : Stmt := top 80
abbrev N__law_sides : List Str := ["_law_data_here", "_law_column", "_law_found", "_law_deed_here"]
theorem sc__law_sides : FnScope N__law_sides ["_law_data_here", "_law_column"] (defScope s__law_sides) := ⟨rfl, rfl, rfl, by decide +kernel, rfl, by decide +kernel, by decide +kernel⟩
abbrev s__law_tells : Stmt := top 82
abbrev N__law_tells : List Str := ["_law_pairs_here", "_law_sides_here", "_law_pair", "_law_side"]
theorem sc__law_tells : FnScope N__law_tells ["_law_pairs_here", "_law_sides_here"] (defScope s__law_tells) := ⟨rfl, rfl, rfl, by decide +kernel, rfl, by decide +kernel, by decide +kernel⟩
def sp_sides (K : PySem.W.Frag) : Sp := fun vs H Q _ => ∃ (v : V) (c : Str) (D : Da), vs = [v, .str c] ∧ Dp K H v (daD D) ∧ (D.rows.map (·.1.nm)).Nodup ∧ D.rows.length ≤ 5 ∧
  ∀ (p : Addr) (xs : List V) (ps : List (Str × Str)) (H' : Hp), Same H H' → H p = none → H' p = some (.lst xs) → PAll H' xs ps → ps.Nodup → (∀ q, q ∈ ps ↔ IsSide D.cols (D.rows.map (·.1)) c q) → ps.length ≤ 10 → Q (.ref p) H'
theorem ok_sides (T : Tx2 P K mg) : OkR P w K mg base 2 (He.fAd K ("_law_sides", none)) (sp_sides K) := by
  have G__law_columns : OkR P w K mg base 1 (He.fAd K ("_law_columns", none)) (sp_columns K) := ok_columns T
  refine mkR T.f__law_sides sc__law_sides (fun vs H Q E h => ?_) (fun _ _ _ _ _ _ us hl => match us, hl with | [_, _], _ => rfl) fun cdv A outer s H vs Q E hr h => ?_
  · obtain ⟨_, _, _, rfl, _⟩ := h
    rfl
  · obtain ⟨v, c, D, rfl, hv, hnd, hrl, k⟩ := h
    refine ⟨_, 
    (pss_cons (ps_set (i := 2) sc__law_sides.nd rfl (Or.inl rfl) (pe_lst pa_nil)) 
    (pss_cons (ps_for PassesOwn.never rfl (pi_listK K (pe_ix (ix_tupK K) (pv 0) pe_int (fun _ _ => rfl))) (pg_name (i := 3) sc__law_sides.nd rfl (Or.inl rfl)) 
      (pss_cut (ps_if (pt_cmpR (inK K) (pv 1) (pe_callF G__law_columns (hr.mono (by decide)) (by rfl) T.g__law_columns (pa_cons (pv 0) (pa_cons (pv 3) pa_nil))) (by rfl)) 
        (pss_one (ps_expr (pe_bm PySem.F.plainAttrs_list PySem.F.slot_list_append PySem.F.type_list_append mt_append (pv 2) (pa_cons (pe_tup (pa_cons pe_str (pa_cons (pe_ix (ix_tupK K) (pv 3) pe_int (fun _ _ => rfl)) pa_nil))) pa_nil)))) pss_nil) 
      (pss_one (ps_if (PW.pt (pw_or (pt_cmpR op_eq (pe_ix (ix_tupK K) (pv 3) pe_int (fun _ _ => rfl)) pe_str (nomark _)) (pw_or1 (PW.pt (pw_and (pt_cmpR op_eq (pe_ix (ix_tupK K) (pv 3) pe_int (fun _ _ => rfl)) pe_str (nomark _)) (pw_and1 (pt_cmpR (inK K) (pv 1) (pe_ix (ix_tupK K) (pv 3) pe_int (fun _ _ => rfl)) (by rfl)))))))) 
        (pss_one (ps_expr (pe_bm PySem.F.plainAttrs_list PySem.F.slot_list_append PySem.F.type_list_append mt_append (pv 2) (pa_cons (pe_tup (pa_cons pe_str (pa_cons (pe_ix (ix_tupK K) (pv 3) pe_int (fun _ _ => rfl)) pa_nil))) pa_nil)))) pss_nil)))) 
    (pss_one (ps_ret (pe_callB (cr_sortPS K) (by rfl) T.n_sorted (by decide +kernel) (pa_cons (pv 2) pa_nil)))))), ?_⟩
    obtain ⟨a, xs, a0, a1, rs, v2, rfl, ha, rfl, ha0, ha1, hrs⟩ := data_get hv
    have hrsl : rs.length = D.rows.length := by
      have := dpa_len hrs
      rw [List.length_map] at this
      exact this
    refine ⟨Nat.zero_le _, fun F hF => ?_⟩
    have yF : Same H (upd H F (.lst [])) := same_upd hF
    have pF : PairsIn K (upd H F (.lst [])) F [] := ⟨[], upd_same, rfl, .nil⟩
    generalize upd H F (.lst []) = H0 at yF pF
    refine ⟨_, rfl, a, _, _, _, rfl, rfl, same_tup yF ha, atI_nat (j := 1) rfl, a1, rfl, ⟨_, yF.seq ha1⟩, for_lst (K := K) (a := a1) (xs := rs) (fun i σ H1 => ∃ (v3 : Option V) (ps : List (Str × Str)), σ = [some (.ref a), some (.str c), some (.ref F), v3] ∧ Same H H1 ∧ PairsIn K H1 F ps ∧ ps.Nodup ∧ (∀ q, q ∈ ps ↔ IsSide D.cols ((D.rows.map (·.1)).take i) c q) ∧ ps.length ≤ 2 * i) ⟨none, [], rfl, yF, pF, List.nodup_nil, fun q => ⟨fun h => (nomatch h), fun ⟨d, hd, _⟩ => (nomatch hd)⟩, Nat.le_refl _⟩ (fun i σ H1 _ ⟨_, _, _, e, _⟩ => e.seq ha1) ?_ ?_⟩
    · rintro i y σ H1 hi ⟨v3, ps, rfl, e1, pI, pn, pq, pl⟩
      obtain ⟨r, hr', hDr⟩ := dpa_rows_get hrs hi
      have hmem := List.mem_of_getElem? hr'
      have hlt := (List.getElem?_eq_some_iff.mp hr').1
      have hrd : (D.rows.map (·.1))[i]? = some r.1 := by rw [List.getElem?_map, hr']; rfl
      have hns : (((D.rows.map (·.1)).map (·.nm))).Nodup := by rw [List.map_map]; exact hnd
      have hnew : ∀ (b : Str), (b, r.1.nm) ∉ ps := fun b hb => by
        obtain ⟨d, hd, hq⟩ := (pq _).1 hb
        have e3 : d.nm = r.1.nm := by
          rcases hq with ⟨_, h⟩ | ⟨_, h⟩
          · exact (Prod.mk.inj h).2.symm
          · exact (Prod.mk.inj h).2.symm
        have e4 : d = r.1 := nm_inj hns (List.mem_of_getElem? hrd) (List.mem_of_mem_take hd) e3
        rw [e4] at hd
        have hnd2 : ((D.rows.map (·.1)).take (i + 1)).Nodup := List.Sublist.nodup (List.take_sublist _ _) (nodup_of_map hns)
        rw [take_at hrd] at hnd2
        exact (List.nodup_append.mp hnd2).2.2 _ hd _ (List.mem_singleton.mpr rfl) rfl
      obtain ⟨q, ys, qm, ms, qo, v4, rfl, hq, rfl, hqm, hms, hqo⟩ := row_get hDr
      refine ⟨fun σ' H' => ∃ ps' : List (Str × Str), σ' = [some (.ref a), some (.str c), some (.ref F), some (.ref q)] ∧ Same H H' ∧ PairsIn K H' F ps' ∧ ps'.Nodup ∧ (∀ z, z ∈ ps' ↔ (IsSide D.cols ((D.rows.map (·.1)).take i) c z ∨ (c ∈ wrote D.cols r.1 ∧ z = (("new" : Str), r.1.nm)))) ∧ (("old" : Str), r.1.nm) ∉ ps' ∧ ps'.length ≤ 2 * i + 1, ?_, ?_⟩
      · refine ⟨_, rfl, _, rfl, _, rfl, _, _, D, r, rfl, dp_same e1 hv, dp_same e1 hDr, fun wp hw => ?_⟩
        refine ⟨wp, _, rfl, .inl hw, rfl, flat_strs _, _, rfl, ?_⟩
        rw [inV_strs]
        by_cases hcw : c ∈ wrote D.cols r.1
        · obtain ⟨zs, hz1, hz2, hz3⟩ := pI.ex
          refine iteB (decide_eq_true hcw) ⟨_, rfl, .inl ⟨rfl, _, .inl (.inl hz1)⟩, _, rfl, q, _, _, _, rfl, rfl, same_tup e1 hq, atI_nat (j := 1) rfl, (show 2 ≤ sizeLine by decide), fun t ht => ?_⟩
          refine ⟨F, _, _, rfl, rfl, same_upd ht _ _ hz1, by rw [hz2, sizeLine_eq]; omega, ps ++ [(("new" : Str), r.1.nm)], rfl, same_mut (e1.trans (same_upd ht)) hF, pin_push hz1 hz2 hz3 ht, ?_, fun z => ?_, fun h => ?_, by rw [List.length_append]; exact Nat.add_le_add_right pl 1⟩
          · refine List.nodup_append.mpr ⟨pn, List.nodup_cons.mpr ⟨List.not_mem_nil, List.nodup_nil⟩, fun x hx y hy e => ?_⟩
            rw [List.mem_singleton.mp hy] at e
            rw [e] at hx
            exact hnew _ hx
          · rw [List.mem_append, List.mem_singleton, pq]
            exact ⟨fun h => h.imp_right fun h => ⟨hcw, h⟩, fun h => h.imp_right fun h => h.2⟩
          · rcases List.mem_append.mp h with h | h
            · exact hnew _ h
            · exact new_old (List.mem_singleton.mp h).symm
        · exact iteN (decide_eq_false hcw) ⟨ps, rfl, e1, pI, pn, fun z => (pq z).trans ⟨.inl, fun h => h.elim id fun h => absurd h.1 hcw⟩, hnew _, by omega⟩
      · rintro σ' H2 ⟨ps', rfl, e2, pI2, pn2, pq2, hno, pl2⟩
        refine ifS_by (endsB c r.1) (fun Qc hQ => ?_) ?_
        · refine ⟨_, rfl, q, _, _, _, rfl, rfl, same_tup e2 hq, atI_nat (j := 0) rfl, rfl, _, rfl, ?_⟩
          unfold endsB at hQ
          by_cases hk : r.1.k = .en
          · refine iteB ((kS_dec r.1.k .en).trans (decide_eq_true hk)) ?_
            rw [decide_eq_true hk] at hQ
            exact hQ
          · rw [decide_eq_false hk] at hQ
            refine iteN ((kS_dec r.1.k .en).trans (decide_eq_false hk)) ⟨_, rfl, q, _, _, _, rfl, rfl, same_tup e2 hq, atI_nat (j := 0) rfl, rfl, _, rfl, ?_⟩
            by_cases hk2 : r.1.k = .ch
            · rw [decide_eq_true hk2] at hQ
              refine iteB ((kS_dec r.1.k .ch).trans (decide_eq_true hk2)) ⟨_, rfl, _, rfl, q, _, _, _, rfl, rfl, same_tup e2 hq, atI_nat (j := 3) rfl, qo, _, rfl, .inl (e2.seq hqo), rfl, flat_strs _, _, rfl, ?_⟩
              rw [inV_strs]
              simpa using hQ
            · rw [decide_eq_false hk2] at hQ
              exact iteN ((kS_dec r.1.k .ch).trans (decide_eq_false hk2)) (by simpa using hQ)
        · have step : ∀ z, (IsSide D.cols ((D.rows.map (·.1)).take (i + 1)) c z ↔ (IsSide D.cols ((D.rows.map (·.1)).take i) c z ∨ (c ∈ wrote D.cols r.1 ∧ z = (("new" : Str), r.1.nm))) ∨ (endsB c r.1 = true ∧ z = (("old" : Str), r.1.nm))) := fun z => by
            rw [take_at hrd]
            constructor
            · rintro ⟨d, hd, h⟩
              rcases List.mem_append.mp hd with hd | hd
              · exact .inl (.inl ⟨d, hd, h⟩)
              · rw [List.mem_singleton.mp hd] at h
                rcases h with h | h
                · exact .inl (.inr h)
                · exact .inr h
            · rintro ((⟨d, hd, h⟩ | h) | h)
              · exact ⟨d, List.mem_append_left _ hd, h⟩
              · exact ⟨r.1, List.mem_append_right _ (List.mem_singleton.mpr rfl), .inl h⟩
              · exact ⟨r.1, List.mem_append_right _ (List.mem_singleton.mpr rfl), .inr h⟩
          by_cases hE : endsB c r.1 = true
          · obtain ⟨zs, hz1, hz2, hz3⟩ := pI2.ex
            rw [if_pos hE]
            refine ⟨_, rfl, .inl ⟨rfl, _, .inl (.inl hz1)⟩, _, rfl, q, _, _, _, rfl, rfl, same_tup e2 hq, atI_nat (j := 1) rfl, (show 2 ≤ sizeLine by decide), fun t ht => ?_⟩
            refine ⟨F, _, _, rfl, rfl, same_upd ht _ _ hz1, by rw [hz2, sizeLine_eq]; omega, _, ps' ++ [(("old" : Str), r.1.nm)], rfl, same_mut (e2.trans (same_upd ht)) hF, pin_push hz1 hz2 hz3 ht, ?_, fun z => ?_, by rw [List.length_append]; show ps'.length + 1 ≤ _; omega⟩
            · refine List.nodup_append.mpr ⟨pn2, List.nodup_cons.mpr ⟨List.not_mem_nil, List.nodup_nil⟩, fun x hx y hy e => ?_⟩
              rw [List.mem_singleton.mp hy] at e
              rw [e] at hx
              exact hno hx
            · rw [List.mem_append, List.mem_singleton, pq2, step]
              exact ⟨fun h => h.imp_right fun h => ⟨hE, h⟩, fun h => h.imp_right fun h => h.2⟩
          · rw [if_neg hE]
            exact ⟨_, ps', rfl, e2, pI2, pn2, fun z => (pq2 z).trans ((step z).trans ⟨fun h => h.elim id fun h => absurd h.1 hE, .inl⟩).symm, by omega⟩
    · rintro σ H1 ⟨v3, ps, rfl, e1, pI, pn, pq, pl⟩
      obtain ⟨zs, hz1, hz2⟩ := pin_pairsT pI
      refine ⟨_, rfl, F, zs, rfl, .inl (SqL.of hz1), isP_of (pall_dpa hz2), fun ys p py hp => ?_⟩
      obtain ⟨ps', pp, hd'⟩ := pall_perm py hz2
      have hfull : (D.rows.map (·.1)).take rs.length = D.rows.map (·.1) := List.take_of_length_le (by rw [List.length_map, hrsl]; exact Nat.le_refl _)
      rw [hfull] at pq
      exact k p ys ps' _ (e1.trans (same_upd hp)) (e1.free hp) upd_same (pall_same (same_upd hp) hd') (pp.nodup_iff.mpr pn) (fun q => pp.mem_iff.trans (pq q)) (by rw [pp.length_eq]; omega)
theorem nm_new : Nm ("new" : Str) := ⟨by decide, by decide, by decide +kernel⟩
theorem nm_old : Nm ("old" : Str) := ⟨by decide, by decide, by decide +kernel⟩
def tellB (S : List (Str × Str)) (p : Str × Str) : Bool := decide ((("new" : Str), p.1) ∈ S) || decide ((("old" : Str), p.2) ∈ S)
def sp_tells (K : PySem.W.Frag) : Sp := fun vs H Q _ => ∃ (lp ls : Addr) (xs ys : List V) (ps S : List (Str × Str)), vs = [.ref lp, .ref ls] ∧ SqL K H lp xs ∧ DpAll K H xs (ps.map pairD) ∧ (∀ p ∈ ps, Pok p) ∧ ps.length ≤ 100 ∧ SqA K H ls ys ∧ DpAll K H ys (S.map pairD) ∧ (∀ p ∈ S, Pok p) ∧
  ∀ H', Same H H' → Q (.bl (ps.all (tellB S))) H'
theorem ok_tells (T : Tx2 P K mg) : OkR P w K mg base 2 (He.fAd K ("_law_tells", none)) (sp_tells K) := by
  have G__law_both : OkR P w K mg base 1 (He.fAd K ("_law_both", none)) (sp_both K) := ok_both T
  refine mkR T.f__law_tells sc__law_tells (fun vs H Q E h => ?_) (fun _ _ _ _ _ _ us hl => match us, hl with | [_, _], _ => rfl) fun cdv A outer s H vs Q E hr h => ?_
  · obtain ⟨_, _, _, _, _, _, rfl, _⟩ := h
    rfl
  · obtain ⟨lp, ls, xs, ys, ps, S, rfl, hlp, hps, okp, pl, hls, hS, okS, k⟩ := h
    refine ⟨_, 
    (pss_one (ps_ret (pe_callB (allK K) (by rfl) T.n_all (by decide +kernel) (pa_cons (pe_lc (own := [("_law_pair", 2)]) (by rfl) sc__law_tells.nd (pi_listK K (pv 0)) (blkOk_by (own := [("_law_pair", 2)]) (N := N__law_tells) (sc := (defScope s__law_tells)) (by decide +kernel)) (fun _ _ _ _ _ => (pg_name (i := 2) sc__law_tells.nd rfl (Or.inl rfl))) (fun _ _ _ _ _ => pts_nil) (fun _ _ _ _ _ => (pe_cmpR (op_neE K (hu65 hr)) (pe_lc (own := [("_law_side", 3)]) (by rfl) sc__law_tells.nd (pi_listK K (pe_callF G__law_both (hr.mono (by decide)) (by rfl) T.g__law_both (pa_cons (pv 2) pa_nil))) (blkOk_by (own := [("_law_side", 3)]) (N := N__law_tells) (sc := scTells) (by decide +kernel)) (fun _ _ _ _ _ => (pg_name (i := 3) sc__law_tells.nd rfl (Or.inl rfl))) (fun _ _ _ _ _ => pts_one (pt_cmpR (op_inP K (hu65 hr)) (pv 3) (pv 1) (by rfl))) (fun _ _ _ _ _ => (pv 3))) (pe_lst pa_nil) (nomark _)))) pa_nil)))), ?_⟩
    have hxl : xs.length = ps.length := by
      have := dpa_len hps
      rw [List.length_map] at this
      exact this
    refine ⟨_, rfl, lp, rfl, ⟨_, hlp⟩, fun D hD => ?_⟩
    refine lc_list (K := K) (a := lp) (xs := xs) (Gr H D fun i acc _ => acc = ((ps.take i).map (tellB S)).map V.bl) (gr_start hD rfl) (fun i H5 _ G => G.ext.seq hlp) ?_ ?_
    · rintro i y H5 hi G
      obtain ⟨p, t, hp, rfl, ht⟩ := dpa_pairs_get hps hi
      have hlt := (List.getElem?_eq_some_iff.mp hp).1
      have hpm := List.mem_of_getElem? hp
      refine ⟨rfl, _, rfl, t, p.1, p.2, rfl, same_tup G.ext ht, fun bp bxs H6 e6 hb6 hb2 hbd => ⟨bp, rfl, ⟨_, SqL.of hb2⟩, fun D2 hD2 => ?_⟩⟩
      have hbok : ∀ q ∈ [(("new" : Str), p.1), (("old" : Str), p.2)], Pok q := fun q hq => by
        rcases List.mem_cons.mp hq with rfl | hq
        · exact ⟨nm_ok nm_new, (okp p hpm).1⟩
        · rw [List.mem_singleton.mp hq]
          exact ⟨nm_ok nm_old, (okp p hpm).2⟩
      have hbl : bxs.length = 2 := by
        have := dpa_len hbd
        simpa using this
      have y6 := G.ext.trans e6
      refine lc_list (K := K) (a := bp) (xs := bxs) (Gr H6 D2 fun j acc h => DpAll K h acc ((([(("new" : Str), p.1), (("old" : Str), p.2)].take j).filter fun q => decide (q ∈ S)).map pairD)) (gr_start hD2 .nil) (fun j H7 _ G2 => G2.ext.seq (SqL.of hb2)) ?_ ?_
      · rintro j z H7 hj G2
        obtain ⟨q, t2, hq, rfl, ht2⟩ := dpa_pairs_get hbd hj
        have hqm := List.mem_of_getElem? hq
        have hjl := (List.getElem?_eq_some_iff.mp hj).1
        have y7 := y6.trans G2.ext
        have hSA : SqA K H7 ls ys := hls.elim (fun h => .inl (y7.seq h)) (fun h => .inr (same_tup y7 h))
        refine ⟨rfl, _, rfl, _, rfl, t2, ls, ys, q, S, rfl, rfl, same_tup G2.ext ht2, hSA, dpa_same y7 hS, hbok q hqm, okS, _, rfl, ?_⟩
        by_cases hqS : q ∈ S
        · refine iteB (by rw [decide_eq_true hqS]; rfl) ⟨_, rfl, gr_add G2 (Same.refl _) (by omega) (fun _ _ _ _ e h => dpa_same e h) fun acc h => ?_⟩
          rw [filter_at hq, if_pos (decide_eq_true hqS), List.map_append]
          refine dpa_snoc h (.tup (same_tup (same_lessN G2.new G2.ext) ht2) (.cons (.str _) (.cons (.str _) .nil)))
        · refine iteN (by rw [decide_eq_false hqS]; rfl) (gr_skip G2 (Same.refl _) (fun _ _ _ _ e h => dpa_same e h) fun acc h => ?_)
          rw [filter_at hq, if_neg (by rw [decide_eq_false hqS]; decide), List.append_nil]
          exact h
      · rintro H7 ⟨hD7, e7, acc7, hacc7, _, hd7⟩
        rw [hbl] at hd7
        refine ⟨Nat.zero_le _, fun e he => ?_⟩
        have ye : ∀ u, Same H7 (upd H7 e u) := fun u => same_upd he
        refine ⟨D2, e, acc7, _, rfl, rfl, (ye _).seq (SqL.of hacc7), dpa_same ((less_sub _ _).trans (ye _)) hd7, fun q hq => hbok q (List.mem_of_mem_take (List.mem_filter.mp hq).1), SqL.of upd_same, ?_⟩
        refine gr_add G ((e6.trans e7).trans (ye _)) (by omega) (fun _ _ _ _ _ h => h) fun acc h => ?_
        rw [take_at hp, List.map_append, List.map_append, ← h]
        have ev : (!(([(("new" : Str), p.1), (("old" : Str), p.2)].take 2).filter fun q => decide (q ∈ S)).isEmpty) = tellB S p := by
          unfold tellB
          show (!([(("new" : Str), p.1), (("old" : Str), p.2)].filter fun q => decide (q ∈ S)).isEmpty) = _
          by_cases h1 : (("new" : Str), p.1) ∈ S
          · simp [h1]
          · by_cases h2 : (("old" : Str), p.2) ∈ S
            · simp [h1, h2]
            · simp [h1, h2]
        rw [ev]
        rfl
    · rintro H5 ⟨hD5, e5, acc, hacc, _, hd5⟩
      rw [hxl, List.take_length] at hd5
      rw [hd5] at hacc
      refine ⟨D, _, rfl, SqL.of hacc, ?_⟩
      have e : (ps.map (tellB S)).all id = ps.all (tellB S) := by rw [List.all_map]; rfl
      rw [e]
      exact k _ e5
end
end K59
/-! D20 -/
set_option Elab.async false
set_option linter.all false
set_option maxRecDepth 100000
set_option maxHeartbeats 2000000
namespace K59
open PySem PySem.Spec PyProof.Rows L2 LamX
/-! ### prices -/
/-- a side -/
def SideP (p : Str × Str) : Prop := ∃ b n, p = (sideS b, n) ∧ Nm n
/-- the object of prices at x, its dict at sp, the prices pr -/
structure PricesAt (K : PySem.W.Frag) (H : Hp) (x sp : Addr) (pr : Str × Str → Int) (m : Nat) : Prop where
  ex : ∃ (dx : Addr) (d : Int) (kvs : List (List Key × V)), H x = some (.ins (He.ga K "Prices") dx [("default", .int d), ("set_prices", .ref sp)]) ∧ H sp = some (.dT kvs) ∧ (∀ p, (valV kvs (kP p)).getD (.int d) = .int (pr p)) ∧ kvs.length ≤ m
theorem prices_same {K : PySem.W.Frag} {H H' : Hp} {x sp : Addr} {pr : Str × Str → Int} {m : Nat} (e : Same H H') (h : PricesAt K H x sp pr m) : PricesAt K H' x sp pr m := by
  obtain ⟨dx, d, kvs, h1, h2, h3⟩ := h.ex
  exact ⟨dx, d, kvs, e _ _ h1, e _ _ h2, h3⟩
theorem prices_ext {K : PySem.W.Frag} {H H' : Hp} {x sp : Addr} {pr : Str × Str → Int} {m : Nat} (e : ExtN H H') (h : PricesAt K H x sp pr m) : PricesAt K H' x sp pr m := by
  obtain ⟨dx, d, kvs, h1, h2, h3⟩ := h.ex
  exact ⟨dx, d, kvs, e _ _ h1 (fun _ z => nomatch z), e _ _ h2 (fun _ z => nomatch z), h3⟩
theorem fnA_fnR {P : Program} {w : World} {K : PySem.W.Frag} {mg : Str → Option Value} {base : Heap} {k : Nat} {f : Addr} {sp : Sp} (F : FnR P w K mg base CX0 k f sp) : FnA P w K mg base k f [] (fun vs _ H Q E => sp vs H Q E) := by
  intro A outer s H us ws vs zs Q E hr e0 r rz l h
  have hz : zs = [] := List.length_eq_zero_iff.mp l
  subst hz
  cases rz
  exact F A outer s H us vs Q E hr e0 r h
theorem putK_len' {κ : Type} [DecidableEq κ] (c : List (κ × V)) (k : κ) (x : V) : (putK c k x).length ≤ c.length + 1 := by
  unfold putK
  by_cases e : (c.any fun kv => decide (kv.1 = k)) = true
  · rw [if_pos e, List.length_map]
    omega
  · rw [if_neg e, List.length_append]
    exact Nat.le_refl _
section
variable {P : Program} {w : World} {K : PySem.W.Frag} {mg : Str → Option Value} {base : Heap}
abbrev s_Prices_init : Stmt := inClass (top 47) 0
abbrev N_Prices_init : List Str := ["self", "default"]
theorem sc_Prices_init : FnScope N_Prices_init ["self", "default"] (defScope s_Prices_init) := ⟨rfl, rfl, rfl, by decide +kernel, rfl, by decide +kernel, by decide +kernel⟩
abbrev s_Prices_getitem : Stmt := inClass (top 47) 1
abbrev N_Prices_getitem : List Str := ["self", "at", "side", "deed"]
theorem sc_Prices_getitem : FnScope N_Prices_getitem ["self", "at"] (defScope s_Prices_getitem) := ⟨rfl, rfl, rfl, by decide +kernel, rfl, by decide +kernel, by decide +kernel⟩
abbrev s_Prices_setitem : Stmt := inClass (top 47) 2
abbrev N_Prices_setitem : List Str := ["self", "at", "price", "side", "deed"]
theorem sc_Prices_setitem : FnScope N_Prices_setitem ["self", "at", "price"] (defScope s_Prices_setitem) := ⟨rfl, rfl, rfl, by decide +kernel, rfl, by decide +kernel, by decide +kernel⟩
abbrev s_Prices_total : Stmt := inClass (top 47) 4
abbrev N_Prices_total : List Str := ["self", "sides", "side", "deed"]
theorem sc_Prices_total : FnScope N_Prices_total ["self", "sides"] (defScope s_Prices_total) := ⟨rfl, rfl, rfl, by decide +kernel, rfl, by decide +kernel, by decide +kernel⟩
abbrev s_Cover_init : Stmt := inClass (top 49) 0
abbrev N_Cover_init : List Str := ["self", "column", "price", "sides", "packing"]
theorem sc_Cover_init : FnScope N_Cover_init ["self", "column", "price", "sides", "packing"] (defScope s_Cover_init) := ⟨rfl, rfl, rfl, by decide +kernel, rfl, by decide +kernel, by decide +kernel⟩
def sp_Prices_init (K : PySem.W.Frag) : Sp := fun vs H Q _ => ∃ (x dx : Addr) (d : Int), vs = [.ref x, .int d] ∧ H x = some (.ins (He.ga K "Prices") dx []) ∧ 1 ≤ d ∧ d ≤ 1000000000 ∧
  ∀ (sp : Addr) (H' : Hp), Same (less x H) H' → H sp = none → PricesAt K H' x sp (fun _ => d) 0 → Q .non H'
theorem ok_Prices_init (T : Tx2 P K mg) : FnA P w K mg base 4 (He.fAd K ("Prices", some "__init__")) [] (fun vs _ H Q E => sp_Prices_init K vs H Q E) := by
  have G_check_price : OkR P w K mg base 3 (He.fAd K ("check_price", none)) sp_check_price := ok_check_price T.toTx0
  obtain ⟨fd, F⟩ := T.f_Prices_init
  have G : FnOk P w K mg base CX0 4 (He.fAd K ("Prices", some "__init__")) fd ["self", "default"] (sp_Prices_init K) := F.ok sc_Prices_init (fun vs H Q E h => by obtain ⟨_, _, _, rfl, _⟩ := h; rfl) fun cdv A outer s H vs Q E hr h => by
    obtain ⟨x, dx, d, rfl, hx, h1, h2, k⟩ := h
    have main : ∃ t, PSs (cxOf CX0 P w K mg base N_Prices_init "Prices.__init__" (defScope s_Prices_init) (He.fAd K ("Prices", some "__init__")) cdv A outer s H E).nox (defBody s_Prices_init) t ∧ t { nx := fun _ H' => Q .non H', rt := Q } (start N_Prices_init [.ref x, .int d]) H := by
      refine ⟨_, 
    (pss_cons (ps_expr (pe_callF G_check_price (hr.mono (by decide)) (by rfl) T.g_check_price (pa_cons (pv 1) pa_nil))) 
    (pss_cons (ps_fld (pv 0) (pv 1) rfl) 
    (pss_one (ps_fld (pv 0) pe_dnewT rfl)))), ?_⟩
      refine ⟨_, rfl, d, rfl, h1, h2, ?_⟩
      refine ⟨_, rfl, _, rfl, x, _, dx, _, rfl, hx, T.c_Prices, T.a_Prices_default, (show 0 < 1000 by decide), ?_⟩
      have hne : ∀ {p : Addr} {u : HO}, upd H x u p = none → p ≠ x := fun {p u} h e => by
        rw [e, upd_same] at h
        cases h
      refine fun p hp => ⟨_, rfl, x, _, dx, putF "default" (.int d) [], rfl, (by rw [upd_ne (hne hp).symm]; exact upd_same), T.c_Prices, T.a_Prices_set_prices, (show 1 < 1000 by decide), ?_⟩
      have hpx := hne hp
      rw [upd_ne hpx] at hp
      refine k p _ ?_ hp ⟨dx, d, [], upd_same, by rw [upd_ne hpx]; exact upd_same, fun q => rfl, Nat.le_refl _⟩
      intro b o hb
      have hbx : b ≠ x := fun e => by rw [e, less_x] at hb; cases hb
      rw [less_ne hbx] at hb
      rw [upd_ne hbx, upd_ne (ne_of_none hb hp), upd_ne hbx]
      exact hb
    obtain ⟨t, ht, hq⟩ := main
    exact ⟨t, ht.nox, hq⟩
  obtain ⟨ds, hd, hb⟩ := F.binds1 (ps := ["self", "default"]) 2 1 (by simp) rfl (fun T kV doc pm an cdv ct us its h1 h2 => by
    match us, its, h1, h2 with
    | [_, _], [_], _, _ => exact ⟨_, rfl, rfl⟩)
  cases hd
  have R := G.raw hb .nil
  exact fnA_fnR fun A outer s H us vs Q E hr e0 r h => R A outer s H us vs Q E hr e0 r (by show sp_Prices_init K (vs ++ []) H Q E; rw [List.append_nil]; exact h)
def sp_Prices_getitem (K : PySem.W.Frag) : Sp := fun vs H Q _ => ∃ (x sp t : Addr) (pr : Str × Str → Int) (m : Nat) (b : Bool) (n : Str), vs = [.ref x, .ref t] ∧ PricesAt K H x sp pr m ∧ SqT K H t [.str (sideS b), .str n] ∧ Nm n ∧ ∀ H', Same H H' → Q (.int (pr (sideS b, n))) H'
theorem ok_Prices_getitem (T : Tx2 P K mg) : OkR P w K mg base 4 (He.fAd K ("Prices", some "__getitem__")) (sp_Prices_getitem K) := by
  have G_check_side : OkR P w K mg base 3 (He.fAd K ("check_side", none)) sp_check_side := ok_check_side T.toTx0
  refine mkR T.f_Prices_getitem sc_Prices_getitem (fun vs H Q E h => ?_) (fun _ _ _ _ _ _ us hl => match us, hl with | [_, _], _ => rfl) fun cdv A outer s H vs Q E hr h => ?_
  · obtain ⟨_, _, _, _, _, _, _, rfl, _⟩ := h
    rfl
  · obtain ⟨x, sp, t, pr, m, b, n, rfl, hp, ht, hn, k⟩ := h
    refine ⟨_, 
    (pss_cons (ps_asg (pv 1) (pg_tupK (n := 2) K (by rfl) (pgs_cons (pg_name (i := 2) sc_Prices_getitem.nd rfl (Or.inl rfl)) (pgs_cons (pg_name (i := 3) sc_Prices_getitem.nd rfl (Or.inl rfl)) pgs_nil)))) 
    (pss_cons (ps_expr (pe_callF G_check_side (hr.mono (by decide)) (by rfl) T.g_check_side (pa_cons (pv 2) (pa_cons (pv 3) pa_nil)))) 
    (pss_one (ps_ret (pe_dget2 (hu_of hr) (pe_fldK K (pv 0)) (pe_tup (pa_cons (pv 2) (pa_cons (pv 3) pa_nil))) (pe_fldK K (pv 0)) ⟨rfl, rfl, rfl, rfl⟩))))), ?_⟩
    obtain ⟨dx, d, kvs, h1, h2, h3, h4⟩ := hp.ex
    refine ⟨_, rfl, t, _, rfl, ht, rfl, _, _, rfl, _, _, rfl, rfl, ?_⟩
    refine ⟨_, rfl, _, rfl, b, n, rfl, hn, fun H1 e1 => ?_⟩
    refine ⟨_, rfl, x, _, dx, _, _, rfl, e1 _ _ h1, T.c_Prices, T.a_Prices_set_prices, rfl, sp, rfl, .inr ⟨kvs, .inl (e1 _ _ h2)⟩, _, rfl, _, rfl, (show 2 ≤ sizeLine by decide), fun q hq => ?_⟩
    have yq : ∀ u, Same H1 (upd H1 q u) := fun u => same_upd hq
    refine ⟨_, rfl, x, _, dx, _, _, rfl, (e1.trans (yq _)) _ _ h1, T.c_Prices, T.a_Prices_default, rfl, _, DGet.t (k := kP (sideS b, n)) ((e1.trans (yq _)) _ _ h2) upd_same, ?_⟩
    rw [h3]
    exact k _ (e1.trans (yq _))
def setPr (pr : Str × Str → Int) (p : Str × Str) (i : Int) : Str × Str → Int := fun q => if q = p then i else pr q
def sp_Prices_setitem (K : PySem.W.Frag) : Sp := fun vs H Q _ => ∃ (x sp t : Addr) (pr : Str × Str → Int) (m : Nat) (b : Bool) (n : Str) (i : Int), vs = [.ref x, .ref t, .int i] ∧ PricesAt K H x sp pr m ∧ SqT K H t [.str (sideS b), .str n] ∧ Nm n ∧ 1 ≤ i ∧ i ≤ 1000000000 ∧ m < 1000 ∧
  ∀ H', Same (less sp H) H' → PricesAt K H' x sp (setPr pr (sideS b, n) i) (m + 1) → Q .non H'
theorem ok_Prices_setitem (T : Tx2 P K mg) : OkR P w K mg base 4 (He.fAd K ("Prices", some "__setitem__")) (sp_Prices_setitem K) := by
  have G_check_side : OkR P w K mg base 3 (He.fAd K ("check_side", none)) sp_check_side := ok_check_side T.toTx0
  have G_check_price : OkR P w K mg base 3 (He.fAd K ("check_price", none)) sp_check_price := ok_check_price T.toTx0
  refine mkR T.f_Prices_setitem sc_Prices_setitem (fun vs H Q E h => ?_) (fun _ _ _ _ _ _ us hl => match us, hl with | [_, _, _], _ => rfl) fun cdv A outer s H vs Q E hr h => ?_
  · obtain ⟨_, _, _, _, _, _, _, _, rfl, _⟩ := h
    rfl
  · obtain ⟨x, sp, t, pr, m, b, n, i, rfl, hp, ht, hn, hi1, hi2, hm, k⟩ := h
    refine ⟨_, 
    (pss_cons (ps_asg (pv 1) (pg_tupK (n := 2) K (by rfl) (pgs_cons (pg_name (i := 3) sc_Prices_setitem.nd rfl (Or.inl rfl)) (pgs_cons (pg_name (i := 4) sc_Prices_setitem.nd rfl (Or.inl rfl)) pgs_nil)))) 
    (pss_cons (ps_expr (pe_callF G_check_side (hr.mono (by decide)) (by rfl) T.g_check_side (pa_cons (pv 3) (pa_cons (pv 4) pa_nil)))) 
    (pss_cons (ps_expr (pe_callF G_check_price (hr.mono (by decide)) (by rfl) T.g_check_price (pa_cons (pv 2) pa_nil))) 
    (pss_one (ps_dput (hu_of hr) (pe_fldK K (pv 0)) (pe_tup (pa_cons (pv 3) (pa_cons (pv 4) pa_nil))) (pv 2) rfl))))), ?_⟩
    obtain ⟨dx, d, kvs, h1, h2, h3, h4⟩ := hp.ex
    refine ⟨_, rfl, t, _, rfl, ht, rfl, _, _, rfl, _, _, rfl, rfl, ?_⟩
    refine ⟨_, rfl, _, rfl, b, n, rfl, hn, fun H1 e1 => ?_⟩
    refine ⟨_, rfl, i, rfl, hi1, hi2, ?_⟩
    refine ⟨_, rfl, _, rfl, x, _, dx, _, _, rfl, e1 _ _ h1, T.c_Prices, T.a_Prices_set_prices, rfl, _, rfl, _, rfl, (show 2 ≤ sizeLine by decide), fun q hq => ?_⟩
    have yq : ∀ u, Same H1 (upd H1 q u) := fun u => same_upd hq
    have y2 := e1.trans (yq (.tup [.str (sideS b), .str n]))
    refine ⟨sp, _, rfl, DPut.t (k := kP (sideS b, n)) (y2 _ _ h2) upd_same (by rw [sizeLine_eq]; omega), ?_⟩
    have hxs : x ≠ sp := fun e => by
      rw [e, h2] at h1
      cases h1
    refine k _ (fun c o hc => ?_) ⟨dx, d, _, by rw [upd_ne hxs]; exact y2 _ _ h1, upd_same, fun p => ?_, Nat.le_trans (putK_len' _ _ _) (Nat.succ_le_succ h4)⟩
    · have hcx : c ≠ sp := fun e => by rw [e, less_x] at hc; cases hc
      rw [less_ne hcx] at hc
      rw [upd_ne hcx]
      exact y2 _ _ hc
    · rw [valV_put]
      unfold setPr
      by_cases hpe : p = (sideS b, n)
      · rw [if_pos (by rw [hpe]), if_pos hpe]
        rfl
      · rw [if_neg (fun h => hpe (kP_inj h)), if_neg hpe]
        exact h3 p
def sp_Prices_total (K : PySem.W.Frag) : Sp := fun vs H Q _ => ∃ (x sp l : Addr) (pr : Str × Str → Int) (m : Nat) (xs : List V) (S : List (Str × Str)), vs = [.ref x, .ref l] ∧ PricesAt K H x sp pr m ∧ SqL K H l xs ∧ DpAll K H xs (S.map pairD) ∧ (∀ p ∈ S, SideP p) ∧ S.length ≤ 200 ∧ ∀ H', Same H H' → Q (.int (S.map pr).sum) H'
theorem ok_Prices_total (T : Tx2 P K mg) : OkR P w K mg base 6 (He.fAd K ("Prices", some "total")) (sp_Prices_total K) := by
  have G_Prices_getitem : OkR P w K mg base 4 (He.fAd K ("Prices", some "__getitem__")) (sp_Prices_getitem K) := ok_Prices_getitem T
  refine mkR T.f_Prices_total sc_Prices_total (fun vs H Q E h => ?_) (fun _ _ _ _ _ _ us hl => match us, hl with | [_, _], _ => rfl) fun cdv A outer s H vs Q E hr h => ?_
  · obtain ⟨_, _, _, _, _, _, _, rfl, _⟩ := h
    rfl
  · obtain ⟨x, sp, l, pr, m, xs, S, rfl, hp, hl, hS, hsd, hSl, k⟩ := h
    refine ⟨_, 
    (pss_one (ps_ret (pe_callB (sumK K) (by rfl) T.n_sum (by decide +kernel) (pa_cons (pe_lc (own := [("side", 2), ("deed", 3)]) (by rfl) sc_Prices_total.nd (pi_listK K (pv 1)) (blkOk_by (own := [("side", 2), ("deed", 3)]) (N := N_Prices_total) (sc := (defScope s_Prices_total)) (by decide +kernel)) (fun _ _ _ _ _ => (pg_tupK (n := 2) K (by rfl) (pgs_cons (pg_name (i := 2) sc_Prices_total.nd rfl (Or.inl rfl)) (pgs_cons (pg_name (i := 3) sc_Prices_total.nd rfl (Or.inl rfl)) pgs_nil)))) (fun _ _ _ _ _ => pts_nil) (fun _ _ _ _ _ => (pe_own T.m_Prices_getitem (fnIn_of T.f_Prices_getitem) G_Prices_getitem (hr.mono (by decide)) (pv 0) (pe_tup (pa_cons (pv 2) (pa_cons (pv 3) pa_nil))) (fun _ _ => rfl)))) pa_nil)))), ?_⟩
    have hxl : xs.length = S.length := by
      have := dpa_len hS
      rw [List.length_map] at this
      exact this
    refine ⟨_, rfl, l, rfl, ⟨_, hl⟩, fun D hD => ?_⟩
    refine lc_list (K := K) (a := l) (xs := xs) (Gr H D fun i acc _ => acc = ((S.map pr).take i).map V.int) (gr_start hD rfl) (fun i H5 _ G => G.ext.seq hl) ?_ ?_
    · rintro i y H5 hi G
      obtain ⟨p, t, hp', rfl, ht⟩ := dpa_pairs_get hS hi
      have hlt := (List.getElem?_eq_some_iff.mp hp').1
      obtain ⟨b, n, rfl, hn⟩ := hsd p (List.mem_of_getElem? hp')
      refine ⟨t, _, rfl, same_tup G.ext ht, rfl, _, _, rfl, _, _, rfl, rfl, rfl, ?_⟩
      obtain ⟨dx, d, kvs, h1, _⟩ := (prices_same G.ext hp).ex
      refine ⟨_, rfl, _, rfl, _, rfl, (show 2 ≤ sizeLine by decide), fun q hq => ?_⟩
      have yq : ∀ u, Same H5 (upd H5 q u) := fun u => same_upd hq
      refine ⟨x, dx, _, rfl, yq _ _ _ h1, x, sp, q, pr, m, b, n, rfl, prices_same (G.ext.trans (yq _)) hp, SqT.of upd_same, hn, fun H6 e6 => ?_⟩
      refine gr_add G ((yq _).trans e6) (by omega) (fun _ _ _ _ _ h => h) fun acc h => ?_
      have hq' : (S.map pr)[i]? = some (pr (sideS b, n)) := by rw [List.getElem?_map, hp']; rfl
      rw [take_at hq', List.map_append, ← h]
      rfl
    · rintro H5 ⟨hD5, e5, acc, hacc, _, hd5⟩
      have hfull : (S.map pr).take xs.length = S.map pr := List.take_of_length_le (by rw [List.length_map, hxl]; exact Nat.le_refl _)
      rw [hfull] at hd5
      rw [hd5] at hacc
      exact ⟨D, _, rfl, SqL.of hacc, k _ e5⟩
def sp_Cover_init (K : PySem.W.Frag) : Sp := fun vs H Q _ => ∃ (x dx : Addr) (c p s k : V), vs = [.ref x, c, p, s, k] ∧ H x = some (.ins (He.ga K "Cover") dx []) ∧ ∀ H', Same (less x H) H' → H' x = some (.ins (He.ga K "Cover") dx [("column", c), ("price", p), ("sides", s), ("packing", k)]) → Q .non H'
theorem ok_Cover_init (T : Tx2 P K mg) : OkR P w K mg base 1 (He.fAd K ("Cover", some "__init__")) (sp_Cover_init K) := by
  refine mkR T.f_Cover_init sc_Cover_init (fun vs H Q E h => ?_) (fun _ _ _ _ _ _ us hl => match us, hl with | [_, _, _, _, _], _ => rfl) fun cdv A outer s H vs Q E hr h => ?_
  · obtain ⟨_, _, _, _, _, _, rfl, _⟩ := h
    rfl
  · obtain ⟨x, dx, c, p, s, k', rfl, hx, k⟩ := h
    refine ⟨_, 
    (pss_cons (ps_fld (pv 0) (pv 1) rfl) 
    (pss_cons (ps_fld (pv 0) (pv 2) rfl) 
    (pss_cons (ps_fld (pv 0) (pv 3) rfl) 
    (pss_one (ps_fld (pv 0) (pv 4) rfl))))), ?_⟩
    refine ⟨_, rfl, _, rfl, x, _, dx, _, rfl, hx, T.c_Cover, T.a_Cover_column, (show 0 < 1000 by decide), ?_⟩
    refine ⟨_, rfl, _, rfl, x, _, dx, _, rfl, upd_same, T.c_Cover, T.a_Cover_price, (show 1 < 1000 by decide), ?_⟩
    refine ⟨_, rfl, _, rfl, x, _, dx, _, rfl, upd_same, T.c_Cover, T.a_Cover_sides, (show 2 < 1000 by decide), ?_⟩
    refine ⟨_, rfl, _, rfl, x, _, dx, _, rfl, upd_same, T.c_Cover, T.a_Cover_packing, (show 3 < 1000 by decide), ?_⟩
    exact k _ (same_less_upd (same_less_upd (same_less_upd (same_less_upd (less_sub _ _))))) upd_same
end
end K59
/-! K59Y -/
set_option Elab.async false
set_option linter.all false
set_option maxRecDepth 100000
/-! dicts from pairs of texts to ints -/
namespace K59
open PySem PySem.Spec PyProof.Rows L2
def kvI (l : List (Str × Str)) (f : Str × Str → Int) : List (List Key × V) := l.map fun p => (kP p, V.int (f p))
section
variable {l : List (Str × Str)} {f : Str × Str → Int} {p : Str × Str} {i : Int}
theorem kvI_len : (kvI l f).length = l.length := List.length_map ..
theorem kvI_mem (h : p ∈ l) : valV (kvI l f) (kP p) = some (.int (f p)) := by
  induction l with
  | nil => cases h
  | cons a r ih =>
    show valV ((kP a, V.int (f a)) :: kvI r f) (kP p) = _
    by_cases e : a = p
    · rw [valV_pos (by rw [e])]
      rw [e]
    · rw [valV_neg (fun h => e (kP_inj h))]
      exact ih ((List.mem_cons.mp h).elim (fun h => absurd h.symm e) id)
theorem kvI_not (h : p ∉ l) : valV (kvI l f) (kP p) = none := by
  induction l with
  | nil => rfl
  | cons a r ih =>
    show valV ((kP a, V.int (f a)) :: kvI r f) (kP p) = _
    have e : ¬ a = p := fun e => h (by rw [e]; exact List.mem_cons_self)
    rw [valV_neg (fun h => e (kP_inj h))]
    exact ih fun h' => h (List.mem_cons_of_mem _ h')
theorem kvI_congr {g : Str × Str → Int} (h : ∀ q ∈ l, f q = g q) : kvI l f = kvI l g := List.map_congr_left fun q hq => by rw [h q hq]
theorem kvI_put (h : p ∈ l) : putK (kvI l f) (kP p) (.int i) = kvI l (setPr f p i) := by
  unfold putK
  rw [valV_any, kvI_mem h, if_pos (show (some (V.int (f p))).isSome = true from rfl)]
  unfold kvI
  rw [List.map_map]
  refine List.map_congr_left fun q hq => ?_
  show (if kP q = kP p then (kP q, V.int i) else (kP q, V.int (f q))) = (kP q, V.int (setPr f p i q))
  unfold setPr
  by_cases e : q = p
  · rw [if_pos (by rw [e]), if_pos e]
  · rw [if_neg (fun h => e (kP_inj h)), if_neg e]
theorem kvI_new (h : p ∉ l) : putK (kvI l f) (kP p) (.int i) = kvI (l ++ [p]) (setPr f p i) := by
  rw [putK_new _ (kvI_not h)]
  unfold kvI
  rw [List.map_append]
  congr 1
  · refine List.map_congr_left fun q hq => ?_
    unfold setPr
    rw [if_neg (fun e => h (by rw [← e]; exact hq))]
  · show [(kP p, V.int i)] = [(kP p, V.int (setPr f p i p))]
    unfold setPr
    rw [if_pos rfl]
end
end K59
/-! R17 -/
set_option Elab.async false
set_option linter.all false
set_option maxRecDepth 100000
set_option maxHeartbeats 2000000
/-! dict comprehensions with tuple keys (the way of the library's rule for plain keys, turned to .dT); == of pairs -/
namespace K59
open PySem PySem.Spec PyProof.Rows L2
/-- d[k] = v by a comprehension, k a tuple -/
theorem d_dictSetT {X : Cx} {A1 : Around} {pins : List (Addr × Obj)} {σ : L2.St} {H : Hp} {s : Shared} {E : Value → Shared → Prop} {D b : Addr} {kvs : List (List Key × V)} {k : List Key} {v : V} {u r : Value} {Q : Unit → Shared → Prop} (hu : A1.units + 1 < cLine) (I : Inv X pins σ H s) (e : H D = some (.dT kvs)) (l : kvs.length < sizeLine)
    (eb : H b = some (.tup (k.map kV))) (ry : RelV (.ref b) u) (rv : RelV v r) (h : ∀ s', Inv X pins σ (upd H D (.dT (putK kvs k v))) s' → Q () s') : wpAny (model X.prog X.w) A1 (dictSet D u r) Q E s := by
  cases (show u = Value.ref b from ry)
  obtain ⟨z, hd, xs, rel, dd⟩ := dt_of I.hok e
  have hz : xs.length ≤ sizeLine := by rw [← Paired.length rel]; exact z
  have hl : (putK kvs k v).length ≤ sizeLine := by have := length_putK kvs k v; omega
  refine wpAny_dictSet_heap (hsz := hz) (show (tupleKind (mixKind X.prog X.w)).room A1 from Nat.lt_of_le_of_lt (Nat.le_succ _) hu) (key_of I.hok eb) dd fun h' dd' hs => h _ ?_
  obtain ⟨q, es, ep, hq, h2, h3, h4, _, h5⟩ := dd'
  refine d_write I (by rw [e]; exact True.intro) hs ⟨q, hq⟩ ⟨hl, hd, _, (rel.put k eb rv).keeps fun c ys ec => ?_, q, es, ep, hq, h2, h3, h4, h5⟩
  rw [upd_ne (ne_of ec e (fun z => nomatch z))]
  exact ec
section
variable {X : Cx}
def tDcT (wi : TI) (g : TG) (tt : TT) (tk tv : TE) (vs : List Nat) : TE := fun σ H Q => wi σ H fun J H1 => ∀ D, H1 D = none → ∃ W : Nat → Nat → Hp → Prop, (∃ m, W 0 m (upd H1 D (.dT []))) ∧ ∀ i m H, W i m H →
  (J.stop i H ∧ Q (.ref D) H) ∨ (J.go i H ∧ ∃ Nx : Hp → Prop, (∀ H', Nx H' → ∃ m', m' < m ∧ W (i + 1) m' H') ∧ ∀ x H', J.yld i H x H' → g x (wipe σ vs) H' fun σ2 H2 => wipe σ2 vs = wipe σ vs ∧ tt σ2 H2 fun b H3 =>
    if b = true then tk σ2 H3 fun y H4 => tv σ2 H4 fun z H5 => ∃ kvs k b, y = .ref b ∧ H5 b = some (.tup (k.map kV)) ∧ H5 D = some (.dT kvs) ∧ kvs.length < sizeLine ∧ Nx (upd H5 D (.dT (putK kvs k z))) else Nx H3)
theorem dct_core (hu : X.A.units + 1 < cLine) {pins : List (Addr × Obj)} {s : Shared} {σ : L2.St} {H : Hp} {Q : VK} {kx vx tg iter : Expr} {ifs : List Expr} {scope : Scope} {own : List (Str × Nat)} {pos pos' : Pos} {wi : TI} {g : TG} {tt : TT} {tk tv : TE} {use : Option (Value → Sem Unit)} {Qf : Value → Shared → Prop}
    (hc : X.calm = true) (hN : X.N.Nodup) (I : Inv X pins σ H s) (hi : PI X tg iter wi) (ok : BlkOk X.N X.env.scope scope own)
    (hg : ∀ (s : Shared) (H : Hp) (C : Addr) (cl : List (Str × Addr)) (fp : List Addr), PG (X.blk s H scope (compEnvC scope cl C X.env) fp) tg g) (ht : ∀ (s : Shared) (H : Hp) (C : Addr) (cl : List (Str × Addr)) (fp : List Addr), PTs (X.blk s H scope (compEnvC scope cl C X.env) fp) ifs tt)
    (hk : ∀ (s : Shared) (H : Hp) (C : Addr) (cl : List (Str × Addr)) (fp : List Addr), PE (X.blk s H scope (compEnvC scope cl C X.env) fp) kx tk)
    (he : ∀ (s : Shared) (H : Hp) (C : Addr) (cl : List (Str × Addr)) (fp : List Addr), PE (X.blk s H scope (compEnvC scope cl C X.env) fp) vx tv) (hs : ∀ x, foldedSetIterable iter X.env x = pure x)
    (h : tDcT wi g tt tk tv (own.map (·.2)) σ H Q)
    (hRR : ∀ D C s' m H', Inv X pins σ H' s' → Q (.ref D) H' → s'.heap.Ns C m → FpOk X pins H' C → compPost (model X.prog X.w) X.A X.xe use Qf (.ref D) C (.ok .next) s') :
    wpAny (model X.prog X.w) X.A (comprehension (.DictComp kx vx [⟨tg, iter, ifs, 0⟩] scope pos) scope X.env pos' newDict false (eval iter X.env) use) Qf X.xe s := by
  have hfree : ∀ y ∈ scope.names, y.2 = .free → ∃ c, X.env.cells.lookup y.1 = some c := fun y hy e => by
    rcases ok.free y hy e with k | k
    · exact I.ok.has _ (.inl k)
    · exact I.ok.has _ (.inr k)
  refine wpAny_comprehension_free (use := use) rfl hs (closure_ok hfree) ok.kind (fun y hy e => by rw [ok.uniq y hy, e])
    (thn (hi.run pins s σ H _ I h) fun xv s1 hx => thn hx fun itv s2 h2 => ?_)
  obtain ⟨it, fp, tn, J, H2, e, I2, T, st2, f2, q⟩ := h2
  subst e
  refine wpAny_newObj_type (newEnv_comp ?_)
  generalize hD : s2.heap.objs.size = D
  have hDn : H2 D = none := I2.hok.fresh (Nat.le_of_eq hD)
  obtain ⟨W, ⟨m0, w0⟩, turn⟩ := q D hDn
  generalize hs3 : ({ s2 with heap := s2.heap.push { cls := .type "dict", data := .dict #[] } } : Shared) = s3
  have I3 : Inv X pins σ (upd H2 D (.dT [])) s3 := by
    rw [← hs3]
    refine I2.laid (t' := s2.toks) (fun b o e => Heap.get?_push_of_some _ e) (Nat.le_of_eq hD) ?_
    rw [← hD]
    exact dt_empty s2.heap I2.big
  have h3 : s3.heap = s2.heap.push { cls := .type "dict", data := .dict #[] } := by rw [← hs3]
  have sz : ∀ b ∈ fp, b < s2.heap.objs.size := fun b hb => by
    obtain ⟨o, e, _⟩ := T.obj _ _ st2 b hb
    exact Heap.lt_size e
  have f3 : ∀ b ∈ fp, FpOk X pins (upd H2 D (.dT [])) b ∧ b < s3.heap.objs.size := fun b hb => by
    have hlt := sz b hb
    refine ⟨⟨?_, (f2 b hb).2⟩, by rw [h3, Heap.size_push]; exact Nat.lt_succ_of_lt hlt⟩
    rw [upd_ne (by rw [← hD]; exact Nat.ne_of_lt hlt)]
    exact (f2 b hb).1
  have st3 : tn 0 s3.heap := T.keep _ _ _ st2 fun b _ o e => by rw [h3]; exact Heap.get?_push_of_some _ e
  have I4 := block_start I3 ok hN f3
  have pg := hg s3 (upd H2 D (.dT [])) s3.heap.objs.size (cellsFrom (s3.heap.objs.size + 1) scope.names (cloFrom X.env.cells scope.names [])) fp
  have pt := ht s3 (upd H2 D (.dT [])) s3.heap.objs.size (cellsFrom (s3.heap.objs.size + 1) scope.names (cloFrom X.env.cells scope.names [])) fp
  have pk := hk s3 (upd H2 D (.dT [])) s3.heap.objs.size (cellsFrom (s3.heap.objs.size + 1) scope.names (cloFrom X.env.cells scope.names [])) fp
  have pe := he s3 (upd H2 D (.dT [])) s3.heap.objs.size (cellsFrom (s3.heap.objs.size + 1) scope.names (cloFrom X.env.cells scope.names [])) fp
  show codeAny _ _ (.compStart (.DictComp kx vx [⟨tg, iter, ifs, 0⟩] scope pos) 0 (.ref it) (.ref D) (compEnvC scope (cellsFrom (s3.heap.objs.size + 1) scope.names (cloFrom X.env.cells scope.names [])) s3.heap.objs.size X.env)) (compPost (model X.prog X.w) X.A X.xe use Qf (.ref D) s3.heap.objs.size) { s3 with heap := pushCells (s3.heap.push { cls := .type "dict", data := .dict #[] }) scope.names }
  have nfp : ∀ b ∈ fp, (upd H2 D (.dT [])) b = none := fun b hb => (f3 b hb).1.1
  generalize hce : compEnvC scope (cellsFrom (s3.heap.objs.size + 1) scope.names (cloFrom X.env.cells scope.names [])) s3.heap.objs.size X.env = ce at I4 pg pt pk pe ⊢
  have cL : ce.locals = s3.heap.objs.size := by subst hce; rfl
  generalize hH3 : upd H2 D (.dT []) = H3 at I3 I4 pg pt pk pe w0 nfp f3
  generalize hs4 : ({ s3 with heap := pushCells (s3.heap.push { cls := .type "dict", data := .dict #[] }) scope.names } : Shared) = s4 at I4 ⊢
  have st4 : tn 0 s4.heap := T.keep _ _ _ st3 fun b _ o e => by rw [← hs4]; exact pushCells_keeps _ _ _ _ (Heap.get?_push_of_some _ e)
  have stat : ∀ {σ' : L2.St} {H' : Hp} {s' : Shared}, Inv (X.blk s3 H3 scope ce fp) [] σ' H' s' → (∀ b ∈ fp, H' b = none) → ∀ b ∈ fp, FpOk (X.blk s3 H3 scope ce fp) [] H' b := fun {σ' H' s'} I' hn b hb =>
    ⟨hn b hb, (I'.ok.exf b hb).1, I'.ok.exfs b hb, .inl hb, fun x c e => (I'.ok.exf b hb).2 x c e, fun p hp => absurd (show p ∈ ([] : List (Addr × Obj)) ++ [] from hp) (by simp)⟩
  have loop : codeAny (model X.prog X.w) X.A (.compLoop (.DictComp kx vx [⟨tg, iter, ifs, 0⟩] scope pos) 0 (.ref it) (.ref D) ce) (compPost (model X.prog X.w) X.A X.xe use Qf (.ref D) s3.heap.objs.size) s4 := by
    refine compLoop_anyD (fun n s' => ∃ i H', Inv (X.blk s3 H3 scope ce fp) [] (wipe σ (own.map (·.2))) H' s' ∧ tn i s'.heap ∧ (∀ b ∈ fp, H' b = none) ∧ W i n H') ?_ m0 ⟨0, H3, I4, st4, nfp, w0⟩
    rintro n s5 ⟨i, H5, I5, st5, n5, w5⟩
    rcases turn i n H5 w5 with ⟨stop, qq⟩ | ⟨go, Nx, hNx, step⟩
    · have td := T.done (X.blk s3 H3 scope ce fp) rfl rfl rfl hc i [] s5 _ H5 (fun _ _ => False) I5 (stat I5 n5) st5 stop
      refine thnF td fun r s6 ⟨hr, I6⟩ => ?_
      subst hr
      have I7 : Inv X pins σ H5 s6 := I3.call' (ch := fp) I6.os I6.base I6.hok I6.bare fun b hb => ⟨(f3 b hb).1.2.2.2.1, (f3 b hb).1.2.1, (f3 b hb).1.2.2.2.2.1, (f3 b hb).1.2.2.2.2.2⟩
      have nC : H5 s3.heap.objs.size = none := by
        have z : H5 ce.locals = none := I6.free
        rw [cL] at z
        exact z
      obtain ⟨m, hn, _⟩ := I6.loc
      have hn : s6.heap.Ns ce.locals m := hn
      rw [cL] at hn
      exact hRR D s3.heap.objs.size s6 m H5 I7 qq hn (I3.fpOk (Nat.le_refl _) nC)
    · have ti := T.item (X.blk s3 H3 scope ce fp) rfl rfl rfl hc i [] s5 _ H5 (fun _ _ => False) I5 (stat I5 n5) st5 go
      refine thnF ti fun r s6 ⟨u, hr, h6⟩ => ?_
      subst hr
      refine thnF h6 fun _ s7 ⟨x, H7, I7, r7, y7, st7, n7⟩ => ?_
      have I7' := I7.pinned (stat I7 n7) (T.obj _ _ st7)
      refine thnF (pg.run _ s7 _ H7 x u _ I7' r7 (step x H7 y7)) fun _ s8 ⟨σ8, H8, I8, hw8, q8⟩ => ?_
      refine thnF (pt.run _ s8 σ8 H8 _ I8 q8) fun b s9 ⟨H9, I9, q9⟩ => ?_
      have fin : ∀ {s' : Shared} {H' : Hp}, Inv (X.blk s3 H3 scope ce fp) ([] ++ pinsAt fp s7.heap) σ8 H' s' → Nx H' → ∃ m, m < n ∧ ∃ i H', Inv (X.blk s3 H3 scope ce fp) [] (wipe σ (own.map (·.2))) H' s' ∧ tn i s'.heap ∧ (∀ b ∈ fp, H' b = none) ∧ W i m H' := fun {s' H'} I' nx => by
        obtain ⟨m', hm, w'⟩ := hNx H' nx
        have pin' : ∀ b ∈ fp, ∀ o, s7.heap.get? b = some o → s'.heap.get? b = some o ∧ H' b = none := fun b hb o e =>
          let z := I'.pin (b, o) (List.mem_append_right _ (List.mem_append_right _ (mem_pinsAt hb e)))
          ⟨z.1, z.2.1⟩
        have hl : (wipe σ (own.map (·.2))).length = σ8.length := by rw [← hw8, wipe_length]
        refine ⟨m', hm, i + 1, H', (I'.unpinned (pins := [])).weak hl (fun j v e => ?_), T.keep _ _ _ st7 fun b hb o e => (pin' b hb o e).1, fun b hb => ?_, w'⟩
        · rw [← hw8] at e
          exact (wipe_some e).1
        · obtain ⟨o, e, _⟩ := T.obj _ _ st7 b hb
          exact (pin' b hb o e).2
      cases b with
      | false =>
        simp only [Bool.false_eq_true, if_false] at q9 ⊢
        exact fin I9 q9
      | true =>
        simp only [if_true] at q9 ⊢
        refine thnF (pk.run _ s9 σ8 H9 _ I9 q9) fun z s10 ⟨yk, H10, I10, r10, q10⟩ => ?_
        refine thnF (pe.run _ s10 σ8 H10 _ I10 q10) fun z2 s11 ⟨yv, H11, I11, r11, kvs, k, bk, ek, hbk, hD11, hz11, nx⟩ => ?_
        subst ek
        exact d_dictSetT (X := X.blk s3 H3 scope ce fp) (A1 := X.A) hu I11 hD11 hz11 hbk r10 r11 fun s12 I12 => fin I12 nx
  exact codeAny_compStart_dict loop (T.self X.A 0 _ _ _ st4 loop)
theorem pe_dcT {kx vx tg iter : Expr} {ifs : List Expr} {scope : Scope} {own : List (Str × Nat)} {pos : Pos} {wi : TI} {g : TG} {tt : TT} {tk tv : TE} (hu : X.A.units + 1 < cLine) (hc : X.calm = true) (hN : X.N.Nodup) (hi : PI X tg iter wi) (ok : BlkOk X.N X.env.scope scope own)
    (hg : ∀ (s : Shared) (H : Hp) (C : Addr) (cl : List (Str × Addr)) (fp : List Addr), PG (X.blk s H scope (compEnvC scope cl C X.env) fp) tg g) (ht : ∀ (s : Shared) (H : Hp) (C : Addr) (cl : List (Str × Addr)) (fp : List Addr), PTs (X.blk s H scope (compEnvC scope cl C X.env) fp) ifs tt)
    (hk : ∀ (s : Shared) (H : Hp) (C : Addr) (cl : List (Str × Addr)) (fp : List Addr), PE (X.blk s H scope (compEnvC scope cl C X.env) fp) kx tk)
    (he : ∀ (s : Shared) (H : Hp) (C : Addr) (cl : List (Str × Addr)) (fp : List Addr), PE (X.blk s H scope (compEnvC scope cl C X.env) fp) vx tv) (hs : ∀ x, foldedSetIterable iter X.env x = pure x := by intro _; rfl) :
    PE X (.DictComp kx vx [⟨tg, iter, ifs, 0⟩] scope pos) (tDcT wi g tt tk tv (own.map (·.2))) := by
  refine ⟨fun pins s σ H Q I h => ?_⟩
  rw [arm_eval_DictComp]
  refine dct_core hu hc hN I hi ok hg ht hk he hs h fun D C s' m H' I' q hn f => ⟨m, hn, fun h'' sb => ?_⟩
  obtain ⟨f0, f1, f2, f3, f4, f5⟩ := f
  exact ⟨.ref D, H', I'.turned (t' := s'.toks) (fun b o hb e => (sb.2 b hb).trans e) f0 f1 f3 f4 f5, rfl, q⟩
/-- p == q -/
def rEqP (K : PySem.W.Frag) : R2 := fun x y H Q => ∃ (a b : Addr) (p q : Str × Str), x = .ref a ∧ y = .ref b ∧ SqT K H a [.str p.1, .str p.2] ∧ SqT K H b [.str q.1, .str q.2] ∧ Pok p ∧ Pok q ∧ Q (.bl (decide (p = q))) H
/-- xs == [] -/
def rEqE (K : PySem.W.Frag) : R2 := fun x y H Q => ∃ (a b : Addr) (xs : List V) (ps : List (Str × Str)), x = .ref a ∧ y = .ref b ∧ SqL K H a xs ∧ DpAll K H xs (ps.map pairD) ∧ (∀ q ∈ ps, Pok q) ∧ SqL K H b [] ∧ Q (.bl ps.isEmpty) H
theorem pairD_shaped {p : Str × Str} (h : Pok p) : SeqAt.shaped (pairD p) = true := by
  have h1 := pairD_depth p
  show ((pairD p).canLay0 && decide ((pairD p).depth ≤ 64)) = true
  rw [Bool.and_eq_true]
  exact ⟨pairD_lay h, decide_eq_true (by omega)⟩
theorem op_eqP (K : PySem.W.Frag) (hu : X.A.units + 65 < cLine) (hK : X.K = K := by rfl) : OpR X (compareOp .Eq) (rEqP K) := by
  subst hK
  intro pins s σ H x y v u Q I rx ry h
  obtain ⟨a, b, p, q, rfl, rfl, ha, hb, okp, okq, k⟩ := h
  refine op_eqD (by omega) pins s σ H _ _ v u Q I rx ry ⟨pairD p, pairD q, .tup ha (.cons (.str _) (.cons (.str _) .nil)), .tup hb (.cons (.str _) (.cons (.str _) .nil)), pairD_shaped okp, pairD_shaped okq, ?_⟩
  rw [pairD_eqv]
  exact k
theorem op_eqE (K : PySem.W.Frag) (hu : X.A.units + 65 < cLine) (hK : X.K = K := by rfl) : OpR X (compareOp .Eq) (rEqE K) := by
  subst hK
  intro pins s σ H x y v u Q I rx ry h
  obtain ⟨a, b, xs, ps, rfl, rfl, ha, hd, okps, hb, q⟩ := h
  refine op_eqD (by omega) pins s σ H _ _ v u Q I rx ry ⟨.list (ps.map pairD), .list [], .lst ha hd, .lst hb .nil, pairDs_shaped okps, by decide, ?_⟩
  have e : (PyData.eqv (.list (ps.map pairD)) (.list [])) = ps.isEmpty := by
    cases ps with
    | nil => simp [PyData.eqv, PyData.eqvAll]
    | cons p r => simp [PyData.eqv, PyData.eqvAll]
  rw [e]
  exact q
end
end K59
/-! D19 -/
set_option Elab.async false
set_option linter.all false
set_option maxRecDepth 100000
set_option maxHeartbeats 2000000
namespace K59
open PySem PySem.Spec PyProof.Rows L2 LamX
/-- the law's successions -/
def LNext (ds : List Dd) (c : Str) (d e : Dd) : Prop := endsB c e = true ∧ ∃ u, Reach (ds.filter (actB false c)) (Behind ds d) u ∧ u ∈ e.mv.map (·.1)
def LSuccBy (cols : List Str) (ds : List Dd) (c : Str) (bs : List Dd) (q : Str × Str) : Prop := ∃ d ∈ bs, c ∈ wrote cols d ∧ ∃ e ∈ ds, q = (d.nm, e.nm) ∧ LNext ds c d e
section
variable {P : Program} {w : World} {K : PySem.W.Frag} {mg : Str → Option Value} {base : Heap}
abbrev s__law_successions : Stmt := top 79
abbrev N__law_successions : List Str := ["_law_data_here", "_law_column", "_law_states", "_law_found", "_law_deed_here", "_law_behind", "_law_around", "_law_other", "_law_is_next", "_law_one", "_law_two", "_law_move"]
theorem sc__law_successions : FnScope N__law_successions ["_law_data_here", "_law_column"] (defScope s__law_successions) := ⟨rfl, rfl, rfl, by decide +kernel, rfl, by decide +kernel, by decide +kernel⟩
def sp_succs (K : PySem.W.Frag) : Sp := fun vs H Q _ => ∃ (v : V) (c : Str) (D : Da) (U : List Str), vs = [v, .str c] ∧ Dp K H v (daD D) ∧ D.rows.length ≤ 5 ∧ (∀ r ∈ D.rows, r.1.mv.length ≤ 3 ∧ ∀ p ∈ r.1.mv, p.2 ∈ U) ∧ U.length ≤ 4 ∧ (∀ r ∈ D.rows, ∀ p ∈ r.1.mv, Pok p) ∧
  ∀ (p : Addr) (xs : List V) (ps : List (Str × Str)) (H' : Hp), Same H H' → H p = none → H' p = some (.lst xs) → DpAll K H' xs (ps.map pairD) → (∀ q, q ∈ ps ↔ LSuccBy D.cols (D.rows.map (·.1)) c (D.rows.map (·.1)) q) → ps.length ≤ 100 → Q (.ref p) H'
theorem ok_succs (T : Tx2 P K mg) : OkR P w K mg base 2 (He.fAd K ("_law_successions", none)) (sp_succs K) := by
  have G__law_columns : OkR P w K mg base 1 (He.fAd K ("_law_columns", none)) (sp_columns K) := ok_columns T
  have G__law_reached : OkR P w K mg base 1 (He.fAd K ("_law_reached", none)) (sp_lreached K) := ok_lreached T
  refine mkR T.f__law_successions sc__law_successions (fun vs H Q E h => ?_) (fun _ _ _ _ _ _ us hl => match us, hl with | [_, _], _ => rfl) fun cdv A outer s H vs Q E hr h => ?_
  · obtain ⟨_, _, _, _, rfl, _⟩ := h
    rfl
  · obtain ⟨v, c, D, U, rfl, hv, hrl, hU, hUl, hok, k⟩ := h
    refine ⟨_, 
    (pss_cons (ps_asg (pe_tup (pa_cons (pe_callF G__law_reached (hr.mono (by decide)) (by rfl) T.g__law_reached (pa_cons (pv 0) (pa_cons (pe_lst (pa_cons pe_str pa_nil)) (pa_cons pe_bl (pa_cons (pv 1) pa_nil))))) (pa_cons (pe_lst pa_nil) pa_nil))) (pg_tupK (n := 2) K (by rfl) (pgs_cons (pg_name (i := 2) sc__law_successions.nd rfl (Or.inr rfl)) (pgs_cons (pg_name (i := 3) sc__law_successions.nd rfl (Or.inl rfl)) pgs_nil)))) 
    (pss_cons (ps_for PassesOwn.never rfl (pi_listK K (pe_ix (ix_tupK K) (pv 0) pe_int (fun _ _ => rfl))) (pg_name (i := 4) sc__law_successions.nd rfl (Or.inl rfl)) 
      (pss_one (ps_if (pt_cmpR (inK K) (pv 1) (pe_callF G__law_columns (hr.mono (by decide)) (by rfl) T.g__law_columns (pa_cons (pv 0) (pa_cons (pv 4) pa_nil))) (by rfl)) 
        (pss_cons (ps_setLc (i := 5) (own := [("_law_one", 9), ("_law_two", 10)]) (by rfl) sc__law_successions.nd rfl rfl (sw_true rfl rfl rfl (by decide +kernel)) (pi_listK K (pe_ix (ix_tupK K) (pv 4) pe_int (fun _ _ => rfl))) (blkOk_by (own := [("_law_one", 9), ("_law_two", 10)]) (N := N__law_successions) (sc := (defScope s__law_successions)) (by decide +kernel)) (fun _ _ _ _ _ => (pg_tupK (n := 2) K (by rfl) (pgs_cons (pg_name (i := 9) sc__law_successions.nd rfl (Or.inl rfl)) (pgs_cons (pg_name (i := 10) sc__law_successions.nd rfl (Or.inl rfl)) pgs_nil)))) (fun _ _ _ _ _ => pts_one (pt_cmpR (inK K) (pv 9) (pv 2) (by rfl))) (fun _ _ _ _ _ => (pv 10))) 
        (pss_cons (ps_set (i := 6) sc__law_successions.nd rfl (Or.inr rfl) (pe_callF G__law_reached (hr.mono (by decide)) (by rfl) T.g__law_reached (pa_cons (pv 0) (pa_cons (pv 5) (pa_cons pe_bl (pa_cons (pv 1) pa_nil)))))) 
        (pss_one (ps_for PassesOwn.never rfl (pi_listK K (pe_ix (ix_tupK K) (pv 0) pe_int (fun _ _ => rfl))) (pg_name (i := 7) sc__law_successions.nd rfl (Or.inl rfl)) 
          (pss_cons (ps_set (i := 8) sc__law_successions.nd rfl (Or.inl rfl) (pe_or (pe_cmpR op_eq (pe_ix (ix_tupK K) (pv 7) pe_int (fun _ _ => rfl)) pe_str (nomark _)) (pe_one (pe_and (pe_cmpR op_eq (pe_ix (ix_tupK K) (pv 7) pe_int (fun _ _ => rfl)) pe_str (nomark _)) (pe_one (pe_cmpR (inK K) (pv 1) (pe_ix (ix_tupK K) (pv 7) pe_int (fun _ _ => rfl)) (by rfl))))))) 
          (pss_one (ps_if (PW.pt (pw_and (pt_val (pv 8) (by intro _; rfl)) (pw_and1 (pt_cmpR (op_neE K (hu65 hr)) (pe_lc (own := [("_law_move", 11)]) (by rfl) sc__law_successions.nd (pi_listK K (pe_ix (ix_tupK K) (pv 7) pe_int (fun _ _ => rfl))) (blkOk_by (own := [("_law_move", 11)]) (N := N__law_successions) (sc := (defScope s__law_successions)) (by decide +kernel)) (fun _ _ _ _ _ => (pg_name (i := 11) sc__law_successions.nd rfl (Or.inl rfl))) (fun _ _ _ _ _ => pts_one (pt_cmpR (inK K) (pe_ix (ix_tupK K) (pv 11) pe_int (fun _ _ => rfl)) (pv 6) (by rfl))) (fun _ _ _ _ _ => (pv 11))) (pe_lst pa_nil) (nomark _))))) 
            (pss_one (ps_expr (pe_bm PySem.F.plainAttrs_list PySem.F.slot_list_append PySem.F.type_list_append mt_append (pv 3) (pa_cons (pe_tup (pa_cons (pe_ix (ix_tupK K) (pv 4) pe_int (fun _ _ => rfl)) (pa_cons (pe_ix (ix_tupK K) (pv 7) pe_int (fun _ _ => rfl)) pa_nil))) pa_nil)))) pss_nil))))))) pss_nil))) 
    (pss_one (ps_ret (pe_callB (cr_sortPS K) (by rfl) T.n_sorted (by decide +kernel) (pa_cons (pv 3) pa_nil)))))), ?_⟩
    obtain ⟨a, xs, a0, a1, rs, v2, rfl, ha, rfl, ha0, ha1, hrs⟩ := data_get hv
    have hrsl : rs.length = D.rows.length := by
      have := dpa_len hrs
      rw [List.length_map] at this
      exact this
    refine ⟨_, rfl, (show 1 ≤ sizeLine by decide), fun l1 hl1 => ?_⟩
    have y1 : ∀ u, Same H (upd H l1 u) := fun u => same_upd hl1
    refine ⟨_, rfl, _, l1, true, c, D, [""], U, rfl, dp_same (y1 _) hv, SqL.of upd_same, fun r hr p hp => (hU r hr).2 p hp, hUl, by decide, fun p fs H2 e2 hp2 h2 hfs hfl => ?_⟩
    have y2 := (y1 (.lst [.str ""])).trans e2
    refine ⟨Nat.zero_le _, fun F hF => ⟨(show 2 ≤ sizeLine by decide), fun tp htp => ⟨tp, _, rfl, SqT.of upd_same, rfl, _, _, rfl, _, _, rfl, rfl, ?_⟩⟩⟩
    have yH3 : Same H2 (upd (upd H2 F (.lst [])) tp (.tup [.ref p, .ref F])) := (same_upd hF).trans (same_upd htp)
    have pF : PairsIn K (upd (upd H2 F (.lst [])) tp (.tup [.ref p, .ref F])) F [] := pin_same (same_upd htp) ⟨[], upd_same, rfl, .nil⟩
    generalize upd (upd H2 F (.lst [])) tp (.tup [.ref p, .ref F]) = H3 at yH3 pF
    have y3 := y2.trans yH3
    generalize hds : D.rows.map (·.1) = ds at k hfs
    have hR : ∀ s, s ∈ fs ↔ Reach ds (· = "") s := fun s => by
      rw [hfs]
      constructor
      · exact reach_mono (fun e he => (List.mem_filter.mp he).1) fun _ z => List.mem_singleton.mp z
      · exact reach_mono (fun e he => List.mem_filter.mpr ⟨he, rfl⟩) fun _ z => List.mem_singleton.mpr z
    refine ⟨_, rfl, a, _, _, _, rfl, rfl, same_tup y3 ha, atI_nat (j := 1) rfl, a1, rfl, ⟨_, y3.seq ha1⟩, for_lst (K := K) (a := a1) (xs := rs) (fun i σ Hk => ∃ (v4 v5 v6 v7 v8 : Option V) (ps : List (Str × Str)), σ = [some (.ref a), some (.str c), some (.ref p), some (.ref F), v4, v5, v6, v7, v8, none, none, none] ∧ Same H2 Hk ∧ PairsIn K Hk F ps ∧ (∀ q, q ∈ ps ↔ LSuccBy D.cols ds c (ds.take i) q) ∧ ps.length ≤ 5 * i) ⟨none, none, none, none, none, [], rfl, yH3, pF, fun q => ⟨fun h => (nomatch h), fun ⟨d, hd, _⟩ => (nomatch hd)⟩, Nat.le_refl _⟩ (fun i σ Hk _ ⟨_, _, _, _, _, _, _, e, _⟩ => (y2.trans e).seq ha1) ?_ ?_⟩
    · rintro i y σ Hk hi ⟨v4, v5, v6, v7, v8, ps, rfl, ek, pI, pq, pl⟩
      have yk := y2.trans ek
      obtain ⟨r, hr', hDr⟩ := dpa_rows_get hrs hi
      have hmem := List.mem_of_getElem? hr'
      have hlt := (List.getElem?_eq_some_iff.mp hr').1
      have hrd : ds[i]? = some r.1 := by rw [← hds, List.getElem?_map, hr']; rfl
      obtain ⟨q, ys, qm, ms, qo, v4', rfl, hq, rfl, hqm, hms, hqo⟩ := row_get hDr
      have hml : ms.length = r.1.mv.length := by
        have := dpa_len hms
        rw [List.length_map] at this
        exact this
      have hm3 := (hU r hmem).1
      refine ⟨_, rfl, _, rfl, _, rfl, _, _, D, r, rfl, dp_same yk hv, dp_same yk hDr, fun wp hw => ?_⟩
      refine ⟨wp, _, rfl, .inl hw, rfl, flat_strs _, _, rfl, ?_⟩
      rw [inV_strs]
      by_cases hcw : c ∈ wrote D.cols r.1
      · refine iteB (decide_eq_true hcw) ⟨_, rfl, q, _, _, _, rfl, rfl, same_tup yk hq, atI_nat (j := 2) rfl, qm, rfl, ⟨_, yk.seq hqm⟩, fun D3 hD3 => ?_⟩
        refine lc_list (K := K) (a := qm) (xs := ms) (Gr Hk D3 fun m acc _ => ∃ bs : List Str, acc = bs.map V.str ∧ ∀ t, t ∈ bs ↔ ∃ s, s ∈ fs ∧ (s, t) ∈ r.1.mv.take m) (gr_start hD3 ⟨[], rfl, fun t => ⟨fun h => (nomatch h), fun ⟨s, _, hs⟩ => (nomatch hs)⟩⟩) (fun m H7 _ G => G.ext.seq (yk.seq hqm)) ?_ ?_
        · rintro m z H7 hm G
          obtain ⟨pr, t, hpr, rfl, ht⟩ := dpa_pairs_get hms hm
          have hjl := (List.getElem?_eq_some_iff.mp hpr).1
          refine ⟨t, _, rfl, same_tup (yk.trans G.ext) ht, rfl, _, _, rfl, _, _, rfl, rfl, rfl, _, rfl, _, rfl, p, _, rfl, .inl (SqL.of ((ek.trans G.ext) _ _ h2)), rfl, flat_strs fs, _, rfl, ?_⟩
          rw [inV_strs]
          by_cases h1 : pr.1 ∈ fs
          · refine iteB (decide_eq_true h1) ⟨_, rfl, gr_add G (Same.refl _) (by omega) (fun _ _ _ _ _ h => h) fun acc ⟨bs, hb1, hb2⟩ => ⟨bs ++ [pr.2], by rw [hb1, List.map_append]; rfl, fun u => ?_⟩⟩
            rw [List.mem_append, List.mem_singleton, hb2, take_at hpr]
            constructor
            · rintro (⟨s', hs', hm'⟩ | rfl)
              · exact ⟨s', hs', List.mem_append_left _ hm'⟩
              · exact ⟨pr.1, h1, List.mem_append_right _ (List.mem_singleton.mpr rfl)⟩
            · rintro ⟨s', hs', hm'⟩
              rcases List.mem_append.mp hm' with z | z
              · exact .inl ⟨s', hs', z⟩
              · exact .inr (by rw [← List.mem_singleton.mp z])
          · refine iteN (decide_eq_false h1) (gr_skip G (Same.refl _) (fun _ _ _ _ _ h => h) fun acc ⟨bs, hb1, hb2⟩ => ⟨bs, hb1, fun u => ?_⟩)
            rw [hb2, take_at hpr]
            constructor
            · rintro ⟨s', hs', hm'⟩
              exact ⟨s', hs', List.mem_append_left _ hm'⟩
            · rintro ⟨s', hs', hm'⟩
              rcases List.mem_append.mp hm' with z | z
              · exact ⟨s', hs', z⟩
              · rw [← List.mem_singleton.mp z] at h1
                exact absurd hs' h1
        rintro H9 ⟨hD9, e9, acc9, hacc9, hal9, bs, rfl, hbs⟩
        rw [hml, List.take_length] at hbs
        rw [List.length_map, hml] at hal9
        have y9 := yk.trans e9
        have hbh : ∀ t, t ∈ bs ↔ Behind ds r.1 t := fun t => by
          rw [hbs]
          exact ⟨fun ⟨s, h1, h2⟩ => ⟨s, (hR s).1 h1, h2⟩, fun ⟨s, h1, h2⟩ => ⟨s, (hR s).2 h1, h2⟩⟩
        refine ⟨_, rfl, _, rfl, _, rfl, _, D3, false, c, D, bs, U, rfl, dp_same y9 hv, SqL.of hacc9, fun r hr p hp => (hU r hr).2 p hp, hUl, by omega, fun p2 fs2 H4 e4 hp4 h4 hfs2 hfl2 => ?_⟩
        have hpF : p2 ≠ F := fun e => by
          obtain ⟨zs, hz, _⟩ := pI.ex
          rw [e, e9 _ _ hz] at hp4
          cases hp4
        have hB : Same H2 (less F H4) := same_lessN hF ((ek.trans e9).trans e4)
        have pI4 : PairsIn K H4 F ps := pin_same (e9.trans e4) pI
        have hB4 : Same (less F H4) H4 := less_sub _ _
        have h4B : less F H4 p2 = some (.lst (fs2.map V.str)) := by rw [less_ne hpF]; exact h4
        have hBF : less F H4 F = none := less_x
        generalize less F H4 = B at hB hB4 h4B hBF
        have yB := y2.trans hB
        have hfs2' : ∀ u, u ∈ fs2 ↔ Reach (ds.filter (actB false c)) (Behind ds r.1) u := fun u => by
          rw [hfs2, hds]
          constructor
          · exact reach_mono (fun e he => he) fun t z => (hbh t).1 z
          · exact reach_mono (fun e he => he) fun t z => (hbh t).2 z
        have hfs2l : fs2.length ≤ 100 := by omega
        refine ⟨_, rfl, a, _, _, _, rfl, rfl, same_tup (yB.trans hB4) ha, atI_nat (j := 1) rfl, a1, rfl, ⟨_, (yB.trans hB4).seq ha1⟩, for_lst (K := K) (a := a1) (xs := rs) (fun j σ Hm => ∃ (v7 v8 : Option V) (ps' : List (Str × Str)), σ = [some (.ref a), some (.str c), some (.ref p), some (.ref F), some (.ref q), some (.ref D3), some (.ref p2), v7, v8, none, none, none] ∧ Same B Hm ∧ PairsIn K Hm F ps' ∧ (∀ z, z ∈ ps' ↔ (LSuccBy D.cols ds c (ds.take i) z ∨ ∃ e ∈ ds.take j, z = (r.1.nm, e.nm) ∧ LNext ds c r.1 e)) ∧ ps'.length ≤ 5 * i + j) ⟨v7, v8, ps, rfl, hB4, pI4, fun z => (pq z).trans ⟨.inl, fun h => h.elim id fun ⟨e, he, _⟩ => (nomatch he)⟩, pl⟩ (fun j σ Hm _ ⟨_, _, _, _, e, _⟩ => (yB.trans e).seq ha1) ?_ ?_⟩
        · rintro j y2' σ Hm hj ⟨v7, v8, ps', rfl, em, pI', pq', pl'⟩
          have ym := yB.trans em
          obtain ⟨r2, hr2, hDr2⟩ := dpa_rows_get hrs hj
          have hmem2 := List.mem_of_getElem? hr2
          have hlt2 := (List.getElem?_eq_some_iff.mp hr2).1
          have hrd2 : ds[j]? = some r2.1 := by rw [← hds, List.getElem?_map, hr2]; rfl
          obtain ⟨q2, ys2, qm2, ms2, qo2, v42, rfl, hq2, rfl, hqm2, hms2, hqo2⟩ := row_get hDr2
          have hml2 : ms2.length = r2.1.mv.length := by
            have := dpa_len hms2
            rw [List.length_map] at this
            exact this
          have hm32 := (hU r2 hmem2).1
          refine asg_by (.bl (endsB c r2.1)) (fun Qv hQ => ?_) ?_
          · refine ⟨_, rfl, q2, _, _, _, rfl, rfl, same_tup ym hq2, atI_nat (j := 0) rfl, rfl, ?_⟩
            unfold endsB at hQ
            by_cases hk : r2.1.k = .en
            · have e1 := (kS_dec r2.1.k .en).trans (decide_eq_true hk)
              rw [decide_eq_true hk] at hQ
              refine ⟨_, rfl, ?_⟩
              exact iteB e1 hQ
            · have e1 := (kS_dec r2.1.k .en).trans (decide_eq_false hk)
              rw [decide_eq_false hk] at hQ
              refine ⟨_, rfl, iteN e1 ⟨_, rfl, q2, _, _, _, rfl, rfl, same_tup ym hq2, atI_nat (j := 0) rfl, rfl, _, rfl, ?_⟩⟩
              by_cases hk2 : r2.1.k = .ch
              · have e2 := (kS_dec r2.1.k .ch).trans (decide_eq_true hk2)
                rw [decide_eq_true hk2] at hQ
                refine iteB e2 ⟨_, rfl, _, rfl, q2, _, _, _, rfl, rfl, same_tup ym hq2, atI_nat (j := 3) rfl, qo2, _, rfl, .inl (ym.seq hqo2), rfl, flat_strs _, ?_⟩
                rw [inV_strs]
                simpa using hQ
              · have e2 := (kS_dec r2.1.k .ch).trans (decide_eq_false hk2)
                rw [decide_eq_false hk2] at hQ
                exact iteN e2 (by simpa using hQ)
          · have step : ∀ z, ((LSuccBy D.cols ds c (ds.take i) z ∨ ∃ e ∈ ds.take (j + 1), z = (r.1.nm, e.nm) ∧ LNext ds c r.1 e) ↔ ((LSuccBy D.cols ds c (ds.take i) z ∨ ∃ e ∈ ds.take j, z = (r.1.nm, e.nm) ∧ LNext ds c r.1 e) ∨ (z = (r.1.nm, r2.1.nm) ∧ LNext ds c r.1 r2.1))) := fun z => by
              rw [take_at hrd2]
              constructor
              · rintro (h | ⟨e, he, h⟩)
                · exact .inl (.inl h)
                · rcases List.mem_append.mp he with he | he
                  · exact .inl (.inr ⟨e, he, h⟩)
                  · rw [List.mem_singleton.mp he] at h
                    exact .inr h
              · rintro ((h | ⟨e, he, h⟩) | h)
                · exact .inl h
                · exact .inr ⟨e, List.mem_append_left _ he, h⟩
                · exact .inr ⟨_, List.mem_append_right _ (List.mem_singleton.mpr rfl), h⟩
            have skip : ¬ LNext ds c r.1 r2.1 → ∀ z, z ∈ ps' ↔ (LSuccBy D.cols ds c (ds.take i) z ∨ ∃ e ∈ ds.take (j + 1), z = (r.1.nm, e.nm) ∧ LNext ds c r.1 e) := fun hn z => (pq' z).trans ((step z).trans ⟨fun h => h.elim id fun h => absurd h.2 hn, .inl⟩).symm
            refine ⟨_, rfl, _, rfl, ?_⟩
            by_cases hE : endsB c r2.1 = true
            · refine iteB hE ⟨_, rfl, q2, _, _, _, rfl, rfl, same_tup ym hq2, atI_nat (j := 2) rfl, qm2, rfl, ⟨_, ym.seq hqm2⟩, fun D5 hD5 => ?_⟩
              refine lc_list (K := K) (a := qm2) (xs := ms2) (Gr Hm D5 fun m acc h => DpAll K h acc (((r2.1.mv.take m).filter fun x => decide (x.1 ∈ fs2)).map pairD)) (gr_start hD5 .nil) (fun m H7 _ G => (ym.trans G.ext).seq hqm2) ?_ ?_
              · rintro m z H7 hm G
                obtain ⟨pr, t, hpr, rfl, ht⟩ := dpa_pairs_get hms2 hm
                have hjl := (List.getElem?_eq_some_iff.mp hpr).1
                refine ⟨rfl, _, rfl, t, _, _, _, rfl, rfl, same_tup (ym.trans G.ext) ht, atI_nat (j := 0) rfl, _, rfl, p2, _, rfl, .inl (SqL.of ((em.trans G.ext) _ _ h4B)), rfl, flat_strs fs2, _, rfl, ?_⟩
                rw [inV_strs]
                by_cases h1 : pr.1 ∈ fs2
                · refine iteB (decide_eq_true h1) ⟨_, rfl, gr_add G (Same.refl _) (by omega) (fun _ _ _ _ e h => dpa_same e h) fun acc h => ?_⟩
                  rw [filter_at hpr, if_pos (decide_eq_true h1), List.map_append]
                  exact dpa_snoc h (.tup (same_tup (same_lessN (ym.free G.new) (ym.trans G.ext)) ht) (.cons (.str _) (.cons (.str _) .nil)))
                · refine iteN (decide_eq_false h1) (gr_skip G (Same.refl _) (fun _ _ _ _ e h => dpa_same e h) fun acc h => ?_)
                  rw [filter_at hpr, if_neg (by rw [decide_eq_false h1]; decide), List.append_nil]
                  exact h
              · rintro H7 ⟨hD7, e7, acc7, hacc7, _, hd7⟩
                rw [hml2, List.take_length] at hd7
                refine ⟨Nat.zero_le _, fun e he => ?_⟩
                have ye : ∀ u, Same H7 (upd H7 e u) := fun u => same_upd he
                have y7 := em.trans e7
                refine ⟨D5, e, acc7, _, rfl, rfl, (ye _).seq (SqL.of hacc7), dpa_same ((less_sub _ _).trans (ye _)) hd7, fun x hx => hok r2 hmem2 x (List.mem_filter.mp hx).1, SqL.of upd_same, _, rfl, ?_⟩
                by_cases hfl : (r2.1.mv.filter fun x => decide (x.1 ∈ fs2)) = []
                · refine iteN (by rw [hfl]; rfl) ⟨_, _, ps', rfl, y7.trans (ye _), pin_same (e7.trans (ye _)) pI', skip fun ⟨_, u, hu, hm'⟩ => ?_, by omega⟩
                  obtain ⟨x, hx, rfl⟩ := List.mem_map.mp hm'
                  have : x ∈ r2.1.mv.filter (fun x => decide (x.1 ∈ fs2)) := List.mem_filter.mpr ⟨hx, decide_eq_true ((hfs2' _).2 hu)⟩
                  rw [hfl] at this
                  cases this
                · have hne : (!(r2.1.mv.filter fun x => decide (x.1 ∈ fs2)).isEmpty) = true := by
                    cases hz : (r2.1.mv.filter fun x => decide (x.1 ∈ fs2)) with
                    | nil => exact absurd hz hfl
                    | cons _ _ => rfl
                  have hnext : LNext ds c r.1 r2.1 := by
                    obtain ⟨x, hx⟩ := List.exists_mem_of_ne_nil _ hfl
                    obtain ⟨h1, h2'⟩ := List.mem_filter.mp hx
                    exact ⟨hE, x.1, (hfs2' _).1 (of_decide_eq_true h2'), List.mem_map.mpr ⟨x, h1, rfl⟩⟩
                  obtain ⟨zs, hz1, hz2, hz3⟩ := (pin_same (e7.trans (ye (.lst []))) pI').ex
                  have y8 := ym.trans (e7.trans (ye (.lst [])))
                  refine iteB hne ⟨_, rfl, .inl ⟨rfl, _, .inl (.inl hz1)⟩, _, rfl, q, _, _, _, rfl, rfl, same_tup y8 hq, atI_nat (j := 1) rfl, _, rfl, q2, _, _, _, rfl, rfl, same_tup y8 hq2, atI_nat (j := 1) rfl, (show 2 ≤ sizeLine by decide), fun t ht => ?_⟩
                  refine ⟨F, _, _, rfl, rfl, same_upd ht _ _ hz1, by rw [hz2, sizeLine_eq]; omega, _, _, ps' ++ [(r.1.nm, r2.1.nm)], rfl, same_mut ((y7.trans (ye _)).trans (same_upd ht)) hBF, pin_push hz1 hz2 hz3 ht, fun z => ?_, by rw [List.length_append]; show ps'.length + 1 ≤ _; omega⟩
                  rw [List.mem_append, List.mem_singleton, pq', step]
                  exact ⟨fun h => h.imp_right fun h => ⟨h, hnext⟩, fun h => h.imp_right fun h => h.1⟩
            · exact iteN (by simpa using hE) ⟨_, _, ps', rfl, em, pI', skip fun h => hE h.1, by omega⟩
        · rintro σ Hm ⟨v7, v8, ps', rfl, em, pI', pq', pl'⟩
          have hfull : ds.take rs.length = ds := List.take_of_length_le (by rw [← hds, List.length_map, hrsl]; exact Nat.le_refl _)
          rw [hfull] at pq'
          refine ⟨_, _, _, _, _, ps', rfl, hB.trans em, pI', fun z => (pq' z).trans ?_, by omega⟩
          rw [take_at hrd]
          constructor
          · rintro (⟨d', hd', r'⟩ | ⟨e, he, hz, hn⟩)
            · exact ⟨d', List.mem_append_left _ hd', r'⟩
            · exact ⟨r.1, List.mem_append_right _ (List.mem_singleton.mpr rfl), hcw, e, he, hz, hn⟩
          · rintro ⟨d', hd', hw', e, he, hz, hn⟩
            rcases List.mem_append.mp hd' with z' | z'
            · exact .inl ⟨d', z', hw', e, he, hz, hn⟩
            · rw [List.mem_singleton.mp z'] at hz hn
              exact .inr ⟨e, he, hz, hn⟩
      · refine iteN (decide_eq_false hcw) ⟨_, _, _, _, _, ps, rfl, ek, pI, fun z => (pq z).trans ?_, by omega⟩
        rw [take_at hrd]
        constructor
        · rintro ⟨d', hd', r'⟩
          exact ⟨d', List.mem_append_left _ hd', r'⟩
        · rintro ⟨d', hd', hw', r'⟩
          rcases List.mem_append.mp hd' with z | z
          · exact ⟨d', z, hw', r'⟩
          · rw [List.mem_singleton.mp z] at hw'
            exact absurd hw' hcw
    · rintro σ Hk ⟨v4, v5, v6, v7, v8, ps, rfl, ek, pI, pq, pl⟩
      obtain ⟨zs, hz1, hz2⟩ := pin_pairsAt pI
      refine ⟨_, rfl, F, zs, rfl, .inl (SqL.of hz1), isP_of hz2, fun ys p' py hp' => ?_⟩
      obtain ⟨ps', pp, hd'⟩ := pairs_perm py hz2
      have hfull : ds.take rs.length = ds := List.take_of_length_le (by rw [← hds, List.length_map, hrsl]; exact Nat.le_refl _)
      rw [hfull] at pq
      exact k p' ys ps' _ ((y2.trans ek).trans (same_upd hp')) ((y2.trans ek).free hp') upd_same (dpa_same (same_upd hp') hd') (fun q => pp.mem_iff.trans (pq q)) (by rw [pp.length_eq]; omega)
end
end K59
/-! D23 -/
set_option Elab.async false
set_option linter.all false
set_option maxRecDepth 100000
set_option maxHeartbeats 2000000
namespace K59
open PySem PySem.Spec PyProof.Rows L2 LamX
theorem walk_lst {K : PySem.W.Frag} {a : Addr} {xs : List V} {step : V → Hp → (Hp → Prop) → Prop} {H1 : Hp} {Qd : Hp → Prop} (Pv : Nat → Hp → Prop) (h0 : Pv 0 H1) (hl : ∀ i H, i ≤ xs.length → Pv i H → SqL K H a xs)
    (hs : ∀ i x H, xs[i]? = some x → Pv i H → step x H (Pv (i + 1))) (hd : ∀ H, Pv xs.length H → Qd H) :
    ∃ W : Nat → Nat → Hp → Prop, (∃ m, W 0 m H1) ∧ ∀ i m H, W i m H → ((Itl K a).stop i H ∧ Qd H) ∨ ((Itl K a).go i H ∧ ∃ Nx : Hp → Prop, (∀ H', Nx H' → ∃ m', m' < m ∧ W (i + 1) m' H') ∧ ∀ x H', (Itl K a).yld i H x H' → step x H' Nx) := by
  refine walk_it (n := xs.length) Pv h0 (fun i H hi p => ⟨xs, xs[i], hl i H (Nat.le_of_lt hi) p, List.getElem?_eq_getElem hi⟩) (fun H p => ⟨xs, hl _ H (Nat.le_refl _) p, Nat.le_refl _⟩) (fun i x H H' hi p hy => ?_) hd
  obtain ⟨rfl, hy⟩ := hy
  exact hs i x _ (hy xs (hl i _ (Nat.le_of_lt hi) p)) p
theorem nodup_take_not {α : Type} {l : List α} {i : Nat} {p : α} (h : l.Nodup) (hp : l[i]? = some p) : p ∉ l.take i := fun hm => by
  have h2 : (l.take (i + 1)).Nodup := List.Sublist.nodup (List.take_sublist _ _) h
  rw [take_at hp] at h2
  exact (List.nodup_append.mp h2).2.2 _ hm _ (List.mem_singleton.mpr rfl) rfl
def sdN (x : Str) : Str × Str := ("new", x)
def sdO (x : Str) : Str × Str := ("old", x)
/-- the flow object -/
structure FlowAt (K : PySem.W.Frag) (H : Hp) (x ds dr lp : Addr) (xs : List V) (ps : List (Str × Str)) (f : Str × Str → Int) (R : List (Str × Str)) (r : Str × Str → Int) : Prop where
  ex : ∃ dx, H x = some (.ins (He.ga K "Flow") dx [("pairs", .ref lp), ("sent", .ref ds), ("room", .ref dr)])
  pl : H lp = some (.lst xs)
  pa : PAll H xs ps
  se : H ds = some (.dT (kvI ps f))
  ro : H dr = some (.dT (kvI R r))
  ne : ds ≠ dr
theorem flow_same {K : PySem.W.Frag} {H H' : Hp} {x ds dr lp : Addr} {xs : List V} {ps : List (Str × Str)} {f : Str × Str → Int} {R : List (Str × Str)} {r : Str × Str → Int} (e : Same H H') (h : FlowAt K H x ds dr lp xs ps f R r) : FlowAt K H' x ds dr lp xs ps f R r := by
  obtain ⟨dx, h1⟩ := h.ex
  exact ⟨⟨dx, e _ _ h1⟩, e _ _ h.pl, pall_same e h.pa, e _ _ h.se, e _ _ h.ro, h.ne⟩
/-- the ends of some pairs -/
def IsEnd (ps : List (Str × Str)) (e : Str × Str) : Prop := ∃ p ∈ ps, e = sdN p.1 ∨ e = sdO p.2
section
variable {P : Program} {w : World} {K : PySem.W.Frag} {mg : Str → Option Value} {base : Heap}
abbrev s_Flow_init : Stmt := inClass (top 50) 0
abbrev N_Flow_init : List Str := ["self", "pairs", "prices", "pair", "end"]
theorem sc_Flow_init : FnScope N_Flow_init ["self", "pairs", "prices"] (defScope s_Flow_init) := ⟨rfl, rfl, rfl, by decide +kernel, rfl, by decide +kernel, by decide +kernel⟩
def sp_Flow_init (K : PySem.W.Frag) : Sp := fun vs H Q _ => ∃ (x dx lp pv sp : Addr) (xs : List V) (ps : List (Str × Str)) (pr : Str × Str → Int) (m : Nat), vs = [.ref x, .ref lp, .ref pv] ∧ H x = some (.ins (He.ga K "Flow") dx []) ∧ H lp = some (.lst xs) ∧ PAll H xs ps ∧ ps.Nodup ∧ (∀ p ∈ ps, Nm p.1 ∧ Nm p.2) ∧ ps.length ≤ 64 ∧ PricesAt K H pv sp pr m ∧
  ∀ (ds dr : Addr) (R : List (Str × Str)) (H' : Hp), Same (less x H) H' → H ds = none → H dr = none → FlowAt K H' x ds dr lp xs ps (fun _ => 0) R pr → R.Nodup → (∀ e, e ∈ R ↔ IsEnd ps e) → Q .non H'
theorem ok_Flow_init (T : Tx2 P K mg) : OkR P w K mg base 6 (He.fAd K ("Flow", some "__init__")) (sp_Flow_init K) := by
  have G_ends_of : OkR P w K mg base 1 (He.fAd K ("ends_of", none)) (sp_ends K) := ok_ends T.toTx0
  have G_Prices_getitem : OkR P w K mg base 4 (He.fAd K ("Prices", some "__getitem__")) (sp_Prices_getitem K) := ok_Prices_getitem T
  refine mkR T.f_Flow_init sc_Flow_init (fun vs H Q E h => ?_) (fun _ _ _ _ _ _ us hl => match us, hl with | [_, _, _], _ => rfl) fun cdv A outer s H vs Q E hr h => ?_
  · obtain ⟨_, _, _, _, _, _, _, _, _, rfl, _⟩ := h
    rfl
  · obtain ⟨x, dx, lp, pA, sp, xs, ps, pr, m, rfl, hx, hlp, hps, pnd, pnm, pl, hp, k⟩ := h
    refine ⟨_, 
    (pss_cons (ps_fld (pv 0) (pv 1) rfl) 
    (pss_cons (ps_fld (pv 0) (pe_dcT (own := [("pair", 3)]) (hu_of hr) (by rfl) sc_Flow_init.nd (pi_listK K (pv 1)) (blkOk_by (own := [("pair", 3)]) (N := N_Flow_init) (sc := (defScope s_Flow_init)) (by decide +kernel)) (fun _ _ _ _ _ => (pg_name (i := 3) sc_Flow_init.nd rfl (Or.inl rfl))) (fun _ _ _ _ _ => pts_nil) (fun _ _ _ _ _ => (pv 3)) (fun _ _ _ _ _ => pe_int)) rfl) 
    (pss_cons (ps_fld (pv 0) pe_dnewT rfl) 
    (pss_one (ps_for PassesOwn.never rfl (pi_listK K (pv 1)) (pg_name (i := 3) sc_Flow_init.nd rfl (Or.inl rfl)) 
      (pss_one (ps_for PassesOwn.never rfl (pi_tupK K (pe_callF G_ends_of (hr.mono (by decide)) (by rfl) T.g_ends_of (pa_cons (pv 3) pa_nil))) (pg_name (i := 4) sc_Flow_init.nd rfl (Or.inl rfl)) 
        (pss_one (ps_dput (hu_of hr) (pe_fldK K (pv 0)) (pv 4) (pe_own T.m_Prices_getitem (fnIn_of T.f_Prices_getitem) G_Prices_getitem (hr.mono (by decide)) (pv 2) (pe_tup (pa_cons (pe_ix (ix_tupK K) (pv 4) pe_int (fun _ _ => rfl)) (pa_cons (pe_ix (ix_tupK K) (pv 4) pe_int (fun _ _ => rfl)) pa_nil))) (fun _ _ => rfl)) rfl))))))))), ?_⟩
    have hxl : xs.length = ps.length := hps.length
    have cF := T.c_Flow
    refine ⟨_, rfl, _, rfl, x, _, dx, _, rfl, hx, cF, T.a_Flow_pairs, (show 0 < 1000 by decide), ?_⟩
    have lB : Same (less x H) (upd H x (.ins (He.ga K "Flow") dx (putF "pairs" (.ref lp) []))) := same_less_upd (less_sub x H)
    have hx1 : upd H x (.ins (He.ga K "Flow") dx (putF "pairs" (.ref lp) [])) x = some (.ins (He.ga K "Flow") dx [("pairs", .ref lp)]) := upd_same
    have hfree : ∀ b, upd H x (.ins (He.ga K "Flow") dx (putF "pairs" (.ref lp) [])) b = none → H b = none := fun b h => by
      by_cases e : b = x
      · rw [e, upd_same] at h; cases h
      · rw [upd_ne e] at h; exact h
    generalize upd H x (.ins (He.ga K "Flow") dx (putF "pairs" (.ref lp) [])) = H1 at lB hx1 hfree
    have hlpL : less x H lp = some (.lst xs) := less_at hx hlp (fun z => nomatch z)
    have hpsL : PAll (less x H) xs ps := pall_less hx (fun _ z => nomatch z) hps
    have hpL : PricesAt K (less x H) pA sp pr m := by
      obtain ⟨dx', d, kvs, q1, q2, q3⟩ := hp.ex
      exact ⟨dx', d, kvs, less_at hx q1 (fun z => by have := (HO.ins.inj z).2.2; cases this), less_at hx q2 (fun z => nomatch z), q3⟩
    have hLx : less x H x = none := less_x
    generalize less x H = L at k lB hlpL hpsL hpL hLx
    refine ⟨_, rfl, lp, rfl, ⟨_, SqL.of (lB _ _ hlpL)⟩, fun D hD => ?_⟩
    have hD0 : L D = none := lB.free hD
    have yD : ∀ u, Same H1 (upd H1 D u) := fun u => same_upd hD
    refine walk_lst (K := K) (a := lp) (xs := xs) (fun i Hk => Same H1 Hk ∧ Hk D = some (.dT (kvI (ps.take i) fun _ => 0))) ⟨yD _, upd_same⟩ (fun i Hk _ e => SqL.of (e.1 _ _ (lB _ _ hlpL))) ?_ ?_
    · rintro i y Hk hi ⟨ek, hk⟩
      obtain ⟨p, t, hp', rfl, ht⟩ := pall_get hpsL hi
      have hpn := nodup_take_not pnd hp'
      refine ⟨rfl, _, rfl, _, kP p, t, rfl, (lB.trans ek) _ _ ht, hk, by rw [kvI_len, List.length_take, sizeLine_eq]; omega, same_mut ek hD, ?_⟩
      rw [kvI_new hpn, upd_same, take_at hp']
      exact congrArg (fun z => some (HO.dT z)) (kvI_congr fun q _ => by unfold setPr; split <;> rfl)
    rintro H2 ⟨e2, h2⟩
    rw [hxl, List.take_length] at h2
    have hDx : D ≠ x := fun e => by rw [e, hx1] at hD; cases hD
    refine ⟨_, rfl, x, _, dx, _, rfl, e2 _ _ hx1, cF, T.a_Flow_sent, (show 1 < 1000 by decide), ?_⟩
    have l2 : Same L (upd H2 x (.ins (He.ga K "Flow") dx (putF "sent" (.ref D) [("pairs", .ref lp)]))) := same_mut (lB.trans e2) hLx
    have hx2 : upd H2 x (.ins (He.ga K "Flow") dx (putF "sent" (.ref D) [("pairs", .ref lp)])) x = some (.ins (He.ga K "Flow") dx [("pairs", .ref lp), ("sent", .ref D)]) := upd_same
    have hfree3 : ∀ b, upd H2 x (.ins (He.ga K "Flow") dx (putF "sent" (.ref D) [("pairs", .ref lp)])) b = none → b ≠ x → H1 b = none := fun b h e => by
      rw [upd_ne e] at h
      exact e2.free h
    have hd2 : upd H2 x (.ins (He.ga K "Flow") dx (putF "sent" (.ref D) [("pairs", .ref lp)])) D = some (.dT (kvI ps fun _ => 0)) := by rw [upd_ne hDx]; exact h2
    generalize upd H2 x (.ins (He.ga K "Flow") dx (putF "sent" (.ref D) [("pairs", .ref lp)])) = H3 at l2 hx2 hd2 hfree3
    refine fun dr hdr => ?_
    have hdrH : H dr = none := hfree dr (by
      by_cases e : dr = x
      · rw [e, hx2] at hdr; cases hdr
      · exact hfree3 dr hdr e)
    have hdrx : dr ≠ x := fun e => by rw [e, hx2] at hdr; cases hdr
    have hdrD : D ≠ dr := fun e => by rw [← e, hd2] at hdr; cases hdr
    have yr := same_upd hdr (o := .dT [])
    refine ⟨_, rfl, x, _, dx, _, rfl, yr _ _ hx2, cF, T.a_Flow_room, (show 2 < 1000 by decide), ?_⟩
    have l4 : Same L (upd (upd H3 dr (.dT [])) x (.ins (He.ga K "Flow") dx (putF "room" (.ref dr) [("pairs", .ref lp), ("sent", .ref D)]))) := same_mut (l2.trans yr) hLx
    have hx4 : upd (upd H3 dr (.dT [])) x (.ins (He.ga K "Flow") dx (putF "room" (.ref dr) [("pairs", .ref lp), ("sent", .ref D)])) x = some (.ins (He.ga K "Flow") dx [("pairs", .ref lp), ("sent", .ref D), ("room", .ref dr)]) := upd_same
    have hd4 : upd (upd H3 dr (.dT [])) x (.ins (He.ga K "Flow") dx (putF "room" (.ref dr) [("pairs", .ref lp), ("sent", .ref D)])) D = some (.dT (kvI ps fun _ => 0)) := by rw [upd_ne hDx]; exact yr _ _ hd2
    have hr4 : upd (upd H3 dr (.dT [])) x (.ins (He.ga K "Flow") dx (putF "room" (.ref dr) [("pairs", .ref lp), ("sent", .ref D)])) dr = some (.dT (kvI [] pr)) := by rw [upd_ne hdrx]; exact upd_same
    generalize upd (upd H3 dr (.dT [])) x (.ins (He.ga K "Flow") dx (putF "room" (.ref dr) [("pairs", .ref lp), ("sent", .ref D)])) = H4 at l4 hx4 hd4 hr4
    have hB : Same L (less dr H4) := same_lessN (l2.free hdr) l4
    have hxB : less dr H4 x = some (.ins (He.ga K "Flow") dx [("pairs", .ref lp), ("sent", .ref D), ("room", .ref dr)]) := by rw [less_ne hdrx.symm]; exact hx4
    have hdB : less dr H4 D = some (.dT (kvI ps fun _ => 0)) := by rw [less_ne hdrD]; exact hd4
    have hBr : less dr H4 dr = none := less_x
    have hB4 : Same (less dr H4) H4 := less_sub _ _
    have hdr0 : L dr = none := l2.free hdr
    generalize less dr H4 = B at hB hxB hdB hBr hB4
    refine ⟨_, rfl, lp, rfl, ⟨_, SqL.of ((hB.trans hB4) _ _ hlpL)⟩, for_lst (K := K) (a := lp) (xs := xs) (fun i σ Hk => ∃ (v3 v4 : Option V) (R : List (Str × Str)), σ = [some (.ref x), some (.ref lp), some (.ref pA), v3, v4] ∧ Same B Hk ∧ Hk dr = some (.dT (kvI R pr)) ∧ R.Nodup ∧ (∀ e, e ∈ R ↔ IsEnd (ps.take i) e) ∧ R.length ≤ 2 * i) ⟨none, none, [], rfl, hB4, hr4, List.nodup_nil, fun e => ⟨fun h => (nomatch h), fun ⟨p, h, _⟩ => (nomatch h)⟩, Nat.le_refl _⟩ (fun i σ Hk _ ⟨_, _, _, _, e, _⟩ => SqL.of ((hB.trans e) _ _ hlpL)) ?_ ?_⟩
    · rintro i y σ Hk hi ⟨v3, v4, R, rfl, ek, hk, Rn, Ri, Rl⟩
      obtain ⟨p, t, hp', rfl, ht⟩ := pall_get hpsL hi
      have hlt := (List.getElem?_eq_some_iff.mp hp').1
      obtain ⟨n1, n2⟩ := pnm p (List.mem_of_getElem? hp')
      refine ⟨_, rfl, t, p.1, p.2, rfl, SqT.of ((hB.trans ek) _ _ ht), fun ea eb er H5 e5 ha5 hb5 hr5 h5a h5b h5r => ⟨er, rfl, ⟨_, SqT.of h5r⟩, ?_⟩⟩
      have hEnds : PAll H5 [.ref ea, .ref eb] [sdN p.1, sdO p.2] := .cons ⟨ea, rfl, h5a⟩ (.cons ⟨eb, rfl, h5b⟩ .nil)
      have hea : ∀ b, H5 b ≠ none → b ≠ dr → True := fun _ _ _ => trivial
      have h5dr := e5 _ _ hk
      have hEB : PAll (less dr H5) [.ref ea, .ref eb] [sdN p.1, sdO p.2] := pall_less h5dr (fun _ z => nomatch z) hEnds
      have hrB : less dr H5 er = some (.tup [.ref ea, .ref eb]) := less_at h5dr h5r (fun z => nomatch z)
      have hB5 : Same B (less dr H5) := same_lessN hBr (ek.trans e5)
      have hC5 : Same (less dr H5) H5 := less_sub _ _
      have hCr : less dr H5 dr = none := less_x
      generalize less dr H5 = C at hEB hrB hB5 hC5 hCr
      refine for_tup (K := K) (a := er) (xs := [.ref ea, .ref eb]) (fun j σ Hm => ∃ (v4 : Option V) (R : List (Str × Str)), σ = [some (.ref x), some (.ref lp), some (.ref pA), some (.ref t), v4] ∧ Same C Hm ∧ Hm dr = some (.dT (kvI R pr)) ∧ R.Nodup ∧ (∀ e, e ∈ R ↔ (IsEnd (ps.take i) e ∨ e ∈ [sdN p.1, sdO p.2].take j)) ∧ R.length ≤ 2 * i + j) ⟨v4, R, rfl, hC5, h5dr, Rn, fun e => (Ri e).trans ⟨.inl, fun h => h.elim id fun h => (nomatch h)⟩, Rl⟩ (fun j σ Hm _ ⟨_, _, _, e, _⟩ => SqT.of (e _ _ hrB)) ?_ ?_
      · rintro j z σ Hm hj ⟨v4, R, rfl, em, hm, Rn, Ri, Rl⟩
        obtain ⟨e, te, he, rfl, hte⟩ := pall_get hEB hj
        have hj2 : j < 2 := (List.getElem?_eq_some_iff.mp hj).1
        have hside : ∃ b n, e = (sideS b, n) ∧ Nm n := by
          have := List.mem_of_getElem? he
          rcases List.mem_cons.mp this with rfl | h
          · exact ⟨true, p.1, rfl, n1⟩
          · rw [List.mem_singleton.mp h]
            exact ⟨false, p.2, rfl, n2⟩
        obtain ⟨b, n, hbe, hn⟩ := hside
        have hpm := prices_same ((hB.trans hB5).trans em) hpL
        obtain ⟨dx', _, _, w1, _⟩ := hpm.ex
        refine ⟨_, rfl, _, rfl, te, _, _, _, rfl, rfl, SqT.of (em _ _ hte), atI_nat (j := 0) rfl, _, rfl, te, _, _, _, rfl, rfl, SqT.of (em _ _ hte), atI_nat (j := 1) rfl, (show 2 ≤ sizeLine by decide), fun q hq => ?_⟩
        have yq := same_upd hq (o := .tup [.str e.1, .str e.2])
        refine ⟨pA, dx', _, rfl, yq _ _ w1, pA, sp, q, pr, m, b, n, rfl, prices_same yq hpm, SqT.of (by rw [upd_same, hbe]), hn, fun H7 e7 => ?_⟩
        have y7 := yq.trans e7
        have z7 := em.trans y7
        refine ⟨_, rfl, x, _, dx, _, _, rfl, (hB5.trans z7) _ _ hxB, cF, T.a_Flow_room, rfl, _, rfl, dr, _, rfl, DPut.t (k := kP e) (y7 _ _ hm) (z7 _ _ hte) (by rw [kvI_len, sizeLine_eq]; omega), ?_⟩
        rw [← hbe]
        have emem : ∀ a, a ∈ [sdN p.1, sdO p.2].take (j + 1) ↔ (a ∈ [sdN p.1, sdO p.2].take j ∨ a = e) := fun a => by
          rw [take_at he, List.mem_append, List.mem_singleton]
        have hset : ∀ l, kvI l (setPr pr e (pr e)) = kvI l pr := fun l => kvI_congr fun q' _ => by
          unfold setPr
          by_cases h : q' = e
          · rw [if_pos h, h]
          · rw [if_neg h]
        by_cases hin : e ∈ R
        · refine ⟨_, R, rfl, same_mut z7 hCr, ?_, Rn, fun a => (Ri a).trans ⟨fun h => h.imp_right fun h => (emem a).2 (.inl h), fun h => ?_⟩, by omega⟩
          · rw [upd_same, kvI_put hin, hset]
          · rcases h with h | h
            · exact .inl h
            · rcases (emem a).1 h with h | h
              · exact .inr h
              · rw [h]
                exact (Ri e).1 hin
        · refine ⟨_, R ++ [e], rfl, same_mut z7 hCr, ?_, ?_, fun a => ?_, by rw [List.length_append]; show R.length + 1 ≤ _; omega⟩
          · rw [upd_same, kvI_new hin, hset]
          · refine List.nodup_append.mpr ⟨Rn, List.nodup_cons.mpr ⟨List.not_mem_nil, List.nodup_nil⟩, fun a ha b' hb' hab => ?_⟩
            rw [List.mem_singleton.mp hb'] at hab
            rw [hab] at ha
            exact hin ha
          · rw [List.mem_append, List.mem_singleton, Ri, emem]
            constructor
            · rintro ((h | h) | h)
              · exact .inl h
              · exact .inr (.inl h)
              · exact .inr (.inr h)
            · rintro (h | h | h)
              · exact .inl (.inl h)
              · exact .inl (.inr h)
              · exact .inr h
      · rintro σ Hm ⟨v4, R, rfl, em, hm, Rn, Ri, Rl⟩
        refine ⟨_, _, R, rfl, hB5.trans em, hm, Rn, fun e => (Ri e).trans ?_, Rl⟩
        rw [take_at hp']
        constructor
        · rintro (⟨q, hq, h⟩ | h)
          · exact ⟨q, List.mem_append_left _ hq, h⟩
          · refine ⟨p, List.mem_append_right _ (List.mem_singleton.mpr rfl), ?_⟩
            rcases List.mem_cons.mp h with h | h
            · exact .inl h
            · exact .inr (List.mem_singleton.mp h)
        · rintro ⟨q, hq, h⟩
          rcases List.mem_append.mp hq with hq | hq
          · exact .inl ⟨q, hq, h⟩
          · rw [List.mem_singleton.mp hq] at h
            refine .inr ?_
            rcases h with h | h
            · rw [h]; exact List.mem_cons_self
            · rw [h]; exact List.mem_cons_of_mem _ (List.mem_singleton.mpr rfl)
    · rintro σ Hk ⟨v3, v4, R, rfl, ek, hk, Rn, Ri, Rl⟩
      rw [hxl, List.take_length] at Ri
      refine k D dr R Hk (hB.trans ek) (hfree D hD) hdrH ⟨⟨dx, ek _ _ hxB⟩, (hB.trans ek) _ _ hlpL, pall_same (hB.trans ek) hpsL, ek _ _ hdB, hk, hdrD⟩ Rn Ri
end
end K59
/-! K59Q -/
set_option Elab.async false
set_option linter.all false
set_option maxRecDepth 100000
/-! the plain law, part 2: all the subsets with their prices -/
namespace K59
open PySem
abbrev Sd := Str × Str
def stepL (pr : Sd → Int) (L : List (Int × List Sd)) (s : Sd) : List (Int × List Sd) := L ++ L.map fun e => (e.1 + pr s, e.2 ++ [s])
def subsL (pr : Sd → Int) (S : List Sd) : List (Int × List Sd) := S.foldl (stepL pr) [(0, [])]
theorem subsL_snoc {pr : Sd → Int} {S : List Sd} {s : Sd} : subsL pr (S ++ [s]) = stepL pr (subsL pr S) s := by
  unfold subsL
  rw [List.foldl_append]
  rfl
theorem subsL_len {pr : Sd → Int} {S : List Sd} : (subsL pr S).length = 2 ^ S.length := by
  have : ∀ (S : List Sd) (L : List (Int × List Sd)), (S.foldl (stepL pr) L).length = L.length * 2 ^ S.length := by
    intro S
    induction S with
    | nil => intro L; simp
    | cons a r ih =>
      intro L
      rw [List.foldl_cons, ih]
      unfold stepL
      rw [List.length_append, List.length_map, List.length_cons, Nat.pow_succ]
      rw [← Nat.two_mul, Nat.mul_comm 2 L.length, Nat.mul_assoc, Nat.mul_comm 2]
  unfold subsL
  rw [this]
  simp
theorem sum_snoc (l : List Int) (x : Int) : (l ++ [x]).sum = l.sum + x := by simp
theorem subsL_mem {pr : Sd → Int} {S : List Sd} : ∀ e ∈ subsL pr S, e.2.Sublist S ∧ e.1 = (e.2.map pr).sum := by
  have : ∀ n (S : List Sd), S.length = n → ∀ e ∈ subsL pr S, e.2.Sublist S ∧ e.1 = (e.2.map pr).sum := by
    intro n
    induction n with
    | zero =>
      intro S hS e he
      obtain rfl := List.length_eq_zero_iff.mp hS
      have : e = (0, []) := List.mem_singleton.mp he
      rw [this]
      exact ⟨.slnil, rfl⟩
    | succ n ih =>
      intro S hS e he
      obtain ⟨T, s, rfl⟩ : ∃ T s, S = T ++ [s] := by
        have hne : S ≠ [] := fun h => by rw [h] at hS; cases hS
        exact ⟨_, _, (List.dropLast_concat_getLast hne).symm⟩
      have hT : T.length = n := by rw [List.length_append] at hS; exact Nat.succ.inj hS
      rw [subsL_snoc] at he
      rcases List.mem_append.mp he with h | h
      · obtain ⟨h1, h2⟩ := ih T hT e h
        exact ⟨h1.trans (List.sublist_append_left _ _), h2⟩
      · obtain ⟨f, hf, rfl⟩ := List.mem_map.mp h
        obtain ⟨h1, h2⟩ := ih T hT f hf
        refine ⟨h1.append (List.Sublist.refl _), ?_⟩
        show f.1 + pr s = ((f.2 ++ [s]).map pr).sum
        rw [List.map_append, List.map_cons, List.map_nil, sum_snoc, h2]
  exact this _ S rfl
theorem subsL_all {pr : Sd → Int} : ∀ {S T : List Sd}, T.Sublist S → ((T.map pr).sum, T) ∈ subsL pr S := by
  have : ∀ n (S : List Sd), S.length = n → ∀ T : List Sd, T.Sublist S → ((T.map pr).sum, T) ∈ subsL pr S := by
    intro n
    induction n with
    | zero =>
      intro S hS T hT
      obtain rfl := List.length_eq_zero_iff.mp hS
      obtain rfl := List.sublist_nil.mp hT
      exact List.mem_singleton.mpr rfl
    | succ n ih =>
      intro S hS T hT
      obtain ⟨R, s, rfl⟩ : ∃ R s, S = R ++ [s] := by
        have hne : S ≠ [] := fun h => by rw [h] at hS; cases hS
        exact ⟨_, _, (List.dropLast_concat_getLast hne).symm⟩
      have hR : R.length = n := by rw [List.length_append] at hS; exact Nat.succ.inj hS
      rw [subsL_snoc]
      obtain ⟨T1, T2, rfl, h1, h2⟩ := List.sublist_append_iff.mp hT
      rcases List.sublist_cons_iff.mp h2 with h3 | ⟨r, rfl, h3⟩
      · obtain rfl := List.sublist_nil.mp h3
        rw [List.append_nil]
        exact List.mem_append_left _ (ih R hR T1 h1)
      · obtain rfl := List.sublist_nil.mp h3
        refine List.mem_append_right _ (List.mem_map.mpr ⟨_, ih R hR T1 h1, ?_⟩)
        rw [List.map_append, List.map_cons, List.map_nil, sum_snoc]
  exact fun {S T} h => this _ S rfl T h
end K59
/-! K59F -/
set_option Elab.async false
set_option linter.all false
set_option maxRecDepth 100000
/-! the plain law, part 3: the flow -/
namespace K59
open PySem
abbrev WL := List (Sd × Option Sd)
theorem sd_ne {x y : Str} : sdN x ≠ sdO y := fun h => absurd (Prod.mk.inj h).1 (by decide)
theorem sdN_inj {x y : Str} (h : sdN x = sdN y) : x = y := (Prod.mk.inj h).2
theorem sdO_inj {x y : Str} (h : sdO x = sdO y) : x = y := (Prod.mk.inj h).2
/-- from the end e by the pair p -/
def Way (f : Sd → Int) (p e : Sd) : Prop := e = sdN p.1 ∨ (e = sdO p.2 ∧ 0 < f p)
def Dest (p e : Sd) : Sd := if e = sdN p.1 then sdO p.2 else sdN p.1
theorem dest_new {p : Sd} : Dest p (sdN p.1) = sdO p.2 := if_pos rfl
theorem dest_old {p : Sd} {y : Str} : Dest p (sdO y) = sdN p.1 := if_neg fun h => sd_ne h.symm
/-- what the search keeps: the i-th end is looked at, j pairs of it done -/
structure TInv (ps R : List Sd) (f r : Sd → Int) (wl : WL) (i j : Nat) : Prop where
  nd : (wl.map (·.1)).Nodup
  root : ∀ e, (e, none) ∈ wl → (∃ x, e = sdN x) ∧ e ∈ R ∧ 0 < r e
  tree : ∀ (k : Nat) (e p : Sd), wl[k]? = some (e, some p) → p ∈ ps ∧ ∃ k', k' < k ∧ ∃ e' o', wl[k']? = some (e', o') ∧ Way f p e' ∧ e = Dest p e'
  all : ∀ x, sdN x ∈ R → 0 < r (sdN x) → sdN x ∈ wl.map (·.1)
  done : ∀ (k : Nat), k < i → ∀ e o, wl[k]? = some (e, o) → ∀ p ∈ ps, Way f p e → Dest p e ∈ wl.map (·.1)
  part : ∀ e o, wl[i]? = some (e, o) → ∀ k, k < j → ∀ p, ps[k]? = some p → Way f p e → Dest p e ∈ wl.map (·.1)
  isE : ∀ e ∈ wl.map (·.1), IsEnd ps e
section
variable {ps R : List Sd} {f r : Sd → Int} {wl : WL} {i j : Nat}
theorem tinv_len (h : TInv ps R f r wl i j) : wl.length ≤ 2 * ps.length := by
  have h1 : (wl.map (·.1)).length ≤ (ps.map (fun p => sdN p.1) ++ ps.map (fun p => sdO p.2)).length := nodup_len h.nd fun e he => by
    obtain ⟨p, hp, h2⟩ := h.isE e he
    rcases h2 with h2 | h2
    · exact List.mem_append_left _ (List.mem_map.mpr ⟨p, hp, h2.symm⟩)
    · exact List.mem_append_right _ (List.mem_map.mpr ⟨p, hp, h2.symm⟩)
  rw [List.length_map, List.length_append, List.length_map, List.length_map] at h1
  omega
def startW (R : List Sd) (r : Sd → Int) : List Sd := R.filter fun e => decide (e.1 = "new") && decide (0 < r e)
theorem isEnd_new {e : Sd} (h : IsEnd ps e) (h1 : e.1 = "new") : ∃ x, e = sdN x := by
  obtain ⟨p, _, h2⟩ := h
  rcases h2 with h2 | h2
  · exact ⟨_, h2⟩
  · rw [h2] at h1
    exact absurd (show (("old" : Str) = "new") from h1) (by decide)
theorem tinv_start (hR : R.Nodup) (hE : ∀ e ∈ R, IsEnd ps e) : TInv ps R f r ((startW R r).map fun e => (e, none)) 0 0 := by
  have hk : ((startW R r).map fun e => ((e, none) : Sd × Option Sd)).map (·.1) = startW R r := by
    rw [List.map_map]
    exact List.map_id _
  refine ⟨by rw [hk]; exact List.Sublist.nodup List.filter_sublist hR, fun e he => ?_, fun k e p hk' => ?_, fun x hx hr => ?_, fun k h => absurd h (Nat.not_lt_zero _), fun e o _ k h => absurd h (Nat.not_lt_zero _), fun e he => ?_⟩
  · obtain ⟨e', he', h2⟩ := List.mem_map.mp he
    cases h2
    obtain ⟨h3, h4⟩ := List.mem_filter.mp he'
    rw [Bool.and_eq_true, decide_eq_true_iff, decide_eq_true_iff] at h4
    exact ⟨isEnd_new (hE e h3) h4.1, h3, h4.2⟩
  · have := List.mem_of_getElem? hk'
    obtain ⟨e', _, h2⟩ := List.mem_map.mp this
    cases h2
  · rw [hk]
    exact List.mem_filter.mpr ⟨hx, by rw [Bool.and_eq_true, decide_eq_true_iff, decide_eq_true_iff]; exact ⟨rfl, hr⟩⟩
  · rw [hk] at he
    exact hE e (List.mem_filter.mp he).1
theorem tinv_old (h : TInv ps R f r wl i j) {p : Sd} (hp : ps[j]? = some p) (hc : ∀ e o, wl[i]? = some (e, o) → Way f p e → Dest p e ∈ wl.map (·.1)) : TInv ps R f r wl i (j + 1) := by
  refine ⟨h.nd, h.root, h.tree, h.all, h.done, fun e o he k hk q hq hw => ?_, h.isE⟩
  rcases Nat.lt_or_ge k j with z | z
  · exact h.part e o he k z q hq hw
  · obtain rfl : k = j := by omega
    rw [hp] at hq
    cases hq
    exact hc e o he hw
theorem dest_end {p e : Sd} (hp : p ∈ ps) : IsEnd ps (Dest p e) := by
  unfold Dest
  split
  · exact ⟨p, hp, .inr rfl⟩
  · exact ⟨p, hp, .inl rfl⟩
theorem tinv_new (h : TInv ps R f r wl i j) {p e : Sd} {o : Option Sd} (hp : ps[j]? = some p) (he : wl[i]? = some (e, o)) (hw : Way f p e) (hn : Dest p e ∉ wl.map (·.1)) : TInv ps R f r (wl ++ [(Dest p e, some p)]) i (j + 1) := by
  have hi := (List.getElem?_eq_some_iff.mp he).1
  have hps := List.mem_of_getElem? hp
  have hm : (wl ++ [(Dest p e, some p)]).map (·.1) = wl.map (·.1) ++ [Dest p e] := by rw [List.map_append]; rfl
  have old : ∀ k z, k < wl.length → (wl ++ [(Dest p e, some p)])[k]? = some z → wl[k]? = some z := fun k z hk hz => by
    rw [List.getElem?_append_left hk] at hz
    exact hz
  have keep : ∀ k z, wl[k]? = some z → (wl ++ [(Dest p e, some p)])[k]? = some z := fun k z hz => by
    rw [List.getElem?_append_left (List.getElem?_eq_some_iff.mp hz).1]
    exact hz
  refine ⟨?_, fun a ha => ?_, fun k a q hk => ?_, fun x hx hr => ?_, fun k hk a o' ha q hq hw' => ?_, fun a o' ha k hk q hq hw' => ?_, fun a ha => ?_⟩
  · rw [hm]
    refine List.nodup_append.mpr ⟨h.nd, List.nodup_cons.mpr ⟨List.not_mem_nil, List.nodup_nil⟩, fun a ha b hb hab => ?_⟩
    rw [List.mem_singleton.mp hb] at hab
    rw [hab] at ha
    exact hn ha
  · rcases List.mem_append.mp ha with z | z
    · exact h.root a z
    · cases List.mem_singleton.mp z
  · rcases Nat.lt_or_ge k wl.length with z | z
    · obtain ⟨h1, k', h2, e', o', h3, h4⟩ := h.tree k a q (old k _ z hk)
      exact ⟨h1, k', h2, e', o', keep _ _ h3, h4⟩
    · have hkl : k < (wl ++ [(Dest p e, some p)]).length := (List.getElem?_eq_some_iff.mp hk).1
      rw [List.length_append] at hkl
      have hkl' : k < wl.length + 1 := hkl
      obtain rfl : k = wl.length := by omega
      rw [List.getElem?_append_right (Nat.le_refl _), Nat.sub_self] at hk
      cases hk
      exact ⟨hps, i, hi, e, o, keep _ _ he, hw, rfl⟩
  · rw [hm]
    exact List.mem_append_left _ (h.all x hx hr)
  · rw [hm]
    exact List.mem_append_left _ (h.done k hk a o' (old k _ (by omega) ha) q hq hw')
  · rw [hm]
    have ha' := old i _ hi ha
    rcases Nat.lt_or_ge k j with z | z
    · exact List.mem_append_left _ (h.part a o' ha' k z q hq hw')
    · obtain rfl : k = j := by omega
      rw [hp] at hq
      cases hq
      rw [he] at ha'
      cases ha'
      exact List.mem_append_right _ (List.mem_singleton.mpr rfl)
  · rw [hm] at ha
    rcases List.mem_append.mp ha with z | z
    · exact h.isE a z
    · rw [List.mem_singleton.mp z]
      exact dest_end hps
theorem tinv_next (h : TInv ps R f r wl i ps.length) : TInv ps R f r wl (i + 1) 0 := by
  refine ⟨h.nd, h.root, h.tree, h.all, fun k hk e o he p hp hw => ?_, fun e o _ k hk => absurd hk (Nat.not_lt_zero _), h.isE⟩
  rcases Nat.lt_or_ge k i with z | z
  · exact h.done k z e o he p hp hw
  · obtain rfl : k = i := by omega
    obtain ⟨m, hm⟩ := List.mem_iff_getElem?.mp hp
    exact h.part e o he m (List.getElem?_eq_some_iff.mp hm).1 p hm hw
theorem tinv_closed (h : TInv ps R f r wl i j) (hi : wl.length ≤ i) {e p : Sd} (he : e ∈ wl.map (·.1)) (hp : p ∈ ps) (hw : Way f p e) : Dest p e ∈ wl.map (·.1) := by
  obtain ⟨⟨e', o⟩, h1, h2⟩ := List.mem_map.mp he
  simp only at h2
  subst h2
  obtain ⟨k, hk⟩ := List.mem_iff_getElem?.mp h1
  exact h.done k (Nat.lt_of_lt_of_le (List.getElem?_eq_some_iff.mp hk).1 hi) e' o hk p hp hw
end
end K59
/-! D24 -/
set_option Elab.async false
set_option linter.all false
set_option maxRecDepth 100000
set_option maxHeartbeats 2000000
namespace K59
open PySem PySem.Spec PyProof.Rows L2 LamX
/-- the pair by which an end was found, or None -/
def ParV (H : Hp) (v : V) : Option Sd → Prop
  | none => v = .non
  | some p => PT H v p
theorem parV_same {H H' : Hp} {v : V} {o : Option Sd} (e : Same H H') (h : ParV H v o) : ParV H' v o := by
  cases o with
  | none => exact h
  | some p => exact pt_same e h
abbrev FKv (H : Hp) (fkv : List (List Key × V)) (wl : WL) : Prop := Paired (fun kv w => kv.1 = kP w.1 ∧ ParV H kv.2 w.2) fkv wl
theorem fkv_same {H H' : Hp} {fkv : List (List Key × V)} {wl : WL} (e : Same H H') (h : FKv H fkv wl) : FKv H' fkv wl := Paired.mapP h fun _ _ z => ⟨z.1, parV_same e z.2⟩
theorem fkv_none {H : Hp} {e : Sd} : ∀ {fkv : List (List Key × V)} {wl : WL}, FKv H fkv wl → e ∉ wl.map (·.1) → valV fkv (kP e) = none
  | _, _, .nil, _ => rfl
  | _, _, .cons a t, h => by
    rw [valV_neg (fun z => h (by rw [← kP_inj (a.1.symm.trans z)]; exact List.mem_cons_self))]
    exact fkv_none t fun z => h (List.mem_cons_of_mem _ z)
theorem fkv_some {H : Hp} {e : Sd} {o : Option Sd} : ∀ {fkv : List (List Key × V)} {wl : WL}, FKv H fkv wl → (wl.map (·.1)).Nodup → (e, o) ∈ wl → ∃ v, valV fkv (kP e) = some v ∧ ParV H v o
  | _, _, .nil, _, h => (nomatch h)
  | _, _, .cons (a := kv) (b := w) a t, nd, h => by
    rw [List.map_cons, List.nodup_cons] at nd
    rcases List.mem_cons.mp h with z | z
    · subst z
      exact ⟨kv.2, valV_pos a.1, a.2⟩
    · have hne : w.1 ≠ e := fun q => nd.1 (by rw [q]; exact List.mem_map.mpr ⟨_, z, rfl⟩)
      rw [valV_neg (fun q => hne (kP_inj (a.1.symm.trans q)))]
      exact fkv_some t nd.2 z
theorem seqAsg_by {te : TE} {g : TG} {u : TS} {D : Ends} {σ : L2.St} {H : Hp} (v : V) (hc : ∀ Q : V → Hp → Prop, Q v H → te σ H Q) (h : g v σ H (u D)) : tSeq (tAsg te g) u D σ H := hc _ h
section
variable {P : Program} {w : World} {K : PySem.W.Frag} {mg : Str → Option Value} {base : Heap}
abbrev s_Flow_trails : Stmt := inClass (top 50) 1
abbrev N_Flow_trails : List Str := ["self", "found", "waiting", "end", "at", "pair", "new", "old", "there", "is_way"]
theorem sc_Flow_trails : FnScope N_Flow_trails ["self"] (defScope s_Flow_trails) := ⟨rfl, rfl, rfl, by decide +kernel, rfl, by decide +kernel, by decide +kernel⟩
def sp_Flow_trails (K : PySem.W.Frag) : Sp := fun vs H Q _ => ∃ (x ds dr lp : Addr) (xs : List V) (ps : List Sd) (f : Sd → Int) (R : List Sd) (r : Sd → Int), vs = [.ref x] ∧ FlowAt K H x ds dr lp xs ps f R r ∧ (∀ p ∈ ps, Nm p.1 ∧ Nm p.2) ∧ ps.length ≤ 64 ∧ R.Nodup ∧ (∀ e, e ∈ R ↔ IsEnd ps e) ∧
  ∀ (F : Addr) (wl : WL) (fkv : List (List Key × V)) (H' : Hp), Same H H' → H F = none → H' F = some (.dT fkv) → FKv H' fkv wl → TInv ps R f r wl wl.length 0 → Q (.ref F) H'
theorem ok_Flow_trails (T : Tx2 P K mg) : OkR P w K mg base 2 (He.fAd K ("Flow", some "trails")) (sp_Flow_trails K) := by
  have G_ends_of : OkR P w K mg base 1 (He.fAd K ("ends_of", none)) (sp_ends K) := ok_ends T.toTx0
  refine mkR T.f_Flow_trails sc_Flow_trails (fun vs H Q E h => ?_) (fun _ _ _ _ _ _ us hl => match us, hl with | [_], _ => rfl) fun cdv A outer s H vs Q E hr h => ?_
  · obtain ⟨_, _, _, _, _, _, _, _, _, rfl, _⟩ := h
    rfl
  · obtain ⟨x, ds, dr, lp, xs, ps, f, R, r, rfl, hF, pnm, pl, Rn, Ri, k⟩ := h
    refine ⟨_, 
    (pss_cons (ps_set (i := 1) sc_Flow_trails.nd rfl (Or.inl rfl) pe_dnewT) 
    (pss_cons (ps_lock (ps_setLc (i := 2) (own := [("end", 3)]) (by rfl) sc_Flow_trails.nd rfl rfl (sw_true rfl rfl rfl (by decide +kernel)) (pi_keys (pe_fldK K (pv 0))) (blkOk_by (own := [("end", 3)]) (N := N_Flow_trails) (sc := (defScope s_Flow_trails)) (by decide +kernel)) (fun _ _ _ _ _ => (pg_name (i := 3) sc_Flow_trails.nd rfl (Or.inl rfl))) (fun _ _ _ _ _ => pts_one (PW.pt (pw_and (pt_cmpR op_eq (pe_ix (ix_tupK K) (pv 3) pe_int (fun _ _ => rfl)) pe_str (nomark _)) (pw_and1 (pt_cmpR op_gt (pe_dget (hu_of hr) (pe_fldK K (pv 0)) (pv 3) (fun _ _ => rfl)) pe_int (nomark _)))))) (fun _ _ _ _ _ => (pv 3)))) 
    (pss_cons (ps_for PassesOwn.never rfl (pi_listK K (pv 2)) (pg_name (i := 3) sc_Flow_trails.nd rfl (Or.inl rfl)) 
      (pss_one (ps_dput (hu_of hr) (pv 1) (pv 3) pe_non rfl))) 
    (pss_cons (ps_set (i := 4) sc_Flow_trails.nd rfl (Or.inl rfl) pe_int) 
    (pss_cons (ps_while PassesOwn.never (pt_cmpR op_lt (pv 4) (pe_callB (lenK K) (by rfl) T.n_len (by decide +kernel) (pa_cons (pv 2) pa_nil)) (nomark _)) 
      (pss_cons (ps_for PassesOwn.never rfl (pi_listK K (pe_fldK K (pv 0))) (pg_name (i := 5) sc_Flow_trails.nd rfl (Or.inl rfl)) 
        (pss_cons (ps_asg (pe_callF G_ends_of (hr.mono (by decide)) (by rfl) T.g_ends_of (pa_cons (pv 5) pa_nil)) (pg_tupK (n := 2) K (by rfl) (pgs_cons (pg_name (i := 6) sc_Flow_trails.nd rfl (Or.inl rfl)) (pgs_cons (pg_name (i := 7) sc_Flow_trails.nd rfl (Or.inl rfl)) pgs_nil)))) 
        (pss_cons (ps_set (i := 8) sc_Flow_trails.nd rfl (Or.inl rfl) (pe_ifExp (pt_cmpR (op_eqP K (hu65 hr)) (pe_ix (ix_listK K) (pv 2) (pv 4) (fun _ _ => rfl)) (pv 6) (nomark _)) (pv 7) (pv 6))) 
        (pss_cons (ps_set (i := 9) sc_Flow_trails.nd rfl (Or.inl rfl) (pe_or (pe_cmpR (op_eqP K (hu65 hr)) (pe_ix (ix_listK K) (pv 2) (pv 4) (fun _ _ => rfl)) (pv 6) (nomark _)) (pe_one (pe_and (pe_cmpR (op_eqP K (hu65 hr)) (pe_ix (ix_listK K) (pv 2) (pv 4) (fun _ _ => rfl)) (pv 7) (nomark _)) (pe_one (pe_cmpR op_gt (pe_dget (hu_of hr) (pe_fldK K (pv 0)) (pv 5) (fun _ _ => rfl)) pe_int (nomark _))))))) 
        (pss_one (ps_if (PW.pt (pw_and (pt_val (pv 9) (by intro _; rfl)) (pw_and1 (pt_cmp (pc_dnotin (hu_of hr) (pv 8) (pv 1)) rfl)))) 
          (pss_cons (ps_dput (hu_of hr) (pv 1) (pv 8) (pv 5) rfl) 
          (pss_one (ps_expr (pe_bm PySem.F.plainAttrs_list PySem.F.slot_list_append PySem.F.type_list_append mt_append (pv 2) (pa_cons (pv 8) pa_nil))))) pss_nil)))))) 
      (pss_one (ps_aug (i := 4) sc_Flow_trails.nd rfl (Or.inl rfl) pe_int ip_add)))) 
    (pss_one (ps_ret (pv 1)))))))), ?_⟩
    have cF := T.c_Flow
    refine fun F hFn => ?_
    have yF := same_upd hFn (o := .dT [])
    have h0F : upd H F (.dT []) F = some (.dT []) := upd_same
    have F0 := flow_same yF hF
    generalize upd H F (.dT []) = H0 at yF h0F F0
    obtain ⟨dx, hx⟩ := F0.ex
    refine ⟨dr, _, F0.ro, trivial, fun od => ?_⟩
    have hrx : dr ≠ x := fun e => by have := F0.ro; rw [e, hx] at this; cases this
    have h1 : ∀ {b : Addr} {u : HO}, b ≠ dr → H0 b = some u → upd H0 dr (.frz od (.dT (kvI R r))) b = some u := fun hb e => by rw [upd_ne hb]; exact e
    have hl1 : upd H0 dr (.frz od (.dT (kvI R r))) dr = some (.frz od (.dT (kvI R r))) := upd_same
    have hback : ∀ H', Same (upd H0 dr (.frz od (.dT (kvI R r)))) H' → Same H0 (upd H' dr (.dT (kvI R r))) := fun H' e b o hb => by
      by_cases hbd : b = dr
      · rw [hbd, upd_same, ← F0.ro, ← hbd]
        exact hb
      · rw [upd_ne hbd]
        exact e _ _ (by rw [upd_ne hbd]; exact hb)
    have hnone : ∀ b, upd H0 dr (.frz od (.dT (kvI R r))) b = none → H0 b = none := fun b h => by
      by_cases hbd : b = dr
      · rw [hbd, upd_same] at h; cases h
      · rw [upd_ne hbd] at h; exact h
    have hx1 := h1 hrx.symm hx
    refine ⟨_, rfl, x, _, dx, _, _, rfl, hx1, cF, T.a_Flow_room, rfl, dr, od, rfl, .inr ⟨_, hl1, fun D hD => ?_⟩⟩
    generalize upd H0 dr (.frz od (.dT (kvI R r))) = H1 at hl1 hback hnone hx1 hD h1
    refine lc_it (n := (kvI R r).length) (Gr H1 D fun i acc h => PAll h acc (startW (R.take i) r)) (gr_start hD .nil) (fun i H5 hi G => ⟨G.ext _ _ hl1, hi⟩) (fun H5 G => ⟨G.ext _ _ hl1, Nat.le_refl _⟩) ?_ ?_
    · rintro i y H5 H6 hi G ⟨rfl, kk, vv, q, hkv, rfl, hq⟩
      obtain ⟨e, he, hkk, hvv⟩ : ∃ e, R[i]? = some e ∧ kk = kP e ∧ vv = .int (r e) := by
        unfold kvI at hkv
        rw [List.getElem?_map] at hkv
        cases hz : R[i]? with
        | none => rw [hz] at hkv; cases hkv
        | some e =>
          rw [hz] at hkv
          cases hkv
          exact ⟨e, rfl, rfl, rfl⟩
      subst hkk
      have hem := List.mem_of_getElem? he
      have hil := (List.getElem?_eq_some_iff.mp he).1
      have hq2 : H6 q = some (.tup [.str e.1, .str e.2]) := hq
      have hRl : R.length ≤ 128 := by
        have h2 : R.length ≤ (ps.map (fun p => sdN p.1) ++ ps.map (fun p => sdO p.2)).length := nodup_len Rn fun e he => by
          obtain ⟨p, hp, h2⟩ := (Ri e).1 he
          rcases h2 with h2 | h2
          · exact List.mem_append_left _ (List.mem_map.mpr ⟨p, hp, h2.symm⟩)
          · exact List.mem_append_right _ (List.mem_map.mpr ⟨p, hp, h2.symm⟩)
        rw [List.length_append, List.length_map, List.length_map] at h2
        omega
      have hqD : ∀ acc, H6 D = some (.lst acc) → less D H6 q = some (.tup [.str e.1, .str e.2]) := fun acc h => less_at h hq2 (fun z => nomatch z)
      obtain ⟨acc0, hacc0, _⟩ := G.lst
      have hst : startW (R.take (i + 1)) r = startW (R.take i) r ++ (if (decide (e.1 = "new") && decide (0 < r e)) = true then [e] else []) := filter_at he
      refine ⟨rfl, _, rfl, q, _, _, _, rfl, rfl, SqT.of hq2, atI_nat (j := 0) rfl, rfl, _, rfl, ?_⟩
      by_cases hn : e.1 = "new"
      · refine iteB (decide_eq_true (by rw [hn])) ⟨_, rfl, x, _, dx, _, _, rfl, G.ext _ _ hx1, cF, T.a_Flow_room, rfl, _, rfl, dr, _, rfl, .inr ⟨_, kP e, q, .inr ⟨od, G.ext _ _ hl1⟩, rfl, hq, (kvI_mem hem).symm⟩, _, _, rfl, rfl, _, rfl, ?_⟩
        by_cases hr0 : 0 < r e
        · refine iteB (decide_eq_true hr0) ⟨_, rfl, gr_add G (Same.refl _) (by omega) (fun _ _ _ _ e h => pall_same e h) fun acc h => ?_⟩
          rw [hst, if_pos (by rw [decide_eq_true hn, decide_eq_true hr0]; rfl)]
          exact pall_snoc h ⟨q, rfl, hqD _ hacc0⟩
        · refine iteN (decide_eq_false hr0) (gr_skip G (Same.refl _) (fun _ _ _ _ e h => pall_same e h) fun acc h => ?_)
          rw [hst, if_neg (by rw [decide_eq_false hr0, Bool.and_false]; decide), List.append_nil]
          exact h
      · refine iteN (decide_eq_false fun h => hn (V.str.inj h)) (gr_skip G (Same.refl _) (fun _ _ _ _ e h => pall_same e h) fun acc h => ?_)
        rw [hst, if_neg (by rw [decide_eq_false hn, Bool.false_and]; decide), List.append_nil]
        exact h
    rintro H5 ⟨hD5, e5, ws, hws, hwl, hws2⟩
    refine ⟨e5 _ _ hl1, ?_⟩
    have hfullR : R.take (kvI R r).length = R := List.take_of_length_le (by rw [kvI_len]; exact Nat.le_refl _)
    rw [hfullR] at hws2
    have hDr : D ≠ dr := fun e => by rw [e, hl1] at hD; cases hD
    have hFD : F ≠ D := fun e => by
      have hz := hnone D hD
      rw [← e, h0F] at hz
      cases hz
    have y6 := hback H5 e5
    have hW6 : upd H5 dr (.dT (kvI R r)) D = some (.lst ws) := by rw [upd_ne hDr]; exact hws
    have hP6 : PAll (upd H5 dr (.dT (kvI R r))) ws (startW R r) := Paired.mapP hws2 fun v e ⟨t, e1, e2⟩ => by
      have htD : t ≠ D := fun z => by rw [z, less_x] at e2; cases e2
      rw [less_ne htD] at e2
      have htr : t ≠ dr := fun z => by rw [z, e5 _ _ hl1] at e2; cases e2
      exact ⟨t, e1, by rw [upd_ne htr]; exact e2⟩
    have hF6 := y6 _ _ h0F
    generalize upd H5 dr (.dT (kvI R r)) = H6 at y6 hW6 hP6 hF6
    have y6' := yF.trans y6
    have hBW : less D H6 D = none := less_x
    have hF6' : less D H6 F = some (.dT []) := by rw [less_ne hFD]; exact hF6
    have hB6 : Same (less F (less D H6)) H6 := (less_sub _ _).trans (less_sub _ _)
    have hBF : less F (less D H6) F = none := less_x
    have hBD : less F (less D H6) D = none := by rw [less_ne hFD.symm]; exact hBW
    have hHB : Same H (less F (less D H6)) := same_lessN hFn (same_lessN (by
      have hz := hnone D hD
      exact yF.free hz) y6')
    have hBP : PAll (less F (less D H6)) ws (startW R r) := pall_less hF6' (fun _ z => nomatch z) (pall_less hW6 (fun _ z => nomatch z) hP6)
    generalize less F (less D H6) = B at hB6 hBF hBD hHB hBP
    refine ⟨_, rfl, D, rfl, ⟨_, SqL.of hW6⟩, for_lst (K := K) (a := D) (xs := ws) (fun i σ Hk => ∃ (v3 : Option V) (fkv : List (List Key × V)), σ = [some (.ref x), some (.ref F), some (.ref D), v3, none, none, none, none, none, none] ∧ Same B Hk ∧ Hk D = some (.lst ws) ∧ Hk F = some (.dT fkv) ∧ FKv B fkv (((startW R r).take i).map fun e => (e, none))) ⟨none, [], rfl, hB6, hW6, hF6, .nil⟩ (fun i σ Hk _ ⟨_, _, _, _, e, _⟩ => SqL.of e) ?_ ?_⟩
    · rintro i y σ Hk hi ⟨v3, fkv, rfl, ek, hWk, hFk, kF⟩
      obtain ⟨e, t, he, rfl, ht⟩ := pall_get hBP hi
      have hSn : (startW R r).Nodup := List.Sublist.nodup List.filter_sublist Rn
      have hn : valV fkv (kP e) = none := fkv_none kF (by
        rw [List.map_map]
        have : ((startW R r).take i).map ((fun x : Sd × Option Sd => x.1) ∘ fun e => (e, none)) = (startW R r).take i := List.map_id _
        rw [this]
        exact nodup_take_not hSn he)
      have hlen : fkv.length < sizeLine := by
        have h1 := kF.length
        rw [List.length_map, List.length_take] at h1
        have h2 : (startW R r).length ≤ R.length := List.length_filter_le _ _
        have h3 : R.length ≤ (ps.map (fun p => sdN p.1) ++ ps.map (fun p => sdO p.2)).length := nodup_len Rn fun e he => by
          obtain ⟨p, hp, h2⟩ := (Ri e).1 he
          rcases h2 with h2 | h2
          · exact List.mem_append_left _ (List.mem_map.mpr ⟨p, hp, h2.symm⟩)
          · exact List.mem_append_right _ (List.mem_map.mpr ⟨p, hp, h2.symm⟩)
        rw [List.length_append, List.length_map, List.length_map] at h3
        rw [sizeLine_eq]
        omega
      refine ⟨_, rfl, _, rfl, F, _, rfl, DPut.t (k := kP e) hFk (ek _ _ ht) hlen, _, _, rfl, same_mut ek hBF, by rw [upd_ne hFD.symm]; exact hWk, upd_same, ?_⟩
      rw [putK_new _ hn, take_at he, List.map_append]
      exact Paired.snoc kF ⟨rfl, rfl⟩
    rintro σ Hk ⟨v3, fkv, rfl, ek, hWk, hFk, kF⟩
    have hwl : (startW R r).take ws.length = startW R r := List.take_of_length_le (by rw [hBP.length]; exact Nat.le_refl _)
    rw [hwl] at kF
    refine ⟨fun m σ H1 => ∃ (i : Nat) (wl : WL) (ws : List V) (fkv : List (List Key × V)) (v3 v5 v6 v7 v8 v9 : Option V), σ = [some (.ref x), some (.ref F), some (.ref D), v3, some (.int i), v5, v6, v7, v8, v9] ∧ Same B H1 ∧ H1 D = some (.lst ws) ∧ PAll H1 ws (wl.map (·.1)) ∧ H1 F = some (.dT fkv) ∧ FKv H1 fkv wl ∧ TInv ps R f r wl i 0 ∧ m = 200 - i ∧ i ≤ wl.length, ?_, ?_⟩
    · refine ⟨200, 0, (startW R r).map fun e => (e, none), ws, fkv, v3, none, none, none, none, none, rfl, ek, hWk, ?_, hFk, fkv_same ek kF, tinv_start Rn fun e he => (Ri e).1 he, rfl, Nat.zero_le _⟩
      rw [List.map_map]
      have : (startW R r).map ((fun x : Sd × Option Sd => x.1) ∘ fun e => (e, none)) = startW R r := List.map_id _
      rw [this]
      exact pall_same ek hBP
    clear hFk kF hWk ek
    rintro m σ H1 ⟨i, wl, ws, fkv, v3, v5, v6, v7, v8, v9, rfl, e1, hW1, P1, hF1, k1, TI, rfl, hi⟩
    have hwsl : ws.length = wl.length := by rw [P1.length, List.length_map]
    have htl := tinv_len TI
    have FB : FlowAt K H1 x ds dr lp xs ps f R r := flow_same (hHB.trans e1) hF
    refine ⟨_, rfl, _, rfl, D, _, rfl, .inl (SqL.of hW1), _, _, rfl, rfl, _, rfl, ?_⟩
    by_cases hlt : i < ws.length
    · refine iteB (decide_eq_true (by exact_mod_cast hlt)) ⟨fun σ' H' => ∃ m', m' < 200 - i ∧ ∃ (i : Nat) (wl : WL) (ws : List V) (fkv : List (List Key × V)) (v3 v5 v6 v7 v8 v9 : Option V), σ' = [some (.ref x), some (.ref F), some (.ref D), v3, some (.int i), v5, v6, v7, v8, v9] ∧ Same B H' ∧ H' D = some (.lst ws) ∧ PAll H' ws (wl.map (·.1)) ∧ H' F = some (.dT fkv) ∧ FKv H' fkv wl ∧ TInv ps R f r wl i 0 ∧ m' = 200 - i ∧ i ≤ wl.length, fun σ' H' q => q, ?_⟩
      obtain ⟨⟨e0, o0⟩, he0⟩ : ∃ z, wl[i]? = some z := ⟨_, List.getElem?_eq_getElem (by omega)⟩
      obtain ⟨dx1, hx1'⟩ := FB.ex
      have hxl : xs.length = ps.length := FB.pa.length
      refine ⟨_, rfl, x, _, dx1, _, _, rfl, hx1', cF, T.a_Flow_pairs, rfl, lp, rfl, ⟨_, SqL.of FB.pl⟩, for_lst (K := K) (a := lp) (xs := xs) (fun j σ H2 => ∃ (wl : WL) (ws : List V) (fkv : List (List Key × V)) (v5 v6 v7 v8 v9 : Option V), σ = [some (.ref x), some (.ref F), some (.ref D), v3, some (.int i), v5, v6, v7, v8, v9] ∧ Same B H2 ∧ H2 D = some (.lst ws) ∧ PAll H2 ws (wl.map (·.1)) ∧ H2 F = some (.dT fkv) ∧ FKv H2 fkv wl ∧ TInv ps R f r wl i j ∧ wl[i]? = some (e0, o0)) ⟨wl, ws, fkv, v5, v6, v7, v8, v9, rfl, e1, hW1, P1, hF1, k1, TI, he0⟩ (fun j σ H2 _ ⟨_, _, _, _, _, _, _, _, _, e, _⟩ => SqL.of (flow_same (hHB.trans e) hF).pl) ?_ ?_⟩
      · rintro j y σ H2 hj ⟨wl, ws, fkv, v5, v6, v7, v8, v9, rfl, e2, hW2, P2, hF2, k2, TI, he0⟩
        have FB := flow_same (hHB.trans e2) hF
        obtain ⟨p, t, hp, rfl, ht⟩ := pall_get FB.pa hj
        have hpm := List.mem_of_getElem? hp
        obtain ⟨n1, n2⟩ := pnm p hpm
        have htl := tinv_len TI
        refine ⟨_, rfl, t, p.1, p.2, rfl, SqT.of ht, fun ea eb er H3 e3 hea heb her h3a h3b h3r => ⟨er, _, rfl, SqT.of h3r, rfl, _, _, rfl, _, _, rfl, rfl, ?_⟩⟩
        have y3 := e2.trans e3
        have FC := flow_same (hHB.trans y3) hF
        obtain ⟨dx3, hx3⟩ := FC.ex
        have hW3 := e3 _ _ hW2
        have hF3 := e3 _ _ hF2
        have hk0 : (wl.map (·.1))[i]? = some e0 := by rw [List.getElem?_map, he0]; rfl
        obtain ⟨w0, hw0, t0, rfl, ht0⟩ := paired_get2 (pall_same e3 P2) hk0
        have hE0 := TI.isE e0 (List.mem_of_getElem? hk0)
        have ok0 : Pok e0 := by
          obtain ⟨q, hq, h2⟩ := hE0
          obtain ⟨m1, m2⟩ := pnm q hq
          rcases h2 with rfl | rfl
          · exact pok_nm nm_new m1
          · exact pok_nm nm_old m2
        have okN : Pok (sdN p.1) := pok_nm nm_new n1
        have okO : Pok (sdO p.2) := pok_nm nm_old n2
        dsimp only
        refine seqAsg_by (.ref (if e0 = sdN p.1 then eb else ea)) (fun Qv hQ => ?_) ?_
        · refine ⟨_, rfl, _, rfl, D, _, _, _, rfl, rfl, SqL.of hW3, atI_nat hw0, _, rfl, t0, ea, e0, sdN p.1, rfl, rfl, SqT.of ht0, SqT.of h3a, ok0, okN, _, rfl, ?_⟩
          by_cases h : e0 = sdN p.1
          · rw [if_pos h] at hQ
            exact iteB (decide_eq_true h) ⟨_, rfl, hQ⟩
          · rw [if_neg h] at hQ
            exact iteN (decide_eq_false h) ⟨_, rfl, hQ⟩
        have hT : H3 (if e0 = sdN p.1 then eb else ea) = some (.tup [.str (Dest p e0).1, .str (Dest p e0).2]) := by
          unfold Dest
          by_cases h : e0 = sdN p.1
          · rw [if_pos h, if_pos h]; exact h3b
          · rw [if_neg h, if_neg h]; exact h3a
        generalize (if e0 = sdN p.1 then eb else ea) = tA at hT
        refine seqAsg_by (.bl (decide (e0 = sdN p.1) || (decide (e0 = sdO p.2) && decide (0 < f p)))) (fun Qv hQ => ?_) ?_
        · refine ⟨_, rfl, _, rfl, D, _, _, _, rfl, rfl, SqL.of hW3, atI_nat hw0, _, rfl, t0, ea, e0, sdN p.1, rfl, rfl, SqT.of ht0, SqT.of h3a, ok0, okN, _, rfl, ?_⟩
          by_cases h : e0 = sdN p.1
          · rw [decide_eq_true h] at hQ
            exact iteB (decide_eq_true h) hQ
          · rw [decide_eq_false h] at hQ
            refine iteN (decide_eq_false h) ⟨_, rfl, _, rfl, D, _, _, _, rfl, rfl, SqL.of hW3, atI_nat hw0, _, rfl, t0, eb, e0, sdO p.2, rfl, rfl, SqT.of ht0, SqT.of h3b, ok0, okO, _, rfl, ?_⟩
            by_cases h2 : e0 = sdO p.2
            · rw [decide_eq_true h2] at hQ
              have hg := DGet.t (k := kP p) FC.se (pt_key (e3 _ _ ht))
              rw [kvI_mem hpm] at hg
              exact iteB (decide_eq_true h2) ⟨_, rfl, x, _, dx3, _, _, rfl, hx3, cF, T.a_Flow_sent, rfl, _, rfl, ds, _, rfl, hg, _, _, rfl, rfl, by simpa using hQ⟩
            · rw [decide_eq_false h2] at hQ
              exact iteN (decide_eq_false h2) (by simpa using hQ)
        have hwb : (decide (e0 = sdN p.1) || (decide (e0 = sdO p.2) && decide (0 < f p))) = true ↔ Way f p e0 := by
          unfold Way
          rw [Bool.or_eq_true, Bool.and_eq_true, decide_eq_true_iff, decide_eq_true_iff, decide_eq_true_iff]
        have hold : (∀ e o, wl[i]? = some (e, o) → Way f p e → Dest p e ∈ wl.map (·.1)) → TInv ps R f r wl i (j + 1) := fun h => tinv_old TI hp h
        have k3 := fkv_same e3 k2
        have P3 := pall_same e3 P2
        refine ⟨_, rfl, _, rfl, ?_⟩
        by_cases hw : Way f p e0
        · refine iteB (hwb.2 hw) ⟨_, rfl, _, rfl, F, _, rfl, DGet.t (k := kP (Dest p e0)) hF3 (pt_key hT), _, rfl, ?_⟩
          by_cases hin : Dest p e0 ∈ wl.map (·.1)
          · obtain ⟨⟨e', o'⟩, h1', h2'⟩ := List.mem_map.mp hin
            simp only at h2'
            subst h2'
            obtain ⟨vv, hv1, _⟩ := fkv_some k3 TI.nd h1'
            refine iteN (by rw [hv1]; rfl) ⟨wl, ws, fkv, _, _, _, _, _, rfl, y3, hW3, P3, hF3, k3, hold fun e o he _ => ?_, he0⟩
            rw [he0] at he
            cases he
            exact hin
          · have hnone2 := fkv_none k3 hin
            have hfl : fkv.length = wl.length := k3.length
            have hpt := pt_key (e3 _ _ ht)
            refine iteB (by rw [hnone2]; rfl) ⟨_, rfl, _, rfl, _, rfl, F, _, rfl, DPut.t (k := kP (Dest p e0)) hF3 (pt_key hT) (by rw [sizeLine_eq]; omega), ?_⟩
            rw [putK_new _ hnone2]
            have hFt : ∀ {b : Addr} {u : HO}, H3 b = some u → (∀ z, u ≠ .dT z) → upd H3 F (.dT (fkv ++ [(kP (Dest p e0), .ref t)])) b = some u := fun {b u} hb hu => by
              rw [upd_ne (fun z => by rw [z, hF3] at hb; exact hu _ (Option.some.inj hb).symm)]
              exact hb
            have PF : PAll (upd H3 F (.dT (fkv ++ [(kP (Dest p e0), .ref t)]))) ws (wl.map (·.1)) := Paired.mapP P3 fun v e ⟨b, q1, q2⟩ => ⟨b, q1, hFt q2 (fun _ z => nomatch z)⟩
            have KF : FKv (upd H3 F (.dT (fkv ++ [(kP (Dest p e0), .ref t)]))) (fkv ++ [(kP (Dest p e0), .ref t)]) (wl ++ [(Dest p e0, some p)]) := Paired.snoc (Paired.mapP k3 fun kv w z => ⟨z.1, by
              obtain ⟨e', o'⟩ := w
              cases o' with
              | none => exact z.2
              | some q => exact (let ⟨b, q1, q2⟩ := z.2; ⟨b, q1, hFt q2 (fun _ z => nomatch z)⟩)⟩) ⟨rfl, t, rfl, hFt (e3 _ _ ht) (fun _ z => nomatch z)⟩
            have hWF := hFt hW3 (fun _ z => nomatch z)
            have hTF := hFt hT (fun _ z => nomatch z)
            have hFF : upd H3 F (.dT (fkv ++ [(kP (Dest p e0), .ref t)])) F = some (.dT (fkv ++ [(kP (Dest p e0), .ref t)])) := upd_same
            have yF3 : Same B (upd H3 F (.dT (fkv ++ [(kP (Dest p e0), .ref t)]))) := same_mut y3 hBF
            generalize upd H3 F (.dT (fkv ++ [(kP (Dest p e0), .ref t)])) = H4 at PF KF hWF hTF hFF yF3
            have hWt : ∀ {b : Addr} {u : HO}, H4 b = some u → (∀ z, u ≠ .lst z) → upd H4 D (.lst (ws ++ [.ref tA])) b = some u := fun {b u} hb hu => by
              rw [upd_ne (fun z => by rw [z, hWF] at hb; exact hu _ (Option.some.inj hb).symm)]
              exact hb
            have hwsl2 : ws.length = wl.length := by rw [PF.length, List.length_map]
            refine ⟨_, rfl, .inl ⟨rfl, _, .inl (.inl hWF)⟩, _, rfl, D, _, _, rfl, rfl, hWF, by rw [hwsl2, sizeLine_eq]; omega, wl ++ [(Dest p e0, some p)], ws ++ [.ref tA], fkv ++ [(kP (Dest p e0), .ref t)], _, _, _, _, _, rfl, same_mut yF3 hBD, upd_same, ?_, hWt hFF (fun _ z => nomatch z), ?_, tinv_new TI hp he0 hw hin, ?_⟩
            · rw [List.map_append]
              exact pall_snoc (Paired.mapP PF fun v e ⟨b, q1, q2⟩ => ⟨b, q1, hWt q2 (fun _ z => nomatch z)⟩) ⟨tA, rfl, hWt hTF (fun _ z => nomatch z)⟩
            · exact Paired.mapP KF fun kv w z => ⟨z.1, by
                obtain ⟨e', o'⟩ := w
                cases o' with
                | none => exact z.2
                | some q => exact (let ⟨b, q1, q2⟩ := z.2; ⟨b, q1, hWt q2 (fun _ z => nomatch z)⟩)⟩
            · rw [List.getElem?_append_left (List.getElem?_eq_some_iff.mp he0).1]
              exact he0
        · have hwf : (decide (e0 = sdN p.1) || (decide (e0 = sdO p.2) && decide (0 < f p))) = false := by
            cases hz : (decide (e0 = sdN p.1) || (decide (e0 = sdO p.2) && decide (0 < f p))) with
            | false => rfl
            | true => exact absurd (hwb.1 hz) hw
          refine iteN hwf ⟨wl, ws, fkv, _, _, _, _, _, rfl, y3, hW3, P3, hF3, k3, hold fun e o he h => ?_, he0⟩
          rw [he0] at he
          cases he
          exact absurd h hw
      · rintro σ H2 ⟨wl, ws, fkv, v5, v6, v7, v8, v9, rfl, e2, hW2, P2, hF2, k2, TI, he0⟩
        rw [hxl] at TI
        have htl := tinv_len TI
        have hil := (List.getElem?_eq_some_iff.mp he0).1
        refine ⟨_, rfl, _, _, rfl, rfl, 200 - (i + 1), by omega, i + 1, wl, ws, fkv, _, _, _, _, _, _, rfl, e2, hW2, P2, hF2, k2, tinv_next TI, rfl, by omega⟩
    · refine iteN (decide_eq_false (by omega)) ⟨_, rfl, ?_⟩
      have hiw : i = wl.length := by omega
      rw [hiw] at TI
      exact k F wl fkv H1 (hHB.trans e1) hFn hF1 k1 TI
end
end K59
/-! K59G -/
set_option Elab.async false
set_option linter.all false
set_option maxRecDepth 100000
/-! the plain law, part 4: the way that a growth takes -/
namespace K59
open PySem
def inc (z q : Sd) : Int := (if z = sdN q.1 then 1 else 0) + (if z = sdO q.2 then 1 else 0)
def sgE (e : Sd) : Int := if e.1 = "old" then 1 else -1
theorem sgE_new {x : Str} : sgE (sdN x) = -1 := if_neg (show ¬ (("new" : Str) = "old") by decide)
theorem sgE_old {x : Str} : sgE (sdO x) = 1 := if_pos rfl
/-- the steps w lead from the end a to the end e -/
inductive Seg (f : Sd → Int) (wl : WL) (a : Sd) : List (Sd × Int) → Sd → Prop where
  | nil : Seg f wl a [] a
  | old {w : List (Sd × Int)} {p : Sd} : Seg f wl a w (sdO p.2) → (sdO p.2, some p) ∈ wl → Seg f wl a (w ++ [(p, 1)]) (sdN p.1)
  | new {w : List (Sd × Int)} {p : Sd} : Seg f wl a w (sdN p.1) → (sdN p.1, some p) ∈ wl → 0 < f p → Seg f wl a (w ++ [(p, -1)]) (sdO p.2)
def sumW (w : List (Sd × Int)) (z : Sd) : Int := (w.map fun q => q.2 * inc z q.1).sum
theorem sumW_snoc {w : List (Sd × Int)} {q : Sd × Int} {z : Sd} : sumW (w ++ [q]) z = sumW w z + q.2 * inc z q.1 := by
  unfold sumW
  rw [List.map_append, List.map_cons, List.map_nil, sum_snoc]
def ind (z e : Sd) : Int := if z = e then 1 else 0
theorem inc_eq {z q : Sd} : inc z q = ind z (sdN q.1) + ind z (sdO q.2) := rfl
theorem seg_sum {f : Sd → Int} {wl : WL} {a e : Sd} {w : List (Sd × Int)} (h : Seg f wl a w e) (z : Sd) : sumW w z = sgE a * ind z a - sgE e * ind z e := by
  induction h with
  | nil => simp [sumW]
  | @old w p _ _ ih =>
    rw [sumW_snoc, ih, sgE_old, sgE_new, inc_eq]
    simp only
    omega
  | @new w p _ _ _ ih =>
    rw [sumW_snoc, ih, sgE_old, sgE_new, inc_eq]
    simp only
    omega
end K59
/-! K59H -/
set_option Elab.async false
set_option linter.all false
set_option maxRecDepth 100000
/-! the plain law, part 5: sums over pairs, the flow's balance -/
namespace K59
open PySem
def sumOn (ps : List Sd) (g : Sd → Int) : Int := (ps.map g).sum
theorem sumOn_cons {p : Sd} {ps : List Sd} {g : Sd → Int} : sumOn (p :: ps) g = g p + sumOn ps g := by simp [sumOn]
theorem sumOn_add {ps : List Sd} {g h : Sd → Int} : sumOn ps (fun p => g p + h p) = sumOn ps g + sumOn ps h := by
  induction ps with
  | nil => rfl
  | cons a r ih => rw [sumOn_cons, sumOn_cons, sumOn_cons, ih]; omega
theorem sumOn_mul {ps : List Sd} {g : Sd → Int} {c : Int} : sumOn ps (fun p => c * g p) = c * sumOn ps g := by
  induction ps with
  | nil => simp [sumOn]
  | cons a r ih => rw [sumOn_cons, sumOn_cons, ih, Int.mul_add]
theorem sumOn_congr {ps : List Sd} {g h : Sd → Int} (e : ∀ p ∈ ps, g p = h p) : sumOn ps g = sumOn ps h := by
  unfold sumOn
  rw [List.map_congr_left e]
theorem sumOn_zero {ps : List Sd} {g : Sd → Int} (e : ∀ p ∈ ps, g p = 0) : sumOn ps g = 0 := by
  induction ps with
  | nil => rfl
  | cons a r ih => rw [sumOn_cons, e a List.mem_cons_self, ih fun p hp => e p (List.mem_cons_of_mem _ hp)]; rfl
theorem sumOn_one {ps : List Sd} {q : Sd} {c : Sd → Int} (hn : ps.Nodup) (hq : q ∈ ps) : sumOn ps (fun p => if q = p then c p else 0) = c q := by
  induction ps with
  | nil => cases hq
  | cons a r ih =>
    rw [List.nodup_cons] at hn
    rw [sumOn_cons]
    rcases List.mem_cons.mp hq with rfl | h
    · rw [if_pos rfl, sumOn_zero fun p hp => if_neg fun e => hn.1 (by rw [e]; exact hp)]
      omega
    · rw [if_neg fun e => hn.1 (by rw [← e]; exact h), ih hn.2 h]
      omega
theorem sumOn_le {ps : List Sd} {g h : Sd → Int} (e : ∀ p ∈ ps, g p ≤ h p) : sumOn ps g ≤ sumOn ps h := by
  induction ps with
  | nil => exact Int.le_refl _
  | cons a r ih =>
    rw [sumOn_cons, sumOn_cons]
    have := e a List.mem_cons_self
    have := ih fun p hp => e p (List.mem_cons_of_mem _ hp)
    omega
theorem sumOn_swap {as bs : List Sd} {g : Sd → Sd → Int} : sumOn as (fun a => sumOn bs (g a)) = sumOn bs fun b => sumOn as fun a => g a b := by
  induction as with
  | nil => exact (sumOn_zero fun _ _ => rfl).symm
  | cons a r ih =>
    rw [sumOn_cons, ih, ← sumOn_add]
    exact sumOn_congr fun p _ => (sumOn_cons (p := a) (ps := r) (g := fun a => g a p)).symm
/-- how often, by sign, a pair is in a way -/
def cnt (w : List (Sd × Int)) (p : Sd) : Int := (w.map fun q => if q.1 = p then q.2 else 0).sum
theorem cnt_snoc {w : List (Sd × Int)} {q : Sd × Int} {p : Sd} : cnt (w ++ [q]) p = cnt w p + if q.1 = p then q.2 else 0 := by
  unfold cnt
  rw [List.map_append, List.map_cons, List.map_nil, sum_snoc]
theorem cnt_sum {ps : List Sd} (hn : ps.Nodup) (z : Sd) : ∀ (n : Nat) (w : List (Sd × Int)), w.length = n → (∀ q ∈ w, q.1 ∈ ps) → sumOn ps (fun p => cnt w p * inc z p) = sumW w z := by
  intro n
  induction n with
  | zero =>
    intro w hw _
    obtain rfl := List.length_eq_zero_iff.mp hw
    exact sumOn_zero fun p _ => by simp [cnt]
  | succ n ih =>
    intro w hw hm
    obtain ⟨v, q, rfl⟩ : ∃ v q, w = v ++ [q] := by
      have hne : w ≠ [] := fun h => by rw [h] at hw; cases hw
      exact ⟨_, _, (List.dropLast_concat_getLast hne).symm⟩
    have hv : v.length = n := by rw [List.length_append] at hw; exact Nat.succ.inj hw
    rw [sumW_snoc, ← ih v hv fun q hq => hm q (List.mem_append_left _ hq)]
    have e : ∀ p, cnt (v ++ [q]) p * inc z p = cnt v p * inc z p + if q.1 = p then q.2 * inc z p else 0 := fun p => by
      rw [cnt_snoc, Int.add_mul]
      by_cases h : q.1 = p
      · rw [if_pos h, if_pos h]
      · rw [if_neg h, if_neg h, Int.zero_mul]
    rw [sumOn_congr fun p _ => e p, sumOn_add, sumOn_one hn (hm q (List.mem_append_right _ (List.mem_singleton.mpr rfl)))]
end K59
/-! K59I -/
set_option Elab.async false
set_option linter.all false
set_option maxRecDepth 100000
/-! the plain law, part 6: a growth keeps the balance -/
namespace K59
open PySem
structure FInv (pr : Sd → Int) (ps R : List Sd) (f r : Sd → Int) : Prop where
  f0 : ∀ p ∈ ps, 0 ≤ f p
  r0 : ∀ e ∈ R, 0 ≤ r e
  bal : ∀ e ∈ R, r e + sumOn ps (fun p => f p * inc e p) = pr e
theorem finv_start {pr : Sd → Int} {ps R : List Sd} (h : ∀ p, 1 ≤ pr p) : FInv pr ps R (fun _ => 0) pr :=
  ⟨fun _ _ => Int.le_refl _, fun e _ => by have := h e; omega, fun e _ => by rw [sumOn_zero fun p _ => Int.zero_mul _]; omega⟩
/-- each pair's minus stands in the way once, at an end behind the k-th -/
def NegOk (wl : WL) (w : List (Sd × Int)) (k : Nat) : Prop := ∀ p, -1 ≤ cnt w p ∧ (cnt w p = -1 → (p, (-1 : Int)) ∈ w ∧ ∃ k' o, k < k' ∧ wl[k']? = some (sdN p.1, o))
theorem negOk_nil {wl : WL} {k : Nat} : NegOk wl [] k := fun p => ⟨by simp [cnt], fun h => by simp [cnt] at h⟩
theorem negOk_old {wl : WL} {w : List (Sd × Int)} {k k' : Nat} {p : Sd} (h : NegOk wl w k) (hk : k' < k) : NegOk wl (w ++ [(p, 1)]) k' := fun q => by
  obtain ⟨h1, h2⟩ := h q
  rw [cnt_snoc]
  by_cases e : p = q
  · rw [if_pos e]
    exact ⟨by simp only; omega, fun z => absurd z (by simp only; omega)⟩
  · rw [if_neg e]
    refine ⟨by omega, fun z => ?_⟩
    obtain ⟨h3, k2, o, h4, h5⟩ := h2 (by omega)
    exact ⟨List.mem_append_left _ h3, k2, o, by omega, h5⟩
theorem negOk_new {wl : WL} {w : List (Sd × Int)} {k k' : Nat} {p : Sd} {o : Option Sd} (h : NegOk wl w k) (hk : k' < k) (he : wl[k]? = some (sdN p.1, o)) (nd : (wl.map (·.1)).Nodup) : NegOk wl (w ++ [(p, -1)]) k' := fun q => by
  obtain ⟨h1, h2⟩ := h q
  rw [cnt_snoc]
  by_cases e : p = q
  · subst e
    rw [if_pos rfl]
    have hge : 0 ≤ cnt w p := by
      rcases Int.lt_or_le (cnt w p) 0 with z | z
      · obtain ⟨_, k2, o2, h4, h5⟩ := h2 (by omega)
        have i1 : (wl.map (·.1))[k]? = some (sdN p.1) := by rw [List.getElem?_map, he]; rfl
        have i2 : (wl.map (·.1))[k2]? = some (sdN p.1) := by rw [List.getElem?_map, h5]; rfl
        have l1 := (List.getElem?_eq_some_iff.mp i1).1
        have : k = k2 := (List.getElem?_inj l1 nd).mp (i1.trans i2.symm)
        omega
      · exact z
    exact ⟨by simp only; omega, fun z => ⟨List.mem_append_right _ (List.mem_singleton.mpr rfl), k, o, hk, he⟩⟩
  · rw [if_neg e]
    refine ⟨by omega, fun z => ?_⟩
    obtain ⟨h3, k2, o2, h4, h5⟩ := h2 (by omega)
    exact ⟨List.mem_append_left _ h3, k2, o2, by omega, h5⟩
theorem finv_grow {pr : Sd → Int} {ps R : List Sd} {f r f' r' : Sd → Int} {wl : WL} {w : List (Sd × Int)} {x y : Str} {k : Nat} {m : Int} (F : FInv pr ps R f r) (hn : ps.Nodup) (S : Seg f wl (sdO y) w (sdN x)) (N : NegOk wl w k) (hw : ∀ q ∈ w, q.1 ∈ ps)
    (hm0 : 0 ≤ m) (hml : m ≤ r (sdO y)) (hmr : m ≤ r (sdN x)) (hmf : ∀ p, (p, (-1 : Int)) ∈ w → m ≤ f p) (hf : ∀ p ∈ ps, f' p = f p + m * cnt w p) (hr : ∀ e, r' e = r e - m * (ind e (sdO y) + ind e (sdN x))) : FInv pr ps R f' r' := by
  refine ⟨fun p hp => ?_, fun e he => ?_, fun e he => ?_⟩
  · rw [hf p hp]
    have h0 := F.f0 p hp
    obtain ⟨h1, h2⟩ := N p
    rcases Int.lt_or_le (cnt w p) 0 with z | z
    · have hc : cnt w p = -1 := by omega
      have := hmf p (h2 hc).1
      rw [hc]
      omega
    · have := Int.mul_nonneg hm0 z
      omega
  · rw [hr]
    have h0 := F.r0 e he
    unfold ind
    by_cases h1 : e = sdO y
    · have h2 : e ≠ sdN x := fun z => sd_ne (z.symm.trans h1)
      rw [if_pos h1, if_neg h2, h1]
      omega
    · rw [if_neg h1]
      by_cases h2 : e = sdN x
      · rw [if_pos h2, h2]
        omega
      · rw [if_neg h2]
        omega
  · have e1 : sumOn ps (fun p => f' p * inc e p) = sumOn ps (fun p => f p * inc e p) + m * sumW w e := by
      rw [sumOn_congr fun p hp => by rw [hf p hp, Int.add_mul, Int.mul_assoc], sumOn_add, sumOn_mul, cnt_sum hn e _ w rfl hw]
    have e2 := seg_sum S e
    rw [sgE_old, sgE_new] at e2
    have e3 : sumW w e = ind e (sdO y) + ind e (sdN x) := by omega
    rw [e1, hr, e3]
    have := F.bal e he
    omega
end K59
/-! D21 -/
set_option Elab.async false
set_option linter.all false
set_option maxRecDepth 100000
set_option maxHeartbeats 2000000
namespace K59
open PySem PySem.Spec PyProof.Rows L2 LamX
/-- the prices that are due, in a dict -/
def DueAt (H : Hp) (du : Addr) (pr : Str × Str → Int) (ok : Str × Str → Prop) (m : Nat) : Prop := ∃ kvs : List (List Key × V), H du = some (.dT kvs) ∧ (∀ p, ok p → valV kvs (kP p) = some (.int (pr p))) ∧ kvs.length ≤ m
def GoodP (pr : Str × Str → Int) : Prop := ∀ p, 1 ≤ pr p ∧ pr p ≤ 1000000000
theorem good_set {pr : Str × Str → Int} {p : Str × Str} {i : Int} (h : GoodP pr) (h1 : 1 ≤ i) (h2 : i ≤ 1000000000) : GoodP (setPr pr p i) := fun q => by
  unfold setPr
  by_cases e : q = p
  · rw [if_pos e]; exact ⟨h1, h2⟩
  · rw [if_neg e]; exact h q
theorem same_lessM {B H H' : Hp} {D : Addr} (e : Same B H) (hD : B D = none) (f : Same (less D H) H') : Same B H' := fun b o h => by
  refine f b o ?_
  rw [less_ne (ne_of_none h hD)]
  exact e b o h
theorem due_put {H : Hp} {du : Addr} {pr : Str × Str → Int} {ok : Str × Str → Prop} {m : Nat} {kvs : List (List Key × V)} {p : Str × Str} {i : Int} (hk : H du = some (.dT kvs)) (hv : ∀ q, ok q → q ≠ p → valV kvs (kP q) = some (.int (pr q))) (hl : kvs.length ≤ m) (hi : pr p = i) :
    DueAt (upd H du (.dT (putK kvs (kP p) (.int i)))) du pr (fun q => ok q ∨ q = p) (m + 1) := by
  refine ⟨_, upd_same, fun q hq => ?_, Nat.le_trans (putK_len' _ _ _) (Nat.succ_le_succ hl)⟩
  rw [valV_put]
  by_cases e : q = p
  · rw [if_pos (by rw [e]), e, hi]
  · rw [if_neg (fun h => e (kP_inj h))]
    exact hv q (hq.elim id fun h => absurd h e) e
theorem due_at {H H' : Hp} {du : Addr} {pr pr' : Str × Str → Int} {ok ok' : Str × Str → Prop} {m m' : Nat} (h : DueAt H du pr ok m) (e : H' du = H du) (hp : ∀ p, ok' p → ok p ∧ pr' p = pr p) (hm : m ≤ m') : DueAt H' du pr' ok' m' := by
  obtain ⟨kvs, h1, h2, h3⟩ := h
  refine ⟨kvs, e.trans h1, fun p hq => ?_, Nat.le_trans h3 hm⟩
  obtain ⟨h4, h5⟩ := hp p hq
  rw [h5]
  exact h2 p h4
theorem due_same {H H' : Hp} {du : Addr} {pr : Str × Str → Int} {ok : Str × Str → Prop} {m : Nat} (e : Same H H') (h : DueAt H du pr ok m) : DueAt H' du pr ok m := by
  obtain ⟨kvs, h1, h2⟩ := h
  exact ⟨kvs, e _ _ h1, h2⟩
theorem prices_upd {K : PySem.W.Frag} {H : Hp} {x sp du : Addr} {pr : Str × Str → Int} {m : Nat} {u : HO} (h : PricesAt K H x sp pr m) (h1 : du ≠ x) (h2 : du ≠ sp) : PricesAt K (upd H du u) x sp pr m := by
  obtain ⟨dx, d, kvs, a, b, r⟩ := h.ex
  exact ⟨dx, d, kvs, by rw [upd_ne h1.symm]; exact a, by rw [upd_ne h2.symm]; exact b, r⟩
section
variable {P : Program} {w : World} {K : PySem.W.Frag} {mg : Str → Option Value} {base : Heap}
abbrev s__law_priced : Stmt := top 84
abbrev N__law_priced : List Str := ["_law_bag_here", "_law_data_here", "_law_column", "_law_usual", "_law_due", "_law_costs", "_law_side", "_law_name"]
theorem sc__law_priced : FnScope N__law_priced ["_law_bag_here", "_law_data_here", "_law_column"] (defScope s__law_priced) := ⟨rfl, rfl, rfl, by decide +kernel, rfl, by decide +kernel, by decide +kernel⟩
theorem side_of {cols : List Str} {ds : List Dd} {c : Str} {q : Str × Str} (h : IsSide cols ds c q) (hn : ∀ d ∈ ds, Nm d.nm) : SideP q := by
  obtain ⟨d, hd, h⟩ := h
  rcases h with ⟨_, rfl⟩ | ⟨_, rfl⟩
  · exact ⟨true, _, rfl, hn d hd⟩
  · exact ⟨false, _, rfl, hn d hd⟩
def sp_priced (K : PySem.W.Frag) : Sp := fun vs H Q _ => ∃ (b : Addr) (v : V) (c : Str) (D : Da), vs = [.ref b, v, .str c] ∧ H b = some (BagO b) ∧ Dp K H v (daD D) ∧ (D.rows.map (·.1.nm)).Nodup ∧ (∀ r ∈ D.rows, Nm r.1.nm) ∧ D.rows.length ≤ 5 ∧
  ∀ (t x sp du : Addr) (pr : Str × Str → Int) (H' : Hp), Same H H' → H' t = some (.tup [.ref x, .ref du]) → H x = none → H sp = none → H du = none → sp ≠ du → PricesAt K H' x sp pr 20 → DueAt H' du pr (IsSide D.cols (D.rows.map (·.1)) c) 40 → GoodP pr → Q (.ref t) H'
theorem ok_priced (T : Tx2 P K mg) : OkR P w K mg base 6 (He.fAd K ("_law_priced", none)) (sp_priced K) := by
  have G__law_take : OkR P w K mg base 1 (He.fAd K ("_law_take", none)) sp_take := ok_take T.toTx0
  have G__law_price : OkR P w K mg base 3 (He.fAd K ("_law_price", none)) sp_price := ok_price T
  have G__law_sides : OkR P w K mg base 2 (He.fAd K ("_law_sides", none)) (sp_sides K) := ok_sides T
  have G_Prices_init : FnA P w K mg base 4 (He.fAd K ("Prices", some "__init__")) [] (fun vs _ H Q E => sp_Prices_init K vs H Q E) := ok_Prices_init T
  have G_Prices_setitem : OkR P w K mg base 4 (He.fAd K ("Prices", some "__setitem__")) (sp_Prices_setitem K) := ok_Prices_setitem T
  refine mkR T.f__law_priced sc__law_priced (fun vs H Q E h => ?_) (fun _ _ _ _ _ _ us hl => match us, hl with | [_, _, _], _ => rfl) fun cdv A outer s H vs Q E hr h => ?_
  · obtain ⟨_, _, _, _, rfl, _⟩ := h
    rfl
  · obtain ⟨b, v, c, D, rfl, hb, hv, hnd, hnm, hrl, k⟩ := h
    refine ⟨_, 
    (pss_cons (ps_par (i := 3) (j := 4) (by rfl) sc__law_priced.nd rfl rfl (by decide) rfl rfl (pa_cons (pe_callF G__law_price (hr.mono (by decide)) (by rfl) T.g__law_price (pa_cons (pv 0) pa_nil)) (pa_cons pe_dnewT pa_nil)) (by rfl)) 
    (pss_cons (ps_set (i := 5) sc__law_priced.nd rfl (Or.inl rfl) (pe_makeA T.k_Prices G_Prices_init (hr.mono (by decide)) (by rfl) T.g_Prices (pa_cons (pv 3) pa_nil) pkn_nil)) 
    (pss_cons (ps_for PassesOwn.never rfl (pi_listK K (pe_callF G__law_sides (hr.mono (by decide)) (by rfl) T.g__law_sides (pa_cons (pv 1) (pa_cons (pv 2) pa_nil)))) (pg_tupK (n := 2) K (by rfl) (pgs_cons (pg_name (i := 6) sc__law_priced.nd rfl (Or.inl rfl)) (pgs_cons (pg_name (i := 7) sc__law_priced.nd rfl (Or.inl rfl)) pgs_nil))) 
      (pss_cons (ps_dput (hu_of hr) (pv 4) (pe_tup (pa_cons (pv 6) (pa_cons (pv 7) pa_nil))) (pv 3) rfl) 
      (pss_one (ps_if (pt_cmpR op_gt (pe_callF G__law_take (hr.mono (by decide)) (by rfl) T.g__law_take (pa_cons (pv 0) (pa_cons pe_int pa_nil))) pe_int (nomark _)) 
        (pss_cons (ps_dput (hu_of hr) (pv 4) (pe_tup (pa_cons (pv 6) (pa_cons (pv 7) pa_nil))) (pe_callF G__law_price (hr.mono (by decide)) (by rfl) T.g__law_price (pa_cons (pv 0) pa_nil)) rfl) 
        (pss_one (ps_asg (pe_dget (hu_of hr) (pv 4) (pe_tup (pa_cons (pv 6) (pa_cons (pv 7) pa_nil))) (fun _ _ => rfl)) (pg_sub (pv 5) (pe_tup (pa_cons (pv 6) (pa_cons (pv 7) pa_nil))) (set_own T.m_Prices_setitem T.q_Prices G_Prices_setitem (hr.mono (by decide))))))) pss_nil)))) 
    (pss_one (ps_ret (pe_tup (pa_cons (pv 5) (pa_cons (pv 4) pa_nil)))))))), ?_⟩
    refine ⟨_, rfl, b, rfl, hb, fun us H1 e1 hu1 hu2 => ?_⟩
    refine fun du hdu => ⟨_, _, rfl, ?_⟩
    have hdu0 : H du = none := e1.free hdu
    have y2 : Same H (upd H1 du (.dT [])) := e1.trans (same_upd hdu)
    have hd2 : upd H1 du (.dT []) du = some (.dT []) := upd_same
    generalize upd H1 du (.dT []) = H2 at y2 hd2
    refine ⟨_, rfl, fun x dx hx hdx hne => ⟨x, dx, us, rfl, upd_same, hu1, hu2, fun sp H3 e3 hsp hp => ⟨rfl, ?_⟩⟩⟩
    have y3 := same_made hx hdx e3
    have hsp2 : H2 sp = none := by
      by_cases h1 : sp = x
      · rw [h1]; exact hx
      · by_cases h2 : sp = dx
        · rw [h2]; exact hdx
        · rw [upd_ne h1, upd_ne h2] at hsp; exact hsp
    have hxdu : du ≠ x := fun e => by rw [← e, hd2] at hx; cases hx
    have hspdu : du ≠ sp := fun e => by rw [← e, hd2] at hsp2; cases hsp2
    have hd3 := y3 _ _ hd2
    refine ⟨_, rfl, _, rfl, v, c, D, rfl, dp_same (y2.trans y3) hv, hnd, hrl, fun l xs S H4 e4 hl4 h4 hS Snd Siff Sl => ⟨l, rfl, ⟨_, SqL.of h4⟩, ?_⟩⟩
    have y4 := (y2.trans y3).trans e4
    have hd4 := e4 _ _ hd3
    have p4 := prices_same e4 hp
    obtain ⟨dx4, d4, kvs4, q1, q2, q3⟩ := p4.ex
    have hsp4' : less du H4 sp = some (.dT kvs4) := by rw [less_ne hspdu.symm]; exact q2
    have hBs : Same (less sp (less du H4)) H4 := (less_sub _ _).trans (less_sub _ _)
    have hBsp : less sp (less du H4) sp = none := less_x
    have hBdu : less sp (less du H4) du = none := by rw [less_ne hspdu]; exact less_x
    have hBS : PAll (less sp (less du H4)) xs S := pall_less hsp4' (fun _ z => nomatch z) (pall_less hd4 (fun _ z => nomatch z) hS)
    have hBl : less sp (less du H4) l = some (.lst xs) := less_at hsp4' (less_at hd4 h4 (fun z => nomatch z)) (fun z => nomatch z)
    have hBb : less sp (less du H4) b = some (BagO b) := less_at hsp4' (less_at hd4 (y4 _ _ hb) (fun z => by unfold BagO at z; cases z)) (fun z => by unfold BagO at z; cases z)
    have hyB : Same H (less sp (less du H4)) := same_lessN ((y2.free hsp2)) (same_lessN hdu0 y4)
    generalize less sp (less du H4) = B at hBs hBsp hBdu hBS hBl hBb hyB
    have hxl : xs.length = S.length := hBS.length
    refine for_lst (K := K) (a := l) (xs := xs) (fun i σ Hk => ∃ (v6 v7 : Option V) (pr : Str × Str → Int) (m : Nat), σ = [some (.ref b), some v, some (.str c), some (.int us), some (.ref du), some (.ref x), v6, v7] ∧ Same B Hk ∧ PricesAt K Hk x sp pr m ∧ m ≤ i ∧ GoodP pr ∧ DueAt Hk du pr (· ∈ S.take i) (2 * i) ∧ ∀ p, p ∉ S.take i → pr p = us) ⟨none, none, _, 0, rfl, hBs, p4, Nat.le_refl _, fun _ => ⟨hu1, hu2⟩, ⟨[], hd4, fun p hp => (nomatch hp), Nat.le_refl _⟩, fun p _ => rfl⟩ (fun i σ Hk _ ⟨_, _, _, _, _, e, _⟩ => SqL.of (e _ _ hBl)) ?_ ?_
    · rintro i y σ Hk hi ⟨v6, v7, pr, m, rfl, ek, pk, hm, gp, ⟨kvs, dk, dv, dl⟩, hus⟩
      obtain ⟨p, t, hp', rfl, ht⟩ := pall_get hBS hi
      have hlt := (List.getElem?_eq_some_iff.mp hp').1
      have hpm := List.mem_of_getElem? hp'
      have hside : SideP p := side_of ((Siff p).1 hpm) fun d hd => by
        obtain ⟨r, hr', rfl⟩ := List.mem_map.mp hd
        exact hnm r hr'
      have hpn : p ∉ S.take i := fun hm' => by
        have hnd2 : (S.take (i + 1)).Nodup := List.Sublist.nodup (List.take_sublist _ _) Snd
        rw [take_at hp'] at hnd2
        exact (List.nodup_append.mp hnd2).2.2 _ hm' _ (List.mem_singleton.mpr rfl) rfl
      refine ⟨t, _, rfl, SqT.of (ek _ _ ht), rfl, _, _, rfl, _, _, rfl, rfl, ?_⟩
      refine ⟨_, rfl, _, rfl, _, rfl, _, rfl, (show 2 ≤ sizeLine by decide), fun q hq => ⟨du, _, rfl, DPut.t (k := kP p) (same_upd hq _ _ dk) upd_same (by rw [sizeLine_eq]; omega), ?_⟩⟩
      have k6 := same_upd hq (o := .tup [.str p.1, .str p.2])
      have D6 := due_put (p := p) (ok := (· ∈ S.take i)) (k6 _ _ dk) (fun q' hq' _ => dv q' hq') dl (hus p hpn)
      have P6 : PricesAt K (upd (upd Hk q (.tup [.str p.1, .str p.2])) du (.dT (putK kvs (kP p) (.int us)))) x sp pr m := prices_upd (prices_same k6 pk) hxdu hspdu
      have B6 : Same B (upd (upd Hk q (.tup [.str p.1, .str p.2])) du (.dT (putK kvs (kP p) (.int us)))) := same_mut (ek.trans k6) hBdu
      have hd6 : upd (upd Hk q (.tup [.str p.1, .str p.2])) du (.dT (putK kvs (kP p) (.int us))) du = some (.dT (putK kvs (kP p) (.int us))) := upd_same
      generalize upd (upd Hk q (.tup [.str p.1, .str p.2])) du (.dT (putK kvs (kP p) (.int us))) = H6 at D6 P6 B6 hd6
      have hin : ∀ z, z ∈ S.take (i + 1) → z ∈ S.take i ∨ z = p := fun z hz => by
        rw [take_at hp'] at hz
        exact (List.mem_append.mp hz).imp_right fun h => List.mem_singleton.mp h
      have hout : ∀ z, z ∉ S.take (i + 1) → z ∉ S.take i ∧ z ≠ p := fun z hz => by
        rw [take_at hp'] at hz
        exact ⟨fun h => hz (List.mem_append_left _ h), fun h => hz (List.mem_append_right _ (List.mem_singleton.mpr h))⟩
      refine ⟨_, rfl, b, 3, rfl, B6 _ _ hBb, by decide, by decide, fun r h1 h2 => ⟨_, _, rfl, rfl, _, rfl, ?_⟩⟩
      by_cases hr0 : (0 : Int) < r
      · refine iteB (decide_eq_true hr0) ?_
        refine ⟨_, rfl, b, rfl, B6 _ _ hBb, fun j H7 e7 g1 g2 => ⟨_, rfl, _, rfl, _, rfl, (show 2 ≤ sizeLine by decide), fun q2 hq2 => ⟨du, _, rfl, DPut.t (k := kP p) (same_upd hq2 _ _ (e7 _ _ hd6)) upd_same ?_, ?_⟩⟩⟩
        · obtain ⟨kk, z1, _, z3⟩ := D6
          rw [hd6] at z1
          cases z1
          rw [sizeLine_eq]
          omega
        have k8 := e7.trans (same_upd hq2 (o := .tup [.str p.1, .str p.2]))
        have D8 := due_put (p := p) (pr := setPr pr p j) (ok := (· ∈ S.take i)) (i := j) (m := 2 * i + 1) (k8 _ _ hd6) (fun q' hq' hne' => by
          rw [valV_put, if_neg (fun h => hne' (kP_inj h)), dv q' hq']
          unfold setPr
          rw [if_neg hne']) (by
          obtain ⟨kk, z1, _, z3⟩ := D6
          rw [hd6] at z1
          cases z1
          exact z3) (by unfold setPr; rw [if_pos rfl])
        have P8 : PricesAt K (upd (upd H7 q2 (.tup [.str p.1, .str p.2])) du (.dT (putK (putK kvs (kP p) (.int us)) (kP p) (.int j)))) x sp pr m := prices_upd (prices_same k8 P6) hxdu hspdu
        have B8 : Same B (upd (upd H7 q2 (.tup [.str p.1, .str p.2])) du (.dT (putK (putK kvs (kP p) (.int us)) (kP p) (.int j)))) := same_mut (B6.trans k8) hBdu
        have hd8 : upd (upd H7 q2 (.tup [.str p.1, .str p.2])) du (.dT (putK (putK kvs (kP p) (.int us)) (kP p) (.int j))) du = some (.dT (putK (putK kvs (kP p) (.int us)) (kP p) (.int j))) := upd_same
        generalize upd (upd H7 q2 (.tup [.str p.1, .str p.2])) du (.dT (putK (putK kvs (kP p) (.int us)) (kP p) (.int j))) = H8 at D8 P8 B8 hd8
        refine ⟨_, rfl, _, rfl, _, rfl, (show 2 ≤ sizeLine by decide), fun q3 hq3 => ?_⟩
        have k9 := same_upd hq3 (o := .tup [.str p.1, .str p.2])
        have hg := DGet.t (k := kP p) (k9 _ _ hd8) (b := q3) upd_same
        rw [valV_put, if_pos rfl] at hg
        refine ⟨du, _, rfl, hg, ?_⟩
        refine ⟨_, rfl, _, rfl, _, rfl, (show 2 ≤ sizeLine by decide), fun q4 hq4 => ?_⟩
        have k10 := k9.trans (same_upd hq4 (o := .tup [.str p.1, .str p.2]))
        obtain ⟨dx8, d8, kvs8, w1, _⟩ := P8.ex
        obtain ⟨b', n, hpe, hn⟩ := hside
        have ht4 : upd (upd H8 q3 (.tup [.str p.1, .str p.2])) q4 (.tup [.str p.1, .str p.2]) q4 = some (.tup [.str (sideS b'), .str n]) := by rw [upd_same, hpe]
        refine ⟨x, dx8, _, rfl, k10 _ _ w1, x, sp, q4, pr, m, b', n, j, rfl, prices_same k10 P8, SqT.of ht4, hn, g1, g2, by omega, fun H9 e9 pa9 => ?_⟩
        have hd9 : H9 du = some (.dT (putK (putK kvs (kP p) (.int us)) (kP p) (.int j))) := e9 _ _ (by rw [less_ne hspdu]; exact k10 _ _ hd8)
        rw [← hpe] at pa9
        refine ⟨_, _, setPr pr p j, m + 1, rfl, same_lessM (B8.trans k10) hBsp e9, pa9, by omega, good_set gp g1 g2, due_at D8 (hd9.trans hd8.symm) (fun z hz => ⟨hin z hz, rfl⟩) (by omega), fun z hz => ?_⟩
        obtain ⟨z1, z2⟩ := hout z hz
        unfold setPr
        rw [if_neg z2]
        exact hus z z1
      · exact iteN (decide_eq_false hr0) ⟨_, _, pr, m, rfl, B6, P6, by omega, gp, due_at D6 rfl (fun z hz => ⟨hin z hz, rfl⟩) (by omega), fun z hz => hus z (hout z hz).1⟩
    · rintro σ Hk ⟨v6, v7, pr, m, rfl, ek, pk, hm, gp, dk, hus⟩
      rw [hxl, List.take_length] at dk
      refine ⟨_, rfl, _, rfl, (show 2 ≤ sizeLine by decide), fun t ht => ?_⟩
      have kt : ∀ u, Same Hk (upd Hk t u) := fun u => same_upd ht
      obtain ⟨dxk, dd, kvsk, w1, w2, w3, w4⟩ := (prices_same (kt (.tup [.ref x, .ref du])) pk).ex
      refine k t x sp du pr _ ((hyB.trans ek).trans (kt _)) upd_same (y2.free hx) (y2.free hsp2) hdu0 hspdu.symm ⟨dxk, dd, kvsk, w1, w2, w3, by omega⟩ (due_at (due_same (kt _) dk) rfl (fun z hz => ⟨(Siff z).2 hz, rfl⟩) (by omega)) gp
end
end K59
/-! D22 -/
set_option Elab.async false
set_option linter.all false
set_option maxRecDepth 100000
set_option maxHeartbeats 2000000
namespace K59
open PySem PySem.Spec PyProof.Rows L2 LamX
/-- an entry of the sums -/
def EntAt (H : Hp) (v : V) (e : Int × List Sd) : Prop := ∃ t l zs, v = .ref t ∧ H t = some (.tup [.int e.1, .ref l]) ∧ H l = some (.lst zs) ∧ PAll H zs e.2
theorem ent_same {H H' : Hp} {v : V} {e : Int × List Sd} (s : Same H H') (h : EntAt H v e) : EntAt H' v e := by
  obtain ⟨t, l, zs, e1, e2, e3, e4⟩ := h
  exact ⟨t, l, zs, e1, s _ _ e2, s _ _ e3, pall_same s e4⟩
abbrev Ents (H : Hp) (vs : List V) (L : List (Int × List Sd)) : Prop := Paired (EntAt H) vs L
theorem ents_same {H H' : Hp} {vs : List V} {L : List (Int × List Sd)} (s : Same H H') (h : Ents H vs L) : Ents H' vs L := Paired.mapP h fun _ _ z => ent_same s z
theorem paired_app {α β : Type} {F : α → β → Prop} : ∀ {xs ys : List α} {ps qs : List β}, Paired F xs ps → Paired F ys qs → Paired F (xs ++ ys) (ps ++ qs)
  | _, _, _, _, .nil, h => h
  | _, _, _, _, .cons a t, h => .cons a (paired_app t h)
section
variable {P : Program} {w : World} {K : PySem.W.Frag} {mg : Str → Option Value} {base : Heap}
abbrev s__law_least : Stmt := top 85
abbrev N__law_least : List Str := ["_law_pairs_here", "_law_sides_here", "_law_due", "_law_sums", "_law_best", "_law_side", "_law_price_here", "_law_chosen"]
theorem sc__law_least : FnScope N__law_least ["_law_pairs_here", "_law_sides_here", "_law_due"] (defScope s__law_least) := ⟨rfl, rfl, rfl, by decide +kernel, rfl, by decide +kernel, by decide +kernel⟩
/-- the least price of the subsets of S that tell ps -/
def LeastOf (pr : Sd → Int) (ps S : List Sd) (m : Int) : Prop := (∀ T : List Sd, T.Sublist S → ps.all (tellB T) = true → m ≤ (T.map pr).sum) ∧ (m = (S.map pr).sum ∨ ∃ T : List Sd, T.Sublist S ∧ ps.all (tellB T) = true ∧ m = (T.map pr).sum)
def sp_least (K : PySem.W.Frag) : Sp := fun vs H Q _ => ∃ (lp ls du : Addr) (xs ys : List V) (ps S : List Sd) (pr : Sd → Int) (n : Nat), vs = [.ref lp, .ref ls, .ref du] ∧ H lp = some (.lst xs) ∧ DpAll K H xs (ps.map pairD) ∧ (∀ p ∈ ps, Pok p) ∧ ps.length ≤ 100 ∧ H ls = some (.lst ys) ∧ PAll H ys S ∧ (∀ p ∈ S, Pok p) ∧ S.length ≤ 10 ∧ DueAt H du pr (· ∈ S) n ∧
  ∀ m H', Same H H' → LeastOf pr ps S m → Q (.int m) H'
theorem ok_least (T : Tx2 P K mg) : OkR P w K mg base 3 (He.fAd K ("_law_least", none)) (sp_least K) := by
  have G__law_tells : OkR P w K mg base 2 (He.fAd K ("_law_tells", none)) (sp_tells K) := ok_tells T
  refine mkR T.f__law_least sc__law_least (fun vs H Q E h => ?_) (fun _ _ _ _ _ _ us hl => match us, hl with | [_, _, _], _ => rfl) fun cdv A outer s H vs Q E hr h => ?_
  · obtain ⟨_, _, _, _, _, _, _, _, _, rfl, _⟩ := h
    rfl
  · obtain ⟨lp, ls, du, xs, ys, ps, S, pr, n, rfl, hlp, hps, okp, pl, hls, hS, okS, Sl, ⟨kvs, hdu, hdv, hdl⟩, k⟩ := h
    refine ⟨_, 
    (pss_cons (ps_par (i := 3) (j := 4) (by rfl) sc__law_least.nd rfl rfl (by decide) rfl rfl (pa_cons (pe_lst (pa_cons (pe_tup (pa_cons pe_int (pa_cons (pe_lst pa_nil) pa_nil))) pa_nil)) (pa_cons (pe_callB (sumK K) (by rfl) T.n_sum (by decide +kernel) (pa_cons (pe_lc (own := [("_law_side", 5)]) (by rfl) sc__law_least.nd (pi_listK K (pv 1)) (blkOk_by (own := [("_law_side", 5)]) (N := N__law_least) (sc := (defScope s__law_least)) (by decide +kernel)) (fun _ _ _ _ _ => (pg_name (i := 5) sc__law_least.nd rfl (Or.inl rfl))) (fun _ _ _ _ _ => pts_nil) (fun _ _ _ _ _ => (pe_dget (hu_of hr) (pv 2) (pv 5) (fun _ _ => rfl)))) pa_nil)) pa_nil)) (by rfl)) 
    (pss_cons (ps_for PassesOwn.never rfl (pi_listK K (pv 1)) (pg_name (i := 5) sc__law_least.nd rfl (Or.inr rfl)) 
      (pss_one (ps_set (i := 3) sc__law_least.nd rfl (Or.inl rfl) (pe_op op_cat (pv 3) (pe_lc (own := [("_law_price_here", 6), ("_law_chosen", 7)]) (by rfl) sc__law_least.nd (pi_listK K (pv 3)) (blkOk_by (own := [("_law_price_here", 6), ("_law_chosen", 7)]) (N := N__law_least) (sc := (defScope s__law_least)) (by decide +kernel)) (fun _ _ _ _ _ => (pg_tupK (n := 2) K (by rfl) (pgs_cons (pg_name (i := 6) sc__law_least.nd rfl (Or.inl rfl)) (pgs_cons (pg_name (i := 7) sc__law_least.nd rfl (Or.inl rfl)) pgs_nil)))) (fun _ _ _ _ _ => pts_nil) (fun _ _ _ _ _ => (pe_tup (pa_cons (pe_op op_add (pv 6) (pe_dget (hu_of hr) (pv 2) (pv 5) (fun _ _ => rfl))) (pa_cons (pe_op op_cat (pv 7) (pe_lst (pa_cons (pv 5) pa_nil))) pa_nil))))))))) 
    (pss_cons (ps_for PassesOwn.never rfl (pi_listK K (pv 3)) (pg_tupK (n := 2) K (by rfl) (pgs_cons (pg_name (i := 6) sc__law_least.nd rfl (Or.inl rfl)) (pgs_cons (pg_name (i := 7) sc__law_least.nd rfl (Or.inl rfl)) pgs_nil))) 
      (pss_one (ps_if (PW.pt (pw_and (pt_cmpR op_lt (pv 6) (pv 4) (nomark _)) (pw_and1 (pt_val (pe_callF G__law_tells (hr.mono (by decide)) (by rfl) T.g__law_tells (pa_cons (pv 0) (pa_cons (pv 7) pa_nil))) (by intro _; rfl))))) 
        (pss_one (ps_set (i := 4) sc__law_least.nd rfl (Or.inl rfl) (pv 6))) pss_nil))) 
    (pss_one (ps_ret (pv 4)))))), ?_⟩
    have hyl : ys.length = S.length := hS.length
    refine ⟨Nat.zero_le _, fun l0 hl0 => ⟨(show 2 ≤ sizeLine by decide), fun t0 ht0 => ⟨(show 1 ≤ sizeLine by decide), fun A0 hA0 => ?_⟩⟩⟩
    have k0 := same_upd hl0 (o := .lst [])
    have k1 := same_upd ht0 (o := .tup [.int 0, .ref l0])
    have k2 := same_upd hA0 (o := .lst [.ref t0])
    have y0 := (k0.trans k1).trans k2
    have E0' : Ents (upd (upd (upd H l0 (.lst [])) t0 (.tup [.int 0, .ref l0])) A0 (.lst [.ref t0])) [.ref t0] (subsL pr []) := .cons ⟨t0, l0, [], rfl, k2 _ _ upd_same, (k1.trans k2) _ _ upd_same, .nil⟩ .nil
    have hA : upd (upd (upd H l0 (.lst [])) t0 (.tup [.int 0, .ref l0])) A0 (.lst [.ref t0]) A0 = some (.lst [.ref t0]) := upd_same
    generalize upd (upd (upd H l0 (.lst [])) t0 (.tup [.int 0, .ref l0])) A0 (.lst [.ref t0]) = H0 at y0 E0' hA
    refine ⟨_, rfl, ls, rfl, ⟨_, SqL.of (y0 _ _ hls)⟩, fun D hD => ?_⟩
    refine lc_list (K := K) (a := ls) (xs := ys) (Gr H0 D fun i acc _ => acc = ((S.map pr).take i).map V.int) (gr_start hD rfl) (fun i H5 _ G => SqL.of ((y0.trans G.ext) _ _ hls)) ?_ ?_
    · rintro i y H5 hi G
      obtain ⟨p, t, hp', rfl, ht⟩ := pall_get hS hi
      have hlt := (List.getElem?_eq_some_iff.mp hp').1
      have y5 := y0.trans G.ext
      have hg := DGet.t (k := kP p) (y5 _ _ hdu) (pt_key (y5 _ _ ht))
      rw [hdv p (List.mem_of_getElem? hp')] at hg
      refine ⟨rfl, _, rfl, _, rfl, du, _, rfl, hg, ?_⟩
      refine gr_add G (Same.refl _) (by omega) (fun _ _ _ _ _ h => h) fun acc h => ?_
      have hq' : (S.map pr)[i]? = some (pr p) := by rw [List.getElem?_map, hp']; rfl
      rw [take_at hq', List.map_append, ← h]
      rfl
    rintro H5 ⟨hD5, e5, acc, hacc, _, hd5⟩
    have hfull : (S.map pr).take ys.length = S.map pr := List.take_of_length_le (by rw [List.length_map, hyl]; exact Nat.le_refl _)
    rw [hfull] at hd5
    rw [hd5] at hacc
    have y5 := y0.trans e5
    refine ⟨D, _, rfl, SqL.of hacc, _, _, rfl, ?_⟩
    have hA5 := e5 _ _ hA
    have E5 := ents_same e5 E0'
    refine ⟨_, rfl, ls, rfl, ⟨_, SqL.of (y5 _ _ hls)⟩, for_lst (K := K) (a := ls) (xs := ys) (fun i σ Hk => ∃ (v5 : Option V) (A : Addr) (vs : List V), σ = [some (.ref lp), some (.ref ls), some (.ref du), some (.ref A), some (.int (S.map pr).sum), v5, none, none] ∧ Same H Hk ∧ Hk A = some (.lst vs) ∧ Ents Hk vs (subsL pr (S.take i))) ⟨none, A0, _, rfl, y5, hA5, E5⟩ (fun i σ Hk _ ⟨_, _, _, _, e, _⟩ => SqL.of (e _ _ hls)) ?_ ?_⟩
    · rintro i y σ Hk hi ⟨v5, A, vs, rfl, ek, hAk, Ek⟩
      obtain ⟨p, t, hp', rfl, ht⟩ := pall_get hS hi
      have hlt := (List.getElem?_eq_some_iff.mp hp').1
      have hLl : (subsL pr (S.take i)).length ≤ 1024 := by
        rw [subsL_len, List.length_take]
        calc 2 ^ min i S.length ≤ 2 ^ 10 := Nat.pow_le_pow_right (by decide) (by omega)
          _ = 1024 := by decide
      have hvl : vs.length = (subsL pr (S.take i)).length := Ek.length
      have hsub := subsL_mem (pr := pr) (S := S.take i)
      have hL1 : subsL pr (S.take (i + 1)) = stepL pr (subsL pr (S.take i)) p := by rw [take_at hp', subsL_snoc]
      generalize subsL pr (S.take i) = L at Ek hLl hvl hsub hL1
      refine ⟨_, rfl, _, rfl, A, rfl, ⟨_, SqL.of hAk⟩, fun D2 hD2 => ?_⟩
      refine lc_list (K := K) (a := A) (xs := vs) (Gr Hk D2 fun j acc h => Ents h acc ((L.take j).map fun e => (e.1 + pr p, e.2 ++ [p]))) (gr_start hD2 .nil) (fun j H7 _ G => SqL.of (G.ext _ _ hAk)) ?_ ?_
      · rintro j z H7 hj G
        obtain ⟨e, he, hE⟩ := paired_get Ek hj
        have hjl := (List.getElem?_eq_some_iff.mp he).1
        obtain ⟨t', l', zs, rfl, hE1, hE2, hE3⟩ := ent_same G.ext hE
        obtain ⟨hsl, _⟩ := hsub e (List.mem_of_getElem? he)
        have hzl : zs.length ≤ 10 := by
          rw [hE3.length]
          have h1 := hsl.length_le
          rw [List.length_take] at h1
          omega
        have y7 := ek.trans G.ext
        have hg := DGet.t (k := kP p) (y7 _ _ hdu) (pt_key (y7 _ _ ht))
        rw [hdv p (List.mem_of_getElem? hp')] at hg
        refine ⟨t', _, rfl, SqT.of hE1, rfl, _, _, rfl, _, _, rfl, rfl, rfl, _, rfl, _, rfl, _, rfl, du, _, rfl, hg, _, _, rfl, rfl, _, rfl, _, rfl, (show 1 ≤ sizeLine by decide), fun b hb => ?_⟩
        have kb := same_upd hb (o := .lst [.ref t])
        refine ⟨l', b, zs, _, rfl, rfl, kb _ _ hE2, upd_same, by show zs.length + 1 ≤ _; rw [sizeLine_eq]; omega, fun q hq => ⟨(show 2 ≤ sizeLine by decide), fun t2 ht2 => ?_⟩⟩
        have kq := same_upd hq (o := .lst (zs ++ [.ref t]))
        have kt := same_upd ht2 (o := .tup [.int (e.1 + pr p), .ref q])
        have kall := (kb.trans kq).trans kt
        obtain ⟨_, hacc0, _⟩ := G.lst
        refine gr_add G kall (by omega) (fun _ _ _ _ e h => ents_same e h) fun acc h => ?_
        rw [take_at he, List.map_append]
        refine Paired.snoc h ⟨t2, q, zs ++ [.ref t], rfl, ?_, ?_, ?_⟩
        · rw [less_ne (ne_of_none ((kb.trans kq) _ _ hacc0) ht2).symm]
          exact upd_same
        · rw [less_ne (ne_of_none (kb _ _ hacc0) hq).symm]
          exact kt _ _ upd_same
        · refine pall_less (kall _ _ hacc0) (fun _ z => nomatch z) (pall_snoc (pall_same kall hE3) ⟨t, rfl, kall _ _ (y7 _ _ ht)⟩)
      rintro H7 ⟨hD7, e7, acc7, hacc7, _, hd7⟩
      rw [hvl, List.take_length] at hd7
      have hal : acc7.length = L.length := by
        have := hd7.length
        rw [List.length_map] at this
        exact this
      refine ⟨A, D2, vs, acc7, rfl, rfl, e7 _ _ hAk, hacc7, by rw [hvl, hal, sizeLine_eq]; omega, fun A2 hA2 => ?_⟩
      have k9 := same_upd hA2 (o := .lst (vs ++ acc7))
      refine ⟨_, A2, vs ++ acc7, rfl, (ek.trans e7).trans k9, upd_same, ?_⟩
      rw [hL1]
      exact paired_app (ents_same (e7.trans k9) Ek) (ents_same ((less_sub _ _).trans k9) hd7)
    rintro σ Hk ⟨v5, A, vs, rfl, ek, hAk, Ek⟩
    rw [hyl, List.take_length] at Ek
    have hsub := subsL_mem (pr := pr) (S := S)
    have hall := fun (T : List Sd) (h : T.Sublist S) => subsL_all (pr := pr) h
    generalize subsL pr S = L at Ek hsub hall
    have hvl : vs.length = L.length := Ek.length
    refine ⟨_, rfl, A, rfl, ⟨_, SqL.of hAk⟩, for_lst (K := K) (a := A) (xs := vs) (fun i σ Hm => ∃ (best : Int) (v6 v7 : Option V), σ = [some (.ref lp), some (.ref ls), some (.ref du), some (.ref A), some (.int best), v5, v6, v7] ∧ Same Hk Hm ∧ (∀ e ∈ L.take i, ps.all (tellB e.2) = true → best ≤ e.1) ∧ (best = (S.map pr).sum ∨ ∃ e ∈ L, ps.all (tellB e.2) = true ∧ best = e.1)) ⟨_, none, none, rfl, Same.refl _, fun e he => (nomatch he), .inl rfl⟩ (fun i σ Hm _ ⟨_, _, _, _, e, _⟩ => SqL.of (e _ _ hAk)) ?_ ?_⟩
    · rintro i y σ Hm hi ⟨best, v6, v7, rfl, em, hb1, hb2⟩
      obtain ⟨e, he, hE⟩ := paired_get Ek hi
      obtain ⟨t', l', zs, rfl, hE1, hE2, hE3⟩ := ent_same em hE
      have hem := List.mem_of_getElem? he
      obtain ⟨hsl, _⟩ := hsub e hem
      have ym := ek.trans em
      have old : ∀ best' : Int, best' ≤ best → (ps.all (tellB e.2) = true → best' ≤ e.1) → ∀ e' ∈ L.take (i + 1), ps.all (tellB e'.2) = true → best' ≤ e'.1 := fun best' h1 h2 e' he' ht' => by
        rw [take_at he] at he'
        rcases List.mem_append.mp he' with h | h
        · exact Int.le_trans h1 (hb1 e' h ht')
        · rw [List.mem_singleton.mp h] at ht' ⊢
          exact h2 ht'
      refine ⟨t', _, rfl, SqT.of hE1, rfl, _, _, rfl, _, _, rfl, rfl, ?_⟩
      refine ⟨_, rfl, _, rfl, _, _, rfl, rfl, _, rfl, ?_⟩
      by_cases hlt : e.1 < best
      · refine iteB (decide_eq_true hlt) ⟨_, rfl, _, rfl, lp, l', xs, zs, ps, e.2, rfl, SqL.of (ym _ _ hlp), dpa_same ym hps, okp, pl, .inl (SqL.of hE2), pall_dpa hE3, fun p hp => okS p (hsl.subset hp), fun H' e' => ⟨_, rfl, ?_⟩⟩
        by_cases htl : ps.all (tellB e.2) = true
        · exact iteB htl ⟨_, rfl, e.1, _, _, rfl, em.trans e', old e.1 (by omega) (fun _ => Int.le_refl _), .inr ⟨e, hem, htl, rfl⟩⟩
        · exact iteN (by simpa using htl) ⟨best, _, _, rfl, em.trans e', old best (Int.le_refl _) (fun h => absurd h htl), hb2⟩
      · exact iteN (decide_eq_false hlt) ⟨best, _, _, rfl, em, old best (Int.le_refl _) (fun _ => by omega), hb2⟩
    · rintro σ Hm ⟨best, v6, v7, rfl, em, hb1, hb2⟩
      rw [hvl, List.take_length] at hb1
      refine ⟨_, rfl, k best Hm (ek.trans em) ⟨fun T hT ht => hb1 _ (hall T hT) ht, hb2.imp_right fun ⟨e, he, ht, hbe⟩ => ⟨e.2, (hsub e he).1, ht, hbe.trans (hsub e he).2⟩⟩⟩
end
end K59
/-! K59J -/
set_option Elab.async false
set_option linter.all false
set_option maxRecDepth 100000
/-! the plain law, part 7: the cover at the flow's end -/
namespace K59
open PySem
theorem tell_iff {T : List Sd} {p : Sd} : tellB T p = true ↔ (sdN p.1 ∈ T ∨ sdO p.2 ∈ T) := by
  unfold tellB
  rw [Bool.or_eq_true, decide_eq_true_iff, decide_eq_true_iff]
  rfl
theorem all_iff {T ps : List Sd} : ps.all (tellB T) = true ↔ ∀ p ∈ ps, sdN p.1 ∈ T ∨ sdO p.2 ∈ T := by
  rw [List.all_eq_true]
  exact ⟨fun h p hp => tell_iff.1 (h p hp), fun h p hp => tell_iff.2 (h p hp)⟩
theorem inc_nonneg {z q : Sd} : 0 ≤ inc z q := by
  unfold inc
  split <;> split <;> decide
theorem sumOn_nonneg {ps : List Sd} {g : Sd → Int} (h : ∀ p ∈ ps, 0 ≤ g p) : 0 ≤ sumOn ps g := by
  have := sumOn_le (ps := ps) (g := fun _ => 0) (h := g) h
  rw [sumOn_zero fun _ _ => rfl] at this
  exact this
theorem sumOn_ge {ps : List Sd} {g : Sd → Int} {q : Sd} (h : ∀ p ∈ ps, 0 ≤ g p) (hq : q ∈ ps) : g q ≤ sumOn ps g := by
  induction ps with
  | nil => cases hq
  | cons a r ih =>
    rw [sumOn_cons]
    have h0 := h a List.mem_cons_self
    have hr := sumOn_nonneg fun p hp => h p (List.mem_cons_of_mem _ hp)
    rcases List.mem_cons.mp hq with rfl | h'
    · omega
    · have := ih (fun p hp => h p (List.mem_cons_of_mem _ hp)) h'
      omega
/-- no cover is cheaper than the flow -/
theorem weak {pr : Sd → Int} {ps R : List Sd} {f r : Sd → Int} (F : FInv pr ps R f r) (Ri : ∀ e, e ∈ R ↔ IsEnd ps e) (hp0 : ∀ e, 1 ≤ pr e) {T : List Sd} (hT : ∀ p ∈ ps, sdN p.1 ∈ T ∨ sdO p.2 ∈ T) : sumOn ps f ≤ sumOn T pr := by
  have h1 : ∀ e ∈ T, sumOn ps (fun p => f p * inc e p) ≤ pr e := fun e _ => by
    by_cases he : e ∈ R
    · have := F.bal e he
      have := F.r0 e he
      omega
    · rw [sumOn_zero fun p hp => ?_]
      · have := hp0 e
        omega
      · have a : e ≠ sdN p.1 := fun z => he ((Ri e).2 ⟨p, hp, .inl z⟩)
        have b : e ≠ sdO p.2 := fun z => he ((Ri e).2 ⟨p, hp, .inr z⟩)
        unfold inc
        rw [if_neg a, if_neg b]
        simp
  have h2 := sumOn_le h1
  rw [sumOn_swap] at h2
  refine Int.le_trans (sumOn_le fun p hp => ?_) h2
  rw [show (fun a => f p * inc a p) = fun a => f p * (fun a => inc a p) a from rfl, sumOn_mul]
  have hf := F.f0 p hp
  have h3 : 1 ≤ sumOn T fun a => inc a p := by
    rcases hT p hp with h | h
    · refine Int.le_trans ?_ (sumOn_ge (fun _ _ => inc_nonneg) h)
      show 1 ≤ inc (sdN p.1) p
      unfold inc
      rw [if_pos rfl]
      split <;> decide
    · refine Int.le_trans ?_ (sumOn_ge (fun _ _ => inc_nonneg) h)
      show 1 ≤ inc (sdO p.2) p
      unfold inc
      rw [if_pos (rfl : sdO p.2 = sdO p.2)]
      split <;> decide
  calc f p = f p * 1 := (Int.mul_one _).symm
    _ ≤ f p * _ := Int.mul_le_mul_of_nonneg_left h3 hf
theorem ind_sum {C : List Sd} (hn : C.Nodup) (z : Sd) : sumOn C (fun e => ind e z) = if z ∈ C then 1 else 0 := by
  by_cases h : z ∈ C
  · rw [if_pos h]
    have := sumOn_one (c := fun _ => 1) hn h
    refine Eq.trans (sumOn_congr fun e _ => ?_) this
    unfold ind
    by_cases q : e = z
    · rw [if_pos q, if_pos q.symm]
    · rw [if_neg q, if_neg fun z => q z.symm]
  · rw [if_neg h]
    refine sumOn_zero fun e he => ?_
    unfold ind
    rw [if_neg fun q => h (by rw [← q]; exact he)]
def coverOf (R : List Sd) (keys : List Sd) : List Sd := R.filter fun e => decide (e.1 = "old") == decide (e ∈ keys)
/-- the sides at the end are a cover as cheap as the flow -/
theorem end_cover {pr : Sd → Int} {ps R : List Sd} {f r : Sd → Int} {wl : WL} (F : FInv pr ps R f r) (Rn : R.Nodup) (Ri : ∀ e, e ∈ R ↔ IsEnd ps e) (TI : TInv ps R f r wl wl.length 0) (hfree : ∀ y, sdO y ∈ wl.map (·.1) → r (sdO y) ≤ 0) :
    (∀ p ∈ ps, sdN p.1 ∈ coverOf R (wl.map (·.1)) ∨ sdO p.2 ∈ coverOf R (wl.map (·.1))) ∧ sumOn (coverOf R (wl.map (·.1))) pr = sumOn ps f := by
  have cl := fun {e p : Sd} (he : e ∈ wl.map (·.1)) (hp : p ∈ ps) (hw : Way f p e) => tinv_closed TI (Nat.le_refl _) he hp hw
  have hN : ∀ x, sdN x ∈ coverOf R (wl.map (·.1)) ↔ (sdN x ∈ R ∧ sdN x ∉ wl.map (·.1)) := fun x => by
    unfold coverOf
    rw [List.mem_filter]
    refine and_congr_right fun _ => ?_
    rw [show decide ((sdN x).1 = "old") = false from decide_eq_false (show ¬ (("new" : Str) = "old") by decide)]
    by_cases h : sdN x ∈ wl.map (·.1)
    · rw [decide_eq_true h]
      exact ⟨fun z => absurd z (by decide), fun z => absurd h z⟩
    · rw [decide_eq_false h]
      exact ⟨fun _ => h, fun _ => rfl⟩
  have hO : ∀ y, sdO y ∈ coverOf R (wl.map (·.1)) ↔ (sdO y ∈ R ∧ sdO y ∈ wl.map (·.1)) := fun y => by
    unfold coverOf
    rw [List.mem_filter]
    refine and_congr_right fun _ => ?_
    rw [show decide ((sdO y).1 = "old") = true from decide_eq_true rfl]
    by_cases h : sdO y ∈ wl.map (·.1)
    · rw [decide_eq_true h]
      exact ⟨fun _ => h, fun _ => rfl⟩
    · rw [decide_eq_false h]
      exact ⟨fun z => absurd z (by decide), fun z => absurd z h⟩
  have hcov : ∀ p ∈ ps, sdN p.1 ∈ coverOf R (wl.map (·.1)) ∨ sdO p.2 ∈ coverOf R (wl.map (·.1)) := fun p hp => by
    by_cases h : sdN p.1 ∈ wl.map (·.1)
    · refine .inr ((hO _).2 ⟨(Ri _).2 ⟨p, hp, .inr rfl⟩, ?_⟩)
      have := cl h hp (.inl rfl)
      rw [dest_new] at this
      exact this
    · exact .inl ((hN _).2 ⟨(Ri _).2 ⟨p, hp, .inl rfl⟩, h⟩)
  refine ⟨hcov, ?_⟩
  have hCn : (coverOf R (wl.map (·.1))).Nodup := List.Sublist.nodup List.filter_sublist Rn
  have hr0 : ∀ e ∈ coverOf R (wl.map (·.1)), r e = 0 := fun e he => by
    have heR : e ∈ R := (List.mem_filter.mp he).1
    have h0 := F.r0 e heR
    obtain ⟨p, hp, h2⟩ := (Ri e).1 heR
    rcases h2 with rfl | rfl
    · obtain ⟨_, h3⟩ := (hN _).1 he
      rcases Int.lt_or_le 0 (r (sdN p.1)) with z | z
      · exact absurd (TI.all _ heR z) h3
      · omega
    · obtain ⟨_, h3⟩ := (hO _).1 he
      have := hfree _ h3
      omega
  have e1 : sumOn (coverOf R (wl.map (·.1))) pr = sumOn (coverOf R (wl.map (·.1))) fun e => sumOn ps fun p => f p * inc e p := sumOn_congr fun e he => by
    have := F.bal e (List.mem_filter.mp he).1
    have := hr0 e he
    omega
  rw [e1, sumOn_swap]
  refine sumOn_congr fun p hp => ?_
  rw [show (fun a => f p * inc a p) = fun a => f p * (fun a => inc a p) a from rfl, sumOn_mul]
  have e2 : (sumOn (coverOf R (wl.map (·.1))) fun a => inc a p) = (if sdN p.1 ∈ coverOf R (wl.map (·.1)) then 1 else 0) + (if sdO p.2 ∈ coverOf R (wl.map (·.1)) then 1 else 0) := by
    rw [← ind_sum hCn, ← ind_sum hCn, ← sumOn_add]
    rfl
  rw [e2]
  rcases Int.lt_or_le 0 (f p) with z | z
  · by_cases h : sdN p.1 ∈ coverOf R (wl.map (·.1))
    · have h2 : ¬ sdO p.2 ∈ coverOf R (wl.map (·.1)) := fun q => by
        obtain ⟨_, h3⟩ := (hN _).1 h
        obtain ⟨_, h4⟩ := (hO _).1 q
        have := cl h4 hp (.inr ⟨rfl, z⟩)
        rw [dest_old] at this
        exact h3 this
      rw [if_pos h, if_neg h2]
      omega
    · have h2 := (hcov p hp).resolve_left h
      rw [if_neg h, if_pos h2]
      omega
  · have : f p = 0 := by have := F.f0 p hp; omega
    rw [this]
    omega
end K59
/-! D25 -/
set_option Elab.async false
set_option linter.all false
set_option maxRecDepth 100000
set_option maxHeartbeats 2000000
namespace K59
open PySem PySem.Spec PyProof.Rows L2 LamX
/-- a step of a way: the pair and the sign -/
def StepV (H : Hp) (v : V) (q : Sd × Int) : Prop := ∃ t p, v = .ref t ∧ H t = some (.tup [p, .int q.2]) ∧ PT H p q.1
theorem stepV_same {H H' : Hp} {v : V} {q : Sd × Int} (e : Same H H') (h : StepV H v q) : StepV H' v q := by
  obtain ⟨t, p, h1, h2, h3⟩ := h
  exact ⟨t, p, h1, e _ _ h2, pt_same e h3⟩
abbrev WAll (H : Hp) (ws : List V) (w : List (Sd × Int)) : Prop := Paired (StepV H) ws w
section
variable {P : Program} {w : World} {K : PySem.W.Frag} {mg : Str → Option Value} {base : Heap}
abbrev s_Flow_grow : Stmt := inClass (top 50) 2
abbrev N_Flow_grow : List Str := ["self", "found", "last", "way", "end", "pair", "new", "old", "more", "sign"]
theorem sc_Flow_grow : FnScope N_Flow_grow ["self", "found", "last"] (defScope s_Flow_grow) := ⟨rfl, rfl, rfl, by decide +kernel, rfl, by decide +kernel, by decide +kernel⟩
def sp_Flow_grow (K : PySem.W.Frag) : Sp := fun vs H Q _ => ∃ (x ds dr lp F t : Addr) (xs : List V) (ps : List Sd) (f pr : Sd → Int) (R : List Sd) (r : Sd → Int) (fkv : List (List Key × V)) (wl : WL) (y : Str), vs = [.ref x, .ref F, .ref t] ∧ FlowAt K H x ds dr lp xs ps f R r ∧ ps.length ≤ 64 ∧ ps.Nodup ∧ R.Nodup ∧ (∀ e, e ∈ R ↔ IsEnd ps e) ∧
  H F = some (.dT fkv) ∧ FKv H fkv wl ∧ TInv ps R f r wl wl.length 0 ∧ FInv pr ps R f r ∧ H t = some (.tup [.str (sdO y).1, .str (sdO y).2]) ∧ sdO y ∈ wl.map (·.1) ∧ 0 < r (sdO y) ∧
  ∀ (f' r' : Sd → Int) (H' : Hp), Same (less dr (less ds H)) H' → FlowAt K H' x ds dr lp xs ps f' R r' → FInv pr ps R f' r' → sumOn R r' < sumOn R r → Q .non H'
theorem ok_Flow_grow (T : Tx2 P K mg) : OkR P w K mg base 2 (He.fAd K ("Flow", some "grow")) (sp_Flow_grow K) := by
  have G_ends_of : OkR P w K mg base 1 (He.fAd K ("ends_of", none)) (sp_ends K) := ok_ends T.toTx0
  refine mkR T.f_Flow_grow sc_Flow_grow (fun vs H Q E h => ?_) (fun _ _ _ _ _ _ us hl => match us, hl with | [_, _, _], _ => rfl) fun cdv A outer s H vs Q E hr h => ?_
  · obtain ⟨_, _, _, _, _, _, _, _, _, _, _, _, _, _, _, rfl, _⟩ := h
    rfl
  · obtain ⟨x, ds, dr, lp, F, t, xs, ps, f, pr, R, r, fkv, wl, y, rfl, hF, pl, pn, Rn, Ri, hFF, kF, TI, FI, ht, hy, hry, k⟩ := h
    refine ⟨_, 
    (pss_cons (ps_set (i := 3) sc_Flow_grow.nd rfl (Or.inl rfl) (pe_lst pa_nil)) 
    (pss_cons (ps_set (i := 4) sc_Flow_grow.nd rfl (Or.inl rfl) (pv 2)) 
    (pss_cons (ps_while PassesOwn.never (pt_cmpR op_notN (pe_dget (hu_of hr) (pv 1) (pv 4) (fun _ _ => rfl)) pe_non (nomark _)) 
      (pss_cons (ps_set (i := 5) sc_Flow_grow.nd rfl (Or.inl rfl) (pe_dget (hu_of hr) (pv 1) (pv 4) (fun _ _ => rfl))) 
      (pss_cons (ps_expr (pe_bm PySem.F.plainAttrs_list PySem.F.slot_list_append PySem.F.type_list_append mt_append (pv 3) (pa_cons (pe_tup (pa_cons (pv 5) (pa_cons (pe_ifExp (pt_cmpR op_eq (pe_ix (ix_tupK K) (pv 4) pe_int (fun _ _ => rfl)) pe_str (nomark _)) pe_int (pe_un un_neg pe_int)) pa_nil))) pa_nil))) 
      (pss_cons (ps_asg (pe_callF G_ends_of (hr.mono (by decide)) (by rfl) T.g_ends_of (pa_cons (pv 5) pa_nil)) (pg_tupK (n := 2) K (by rfl) (pgs_cons (pg_name (i := 6) sc_Flow_grow.nd rfl (Or.inl rfl)) (pgs_cons (pg_name (i := 7) sc_Flow_grow.nd rfl (Or.inl rfl)) pgs_nil)))) 
      (pss_one (ps_set (i := 4) sc_Flow_grow.nd rfl (Or.inl rfl) (pe_ifExp (pt_cmpR op_eq (pe_ix (ix_tupK K) (pv 4) pe_int (fun _ _ => rfl)) pe_str (nomark _)) (pv 6) (pv 7)))))))) 
    (pss_cons (ps_set (i := 8) sc_Flow_grow.nd rfl (Or.inl rfl) (pe_callB (minK K) (by rfl) T.n_min (by decide +kernel) (pa_cons (pe_lst (pa_cons (pe_dget (hu_of hr) (pe_fldK K (pv 0)) (pv 2) (fun _ _ => rfl)) (pa_cons (pe_dget (hu_of hr) (pe_fldK K (pv 0)) (pv 4) (fun _ _ => rfl)) (pa_starK K (pe_lc (own := [("pair", 5), ("sign", 9)]) (by rfl) sc_Flow_grow.nd (pi_listK K (pv 3)) (blkOk_by (own := [("pair", 5), ("sign", 9)]) (N := N_Flow_grow) (sc := (defScope s_Flow_grow)) (by decide +kernel)) (fun _ _ _ _ _ => (pg_tupK (n := 2) K (by rfl) (pgs_cons (pg_name (i := 5) sc_Flow_grow.nd rfl (Or.inl rfl)) (pgs_cons (pg_name (i := 9) sc_Flow_grow.nd rfl (Or.inl rfl)) pgs_nil)))) (fun _ _ _ _ _ => pts_one (pt_cmpR op_lt (pv 9) pe_int (nomark _))) (fun _ _ _ _ _ => (pe_dget (hu_of hr) (pe_fldK K (pv 0)) (pv 5) (fun _ _ => rfl)))) pa_nil)))) pa_nil))) 
    (pss_cons (ps_for PassesOwn.never rfl (pi_listK K (pv 3)) (pg_tupK (n := 2) K (by rfl) (pgs_cons (pg_name (i := 5) sc_Flow_grow.nd rfl (Or.inl rfl)) (pgs_cons (pg_name (i := 9) sc_Flow_grow.nd rfl (Or.inl rfl)) pgs_nil))) 
      (pss_one (ps_daug (hu_of hr) (pe_fldK K (pv 0)) (pv 5) (pe_op op_mul (pv 9) (pv 8)) in_add (fun _ _ _ => rfl)))) 
    (pss_cons (ps_daug (hu_of hr) (pe_fldK K (pv 0)) (pv 2) (pv 8) in_sub (fun _ _ _ => rfl)) 
    (pss_one (ps_daug (hu_of hr) (pe_fldK K (pv 0)) (pv 4) (pv 8) in_sub (fun _ _ _ => rfl))))))))), ?_⟩
    have cF := T.c_Flow
    refine ⟨(show 0 ≤ sizeLine by decide), fun L hL => ?_⟩
    have yL := same_upd hL (o := .lst [])
    have h0L : upd H L (.lst []) L = some (.lst []) := upd_same
    generalize upd H L (.lst []) = H0 at yL h0L
    obtain ⟨⟨e0, o0⟩, he0, hez⟩ := List.mem_map.mp hy
    simp only at hez
    subst hez
    obtain ⟨k0, hk0⟩ := List.mem_iff_getElem?.mp he0
    have htl := tinv_len TI
    refine ⟨_, rfl, ⟨fun m σ H1 => ∃ (ws : List V) (w : List (Sd × Int)) (te : Addr) (e : Sd) (o : Option Sd) (v5 v6 v7 v8 v9 : Option V), σ = [some (.ref x), some (.ref F), some (.ref t), some (.ref L), some (.ref te), v5, v6, v7, v8, v9] ∧ Same H H1 ∧ H1 L = some (.lst ws) ∧ WAll H1 ws w ∧ H1 te = some (.tup [.str e.1, .str e.2]) ∧ wl[m]? = some (e, o) ∧ Seg f wl (sdO y) w e ∧ NegOk wl w m ∧ (∀ q ∈ w, q.1 ∈ ps ∧ (q.2 = 1 ∨ (q.2 = -1 ∧ 0 < f q.1))) ∧ w.length + m ≤ wl.length, ⟨k0, [], [], t, sdO y, o0, none, none, none, none, none, rfl, yL, h0L, .nil, yL _ _ ht, hk0, .nil, negOk_nil, (fun _ z => nomatch z), ?_⟩, ?_⟩⟩
    · have := (List.getElem?_eq_some_iff.mp hk0).1
      show 0 + k0 ≤ wl.length
      omega
    rintro m σ H1 ⟨ws, w, te, e, o, v5, v6, v7, v8, v9, rfl, e1, hL1, W1, hte, hm, S1, N1, hw1, hlen⟩
    have F1 := flow_same e1 hF
    have k1 := fkv_same e1 kF
    obtain ⟨v, hv, pv'⟩ := fkv_some k1 TI.nd (List.mem_of_getElem? hm)
    have hg := DGet.t (k := kP e) (e1 _ _ hFF) (pt_key hte)
    rw [hv] at hg
    have hml := (List.getElem?_eq_some_iff.mp hm).1
    refine ⟨_, rfl, _, rfl, F, _, rfl, hg, rfl, _, rfl, ?_⟩
    cases o with
    | some p =>
      obtain ⟨tp, rfl, htp⟩ := pv'
      obtain ⟨hps, m', hm'lt, e', o', hm', hway, rfl⟩ := TI.tree m e p hm
      refine iteB rfl ⟨fun σ' H' => ∃ m2, m2 < m ∧ ∃ (ws : List V) (w : List (Sd × Int)) (te : Addr) (e : Sd) (o : Option Sd) (v5 v6 v7 v8 v9 : Option V), σ' = [some (.ref x), some (.ref F), some (.ref t), some (.ref L), some (.ref te), v5, v6, v7, v8, v9] ∧ Same H H' ∧ H' L = some (.lst ws) ∧ WAll H' ws w ∧ H' te = some (.tup [.str e.1, .str e.2]) ∧ wl[m2]? = some (e, o) ∧ Seg f wl (sdO y) w e ∧ NegOk wl w m2 ∧ (∀ q ∈ w, q.1 ∈ ps ∧ (q.2 = 1 ∨ (q.2 = -1 ∧ 0 < f q.1))) ∧ w.length + m2 ≤ wl.length, fun σ' H' q => q, ?_⟩
      have hpt := e1 _ _ hFF
      have hps1 := (List.getElem?_eq_some_iff.mp hm').1
      refine ⟨_, rfl, _, rfl, F, _, rfl, hg, ?_⟩
      have fin : ∀ (sg : Int) (tn : Addr) (H3 : Hp) (ta : Addr) (u5 u6 u7 : Option V), (sg = 1 ∧ e' = sdN p.1 ∧ Dest p e' = sdO p.2 ∨ sg = -1 ∧ e' = sdO p.2 ∧ Dest p e' = sdN p.1 ∧ 0 < f p) → Same H H3 → H3 L = some (.lst (ws ++ [.ref ta])) → WAll H3 ws w → H3 ta = some (.tup [.ref tp, .int sg]) → PT H3 (.ref tp) p → H3 tn = some (.tup [.str e'.1, .str e'.2]) →
          ∃ m2, m2 < m ∧ ∃ (ws : List V) (w : List (Sd × Int)) (te : Addr) (e : Sd) (o : Option Sd) (b5 b6 b7 b8 b9 : Option V), [some (.ref x), some (.ref F), some (.ref t), some (.ref L), some (.ref tn), u5, u6, u7, v8, v9] = [some (V.ref x), some (.ref F), some (.ref t), some (.ref L), some (.ref te), b5, b6, b7, b8, b9] ∧ Same H H3 ∧ H3 L = some (.lst ws) ∧ WAll H3 ws w ∧ H3 te = some (.tup [.str e.1, .str e.2]) ∧ wl[m2]? = some (e, o) ∧ Seg f wl (sdO y) w e ∧ NegOk wl w m2 ∧ (∀ q ∈ w, q.1 ∈ ps ∧ (q.2 = 1 ∨ (q.2 = -1 ∧ 0 < f q.1))) ∧ w.length + m2 ≤ wl.length := by
        intro sg tn H3 ta u5 u6 u7 hsg e3 hL3 W3 hta htp3 htn
        refine ⟨m', hm'lt, ws ++ [.ref ta], w ++ [(p, sg)], tn, e', o', u5, u6, u7, v8, v9, rfl, e3, hL3, Paired.snoc W3 ⟨ta, _, rfl, hta, htp3⟩, htn, hm', ?_, ?_, ?_, ?_⟩
        · rcases hsg with ⟨rfl, rfl, hd⟩ | ⟨rfl, rfl, hd, hf⟩
          · rw [hd] at S1 hm
            exact S1.old (List.mem_of_getElem? hm)
          · rw [hd] at S1 hm
            exact S1.new (List.mem_of_getElem? hm) hf
        · rcases hsg with ⟨rfl, rfl, hd⟩ | ⟨rfl, rfl, hd, hf⟩
          · exact negOk_old N1 hm'lt
          · rw [hd] at hm
            exact negOk_new N1 hm'lt hm TI.nd
        · intro q hq
          rcases List.mem_append.mp hq with z | z
          · exact hw1 q z
          · rw [List.mem_singleton.mp z]
            refine ⟨hps, ?_⟩
            rcases hsg with ⟨rfl, _⟩ | ⟨rfl, _, _, hf⟩
            · exact .inl rfl
            · exact .inr ⟨rfl, hf⟩
        · rw [List.length_append]
          show w.length + 1 + m' ≤ wl.length
          omega
      have hwsl : ws.length = w.length := W1.length
      rcases hway with rfl | ⟨rfl, hfp⟩
      · rw [dest_new] at hte
        refine ⟨_, rfl, .inl ⟨rfl, _, .inl (.inl hL1)⟩, _, rfl, _, rfl, te, _, _, _, rfl, rfl, SqT.of hte, atI_nat (j := 0) rfl, rfl, _, rfl, iteB (decide_eq_true rfl) ?_⟩
        refine ⟨(show 2 ≤ sizeLine by decide), fun ta hta => ?_⟩
        have yt : ∀ u, Same H1 (upd H1 ta u) := fun u => same_upd hta
        have hL2 := yt (.tup [.ref tp, .int (1)]) _ _ hL1
        have hLta : L ≠ ta := fun z => by rw [z, hta] at hL1; cases hL1
        refine ⟨L, _, _, rfl, rfl, hL2, by rw [hwsl, sizeLine_eq]; omega, ?_⟩
        have h5 : Same H (upd (upd H1 ta (.tup [.ref tp, .int (1)])) L (.lst (ws ++ [.ref ta]))) := same_mut (e1.trans (yt _)) hL
        have hk : ∀ {b : Addr} {u : HO}, H1 b = some u → (∀ z, u ≠ .lst z) → upd (upd H1 ta (.tup [.ref tp, .int (1)])) L (.lst (ws ++ [.ref ta])) b = some u := fun {b u} hb hu => by
          have hbL : b ≠ L := fun z => by rw [z, hL1] at hb; exact hu _ (Option.some.inj hb).symm
          rw [upd_ne hbL]
          exact yt _ _ _ hb
        have hta2 : upd (upd H1 ta (.tup [.ref tp, .int (1)])) L (.lst (ws ++ [.ref ta])) ta = some (.tup [.ref tp, .int (1)]) := by rw [upd_ne hLta.symm]; exact upd_same
        have hLL : upd (upd H1 ta (.tup [.ref tp, .int (1)])) L (.lst (ws ++ [.ref ta])) L = some (.lst (ws ++ [.ref ta])) := upd_same
        have W2 : WAll (upd (upd H1 ta (.tup [.ref tp, .int (1)])) L (.lst (ws ++ [.ref ta]))) ws w := Paired.mapP W1 fun v q ⟨b, c, q1, q2, d, q3, q4⟩ => ⟨b, c, q1, hk q2 (fun _ z => nomatch z), d, q3, hk q4 (fun _ z => nomatch z)⟩
        have hte2 := hk hte (fun _ z => nomatch z)
        have htp2 := hk htp (fun _ z => nomatch z)
        generalize upd (upd H1 ta (.tup [.ref tp, .int (1)])) L (.lst (ws ++ [.ref ta])) = H2 at h5 hta2 hLL W2 hte2 htp2
        refine ⟨_, rfl, tp, p.1, p.2, rfl, SqT.of htp2, fun ea eb er H3 e3 hea heb her h3a h3b h3r => ⟨er, _, rfl, SqT.of h3r, rfl, _, _, rfl, _, _, rfl, rfl, ?_⟩⟩
        refine ⟨_, rfl, te, _, _, _, rfl, rfl, SqT.of (e3 _ _ hte2), atI_nat (j := 0) rfl, rfl, _, rfl, iteB (decide_eq_true rfl) ⟨_, rfl, ?_⟩⟩
        obtain ⟨m2, g1, ws', w', te', e2, o2, u5, u6, u7, u8, u9, g2, g3⟩ := fin (1) ea H3 ta (some (.ref tp)) (some (.ref ea)) (some (.ref eb)) (.inl ⟨rfl, rfl, dest_new⟩) (h5.trans e3) (e3 _ _ hLL) (Paired.mapP W2 fun v q z => stepV_same e3 z) (e3 _ _ hta2) ⟨tp, rfl, e3 _ _ htp2⟩ h3a
        exact ⟨m2, g1, ws', w', te', e2, o2, u5, u6, u7, u8, u9, g2, g3⟩
      · rw [dest_old] at hte
        refine ⟨_, rfl, .inl ⟨rfl, _, .inl (.inl hL1)⟩, _, rfl, _, rfl, te, _, _, _, rfl, rfl, SqT.of hte, atI_nat (j := 0) rfl, rfl, _, rfl, iteN (decide_eq_false fun h => absurd (V.str.inj h) (show ¬ (("new" : Str) = "old") by decide)) ?_⟩
        refine ⟨_, rfl, (show 2 ≤ sizeLine by decide), fun ta hta => ?_⟩
        have yt : ∀ u, Same H1 (upd H1 ta u) := fun u => same_upd hta
        have hL2 := yt (.tup [.ref tp, .int (-1)]) _ _ hL1
        have hLta : L ≠ ta := fun z => by rw [z, hta] at hL1; cases hL1
        refine ⟨L, _, _, rfl, rfl, hL2, by rw [hwsl, sizeLine_eq]; omega, ?_⟩
        have h5 : Same H (upd (upd H1 ta (.tup [.ref tp, .int (-1)])) L (.lst (ws ++ [.ref ta]))) := same_mut (e1.trans (yt _)) hL
        have hk : ∀ {b : Addr} {u : HO}, H1 b = some u → (∀ z, u ≠ .lst z) → upd (upd H1 ta (.tup [.ref tp, .int (-1)])) L (.lst (ws ++ [.ref ta])) b = some u := fun {b u} hb hu => by
          have hbL : b ≠ L := fun z => by rw [z, hL1] at hb; exact hu _ (Option.some.inj hb).symm
          rw [upd_ne hbL]
          exact yt _ _ _ hb
        have hta2 : upd (upd H1 ta (.tup [.ref tp, .int (-1)])) L (.lst (ws ++ [.ref ta])) ta = some (.tup [.ref tp, .int (-1)]) := by rw [upd_ne hLta.symm]; exact upd_same
        have hLL : upd (upd H1 ta (.tup [.ref tp, .int (-1)])) L (.lst (ws ++ [.ref ta])) L = some (.lst (ws ++ [.ref ta])) := upd_same
        have W2 : WAll (upd (upd H1 ta (.tup [.ref tp, .int (-1)])) L (.lst (ws ++ [.ref ta]))) ws w := Paired.mapP W1 fun v q ⟨b, c, q1, q2, d, q3, q4⟩ => ⟨b, c, q1, hk q2 (fun _ z => nomatch z), d, q3, hk q4 (fun _ z => nomatch z)⟩
        have hte2 := hk hte (fun _ z => nomatch z)
        have htp2 := hk htp (fun _ z => nomatch z)
        generalize upd (upd H1 ta (.tup [.ref tp, .int (-1)])) L (.lst (ws ++ [.ref ta])) = H2 at h5 hta2 hLL W2 hte2 htp2
        refine ⟨_, rfl, tp, p.1, p.2, rfl, SqT.of htp2, fun ea eb er H3 e3 hea heb her h3a h3b h3r => ⟨er, _, rfl, SqT.of h3r, rfl, _, _, rfl, _, _, rfl, rfl, ?_⟩⟩
        refine ⟨_, rfl, te, _, _, _, rfl, rfl, SqT.of (e3 _ _ hte2), atI_nat (j := 0) rfl, rfl, _, rfl, iteN (decide_eq_false fun h => absurd (V.str.inj h) (show ¬ (("new" : Str) = "old") by decide)) ⟨_, rfl, ?_⟩⟩
        obtain ⟨m2, g1, ws', w', te', e2, o2, u5, u6, u7, u8, u9, g2, g3⟩ := fin (-1) eb H3 ta (some (.ref tp)) (some (.ref ea)) (some (.ref eb)) (.inr ⟨rfl, rfl, dest_old, hfp⟩) (h5.trans e3) (e3 _ _ hLL) (Paired.mapP W2 fun v q z => stepV_same e3 z) (e3 _ _ hta2) ⟨tp, rfl, e3 _ _ htp2⟩ h3b
        exact ⟨m2, g1, ws', w', te', e2, o2, u5, u6, u7, u8, u9, g2, g3⟩
    | none =>
      obtain rfl : v = .non := pv'
      refine iteN rfl ?_
      obtain ⟨⟨x0, rfl⟩, heR, hre⟩ := TI.root e (List.mem_of_getElem? hm)
      have hyR : sdO y ∈ R := (Ri _).2 (TI.isE _ hy)
      obtain ⟨dx, hx1⟩ := F1.ex
      have hgl := DGet.t (k := kP (sdO y)) F1.ro (pt_key (e1 _ _ ht))
      rw [kvI_mem hyR] at hgl
      have hge := DGet.t (k := kP (sdN x0)) F1.ro (pt_key hte)
      rw [kvI_mem heR] at hge
      have hwsl : ws.length = w.length := W1.length
      refine ⟨_, rfl, x, _, dx, _, _, rfl, hx1, cF, T.a_Flow_room, rfl, _, rfl, dr, _, rfl, hgl, _, rfl, x, _, dx, _, _, rfl, hx1, cF, T.a_Flow_room, rfl, _, rfl, dr, _, rfl, hge, _, rfl, L, rfl, ⟨_, SqL.of hL1⟩, fun D hD => ?_⟩
      refine lc_list (K := K) (a := L) (xs := ws) (Gr H1 D fun i acc _ => acc = ((w.take i).filter fun q => decide (q.2 < 0)).map fun q => V.int (f q.1)) (gr_start hD rfl) (fun i H5 _ G => SqL.of (G.ext _ _ hL1)) ?_ ?_
      · rintro i v H5 hi G
        obtain ⟨q, hq, t', p', rfl, ht', hp'⟩ := paired_get W1 hi
        have hil := (List.getElem?_eq_some_iff.mp hq).1
        obtain ⟨hqp, _⟩ := hw1 q (List.mem_of_getElem? hq)
        obtain ⟨tp, rfl, htp⟩ := hp'
        have F5 := flow_same G.ext F1
        have hg5 := DGet.t (k := kP q.1) F5.se (pt_key (G.ext _ _ htp))
        rw [kvI_mem hqp] at hg5
        refine ⟨t', _, rfl, SqT.of (G.ext _ _ ht'), rfl, _, _, rfl, _, _, rfl, rfl, rfl, _, rfl, _, _, rfl, rfl, _, rfl, ?_⟩
        by_cases hn : q.2 < 0
        · refine iteB (decide_eq_true hn) ⟨_, rfl, x, _, dx, _, _, rfl, G.ext _ _ hx1, cF, T.a_Flow_sent, rfl, _, rfl, ds, _, rfl, hg5, gr_add G (Same.refl _) (by omega) (fun _ _ _ _ _ h => h) fun acc h => ?_⟩
          rw [filter_at hq, if_pos (decide_eq_true hn), List.map_append, h]
          rfl
        · refine iteN (decide_eq_false hn) (gr_skip G (Same.refl _) (fun _ _ _ _ _ h => h) fun acc h => ?_)
          rw [filter_at hq, if_neg (by rw [decide_eq_false hn]; decide), List.append_nil]
          exact h
      rintro H5 ⟨hD5, e5, acc, hacc, hal, hd5⟩
      rw [hwsl, List.take_length] at hd5
      have hacl : acc.length ≤ ws.length := hal
      refine ⟨D, acc, rfl, .inr (SqL.of hacc), by show (acc ++ []).length + 1 + 1 ≤ _; rw [List.append_nil, sizeLine_eq]; omega, fun M hM => ⟨M, r (sdO y) :: r (sdN x0) :: (w.filter fun q => decide (q.2 < 0)).map (fun q => f q.1), rfl, SqL.of ?_, Nat.succ_pos _, fun mm hm1 hm2 => ?_⟩⟩
      · rw [upd_same, hd5]
        show some (HO.lst (V.int (r (sdO y)) :: V.int (r (sdN x0)) :: (_ ++ []))) = some (HO.lst (V.int (r (sdO y)) :: V.int (r (sdN x0)) :: _))
        rw [List.append_nil, List.map_map]
        rfl
      have y6 : Same H1 (upd H5 M (.lst (V.int (r (sdO y)) :: V.int (r (sdN x0)) :: (acc ++ [])))) := e5.trans (same_upd hM)
      generalize upd H5 M (.lst (V.int (r (sdO y)) :: V.int (r (sdN x0)) :: (acc ++ []))) = H6 at y6
      have hmy : mm ≤ r (sdO y) := hm2 _ List.mem_cons_self
      have hmx : mm ≤ r (sdN x0) := hm2 _ (List.mem_cons_of_mem _ List.mem_cons_self)
      have hmf : ∀ p, (p, (-1 : Int)) ∈ w → mm ≤ f p := fun p hp => hm2 _ (List.mem_cons_of_mem _ (List.mem_cons_of_mem _ (List.mem_map.mpr ⟨_, List.mem_filter.mpr ⟨hp, decide_eq_true (show (-1 : Int) < 0 by decide)⟩, rfl⟩)))
      have hmp : 0 < mm := by
        rcases List.mem_cons.mp hm1 with rfl | z
        · exact hry
        · rcases List.mem_cons.mp z with rfl | z
          · exact hre
          · obtain ⟨q, hq, rfl⟩ := List.mem_map.mp z
            obtain ⟨hq1, hq2⟩ := List.mem_filter.mp hq
            have hq3 := of_decide_eq_true hq2
            obtain ⟨_, h2⟩ := hw1 q hq1
            rcases h2 with h2 | ⟨_, h2⟩
            · omega
            · exact h2
      clear hm1 hm2 hd5 hacc hM hD5 hal hacl e5 hD
      have eH6 := e1.trans y6
      have hne := hF.ne
      obtain ⟨dx0, hx0⟩ := hF.ex
      have hBH : Same (less dr (less ds H)) H := (less_sub _ _).trans (less_sub _ _)
      have hBds : less dr (less ds H) ds = none := by rw [less_ne hne]; exact less_x
      have hBdr : less dr (less ds H) dr = none := less_x
      have drL : less ds H dr = some (.dT (kvI R r)) := by rw [less_ne hne.symm]; exact hF.ro
      have keep : ∀ {b : Addr} {o : HO}, H b = some o → (∀ z, o ≠ .dT z) → less dr (less ds H) b = some o := fun h ho => less_at drL (less_at hF.se h (ho _)) (ho _)
      have hxB := keep hx0 (fun _ z => nomatch z)
      have plB := keep hF.pl (fun _ z => nomatch z)
      have paB : PAll (less dr (less ds H)) xs ps := pall_less drL (fun _ z => nomatch z) (pall_less hF.se (fun _ z => nomatch z) hF.pa)
      have htB := keep ht (fun _ z => nomatch z)
      have F6 := flow_same eH6 hF
      have W6 : WAll H6 ws w := Paired.mapP W1 fun v q z => stepV_same y6 z
      have hL6 := y6 _ _ hL1
      have hte6 := y6 _ _ hte
      have dr6 : less ds H6 dr = some (.dT (kvI R r)) := by rw [less_ne hne.symm]; exact F6.ro
      have keep6 : ∀ {b : Addr} {o : HO}, H6 b = some o → (∀ z, o ≠ .dT z) → less dr (less ds H6) b = some o := fun h ho => less_at dr6 (less_at F6.se h (ho _)) (ho _)
      have hLC := keep6 hL6 (fun _ z => nomatch z)
      have hteC := keep6 hte6 (fun _ z => nomatch z)
      have WC : WAll (less dr (less ds H6)) ws w := Paired.mapP W6 fun v q ⟨t', p', q1, q2, tp, q3, q4⟩ => ⟨t', p', q1, keep6 q2 (fun _ z => nomatch z), tp, q3, keep6 q4 (fun _ z => nomatch z)⟩
      have hBC : Same (less dr (less ds H)) (less dr (less ds H6)) := same_lessN hBdr (same_lessN hBds (hBH.trans eH6))
      have hC6 : Same (less dr (less ds H6)) H6 := (less_sub _ _).trans (less_sub _ _)
      have hCds : less dr (less ds H6) ds = none := by rw [less_ne hne]; exact less_x
      have hCdr : less dr (less ds H6) dr = none := less_x
      have seH6 := F6.se
      have roH6 := F6.ro
      generalize less dr (less ds H6) = C at hLC hteC WC hBC hC6 hCds hCdr
      generalize less dr (less ds H) = B at k hBH hBds hBdr keep hxB plB paB htB hBC
      have hxC := hBC _ _ hxB
      have hwl200 : w.length ≤ 200 := by omega
      refine ⟨_, rfl, L, rfl, ⟨_, SqL.of hL6⟩, for_lst (K := K) (a := L) (xs := ws) (fun i σ Hk => ∃ (v5 v9 : Option V), σ = [some (.ref x), some (.ref F), some (.ref t), some (.ref L), some (.ref te), v5, v6, v7, some (.int mm), v9] ∧ Same C Hk ∧ Hk ds = some (.dT (kvI ps fun p => f p + mm * cnt (w.take i) p)) ∧ Hk dr = some (.dT (kvI R r))) ⟨v5, v9, rfl, hC6, ?_, roH6⟩ (fun i σ Hk _ ⟨_, _, _, e, _⟩ => SqL.of (e _ _ hLC)) ?_ ?_⟩
      · rw [seH6]
        exact congrArg (fun z => some (HO.dT z)) (kvI_congr fun p _ => by simp [cnt])
      · rintro i v σ Hk hi ⟨v5, v9, rfl, ek, hk, hkr⟩
        obtain ⟨q, hq, t', p', rfl, ht', hp'⟩ := paired_get WC hi
        obtain ⟨hqp, hqs⟩ := hw1 q (List.mem_of_getElem? hq)
        obtain ⟨tp, rfl, htp⟩ := hp'
        have hg := DGet.t (k := kP q.1) hk (pt_key (ek _ _ htp))
        rw [kvI_mem hqp] at hg
        refine ⟨t', _, rfl, SqT.of (ek _ _ ht'), rfl, _, _, rfl, _, _, rfl, rfl, _, rfl, x, _, dx0, _, _, rfl, ek _ _ hxC, cF, T.a_Flow_sent, rfl, _, rfl, ds, _, rfl, hg, _, rfl, _, rfl, _, _, rfl, rfl, .inl ?_, _, _, rfl, rfl, _, DPut.t (k := kP q.1) hk (pt_key (ek _ _ htp)) (by rw [kvI_len, sizeLine_eq]; omega), ?_⟩
        · rcases hqs with z | ⟨z, _⟩ <;> rw [z] <;> exact ⟨by decide, by decide⟩
        refine ⟨_, _, rfl, same_mut ek hCds, ?_, by rw [upd_ne hne.symm]; exact hkr⟩
        rw [upd_same, kvI_put hqp]
        refine congrArg (fun z => some (HO.dT z)) (kvI_congr fun p _ => ?_)
        unfold setPr
        rw [take_at hq, cnt_snoc]
        by_cases z : p = q.1
        · rw [if_pos z, if_pos z.symm, z, Int.mul_add, Int.mul_comm q.2 mm]
          omega
        · rw [if_neg z, if_neg fun h => z h.symm, Int.add_zero]
      rintro σ Hk ⟨v5, v9, rfl, ek, hk, hkr⟩
      rw [hwsl, List.take_length] at hk
      have hgl2 := DGet.t (k := kP (sdO y)) hkr (pt_key (ek _ _ (hBC _ _ htB)))
      rw [kvI_mem hyR] at hgl2
      refine ⟨_, rfl, x, _, dx0, _, _, rfl, ek _ _ hxC, cF, T.a_Flow_room, rfl, _, rfl, dr, _, rfl, hgl2, _, rfl, _, _, rfl, rfl, _, DPut.t (k := kP (sdO y)) hkr (pt_key (ek _ _ (hBC _ _ htB))) ?_, ?_⟩
      · have h2 : R.length ≤ (ps.map (fun p => sdN p.1) ++ ps.map (fun p => sdO p.2)).length := nodup_len Rn fun e he => by
          obtain ⟨p, hp, h2⟩ := (Ri e).1 he
          rcases h2 with h2 | h2
          · exact List.mem_append_left _ (List.mem_map.mpr ⟨p, hp, h2.symm⟩)
          · exact List.mem_append_right _ (List.mem_map.mpr ⟨p, hp, h2.symm⟩)
        rw [List.length_append, List.length_map, List.length_map] at h2
        rw [kvI_len, sizeLine_eq]
        omega
      rw [kvI_put hyR]
      have y7 : Same C (upd Hk dr (.dT (kvI R (setPr r (sdO y) (r (sdO y) - mm))))) := same_mut ek hCdr
      have h7r : upd Hk dr (.dT (kvI R (setPr r (sdO y) (r (sdO y) - mm)))) dr = some (.dT (kvI R (setPr r (sdO y) (r (sdO y) - mm)))) := upd_same
      have h7s : upd Hk dr (.dT (kvI R (setPr r (sdO y) (r (sdO y) - mm)))) ds = some (.dT (kvI ps fun p => f p + mm * cnt w p)) := by rw [upd_ne hne]; exact hk
      generalize upd Hk dr (.dT (kvI R (setPr r (sdO y) (r (sdO y) - mm)))) = H7 at y7 h7r h7s
      have hge2 := DGet.t (k := kP (sdN x0)) h7r (pt_key (y7 _ _ hteC))
      rw [kvI_mem heR] at hge2
      have hse : setPr r (sdO y) (r (sdO y) - mm) (sdN x0) = r (sdN x0) := by unfold setPr; rw [if_neg sd_ne]
      rw [hse] at hge2
      refine ⟨_, rfl, x, _, dx0, _, _, rfl, y7 _ _ hxC, cF, T.a_Flow_room, rfl, _, rfl, dr, _, rfl, hge2, _, rfl, _, _, rfl, rfl, _, DPut.t (k := kP (sdN x0)) h7r (pt_key (y7 _ _ hteC)) ?_, ?_⟩
      · have h2 : R.length ≤ (ps.map (fun p => sdN p.1) ++ ps.map (fun p => sdO p.2)).length := nodup_len Rn fun e he => by
          obtain ⟨p, hp, h2⟩ := (Ri e).1 he
          rcases h2 with h2 | h2
          · exact List.mem_append_left _ (List.mem_map.mpr ⟨p, hp, h2.symm⟩)
          · exact List.mem_append_right _ (List.mem_map.mpr ⟨p, hp, h2.symm⟩)
        rw [List.length_append, List.length_map, List.length_map] at h2
        rw [kvI_len, sizeLine_eq]
        omega
      rw [kvI_put heR]
      have hr' : ∀ a, setPr (setPr r (sdO y) (r (sdO y) - mm)) (sdN x0) (r (sdN x0) - mm) a = r a - mm * (ind a (sdO y) + ind a (sdN x0)) := fun a => by
        unfold setPr ind
        by_cases z1 : a = sdN x0
        · have z2 : a ≠ sdO y := fun z => sd_ne (z1.symm.trans z)
          rw [if_pos z1, if_neg z2, if_pos z1, z1]
          omega
        · rw [if_neg z1, if_neg z1]
          by_cases z2 : a = sdO y
          · rw [if_pos z2, if_pos z2, z2]
            omega
          · rw [if_neg z2, if_neg z2]
            omega
      have y8 : Same C (upd H7 dr (.dT (kvI R (setPr (setPr r (sdO y) (r (sdO y) - mm)) (sdN x0) (r (sdN x0) - mm))))) := same_mut y7 hCdr
      refine k _ _ _ (hBC.trans y8) ⟨⟨dx0, (hBC.trans y8) _ _ hxB⟩, (hBC.trans y8) _ _ plB, pall_same (hBC.trans y8) paB, by rw [upd_ne hne]; exact h7s, upd_same, hne⟩ (finv_grow FI pn S1 N1 (fun q hq => (hw1 q hq).1) (by omega) hmy hmx hmf (fun p _ => rfl) hr') ?_
      rw [sumOn_congr fun a _ => (hr' a).trans (show _ = r a + (-mm) * (ind a (sdO y) + ind a (sdN x0)) by rw [Int.neg_mul]; omega), sumOn_add, sumOn_mul, sumOn_add, ind_sum Rn, ind_sum Rn, if_pos hyR, if_pos heR]
      omega
end
end K59
/-! K59K -/
set_option Elab.async false
set_option linter.all false
set_option maxRecDepth 100000
/-! the plain law, part 8: the law's successions are the program's -/
namespace K59
open PySem PySem.Spec PyProof.Rows L2 LamX
section
variable {cols marks : List Str} {ds : List Dd} {c : Str} {q : Str × Str}
theorem wrote_kind {d : Dd} (o : DdOk cols marks d) (h : c ∈ wrote cols d) : d.k ≠ .en := fun e => by
  unfold wrote at h
  rw [if_neg (by rw [e]; decide), o.own.2.2 (by rw [e]; decide)] at h
  cases h
theorem act_eq (hc : c ∈ cols) (d : Dd) : actB false c d = !closes cols c d := by
  unfold actB closes wrote
  cases d.k with
  | mk => simp [hc]
  | ch => simp
  | en => simp
theorem ends_closes {d : Dd} (h : endsB c d = true) : closes cols c d = true := by
  unfold endsB at h
  unfold closes wrote
  cases hk : d.k with
  | mk => rw [hk] at h; simp at h
  | ch => rw [hk] at h; simpa using h
  | en => simp
theorem closes_ends {d : Dd} (h : closes cols c d = true) (hk : d.k ≠ .mk) : endsB c d = true := by
  unfold closes wrote at h
  unfold endsB
  cases e : d.k with
  | mk => exact absurd e hk
  | ch => rw [e] at h; simpa using h
  | en => simp
theorem behind_marks (ok : ∀ d ∈ ds, DdOk cols marks d) {d : Dd} (hd : d ∈ ds) (hw : c ∈ wrote cols d) {u : Str} (h : Reach (ds.filter (actB false c)) (Behind ds d) u) : u ∈ marks := by
  refine reach_closed (fs := marks) ?_ ?_ h
  · rintro s ⟨s', _, hs⟩
    have o := ok d hd
    have hn := wrote_kind o hw
    cases hk : d.k with
    | mk =>
      obtain ⟨m, hm, e⟩ := o.hmk hk
      rw [e] at hs
      rw [(Prod.mk.inj (List.mem_singleton.mp hs)).2]
      exact hm
    | ch => exact (o.hch hk _ hs).2
    | en => exact absurd hk hn
  · intro s _ e he t ht
    obtain ⟨h1, h2⟩ := List.mem_filter.mp he
    have hk : e.k = Kd.ch := by
      unfold actB at h2
      rw [Bool.false_or, Bool.and_eq_true] at h2
      exact of_decide_eq_true h2.1
    exact ((ok e h1).hch hk _ ht).2
theorem lsucc_iff (hc : c ∈ cols) (ok : ∀ d ∈ ds, DdOk cols marks d) (hm : ∀ s ∈ marks, s ≠ "") : LSuccBy cols ds c ds q ↔ Succ cols ds c q := by
  have hf : ds.filter (actB false c) = ds.filter fun x => !closes cols c x := List.filter_congr fun x _ => act_eq hc x
  constructor
  · rintro ⟨d, hd, hw, e, he, hq, hn, u, hu, hm'⟩
    rw [hf] at hu
    exact ⟨d, hd, e, he, hq, hw, ends_closes hn, u, hu, hm'⟩
  · rintro ⟨d, hd, e, he, hq, hw, hcl, u, hu, hm'⟩
    rw [← hf] at hu
    refine ⟨d, hd, hw, e, he, hq, closes_ends hcl fun hk => ?_, u, hu, hm'⟩
    obtain ⟨m, _, e1⟩ := (ok e he).hmk hk
    rw [e1] at hm'
    exact hm u (behind_marks ok hd hw hu) (List.mem_singleton.mp hm')
/-- the ends of successions are sides -/
theorem succ_sides (ok : ∀ d ∈ ds, DdOk cols marks d) (hc : c ∈ cols) (hm : ∀ s ∈ marks, s ≠ "") (h : Succ cols ds c q) : IsSide cols ds c (("new" : Str), q.1) ∧ IsSide cols ds c (("old" : Str), q.2) := by
  obtain ⟨d, hd, hw, e, he, rfl, hn, _⟩ := (lsucc_iff hc ok hm).2 h
  exact ⟨⟨d, hd, .inl ⟨hw, rfl⟩⟩, ⟨e, he, .inr ⟨hn, rfl⟩⟩⟩
end
end K59
/-! K59L -/
set_option Elab.async false
set_option linter.all false
set_option maxRecDepth 100000
/-! the plain law, part 9: the least price -/
namespace K59
open PySem
theorem sumOn_perm {T U : List Sd} {g : Sd → Int} (h : T.Perm U) : sumOn T g = sumOn U g := by
  unfold sumOn
  induction h with
  | nil => rfl
  | cons x _ ih => simp only [List.map_cons, List.sum_cons, ih]
  | swap x y l => simp only [List.map_cons, List.sum_cons]; omega
  | trans _ _ h1 h2 => exact h1.trans h2
/-- T is a cover -/
def Covers (S : Sd → Prop) (T : List Sd) : Prop := ∀ p, S p → sdN p.1 ∈ T ∨ sdO p.2 ∈ T
/-- an end of a succession -/
def EndOf (S : Sd → Prop) (e : Sd) : Prop := ∃ p, S p ∧ (e = sdN p.1 ∨ e = sdO p.2)
/-- m is the least price of a cover -/
structure Least (pr : Sd → Int) (S : Sd → Prop) (m : Int) : Prop where
  low : ∀ T : List Sd, Covers S T → m ≤ sumOn T pr
  has : ∃ T : List Sd, T.Nodup ∧ (∀ e ∈ T, EndOf S e) ∧ Covers S T ∧ m = sumOn T pr
section
variable {pr pr' : Sd → Int} {S S' : Sd → Prop} {m m' : Int}
theorem least_iff (h : ∀ q, S q ↔ S' q) (L : Least pr S m) : Least pr S' m := by
  obtain ⟨T, h1, h2, h3, h4⟩ := L.has
  exact ⟨fun T hT => L.low T fun p hp => hT p ((h p).1 hp), T, h1, fun e he => (let ⟨p, hp, r⟩ := h2 e he; ⟨p, (h p).1 hp, r⟩), fun p hp => h3 p ((h p).2 hp), h4⟩
theorem least_up (h : ∀ e, pr e ≤ pr' e) (L : Least pr S m) (L' : Least pr' S m') : m ≤ m' := by
  obtain ⟨T, _, _, c, rfl⟩ := L'.has
  exact Int.le_trans (L.low T c) (sumOn_le fun e _ => h e)
theorem least_one {e : Sd} (h : ∀ q, q ≠ e → pr' q = pr q) (h1 : pr' e = pr e + 1) (L : Least pr S m) (L' : Least pr' S m') : m' ≤ m + 1 := by
  obtain ⟨T, nd, _, c, rfl⟩ := L.has
  refine Int.le_trans (L'.low T c) ?_
  have e1 : sumOn T pr' = sumOn T pr + sumOn T fun q => if e = q then 1 else 0 := by
    rw [← sumOn_add]
    refine sumOn_congr fun q _ => ?_
    by_cases z : e = q
    · rw [if_pos z, ← z, h1]
    · rw [if_neg z, h q fun y => z y.symm]
      omega
  have e2 : (sumOn T fun q => if e = q then 1 else 0) ≤ 1 := by
    by_cases z : e ∈ T
    · rw [sumOn_one (c := fun _ => 1) nd z]
      exact Int.le_refl _
    · rw [sumOn_zero fun q hq => if_neg fun y => z (by rw [y]; exact hq)]
      decide
  omega
theorem least_move {e : Sd} {i : Int} (L : Least pr S m) (L' : Least (setPr pr e i) S m') : (i = pr e + 1 → m' = m ∨ m' = m + 1) ∧ (i = pr e - 1 → m' = m ∨ m' = m - 1) ∧ (i = pr e → m' = m) := by
  have hne : ∀ q, q ≠ e → setPr pr e i q = pr q := fun q hq => by unfold setPr; rw [if_neg hq]
  have he : setPr pr e i e = i := by unfold setPr; rw [if_pos rfl]
  have up : pr e ≤ i → ∀ q, pr q ≤ setPr pr e i q := fun h q => by
    by_cases z : q = e
    · rw [z, he]; exact h
    · rw [hne q z]; exact Int.le_refl _
  have dn : i ≤ pr e → ∀ q, setPr pr e i q ≤ pr q := fun h q => by
    by_cases z : q = e
    · rw [z, he]; exact h
    · rw [hne q z]; exact Int.le_refl _
  refine ⟨fun h => ?_, fun h => ?_, fun h => ?_⟩
  · have h1 := least_up (up (by omega)) L L'
    have h2 := least_one hne (by rw [he]; exact h) L L'
    omega
  · have h1 := least_up (dn (by omega)) L' L
    have h2 := least_one (e := e) (fun q hq => (hne q hq).symm) (by rw [he]; omega) L' L
    omega
  · have h1 := least_up (up (by omega)) L L'
    have h2 := least_up (dn (by omega)) L' L
    omega
/-- the law's least price -/
theorem least_of {lps Sl : List Sd} (L : Least pr S m) (hl : ∀ q, q ∈ lps ↔ S q) (hS : ∀ q, EndOf S q → q ∈ Sl) (nd : Sl.Nodup) (K : LeastOf pr lps Sl m') : m' = m := by
  have tell : ∀ T, Covers S T ↔ lps.all (tellB T) = true := fun T => by
    rw [all_iff]
    exact ⟨fun h p hp => h p ((hl p).1 hp), fun h p hp => h p ((hl p).2 hp)⟩
  have h1 : m' ≤ m := by
    obtain ⟨T, nT, eT, cT, rfl⟩ := L.has
    have hU : ∀ a, a ∈ Sl.filter (fun e => decide (e ∈ T)) ↔ a ∈ T := fun a => by
      rw [List.mem_filter]
      exact ⟨fun h => of_decide_eq_true h.2, fun h => ⟨hS a (eT a h), decide_eq_true h⟩⟩
    have pU : (Sl.filter fun e => decide (e ∈ T)).Perm T := (List.perm_ext_iff_of_nodup (List.Sublist.nodup List.filter_sublist nd) nT).2 hU
    have z := K.1 (Sl.filter fun e => decide (e ∈ T)) List.filter_sublist ((tell _).1 fun p hp => (cT p hp).imp (hU _).2 (hU _).2)
    have e : ((Sl.filter fun e => decide (e ∈ T)).map pr).sum = sumOn T pr := sumOn_perm pU
    rw [e] at z
    exact z
  have h2 : m ≤ m' := by
    rcases K.2 with h | ⟨T, _, ht, h⟩
    · rw [h]
      exact L.low Sl fun p hp => .inl (hS _ ⟨p, hp, .inl rfl⟩)
    · rw [h]
      exact L.low T ((tell T).2 ht)
  omega
/-- the flow's end -/
theorem least_end {ps R : List Sd} {f r : Sd → Int} {wl : WL} (F : FInv pr ps R f r) (Rn : R.Nodup) (Ri : ∀ e, e ∈ R ↔ IsEnd ps e) (hp0 : ∀ e, 1 ≤ pr e) (TI : TInv ps R f r wl wl.length 0) (hfree : ∀ y, sdO y ∈ wl.map (fun x => x.1) → r (sdO y) ≤ 0) :
    Least pr (· ∈ ps) (sumOn (coverOf R (wl.map (fun x => x.1))) pr) ∧ Covers (· ∈ ps) (coverOf R (wl.map (·.1))) := by
  obtain ⟨h1, h2⟩ := end_cover F Rn Ri TI hfree
  have h1 : Covers (· ∈ ps) (coverOf R (wl.map fun x => x.1)) := h1
  refine ⟨⟨fun T hT => ?_, coverOf R (wl.map fun x => x.1), List.Sublist.nodup List.filter_sublist Rn, fun e he => (Ri e).1 (List.mem_filter.mp he).1, h1, rfl⟩, h1⟩
  rw [h2]
  exact weak F Ri hp0 hT
end
end K59
/-! D26 -/
set_option Elab.async false
set_option linter.all false
set_option maxRecDepth 100000
set_option maxHeartbeats 2000000
namespace K59
open PySem PySem.Spec PyProof.Rows L2 LamX
/-- a dict that is locked for a while -/
theorem lock_back {H H' : Hp} {d : Addr} {u : HO} {od : Obj} (hd : H d = some u) (e : Same (upd H d (.frz od u)) H') : Same H (upd H' d u) := fun b o hb => by
  by_cases z : b = d
  · rw [z, upd_same, ← hd, ← z]
    exact hb
  · rw [upd_ne z]
    exact e _ _ (by rw [upd_ne z]; exact hb)
theorem lock_free {H : Hp} {d b : Addr} {u : HO} (h : upd H d u b = none) : H b = none ∧ b ≠ d := by
  by_cases z : b = d
  · rw [z, upd_same] at h; cases h
  · rw [upd_ne z] at h; exact ⟨h, z⟩
theorem pall_lock {H : Hp} {d : Addr} {u v : HO} {xs : List V} {ps : List (Str × Str)} (hd : H d = some u) (hu : ∀ zs, u ≠ .tup zs) (h : PAll H xs ps) : PAll (upd H d v) xs ps := Paired.mapP h fun _ _ ⟨t, e1, e2⟩ => ⟨t, e1, by
  rw [upd_ne fun z => by rw [z, hd] at e2; exact hu _ (Option.some.inj e2)]
  exact e2⟩
def freeW (wl : WL) (r : Sd → Int) (i : Nat) : List Sd := ((wl.take i).map (·.1)).filter fun e : Sd => decide (e.1 = "old") && decide (0 < r e)
theorem isEnd_pok {ps : List Sd} {e : Sd} (pnm : ∀ p ∈ ps, Nm p.1 ∧ Nm p.2) (h : IsEnd ps e) : Pok e ∧ Nm e.2 := by
  obtain ⟨q, hq, h2⟩ := h
  obtain ⟨m1, m2⟩ := pnm q hq
  rcases h2 with rfl | rfl
  · exact ⟨pok_nm nm_new m1, m1⟩
  · exact ⟨pok_nm nm_old m2, m2⟩
theorem ends_len {ps R : List Sd} (Rn : R.Nodup) (Ri : ∀ e ∈ R, IsEnd ps e) : R.length ≤ 2 * ps.length := by
  have h2 : R.length ≤ (ps.map (fun p => sdN p.1) ++ ps.map (fun p => sdO p.2)).length := nodup_len Rn fun e he => by
    obtain ⟨p, hp, h2⟩ := Ri e he
    rcases h2 with h2 | h2
    · exact List.mem_append_left _ (List.mem_map.mpr ⟨p, hp, h2.symm⟩)
    · exact List.mem_append_right _ (List.mem_map.mpr ⟨p, hp, h2.symm⟩)
  rw [List.length_append, List.length_map, List.length_map] at h2
  omega
theorem old_of {ps : List Sd} {e : Sd} (h : IsEnd ps e) (h1 : e.1 = "old") : e = sdO e.2 := by
  obtain ⟨p, _, h2⟩ := h
  rcases h2 with h2 | h2
  · rw [h2] at h1
    exact absurd (show (("new" : Str) = "old") from h1) (by decide)
  · rw [h2]
    rfl
section
variable {P : Program} {w : World} {K : PySem.W.Frag} {mg : Str → Option Value} {base : Heap}
abbrev s_Flow_finish : Stmt := inClass (top 50) 3
abbrev N_Flow_finish : List Str := ["self", "found", "free", "end"]
theorem sc_Flow_finish : FnScope N_Flow_finish ["self"] (defScope s_Flow_finish) := ⟨rfl, rfl, rfl, by decide +kernel, rfl, by decide +kernel, by decide +kernel⟩
def sp_Flow_finish (K : PySem.W.Frag) : Sp := fun vs H Q _ => ∃ (x ds dr lp : Addr) (xs : List V) (ps : List Sd) (f pr : Sd → Int) (R : List Sd) (r : Sd → Int), vs = [.ref x] ∧ FlowAt K H x ds dr lp xs ps f R r ∧ (∀ p ∈ ps, Nm p.1 ∧ Nm p.2) ∧ ps.length ≤ 64 ∧ ps.Nodup ∧ R.Nodup ∧ (∀ e, e ∈ R ↔ IsEnd ps e) ∧ FInv pr ps R f r ∧ (∀ e, 1 ≤ pr e) ∧
  ∀ (l : Addr) (zs : List V) (C : List Sd) (f' r' : Sd → Int) (H' : Hp), Same (less dr (less ds H)) H' → FlowAt K H' x ds dr lp xs ps f' R r' → FInv pr ps R f' r' → H' l = some (.lst zs) → PAll H' zs C → Least pr (· ∈ ps) (sumOn C pr) → Covers (· ∈ ps) C → (∀ e ∈ C, IsEnd ps e) → C.length ≤ 128 → Q (.ref l) H'
theorem ok_Flow_finish (T : Tx2 P K mg) : OkR P w K mg base 3 (He.fAd K ("Flow", some "finish")) (sp_Flow_finish K) := by
  have G_Flow_trails : OkR P w K mg base 2 (He.fAd K ("Flow", some "trails")) (sp_Flow_trails K) := ok_Flow_trails T
  have G_Flow_grow : OkR P w K mg base 2 (He.fAd K ("Flow", some "grow")) (sp_Flow_grow K) := ok_Flow_grow T
  refine mkR T.f_Flow_finish sc_Flow_finish (fun vs H Q E h => ?_) (fun _ _ _ _ _ _ us hl => match us, hl with | [_], _ => rfl) fun cdv A outer s H vs Q E hr h => ?_
  · obtain ⟨_, _, _, _, _, _, _, _, _, _, rfl, _⟩ := h
    rfl
  · obtain ⟨x, ds, dr, lp, xs, ps, f, pr, R, r, rfl, hF, pnm, pl, pn, Rn, Ri, FI, hp0, k⟩ := h
    refine ⟨_, 
    (pss_cons (ps_while PassesOwn.never (pt_val pe_bl (by intro _; rfl)) 
      (pss_cons (ps_set (i := 1) sc_Flow_finish.nd rfl (Or.inr rfl) (pe_methF0 K (pv 0) T.c_Flow T.m_Flow_trails G_Flow_trails (hr.mono (by decide)))) 
      (pss_cons (ps_lock (ps_setLc (i := 2) (own := [("end", 3)]) (by rfl) sc_Flow_finish.nd rfl rfl (sw_true rfl rfl rfl (by decide +kernel)) (pi_keys (pv 1)) (blkOk_by (own := [("end", 3)]) (N := N_Flow_finish) (sc := (defScope s_Flow_finish)) (by decide +kernel)) (fun _ _ _ _ _ => (pg_name (i := 3) sc_Flow_finish.nd rfl (Or.inl rfl))) (fun _ _ _ _ _ => pts_one (PW.pt (pw_and (pt_cmpR op_eq (pe_ix (ix_tupK K) (pv 3) pe_int (fun _ _ => rfl)) pe_str (nomark _)) (pw_and1 (pt_cmpR op_gt (pe_dget (hu_of hr) (pe_fldK K (pv 0)) (pv 3) (fun _ _ => rfl)) pe_int (nomark _)))))) (fun _ _ _ _ _ => (pv 3)))) 
      (pss_cons (ps_if (pt_cmpR (op_eqE K (hu65 hr)) (pv 2) (pe_lst pa_nil) (nomark _)) 
        (pss_one ps_break) pss_nil) 
      (pss_one (ps_expr (pe_methF K (pv 0) T.c_Flow T.m_Flow_grow G_Flow_grow (hr.mono (by decide)) (pa_cons (pv 1) (pa_cons (pe_ix (ix_listK K) (pv 2) pe_int (fun _ _ => rfl)) pa_nil))))))))) 
    (pss_one (ps_lock (ps_ret (pe_lc (own := [("end", 3)]) (by rfl) sc_Flow_finish.nd (pi_keys (pe_fldK K (pv 0))) (blkOk_by (own := [("end", 3)]) (N := N_Flow_finish) (sc := (defScope s_Flow_finish)) (by decide +kernel)) (fun _ _ _ _ _ => (pg_name (i := 3) sc_Flow_finish.nd rfl (Or.inl rfl))) (fun _ _ _ _ _ => pts_one (pt_cmpR op_eq (pe_cmpR op_eq (pe_ix (ix_tupK K) (pv 3) pe_int (fun _ _ => rfl)) pe_str (nomark _)) (pe_cmp (pc_din (hu_of hr) (pv 3) (pv 1)) rfl) (nomark _))) (fun _ _ _ _ _ => (pv 3))))))), ?_⟩
    have cF := T.c_Flow
    have hne := hF.ne
    obtain ⟨dx0, hx0⟩ := hF.ex
    have hBH : Same (less dr (less ds H)) H := (less_sub _ _).trans (less_sub _ _)
    have hBds : less dr (less ds H) ds = none := by rw [less_ne hne]; exact less_x
    have hBdr : less dr (less ds H) dr = none := less_x
    have drL : less ds H dr = some (.dT (kvI R r)) := by rw [less_ne hne.symm]; exact hF.ro
    have hxB : less dr (less ds H) x = some (.ins (He.ga K "Flow") dx0 [("pairs", .ref lp), ("sent", .ref ds), ("room", .ref dr)]) := less_at drL (less_at hF.se hx0 (fun z => nomatch z)) (fun z => nomatch z)
    generalize less dr (less ds H) = B at k hBH hBds hBdr hxB
    refine ⟨fun m σ H1 => ∃ (f r : Sd → Int) (v1 v2 v3 : Option V), σ = [some (.ref x), v1, v2, v3] ∧ Same B H1 ∧ FlowAt K H1 x ds dr lp xs ps f R r ∧ FInv pr ps R f r ∧ m = (sumOn R r).toNat, ⟨_, f, r, none, none, none, rfl, hBH, hF, FI, rfl⟩, ?_⟩
    clear hF FI drL
    rintro m σ H1 ⟨f, r, v1, v2, v3, rfl, e1, F1, FI, rfl⟩
    refine ⟨true, rfl, iteB rfl ⟨fun σ' H' => ∃ m', m' < (sumOn R r).toNat ∧ ∃ (f r : Sd → Int) (v1 v2 v3 : Option V), σ' = [some (.ref x), v1, v2, v3] ∧ Same B H' ∧ FlowAt K H' x ds dr lp xs ps f R r ∧ FInv pr ps R f r ∧ m' = (sumOn R r).toNat, fun σ' H' q => q, ?_⟩⟩
    refine ⟨_, rfl, x, dx0, _, rfl, e1 _ _ hxB, rfl, x, ds, dr, lp, xs, ps, f, R, r, rfl, F1, pnm, pl, Rn, Ri, fun F wl fkv H2 e2 hFn hF2 k2 TI => ?_⟩
    have F2 := flow_same e2 F1
    have yB2 := e1.trans e2
    have hBF : B F = none := e1.free hFn
    have hwl := tinv_len TI
    have hfl : fkv.length = wl.length := k2.length
    have hFdr : F ≠ dr := fun z => by rw [z, F1.ro] at hFn; cases hFn
    have hFx : x ≠ F := fun z => by rw [← z, e1 _ _ hxB] at hFn; cases hFn
    clear F1 e2 hFn
    refine ⟨F, _, hF2, trivial, fun od => ?_⟩
    have lk1 : upd H2 F (.frz od (.dT fkv)) F = some (.frz od (.dT fkv)) := upd_same
    have lkb := fun H' => lock_back (H' := H') (od := od) hF2
    have lkr : upd H2 F (.frz od (.dT fkv)) dr = some (.dT (kvI R r)) := by rw [upd_ne hFdr.symm]; exact F2.ro
    have lkx : upd H2 F (.frz od (.dT fkv)) x = some (.ins (He.ga K "Flow") dx0 [("pairs", .ref lp), ("sent", .ref ds), ("room", .ref dr)]) := by rw [upd_ne hFx]; exact yB2 _ _ hxB
    have lkf : ∀ b, upd H2 F (.frz od (.dT fkv)) b = none → H2 b = none ∧ b ≠ F := fun b h => lock_free h
    refine ⟨_, rfl, F, od, rfl, .inr ⟨_, lk1, fun D hD => ?_⟩⟩
    generalize upd H2 F (.frz od (.dT fkv)) = H3 at lk1 lkb lkr lkx lkf hD
    refine lc_it (n := fkv.length) (Gr H3 D fun i acc h => PAll h acc (freeW wl r i)) (gr_start hD .nil) (fun i H5 hi G => ⟨G.ext _ _ lk1, hi⟩) (fun H5 G => ⟨G.ext _ _ lk1, Nat.le_refl _⟩) ?_ ?_
    · rintro i y H5 H6 hi G ⟨rfl, kk, vv, q, hkv, rfl, hq⟩
      obtain ⟨⟨e, o⟩, he, hkk, _⟩ := paired_get k2 hkv
      obtain rfl : kk = kP e := hkk
      have hq2 : H6 q = some (.tup [.str e.1, .str e.2]) := hq
      have hil := (List.getElem?_eq_some_iff.mp he).1
      have hem : e ∈ wl.map (·.1) := List.mem_map.mpr ⟨_, List.mem_of_getElem? he, rfl⟩
      have heR : e ∈ R := (Ri e).2 (TI.isE e hem)
      obtain ⟨acc0, hacc0, _⟩ := G.lst
      have hqD : less D H6 q = some (.tup [.str e.1, .str e.2]) := less_at hacc0 hq2 (fun z => nomatch z)
      have hst : freeW wl r (i + 1) = freeW wl r i ++ (if (decide (e.1 = "old") && decide (0 < r e)) = true then [e] else []) := by
        unfold freeW
        rw [take_at he, List.map_append, List.filter_append]
        congr 1
        cases hz : (decide (e.1 = "old") && decide (0 < r e)) with
        | true => exact List.filter_cons_of_pos hz
        | false => exact List.filter_cons_of_neg (by show ¬ (decide (e.1 = "old") && decide (0 < r e)) = true; rw [hz]; decide)
      have hg := DGet.t (k := kP e) (G.ext _ _ lkr) (pt_key hq2)
      rw [kvI_mem heR] at hg
      refine ⟨rfl, _, rfl, q, _, _, _, rfl, rfl, SqT.of hq2, atI_nat (j := 0) rfl, rfl, _, rfl, ?_⟩
      by_cases hn : e.1 = "old"
      · refine iteB (decide_eq_true (by rw [hn])) ⟨_, rfl, x, _, dx0, _, _, rfl, G.ext _ _ lkx, cF, T.a_Flow_room, rfl, _, rfl, dr, _, rfl, hg, _, _, rfl, rfl, _, rfl, ?_⟩
        by_cases hr0 : 0 < r e
        · refine iteB (decide_eq_true hr0) ⟨_, rfl, gr_add G (Same.refl _) (by omega) (fun _ _ _ _ e h => pall_same e h) fun acc h => ?_⟩
          rw [hst, if_pos (by rw [decide_eq_true hn, decide_eq_true hr0]; rfl)]
          exact pall_snoc h ⟨q, rfl, hqD⟩
        · refine iteN (decide_eq_false hr0) (gr_skip G (Same.refl _) (fun _ _ _ _ e h => pall_same e h) fun acc h => ?_)
          rw [hst, if_neg (by rw [decide_eq_false hr0, Bool.and_false]; decide), List.append_nil]
          exact h
      · refine iteN (decide_eq_false fun h => hn (V.str.inj h)) (gr_skip G (Same.refl _) (fun _ _ _ _ e h => pall_same e h) fun acc h => ?_)
        rw [hst, if_neg (by rw [decide_eq_false hn, Bool.false_and]; decide), List.append_nil]
        exact h
    rintro H5 ⟨hD5, e5, ws, hws, hwl5, hws2⟩
    refine ⟨e5 _ _ lk1, ?_⟩
    have hfree : freeW wl r fkv.length = (wl.map (·.1)).filter fun e : Sd => decide (e.1 = "old") && decide (0 < r e) := by
      unfold freeW
      rw [List.take_of_length_le (by omega)]
    rw [hfree] at hws2
    obtain ⟨hD2, hDF⟩ := lkf D hD
    have y6 := lkb H5 e5
    have hW6 : upd H5 F (.dT fkv) D = some (.lst ws) := by rw [upd_ne hDF]; exact hws
    have hF6 : upd H5 F (.dT fkv) F = some (.dT fkv) := upd_same
    have P6 : PAll (upd H5 F (.dT fkv)) ws ((wl.map (·.1)).filter fun e : Sd => decide (e.1 = "old") && decide (0 < r e)) := pall_lock (e5 _ _ lk1) (fun _ z => nomatch z) (pall_same (less_sub _ _) hws2)
    generalize upd H5 F (.dT fkv) = H6 at y6 hW6 hF6 P6
    clear hws hwl5 hws2 e5 lkb lkr lkx lkf lk1 hD5 hD
    have F6 := flow_same y6 F2
    have yB6 := yB2.trans y6
    have k6 := fkv_same y6 k2
    have hx6 := yB6 _ _ hxB
    have okf : ∀ q ∈ (wl.map (·.1)).filter (fun e : Sd => decide (e.1 = "old") && decide (0 < r e)), Pok q := fun q hq => (isEnd_pok pnm (TI.isE q (List.mem_filter.mp hq).1)).1
    refine ⟨_, rfl, Nat.zero_le _, fun b0 hb0 => ?_⟩
    have yb := same_upd hb0 (o := .lst [])
    refine ⟨D, b0, ws, _, rfl, rfl, SqL.of (yb _ _ hW6), pall_dpa (pall_same yb P6), okf, SqL.of upd_same, _, rfl, ?_⟩
    have F7 := flow_same yb F6
    have yB7 := yB6.trans yb
    have k7 := fkv_same yb k6
    have hx7 := yB7 _ _ hxB
    have hF7 := yb _ _ hF6
    have hW7 := yb _ _ hW6
    have P7 := pall_same yb P6
    generalize upd H6 b0 (.lst []) = H7 at F7 yB7 k7 hx7 hF7 hW7 P7
    clear yb hb0 F6 yB6 k6 hx6 hF6 hW6 P6 y6 F2 yB2 k2 hF2 hfree hD2
    by_cases hfr : (wl.map (·.1)).filter (fun e : Sd => decide (e.1 = "old") && decide (0 < r e)) = []
    · refine iteB (by rw [hfr]; rfl) ?_
      have hno : ∀ y, sdO y ∈ wl.map (fun x => x.1) → r (sdO y) ≤ 0 := fun y hy => by
        rcases Int.lt_or_le 0 (r (sdO y)) with z | z
        · have : sdO y ∈ (wl.map (·.1)).filter (fun e : Sd => decide (e.1 = "old") && decide (0 < r e)) := List.mem_filter.mpr ⟨hy, by rw [decide_eq_true z]; rfl⟩
          rw [hfr] at this
          cases this
        · exact z
      obtain ⟨L1, L2⟩ := least_end FI Rn Ri hp0 TI hno
      have hRl := ends_len Rn fun e he => (Ri e).1 he
      refine ⟨dr, _, F7.ro, trivial, fun od2 => ?_⟩
      have lk1 : upd H7 dr (.frz od2 (.dT (kvI R r))) dr = some (.frz od2 (.dT (kvI R r))) := upd_same
      have lkb := fun H' => lock_back (H' := H') (od := od2) F7.ro
      have lkF : upd H7 dr (.frz od2 (.dT (kvI R r))) F = some (.dT fkv) := by rw [upd_ne hFdr]; exact hF7
      have hxdr : x ≠ dr := fun z => by rw [z, F7.ro] at hx7; cases hx7
      have lkx : upd H7 dr (.frz od2 (.dT (kvI R r))) x = some (.ins (He.ga K "Flow") dx0 [("pairs", .ref lp), ("sent", .ref ds), ("room", .ref dr)]) := by rw [upd_ne hxdr]; exact hx7
      have lkf : ∀ b, upd H7 dr (.frz od2 (.dT (kvI R r))) b = none → H7 b = none ∧ b ≠ dr := fun b h => lock_free h
      refine ⟨_, rfl, x, _, dx0, _, _, rfl, lkx, cF, T.a_Flow_room, rfl, dr, od2, rfl, .inr ⟨_, lk1, fun D2 hD2 => ?_⟩⟩
      generalize upd H7 dr (.frz od2 (.dT (kvI R r))) = H8 at lk1 lkb lkF lkx lkf hD2
      have hkvl : (kvI R r).length = R.length := kvI_len
      refine lc_it (n := (kvI R r).length) (Gr H8 D2 fun i acc h => PAll h acc (coverOf (R.take i) (wl.map fun x => x.1))) (gr_start hD2 .nil) (fun i H9 hi G => ⟨G.ext _ _ lk1, hi⟩) (fun H9 G => ⟨G.ext _ _ lk1, Nat.le_refl _⟩) ?_ ?_
      · rintro i y H9 H10 hi G ⟨rfl, kk, vv, q, hkv, rfl, hq⟩
        obtain ⟨e, he, hkk⟩ : ∃ e, R[i]? = some e ∧ kk = kP e := by
          unfold kvI at hkv
          rw [List.getElem?_map] at hkv
          cases hz : R[i]? with
          | none => rw [hz] at hkv; cases hkv
          | some e =>
            rw [hz] at hkv
            cases hkv
            exact ⟨e, rfl, rfl⟩
        subst hkk
        have hil := (List.getElem?_eq_some_iff.mp he).1
        have hq2 : H10 q = some (.tup [.str e.1, .str e.2]) := hq
        obtain ⟨acc0, hacc0, _⟩ := G.lst
        have hqD : less D2 H10 q = some (.tup [.str e.1, .str e.2]) := less_at hacc0 hq2 (fun z => nomatch z)
        have hst : coverOf (R.take (i + 1)) (wl.map fun x => x.1) = coverOf (R.take i) (wl.map fun x => x.1) ++ (if (decide (e.1 = "old") == decide (e ∈ wl.map fun x => x.1)) = true then [e] else []) := filter_at he
        have hsome : (valV fkv (kP e)).isSome = decide (e ∈ wl.map fun x => x.1) := by
          by_cases z : e ∈ wl.map fun x => x.1
          · obtain ⟨⟨e', o'⟩, z1, z2⟩ := List.mem_map.mp z
            simp only at z2
            subst z2
            obtain ⟨v, hv, _⟩ := fkv_some k7 TI.nd z1
            rw [hv, decide_eq_true z]
            rfl
          · rw [fkv_none k7 z, decide_eq_false z]
            rfl
        have hold : decide (V.str e.1 = V.str (Str.ofString "old")) = decide (e.1 = "old") := by
          rw [decide_eq_decide]
          exact ⟨fun h => V.str.inj h, fun h => by rw [h]⟩
        have hg := DGet.t (k := kP e) (G.ext _ _ lkF) (pt_key hq2)
        refine ⟨rfl, _, rfl, q, _, _, _, rfl, rfl, SqT.of hq2, atI_nat (j := 0) rfl, rfl, _, rfl, _, rfl, F, _, rfl, hg, rfl, _, rfl, ?_⟩
        have hb : decide (V.bl (decide (V.str e.1 = V.str (Str.ofString "old"))) = V.bl (valV fkv (kP e)).isSome) = (decide (e.1 = "old") == decide (e ∈ wl.map fun x => x.1)) := by
          rw [hold, hsome]
          cases decide (e.1 = "old") <;> cases decide (e ∈ wl.map fun x => x.1) <;> decide
        cases hz : (decide (e.1 = "old") == decide (e ∈ wl.map fun x => x.1)) with
        | true =>
          refine iteB (hb.trans hz) ⟨_, rfl, gr_add G (Same.refl _) (by omega) (fun _ _ _ _ e h => pall_same e h) fun acc h => ?_⟩
          rw [hst, if_pos hz]
          exact pall_snoc h ⟨q, rfl, hqD⟩
        | false =>
          refine iteN (hb.trans hz) (gr_skip G (Same.refl _) (fun _ _ _ _ e h => pall_same e h) fun acc h => ?_)
          rw [hst, if_neg (by rw [hz]; decide), List.append_nil]
          exact h
      · rintro H9 ⟨hD9, e9, zs, hzs, _, hzs2⟩
        refine ⟨e9 _ _ lk1, ?_⟩
        rw [hkvl, List.take_length] at hzs2
        obtain ⟨hD7, hDdr⟩ := lkf D2 hD2
        have y10 := lkb H9 e9
        refine k D2 zs _ f r _ (yB7.trans y10) (flow_same y10 F7) FI (by rw [upd_ne hDdr]; exact hzs) (pall_lock (e9 _ _ lk1) (fun _ z => nomatch z) (pall_same (less_sub _ _) hzs2)) L1 L2 (fun e he => (Ri e).1 (List.mem_filter.mp he).1) ?_
        have := List.length_filter_le (fun e : Sd => decide (e.1 = "old") == decide (e ∈ wl.map fun x => x.1)) R
        show (R.filter _).length ≤ 128
        omega
    · obtain ⟨e, rest, hfe⟩ : ∃ e rest, (wl.map (·.1)).filter (fun e : Sd => decide (e.1 = "old") && decide (0 < r e)) = e :: rest := by
        cases hz : (wl.map (·.1)).filter (fun e : Sd => decide (e.1 = "old") && decide (0 < r e)) with
        | nil => exact absurd hz hfr
        | cons e rest => exact ⟨e, rest, rfl⟩
      have hem : e ∈ (wl.map (·.1)).filter (fun e : Sd => decide (e.1 = "old") && decide (0 < r e)) := by rw [hfe]; exact List.mem_cons_self
      obtain ⟨hm1, hm2⟩ := List.mem_filter.mp hem
      rw [Bool.and_eq_true, decide_eq_true_iff, decide_eq_true_iff] at hm2
      have hey := old_of (TI.isE e hm1) hm2.1
      rw [hfe] at P7
      cases P7 with
      | @cons v0 _ _ _ hv0 hrest =>
        obtain ⟨t, rfl, ht⟩ := hv0
        refine iteN (by rw [hfe]; rfl) ⟨_, rfl, x, dx0, _, rfl, hx7, rfl, _, rfl, _, rfl, D, _, _, _, rfl, rfl, SqL.of hW7, atI_nat (j := 0) rfl, ?_⟩
        refine ⟨x, ds, dr, lp, F, t, xs, ps, f, pr, R, r, fkv, wl, e.2, rfl, F7, pl, pn, Rn, Ri, hF7, k7, TI, FI, ?_, ?_, ?_, fun f' r' H' e' F' FI' hlt => ?_⟩
        · rw [← hey]; exact ht
        · rw [← hey]; exact hm1
        · rw [← hey]; exact hm2.2
        have h0 := sumOn_nonneg FI'.r0
        exact ⟨_, by omega, f', r', _, _, _, rfl, (same_lessN hBdr (same_lessN hBds yB7)).trans e', F', FI', rfl⟩
end
end K59
/-! D27 -/
set_option Elab.async false
set_option linter.all false
set_option maxRecDepth 100000
set_option maxHeartbeats 2000000
namespace K59
open PySem PySem.Spec PyProof.Rows L2 LamX
/-- a cover object -/
def CoverAt (K : PySem.W.Frag) (H : Hp) (x : Addr) (c : Str) (pc : Int) (S : List Sd) (pk : List (Sd × Int)) : Prop :=
  ∃ (dx a b : Addr) (xs ys : List V), H x = some (.ins (He.ga K "Cover") dx [("column", .str c), ("price", .int pc), ("sides", .ref a), ("packing", .ref b)]) ∧ H a = some (.tup xs) ∧ PAll H xs S ∧ H b = some (.tup ys) ∧ WAll H ys pk
theorem cover_same {K : PySem.W.Frag} {H H' : Hp} {x : Addr} {c : Str} {pc : Int} {S : List Sd} {pk : List (Sd × Int)} (e : Same H H') (h : CoverAt K H x c pc S pk) : CoverAt K H' x c pc S pk := by
  obtain ⟨dx, a, b, xs, ys, h1, h2, h3, h4, h5⟩ := h
  exact ⟨dx, a, b, xs, ys, e _ _ h1, e _ _ h2, pall_same e h3, e _ _ h4, Paired.mapP h5 fun _ _ z => stepV_same e z⟩
section
variable {P : Program} {w : World} {K : PySem.W.Frag} {mg : Str → Option Value} {base : Heap}
abbrev s_fewest : Stmt := top 51
abbrev N_fewest : List Str := ["book", "column", "prices", "worths", "flow", "sides", "packing", "pair"]
theorem sc_fewest : FnScope N_fewest ["book", "column", "prices"] (defScope s_fewest) := ⟨rfl, rfl, rfl, by decide +kernel, rfl, by decide +kernel, by decide +kernel⟩
def sp_fewest (K : PySem.W.Frag) : Sp := fun vs H Q _ => ∃ (bv : V) (cols U : List Str) (ds : List Dd) (c : Str) (pA sp : Addr) (pr : Sd → Int) (m : Nat), vs = [bv, .str c, .ref pA] ∧ BookAt K H cols ds bv ∧ c ∈ cols ∧ (ds.map (·.nm)).Nodup ∧ (∀ d ∈ ds, Nm d.nm) ∧ DeedsU ds U ∧ U.length ≤ 4 ∧ ds.length ≤ 8 ∧ PricesAt K H pA sp pr m ∧ GoodP pr ∧
  ∀ (x : Addr) (pc : Int) (S : List Sd) (pk : List (Sd × Int)) (H' : Hp), Same H H' → CoverAt K H' x c pc S pk → Least pr (Succ cols ds c) pc → Covers (Succ cols ds c) S → (∀ e ∈ S, EndOf (Succ cols ds c) e) → S.length ≤ 128 → pk.length ≤ 64 → (∀ q ∈ pk, Succ cols ds c q.1 ∧ 0 ≤ q.2 ∧ q.2 ≤ 1000000000) → 0 ≤ pc ∧ pc ≤ 128000000000 → Q (.ref x) H'
theorem ok_fewest (T : Tx2 P K mg) : OkR P w K mg base 8 (He.fAd K ("fewest", none)) (sp_fewest K) := by
  have G_check_column : OkR P w K mg base 1 (He.fAd K ("check_column", none)) (sp_check_column K) := ok_check_column T
  have G_Prices_init : FnA P w K mg base 4 (He.fAd K ("Prices", some "__init__")) [] (fun vs _ H Q E => sp_Prices_init K vs H Q E) := ok_Prices_init T
  have G_all_successions : OkR P w K mg base 6 (He.fAd K ("all_successions", none)) (sp_all_successions K) := ok_all_successions T
  have G_Flow_init : FnA P w K mg base 6 (He.fAd K ("Flow", some "__init__")) [] (fun vs _ H Q E => sp_Flow_init K vs H Q E) := fnA_fnR (ok_Flow_init T).1
  have G_Flow_finish : OkR P w K mg base 3 (He.fAd K ("Flow", some "finish")) (sp_Flow_finish K) := ok_Flow_finish T
  have G_Prices_total : OkR P w K mg base 6 (He.fAd K ("Prices", some "total")) (sp_Prices_total K) := ok_Prices_total T
  have G_Cover_init : FnA P w K mg base 1 (He.fAd K ("Cover", some "__init__")) [] (fun vs _ H Q E => sp_Cover_init K vs H Q E) := fnA_fnR (ok_Cover_init T).1
  obtain ⟨fd, F⟩ := T.f_fewest
  have G : FnOk P w K mg base CX0 8 (He.fAd K ("fewest", none)) fd ["book", "column", "prices"] (sp_fewest K) := F.ok sc_fewest (fun vs H Q E h => by obtain ⟨_, _, _, _, _, _, _, _, _, rfl, _⟩ := h; rfl) fun cdv A outer s H vs Q E hr h => by
    obtain ⟨bv, cols, U, ds, c, pA, sp, pr, m, rfl, hb, hc, hnd, hnm, hU, hUl, hdl, hp, gp, k⟩ := h
    have main : ∃ t, PSs (cxOf CX0 P w K mg base N_fewest "fewest" (defScope s_fewest) (He.fAd K ("fewest", none)) cdv A outer s H E).nox (defBody s_fewest) t ∧ t { nx := fun _ H' => Q .non H', rt := Q } (start N_fewest [bv, .str c, .ref pA]) H := by
      refine ⟨_, 
    (pss_cons (ps_expr (pe_callF G_check_column (hr.mono (by decide)) (by rfl) T.g_check_column (pa_cons (pv 0) (pa_cons (pv 1) pa_nil)))) 
    (pss_cons (ps_set (i := 3) sc_fewest.nd rfl (Or.inl rfl) (pe_ifExp (pt_cmpR op_isN (pv 2) pe_non (nomark _)) (pe_makeA0 T.k_Prices G_Prices_init (hr.mono (by decide)) (by rfl) T.g_Prices pkn_nil) (pv 2))) 
    (pss_cons (ps_set (i := 4) sc_fewest.nd rfl (Or.inr rfl) (pe_makeA T.k_Flow G_Flow_init (hr.mono (by decide)) (by rfl) T.g_Flow (pa_cons (pe_callF G_all_successions (hr.mono (by decide)) (by rfl) T.g_all_successions (pa_cons (pv 0) (pa_cons (pv 1) pa_nil))) (pa_cons (pv 3) pa_nil)) pkn_nil)) 
    (pss_cons (ps_set (i := 5) sc_fewest.nd rfl (Or.inl rfl) (pe_callB (cr_sortPS K) (by rfl) T.n_sorted (by decide +kernel) (pa_cons (pe_methF0 K (pv 4) T.c_Flow T.m_Flow_finish G_Flow_finish (hr.mono (by decide))) pa_nil))) 
    (pss_cons (ps_setLc (i := 6) (own := [("pair", 7)]) (by rfl) sc_fewest.nd rfl rfl (sw_true rfl rfl rfl (by decide +kernel)) (pi_listK K (pe_fldK K (pv 4))) (blkOk_by (own := [("pair", 7)]) (N := N_fewest) (sc := (defScope s_fewest)) (by decide +kernel)) (fun _ _ _ _ _ => (pg_name (i := 7) sc_fewest.nd rfl (Or.inl rfl))) (fun _ _ _ _ _ => pts_one (pt_cmpR op_gt (pe_dget (hu_of hr) (pe_fldK K (pv 4)) (pv 7) (fun _ _ => rfl)) pe_int (nomark _))) (fun _ _ _ _ _ => (pe_tup (pa_cons (pv 7) (pa_cons (pe_dget (hu_of hr) (pe_fldK K (pv 4)) (pv 7) (fun _ _ => rfl)) pa_nil))))) 
    (pss_one (ps_ret (pe_makeA T.k_Cover G_Cover_init (hr.mono (by decide)) (by rfl) T.g_Cover (pa_cons (pv 1) (pa_cons (pe_methF K (pv 3) T.c_Prices T.m_Prices_total G_Prices_total (hr.mono (by decide)) (pa_cons (pv 5) pa_nil)) (pa_cons (pe_callTy (tupleK K) (by rfl) T.n_tuple (by decide +kernel) (pa_cons (pv 5) pa_nil)) (pa_cons (pe_callTy (tupleK K) (by rfl) T.n_tuple (by decide +kernel) (pa_cons (pv 6) pa_nil)) pa_nil)))) pkn_nil)))))))), ?_⟩
      have cF := T.c_Flow
      have hp1 : ∀ e, 1 ≤ pr e := fun e => (gp e).1
      refine ⟨_, rfl, _, rfl, bv, cols, ds, c, rfl, hb, hc, _, rfl, rfl, _, rfl, iteN (decide_eq_false fun z => nomatch z) ⟨_, rfl, ?_⟩⟩
      refine ⟨_, rfl, _, rfl, bv, cols, U, ds, c, rfl, hb, hnd, hU, hUl, hdl, fun lp xs ps H1 e1 hlp0 hlp hps pn pq pl => ⟨_, rfl, fun x dx hx hdx hne => ?_⟩⟩
      have pnm : ∀ p ∈ ps, Nm p.1 ∧ Nm p.2 := fun p hp' => by
        obtain ⟨d, hd, e, he, rfl, _⟩ := (pq p).1 hp'
        exact ⟨hnm d hd, hnm e he⟩
      have ym : Same H1 (upd (upd H1 dx (.own x)) x (.ins (He.ga K "Flow") dx [])) := (same_upd hdx).trans (same_upd (by rw [upd_ne hne.symm]; exact hx))
      refine ⟨x, dx, lp, pA, sp, xs, ps, pr, m, rfl, upd_same, ym _ _ hlp, pall_same ym hps, pn, pnm, pl, prices_same (e1.trans ym) hp, fun ds' dr R H3 e3 hds hdr hF Rn Ri => ⟨rfl, ?_⟩⟩
      have y3 := same_made hx hdx e3
      have hds1 := ym.free hds
      have hdr1 := ym.free hdr
      obtain ⟨dxf, hxf⟩ := hF.ex
      refine ⟨_, rfl, x, dxf, _, rfl, hxf, rfl, x, ds', dr, lp, xs, ps, _, pr, R, pr, rfl, hF, pnm, pl, pn, Rn, Ri, finv_start hp1, hp1, fun l zs C f' r' H4 e4 F4 FI hl hC L1 L2 hCE hCl => ⟨l, zs, rfl, .inl (SqL.of hl), isP_of (pall_dpa hC), fun ys p py hp' => ?_⟩⟩
      obtain ⟨C2, pC, hC2⟩ := pall_perm py hC
      have y4 : Same H1 H4 := (same_lessN hdr1 (same_lessN hds1 y3)).trans e4
      have y5 := same_upd hp' (o := .lst ys)
      have F5 := flow_same y5 F4
      have hp5 : upd H4 p (.lst ys) p = some (.lst ys) := upd_same
      have hC5 := pall_same y5 hC2
      have yH5 := (e1.trans y4).trans y5
      generalize upd H4 p (.lst ys) = H5 at y5 F5 hp5 hC5 yH5
      have P5 := prices_same yH5 hp
      obtain ⟨dx5, hx5⟩ := F5.ex
      have hxl : xs.length = ps.length := F5.pa.length
      refine ⟨_, rfl, x, _, dx5, _, _, rfl, hx5, cF, T.a_Flow_pairs, rfl, lp, rfl, ⟨_, SqL.of F5.pl⟩, fun D hD => ?_⟩
      refine lc_list (K := K) (a := lp) (xs := xs) (Gr H5 D fun i acc h => WAll h acc (((ps.take i).filter fun q => decide (0 < f' q)).map fun q => (q, f' q))) (gr_start hD .nil) (fun i H6 _ G => SqL.of (G.ext _ _ F5.pl)) ?_ ?_
      · rintro i y H6 hi G
        obtain ⟨q, t, hq, rfl, ht⟩ := pall_get F5.pa hi
        have hil := (List.getElem?_eq_some_iff.mp hq).1
        have F6 := flow_same G.ext F5
        have hg := DGet.t (k := kP q) F6.se (pt_key (G.ext _ _ ht))
        rw [kvI_mem (List.mem_of_getElem? hq)] at hg
        refine ⟨rfl, _, rfl, x, _, dx5, _, _, rfl, G.ext _ _ hx5, cF, T.a_Flow_sent, rfl, _, rfl, ds', _, rfl, hg, _, _, rfl, rfl, _, rfl, ?_⟩
        by_cases h0 : 0 < f' q
        · refine iteB (decide_eq_true h0) ⟨_, rfl, _, rfl, x, _, dx5, _, _, rfl, G.ext _ _ hx5, cF, T.a_Flow_sent, rfl, _, rfl, ds', _, rfl, hg, (show 2 ≤ sizeLine by decide), fun t2 ht2 => ?_⟩
          obtain ⟨_, hacc0, _⟩ := G.lst
          have y2 := same_upd ht2 (o := .tup [.ref t, .int (f' q)])
          refine gr_add G y2 (by omega) (fun _ _ _ _ e h => Paired.mapP h fun _ _ z => stepV_same e z) fun acc h => ?_
          rw [filter_at hq, if_pos (decide_eq_true h0), List.map_append]
          refine Paired.snoc h ⟨t2, .ref t, rfl, ?_, t, rfl, ?_⟩
          · rw [less_ne (ne_of_none hacc0 ht2).symm]
            exact upd_same
          · exact less_at (y2 _ _ hacc0) (y2 _ _ (G.ext _ _ ht)) (fun z => nomatch z)
        · refine iteN (decide_eq_false h0) (gr_skip G (Same.refl _) (fun _ _ _ _ e h => Paired.mapP h fun _ _ z => stepV_same e z) fun acc h => ?_)
          rw [filter_at hq, if_neg (by rw [decide_eq_false h0]; decide), List.append_nil]
          exact h
      rintro H6 ⟨hD6, e6, pk, hpk, hpkl, hW⟩
      rw [hxl, List.take_length] at hW
      rw [hxl] at hpkl
      have hW6 : WAll H6 pk ((ps.filter fun q => decide (0 < f' q)).map fun q => (q, f' q)) := Paired.mapP hW fun _ _ z => stepV_same (less_sub _ _) z
      have P6 := prices_same e6 P5
      obtain ⟨dxp, dd, kvs, q1, _⟩ := id P6.ex
      have hp6 := e6 _ _ hp5
      have hC6 := pall_same e6 hC5
      have hyl : ys.length = C2.length := hC6.length
      have hCl2 : C2.length ≤ 128 := by rw [pC.length_eq]; exact hCl
      have hsum : (C2.map pr).sum = sumOn C pr := sumOn_perm pC
      have hsides : ∀ e ∈ C2, SideP e := fun e he => by
        obtain ⟨q, hq, h2⟩ := hCE e (pC.mem_iff.mp he)
        obtain ⟨n1, n2⟩ := pnm q hq
        rcases h2 with rfl | rfl
        · exact ⟨true, _, rfl, n1⟩
        · exact ⟨false, _, rfl, n2⟩
      refine ⟨_, rfl, _, rfl, pA, dxp, _, rfl, q1, rfl, _, rfl, pA, sp, p, pr, m, ys, C2, rfl, P6, SqL.of hp6, pall_dpa hC6, hsides, by omega, fun H7 e7 => ?_⟩
      have y7 := e6.trans e7
      refine ⟨_, rfl, p, ys, rfl, .inl ⟨SqL.of (e7 _ _ hp6), fun a ha => ?_⟩⟩
      have ya := same_upd ha (o := .tup ys)
      have hD7 := ya _ _ (e7 _ _ hpk)
      refine ⟨_, rfl, D, pk, rfl, .inl ⟨SqL.of hD7, fun b hb' => ?_⟩⟩
      have yb := same_upd hb' (o := .tup pk)
      have ha8 := yb _ _ (upd_same (H := H7) (a := a) (o := .tup ys))
      have hb8 : upd (upd H7 a (.tup ys)) b (.tup pk) b = some (.tup pk) := upd_same
      have y8 := (e7.trans ya).trans yb
      have hC8 := pall_same y8 hC6
      have hW8 : WAll (upd (upd H7 a (.tup ys)) b (.tup pk)) pk ((ps.filter fun q => decide (0 < f' q)).map fun q => (q, f' q)) := Paired.mapP hW6 fun _ _ z => stepV_same y8 z
      have yH8 := (yH5.trans e6).trans y8
      generalize upd (upd H7 a (.tup ys)) b (.tup pk) = H8 at ha8 hb8 hC8 hW8 yH8
      intro xc dxc hxc hdxc hnec
      refine ⟨xc, dxc, _, _, _, _, rfl, upd_same, fun H9 e9 h9 => ⟨rfl, ?_⟩⟩
      have y9 := same_made hxc hdxc e9
      have hS : ∀ q, q ∈ ps ↔ Succ cols ds c q := pq
      rw [hsum] at h9
      have hpk64 : ((ps.filter fun q => decide (0 < f' q)).map fun q => (q, f' q)).length ≤ 64 := by
        rw [List.length_map]
        exact Nat.le_trans (List.length_filter_le _ _) pl
      refine k xc (sumOn C pr) C2 _ H9 (yH8.trans y9) ⟨_, a, b, ys, pk, h9, y9 _ _ ha8, pall_same y9 hC8, y9 _ _ hb8, Paired.mapP hW8 fun _ _ z => stepV_same y9 z⟩ (least_iff hS L1) (fun q hq => ((L2 q ((hS q).2 hq)).imp pC.mem_iff.mpr pC.mem_iff.mpr)) (fun e he => ?_) hCl2 hpk64 (fun q hq => ?_) ?_
      · obtain ⟨q, hq, h2⟩ := hCE e (pC.mem_iff.mp he)
        exact ⟨q, (hS q).1 hq, h2⟩
      · obtain ⟨q', hq', rfl⟩ := List.mem_map.mp hq
        obtain ⟨h1, h2⟩ := List.mem_filter.mp hq'
        have h2 := of_decide_eq_true h2
        refine ⟨(hS _).1 h1, Int.le_of_lt h2, ?_⟩
        have heR : sdN q'.1 ∈ R := (Ri _).2 ⟨q', h1, .inl rfl⟩
        have b1 := FI.bal _ heR
        have b2 := FI.r0 _ heR
        have b3 : f' q' * inc (sdN q'.1) q' ≤ sumOn ps fun p => f' p * inc (sdN q'.1) p := sumOn_ge (g := fun p => f' p * inc (sdN q'.1) p) (fun p hp' => Int.mul_nonneg (FI.f0 p hp') inc_nonneg) h1
        have b4 : inc (sdN q'.1) q' = 1 := by
          unfold inc
          rw [if_pos rfl, if_neg sd_ne]
          rfl
        have b5 := (gp (sdN q'.1)).2
        rw [b4, Int.mul_one] at b3
        show f' q' ≤ _
        omega
      · have g0 : 0 ≤ sumOn C pr := sumOn_nonneg fun e _ => by have := hp1 e; omega
        have g1 : sumOn C pr ≤ sumOn C fun _ => 1000000000 := sumOn_le fun e _ => (gp e).2
        have g2 : ∀ C : List Sd, (sumOn C fun _ => 1000000000) = 1000000000 * (C.length : Int) := fun C => by
          induction C with
          | nil => rfl
          | cons a r ih => rw [sumOn_cons, ih, List.length_cons]; omega
        rw [g2] at g1
        omega
    obtain ⟨t, ht, hq⟩ := main
    exact ⟨t, ht.nox, hq⟩
  obtain ⟨ds, hd, hb⟩ := F.binds1 (ps := ["book", "column", "prices"]) 3 1 (by simp) rfl (fun T kV doc pm an cdv ct us its h1 h2 => by
    match us, its, h1, h2 with
    | [_, _, _], [_], _, _ => exact ⟨_, rfl, rfl⟩)
  cases hd
  have R := G.raw hb .nil
  exact ⟨fun A outer s H us vs Q E hr e0 r h => R A outer s H us vs Q E hr e0 r (by show sp_fewest K (vs ++ []) H Q E; rw [List.append_nil]; exact h), F.kp⟩
end
end K59
/-! D28 -/
set_option Elab.async false
set_option linter.all false
set_option maxRecDepth 100000
set_option maxHeartbeats 2000000
namespace K59
open PySem PySem.Spec PyProof.Rows L2 LamX
/-- facts of drawn data -/
structure DaF (marks : List Str) (D : Da) : Prop where
  nd : ((D.rows.map (·.1)).map (·.nm)).Nodup
  nd2 : (D.rows.map (·.1.nm)).Nodup
  nm : ∀ d ∈ D.rows.map (·.1), Nm d.nm
  dU : DeedsU (D.rows.map (·.1)) (("" : Str) :: marks)
  Ul : (("" : Str) :: marks).length ≤ 4
  dl : (D.rows.map (·.1)).length ≤ 5
  rl : D.rows.length ≤ 5
  ok : ∀ d ∈ D.rows.map (·.1), DdOk D.cols marks d
  mkn : ∀ s ∈ marks, s ≠ ""
theorem data_facts {marks : List Str} {D : Da} (h : DaOk marks D) : DaF marks D := by
  have ok : ∀ d ∈ D.rows.map (·.1), DdOk D.cols marks d := fun d hd => by
    obtain ⟨r, hr, rfl⟩ := List.mem_map.mp hd
    exact (h.rowOk r hr).1
  refine ⟨?_, h.nameOk.2.1, fun d hd => ?_, fun d hd => ⟨(ok d hd).len, (ok d hd).src, fun p hp => ?_⟩, Nat.succ_le_succ h.mlen.2, by rw [List.length_map]; exact h.len, h.len, ok, fun s hs e => ?_⟩
  · rw [List.map_map]
    exact h.nameOk.2.1
  · obtain ⟨r, hr, rfl⟩ := List.mem_map.mp hd
    exact h.nameOk.1 _ (List.mem_map.mpr ⟨r, hr, rfl⟩)
  · have o := ok d hd
    cases hk : d.k with
    | mk =>
      obtain ⟨s, hs, e⟩ := o.hmk hk
      rw [e] at hp
      rw [List.mem_singleton.mp hp]
      exact List.mem_cons_of_mem _ hs
    | ch => exact List.mem_cons_of_mem _ (o.hch hk p hp).2
    | en => rw [(o.hen hk p hp).2]; exact List.mem_cons_self
  · have := (h.markOk.1 s hs).1
    rw [e] at this
    exact absurd this (by decide)
theorem sides_ne {marks : List Str} {D : Da} (h : DaOk marks D) {c : Str} (hc : c ∈ D.cols) {S : List Sd} (hS : ∀ q, q ∈ S ↔ IsSide D.cols (D.rows.map (·.1)) c q) : S ≠ [] := fun e => by
  obtain ⟨r, hr, hk⟩ := h.made
  have : (("new" : Str), r.1.nm) ∈ S := (hS _).2 ⟨r.1, List.mem_map.mpr ⟨r, hr, rfl⟩, .inl ⟨by unfold wrote; rw [if_pos hk]; exact hc, rfl⟩⟩
  rw [e] at this
  cases this
theorem inV_two {d e : Int} (h : d = 0 ∨ d = e) : inV (.int d) [.int 0, .int e] = true := by
  rcases h with rfl | rfl
  · simp [inV, eqV]
  · simp [inV, eqV]
section
variable {P : Program} {w : World} {K : PySem.W.Frag} {mg : Str → Option Value} {base : Heap}
abbrev s__law_moved : Stmt := top 86
abbrev N__law_moved : List Str := ["_law_bag_here", "_law_data_here", "_law_book_here", "_law_column", "_law_prices", "_law_due", "_law_sides_here", "_law_side", "_law_name", "_law_before", "_law_was", "_law_price_here", "_law_after"]
theorem sc__law_moved : FnScope N__law_moved ["_law_bag_here", "_law_data_here", "_law_book_here", "_law_column", "_law_prices", "_law_due"] (defScope s__law_moved) := ⟨rfl, rfl, rfl, by decide +kernel, rfl, by decide +kernel, by decide +kernel⟩
def sp_moved (K : PySem.W.Frag) : Sp := fun vs H Q _ => ∃ (B : Hp) (b : Addr) (v bv : V) (c : Str) (x sp du : Addr) (D : Da) (marks : List Str) (pr : Sd → Int) (m n : Nat), vs = [.ref b, v, bv, .str c, .ref x, .ref du] ∧ Same B H ∧ B sp = none ∧ B b = some (BagO b) ∧ Dp K B v (daD D) ∧ DaOk marks D ∧ BookAt K B D.cols (D.rows.map (·.1)) bv ∧ c ∈ D.cols ∧
  PricesAt K H x sp pr m ∧ m ≤ 20 ∧ DueAt H du pr (IsSide D.cols (D.rows.map (·.1)) c) n ∧ GoodP pr ∧ sp ≠ du ∧ ∀ H', Same (less sp H) H' → Q (.bl true) H'
theorem ok_moved (T : Tx2 P K mg) : OkR P w K mg base 9 (He.fAd K ("_law_moved", none)) (sp_moved K) := by
  have G__law_sides : OkR P w K mg base 2 (He.fAd K ("_law_sides", none)) (sp_sides K) := ok_sides T
  have G__law_of : OkR P w K mg base 2 (He.fAd K ("_law_of", none)) sp_of := ok_of T.toTx0
  have G_fewest : OkR P w K mg base 8 (He.fAd K ("fewest", none)) (sp_fewest K) := ok_fewest T
  have G_Prices_setitem : OkR P w K mg base 4 (He.fAd K ("Prices", some "__setitem__")) (sp_Prices_setitem K) := ok_Prices_setitem T
  refine mkR T.f__law_moved sc__law_moved (fun vs H Q E h => ?_) (fun _ _ _ _ _ _ us hl => match us, hl with | [_, _, _, _, _, _], _ => rfl) fun cdv A outer s H vs Q E hr h => ?_
  · obtain ⟨_, _, _, _, _, _, _, _, _, _, _, _, _, rfl, _⟩ := h
    rfl
  · obtain ⟨B, b, v, bv, c, x, sp, du, D, marks, pr, m, n, rfl, eB, hBs, hb, hv, hok, hbv, hc, hp, hm, hdu, gp, hsd, k⟩ := h
    refine ⟨_, 
    (pss_cons (ps_set (i := 6) sc__law_moved.nd rfl (Or.inl rfl) (pe_callF G__law_sides (hr.mono (by decide)) (by rfl) T.g__law_sides (pa_cons (pv 1) (pa_cons (pv 3) pa_nil)))) 
    (pss_cons (ps_asg (pe_callF G__law_of (hr.mono (by decide)) (by rfl) T.g__law_of (pa_cons (pv 0) (pa_cons (pv 6) pa_nil))) (pg_tupK (n := 2) K (by rfl) (pgs_cons (pg_name (i := 7) sc__law_moved.nd rfl (Or.inl rfl)) (pgs_cons (pg_name (i := 8) sc__law_moved.nd rfl (Or.inl rfl)) pgs_nil)))) 
    (pss_cons (ps_par (i := 9) (j := 10) (by rfl) sc__law_moved.nd rfl rfl (by decide) rfl rfl (pa_cons (pe_fldK K (pe_callF G_fewest (hr.mono (by decide)) (by rfl) T.g_fewest (pa_cons (pv 2) (pa_cons (pv 3) (pa_cons (pv 4) pa_nil))))) (pa_cons (pe_dget (hu_of hr) (pv 5) (pe_tup (pa_cons (pv 7) (pa_cons (pv 8) pa_nil))) (fun _ _ => rfl)) pa_nil)) (by rfl)) 
    (pss_cons (ps_for PassesOwn.never rfl (pi_listK K (pe_lst (pa_cons (pe_op op_add (pv 10) pe_int) (pa_cons (pe_op op_sub (pv 10) pe_int) (pa_cons (pv 10) pa_nil))))) (pg_name (i := 11) sc__law_moved.nd rfl (Or.inl rfl)) 
      (pss_one (ps_if (pt_chain op_le op_le pe_int (pv 11) (pe_op op_pow pe_int pe_int)) 
        (pss_cons (ps_asg (pv 11) (pg_sub (pv 4) (pe_tup (pa_cons (pv 7) (pa_cons (pv 8) pa_nil))) (set_own T.m_Prices_setitem T.q_Prices G_Prices_setitem (hr.mono (by decide))))) 
        (pss_cons (ps_set (i := 12) sc__law_moved.nd rfl (Or.inl rfl) (pe_fldK K (pe_callF G_fewest (hr.mono (by decide)) (by rfl) T.g_fewest (pa_cons (pv 2) (pa_cons (pv 3) (pa_cons (pv 4) pa_nil)))))) 
        (pss_one (ps_if (pt_cmpR (notInK K) (pe_op op_sub (pv 12) (pv 9)) (pe_lst (pa_cons pe_int (pa_cons (pe_op op_sub (pv 11) (pv 10)) pa_nil))) (by rfl)) 
          (pss_one (ps_ret pe_bl)) pss_nil)))) pss_nil))) 
    (pss_one (ps_ret pe_bl)))))), ?_⟩
    have DF := data_facts hok
    have hrow : ∀ d ∈ D.rows.map (·.1), Nm d.nm := DF.nm
    refine ⟨_, rfl, _, rfl, v, c, D, rfl, dp_same eB hv, DF.nd2, DF.rl, fun l xs S H1 e1 hl0 hl hS Sn Si Sl => ?_⟩
    have y1 := eB.trans e1
    have hxl : xs.length = S.length := hS.length
    have hSne := sides_ne hok hc Si
    have hxne : xs ≠ [] := fun z => hSne (List.length_eq_zero_iff.mp (by rw [← hxl, z]; rfl))
    refine ⟨_, rfl, _, rfl, b, l, xs, rfl, y1 _ _ hb, hl, hxne, by omega, fun i u hu => ?_⟩
    obtain ⟨p, t, hp', rfl, ht⟩ := pall_get hS hu
    have hpS := List.mem_of_getElem? hp'
    have hpI := (Si p).1 hpS
    obtain ⟨b', n', hpe, hn'⟩ := side_of hpI hrow
    refine ⟨t, _, rfl, SqT.of ht, rfl, _, _, rfl, _, _, rfl, rfl, ?_⟩
    have P1 := prices_same e1 hp
    refine ⟨_, rfl, _, rfl, _, rfl, bv, D.cols, _, _, c, x, sp, pr, m, rfl, book_same y1 hbv, hc, DF.nd, DF.nm, DF.dU, DF.Ul, Nat.le_trans DF.dl (by decide), P1, gp, fun xc pc S1 pk H2 e2 hcov L1 _ _ _ _ _ _ => ?_⟩
    obtain ⟨dxc, _, _, _, _, hxc, _⟩ := hcov
    refine ⟨xc, _, dxc, _, _, rfl, hxc, T.c_Cover, T.a_Cover_price, rfl, _, rfl, _, rfl, _, rfl, (show 2 ≤ sizeLine by decide), fun q hq => ?_⟩
    have yq := same_upd hq (o := .tup [.str p.1, .str p.2])
    obtain ⟨kvs, hdk, hdv, _⟩ := due_same ((e1.trans e2).trans yq) hdu
    have hg := DGet.t (k := kP p) hdk (b := q) upd_same
    rw [hdv p hpI] at hg
    refine ⟨du, _, rfl, hg, _, _, rfl, ?_⟩
    have y2 := (e1.trans e2).trans yq
    generalize upd H2 q (.tup [.str p.1, .str p.2]) = H3 at y2
    clear hdk hdv hg yq hq hxc e2 P1 hS hl hl0 ht y1 e1 hu
    refine ⟨_, rfl, _, _, rfl, rfl, _, rfl, _, _, rfl, rfl, _, rfl, (show 3 ≤ sizeLine by decide), fun L hL => ?_⟩
    have yL := y2.trans (same_upd hL (o := .lst [.int (pr p + 1), .int (pr p - 1), .int (pr p)]))
    have hLL : upd H3 L (.lst [.int (pr p + 1), .int (pr p - 1), .int (pr p)]) L = some (.lst [.int (pr p + 1), .int (pr p - 1), .int (pr p)]) := upd_same
    generalize upd H3 L (.lst [.int (pr p + 1), .int (pr p - 1), .int (pr p)]) = H4 at yL hLL
    clear y2 hL H3
    have P4 := prices_same yL hp
    obtain ⟨dxp, dd, kvp, w1, w2, _⟩ := id P4.ex
    have hC4 : Same (less sp H4) H4 := less_sub _ _
    have hCs : less sp H4 sp = none := less_x
    have hBC : Same B (less sp H4) := same_lessN hBs (eB.trans yL)
    have hHC : Same (less sp H) (less sp H4) := less_same yL
    have hLC : less sp H4 L = some (.lst [.int (pr p + 1), .int (pr p - 1), .int (pr p)]) := less_at w2 hLL (fun z => nomatch z)
    have hxC : less sp H4 x = some (.ins (He.ga K "Prices") dxp [("default", .int dd), ("set_prices", .ref sp)]) := less_at w2 w1 (fun z => nomatch z)
    generalize less sp H4 = C at hC4 hCs hBC hHC hLC hxC
    generalize less sp H = A0 at k hHC
    refine ⟨L, rfl, ⟨_, SqL.of hLL⟩, for_lst (K := K) (a := L) (xs := [.int (pr p + 1), .int (pr p - 1), .int (pr p)]) (fun i σ Hk => ∃ (v11 v12 : Option V) (pr' : Sd → Int) (m' : Nat), σ = [some (.ref b), some v, some bv, some (.str c), some (.ref x), some (.ref du), some (.ref l), some (.str p.1), some (.str p.2), some (.int pc), some (.int (pr p)), v11, v12] ∧ Same C Hk ∧ PricesAt K Hk x sp pr' m' ∧ m' ≤ m + i ∧ GoodP pr' ∧ ∀ q, q ≠ p → pr' q = pr q) ⟨none, none, pr, m, rfl, hC4, P4, Nat.le_refl _, gp, fun _ _ => rfl⟩ (fun i σ Hk _ ⟨_, _, _, _, _, e, _⟩ => SqL.of (e _ _ hLC)) ?_ ?_⟩
    · rintro i y σ Hk hi ⟨v11, v12, pr', m', rfl, ek, pk', hm', gp', hpr⟩
      obtain ⟨z, rfl, hz⟩ : ∃ z, y = V.int z ∧ (z = pr p + 1 ∨ z = pr p - 1 ∨ z = pr p) := by
        match i, hi with
        | 0, hi => cases hi; exact ⟨_, rfl, .inl rfl⟩
        | 1, hi => cases hi; exact ⟨_, rfl, .inr (.inl rfl)⟩
        | 2, hi => cases hi; exact ⟨_, rfl, .inr (.inr rfl)⟩
      have hi3 : i < 3 := (List.getElem?_eq_some_iff.mp hi).1
      have c9 : CPow 10 9 := ⟨by decide, by decide, by decide⟩
      have e9 : ((10 : Int) ^ (9 : Int).toNat) = 1000000000 := by decide
      refine ⟨_, rfl, _, _, rfl, rfl, _, rfl, ?_⟩
      by_cases h1 : 1 ≤ z
      · refine iteB (decide_eq_true h1) ⟨_, _, rfl, rfl, c9, _, _, rfl, rfl, _, rfl, ?_⟩
        rw [e9]
        by_cases h2 : z ≤ 1000000000
        · refine iteB (decide_eq_true h2) ?_
          refine ⟨_, rfl, _, rfl, _, rfl, _, rfl, (show 2 ≤ sizeLine by decide), fun q4 hq4 => ?_⟩
          have y4 := same_upd hq4 (o := .tup [.str p.1, .str p.2])
          have ht4 : upd Hk q4 (.tup [.str p.1, .str p.2]) q4 = some (.tup [.str (sideS b'), .str n']) := by rw [upd_same, hpe]
          refine ⟨x, dxp, _, rfl, (ek.trans y4) _ _ hxC, x, sp, q4, pr', m', b', n', z, rfl, prices_same y4 pk', SqT.of ht4, hn', h1, h2, by omega, fun H5 e5 p5 => ?_⟩
          rw [← hpe] at p5
          have y5 := same_lessM (ek.trans y4) hCs e5
          have hpr2 : setPr pr' p z = setPr pr p z := by
            funext q
            unfold setPr
            by_cases hq : q = p
            · rw [if_pos hq, if_pos hq]
            · rw [if_neg hq, if_neg hq, hpr q hq]
          rw [hpr2] at p5
          have g5 : GoodP (setPr pr p z) := good_set gp h1 h2
          refine ⟨_, rfl, _, rfl, _, rfl, bv, D.cols, _, _, c, x, sp, _, m' + 1, rfl, book_same (hBC.trans y5) hbv, hc, DF.nd, DF.nm, DF.dU, DF.Ul, Nat.le_trans DF.dl (by decide), p5, g5, fun xc2 pc2 S2 pk2 H6 e6 hcov2 L2 _ _ _ _ _ _ => ?_⟩
          obtain ⟨dxc2, _, _, _, _, hxc2, _⟩ := hcov2
          have mv := least_move L1 L2
          refine ⟨xc2, _, dxc2, _, _, rfl, hxc2, T.c_Cover, T.a_Cover_price, rfl, ?_⟩
          refine ⟨_, rfl, _, rfl, _, _, rfl, rfl, _, rfl, _, rfl, _, _, rfl, rfl, (show 2 ≤ sizeLine by decide), fun L2 hL2 => ?_⟩
          refine ⟨L2, _, rfl, .inl (SqL.of upd_same), rfl, rfl, _, rfl, iteN ?_ ?_⟩
          · show (if true = true then !inV (V.int (pc2 - pc)) [V.int 0, V.int (z - pr p)] else _) = false
            rw [if_pos rfl, inV_two]
            · rfl
            · rcases hz with h | h | h
              · rcases mv.1 h with q | q <;> omega
              · rcases mv.2.1 h with q | q <;> omega
              · have := mv.2.2 h
                omega
          · refine ⟨_, _, setPr pr p z, m' + 1, rfl, (y5.trans e6).trans (same_upd hL2), prices_same (e6.trans (same_upd hL2)) p5, by omega, g5, fun q hq => ?_⟩
            unfold setPr
            rw [if_neg hq]
        · exact iteN (decide_eq_false h2) ⟨_, _, pr', m', rfl, ek, pk', by omega, gp', hpr⟩
      · refine iteN (decide_eq_false h1) ⟨_, rfl, iteN rfl ⟨_, _, pr', m', rfl, ek, pk', by omega, gp', hpr⟩⟩
    · rintro σ Hk ⟨v11, v12, pr', m', rfl, ek, _⟩
      exact k Hk (hHC.trans ek)
end
end K59
/-! R18 -/
set_option Elab.async false
set_option linter.all false
set_option maxRecDepth 100000
set_option maxHeartbeats 2000000
/-! repr of nested tuples, where no repr is under way -/
namespace K59
open PySem PySem.Spec PyProof.Rows L2
def rRepr (K : PySem.W.Frag) : List V → Hp → VK → Prop := fun xs H Q => ∃ (a : Addr) (d : PyData), xs = [.ref a] ∧ Dp K H (.ref a) d ∧ d.showable = true ∧ d.hasDict = false ∧ d.depth ≤ 8 ∧ d.shown.length ≤ sizeLine ∧ Q (.str d.shown) H
section
variable {X : Cx}
theorem call_reprD (K : PySem.W.Frag) (hg : X.A.guards = some []) (hu : X.A.units + 65 < cLine) (hK : X.K = K := by rfl) : CallR X (.builtin "repr") (rRepr K) := by
  subst hK
  intro pins s σ H xs us Q I r h
  obtain ⟨a, d, rfl, hd, hs, hnd, hdp, hz, q⟩ := h
  obtain ⟨u, rfl, ru⟩ := vals1 r
  obtain rfl : u = Value.ref a := ru
  obtain ⟨as, r1⟩ := Dp.reads I d _ _ hd rfl
  exact repr_of_reads' r1 hs (fun z => by rw [hnd] at z; cases z) hg (by omega) (fun _ _ e => e) (fun h' u tk hk => ⟨.str _, H, I.kept hk, ⟨_, rfl⟩, q⟩) hz
end
/-! ### what is told -/
def packD (q : (Str × Str) × Int) : PyData := .tuple [pairD q.1, .int q.2]
def toldD (c : Str) (p : Int) (S : List (Str × Str)) (pk : List ((Str × Str) × Int)) : PyData := .tuple [.str c, .int p, .tuple (S.map pairD), .tuple (pk.map packD)]
def SmallI (i : Int) : Prop := i.natAbs < 10 ^ 12
def Nm8 (p : Str × Str) : Prop := Nm p.1 ∧ Nm p.2
theorem small_log {i : Int} (h : SmallI i) : i.natAbs.log2 < 64 := by
  by_cases z : i.natAbs = 0
  · rw [z]; decide
  · exact (Nat.log2_lt z).2 (Nat.lt_of_lt_of_le h (by decide))
theorem pairD_show (p : Str × Str) : (pairD p).showable = true ∧ (pairD p).hasDict = false := by simp [pairD, PyData.showable, PyData.showableAll, PyData.hasDict, PyData.hasDictAll]
theorem pairs_show : ∀ ps : List (Str × Str), PyData.showableAll (ps.map pairD) = true ∧ PyData.hasDictAll (ps.map pairD) = false ∧ PyData.intsShortAll 13 (ps.map pairD) = true
  | [] => by simp [PyData.showableAll, PyData.hasDictAll, PyData.intsShortAll]
  | p :: ps => by
    obtain ⟨h1, h2, h3⟩ := pairs_show ps
    obtain ⟨h4, h5⟩ := pairD_show p
    have h6 : (pairD p).intsShort 13 = true := by simp [pairD, PyData.intsShort, PyData.intsShortAll]
    simp [PyData.showableAll, PyData.hasDictAll, PyData.intsShortAll, h1, h2, h3, h4, h5, h6]
theorem pairD_weight {p : Str × Str} (h : Nm8 p) : (pairD p).weight ≤ 18 := by
  have h1 := h.1.2.1
  have h2 := h.2.2.1
  have e1 : p.1.cps.size ≤ 8 := h1
  have e2 : p.2.cps.size ≤ 8 := h2
  simp only [pairD, PyData.weight, PyData.weightAll]
  omega
theorem pairs_weight : ∀ {ps : List (Str × Str)}, (∀ p ∈ ps, Nm8 p) → PyData.weightAll (ps.map pairD) ≤ 19 * ps.length
  | [], _ => by simp [PyData.weightAll]
  | p :: ps, h => by
    have h1 := pairs_weight fun q hq => h q (List.mem_cons_of_mem _ hq)
    have h2 := pairD_weight (h p List.mem_cons_self)
    simp only [List.map_cons, PyData.weightAll, List.length_cons]
    omega
theorem int_weight {i : Int} (h : SmallI i) : (PyData.int i).weight ≤ 64 := by
  have := small_log h
  simp only [PyData.weight]
  split <;> omega
theorem packD_facts {q : (Str × Str) × Int} (h : Nm8 q.1) (hi : SmallI q.2) : (packD q).showable = true ∧ (packD q).hasDict = false ∧ (packD q).intsShort 13 = true ∧ (packD q).canLay0 = true ∧ (packD q).depth ≤ 2 ∧ (packD q).weight ≤ 84 := by
  obtain ⟨h4, h5⟩ := pairD_show q.1
  have h6 : (pairD q.1).intsShort 13 = true := by simp [pairD, PyData.intsShort, PyData.intsShortAll]
  have h7 := pairD_lay (pok_nm h.1 h.2)
  have h8 := pairD_depth q.1
  have h9 := pairD_weight h
  have h10 := int_weight hi
  have h11 := small_log hi
  have h12 := PyData.shown_int_le hi
  refine ⟨?_, ?_, ?_, ?_, ?_, ?_⟩
  · simp only [packD, PyData.showable, PyData.showableAll, h4, Bool.true_and, Bool.and_true]
    exact decide_eq_true (by omega)
  · simp [packD, PyData.hasDict, PyData.hasDictAll, h5]
  · simp only [packD, PyData.intsShort, PyData.intsShortAll, h6, Bool.true_and, Bool.and_true]
    exact decide_eq_true h12
  · simp [packD, PyData.canLay0, PyData.canLayAll0, h7]
  · simp only [packD, PyData.depth, PyData.depthAll, h8]
    omega
  · have e : (packD q).weight = (pairD q.1).weight + 1 + ((PyData.int q.2).weight + 1 + 0) := by simp only [packD, PyData.weight, PyData.weightAll]
    omega
theorem packs_facts : ∀ {ps : List ((Str × Str) × Int)}, (∀ q ∈ ps, Nm8 q.1 ∧ SmallI q.2) → PyData.showableAll (ps.map packD) = true ∧ PyData.hasDictAll (ps.map packD) = false ∧ PyData.intsShortAll 13 (ps.map packD) = true ∧
    PyData.canLayAll0 (ps.map packD) = true ∧ PyData.depthAll (ps.map packD) ≤ 2 ∧ PyData.weightAll (ps.map packD) ≤ 85 * ps.length
  | [], _ => by simp [PyData.showableAll, PyData.hasDictAll, PyData.intsShortAll, PyData.canLayAll0, PyData.depthAll, PyData.weightAll]
  | q :: ps, h => by
    obtain ⟨h1, h2, h3, h4, h5, h6⟩ := packs_facts fun q hq => h q (List.mem_cons_of_mem _ hq)
    obtain ⟨g1, g2, g3, g4, g5, g6⟩ := packD_facts (h q List.mem_cons_self).1 (h q List.mem_cons_self).2
    refine ⟨?_, ?_, ?_, ?_, ?_, ?_⟩
    · simp [PyData.showableAll, h1, g1]
    · simp [PyData.hasDictAll, h2, g2]
    · simp [PyData.intsShortAll, h3, g3]
    · simp [PyData.canLayAll0, h4, g4]
    · simp only [List.map_cons, PyData.depthAll]
      omega
    · simp only [List.map_cons, PyData.weightAll, List.length_cons]
      omega
theorem told_facts {c : Str} {p : Int} {S : List (Str × Str)} {pk : List ((Str × Str) × Int)} (hc : Nm c) (hp : SmallI p) (hS : ∀ p ∈ S, Nm8 p) (hSl : S.length ≤ 200) (hk : ∀ q ∈ pk, Nm8 q.1 ∧ SmallI q.2) (hkl : pk.length ≤ 100) :
    (toldD c p S pk).showable = true ∧ (toldD c p S pk).hasDict = false ∧ (toldD c p S pk).depth ≤ 8 ∧ (toldD c p S pk).shown.length ≤ sizeLine := by
  obtain ⟨h1, h2, h3⟩ := pairs_show S
  have h4 := pairDs_lay fun q hq => pok_nm (hS q hq).1 (hS q hq).2
  have h5 := pairDs_depth S
  have h6 := pairs_weight hS
  obtain ⟨g1, g2, g3, g4, g5, g6⟩ := packs_facts hk
  have i1 := small_log hp
  have i2 := int_weight hp
  have i3 := PyData.shown_int_le hp
  have hd : (toldD c p S pk).depth ≤ 8 := by
    simp only [toldD, PyData.depth, PyData.depthAll]
    omega
  have hc8 : c.cps.size ≤ 8 := hc.2.1
  have hw : (toldD c p S pk).weight ≤ 2 ^ 20 := by
    have e : (toldD c p S pk).weight = (PyData.str c).weight + 1 + ((PyData.int p).weight + 1 + (PyData.weightAll (S.map pairD) + 1 + (PyData.weightAll (pk.map packD) + 1 + 0))) := by
      simp only [toldD, PyData.weight, PyData.weightAll]
    have e2 : (PyData.str c).weight = c.cps.size := by simp only [PyData.weight]
    rw [e, e2]
    have : 2 ^ 20 = 1048576 := by decide
    omega
  have hl : (toldD c p S pk).canLay0 = true := by simp [toldD, PyData.canLay0, PyData.canLayAll0, h4, g4, nm_ok hc]
  have hi : (toldD c p S pk).intsShort 13 = true := by
    simp only [toldD, PyData.intsShort, PyData.intsShortAll, h3, g3, Bool.true_and, Bool.and_true]
    exact decide_eq_true i3
  refine ⟨?_, ?_, hd, ?_⟩
  · simp only [toldD, PyData.showable, PyData.showableAll, h1, g1, Bool.true_and, Bool.and_true]
    exact decide_eq_true (by omega)
  · simp [toldD, PyData.hasDict, PyData.hasDictAll, h2, g2]
  · refine PyData.shown_fits_of_layable0 (B := 13) (by decide) (by decide) ?_ hi
    show ((toldD c p S pk).canLay0 && decide ((toldD c p S pk).depth ≤ 64) && decide ((toldD c p S pk).weight ≤ 2 ^ 20)) = true
    rw [hl, decide_eq_true (by omega : (toldD c p S pk).depth ≤ 64), decide_eq_true hw]
    rfl
end K59
/-! D05 -/
set_option Elab.async false
set_option linter.all false
set_option maxRecDepth 100000
namespace K59
open PySem PySem.Spec PyProof.Rows L2
section
variable {P : Program} {w : World} {K : PySem.W.Frag} {mg : Str → Option Value} {base : Heap}
abbrev s__law_data : Stmt := top 68
abbrev N__law_data : List Str := ["_law_bag_here", "_law_many", "_law_states", "_law_deeds", "_law_words", "_law_marks", "_law_found", "_law_k", "_law_name", "_law_kind"]
theorem sc__law_data : FnScope N__law_data ["_law_bag_here", "_law_many", "_law_states", "_law_deeds"] (defScope s__law_data) := ⟨rfl, rfl, rfl, by decide +kernel, rfl, by decide +kernel, by decide +kernel⟩
def sp_data (K : PySem.W.Frag) : Sp := fun vs H Q _ => ∃ (b : Addr), vs = [.ref b, .int 2, .int 3, .int 5] ∧ H b = some (BagO b) ∧
  ∀ (v : V) (D : Da) (marks : List Str) (H' : Hp), Same H H' → Dp K H' v (daD D) → DaOk marks D → Q v H'
def DataPv (K : PySem.W.Frag) (b aw as F an : Addr) (H2 : Hp) (cols marks names : List Str) (i : Nat) (σ : L2.St) (H4 : Hp) : Prop :=
  ∃ (v7 v8 v9 : Option V) (acc : List V) (rows : List (Dd × Option Nt)), σ = [some (.ref b), some (.int 2), some (.int 3), some (.int 5), some (.ref aw), some (.ref as), some (.ref F), v7, v8, v9] ∧
    Same H2 H4 ∧ H4 an = some (.lst (names.map V.str)) ∧ H4 F = some (.lst acc) ∧ acc.length = i ∧ DpAll K (less F H4) acc (rows.map ddD) ∧ rows.map (·.1.nm) = names.take i ∧ (∀ r ∈ rows, DdOk cols marks r.1 ∧ NtOk (wordsOf cols r.1) r.2) ∧ (0 < i → ∃ r ∈ rows, r.1.k = .mk)
theorem ok_data (T : Tx0 K mg) : OkR P w K mg base 4 (He.fAd K ("_law_data", none)) (sp_data K) := by
  have G__law_take : OkR P w K mg base 1 (He.fAd K ("_law_take", none)) sp_take := ok_take T
  have G__law_of : OkR P w K mg base 2 (He.fAd K ("_law_of", none)) sp_of := ok_of T
  have G__law_names : OkR P w K mg base 3 (He.fAd K ("_law_names", none)) (sp_names K) := ok_names T
  have G__law_deed : OkR P w K mg base 3 (He.fAd K ("_law_deed", none)) (sp_deed K) := ok_deed T
  refine mkR T.f__law_data sc__law_data (fun vs H Q E h => ?_) (fun _ _ _ _ _ _ us hl => match us, hl with | [_, _, _, _], _ => rfl) fun cdv A outer s H vs Q E hr h => ?_
  · obtain ⟨_, rfl, _⟩ := h
    rfl
  · obtain ⟨b, rfl, hb, k⟩ := h
    refine ⟨_, 
    (pss_cons (ps_set (i := 4) sc__law_data.nd rfl (Or.inl rfl) (pe_callF G__law_names (hr.mono (by decide)) (by rfl) T.g__law_names (pa_cons (pv 0) (pa_cons (pe_callF G__law_take (hr.mono (by decide)) (by rfl) T.g__law_take (pa_cons (pv 0) (pa_cons (pe_op op_add (pv 1) pe_int) pa_nil))) (pa_cons (pe_lst (pa_cons pe_str (pa_cons pe_str (pa_cons pe_str pa_nil)))) pa_nil))))) 
    (pss_cons (ps_set (i := 5) sc__law_data.nd rfl (Or.inl rfl) (pe_callF G__law_names (hr.mono (by decide)) (by rfl) T.g__law_names (pa_cons (pv 0) (pa_cons (pe_op op_add pe_int (pe_callF G__law_take (hr.mono (by decide)) (by rfl) T.g__law_take (pa_cons (pv 0) (pa_cons (pv 2) pa_nil)))) (pa_cons (pe_lst pa_nil) pa_nil))))) 
    (pss_cons (ps_set (i := 6) sc__law_data.nd rfl (Or.inl rfl) (pe_lst pa_nil)) 
    (pss_cons (ps_for PassesOwn.never rfl (pi_enumK K (by rfl) T.n_enumerate (pa_cons (pe_callF G__law_names (hr.mono (by decide)) (by rfl) T.g__law_names (pa_cons (pv 0) (pa_cons (pe_op op_add pe_int (pe_callF G__law_take (hr.mono (by decide)) (by rfl) T.g__law_take (pa_cons (pv 0) (pa_cons (pe_op op_sub (pv 3) pe_int) pa_nil)))) (pa_cons (pe_lst pa_nil) pa_nil)))) pa_nil)) (pg_tupK (n := 2) K (by rfl) (pgs_cons (pg_name (i := 7) sc__law_data.nd rfl (Or.inl rfl)) (pgs_cons (pg_name (i := 8) sc__law_data.nd rfl (Or.inl rfl)) pgs_nil))) 
      (pss_cons (ps_set (i := 9) sc__law_data.nd rfl (Or.inl rfl) (pe_ifExp (pt_cmpR op_lt (pv 7) pe_int (nomark _)) (pe_ix (ix_listK K) (pe_lst (pa_cons pe_str (pa_cons pe_str (pa_cons pe_str pa_nil)))) (pv 7) (fun _ _ => rfl)) (pe_callF G__law_of (hr.mono (by decide)) (by rfl) T.g__law_of (pa_cons (pv 0) (pa_cons (pe_lst (pa_cons pe_str (pa_cons pe_str (pa_cons pe_str (pa_cons pe_str pa_nil))))) pa_nil))))) 
      (pss_one (ps_expr (pe_bm PySem.F.plainAttrs_list PySem.F.slot_list_append PySem.F.type_list_append mt_append (pv 6) (pa_cons (pe_callF G__law_deed (hr.mono (by decide)) (by rfl) T.g__law_deed (pa_cons (pv 0) (pa_cons (pv 9) (pa_cons (pv 8) (pa_cons (pv 4) (pa_cons (pv 5) pa_nil)))))) pa_nil)))))) 
    (pss_one (ps_ret (pe_tup (pa_cons (pv 4) (pa_cons (pv 6) (pa_cons (pe_callF G__law_of (hr.mono (by decide)) (by rfl) T.g__law_of (pa_cons (pv 0) (pa_cons (pe_lst (pa_cons pe_non (pa_cons pe_non (pa_cons pe_int (pa_cons pe_int (pa_cons pe_int pa_nil)))))) pa_nil))) pa_nil)))))))))), ?_⟩
    refine ⟨_, rfl, _, rfl, _, rfl, _, _, rfl, rfl, b, _, rfl, hb, by decide, by decide, fun r0 hr0 hr1 => ⟨(show 3 ≤ sizeLine by decide), fun l0 hl0 => ?_⟩⟩
    obtain ⟨n0, rfl⟩ : ∃ n : Nat, r0 = n := ⟨r0.toNat, by omega⟩
    have x0 : ∀ u, Same H (upd H l0 u) := fun u => same_upd hl0
    refine ⟨b, l0, n0, colBan, rfl, x0 _ _ _ hb, SqL.of upd_same, by omega, by decide, fun aw cols H1 x1 haw0 hcols hlen0 hnc => ?_⟩
    have y1 : Same H H1 := (x0 _).trans x1
    refine ⟨_, rfl, _, rfl, _, rfl, b, _, rfl, y1 _ _ hb, by decide, by decide, fun r1 hr2 hr3 => ⟨_, _, rfl, rfl, Nat.zero_le _, fun l1 hl1 => ?_⟩⟩
    obtain ⟨n1, rfl⟩ : ∃ n : Nat, r1 = n := ⟨r1.toNat, by omega⟩
    have x2 : ∀ u, Same H1 (upd H1 l1 u) := fun u => same_upd hl1
    refine ⟨b, l1, 1 + n1, [], by rw [Int.natCast_add]; rfl, x2 _ _ _ (y1 _ _ hb), SqL.of upd_same, by omega, by decide, fun as marks H2 x3 _ hmarks hlen1 hnm => ?_⟩
    have y2 : Same H H2 := (y1.trans (x2 _)).trans x3
    refine ⟨Nat.zero_le _, fun F hF => ?_⟩
    have x4 : ∀ u, Same H2 (upd H2 F u) := fun u => same_upd hF
    refine ⟨_, rfl, _, rfl, _, rfl, _, _, rfl, rfl, b, _, rfl, x4 _ _ _ (y2 _ _ hb), by decide, by decide, fun r2 hr4 hr5 => ⟨_, _, rfl, rfl, Nat.zero_le _, fun l2 hl2 => ?_⟩⟩
    obtain ⟨n2, rfl⟩ : ∃ n : Nat, r2 = n := ⟨r2.toNat, by omega⟩
    have x5 : ∀ u, Same (upd H2 F (.lst [])) (upd (upd H2 F (.lst [])) l2 u) := fun u => same_upd hl2
    have hn2 : n2 < 3 := by
      have e : (5 : Int) - 2 = 3 := rfl
      omega
    refine ⟨b, l2, 3 + n2, [], by rw [Int.natCast_add]; rfl, x5 _ _ _ (x4 _ _ _ (y2 _ _ hb)), SqL.of upd_same, by omega, by decide, fun an names H3 x6 han0 hnames hlen2 hnn => ?_⟩
    have x46 : Same (upd H2 F (.lst [])) H3 := (x5 _).trans x6
    have hnames' : F ≠ an := ne_of_none (x5 _ _ _ upd_same) han0
    have hF3 : H3 F = some (.lst []) := x46 _ _ upd_same
    have y3 : Same H2 H3 := (x4 _).trans x46
    have hbd : ∀ j : Nat, ∀ kd : Kd, ([Kd.mk, Kd.ch, Kd.en][j]? = some kd) → ([V.str "make", V.str "change", V.str "end"][j]? = some (V.str (kS kd))) := by
      intro j kd h
      match j, h with
      | 0, h => cases h; rfl
      | 1, h => cases h; rfl
      | 2, h => cases h; rfl
    refine ⟨an, _, rfl, SqL.of hnames, for_enum (K := K) (a := an) (xs := names.map V.str) (DataPv K b aw as F an H2 cols marks names) ?_ ?_ ?_ ?_⟩
    · exact ⟨_, _, _, [], [], rfl, y3, hnames, hF3, rfl, .nil, rfl, fun _ h => (nomatch h), fun h => absurd h (Nat.lt_irrefl _)⟩
    · rintro i σ H4 _ ⟨v7, v8, v9, acc, rows, rfl, e, ha, _⟩
      exact SqL.of ha
    · rintro i x σ H4 Tp hi ⟨v7, v8, v9, acc, rows, rfl, e, ha, hacc, hal, hrows, hrn, hok, hmk⟩ hT
      obtain ⟨nm, hnmi, rfl⟩ := strs_get hi
      have hi5 : i < names.length := (List.getElem?_eq_some_iff.mp hnmi).1
      have xT : ∀ u, Same H4 (upd H4 Tp u) := fun u => same_upd hT
      refine ⟨Tp, _, rfl, SqT.of upd_same, rfl, _, _, rfl, _, _, rfl, rfl, ?_⟩
      have fin : ∀ (kd : Kd) (H5 : Hp) (Dd : Ends), Same H4 H5 → (i = 0 → kd = .mk) → (∀ σ H, DataPv K b aw as F an H2 cols marks names (i + 1) σ H → Dd.nx σ H) →
          tDrop (tBM K "list" rAppend (tVar 6) (tCons (tC1 (sp_deed K) (tCons (tVar 0) (tCons (tVar 9) (tCons (tVar 8) (tCons (tVar 4) (tCons (tVar 5) tNil)))))) tNil)) Dd
          [some (.ref b), some (.int 2), some (.int 3), some (.int 5), some (.ref aw), some (.ref as), some (.ref F), some (.int (i : Nat)), some (.str nm), some (.str (kS kd))] H5 := fun kd H5 Dd x5 h0 fin => by
        have y5 : Same H2 H5 := e.trans x5
        refine ⟨_, rfl, .inl ⟨rfl, _, .inl (.inl (x5 _ _ hacc))⟩, _, rfl, _, rfl, _, rfl, _, rfl, _, rfl, b, aw, as, kd, nm, cols, marks, rfl, y5 _ _ (y2 _ _ hb), y5 _ _ (((x2 _).trans x3) _ _ hcols), y5 _ _ hmarks, by omega, hnc.2.1, ?_, by omega, ?_, hnm.2.1, fun v r H6 x6 dv hk hrn2 hdd hnt => ?_⟩
        · exact fun h => hnc.2.2 _ h (by unfold colBan; exact List.mem_cons_self)
        · intro h
          rw [h] at hlen1
          have : (0 : Nat) = 1 + n1 := hlen1
          omega
        · have y6 : Same H4 H6 := x5.trans x6
          refine ⟨F, acc, v, rfl, rfl, y6 _ _ hacc, by rw [hal]; exact Nat.lt_of_lt_of_le (Nat.lt_of_lt_of_le hi5 (by omega)) (show 100 ≤ sizeLine by decide), ?_⟩
          refine fin _ _ ⟨_, _, _, acc ++ [v], rows ++ [r], rfl, same_mut (e.trans y6) hF, by rw [upd_ne hnames'.symm]; exact y6 _ _ ha, upd_same, by rw [List.length_append, hal]; rfl, ?_, ?_, ?_, ?_⟩
          · rw [List.map_append, less_upd]
            exact dpa_snoc (dpa_same (less_same y6) hrows) (dp_same (new_less (x5 _ _ hacc)) dv)
          · rw [List.map_append, hrn, take_at hnmi]
            exact congrArg (fun z => List.take i names ++ [z]) hrn2
          · intro r' hr'
            rcases List.mem_append.mp hr' with h | h
            · exact hok r' h
            · rw [List.mem_singleton.mp h]
              exact ⟨hdd, hnt⟩
          · intro _
            by_cases hz : 0 < i
            · obtain ⟨r', h1, h2⟩ := hmk hz
              exact ⟨r', List.mem_append_left _ h1, h2⟩
            · exact ⟨r, List.mem_append_right _ List.mem_cons_self, hk.trans (h0 (by omega))⟩
      refine ⟨_, rfl, _, _, rfl, rfl, _, rfl, ite2 (fun hlt => ?_) fun hge => ?_⟩
      · have hi3 : i < 3 := by
          have := of_decide_eq_true hlt
          omega
        obtain ⟨kd, hkd, hk0⟩ : ∃ kd : Kd, [V.str "make", V.str "change", V.str "end"][i]? = some (V.str (kS kd)) ∧ (i = 0 → kd = .mk) := by
          match i, hi3 with
          | 0, _ => exact ⟨.mk, rfl, fun _ => rfl⟩
          | 1, _ => exact ⟨.ch, rfl, fun h => absurd h (by decide)⟩
          | 2, _ => exact ⟨.en, rfl, fun h => absurd h (by decide)⟩
        refine ⟨(show 3 ≤ sizeLine by decide), fun l hl => ⟨_, rfl, l, _, _, _, rfl, rfl, SqL.of upd_same, atI_nat hkd, ?_⟩⟩
        exact fin kd _ _ ((xT _).trans (same_upd hl)) hk0 fun σ H h => h
      · have hi3 : ¬ i < 3 := fun h => hge (decide_eq_true (by omega))
        refine ⟨_, rfl, (show 4 ≤ sizeLine by decide), fun l hl => ⟨b, l, _, rfl, same_upd hl _ _ (xT _ _ _ (e _ _ (y2 _ _ hb))), upd_same, by simp, by decide, fun j v hv => ?_⟩⟩
        obtain ⟨kd, rfl⟩ : ∃ kd : Kd, v = V.str (kS kd) := by
          have hm := List.mem_of_getElem? hv
          simp only [List.mem_cons, List.not_mem_nil, or_false] at hm
          rcases hm with rfl | rfl | rfl | rfl
          · exact ⟨.ch, rfl⟩
          · exact ⟨.ch, rfl⟩
          · exact ⟨.en, rfl⟩
          · exact ⟨.mk, rfl⟩
        exact fin kd _ _ ((xT _).trans (same_upd hl)) (fun h => absurd (by omega) hi3) fun σ H h => h
    · rintro σ H4 ⟨v7, v8, v9, acc, rows, rfl, e, ha, hacc, hal, hrows, hrn, hok, hmk⟩
      rw [List.length_map] at hal hrn hmk
      rw [List.take_length] at hrn
      refine ⟨_, rfl, _, rfl, _, rfl, (show 5 ≤ sizeLine by decide), fun l hl => ⟨b, l, _, rfl, same_upd hl _ _ (e _ _ (y2 _ _ hb)), upd_same, by simp, by decide, fun j v hv => ⟨(show 3 ≤ sizeLine by decide), fun p hp => ?_⟩⟩⟩
      obtain ⟨kp, hkp, hkr⟩ : ∃ kp : Option Int, Dp K (upd (upd H4 l (.lst [.non, .non, .int 1, .int 2, .int 3])) p (.tup [.ref aw, .ref F, v])) v (keepD kp) ∧ ∀ i, kp = some i → 1 ≤ i ∧ i ≤ 3 := by
        have hm := List.mem_of_getElem? hv
        simp only [List.mem_cons, List.not_mem_nil, or_false] at hm
        rcases hm with rfl | rfl | rfl | rfl | rfl
        · exact ⟨none, .non, fun _ h => (nomatch h)⟩
        · exact ⟨none, .non, fun _ h => (nomatch h)⟩
        · exact ⟨some 1, .int 1, fun i h => by cases h; decide⟩
        · exact ⟨some 2, .int 2, fun i h => by cases h; decide⟩
        · exact ⟨some 3, .int 3, fun i h => by cases h; decide⟩
      have xl : ∀ u, Same H4 (upd H4 l u) := fun u => same_upd hl
      have xp : ∀ u, Same _ (upd (upd H4 l (.lst [.non, .non, .int 1, .int 2, .int 3])) p u) := fun u => same_upd hp
      have xx : ∀ u, Same H4 (upd (upd H4 l (.lst [.non, .non, .int 1, .int 2, .int 3])) p u) := fun u => (xl _).trans (xp u)
      refine k _ ⟨cols, rows, kp⟩ marks _ (y2.trans (e.trans (xx _))) (.tup (SqT.of upd_same) (.cons (dp_strs_mk (SqL.of ((e.trans (xx _)) _ _ (((x2 _).trans x3) _ _ hcols)))) (.cons (.lst (SqL.of (xx _ _ _ hacc)) (dpa_same ((less_sub _ _).trans (xx _)) hrows)) (.cons hkp .nil)))) ?_
      have hrl : rows.length = names.length := by rw [← hrn, List.length_map]
      refine ⟨hnc, by show cols.length ≤ 2; omega, hnm, by omega, by show Names [] (rows.map (·.1.nm)); rw [hrn]; exact hnn, by show rows.length ≤ 5; omega, hok, hmk (by omega), hkr⟩
end
end K59
/-! D29 -/
set_option Elab.async false
set_option linter.all false
set_option maxRecDepth 100000
set_option maxHeartbeats 2000000
namespace K59
open PySem PySem.Spec PyProof.Rows L2 LamX
theorem wall_dpa {K : PySem.W.Frag} {H : Hp} : ∀ {ys : List V} {pk : List (Sd × Int)}, WAll H ys pk → DpAll K H ys (pk.map packD)
  | _, _, .nil => .nil
  | _, _, .cons ⟨t, p, e1, e2, e3⟩ r => by
    subst e1
    exact .cons (.tup (SqT.of e2) (.cons (pt_dp e3) (.cons (.int _) .nil))) (wall_dpa r)
theorem told_dp {K : PySem.W.Frag} {H : Hp} {q a b : Addr} {c : Str} {pc : Int} {xs ys : List V} {S : List Sd} {pk : List (Sd × Int)} (hq : H q = some (.tup [.str c, .int pc, .ref a, .ref b])) (ha : H a = some (.tup xs)) (hS : PAll H xs S) (hb : H b = some (.tup ys)) (hk : WAll H ys pk) : Dp K H (.ref q) (toldD c pc S pk) :=
  .tup (SqT.of hq) (.cons (.str _) (.cons (.int _) (.cons (.tup (SqT.of ha) (pall_dpa hS)) (.cons (.tup (SqT.of hb) (wall_dpa hk)) .nil))))
theorem strOk_nil : PyData.strOk ("" : Str) = true := by decide +kernel
theorem moves_pok {marks : List Str} {D : Da} (h : DaOk marks D) : ∀ r ∈ D.rows, ∀ p ∈ r.1.mv, Pok p := fun r hr p hp => by
  have o := (h.rowOk r hr).1
  have mk : ∀ s ∈ marks, PyData.strOk s = true := fun s hs => nm_ok (h.markOk.1 s hs)
  cases hk : r.1.k with
  | mk =>
    obtain ⟨s, hs, e⟩ := o.hmk hk
    rw [e] at hp
    rw [List.mem_singleton.mp hp]
    exact ⟨strOk_nil, mk s hs⟩
  | ch => exact ⟨mk _ (o.hch hk p hp).1, mk _ (o.hch hk p hp).2⟩
  | en =>
    obtain ⟨h1, h2⟩ := o.hen hk p hp
    refine ⟨mk _ h1, ?_⟩
    rw [h2]
    exact strOk_nil
section
variable {P : Program} {w : World} {K : PySem.W.Frag} {mg : Str → Option Value} {base : Heap}
abbrev s_law : Stmt := top 87
abbrev N_law : List Str := ["_law_script", "_law_at", "_law_bag_here", "_law_turn", "_law_data_here", "_law_book_here", "_law_column", "_law_prices", "_law_due", "_law_told", "_law_pairs_here", "_law_sides_here", "_law_kept"]
theorem sc_law : FnScope N_law ["_law_script"] (defScope s_law) := ⟨rfl, rfl, rfl, by decide +kernel, rfl, by decide +kernel, by decide +kernel⟩
def sp_law (K : PySem.W.Frag) (PB : Addr) : Sp := fun vs H Q _ => ∃ (a : Addr) (ns : List Int), vs = [.ref a] ∧ SqL K H a (ns.map V.int) ∧ ns.length ≤ 63 ∧ Tabs (TB1 PB) H ∧ ∀ H', Q (.bl true) H'
theorem ok_law (T : Tx2 P K mg) {cB PB : Addr} (B : BookT K mg base cB PB) {outer : List Env} {s : Shared} {H : Hp} {u : Value} {v : V} {Q : VK} {E : XK} (hr0 : Room 11 callerA) (e0 : Env0 P w K mg base callerA outer s H) (r : RelV v u) (h : sp_law K PB [v] H Q E) :
    codeAny (model P w) callerA (.call (.ref (He.fAd K ("law", none))) ⟨[u], []⟩) (CR CX0 outer P w H s Q E) s := by
  have G__law_bag : OkR P w K mg base 1 (He.fAd K ("_law_bag", none)) (sp_bag K) := ok_bag T.toTx0
  have G__law_data : OkR P w K mg base 4 (He.fAd K ("_law_data", none)) (sp_data K) := ok_data T.toTx0
  have G__law_book : OkR P w K mg base 8 (He.fAd K ("_law_book", none)) (sp_book K PB) := ok_book T B
  have G__law_priced : OkR P w K mg base 6 (He.fAd K ("_law_priced", none)) (sp_priced K) := ok_priced T
  have G_fewest : OkR P w K mg base 8 (He.fAd K ("fewest", none)) (sp_fewest K) := ok_fewest T
  have G__law_successions : OkR P w K mg base 2 (He.fAd K ("_law_successions", none)) (sp_succs K) := ok_succs T
  have G__law_sides : OkR P w K mg base 2 (He.fAd K ("_law_sides", none)) (sp_sides K) := ok_sides T
  have G__law_least : OkR P w K mg base 3 (He.fAd K ("_law_least", none)) (sp_least K) := ok_least T
  have G__law_tells : OkR P w K mg base 2 (He.fAd K ("_law_tells", none)) (sp_tells K) := ok_tells T
  have G__law_moved : OkR P w K mg base 9 (He.fAd K ("_law_moved", none)) (sp_moved K) := ok_moved T
  obtain ⟨fd, F⟩ := T.f_law
  obtain ⟨oc, od, dV, kV, doc, pm, an, cdv, ct, osl, rfl, lk, hcd, hD, hK⟩ := F.ex
  have hdV : dV = .none := by
    rcases hD with ⟨_, e⟩ | ⟨e, _⟩
    · exact e
    · exact absurd rfl e
  subst hdV
  refine StX.run_bnd lk hcd sc_law hr0 e0 (bnd_pure (us := [u]) (vs := [v]) rfl e0 (.cons r .nil) rfl) fun s2 H2 xs g hr => ?_
  obtain ⟨rfl, rfl⟩ := g
  have hG : ∀ env, (callerA.deeper env).guards = some [] := fun _ => rfl
  have main : ∃ t, PSs (cxOf CX0 P w K mg base N_law "law" (defScope s_law) (He.fAd K ("law", none)) cdv callerA outer s2 H2 E).nox (defBody s_law) t ∧ t { nx := fun _ H' => Q .non H', rt := Q } (start N_law [v]) H2 := by
    have hG := hG (envOfC "law" (defScope s_law) s2.heap.objs.size (He.fAd K ("law", none)) cdv)
    refine ⟨_, 
    (pss_cons (ps_for PassesOwn.never rfl (pi_range1 (by rfl) T.n_range (pa_cons (pe_callB (call_max2 rfl) (by rfl) T.n_max (by decide +kernel) (pa_cons pe_int (pa_cons (pe_callB (call_min2 rfl) (by rfl) T.n_min (by decide +kernel) (pa_cons pe_int (pa_cons (pe_callB (lenK K) (by rfl) T.n_len (by decide +kernel) (pa_cons (pv 0) pa_nil)) pa_nil))) pa_nil))) pa_nil)) (pg_name (i := 1) sc_law.nd rfl (Or.inl rfl)) 
      (pss_cons (ps_set (i := 2) sc_law.nd rfl (Or.inl rfl) (pe_bag (pe_callF G__law_bag (hr.mono (by decide)) (by rfl) T.g__law_bag (pa_cons (pv 0) (pa_cons (pv 1) pa_nil))))) 
      (pss_one (ps_for PassesOwn.never rfl (pi_range1 (by rfl) T.n_range (pa_cons pe_int pa_nil)) (pg_name (i := 3) sc_law.nd rfl (Or.inl rfl)) 
        (pss_cons (ps_set (i := 4) sc_law.nd rfl (Or.inl rfl) (pe_callF G__law_data (hr.mono (by decide)) (by rfl) T.g__law_data (pa_cons (pv 2) (pa_cons pe_int (pa_cons pe_int (pa_cons pe_int pa_nil)))))) 
        (pss_cons (ps_set (i := 5) sc_law.nd rfl (Or.inl rfl) (pe_callF G__law_book (hr.mono (by decide)) (by rfl) T.g__law_book (pa_cons (pv 4) pa_nil))) 
        (pss_one (ps_for PassesOwn.never rfl (pi_listK K (pe_ix (ix_tupK K) (pv 4) pe_int (fun _ _ => rfl))) (pg_name (i := 6) sc_law.nd rfl (Or.inl rfl)) 
          (pss_cons (ps_asg (pe_callF G__law_priced (hr.mono (by decide)) (by rfl) T.g__law_priced (pa_cons (pv 2) (pa_cons (pv 4) (pa_cons (pv 6) pa_nil)))) (pg_tupK (n := 2) K (by rfl) (pgs_cons (pg_name (i := 7) sc_law.nd rfl (Or.inl rfl)) (pgs_cons (pg_name (i := 8) sc_law.nd rfl (Or.inl rfl)) pgs_nil)))) 
          (pss_cons (ps_set (i := 9) sc_law.nd rfl (Or.inl rfl) (pe_callF G_fewest (hr.mono (by decide)) (by rfl) T.g_fewest (pa_cons (pv 5) (pa_cons (pv 6) (pa_cons (pv 7) pa_nil))))) 
          (pss_cons (ps_par (i := 10) (j := 11) (by rfl) sc_law.nd rfl rfl (by decide) rfl rfl (pa_cons (pe_callF G__law_successions (hr.mono (by decide)) (by rfl) T.g__law_successions (pa_cons (pv 4) (pa_cons (pv 6) pa_nil))) (pa_cons (pe_callF G__law_sides (hr.mono (by decide)) (by rfl) T.g__law_sides (pa_cons (pv 4) (pa_cons (pv 6) pa_nil))) pa_nil)) (by rfl)) 
          (pss_cons (ps_if (PW.pt (pw_or (pt_cmpR op_ne (pe_fldK K (pv 9)) (pe_callF G__law_least (hr.mono (by decide)) (by rfl) T.g__law_least (pa_cons (pv 10) (pa_cons (pv 11) (pa_cons (pv 8) pa_nil)))) (nomark _)) (pw_or1 (pt_not (pt_val (pe_callF G__law_tells (hr.mono (by decide)) (by rfl) T.g__law_tells (pa_cons (pv 10) (pa_cons (pe_fldK K (pv 9)) pa_nil))) (by intro _; rfl)))))) 
            (pss_one (ps_ret pe_bl)) pss_nil) 
          (pss_cons (ps_set (i := 12) sc_law.nd rfl (Or.inl rfl) (pe_callB (call_reprD K hG (hu65 hr)) (by rfl) T.n_repr (by decide +kernel) (pa_cons (pe_tup (pa_cons (pe_fldK K (pv 9)) (pa_cons (pe_fldK K (pv 9)) (pa_cons (pe_fldK K (pv 9)) (pa_cons (pe_fldK K (pv 9)) pa_nil))))) pa_nil))) 
          (pss_cons (ps_if (pt_not (pt_val (pe_callF G__law_moved (hr.mono (by decide)) (by rfl) T.g__law_moved (pa_cons (pv 2) (pa_cons (pv 4) (pa_cons (pv 5) (pa_cons (pv 6) (pa_cons (pv 7) (pa_cons (pv 8) pa_nil))))))) (by intro _; rfl))) 
            (pss_one (ps_ret pe_bl)) pss_nil) 
          (pss_one (ps_if (pt_cmpR op_ne (pe_callB (call_reprD K hG (hu65 hr)) (by rfl) T.n_repr (by decide +kernel) (pa_cons (pe_tup (pa_cons (pe_fldK K (pv 9)) (pa_cons (pe_fldK K (pv 9)) (pa_cons (pe_fldK K (pv 9)) (pa_cons (pe_fldK K (pv 9)) pa_nil))))) pa_nil)) (pv 12) (nomark _)) 
            (pss_one (ps_ret pe_bl)) pss_nil)))))))))))))))) 
    (pss_one (ps_ret pe_bl))), ?_⟩
    obtain ⟨a, ns, ev, ha, hnl, hT, k⟩ := h
    obtain rfl : v = .ref a := (List.cons.inj ev).1
    clear ev
    refine ⟨_, rfl, a, _, rfl, .inl ha, _, _, rfl, _, _, rfl, _, rfl, ?_, ?_, ?_⟩
    · split <;> split <;> omega
    · split <;> split <;> omega
    have hn2 : (if (if (((ns.map V.int).length : Nat) : Int) < 2 then (((ns.map V.int).length : Nat) : Int) else 2) > 1 then (if (((ns.map V.int).length : Nat) : Int) < 2 then (((ns.map V.int).length : Nat) : Int) else 2) else (1 : Int)).toNat ≤ 2 := by
      split <;> split <;> omega
    refine for_range (lo := 0) (n := _) (fun i σ H1 => ∃ (v1 v2 v3 v4 v5 v6 v7 v8 v9 v10 v11 v12 : Option V), σ = [some (.ref a), v1, v2, v3, v4, v5, v6, v7, v8, v9, v10, v11, v12] ∧ ExtN H2 H1 ∧ Tabs (TB1 PB) H1) ⟨_, _, _, _, _, _, _, _, _, _, _, _, rfl, ExtN.refl _, hT⟩ ?_ ?_
    · rintro i σ H1 hi ⟨v1, v2, v3, v4, v5, v6, v7, v8, v9, v10, v11, v12, rfl, x1, T1⟩
      refine ⟨_, rfl, _, rfl, a, i, ns, ?_, by omega, extN_seq x1 ha, fun p x0 y0 H3 e3 hp0 hx0 hy0 hy2 hp => ?_⟩
      · rw [Int.zero_add]
      refine ⟨p, x0, y0, rfl, hp, hx0, hy0, hy2, ?_⟩
      have e4 : Same H1 (upd H3 p (BagO p)) := same_mut e3 hp0
      have hb4 : upd H3 p (BagO p) p = some (BagO p) := upd_same
      have T4 := tabs_same e4 T1
      generalize upd H3 p (BagO p) = H4 at e4 hb4 T4
      refine ⟨_, rfl, by decide, by decide, for_range (lo := 0) (n := 2) (fun j σ H5 => ∃ (v3 v4 v5 v6 v7 v8 v9 v10 v11 v12 : Option V), σ = [some (.ref a), some (.int (0 + i)), some (.ref p), v3, v4, v5, v6, v7, v8, v9, v10, v11, v12] ∧ ExtN H4 H5 ∧ Tabs (TB1 PB) H5) ⟨_, _, _, _, _, _, _, _, _, _, rfl, ExtN.refl _, T4⟩ ?_ ?_⟩
      · rintro j σ H5 hj ⟨v3, v4, v5, v6, v7, v8, v9, v10, v11, v12, rfl, x5, T5⟩
        have hb5 : H5 p = some (BagO p) := x5 _ _ hb4 (fun _ z => by unfold BagO at z; cases z)
        refine ⟨_, rfl, p, rfl, hb5, fun v D marks H6 e6 hv hok => ?_⟩
        have DF := data_facts hok
        refine ⟨_, rfl, v, D, marks, rfl, hv, hok, tabs_same e6 T5, fun bk H7 x7 T7 hbk => ?_⟩
        have hv7 := dp_ext x7 hv
        have hb7 : H7 p = some (BagO p) := x7 _ _ (e6 _ _ hb5) (fun _ z => by unfold BagO at z; cases z)
        obtain ⟨ad, xs, a0, a1, rs, v2', rfl, had, rfl, ha0, _⟩ := data_get hv7
        refine ⟨_, rfl, ad, _, _, _, rfl, rfl, had, atI_nat (j := 0) rfl, a0, rfl, ⟨_, ha0⟩, for_lst (K := K) (a := a0) (xs := D.cols.map V.str) (fun m σ H8 => ∃ (v6 v7 v8 v9 v10 v11 v12 : Option V), σ = [some (.ref a), some (.int (0 + i)), some (.ref p), some (.int (0 + j)), some (.ref ad), some (.ref bk), v6, v7, v8, v9, v10, v11, v12] ∧ Same H7 H8) ⟨_, _, _, _, _, _, _, rfl, Same.refl _⟩ (fun m σ H8 _ ⟨_, _, _, _, _, _, _, _, e⟩ => e.seq ha0) ?_ ?_⟩
        · rintro m y σ H8 hm ⟨v6, v7, v8, v9, v10, v11, v12, rfl, e8⟩
          obtain ⟨c, hc, rfl⟩ := strs_get hm
          have hcm := List.mem_of_getElem? hc
          have hv8 := dp_same e8 hv7
          have hbk8 := book_same e8 hbk
          have hnmr : ∀ r ∈ D.rows, Nm r.1.nm := fun r hr => DF.nm _ (List.mem_map.mpr ⟨r, hr, rfl⟩)
          have hd8 : (D.rows.map (·.1)).length ≤ 8 := Nat.le_trans DF.dl (by decide)
          refine ⟨_, rfl, _, rfl, _, rfl, p, _, c, D, rfl, e8 _ _ hb7, hv8, DF.nd2, hnmr, DF.rl, fun t x sp du pr H9 e9 ht _ hsp0 _ hne hP hDue gp => ⟨t, _, rfl, SqT.of ht, rfl, _, _, rfl, _, _, rfl, rfl, ?_⟩⟩
          refine ⟨_, rfl, _, rfl, _, rfl, _, D.cols, _, _, c, x, sp, pr, 20, rfl, book_same e9 hbk8, hcm, DF.nd, DF.nm, DF.dU, DF.Ul, hd8, hP, gp, fun xt pc S pk H10 e10 hcov L cov hEnd Sl pkl hpk hpc => ?_⟩
          obtain ⟨dxt, at', bt', xsS, xsK, hxt, hat, hSt, hbt, hWt⟩ := hcov
          have y10 := e9.trans e10
          have hsc : ∀ q, LSuccBy D.cols (D.rows.map (·.1)) c (D.rows.map (·.1)) q ↔ Succ D.cols (D.rows.map (·.1)) c q := fun q => lsucc_iff hcm DF.ok DF.mkn
          refine ⟨_, rfl, _, rfl, _, c, D, (("" : Str) :: marks), rfl, dp_same y10 hv8, DF.rl, fun r hr => ⟨(DF.dU _ (List.mem_map.mpr ⟨r, hr, rfl⟩)).1, (DF.dU _ (List.mem_map.mpr ⟨r, hr, rfl⟩)).2.2⟩, DF.Ul, moves_pok hok, fun lp xs lps H11 e11 _ hlp hlps hlq hlpl => ?_⟩
          have y11 := y10.trans e11
          refine ⟨_, rfl, _, rfl, _, c, D, rfl, dp_same y11 hv8, DF.nd2, DF.rl, fun ls ys Sl' H12 e12 _ hls hSl Sn Si Sll => ⟨_, _, rfl, ?_⟩⟩
          have y12 := y11.trans e12
          have z12 := e11.trans e12
          have hss : ∀ q, q ∈ lps ↔ Succ D.cols (D.rows.map (·.1)) c q := fun q => (hlq q).trans (hsc q)
          have nmS : ∀ q, Succ D.cols (D.rows.map (·.1)) c q → Nm q.1 ∧ Nm q.2 := fun q ⟨d, hd, e, he, hq, _⟩ => by
            rw [hq]
            exact ⟨DF.nm d hd, DF.nm e he⟩
          have nmE : ∀ e, EndOf (Succ D.cols (D.rows.map (·.1)) c) e → Nm e.1 ∧ Nm e.2 := fun e ⟨q, hq, h2⟩ => by
            obtain ⟨n1, n2⟩ := nmS q hq
            rcases h2 with rfl | rfl
            · exact ⟨nm_new, n1⟩
            · exact ⟨nm_old, n2⟩
          have hES : ∀ e, EndOf (Succ D.cols (D.rows.map (·.1)) c) e → e ∈ Sl' := fun e ⟨q, hq, h2⟩ => by
            obtain ⟨s1, s2⟩ := succ_sides DF.ok hcm DF.mkn hq
            rcases h2 with rfl | rfl
            · exact (Si _).2 s1
            · exact (Si _).2 s2
          have pokL : ∀ q ∈ lps, Pok q := fun q hq => pok_nm (nmS q ((hss q).1 hq)).1 (nmS q ((hss q).1 hq)).2
          have pokS : ∀ q ∈ Sl', Pok q := fun q hq => by
            obtain ⟨b', n', hqe, hn'⟩ := side_of ((Si q).1 hq) DF.nm
            rw [hqe]
            cases b'
            · exact pok_nm nm_old hn'
            · exact pok_nm nm_new hn'
          have hDue12 : DueAt H12 du pr (· ∈ Sl') 40 := due_at (due_same (e10.trans z12) hDue) rfl (fun q hq => ⟨(Si q).1 hq, rfl⟩) (Nat.le_refl _)
          refine ⟨_, rfl, xt, _, dxt, _, _, rfl, z12 _ _ hxt, T.c_Cover, T.a_Cover_price, rfl, _, rfl, _, rfl, _, rfl, lp, ls, du, xs, ys, lps, Sl', pr, 40, rfl, e12 _ _ hlp, dpa_same e12 hlps, pokL, hlpl, hls, hSl, pokS, Sll, hDue12, fun mm H13 e13 hlo => ?_⟩
          obtain rfl : mm = pc := least_of L hss hES Sn hlo
          have z13 := z12.trans e13
          refine ⟨rfl, _, rfl, iteN (by simp) ?_⟩
          refine ⟨_, rfl, _, rfl, xt, _, dxt, _, _, rfl, z13 _ _ hxt, T.c_Cover, T.a_Cover_sides, rfl, lp, at', xs, xsS, lps, S, rfl, SqL.of ((e12.trans e13) _ _ hlp), dpa_same (e12.trans e13) hlps, pokL, hlpl, .inr (SqT.of (z13 _ _ hat)), pall_dpa (pall_same z13 hSt), fun q hq => pok_nm (nmE q (hEnd q hq)).1 (nmE q (hEnd q hq)).2, fun H14 e14 => ⟨_, rfl, iteN ?_ ?_⟩⟩
          · rw [(all_iff (T := S) (ps := lps)).2 fun q hq => cov q ((hss q).1 hq)]
            rfl
          have z14 := z13.trans e14
          have hxt14 := z14 _ _ hxt
          have y14 := y10.trans z14
          have hpcS : SmallI mm := by unfold SmallI; have : (10 : Nat) ^ 12 = 1000000000000 := by decide
                                      omega
          obtain ⟨f1, f2, f3, f4⟩ := told_facts (c := c) (p := mm) (S := S) (pk := pk) (hok.colOk.1 c hcm) hpcS (fun q hq => nmE q (hEnd q hq)) (by omega) (fun q hq => ⟨nmS _ (hpk q hq).1, by
            have h1 := (hpk q hq).2.1
            have h2 := (hpk q hq).2.2
            unfold SmallI
            have : (10 : Nat) ^ 12 = 1000000000000 := by decide
            omega⟩) (by omega)
          refine ⟨_, rfl, xt, _, dxt, _, _, rfl, hxt14, T.c_Cover, T.a_Cover_column, rfl, _, rfl, xt, _, dxt, _, _, rfl, hxt14, T.c_Cover, T.a_Cover_price, rfl, _, rfl, xt, _, dxt, _, _, rfl, hxt14, T.c_Cover, T.a_Cover_sides, rfl, _, rfl, xt, _, dxt, _, _, rfl, hxt14, T.c_Cover, T.a_Cover_packing, rfl, (show 4 ≤ sizeLine by decide), fun q hq => ?_⟩
          have eq := same_upd hq (o := .tup [.str c, .int mm, .ref at', .ref bt'])
          have z15 := z14.trans eq
          have y15 := y14.trans eq
          obtain ⟨tx, htx⟩ : ∃ tx, (toldD c mm S pk).shown = tx := ⟨_, rfl⟩
          refine ⟨q, toldD c mm S pk, rfl, told_dp upd_same (z15 _ _ hat) (pall_same z15 hSt) (z15 _ _ hbt) (Paired.mapP hWt fun _ _ z => stepV_same z15 z), f1, f2, f3, f4, ?_⟩
          rw [htx]
          have P15 := prices_same ((e10.trans z14).trans eq) hP
          have D15 := due_same ((e10.trans z14).trans eq) hDue
          generalize upd H14 q (.tup [.str c, .int mm, .ref at', .ref bt']) = H15 at z15 y15 P15 D15
          obtain ⟨dxp, dd, kvp, w1, w2, _⟩ := id P15.ex
          refine ⟨_, rfl, _, rfl, _, rfl, _, rfl, _, rfl, _, rfl, H8, p, _, _, c, x, sp, du, D, marks, pr, 20, 40, rfl, y15, hsp0, e8 _ _ hb7, hv8, hok, hbk8, hcm, P15, Nat.le_refl _, D15, gp, hne, fun H16 e16 => ⟨_, rfl, iteN rfl ?_⟩⟩
          have kp : ∀ {b : Addr} {o : HO}, H15 b = some o → (∀ z, o ≠ .dT z) → H16 b = some o := fun h ho => e16 _ _ (less_at w2 h (ho _))
          have hxt16 := kp (z15 _ _ hxt) (fun _ z => nomatch z)
          refine ⟨_, rfl, xt, _, dxt, _, _, rfl, hxt16, T.c_Cover, T.a_Cover_column, rfl, _, rfl, xt, _, dxt, _, _, rfl, hxt16, T.c_Cover, T.a_Cover_price, rfl, _, rfl, xt, _, dxt, _, _, rfl, hxt16, T.c_Cover, T.a_Cover_sides, rfl, _, rfl, xt, _, dxt, _, _, rfl, hxt16, T.c_Cover, T.a_Cover_packing, rfl, (show 4 ≤ sizeLine by decide), fun q2 hq2 => ?_⟩
          have eq2 := same_upd hq2 (o := .tup [.str c, .int mm, .ref at', .ref bt'])
          have hat16 := kp (z15 _ _ hat) (fun _ z => nomatch z)
          have hbt16 := kp (z15 _ _ hbt) (fun _ z => nomatch z)
          have hS16 : PAll H16 xsS S := pall_same e16 (pall_less w2 (fun _ z => nomatch z) (pall_same z15 hSt))
          have hW16 : WAll H16 xsK pk := Paired.mapP hWt fun _ _ ⟨t', p', q1, q2, tp, q3, q4⟩ => ⟨t', p', q1, kp (z15 _ _ q2) (fun _ z => nomatch z), tp, q3, kp (z15 _ _ q4) (fun _ z => nomatch z)⟩
          refine ⟨q2, toldD c mm S pk, rfl, told_dp upd_same (eq2 _ _ hat16) (pall_same eq2 hS16) (eq2 _ _ hbt16) (Paired.mapP hW16 fun _ _ z => stepV_same eq2 z), f1, f2, f3, f4, ?_⟩
          rw [htx]
          refine ⟨_, rfl, ?_⟩
          refine ⟨rfl, _, rfl, ?_⟩
          refine iteN (show (!decide (V.str tx = V.str tx)) = false by simp) ?_
          exact ⟨_, _, _, _, _, _, _, rfl, (e8.trans (same_lessM y15 hsp0 e16)).trans eq2⟩
        · rintro σ H8 ⟨v6, v7, v8, v9, v10, v11, v12, rfl, e8⟩
          exact ⟨_, _, _, _, _, _, _, _, _, _, rfl, ((x5.trans (ext_same e6)).trans x7).trans (ext_same e8), tabs_same e8 T7⟩
      · rintro σ H5 ⟨v3, v4, v5, v6, v7, v8, v9, v10, v11, v12, rfl, x5, T5⟩
        exact ⟨_, _, _, _, _, _, _, _, _, _, _, _, rfl, (x1.trans (ext_same e4)).trans x5, T5⟩
    · rintro σ H1 ⟨v1, v2, v3, v4, v5, v6, v7, v8, v9, v10, v11, v12, rfl, x1, T1⟩
      exact k H1
  obtain ⟨t, ht, hq⟩ := main
  exact ⟨t, ht.nox, hq⟩
end
end K59
/-! H01 -/
set_option Elab.async false
set_option linter.all false
set_option maxRecDepth 100000
set_option maxHeartbeats 0
namespace K59
open PySem PySem.Spec PySem.W PyProof.Rows L2
theorem sup_ok {P : Program} {K : Frag} {c x qual : Str} {st : Stmt} {f2 : Addr} (e : clObs K (He.fAd K (c, some "__init__")) = some (x, qual, defArgs st, .stmts (defBody st), defScope st, mainGlobals, builtinsNs)) (h : supB P K c qual f2 = true) (ht : (P.main.scope.names.lookup ("super" : Str)).isSome = false)
    (ha : ∃ ar, ((defArgs st).posonlyargs ++ (defArgs st).args).head? = some ar ∧ ar.arg = "self") : HasSup P K (c, some "__init__") x qual st (He.ga K c) f2 := by
  obtain ⟨h1, h⟩ := He.ba h
  obtain ⟨h2, h⟩ := He.ba h
  obtain ⟨h3, h⟩ := He.ba h
  obtain ⟨h4, h⟩ := He.ba h
  obtain ⟨h5, h⟩ := He.ba h
  obtain ⟨h6, h7⟩ := He.ba h
  cases q : K.lookup (He.fAd K (c, some "__init__")) with
  | none =>
    rw [q] at h1
    cases h1
  | some o =>
    rw [q] at h1
    obtain ⟨oc, od, osl, kV, doc, pm, an, cda, ct, cc, rfl, hcd, hfile, hcell⟩ := cl_ok q e h1
    exact ⟨oc, od, osl, kV, doc, pm, an, cda, ct, cc, q, hcd, ⟨⟨_, _, _, _, q, ha⟩, hfile, hcell, Option.isSome_iff_exists.mp h2, of_decide_eq_true h3, He.eqO_ok h4, of_decide_eq_true h5, h6, He.eqO_ok h7, ht⟩⟩
end K59
/-! K59E -/
set_option Elab.async false
set_option linter.all false
set_option maxRecDepth 100000
set_option maxHeartbeats 2000000
/-! the law's call, at the caller's own place: one table, the script's list -/
namespace K59
open PySem PySem.Spec PyProof.Rows L2 LamX
def listO (vs : List Value) : Obj := { cls := .type "list", data := .seq vs.toArray }
def tabO : Obj := { cls := .none, data := .fields #[] }
/-- what is tracked at the start -/
def hpAt (K : PySem.W.Frag) (a t : Addr) (vs : List Value) (ns : List Int) : Hp := fun b =>
  if b = t then some (.tbl #[]) else match decide (b = a), K.lookup b with
    | true, none => some (.frz (listO vs) (.lst (ns.map V.int)))
    | _, _ => none
section
variable {P : Program} {w : World} {K : PySem.W.Frag} {a t c : Addr} {vs : List Value} {ns : List Int} {h : Heap} {b : Addr} {u : HO}
theorem hpAt_inv (e : hpAt K a t vs ns b = some u) : (b = t ∧ u = .tbl #[]) ∨ (b = a ∧ K.lookup b = none ∧ u = .frz (listO vs) (.lst (ns.map V.int))) := by
  unfold hpAt at e
  by_cases h1 : b = t
  · rw [if_pos h1] at e
    exact .inl ⟨h1, (Option.some.inj e).symm⟩
  · rw [if_neg h1] at e
    by_cases h2 : b = a
    · rw [decide_eq_true h2] at e
      cases q : K.lookup b with
      | none =>
        rw [q] at e
        exact .inr ⟨h2, rfl, (Option.some.inj e).symm⟩
      | some o =>
        rw [q] at e
        cases e
    · rw [decide_eq_false h2] at e
      cases e
theorem hpAt_tab : hpAt K a t vs ns t = some (.tbl #[]) := if_pos rfl
theorem hpAt_out {o : Obj} (ht : h.get? t = some tabO) (ha : h.get? a = some (listO vs)) (e : h.get? b = some o) (h1 : o ≠ tabO) (h2 : o ≠ listO vs) : hpAt K a t vs ns b = none := by
  cases q : hpAt K a t vs ns b with
  | none => rfl
  | some u =>
    rcases hpAt_inv q with ⟨r, _⟩ | ⟨r, _⟩
    · subst r
      exact absurd (Option.some.inj (e.symm.trans ht)) h1
    · subst r
      exact absurd (Option.some.inj (e.symm.trans ha)) h2
theorem hpAt_seq (KX : K.In h) (hat : a ≠ t) (ha : h.get? a = some (listO vs)) (hi : IntsAre vs ns) (hl : ns.length ≤ sizeLine) : SqL K (hpAt K a t vs ns) a (ns.map V.int) := by
  have rv := vals_ints hi
  cases q : K.lookup a with
  | none =>
    refine .inl (.inr ⟨listO vs, ?_⟩)
    unfold hpAt
    rw [if_neg hat, decide_eq_true rfl, q]
  | some o =>
    have e := KX a o q
    have e2 : o = listO vs := Option.some.inj (e.symm.trans ha)
    subst e2
    exact .inr ⟨_, vs.toArray, _, q, rfl, rfl, rfl, by rw [List.size_toArray, hi.length]; exact hl, by simpa using rv⟩
theorem hpAt_ok (ht : h.get? t = some tabO) (ha : h.get? a = some (listO vs)) (hi : IntsAre vs ns) (hl : ns.length ≤ sizeLine) : HOk P w (hpAt K a t vs ns) h := fun b u e => by
  rcases hpAt_inv e with ⟨r, r2⟩ | ⟨r, _, r2⟩
  · subst r r2
    exact ht
  · subst r r2
    exact ⟨ha, by rw [List.length_map]; exact hl, vs, _, vals_ints hi, ha⟩
/-- from the call at the caller's place to what the row asks -/
theorem law_at {mg mb : Str → Option Value} {fa : Addr} {s₁ : Shared} (KX : K.In s₁.heap) (hns : s₁.heap.Ns mainGlobals mg) (hb : s₁.heap.Ns builtinsNs mb) (hbb : ∀ x : Str, x ≠ "__name__" → mb x = bootBuiltins x) (hlim : s₁.heap.NoLimit) (hg : s₁.gens = #[])
    (ht : s₁.heap.get? t = some tabO) (nt : K.lookup t = none) (C : PySem.W.CodeHd s₁.heap c t)
    (hbm : ∃ (bm : Addr) (ob : Obj), mg "__builtins__" = some (.ref bm) ∧ bm ≠ builtinsNs ∧ s₁.heap.get? bm = some ob ∧ ob.cls = .type "module" ∧ ob.dict = some builtinsNs ∧ ob.data = .plain)
    (ha : s₁.heap.get? a = some (listO vs)) (hi : IntsAre vs ns) (hl : ns.length ≤ sizeLine)
    (F : ∀ (base : Heap) (H : Hp), K.In base → base.Ns mainGlobals mg → LamX.TabB base mg c t → Env0 P w K mg base callerA [] s₁ H → H t = some (.tbl #[]) → SqL K H a (ns.map V.int) →
      codeAny (model P w) callerA (.call (.ref fa) ⟨[.ref a], []⟩) (CR CX0 [] P w H s₁ (fun v _ => v = .bl true) fun _ _ _ => False) s₁) :
    codeAny (model P w) callerA (.call (.ref fa) ⟨[.ref a], []⟩) (fun r s' => r = .ok (.ret (.bool true)) ∧ OldK s₁.heap s'.heap ∧ s'.os = s₁.os ∧ AllBare s'.gens) s₁ := by
  have hat : a ≠ t := fun e => by
    have z := ha.symm.trans (e ▸ ht)
    have z2 : Value.type "list" = Value.none := congrArg Obj.cls (Option.some.inj z)
    cases z2
  generalize hH : hpAt K a t vs ns = H
  have inv : ∀ b u, H b = some u → (b = t ∧ u = .tbl #[]) ∨ (b = a ∧ K.lookup b = none ∧ u = .frz (listO vs) (.lst (ns.map V.int))) := fun b u e => by
    rw [← hH] at e
    exact hpAt_inv e
  have Ht : H t = some (.tbl #[]) := by rw [← hH]; exact hpAt_tab
  have Ha : SqL K H a (ns.map V.int) := by rw [← hH]; exact hpAt_seq KX hat ha hi hl
  have Hok : HOk P w H s₁.heap := by rw [← hH]; exact hpAt_ok ht ha hi hl
  have out : ∀ {b : Addr} {o : Obj}, s₁.heap.get? b = some o → o ≠ tabO → o ≠ listO vs → (hidT s₁.heap H).get? b = some o := fun {b o} e h1 h2 => hidT_get e (by rw [← hH]; exact hpAt_out ht ha e h1 h2)
  have dict : ∀ {b : Addr} {m : Str → Option Value}, s₁.heap.Ns b m → (hidT s₁.heap H).Ns b m := fun {b m} ⟨o, es, ep, e, d, r⟩ => ⟨o, es, ep, out e (fun z => by rw [z] at d; cases d) (fun z => by rw [z] at d; cases d), d, r⟩
  have KB : K.In (hidT s₁.heap H) := fun b o e => hidT_get (KX b o e) (by
    cases q : H b with
    | none => rfl
    | some u =>
      rcases inv b u q with ⟨r, _⟩ | ⟨_, r, _⟩
      · rw [r, nt] at e
        cases e
      · rw [r] at e
        cases e)
  have M : L2.Mod K mg (hidT s₁.heap H) := ⟨KB, dict hns, ⟨mb, dict hb, hbb⟩, let ⟨mc, q1, q2⟩ := hlim; ⟨mc, dict q1, q2⟩⟩
  have TB : LamX.TabB (hidT s₁.heap H) mg c t := by
    refine ⟨?_, ?_, fun z => ?_⟩
    · obtain ⟨o, us, file, tf, flags, tg, inF, text, tt, e1, r1, r2, r3, r⟩ := C
      refine ⟨o, us, file, tf, flags, tg, inF, text, tt, out e1 (fun z => ?_) (fun z => ?_), r1, r2, r3, r⟩
      · rw [z] at r2
        cases r2
        simp at r3
      · rw [z] at r2
        cases r2
    · obtain ⟨bm, ob, b1, b2, b3, b4, b5, b6⟩ := hbm
      refine ⟨bm, ob, b1, b2, fun q => ?_, fun q => ?_, out b3 (fun z => ?_) (fun z => ?_), b4, b5, b6⟩
      · obtain ⟨o, es, ep, e, d, _⟩ := hns
        rw [q, e] at b3
        cases b3
        rw [d] at b6
        cases b6
      · rw [q, ht] at b3
        cases b3
        cases b6
      · rw [z] at b6
        cases b6
      · rw [z] at b6
        cases b6
    · obtain ⟨o, es, ep, e, d, _⟩ := hns
      rw [z, ht] at e
      cases e
      cases d
  have e0 : Env0 P w K mg (hidT s₁.heap H) callerA [] s₁ H := ⟨rfl, M, fun b o e => of_hidT e, Nat.le_of_eq (hidT_size _ _), trivial, (fun b z => nomatch (show b ∈ ([] : List Addr) from z)), Hok, .of_eq hg⟩
  refine codeAny_mono (F _ H KB (dict hns) TB e0 Ht Ha) fun r s' q => ?_
  match r, q with
  | .error e, q => exact False.elim q
  | .ok .next, q => exact False.elim q
  | .ok .brk, q => exact False.elim q
  | .ok .cont, q => exact False.elim q
  | .ok (.ret u), q =>
    obtain ⟨v, H', os, bare, un, ok', rel, rfl⟩ := q
    obtain rfl : u = Value.bool true := rel
    have grown : ∃ more : Array Value, s'.heap.get? t = some { cls := .none, data := .fields more } := by
      obtain ⟨more, z⟩ := un.tbls t #[] Ht
      exact ⟨_, ok' t _ z⟩
    have kept : ∀ b o, b ≠ t → s₁.heap.get? b = some o → s'.heap.get? b = some o := fun b o nb e => by
      cases q : H b with
      | none => exact un.keep b o e q (by intro z; exact absurd (show b ∈ ([] : List Addr) from z) (by simp)) (by simp)
      | some u =>
        rcases inv b u q with ⟨r, _⟩ | ⟨_, _, r⟩
        · exact absurd r nb
        · subst r
          have g1 := (Hok b _ q).1
          have g2 := (ok' b _ (un.frzs b _ _ q)).1
          rw [e] at g1
          cases g1
          exact g2
    obtain ⟨more, hm⟩ := grown
    refine ⟨rfl, ⟨fun b o e => ?_, fun b o e => ?_⟩, os, bare⟩
    · by_cases z : b = t
      · subst z
        rw [ht] at e
        cases e
        exact .inr (.inl ⟨(C.tab ht).isCodeTable, rfl, #[], more, rfl, by rw [Array.empty_append]; exact hm⟩)
      · exact .inl (kept b o z e)
    · by_cases z : b = t
      · rw [z]
        exact ⟨_, hm⟩
      · exact ⟨o, kept b o z e⟩
end
end K59
/-! H04 -/
set_option Elab.async false
set_option linter.all false
set_option maxRecDepth 100000
set_option maxHeartbeats 0
namespace K59
open PySem PySem.Spec PySem.W PyProof.Rows L2
/-! ### what the looks tell -/
structure Says (K : Frag) (h : Heap) : Prop where
  a : He5.SaysA fa fn K
  x : (exL K).all id = true
  em : h.get? (pB K) = some tabO
  cl : [clObs K (He.fAd K ("Make", some "__init__")), clObs K (He.fAd K ("Change", some "__init__")), clObs K (He.fAd K ("End", some "__init__"))] = exV.2.2
abbrev AlH : Type := He.AlD × ExV
def obsH (g : Addr → Option Obj) : AlH := (He5.obsA fa fn (KH g), exO g (KH g))
theorem says_of {h : Heap} (e : obsH h.get? = (He5.valA fn, exV)) : Says (KH h.get?) h := by
  have e1 : He5.obsA fa fn (KH h.get?) = He5.valA fn := congrArg (fun z : AlH => z.1) e
  have e2 : (exL (KH h.get?)).all id = true := congrArg (fun z : AlH => z.2.1) e
  have e3 : emB h.get? (KH h.get?) = true := congrArg (fun z : AlH => z.2.2.1) e
  have e4 := congrArg (fun z : AlH => z.2.2.2) e
  refine ⟨e1, e2, ?_, e4⟩
  unfold emB at e3
  cases q : h.get? (pB (KH h.get?)) with
  | none =>
    rw [q] at e3
    cases e3
  | some o =>
    rw [q] at e3
    rw [He.emptyTab_eq e3]
    rfl
def hk : PySem.W.Hook where
  α := AlH
  obs := fun s => obsH s.heap.get?
  val := fun _ => (He5.valA fn, exV)
  says := fun _ h => ∃ K : Frag, K.In h ∧ Says K h
  of := fun _ _ e => ⟨_, KH_in, says_of e⟩
  keeps := fun _ _ _ ⟨K, hK, c⟩ k => ⟨K, Frag.In.keeps hK k, ⟨c.a, c.x, k _ _ c.em, c.cl⟩⟩
def ob (s : SharedT) : AlH := (He5.obsA fa fn (KT s), exO (HandSHeadRun.getT s) (KT s))
theorem ob_eq (s : SharedT) : ob s = hk.obs s.abs := by
  show ob s = obsH s.abs.heap.get?
  have e : HandSHeadRun.getT s = s.abs.heap.get? := funext (HandSHeadRun.getT_eq s)
  unfold ob obsH KT
  rw [e]
theorem ob_at {s : SharedT} {w : World} (h : (He5.obsA fa fn (KT s), exO (HandSHeadRun.getT s) (KT s)) = (He5.valA fn, exV)) : ob s = hk.val w := h
theorem run (w : World) : HandSHeadRun.RunEq R qv hk ob 12000 loose w := by
  intro os
  have h0 := run0 w os
  have h1 := runF w os
  unfold runS at h0 h1
  generalize HandSHeadRun.endF (HandSHeadRun.stepQ (HandSHeadRun.denQ HandSHeadRun.tabQ) R.prog w) 12000 R.prog w os = o at h0 h1 ⊢
  cases o with
  | none => exact absurd h0 (by simp)
  | some s =>
    rw [Option.map_some] at h0 h1 ⊢
    have e1 := ob_at (w := w) (Option.some.inj h1)
    obtain ⟨a1, a2⟩ := Prod.mk.inj (Option.some.inj h0)
    rw [e1, a1, a2]
theorem exAt {K : Frag} {v : Bool} (x : (exL K).all id = true) (i : Nat) (e : (exL K)[i]? = some v) : v = true := List.all_eq_true.mp x v (List.mem_of_getElem? e)
theorem hasA_of {K : Frag} {f : Addr} {x qual : Str} {st : Stmt} (F : ∃ fd, FunD K x qual (defArgs st) (defBody st) (defScope st) [] [] f fd) (hf : fnIn K f = true) : HasFnA K f x qual st := by
  obtain ⟨fd, F⟩ := F
  obtain ⟨oc, od, dV, kV, doc, pm, an, cdv, ct, osl, rfl, lk, hcd, hD, _⟩ := F.ex
  have e : dV = .none := by
    rcases hD with ⟨_, e⟩ | ⟨e, _⟩
    · exact e
    · exact absurd rfl e
  subst e
  exact ⟨⟨oc, od, osl, kV, doc, pm, an, cdv, ct, lk, hcd⟩, F.kp, hf⟩
theorem hasC_of {K : Frag} {p : Str × Option Str} {x qual : Str} {st : Stmt} (F : HasFnA K (He.fAd K p) x qual st) : HasFnC K (He.fAd K p) (He.codeOf K p) x qual st := by
  obtain ⟨⟨oc, od, osl, kV, doc, pm, an, cdv, ct, lk, hcd⟩, _⟩ := F
  obtain ⟨c, rfl⟩ := He.codeIn_ref hcd
  rw [He.codeOf_eq lk rfl]
  exact ⟨oc, od, osl, kV, doc, pm, an, ct, lk, hcd⟩
theorem clAt0 {a b c a' b' c' : ClV} (e : [a, b, c] = [a', b', c']) : a = a' := (List.cons.inj e).1
theorem clAt1 {a b c a' b' c' : ClV} (e : [a, b, c] = [a', b', c']) : b = b' := (List.cons.inj (List.cons.inj e).2).1
theorem clAt2 {a b c a' b' c' : ClV} (e : [a, b, c] = [a', b', c']) : c = c' := (List.cons.inj (List.cons.inj (List.cons.inj e).2).2).1
section
variable {K : Frag} {h : Heap} {mg : Str → Option Value}
theorem tx0_of (X : K.In h) (G : h.Ns mainGlobals mg) (c : He5.SaysA fa fn K) : Tx0 K mg where
  f_is_integer := c.def_ 0 (d := d_f_is_integer) rfl
  g_is_integer := He.glo_ok X G (c.fact 0 (f := .glo "is_integer") rfl)
  f_is_name := c.def_ 1 (d := d_f_is_name) rfl
  g_is_name := He.glo_ok X G (c.fact 1 (f := .glo "is_name") rfl)
  f_is_between := c.def_ 2 (d := d_f_is_between) rfl
  g_is_between := He.glo_ok X G (c.fact 2 (f := .glo "is_between") rfl)
  f_check_name := c.def_ 3 (d := d_f_check_name) rfl
  g_check_name := He.glo_ok X G (c.fact 3 (f := .glo "check_name") rfl)
  f_check_once := c.def_ 4 (d := d_f_check_once) rfl
  g_check_once := He.glo_ok X G (c.fact 4 (f := .glo "check_once") rfl)
  f_check_names := c.def_ 5 (d := d_f_check_names) rfl
  g_check_names := He.glo_ok X G (c.fact 5 (f := .glo "check_names") rfl)
  f_check_note := c.def_ 6 (d := d_f_check_note) rfl
  g_check_note := He.glo_ok X G (c.fact 6 (f := .glo "check_note") rfl)
  f_check_column := c.def_ 7 (d := d_f_check_column) rfl
  g_check_column := He.glo_ok X G (c.fact 7 (f := .glo "check_column") rfl)
  f_reached := c.def_ 8 (d := d_f_reached) rfl
  g_reached := He.glo_ok X G (c.fact 8 (f := .glo "reached") rfl)
  f_is_closing := c.def_ 9 (d := d_f_is_closing) rfl
  g_is_closing := He.glo_ok X G (c.fact 9 (f := .glo "is_closing") rfl)
  f_closing_after := c.def_ 10 (d := d_f_closing_after) rfl
  g_closing_after := He.glo_ok X G (c.fact 10 (f := .glo "closing_after") rfl)
  f_all_successions := c.def_ 11 (d := d_f_all_successions) rfl
  g_all_successions := He.glo_ok X G (c.fact 11 (f := .glo "all_successions") rfl)
  f_check_price := c.def_ 12 (d := d_f_check_price) rfl
  g_check_price := He.glo_ok X G (c.fact 12 (f := .glo "check_price") rfl)
  f_check_side := c.def_ 13 (d := d_f_check_side) rfl
  g_check_side := He.glo_ok X G (c.fact 13 (f := .glo "check_side") rfl)
  f_ends_of := c.def_ 14 (d := d_f_ends_of) rfl
  g_ends_of := He.glo_ok X G (c.fact 14 (f := .glo "ends_of") rfl)
  f_fewest := c.def_ 15 (d := d_f_fewest) rfl
  g_fewest := He.glo_ok X G (c.fact 15 (f := .glo "fewest") rfl)
  f_check_columns := c.def_ 16 (d := d_f_check_columns) rfl
  g_check_columns := He.glo_ok X G (c.fact 16 (f := .glo "check_columns") rfl)
  f_check_words := c.def_ 17 (d := d_f_check_words) rfl
  g_check_words := He.glo_ok X G (c.fact 17 (f := .glo "check_words") rfl)
  f__law_bag := c.def_ 18 (d := d_f__law_bag) rfl
  g__law_bag := He.glo_ok X G (c.fact 18 (f := .glo "_law_bag") rfl)
  f__law_take := c.def_ 19 (d := d_f__law_take) rfl
  g__law_take := He.glo_ok X G (c.fact 19 (f := .glo "_law_take") rfl)
  f__law_of := c.def_ 20 (d := d_f__law_of) rfl
  g__law_of := He.glo_ok X G (c.fact 20 (f := .glo "_law_of") rfl)
  f__law_names := c.def_ 21 (d := d_f__law_names) rfl
  g__law_names := He.glo_ok X G (c.fact 21 (f := .glo "_law_names") rfl)
  f__law_note := c.def_ 22 (d := d_f__law_note) rfl
  g__law_note := He.glo_ok X G (c.fact 22 (f := .glo "_law_note") rfl)
  f__law_deed := c.def_ 23 (d := d_f__law_deed) rfl
  g__law_deed := He.glo_ok X G (c.fact 23 (f := .glo "_law_deed") rfl)
  f__law_data := c.def_ 24 (d := d_f__law_data) rfl
  g__law_data := He.glo_ok X G (c.fact 24 (f := .glo "_law_data") rfl)
  f__law_note_of := c.def_ 25 (d := d_f__law_note_of) rfl
  g__law_note_of := He.glo_ok X G (c.fact 25 (f := .glo "_law_note_of") rfl)
  f__law_deed_of := c.def_ 26 (d := d_f__law_deed_of) rfl
  g__law_deed_of := He.glo_ok X G (c.fact 26 (f := .glo "_law_deed_of") rfl)
  f__law_book := c.def_ 27 (d := d_f__law_book) rfl
  g__law_book := He.glo_ok X G (c.fact 27 (f := .glo "_law_book") rfl)
  f__law_columns := c.def_ 28 (d := d_f__law_columns) rfl
  g__law_columns := He.glo_ok X G (c.fact 28 (f := .glo "_law_columns") rfl)
  f__law_reached := c.def_ 29 (d := d_f__law_reached) rfl
  g__law_reached := He.glo_ok X G (c.fact 29 (f := .glo "_law_reached") rfl)
  f__law_successions := c.def_ 30 (d := d_f__law_successions) rfl
  g__law_successions := He.glo_ok X G (c.fact 30 (f := .glo "_law_successions") rfl)
  f__law_sides := c.def_ 31 (d := d_f__law_sides) rfl
  g__law_sides := He.glo_ok X G (c.fact 31 (f := .glo "_law_sides") rfl)
  f__law_both := c.def_ 32 (d := d_f__law_both) rfl
  g__law_both := He.glo_ok X G (c.fact 32 (f := .glo "_law_both") rfl)
  f__law_tells := c.def_ 33 (d := d_f__law_tells) rfl
  g__law_tells := He.glo_ok X G (c.fact 33 (f := .glo "_law_tells") rfl)
  f__law_price := c.def_ 34 (d := d_f__law_price) rfl
  g__law_price := He.glo_ok X G (c.fact 34 (f := .glo "_law_price") rfl)
  f__law_priced := c.def_ 35 (d := d_f__law_priced) rfl
  g__law_priced := He.glo_ok X G (c.fact 35 (f := .glo "_law_priced") rfl)
  f__law_least := c.def_ 36 (d := d_f__law_least) rfl
  g__law_least := He.glo_ok X G (c.fact 36 (f := .glo "_law_least") rfl)
  f__law_moved := c.def_ 37 (d := d_f__law_moved) rfl
  g__law_moved := He.glo_ok X G (c.fact 37 (f := .glo "_law_moved") rfl)
  f_law := c.def_ 38 (d := d_f_law) rfl
  g_law := He.glo_ok X G (c.fact 38 (f := .glo "law") rfl)
  i_MOST_LETTERS := He.int_ok X G (c.fact 39 (f := .int "MOST_LETTERS" 8) rfl)
  i_MOST_WORDS := He.int_ok X G (c.fact 40 (f := .int "MOST_WORDS" 4) rfl)
  i_MOST_MOVES := He.int_ok X G (c.fact 41 (f := .int "MOST_MOVES" 4) rfl)
  i_MOST_COLUMNS := He.int_ok X G (c.fact 42 (f := .int "MOST_COLUMNS" 3) rfl)
  i_MOST_PRICE := He.int_ok X G (c.fact 43 (f := .int "MOST_PRICE" 1000000000) rfl)
  i_MOST_DEEDS := He.int_ok X G (c.fact 44 (f := .int "MOST_DEEDS" 8) rfl)
  i_MOST_STATES := He.int_ok X G (c.fact 45 (f := .int "MOST_STATES" 4) rfl)
  i_MOST_KEPT := He.int_ok X G (c.fact 46 (f := .int "MOST_KEPT" 3) rfl)
  i_LETTERS := He.str_ok X G (c.fact 47 (f := .str "LETTERS" "abcdefghijklmnopqrstuvwxyz") rfl)
  n_len := He.free_ok X G (c.fact 48 (f := .free "len") rfl)
  n_isinstance := He.free_ok X G (c.fact 49 (f := .free "isinstance") rfl)
  n_int := He.free_ok X G (c.fact 50 (f := .free "int") rfl)
  n_bool := He.free_ok X G (c.fact 51 (f := .free "bool") rfl)
  n_str := He.free_ok X G (c.fact 52 (f := .free "str") rfl)
  n_all := He.free_ok X G (c.fact 53 (f := .free "all") rfl)
  n_any := He.free_ok X G (c.fact 54 (f := .free "any") rfl)
  n_sum := He.free_ok X G (c.fact 55 (f := .free "sum") rfl)
  n_sorted := He.free_ok X G (c.fact 56 (f := .free "sorted") rfl)
  n_tuple := He.free_ok X G (c.fact 57 (f := .free "tuple") rfl)
  n_list := He.free_ok X G (c.fact 58 (f := .free "list") rfl)
  n_min := He.free_ok X G (c.fact 59 (f := .free "min") rfl)
  n_max := He.free_ok X G (c.fact 60 (f := .free "max") rfl)
  n_abs := He.free_ok X G (c.fact 61 (f := .free "abs") rfl)
  n_range := He.free_ok X G (c.fact 62 (f := .free "range") rfl)
  n_enumerate := He.free_ok X G (c.fact 63 (f := .free "enumerate") rfl)
  n_repr := He.free_ok X G (c.fact 64 (f := .free "repr") rfl)
  n_iter := He.free_ok X G (c.fact 65 (f := .free "iter") rfl)
  n_super := He.free_ok X G (c.fact 66 (f := .free "super") rfl)
  c_Note := He.cls_ok (c.fact 67 (f := .cls "Note") rfl)
  g_Note := He.glo_ok X G (c.fact 68 (f := .glo "Note") rfl)
  k_Note := He.mkr_ok (c.fact 69 (f := .mkr "Note") rfl)
  a_Note_old := He.noat_ok (c.fact 70 (f := .noat "Note" "old") rfl)
  a_Note_new := He.noat_ok (c.fact 71 (f := .noat "Note" "new") rfl)
  a_Note_named := He.noat_ok (c.fact 72 (f := .noat "Note" "named") rfl)
  a_Note_changed := He.noat_ok (c.fact 73 (f := .noat "Note" "changed") rfl)
  c_Make := He.cls_ok (c.fact 74 (f := .cls "Make") rfl)
  g_Make := He.glo_ok X G (c.fact 75 (f := .glo "Make") rfl)
  k_Make := He.mkr_ok (c.fact 76 (f := .mkr "Make") rfl)
  a_Make_name := He.noat_ok (c.fact 77 (f := .noat "Make" "name") rfl)
  a_Make_moves := He.noat_ok (c.fact 78 (f := .noat "Make" "moves") rfl)
  a_Make_columns := He.noat_ok (c.fact 79 (f := .noat "Make" "columns") rfl)
  a_Make_note := He.noat_ok (c.fact 80 (f := .noat "Make" "note") rfl)
  f_Make_allowed := c.def_ 39 (d := d_f_Make_allowed) rfl
  m_Make_allowed := He.meth_ok (c.fact 81 (f := .meth "Make" "allowed") rfl)
  f_Make_after := c.def_ 40 (d := d_f_Make_after) rfl
  m_Make_after := He.meth_ok (c.fact 82 (f := .meth "Make" "after") rfl)
  c_Change := He.cls_ok (c.fact 83 (f := .cls "Change") rfl)
  g_Change := He.glo_ok X G (c.fact 84 (f := .glo "Change") rfl)
  k_Change := He.mkr_ok (c.fact 85 (f := .mkr "Change") rfl)
  a_Change_name := He.noat_ok (c.fact 86 (f := .noat "Change" "name") rfl)
  a_Change_moves := He.noat_ok (c.fact 87 (f := .noat "Change" "moves") rfl)
  a_Change_columns := He.noat_ok (c.fact 88 (f := .noat "Change" "columns") rfl)
  a_Change_note := He.noat_ok (c.fact 89 (f := .noat "Change" "note") rfl)
  f_Change_allowed := c.def_ 41 (d := d_f_Change_allowed) rfl
  m_Change_allowed := He.meth_ok (c.fact 90 (f := .meth "Change" "allowed") rfl)
  f_Change_after := c.def_ 42 (d := d_f_Change_after) rfl
  m_Change_after := He.meth_ok (c.fact 91 (f := .meth "Change" "after") rfl)
  c_End := He.cls_ok (c.fact 92 (f := .cls "End") rfl)
  g_End := He.glo_ok X G (c.fact 93 (f := .glo "End") rfl)
  k_End := He.mkr_ok (c.fact 94 (f := .mkr "End") rfl)
  a_End_name := He.noat_ok (c.fact 95 (f := .noat "End" "name") rfl)
  a_End_moves := He.noat_ok (c.fact 96 (f := .noat "End" "moves") rfl)
  a_End_columns := He.noat_ok (c.fact 97 (f := .noat "End" "columns") rfl)
  a_End_note := He.noat_ok (c.fact 98 (f := .noat "End" "note") rfl)
  f_End_allowed := c.def_ 43 (d := d_f_End_allowed) rfl
  m_End_allowed := He.meth_ok (c.fact 99 (f := .meth "End" "allowed") rfl)
  f_End_after := c.def_ 44 (d := d_f_End_after) rfl
  m_End_after := He.meth_ok (c.fact 100 (f := .meth "End" "after") rfl)
  c_Prices := He.cls_ok (c.fact 101 (f := .cls "Prices") rfl)
  g_Prices := He.glo_ok X G (c.fact 102 (f := .glo "Prices") rfl)
  k_Prices := He.mkr_ok (c.fact 103 (f := .mkr "Prices") rfl)
  a_Prices_default := He.noat_ok (c.fact 104 (f := .noat "Prices" "default") rfl)
  a_Prices_set_prices := He.noat_ok (c.fact 105 (f := .noat "Prices" "set_prices") rfl)
  f_Prices_init := c.def_ 45 (d := d_f_Prices_init) rfl
  f_Prices_getitem := c.def_ 46 (d := d_f_Prices_getitem) rfl
  m_Prices_getitem := He.meth_ok (c.fact 106 (f := .meth "Prices" "__getitem__") rfl)
  f_Prices_setitem := c.def_ 47 (d := d_f_Prices_setitem) rfl
  m_Prices_setitem := He.meth_ok (c.fact 107 (f := .meth "Prices" "__setitem__") rfl)
  f_Prices_total := c.def_ 48 (d := d_f_Prices_total) rfl
  m_Prices_total := He.meth_ok (c.fact 108 (f := .meth "Prices" "total") rfl)
  c_Cover := He.cls_ok (c.fact 109 (f := .cls "Cover") rfl)
  g_Cover := He.glo_ok X G (c.fact 110 (f := .glo "Cover") rfl)
  k_Cover := He.mkr_ok (c.fact 111 (f := .mkr "Cover") rfl)
  a_Cover_column := He.noat_ok (c.fact 112 (f := .noat "Cover" "column") rfl)
  a_Cover_price := He.noat_ok (c.fact 113 (f := .noat "Cover" "price") rfl)
  a_Cover_sides := He.noat_ok (c.fact 114 (f := .noat "Cover" "sides") rfl)
  a_Cover_packing := He.noat_ok (c.fact 115 (f := .noat "Cover" "packing") rfl)
  f_Cover_init := c.def_ 49 (d := d_f_Cover_init) rfl
  c_Flow := He.cls_ok (c.fact 116 (f := .cls "Flow") rfl)
  g_Flow := He.glo_ok X G (c.fact 117 (f := .glo "Flow") rfl)
  k_Flow := He.mkr_ok (c.fact 118 (f := .mkr "Flow") rfl)
  a_Flow_pairs := He.noat_ok (c.fact 119 (f := .noat "Flow" "pairs") rfl)
  a_Flow_sent := He.noat_ok (c.fact 120 (f := .noat "Flow" "sent") rfl)
  a_Flow_room := He.noat_ok (c.fact 121 (f := .noat "Flow" "room") rfl)
  f_Flow_init := c.def_ 50 (d := d_f_Flow_init) rfl
  f_Flow_trails := c.def_ 51 (d := d_f_Flow_trails) rfl
  m_Flow_trails := He.meth_ok (c.fact 122 (f := .meth "Flow" "trails") rfl)
  f_Flow_grow := c.def_ 52 (d := d_f_Flow_grow) rfl
  m_Flow_grow := He.meth_ok (c.fact 123 (f := .meth "Flow" "grow") rfl)
  f_Flow_finish := c.def_ 53 (d := d_f_Flow_finish) rfl
  m_Flow_finish := He.meth_ok (c.fact 124 (f := .meth "Flow" "finish") rfl)
  c_Book := He.cls_ok (c.fact 125 (f := .cls "Book") rfl)
  g_Book := He.glo_ok X G (c.fact 126 (f := .glo "Book") rfl)
  k_Book := He.mkr_ok (c.fact 127 (f := .mkr "Book") rfl)
  a_Book_columns := He.noat_ok (c.fact 128 (f := .noat "Book" "columns") rfl)
  a_Book_states := He.noat_ok (c.fact 129 (f := .noat "Book" "states") rfl)
  a_Book_deeds := He.noat_ok (c.fact 130 (f := .noat "Book" "deeds") rfl)
  a_Book_names := He.noat_ok (c.fact 131 (f := .noat "Book" "names") rfl)
  a_Book_keep := He.noat_ok (c.fact 132 (f := .noat "Book" "keep") rfl)
  f_Book_iter := c.def_ 54 (d := d_f_Book_iter) rfl
  m_Book_iter := He.meth_ok (c.fact 133 (f := .meth "Book" "__iter__") rfl)
  f_Book_getitem := c.def_ 55 (d := d_f_Book_getitem) rfl
  m_Book_getitem := He.meth_ok (c.fact 134 (f := .meth "Book" "__getitem__") rfl)
  f_Book_writes := c.def_ 56 (d := d_f_Book_writes) rfl
  m_Book_writes := He.meth_ok (c.fact 135 (f := .meth "Book" "writes") rfl)
theorem tx2_of (X : K.In h) (G : h.Ns mainGlobals mg) (S : Says K h) : Tx2 R.prog K mg := by
  have c := S.a
  have x := S.x
  have cl := S.cl
  exact {
    toTx1 := {
      toTx0 := tx0_of X G c
      f_Deed_init := c.def_ 57 (d := d_f_Deed_init) rfl
      v_Note_init := hasA_of (c.def_ 58 (d := d_v_Note_init) rfl) (exAt x 0 rfl)
      v_Book_init := hasA_of (c.def_ 59 (d := d_v_Book_init) rfl) (exAt x 1 rfl)
      s_Make := sup_ok (clAt0 cl) (exAt x 34 rfl) (by decide +kernel) ⟨_, rfl, rfl⟩
      s_Change := sup_ok (clAt1 cl) (exAt x 35 rfl) (by decide +kernel) ⟨_, rfl, rfl⟩
      s_End := sup_ok (clAt2 cl) (exAt x 36 rfl) (by decide +kernel) ⟨_, rfl, rfl⟩
      r_Change := ⟨(exAt x 2 rfl), He.eqO_ok (exAt x 3 rfl)⟩
      m_Change_of := He5.cmet_of (exAt x 4 rfl) (exAt x 5 rfl)
      v_Change_of := hasA_of (c.def_ 60 (d := d_v_Change_of) rfl) (exAt x 5 rfl)
      r_End := ⟨(exAt x 6 rfl), He.eqO_ok (exAt x 7 rfl)⟩
      m_End_of := He5.cmet_of (exAt x 8 rfl) (exAt x 9 rfl)
      v_End_of := hasA_of (c.def_ 61 (d := d_v_End_of) rfl) (exAt x 9 rfl)
      r_Book := ⟨(exAt x 10 rfl), He.eqO_ok (exAt x 11 rfl)⟩
      m_Book_of := He5.cmet_of (exAt x 12 rfl) (exAt x 13 rfl)
      v_Book_of := hasA_of (c.def_ 62 (d := d_v_Book_of) rfl) (exAt x 13 rfl)
      t_get := He.eqO_ok (exAt x 14 rfl)
      t_takes := of_decide_eq_true (exAt x 15 rfl)
      t_Note := He.eqO_ok (exAt x 16 rfl)
      o_Note := of_decide_eq_true (exAt x 17 rfl)
      t_Make := He.eqO_ok (exAt x 18 rfl)
      o_Make := of_decide_eq_true (exAt x 19 rfl)
      t_Change := He.eqO_ok (exAt x 20 rfl)
      o_Change := of_decide_eq_true (exAt x 21 rfl)
      t_End := He.eqO_ok (exAt x 22 rfl)
      o_End := of_decide_eq_true (exAt x 23 rfl)
      x_Make_Make := of_decide_eq_true (exAt x 24 rfl)
      x_Make_Change := of_decide_eq_true (exAt x 25 rfl)
      x_Make_End := of_decide_eq_true (exAt x 26 rfl)
      x_Change_Make := of_decide_eq_true (exAt x 27 rfl)
      x_Change_Change := of_decide_eq_true (exAt x 28 rfl)
      x_Change_End := of_decide_eq_true (exAt x 29 rfl)
      x_End_Make := of_decide_eq_true (exAt x 30 rfl)
      x_End_Change := of_decide_eq_true (exAt x 31 rfl)
      x_End_End := of_decide_eq_true (exAt x 32 rfl)
    }
    f_Book_len := c.def_ 63 (d := d_f_Book_len) rfl
    m_Book_len := He.meth_ok (c.fact 136 (f := .meth "Book" "__len__") rfl)
    q_Prices := (exAt x 33 rfl)
  }
end
end K59
/-! H05 -/
set_option Elab.async false
set_option linter.all false
set_option maxRecDepth 100000
set_option maxHeartbeats 0
namespace K59
open PySem PySem.Spec PySem.W PyProof.Rows L2
theorem law_name : (HandSHeadRun.topDef R.prog 87).name = ("law" : Str) := by kernel_rfl
theorem roomA : Room 11 callerA := ⟨rfl, by decide, by decide⟩
theorem walk : WalkO qv loose (XL qv []) hk.says R.toRowW (HandSHeadRun.topDef R.prog 87) [] fun f vs => PySem.call f vs := by
  refine Att.attach_callB (l := PySem.Challenge.rw_pastnotes_k59_whole_no_cheaper_cover) (n := 63) rfl (by kernel_rfl) fun w s₀ s₁ mg mb fa o pm cd doc a vs ns G Y ho hd hcd hmg0 hobj hints hlen hbits hg => ?_
  obtain ⟨K, KX, S⟩ := Y
  have T : Tx2 R.prog K mg := tx2_of KX G.T.g S
  have hfa : fa = He.fAd K ("law", none) := by
    rw [law_name] at hmg0
    exact Value.ref.inj (Option.some.inj (hmg0.symm.trans T.g_law))
  subst hfa
  have hout : K.lookup (pB K) = none := by
    have z : (K.lookup (pB K)).isNone = true := exAt S.x 38 rfl
    cases q : K.lookup (pB K) with
    | none => rfl
    | some o =>
      rw [q] at z
      cases z
  have hcH : codeHdIn K (cB K) (pB K) = true := exAt S.x 37 rfl
  refine law_at (P := R.prog) (K := K) (c := cB K) (t := pB K) KX G.T.g G.T.b G.T.builtins G.T.nolimit hg S.em hout (codeHd_of_K KX hcH) G.T.bmain hobj hints (Nat.le_trans hlen (by decide)) fun base H KB NB TB e0 Ht Ha => ?_
  exact ok_law T ⟨hasC_of T.v_Book_init, TB⟩ roomA e0 (u := .ref a) (v := .ref a) rfl ⟨a, ns, rfl, Ha, hlen, fun p hp => by
    rw [List.mem_singleton.mp hp]
    exact LamX.TabS.nil Ht, fun _ => rfl⟩
end K59
open PySem PySem.W PySem.Calls PyProof.Rows
theorem PySem.Challenge.cw_pastnotes_k59_whole_no_cheaper_cover_holds : PySem.Challenge.rw_pastnotes_k59_whole_no_cheaper_cover.Holds := by
  w_on; o_law
  refine HandSHeadRun.head_any (r := OpenLaw.row PySem.Challenge.rw_pastnotes_k59_whole_no_cheaper_cover) (q := K59.qv) (H := K59.hk) (ob := K59.ob) (M := 12000) (loose := K59.loose) (d := HandSHeadRun.topDef (OpenLaw.row PySem.Challenge.rw_pastnotes_k59_whole_no_cheaper_cover).prog 87) (kwd := []) K59.ob_eq
    (by kernel_rfl) (fun s => by kernel_rfl) K59.run (by kernel_rfl) (by kernel_rfl) (by kernel_rfl) (by rfl) (by first | assumption | decide +kernel) (by decide +kernel) ⟨rfl, rfl, rfl, rfl, rfl, by decide +kernel⟩ ?hw ?hc
  case hw => w_witness2
  case hc => exact K59.walk
